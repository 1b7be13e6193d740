import PyProof.Rows.All
import Wide.All
import OpenK.AllK
import Wide.FinOn
import KE.OsRunLaw
import HandS.ForMost
import HandS.Lambda
import HandS.ExcInit
import HandS.Exc
import HandS.ForExc
import HandS.CallSlots
import HandS.Deep
import HandS.TupAny
import HandS.Text
import HandS.More
import HandS.Dict
import HandS.Small
import HandS.Sort
import HandS.IsInst
import HandS.TupLen
import HandS.Iter
import HandS.Zip
import HandS.Comp
import PyProof.ReprLen
import KE.KNestM
import HandS.Style
import HandS.Codes
import HandS.Defaults
import HandS.MakeKw
import HandS.MakeKwOnly
import HandS.ClsMeth
import HandS.Star
import HandS.Property
import HandS.OwnEq
import HandS.SortOrd
import HandS.SortRule
import HandS.Conv
import HandS.ListItems
import KE.KDictList
import HandS.DictComp
import HandS.SetBool
import HandS.SetFor
import HandS.Strs
import PyProof.DictUpdate
import PyProof.DictDisplay
import KE.KExcInit
import KE.KTryMore
import HandS.ExcField
import HandS.HotCalls
import KE.KDflt
import PyProof.ExcBaseAll.ValueError
import PyProof.ExcBaseAll.LookupError
import PyProof.ExcBaseAll.IndexError
import HandS.TupMul
import HandS.DictEq
import HandS.DeepEq
import HandS.TupLe
import HandS.FStr
import KE.KItemsList
import PyProof.GenQ
import PyProof.Rows.RowBridgeG
import HandS.GenCall
import HandS.GenList
import HandS.SortKw
import KE.KSortKeyAny
import KE.KUnpack
import HandS.DictTup
import HandS.Flow
import KE.KExcIs
import PySem.Challenge.RW_unmeant_k65_errors_made_by_hand
set_option Elab.async false
set_option linter.all false
set_option maxRecDepth 100000
set_option maxHeartbeats 4000000
section
open PySem PySem.W PyProof.Rows HeadRun
section
local macro_rules
  | `(tactic| refine $h:ident ($n:ident := $q) $args*) => `(tactic| exact (‹∀ P : Prop, P› _))
set_option maxRecDepth 100000 in
set_option maxHeartbeats 0 in
theorem Hd.pre (hF : ∀ P : Prop, P) : PySem.Challenge.rw_unmeant_k65_errors_made_by_hand.row.Holds := by
  k_headL
end
theorem Hd.sp {κ : Type} {p q : Program} {loose mods : List PySem.Str} {Xt : Shared → Bool} {G : SharedT → κ} {h0 : Heap} {kv : κ} {o : Option SharedT}
    (h1 : o.map (fun s => (looksF p h0 s.abs, (seenQ q loose mods Xt s.abs).2.1, (seenQ q loose mods Xt s.abs).2.2.2.2.1, (seenQ q loose mods Xt s.abs).2.2.2.2.2.2.1, (seenQ q loose mods Xt s.abs).2.2.2.2.2.2.2.2, G s)) = some (true, bltViewBooted, pinGoodD (drecsOf q), plainGoodD q loose, clsGoodW q loose, kv))
    (h2 : o.map (fun s => (seenQ q loose mods Xt s.abs).1) = some (expectedOf q))
    (h3 : o.map (fun s => ((seenQ q loose mods Xt s.abs).2.2.1, (seenQ q loose mods Xt s.abs).2.2.2.1)) = some (true, true))
    (h4 : o.map (fun s => (seenQ q loose mods Xt s.abs).2.2.2.2.2.1) = some (plainGoodE q (looseW q loose)))
    (h5 : o.map (fun s => (seenQ q loose mods Xt s.abs).2.2.2.2.2.2.2.1) = some (wideGood q)) : o.map (fun s => (looksF p h0 s.abs, seenQ q loose mods Xt s.abs, G s)) = some (true, openGood q loose, kv) := by
  cases o with
  | none => cases h2
  | some s =>
    simp only [Option.map_some, Option.some.injEq, Prod.mk.injEq] at *
    obtain ⟨q1, q2, q3, q4, q5, q6⟩ := h1
    refine ⟨q1, ?_, q6⟩
    show _ = (expectedOf q, bltViewBooted, true, true, pinGoodD (drecsOf q), plainGoodE q (looseW q loose), plainGoodD q loose, wideGood q, clsGoodW q loose)
    rw [← h2, ← q2, ← q3, ← h4, ← q4, ← h5, ← q5]
    obtain ⟨h3, h6⟩ := h3
    revert h3 h6
    generalize seenQ q loose mods Xt s.abs = z
    obtain ⟨z1, z2, z3, z4, z5, z6, z7, z8, z9⟩ := z
    rintro rfl rfl
    rfl
noncomputable abbrev Hd.lo : List PySem.Str := []
noncomputable abbrev Hd.Xt : Shared → Bool := fun s => xlAt Hd.pre.view_1 [] s && recOk (RowW.records PySem.Challenge.rw_unmeant_k65_errors_made_by_hand.row.toRowW) s
noncomputable abbrev Hd.end (w : World) (os : OsState) : Option SharedT := endF (stepQ (denQ tabQ) PySem.Challenge.pw_unmeant_k65_errors_made_by_hand w) 10170 PySem.Challenge.pw_unmeant_k65_errors_made_by_hand w os
noncomputable abbrev Hd.see (s : SharedT) := seenQ Hd.pre.view_1 Hd.lo (importedModules PySem.Challenge.pw_unmeant_k65_errors_made_by_hand.main.body) Hd.Xt s.abs
set_option maxRecDepth 100000 in
theorem Hd.l1 : ∀ (w : World) (os : OsState), (Hd.end w os).map (fun s => (looksF PySem.Challenge.pw_unmeant_k65_errors_made_by_hand (boot_heap w.params) s.abs, (Hd.see s).2.1, (Hd.see s).2.2.2.2.1, (Hd.see s).2.2.2.2.2.2.1, (Hd.see s).2.2.2.2.2.2.2.2, ((Hd.pre.heap_1 w.params).map (·.1)).map (getT s))) = some (true, bltViewBooted, pinGoodD (drecsOf Hd.pre.view_1), plainGoodD Hd.pre.view_1 Hd.lo, clsGoodW Hd.pre.view_1 Hd.lo, (Hd.pre.heap_1 w.params).map fun x => some x.2) := by
  intro w os; kernel_rfl
abbrev Hd.s1 (x : PyProof.Rows.Seen) : PyProof.Rows.Seen := { x with defs := [] }
theorem Hd.cut2 {s : Type} {o : Option s} {f : s → PyProof.Rows.Seen} {L : PyProof.Rows.Seen} (h1 : o.map (fun x => Hd.s1 (f x)) = some (Hd.s1 L)) (h2 : o.map (fun x => (f x).defs.take 30) = some (L.defs.take 30)) (h3 : o.map (fun x => (f x).defs.drop 30) = some (L.defs.drop 30)) : o.map f = some L := by
 cases o with
 | none => cases h1
 | some x =>
  have e1 : Hd.s1 (f x) = Hd.s1 L := Option.some.inj h1
  have e2 : (f x).defs.take 30 = L.defs.take 30 := Option.some.inj h2
  have e3 : (f x).defs.drop 30 = L.defs.drop 30 := Option.some.inj h3
  have e : (f x).defs = L.defs := by rw [← List.take_append_drop 30 (f x).defs, e2, e3, List.take_append_drop]
  have q : ∀ a b : PyProof.Rows.Seen, Hd.s1 a = Hd.s1 b → a.defs = b.defs → a = b := fun a b p r => by
   cases a
   cases b
   dsimp only at r
   subst r
   cases p
   rfl
  exact congrArg some (q _ _ e1 e)
set_option maxRecDepth 100000 in
theorem Hd.l2a : ∀ (w : World) (os : OsState), (Hd.end w os).map (fun s => Hd.s1 (Hd.see s).1) = some (Hd.s1 (expectedOf Hd.pre.view_1)) := by
 intro w os; kernel_rfl
set_option maxRecDepth 100000 in
theorem Hd.l2b : ∀ (w : World) (os : OsState), (Hd.end w os).map (fun s => (Hd.see s).1.defs.take 30) = some ((expectedOf Hd.pre.view_1).defs.take 30) := by
 intro w os; kernel_rfl
set_option maxRecDepth 100000 in
theorem Hd.l2c : ∀ (w : World) (os : OsState), (Hd.end w os).map (fun s => (Hd.see s).1.defs.drop 30) = some ((expectedOf Hd.pre.view_1).defs.drop 30) := by
 intro w os; kernel_rfl
theorem Hd.l2 : ∀ (w : World) (os : OsState), (Hd.end w os).map (fun s => (Hd.see s).1) = some (expectedOf Hd.pre.view_1) := fun w os => Hd.cut2 (Hd.l2a w os) (Hd.l2b w os) (Hd.l2c w os)
theorem Hd.two {s : Type} {a b : Type} {o : Option s} {f : s → a} {g : s → b} {x : a} {y : b} (h1 : o.map f = some x) (h2 : o.map g = some y) : o.map (fun s => (f s, g s)) = some (x, y) := by
  cases o with
  | none => cases h1
  | some s => simp_all
set_option maxRecDepth 100000 in
theorem Hd.l3a : ∀ (w : World) (os : OsState), (Hd.end w os).map (fun s => (Hd.see s).2.2.1) = some (true) := by
  intro w os; kernel_rfl
set_option maxRecDepth 100000 in
theorem Hd.l3b : ∀ (w : World) (os : OsState), (Hd.end w os).map (fun s => (Hd.see s).2.2.2.1) = some (true) := by
  intro w os; kernel_rfl
theorem Hd.l3 : ∀ (w : World) (os : OsState), (Hd.end w os).map (fun s => ((Hd.see s).2.2.1, (Hd.see s).2.2.2.1)) = some (true, true) := fun w os => Hd.two (Hd.l3a w os) (Hd.l3b w os)
noncomputable abbrev Hd.lw : List PySem.Str := []
set_option maxRecDepth 100000 in
theorem Hd.lwE : PySem.W.Fast.tw821141287760084731 Hd.pre.view_1 Hd.lo = Hd.lw := by kernel_rfl
set_option maxRecDepth 100000 in
theorem Hd.l4x : ∀ (w : World) (os : OsState), (Hd.end w os).map (fun s => PySem.W.Fast.tw2386780881361962483 Hd.pre.view_1 Hd.lw s.abs) = some (plainGoodE Hd.pre.view_1 Hd.lw) := by
  intro w os; kernel_rfl
theorem Hd.l4 : ∀ (w : World) (os : OsState), (Hd.end w os).map (fun s => (Hd.see s).2.2.2.2.2.1) = some (plainGoodE Hd.pre.view_1 (looseW Hd.pre.view_1 Hd.lo)) := fun w os => by
  have e : looseW Hd.pre.view_1 Hd.lo = Hd.lw := (congrFun (congrFun PySem.W.Fast.te821141287760084731 Hd.pre.view_1) Hd.lo).trans Hd.lwE
  rw [e]
  have e2 : (fun s : SharedT => (Hd.see s).2.2.2.2.2.1) = fun s => PySem.W.Fast.tw2386780881361962483 Hd.pre.view_1 Hd.lw s.abs := by
    funext s
    show PySem.W.Fast.tw2386780881361962483 Hd.pre.view_1 (PySem.W.Fast.tw821141287760084731 Hd.pre.view_1 Hd.lo) s.abs = _
    rw [Hd.lwE]
  rw [e2]
  exact Hd.l4x w os
set_option maxRecDepth 100000 in
theorem Hd.l5 : ∀ (w : World) (os : OsState), (Hd.end w os).map (fun s => (Hd.see s).2.2.2.2.2.2.2.1) = some (wideGood Hd.pre.view_1) := by
  intro w os; kernel_rfl
theorem Hd.all : ∀ (w : World) (os : OsState), (Hd.end w os).map (fun s => (looksF PySem.Challenge.pw_unmeant_k65_errors_made_by_hand (boot_heap w.params) s.abs, Hd.see s, ((Hd.pre.heap_1 w.params).map (·.1)).map (getT s))) = some (true, openGood Hd.pre.view_1 Hd.lo, (Hd.pre.heap_1 w.params).map fun x => some x.2) := fun w os => Hd.sp (Hd.l1 w os) (Hd.l2 w os) (Hd.l3 w os) (Hd.l4 w os) (Hd.l5 w os)
end

namespace Mn
open PySem PySem.Spec PyProof.Rows L2

/-- data, by value -/
inductive D where
  | non | bl (b : Bool) | int (i : Int) | str (x : Str)
  | tup (ds : List D) | ctp (ds : List D) | lst (ds : List D) | frz (ds : List D) | dic (t : Bool) (kvs : List (D × D)) | ins (c : Str) (fs : List (Str × D)) | ty (n : String) | cls (n : Str) | fdc (t : Bool) (kvs : List (D × D)) | exc (c : Str) (fs : List (Str × D))
  deriving Inhabited

/-- a value: data, or a thing that may change -/
inductive W where
  | d (x : D) | ref (k : Nat)
  deriving Inhabited
/-- a thing that may change -/
inductive VO where
  | lst (ds : List D) | dic (t : Bool) (kvs : List (D × D)) | ins (c : Str) (fs : List (Str × W)) | dead | lsw (ws : List W) | tpw (ws : List W)
  deriving Inhabited
abbrev VH := List VO
/-- the tables of code objects that lambdas write -/
class TabList where
  T : List (Addr × Str)
structure Exn where
  cls : Str
  fs : List (Str × D)
inductive Res (α : Type) where
  | ok (a : α) (h : VH) | exn (x : Exn) (h : VH) | stuck
abbrev Rho := List (Option Addr)
abbrev Env := List (Option W)

/-- the text's constants: the written part, the module's names -/
structure Cn where
  K : PySem.W.Frag
  mg : Str → Option Value
  /-- lists that a comprehension is making -/
  hid : List Addr

variable [TL : TabList]
/-- free to be told by value -/
def Off (c : Cn) (ρ : Rho) (a : Addr) : Prop := some a ∉ ρ ∧ a ∉ c.hid

def LOk (c : Cn) (H : Hp) (ρ : Rho) (a : Addr) (xs : List V) : Prop :=
  (Off c ρ a ∧ Rd H a (.lst xs)) ∨
    ∃ (o : Obj) (its : Array Value) (n : Nat), c.K.lookup a = some o ∧ o.cls = .type "list" ∧ o.dict = none ∧ o.data = .seq its n ∧ its.size ≤ sizeLine ∧ Vals xs its.toList
def TOk (c : Cn) (a : Addr) (xs : List V) : Prop :=
  ∃ (o : Obj) (its : Array Value) (n : Nat), c.K.lookup a = some o ∧ o.cls = .type "tuple" ∧ o.data = .seq its n ∧ its.size ≤ sizeLine ∧ Vals xs its.toList
theorem LOk.sq {c : Cn} {H : Hp} {ρ : Rho} {a : Addr} {xs : List V} (h : LOk c H ρ a xs) : SqL c.K H a xs := h.elim (fun z => .inl z.2) .inr
theorem TOk.sq {c : Cn} {H : Hp} {a : Addr} {xs : List V} (h : TOk c a xs) : SqT c.K H a xs := .inr h

/-- a key of a dict of data -/
def wM : D → Option Key
  | .int i => some (.inl i)
  | .str x => some (.inr x)
  | _ => none
def aB8 : List D → Option (List Key)
  | [] => some []
  | d :: r => match wM d, aB8 r with
    | some k, some ks => some (k :: ks)
    | _, _ => none
def wD : D → Option (List Key)
  | .tup ds => aB8 ds
  | _ => none
def rG : List (D × D) → Option (List Key)
  | [] => some []
  | (k, _) :: r => match wM k, rG r with
    | some k, some ks => some (k :: ks)
    | _, _ => none
def vA : List (D × D) → Option (List (List Key))
  | [] => some []
  | (k, _) :: r => match wD k, vA r with
    | some k, some ks => some (k :: ks)
    | _, _ => none

/-- a dict stands at a: its keys are ints and texts, or (t) tuples of such -/
def HDic (H : Hp) (a : Addr) (t : Bool) (kvs : List (D × D)) (xs : List V) : Prop := match t with
  | false => ∃ ks, rG kvs = some ks ∧ H a = some (.dK (ks.zip xs))
  | true => ∃ ks, vA kvs = some ks ∧ H a = some (.dT (ks.zip xs))
theorem HDic.to {H H' : Hp} {a : Addr} {t : Bool} {kvs : List (D × D)} {xs : List V} (h : HDic H a t kvs xs) (k : ∀ o, H a = some o → (∀ ps, o ≠ .tbl ps) → H' a = some o) : HDic H' a t kvs xs := by
  cases t with
  | false => obtain ⟨ks, h1, h2⟩ := h; exact ⟨ks, h1, k _ h2 (fun ps z => nomatch z)⟩
  | true => obtain ⟨ks, h1, h2⟩ := h; exact ⟨ks, h1, k _ h2 (fun ps z => nomatch z)⟩
theorem HDic.ex {H : Hp} {a : Addr} {t : Bool} {kvs : List (D × D)} {xs : List V} (h : HDic H a t kvs xs) : ∃ o, H a = some o := by
  cases t with
  | false => obtain ⟨ks, h1, h2⟩ := h; exact ⟨_, h2⟩
  | true => obtain ⟨ks, h1, h2⟩ := h; exact ⟨_, h2⟩
/-- a locked dict stands at a -/
def HFrz (H : Hp) (a : Addr) (t : Bool) (kvs : List (D × D)) (xs : List V) : Prop := match t with
  | false => ∃ ks od, rG kvs = some ks ∧ H a = some (.frz od (.dK (ks.zip xs)))
  | true => ∃ ks od, vA kvs = some ks ∧ H a = some (.frz od (.dT (ks.zip xs)))
theorem HFrz.to {H H' : Hp} {a : Addr} {t : Bool} {kvs : List (D × D)} {xs : List V} (h : HFrz H a t kvs xs) (k : ∀ o, H a = some o → (∀ ps, o ≠ .tbl ps) → H' a = some o) : HFrz H' a t kvs xs := by
  cases t with
  | false => obtain ⟨ks, od, h1, h2⟩ := h; exact ⟨ks, od, h1, k _ h2 (fun ps z => nomatch z)⟩
  | true => obtain ⟨ks, od, h1, h2⟩ := h; exact ⟨ks, od, h1, k _ h2 (fun ps z => nomatch z)⟩
theorem HFrz.ex {H : Hp} {a : Addr} {t : Bool} {kvs : List (D × D)} {xs : List V} (h : HFrz H a t kvs xs) : ∃ o, H a = some o := by
  cases t with
  | false => obtain ⟨ks, od, h1, h2⟩ := h; exact ⟨_, h2⟩
  | true => obtain ⟨ks, od, h1, h2⟩ := h; exact ⟨_, h2⟩
/-- no tuple that may be a key -/
def NkO (o : HO) : Prop := ∀ xs, o = .tup xs → ∃ x ∈ xs, ∃ a, x = V.ref a
theorem NkO.of {o : HO} (nt : ∀ xs, o ≠ .tup xs) : NkO o := fun xs e => absurd e (nt xs)
theorem HDic.nt {H : Hp} {a : Addr} {t : Bool} {kvs : List (D × D)} {xs : List V} (h : HDic H a t kvs xs) : ∀ ys, H a ≠ some (.tup ys) := fun ys z => by
  cases t with
  | false => obtain ⟨ks, _, h2⟩ := h; rw [h2] at z; cases z
  | true => obtain ⟨ks, _, h2⟩ := h; rw [h2] at z; cases z
mutual
def RelD (c : Cn) (H : Hp) (ρ : Rho) : D → V → Prop
  | .non, v => v = .non
  | .bl b, v => v = .bl b
  | .int i, v => v = .int i
  | .str x, v => v = .str x ∧ x.length ≤ sizeLine ∧ PyData.strOk x = true
  | .tup ds, v => ∃ a xs, v = .ref a ∧ Off c ρ a ∧ H a = some (.tup xs) ∧ ds.length ≤ sizeLine ∧ RelDs c H ρ ds xs
  | .ctp ds, v => ∃ a xs, v = .ref a ∧ TOk c a xs ∧ ds.length ≤ sizeLine ∧ RelDs c H ρ ds xs
  | .lst ds, v => ∃ a xs, v = .ref a ∧ Off c ρ a ∧ H a = some (.lst xs) ∧ ds.length ≤ sizeLine ∧ RelDs c H ρ ds xs
  | .frz ds, v => ∃ a xs, v = .ref a ∧ LOk c H ρ a xs ∧ ds.length ≤ sizeLine ∧ RelDs c H ρ ds xs
  | .dic t kvs, v => ∃ a xs, v = .ref a ∧ Off c ρ a ∧ HDic H a t kvs xs ∧ RelDv c H ρ kvs xs
  | .ins n fs, v => ∃ a C dx xs, v = .ref a ∧ Off c ρ a ∧ c.mg n = some (.ref C) ∧ H a = some (.ins C dx ((fs.map (·.1)).zip xs)) ∧ RelDf c H ρ fs xs
  | .ty n, v => v = .ty n
  | .cls n, v => ∃ C, v = .ref C ∧ c.mg n = some (.ref C)
  | .fdc t kvs, v => ∃ a xs, v = .ref a ∧ Off c ρ a ∧ HFrz H a t kvs xs ∧ RelDv c H ρ kvs xs
  | .exc n fs, v => ∃ a C dx xs, v = .ref a ∧ Off c ρ a ∧ Off c ρ dx ∧ c.mg n = some (.ref C) ∧ H a = some (exo a C (some dx)) ∧ H dx = some (exd dx ((fs.map (·.1)).zip xs)) ∧ RelDf c H ρ fs xs
def RelDs (c : Cn) (H : Hp) (ρ : Rho) : List D → List V → Prop
  | [], [] => True
  | d :: ds, v :: vs => RelD c H ρ d v ∧ RelDs c H ρ ds vs
  | _, _ => False
def RelDv (c : Cn) (H : Hp) (ρ : Rho) : List (D × D) → List V → Prop
  | [], [] => True
  | (_, d) :: ds, v :: vs => RelD c H ρ d v ∧ RelDv c H ρ ds vs
  | _, _ => False
def RelDf (c : Cn) (H : Hp) (ρ : Rho) : List (Str × D) → List V → Prop
  | [], [] => True
  | (_, d) :: ds, v :: vs => RelD c H ρ d v ∧ RelDf c H ρ ds vs
  | _, _ => False
end
def RelW (c : Cn) (H : Hp) (ρ : Rho) : W → V → Prop
  | .d x, v => RelD c H ρ x v
  | .ref k, v => k < ρ.length ∧ ∀ a, ρ[k]? = some (some a) → v = .ref a
def RelWs (c : Cn) (H : Hp) (ρ : Rho) : List W → List V → Prop
  | [], [] => True
  | w :: ws, v :: vs => RelW c H ρ w v ∧ RelWs c H ρ ws vs
  | _, _ => False
def RelWf (c : Cn) (H : Hp) (ρ : Rho) : List (Str × W) → List V → Prop
  | [], [] => True
  | (_, w) :: ws, v :: vs => RelW c H ρ w v ∧ RelWf c H ρ ws vs
  | _, _ => False
/-- the frame's slots: a slot that the mirror does not know may hold anything -/
def RelE (c : Cn) (H : Hp) (ρ : Rho) : Env → L2.St → Prop
  | [], [] => True
  | some w :: e, some v :: σ => RelW c H ρ w v ∧ RelE c H ρ e σ
  | none :: e, _ :: σ => RelE c H ρ e σ
  | _, _ => False
def RelO (c : Cn) (H : Hp) (ρ : Rho) : VO → Option Addr → Prop
  | .dead, o => o = none
  | .lst ds, o => ∃ a xs, o = some a ∧ H a = some (.lst xs) ∧ ds.length ≤ sizeLine ∧ RelDs c H ρ ds xs
  | .dic t kvs, o => ∃ a xs, o = some a ∧ HDic H a t kvs xs ∧ RelDv c H ρ kvs xs
  | .ins n fs, o => ∃ a C dx xs, o = some a ∧ c.mg n = some (.ref C) ∧ H a = some (.ins C dx ((fs.map (·.1)).zip xs)) ∧ RelWf c H ρ fs xs
  | .lsw ws, o => ∃ a xs, o = some a ∧ H a = some (.lst xs) ∧ ws.length ≤ sizeLine ∧ RelWs c H ρ ws xs
  | .tpw ws, o => ∃ a xs, o = some a ∧ H a = some (.tup xs) ∧ ws.length ≤ sizeLine ∧ (∃ x ∈ xs, ∃ b, x = V.ref b) ∧ RelWs c H ρ ws xs
/-- the tables of code objects, told and free -/
def TabO (c : Cn) (H : Hp) (ρ : Rho) : Prop := ∀ p ∈ TL.T, ∃ ps : Array Value, H p.1 = some (.tbl ps) ∧ Off c ρ p.1 ∧ TriplesOk ps.toList ∧ ∀ (pos : Pos) (cv : Value), codeAmong pos ps.toList = some cv → ∃ d, cv = .ref d ∧ Off c ρ d ∧ H d = some (LamX.CodeO d p.2)
structure RelH (c : Cn) (H : Hp) (ρ : Rho) (vh : VH) : Prop where
  len : ρ.length = vh.length
  inj : ∀ (i j : Nat) (a : Addr), ρ[i]? = some (some a) → ρ[j]? = some (some a) → i = j
  at' : ∀ (i : Nat) (vo : VO), vh[i]? = some vo → ∃ o, ρ[i]? = some o ∧ RelO c H ρ vo o
  hid : ∀ a, a ∈ c.hid → (∃ o, H a = some o ∧ NkO o) ∧ some a ∉ ρ
  tab : TabO c H ρ

/-- what is not in ρ stays -/
def Fm (H H' : Hp) (ρ : Rho) : Prop := (∀ a o, some a ∉ ρ → H a = some o → H' a = some o ∨ ∃ ps more : Array Value, o = .tbl ps ∧ H' a = some (.tbl (ps ++ more))) ∧ ∀ a xs, H a = some (.tup xs) → H' a = some (.tup xs)
theorem Fm.at {H H' : Hp} {ρ : Rho} (f : Fm H H' ρ) {a : Addr} {o : HO} (n : some a ∉ ρ) (h : H a = some o) (nt : ∀ ps, o ≠ .tbl ps) : H' a = some o := (f.1 a o n h).elim id fun ⟨ps, _, e, _⟩ => (nt ps e).elim
theorem Fm.ex {H H' : Hp} {ρ : Rho} (f : Fm H H' ρ) {a : Addr} {o : HO} (n : some a ∉ ρ) (h : H a = some o) : ∃ o', H' a = some o' := (f.1 a o n h).elim (fun z => ⟨_, z⟩) fun ⟨_, _, _, z⟩ => ⟨_, z⟩
theorem Fm.of {H H' : Hp} {ρ : Rho} (f : ∀ a o, some a ∉ ρ → H a = some o → H' a = some o) (t : ∀ a xs, H a = some (.tup xs) → H' a = some (.tup xs)) : Fm H H' ρ := ⟨fun a o n h => .inl (f a o n h), t⟩
/-- .. nor hidden -/
def Fw (c : Cn) (H H' : Hp) (ρ : Rho) : Prop := ∀ a o, Off c ρ a → H a = some o → (∀ ps, o ≠ .tbl ps) → H' a = some o
/-- ρ grows by new places; some places may be given up -/
structure Grow (ρ : Rho) (H : Hp) (ρ' : Rho) : Prop where
  len : ρ.length ≤ ρ'.length
  old : ∀ i, i < ρ.length → ρ'[i]? = ρ[i]? ∨ ρ'[i]? = some none
  new : ∀ a, some a ∈ ρ' → some a ∈ ρ ∨ H a = none

theorem Grow.refl (ρ : Rho) (H : Hp) : Grow ρ H ρ := ⟨Nat.le_refl _, fun _ _ => .inl rfl, fun _ h => .inl h⟩
theorem Fm.refl (H : Hp) (ρ : Rho) : Fm H H ρ := .of (fun _ _ _ h => h) fun _ _ h => h
theorem Grow.trans {ρ ρ1 ρ2 : Rho} {H H1 : Hp} (a : Grow ρ H ρ1) (f : Fm H H1 ρ) (b : Grow ρ1 H1 ρ2) : Grow ρ H ρ2 where
  len := Nat.le_trans a.len b.len
  old := fun i hi => by
    rcases b.old i (Nat.lt_of_lt_of_le hi a.len) with h | h
    · rw [h]; exact a.old i hi
    · exact .inr h
  new := fun x hx => by
    by_cases h : some x ∈ ρ
    · exact .inl h
    · rcases b.new x hx with h1 | h1
      · exact a.new x h1
      · cases q : H x with
        | none => exact .inr rfl
        | some o => obtain ⟨o', z⟩ := f.ex h q; rw [z] at h1; cases h1
theorem Fm.trans {ρ ρ1 : Rho} {H H1 H2 : Hp} (a : Grow ρ H ρ1) (f : Fm H H1 ρ) (g : Fm H1 H2 ρ1) : Fm H H2 ρ := ⟨fun x o hx h => by
  have nx : some x ∉ ρ1 := fun z => by
    rcases a.new x z with h1 | h1
    · exact hx h1
    · rw [h] at h1; cases h1
  rcases f.1 x o hx h with h1 | ⟨ps, more, rfl, h1⟩
  · exact g.1 x o nx h1
  · rcases g.1 x _ nx h1 with h2 | ⟨ps2, more2, e, h2⟩
    · exact .inr ⟨ps, more, rfl, h2⟩
    · cases e
      exact .inr ⟨ps, more ++ more2, rfl, by rw [h2, Array.append_assoc]⟩, fun x xs h => g.2 x xs (f.2 x xs h)⟩

section
variable {c : Cn} {H H' : Hp} {ρ ρ' : Rho}
theorem Grow.not (g : Grow ρ H ρ') {a : Addr} {o : HO} (h : Off c ρ a) (e : H a = some o) : Off c ρ' a := by
  refine ⟨fun z => ?_, h.2⟩
  rcases g.new a z with h1 | h1
  · exact h.1 h1
  · rw [e] at h1; cases h1
theorem Fm.w (f : Fm H H' ρ) : Fw c H H' ρ := fun a o h e nt => f.at h.1 e nt
theorem Rd.fr (f : Fw c H H' ρ) {a : Addr} {u : HO} (h : Off c ρ a) (nt : ∀ ps, u ≠ .tbl ps) (r : Rd H a u) : Rd H' a u := by
  rcases r with r | ⟨o, r⟩
  · exact .inl (f a _ h r nt)
  · exact .inr ⟨o, f a _ h r (fun ps z => nomatch z)⟩
theorem LOk.stayw (g : Grow ρ H ρ') (f : Fw c H H' ρ) {a : Addr} {xs : List V} (h : LOk c H ρ a xs) : LOk c H' ρ' a xs := by
  rcases h with ⟨n, r⟩ | h
  · refine .inl ⟨?_, Rd.fr f n (fun ps z => nomatch z) r⟩
    rcases r with r | ⟨o, r⟩
    · exact g.not n r
    · exact g.not n r
  · exact .inr h
mutual
theorem RelD.stayw (g : Grow ρ H ρ') (f : Fw c H H' ρ) : ∀ {x : D} {v : V}, RelD c H ρ x v → RelD c H' ρ' x v
  | .non, _, h => h
  | .bl _, _, h => h
  | .int _, _, h => h
  | .str _, _, h => h
  | .tup _, _, ⟨a, xs, e, n, hH, l, r⟩ => ⟨a, xs, e, g.not n hH, f a _ n hH (fun ps z => nomatch z), l, RelDs.stayw g f r⟩
  | .ctp _, _, ⟨a, xs, e, t, l, r⟩ => ⟨a, xs, e, t, l, RelDs.stayw g f r⟩
  | .lst _, _, ⟨a, xs, e, n, hH, l, r⟩ => ⟨a, xs, e, g.not n hH, f a _ n hH (fun ps z => nomatch z), l, RelDs.stayw g f r⟩
  | .frz _, _, ⟨a, xs, e, t, l, r⟩ => ⟨a, xs, e, t.stayw g f, l, RelDs.stayw g f r⟩
  | .dic _ _, _, ⟨a, xs, e, n, hH, r⟩ => ⟨a, xs, e, let ⟨_, hs⟩ := hH.ex; g.not n hs, hH.to fun o q nt => f a o n q nt, RelDv.stayw g f r⟩
  | .ins _ _, _, ⟨a, C, dx, xs, e, n, hm, hH, r⟩ => ⟨a, C, dx, xs, e, g.not n hH, hm, f a _ n hH (fun ps z => nomatch z), RelDf.stayw g f r⟩
  | .ty _, _, h => h
  | .cls _, _, h => h
  | .fdc _ _, _, ⟨a, xs, e, n, hH, r⟩ => ⟨a, xs, e, let ⟨_, hs⟩ := hH.ex; g.not n hs, hH.to fun o q nt => f a o n q nt, RelDv.stayw g f r⟩
  | .exc _ _, _, ⟨a, C, dx, xs, e, n, n2, hm, hH, hD, r⟩ => ⟨a, C, dx, xs, e, g.not n hH, g.not n2 hD, hm, f a _ n hH (fun ps z => nomatch z), f dx _ n2 hD (fun ps z => nomatch z), RelDf.stayw g f r⟩
theorem RelDs.stayw (g : Grow ρ H ρ') (f : Fw c H H' ρ) : ∀ {xs : List D} {vs : List V}, RelDs c H ρ xs vs → RelDs c H' ρ' xs vs
  | [], [], h => trivial
  | _ :: _, _ :: _, ⟨h, t⟩ => ⟨RelD.stayw g f h, RelDs.stayw g f t⟩
theorem RelDv.stayw (g : Grow ρ H ρ') (f : Fw c H H' ρ) : ∀ {xs : List (D × D)} {vs : List V}, RelDv c H ρ xs vs → RelDv c H' ρ' xs vs
  | [], [], h => trivial
  | (_, _) :: _, _ :: _, ⟨h, t⟩ => ⟨RelD.stayw g f h, RelDv.stayw g f t⟩
theorem RelDf.stayw (g : Grow ρ H ρ') (f : Fw c H H' ρ) : ∀ {xs : List (Str × D)} {vs : List V}, RelDf c H ρ xs vs → RelDf c H' ρ' xs vs
  | [], [], h => trivial
  | (_, _) :: _, _ :: _, ⟨h, t⟩ => ⟨RelD.stayw g f h, RelDf.stayw g f t⟩
end
theorem RelW.stayw (g : Grow ρ H ρ') (f : Fw c H H' ρ) : ∀ {w : W} {v : V}, RelW c H ρ w v → RelW c H' ρ' w v
  | .d _, _, h => RelD.stayw g f h
  | .ref k, _, ⟨h1, h2⟩ => ⟨Nat.lt_of_lt_of_le h1 g.len, fun a ha => by
      rcases g.old k h1 with e | e
      · exact h2 a (e ▸ ha)
      · rw [e] at ha; cases ha⟩
theorem RelWs.stayw (g : Grow ρ H ρ') (f : Fw c H H' ρ) : ∀ {xs : List W} {vs : List V}, RelWs c H ρ xs vs → RelWs c H' ρ' xs vs
  | [], [], h => trivial
  | _ :: _, _ :: _, ⟨h, t⟩ => ⟨RelW.stayw g f h, RelWs.stayw g f t⟩
theorem RelWf.stayw (g : Grow ρ H ρ') (f : Fw c H H' ρ) : ∀ {xs : List (Str × W)} {vs : List V}, RelWf c H ρ xs vs → RelWf c H' ρ' xs vs
  | [], [], h => trivial
  | (_, _) :: _, _ :: _, ⟨h, t⟩ => ⟨RelW.stayw g f h, RelWf.stayw g f t⟩
theorem RelE.stayw (g : Grow ρ H ρ') (f : Fw c H H' ρ) : ∀ {e : Env} {σ : L2.St}, RelE c H ρ e σ → RelE c H' ρ' e σ
  | [], [], h => trivial
  | some _ :: _, some _ :: _, ⟨h, t⟩ => ⟨RelW.stayw g f h, RelE.stayw g f t⟩
  | none :: e, _ :: σ, t => RelE.stayw (e := e) (σ := σ) g f t
theorem RelDs.length : ∀ {xs : List D} {vs : List V}, RelDs c H ρ xs vs → xs.length = vs.length
  | [], [], _ => rfl
  | _ :: _, _ :: _, ⟨_, t⟩ => congrArg (· + 1) (RelDs.length t)
theorem RelWs.length : ∀ {xs : List W} {vs : List V}, RelWs c H ρ xs vs → xs.length = vs.length
  | [], [], _ => rfl
  | _ :: _, _ :: _, ⟨_, t⟩ => congrArg (· + 1) (RelWs.length t)
theorem RelE.length : ∀ {e : Env} {σ : L2.St}, RelE c H ρ e σ → e.length = σ.length
  | [], [], _ => rfl
  | some _ :: _, some _ :: _, ⟨_, t⟩ => congrArg (· + 1) (RelE.length t)
  | none :: e, _ :: σ, t => congrArg (· + 1) (RelE.length (e := e) (σ := σ) t)
theorem RelE.get : ∀ {e : Env} {σ : L2.St} {i : Nat} {w : W}, RelE c H ρ e σ → e[i]? = some (some w) → ∃ v, σ[i]? = some (some v) ∧ RelW c H ρ w v
  | [], [], _, _, _, q => by simp at q
  | some w :: e, some v :: σ, 0, _, ⟨h, _⟩, q => by simp at q; subst q; exact ⟨v, rfl, h⟩
  | some w :: e, some v :: σ, i + 1, _, ⟨_, t⟩, q => by simpa using RelE.get (i := i) t (by simpa using q)
  | none :: e, v :: σ, 0, _, _, q => by simp at q
  | none :: e, v :: σ, i + 1, _, t, q => by simpa using RelE.get (i := i) (e := e) (σ := σ) t (by simpa using q)
theorem RelE.set {w : W} {v : V} (r : RelW c H ρ w v) : ∀ {e : Env} {σ : L2.St} {i : Nat}, RelE c H ρ e σ → RelE c H ρ (e.set i (some w)) (σ.set i (some v))
  | [], [], _, _ => trivial
  | some _ :: e, some _ :: σ, 0, ⟨_, t⟩ => ⟨r, t⟩
  | some _ :: e, some _ :: σ, i + 1, ⟨h, t⟩ => ⟨h, RelE.set r t⟩
  | none :: e, _ :: σ, 0, t => ⟨r, t⟩
  | none :: e, _ :: σ, i + 1, t => RelE.set (e := e) (σ := σ) r t
theorem RelDs.get : ∀ {xs : List D} {vs : List V} {i : Nat} {x : D}, RelDs c H ρ xs vs → xs[i]? = some x → ∃ v, vs[i]? = some v ∧ RelD c H ρ x v
  | [], [], _, _, _, q => by simp at q
  | x :: xs, v :: vs, 0, _, ⟨h, _⟩, q => by simp at q; subst q; exact ⟨v, rfl, h⟩
  | x :: xs, v :: vs, i + 1, _, ⟨_, t⟩, q => by simpa using RelDs.get (i := i) t (by simpa using q)
theorem RelDs.get' : ∀ {xs : List D} {vs : List V} {i : Nat} {v : V}, RelDs c H ρ xs vs → vs[i]? = some v → ∃ x, xs[i]? = some x ∧ RelD c H ρ x v
  | [], [], _, _, _, q => by simp at q
  | x :: xs, v :: vs, 0, _, ⟨h, _⟩, q => by simp at q; subst q; exact ⟨x, rfl, h⟩
  | x :: xs, v :: vs, i + 1, _, ⟨_, t⟩, q => by simpa using RelDs.get' (i := i) t (by simpa using q)
theorem RelDs.append : ∀ {xs ys : List D} {vs us : List V}, RelDs c H ρ xs vs → RelDs c H ρ ys us → RelDs c H ρ (xs ++ ys) (vs ++ us)
  | [], _, [], _, _, s => s
  | _ :: _, _, _ :: _, _, ⟨h, t⟩, s => ⟨h, RelDs.append t s⟩
theorem RelDs.set {x : D} {v : V} (r : RelD c H ρ x v) : ∀ {xs : List D} {vs : List V} {i : Nat}, RelDs c H ρ xs vs → RelDs c H ρ (xs.set i x) (vs.set i v)
  | [], [], _, _ => trivial
  | _ :: _, _ :: _, 0, ⟨_, t⟩ => ⟨r, t⟩
  | _ :: _, _ :: _, i + 1, ⟨h, t⟩ => ⟨h, RelDs.set r t⟩
theorem RelDs.take : ∀ {xs : List D} {vs : List V} (n : Nat), RelDs c H ρ xs vs → RelDs c H ρ (xs.take n) (vs.take n)
  | [], [], n, _ => by simp; trivial
  | _ :: _, _ :: _, 0, _ => trivial
  | _ :: _, _ :: _, n + 1, ⟨h, t⟩ => ⟨h, RelDs.take n t⟩
theorem RelDs.drop : ∀ {xs : List D} {vs : List V} (n : Nat), RelDs c H ρ xs vs → RelDs c H ρ (xs.drop n) (vs.drop n)
  | [], [], n, _ => by simp; trivial
  | _ :: _, _ :: _, 0, h => h
  | _ :: _, _ :: _, n + 1, ⟨_, t⟩ => RelDs.drop n t
theorem LOk.stay (g : Grow ρ H ρ') (f : Fm H H' ρ) {a : Addr} {xs : List V} (h : LOk c H ρ a xs) : LOk c H' ρ' a xs := h.stayw g f.w
theorem RelD.stay (g : Grow ρ H ρ') (f : Fm H H' ρ) {x : D} {v : V} (h : RelD c H ρ x v) : RelD c H' ρ' x v := RelD.stayw g f.w h
theorem RelDs.stay (g : Grow ρ H ρ') (f : Fm H H' ρ) {x : List D} {v : List V} (h : RelDs c H ρ x v) : RelDs c H' ρ' x v := RelDs.stayw g f.w h
theorem RelDv.stay (g : Grow ρ H ρ') (f : Fm H H' ρ) {x : List (D × D)} {v : List V} (h : RelDv c H ρ x v) : RelDv c H' ρ' x v := RelDv.stayw g f.w h
theorem RelDf.stay (g : Grow ρ H ρ') (f : Fm H H' ρ) {x : List (Str × D)} {v : List V} (h : RelDf c H ρ x v) : RelDf c H' ρ' x v := RelDf.stayw g f.w h
theorem RelW.stay (g : Grow ρ H ρ') (f : Fm H H' ρ) {x : W} {v : V} (h : RelW c H ρ x v) : RelW c H' ρ' x v := RelW.stayw g f.w h
theorem RelWs.stay (g : Grow ρ H ρ') (f : Fm H H' ρ) {x : List W} {v : List V} (h : RelWs c H ρ x v) : RelWs c H' ρ' x v := RelWs.stayw g f.w h
theorem RelWf.stay (g : Grow ρ H ρ') (f : Fm H H' ρ) {x : List (Str × W)} {v : List V} (h : RelWf c H ρ x v) : RelWf c H' ρ' x v := RelWf.stayw g f.w h
theorem RelE.stay (g : Grow ρ H ρ') (f : Fm H H' ρ) {x : Env} {v : L2.St} (h : RelE c H ρ x v) : RelE c H' ρ' x v := RelE.stayw g f.w h
end
end Mn

namespace Mn
open PySem PySem.Spec PyProof.Rows L2
variable [TL : TabList]

/-! ### reading an outcome -/
def aCO (c : Cn) (H : Hp) (ρ : Rho) (x : Exn) (cls : Value) (d : Option Addr) : Prop :=
  c.mg x.cls = some cls ∧ ∃ dd gs, d = some dd ∧ Off c ρ dd ∧ H dd = some (.xd ((x.fs.map (·.1)).zip gs)) ∧ RelDf c H ρ x.fs gs
def Out {α : Type} (c : Cn) (σ : L2.St) (H : Hp) (ρ : Rho) (X : WX) (r : Res α) (K : α → VH → Hp → Rho → Prop) : Prop :=
  match r with
  | .ok a vh' => ∀ H' ρ', Grow ρ H ρ' → Fm H H' ρ → RelH c H' ρ' vh' → K a vh' H' ρ'
  | .exn x vh' => ∀ cls d H' ρ', Grow ρ H ρ' → Fm H H' ρ → aCO c H' ρ' x cls d → RelH c H' ρ' vh' → X cls d σ H'
  | .stuck => False
def bnd {α β : Type} (r : Res α) (k : α → VH → Res β) : Res β :=
  match r with
  | .ok a h => k a h
  | .exn x h => .exn x h
  | .stuck => .stuck
@[simp] theorem abD {α β : Type} (a : α) (h : VH) (k : α → VH → Res β) : bnd (.ok a h) k = k a h := rfl
@[simp] theorem aCN {α β : Type} (x : Exn) (h : VH) (k : α → VH → Res β) : bnd (.exn x h) k = .exn x h := rfl
@[simp] theorem aEX {α β : Type} (k : α → VH → Res β) : bnd .stuck k = .stuck := rfl
def opt {α β : Type} (o : Option α) (k : α → Res β) : Res β := match o with
  | some a => k a
  | none => .stuck
@[simp] theorem ak5 {α β : Type} (a : α) (k : α → Res β) : opt (some a) k = k a := rfl
@[simp] theorem aFG {α β : Type} (k : α → Res β) : opt none k = .stuck := rfl

abbrev FE := Env → VH → Res W
abbrev FT := Env → VH → Res Bool
abbrev FA := Env → VH → Res (List W)
section
variable {c : Cn} {X : WX} {σ : L2.St} {H H1 : Hp} {ρ ρ1 : Rho} {e : Env} {vh : VH} {α β : Type}
def tM (c : Cn) (X : WX) (f : FE) : TE := fun σ H Q => ∃ e ρ vh, RelE c H ρ e σ ∧ RelH c H ρ vh ∧ Out c σ H ρ X (f e vh) fun w _ H' ρ' => ∀ v, RelW c H' ρ' w v → Q v H'
def tMT (c : Cn) (X : WX) (f : FT) : TT := fun σ H Q => ∃ e ρ vh, RelE c H ρ e σ ∧ RelH c H ρ vh ∧ Out c σ H ρ X (f e vh) fun b _ H' _ => Q b H'
def tMA (c : Cn) (X : WX) (f : FA) : TA := fun σ H Q => ∃ e ρ vh, RelE c H ρ e σ ∧ RelH c H ρ vh ∧ Out c σ H ρ X (f e vh) fun ws _ H' ρ' => ∀ vs, RelWs c H' ρ' ws vs → Q vs H'

theorem Out.mono {r : Res α} {K K' : α → VH → Hp → Rho → Prop} (h : Out c σ H ρ X r K) (k : ∀ a vh' H' ρ', K a vh' H' ρ' → K' a vh' H' ρ') : Out c σ H ρ X r K' := by
  cases r with
  | ok a vh' => exact fun H' ρ' g f r => k _ _ _ _ (h H' ρ' g f r)
  | exn x vh' => exact h
  | stuck => exact h
theorem Out.later {r : Res α} {K : α → VH → Hp → Rho → Prop} (h : Out c σ H ρ X r K) (g : Grow ρ H ρ1) (f : Fm H H1 ρ) : Out c σ H1 ρ1 X r K := by
  cases r with
  | ok a vh' => exact fun H' ρ' g' f' r => h H' ρ' (g.trans f g') (Fm.trans g f f') r
  | exn x vh' => exact fun cls d H' ρ' g' f' rx r => h cls d H' ρ' (g.trans f g') (Fm.trans g f f') rx r
  | stuck => exact h
theorem Out.here {a : α} {K : α → VH → Hp → Rho → Prop} (h : Out c σ H ρ X (.ok a vh) K) (r : RelH c H ρ vh) : K a vh H ρ := h H ρ (Grow.refl _ _) (Fm.refl _ _) r
/-- what stands behind a part -/
structure Aft (c : Cn) (X : WX) (σ : L2.St) (e : Env) (H1 : Hp) (ρ1 : Rho) (vh1 : VH) (r : Res β) (K : β → VH → Hp → Rho → Prop) : Prop where
  re : RelE c H1 ρ1 e σ
  rh : RelH c H1 ρ1 vh1
  out : Out c σ H1 ρ1 X r K
theorem use {f : FE} {k : W → VH → Res β} {K : β → VH → Hp → Rho → Prop} (he : RelE c H ρ e σ) (hh : RelH c H ρ vh) (h : Out c σ H ρ X (bnd (f e vh) k) K) :
    tM c X f σ H fun v H1 => ∃ w vh1 ρ1, RelW c H1 ρ1 w v ∧ Aft c X σ e H1 ρ1 vh1 (k w vh1) K ∧ Grow ρ H ρ1 ∧ Fm H H1 ρ := by
  refine ⟨e, ρ, vh, he, hh, ?_⟩
  cases q : f e vh with
  | ok w vh' =>
    rw [q] at h
    exact fun H' ρ' g fm rh v rw' => ⟨w, vh', ρ', rw', ⟨he.stay g fm, rh, h.later g fm⟩, g, fm⟩
  | exn x vh' => rw [q] at h; exact h
  | stuck => rw [q] at h; exact h
theorem aDC {f : FT} {k : Bool → VH → Res β} {K : β → VH → Hp → Rho → Prop} (he : RelE c H ρ e σ) (hh : RelH c H ρ vh) (h : Out c σ H ρ X (bnd (f e vh) k) K) :
    tMT c X f σ H fun b H1 => ∃ vh1 ρ1, Aft c X σ e H1 ρ1 vh1 (k b vh1) K ∧ Grow ρ H ρ1 ∧ Fm H H1 ρ := by
  refine ⟨e, ρ, vh, he, hh, ?_⟩
  cases q : f e vh with
  | ok w vh' =>
    rw [q] at h
    exact fun H' ρ' g fm rh => ⟨vh', ρ', ⟨he.stay g fm, rh, h.later g fm⟩, g, fm⟩
  | exn x vh' => rw [q] at h; exact h
  | stuck => rw [q] at h; exact h
theorem apF {f : FA} {k : List W → VH → Res β} {K : β → VH → Hp → Rho → Prop} (he : RelE c H ρ e σ) (hh : RelH c H ρ vh) (h : Out c σ H ρ X (bnd (f e vh) k) K) :
    tMA c X f σ H fun vs H1 => ∃ ws vh1 ρ1, RelWs c H1 ρ1 ws vs ∧ Aft c X σ e H1 ρ1 vh1 (k ws vh1) K ∧ Grow ρ H ρ1 ∧ Fm H H1 ρ := by
  refine ⟨e, ρ, vh, he, hh, ?_⟩
  cases q : f e vh with
  | ok w vh' =>
    rw [q] at h
    exact fun H' ρ' g fm rh vs rw' => ⟨w, vh', ρ', rw', ⟨he.stay g fm, rh, h.later g fm⟩, g, fm⟩
  | exn x vh' => rw [q] at h; exact h
  | stuck => rw [q] at h; exact h
end

/-! ### weaker readings -/
section
variable {X : Cx} {e : Expr} {es : List Expr} {c : Cn} {W₀ : WX}
theorem mQ {t t' : TE} (h : PE X e t) (i : ∀ σ H Q, t' σ H Q → t σ H Q) : PE X e t' := ⟨fun pins s σ H Q I q => h.run pins s σ H Q I (i σ H Q q)⟩
theorem ayP {t t' : TT} (h : PT X e t) (i : ∀ σ H Q, t' σ H Q → t σ H Q) : PT X e t' := ⟨fun pins s σ H Q I q => h.run pins s σ H Q I (i σ H Q q)⟩
theorem aD0 {t t' : TT} (h : PW X e t) (i : ∀ σ H Q, t' σ H Q → t σ H Q) : PW X e t' := ⟨fun wh pins s σ H Q I q => h.run wh pins s σ H Q I (i σ H Q q)⟩
theorem aBf {t t' : TA} (h : PA X es t) (i : ∀ σ H Q, t' σ H Q → t σ H Q) : PA X es t' := ⟨fun pos pins s σ H Q I q => h.run pos pins s σ H Q I (i σ H Q q)⟩
theorem ahF {st : Stmt} {t t' : TS} (h : PS X st t) (i : ∀ D σ H, t' D σ H → t D σ H) : PS X st t' := ⟨fun pins s σ H D I q => h.run pins s σ H D I (i D σ H q)⟩
theorem auB {st : List Stmt} {t t' : TS} (h : PSs X st t) (i : ∀ D σ H, t' D σ H → t D σ H) : PSs X st t' := ⟨fun pins s σ H D I q => h.run pins s σ H D I (i D σ H q)⟩
end

/-! ### new objects -/
section
variable {c : Cn} {H : Hp} {ρ : Rho} {vh : VH}
theorem RelO.live {vo : VO} {a : Addr} (h : RelO c H ρ vo (some a)) : ∃ o, H a = some o := by
  cases vo with
  | tpw ws => obtain ⟨_, _, e, h, _⟩ := h; cases e; exact ⟨_, h⟩
  | lsw ws => obtain ⟨_, _, e, h, _, _⟩ := h; cases e; exact ⟨_, h⟩
  | dead => cases h
  | lst ds => obtain ⟨_, _, e, h, _, _⟩ := h; cases e; exact ⟨_, h⟩
  | dic t kvs => obtain ⟨_, _, e, h, _⟩ := h; cases e; exact h.ex
  | ins n fs => obtain ⟨_, _, _, _, e, _, h, _⟩ := h; cases e; exact ⟨_, h⟩
theorem RelH.live (h : RelH c H ρ vh) {a : Addr} (ha : some a ∈ ρ) : ∃ o, H a = some o := by
  obtain ⟨i, hi, e⟩ := List.mem_iff_getElem.mp ha
  have hv : i < vh.length := by rw [← h.len]; exact hi
  obtain ⟨o, ho, r⟩ := h.at' i vh[i] (by simp [hv])
  have : o = some a := by
    rw [List.getElem?_eq_getElem hi, e] at ho
    exact (Option.some.inj ho).symm
  subst this
  exact r.live
/-- all that is free stays -/
theorem TabO.to {c' : Cn} {H' : Hp} {ρ' : Rho} (h : TabO c H ρ) (k : ∀ b o, Off c ρ b → H b = some o → Off c' ρ' b ∧ H' b = some o) : TabO c' H' ρ' := fun p hp => by
  obtain ⟨ps, h1, h0, h2, h3⟩ := h p hp
  refine ⟨ps, (k _ _ h0 h1).2, (k _ _ h0 h1).1, h2, fun pos cv e => ?_⟩
  obtain ⟨d, e1, e0, e2⟩ := h3 pos cv e
  exact ⟨d, e1, (k _ _ e0 e2).1, (k _ _ e0 e2).2⟩
theorem TabO.put {a : Addr} {o : HO} (h : TabO c H ρ) (ha : ¬ Off c ρ a) : TabO c (upd H a o) ρ := h.to fun b u hb e => ⟨hb, by rw [upd_ne fun z => ha (by rw [← z]; exact hb)]; exact e⟩
theorem RelH.tabs_put (h : RelH c H ρ vh) {a : Addr} {o : HO} (ha : some a ∈ ρ) : TabO c (upd H a o) ρ := h.tab.put fun z => z.1 ha
theorem RelH.fresh (h : RelH c H ρ vh) {p : Addr} (hp : H p = none) : Off c ρ p := by
  refine ⟨fun z => ?_, fun z => ?_⟩
  · obtain ⟨o, e⟩ := h.live z
    rw [hp] at e; cases e
  · obtain ⟨⟨o, e, _⟩, _⟩ := h.hid p z
    rw [hp] at e; cases e
theorem Fm.new {p : Addr} {o : HO} (hp : H p = none) : Fm H (upd H p o) ρ := .of (fun a u _ e => by rw [upd_ne (ne_of_none e hp)]; exact e) fun a xs e => by rw [upd_ne (ne_of_none e hp)]; exact e
theorem Fm.same {H' : Hp} (s : Same H H') : Fm H H' ρ := .of (fun a u _ e => s a u e) fun a xs e => s a _ e
theorem RelO.stay {H' : Hp} {ρ' : Rho} (g : Grow ρ H ρ') (f : Fm H H' ρ) {vo : VO} {o : Option Addr} (s : ∀ a u, o = some a → H a = some u → H' a = some u) (h : RelO c H ρ vo o) : RelO c H' ρ' vo o := by
  cases vo with
  | dead => exact h
  | lsw ws => obtain ⟨a, xs, e, hH, l, r⟩ := h; exact ⟨a, xs, e, s a _ e hH, l, r.stay g f⟩
  | tpw ws => obtain ⟨a, xs, e, hH, l, hr, r⟩ := h; exact ⟨a, xs, e, s a _ e hH, l, hr, r.stay g f⟩
  | lst ds => obtain ⟨a, xs, e, hH, l, r⟩ := h; exact ⟨a, xs, e, s a _ e hH, l, r.stay g f⟩
  | dic t kvs => obtain ⟨a, xs, e, hH, r⟩ := h; exact ⟨a, xs, e, hH.to fun o q _ => s a o e q, r.stay g f⟩
  | ins n fs => obtain ⟨a, C, dx, xs, e, hm, hH, r⟩ := h; exact ⟨a, C, dx, xs, e, hm, s a _ e hH, r.stay g f⟩
theorem RelH.same {H' : Hp} (h : RelH c H ρ vh) (s : Same H H') : RelH c H' ρ vh where
  len := h.len
  inj := h.inj
  at' := fun i vo e => by
    obtain ⟨o, ho, r⟩ := h.at' i vo e
    exact ⟨o, ho, r.stay (Grow.refl _ _) (Fm.same s) fun a u _ q => s a u q⟩
  hid := fun a ha => let ⟨⟨o, e, nt⟩, n⟩ := h.hid a ha; ⟨⟨o, s a o e, nt⟩, n⟩
  tab := h.tab.to fun a o n e => ⟨n, s a o e⟩
theorem jD {p : Addr} {o : HO} (hp : H p = none) : Same H (upd H p o) := fun a u e => by rw [upd_ne (ne_of_none e hp)]; exact e
/-- a new changeable object -/
theorem Grow.push {p : Addr} (hp : H p = none) : Grow ρ H (ρ ++ [some p]) where
  len := by simp
  old := fun i hi => .inl (by simp [List.getElem?_append_left, hi])
  new := fun a ha => by
    rcases List.mem_append.mp ha with h | h
    · exact .inl h
    · simp at h; subst h; exact .inr hp
theorem RelH.push {p : Addr} {o : HO} {vo : VO} (h : RelH c H ρ vh) (hp : H p = none) (r : RelO c (upd H p o) (ρ ++ [some p]) vo (some p)) : RelH c (upd H p o) (ρ ++ [some p]) (vh ++ [vo]) where
  len := by simp [h.len]
  inj := fun i j a hi hj => by
    by_cases li : i < ρ.length
    · rw [List.getElem?_append_left li] at hi
      by_cases lj : j < ρ.length
      · rw [List.getElem?_append_left lj] at hj; exact h.inj i j a hi hj
      · rw [List.getElem?_append_right (by omega)] at hj
        have : a = p := by
          cases q : j - ρ.length with
          | zero => rw [q] at hj; simpa using hj.symm
          | succ n => rw [q] at hj; simp at hj
        subst this
        exact absurd (List.mem_of_getElem? hi) (h.fresh hp).1
    · rw [List.getElem?_append_right (by omega)] at hi
      have e1 : i = ρ.length ∧ a = p := by
        cases q : i - ρ.length with
        | zero => rw [q] at hi; exact ⟨by omega, by simpa using hi.symm⟩
        | succ n => rw [q] at hi; simp at hi
      obtain ⟨e1, e2⟩ := e1
      subst e2
      by_cases lj : j < ρ.length
      · rw [List.getElem?_append_left lj] at hj
        exact absurd (List.mem_of_getElem? hj) (h.fresh hp).1
      · rw [List.getElem?_append_right (by omega)] at hj
        cases q : j - ρ.length with
        | zero => omega
        | succ n => rw [q] at hj; simp at hj
  at' := fun i vo' e => by
    by_cases li : i < vh.length
    · rw [List.getElem?_append_left li] at e
      obtain ⟨u, hu, r'⟩ := h.at' i vo' e
      refine ⟨u, by rw [List.getElem?_append_left (by rw [h.len]; exact li)]; exact hu, r'.stay (Grow.push hp) (Fm.new hp) fun a x _ q => jD hp a x q⟩
    · rw [List.getElem?_append_right (by omega)] at e
      cases q : i - vh.length with
      | zero =>
        rw [q] at e
        simp at e; subst e
        refine ⟨some p, ?_, r⟩
        rw [List.getElem?_append_right (by rw [h.len]; omega), h.len, q]; rfl
      | succ n => rw [q] at e; simp at e
  hid := fun a ha => by
    obtain ⟨⟨u, e, nt⟩, n⟩ := h.hid a ha
    refine ⟨⟨u, jD hp a u e, nt⟩, fun z => ?_⟩
    rcases List.mem_append.mp z with z | z
    · exact n z
    · simp at z; subst z; rw [hp] at e; cases e
  tab := h.tab.to fun a o n e => ⟨(Grow.push hp).not n e, jD hp a o e⟩
end

/-! ### what may be read -/
def see (vh : VH) : W → Option D
  | .d x => some x
  | .ref k => match vh[k]? with
    | some (.lst ds) => some (.lst ds)
    | some (.dic t kvs) => some (.dic t kvs)
    | _ => none
@[simp] theorem aAH (vh : VH) (x : D) : see vh (.d x) = some x := rfl
/-- readable: as RelD, but the top may change later -/
def RelR (c : Cn) (H : Hp) (ρ : Rho) : D → V → Prop
  | .lst ds, v => ∃ a xs, v = .ref a ∧ H a = some (.lst xs) ∧ ds.length ≤ sizeLine ∧ RelDs c H ρ ds xs
  | .dic t kvs, v => ∃ a xs, v = .ref a ∧ HDic H a t kvs xs ∧ RelDv c H ρ kvs xs
  | x, v => RelD c H ρ x v
section
variable {c : Cn} {H : Hp} {ρ : Rho} {vh : VH}
theorem RelD.r : ∀ {x : D} {v : V}, RelD c H ρ x v → RelR c H ρ x v
  | .lst _, _, ⟨a, xs, e, _, hH, l, r⟩ => ⟨a, xs, e, hH, l, r⟩
  | .frz _, _, h => h
  | .dic _ _, _, ⟨a, xs, e, _, h⟩ => ⟨a, xs, e, h⟩
  | .non, _, h => h
  | .bl _, _, h => h
  | .int _, _, h => h
  | .str _, _, h => h
  | .tup _, _, h => h
  | .ctp _, _, h => h
  | .ins _ _, _, h => h
  | .ty _, _, h => h
  | .cls _, _, h => h
  | .fdc _ _, _, h => h
  | .exc _ _, _, h => h
theorem zN {w : W} {v : V} {x : D} (hh : RelH c H ρ vh) (r : RelW c H ρ w v) (e : see vh w = some x) : RelR c H ρ x v := by
  cases w with
  | d y => cases e; exact RelD.r r
  | ref k =>
    obtain ⟨_, r2⟩ := r
    unfold see at e
    cases q : vh[k]? with
    | none => simp only [q] at e; cases e
    | some vo =>
      obtain ⟨o, ho, ro⟩ := hh.at' k vo q
      simp only [q] at e
      cases vo with
      | lst ds =>
        cases e
        obtain ⟨a, xs, rfl, hH, l, rr⟩ := ro
        exact ⟨a, xs, r2 a ho, hH, l, rr⟩
      | dic t kvs =>
        cases e
        obtain ⟨a, xs, rfl, hh⟩ := ro
        exact ⟨a, xs, r2 a ho, hh⟩
      | ins _ _ => cases e
      | lsw _ => cases e
      | tpw _ => cases e
      | dead => cases e
end
end Mn

namespace Mn
open PySem PySem.Spec PyProof.Rows L2
variable [TL : TabList]

section
variable {c : Cn} {X : WX} {σ : L2.St} {H H1 : Hp} {ρ ρ1 : Rho} {e : Env} {vh : VH} {α β : Type}
theorem tM.mono {f : FE} {Q Q' : VK} (h : tM c X f σ H Q) (q : ∀ v H, Q v H → Q' v H) : tM c X f σ H Q' := by
  obtain ⟨e, ρ, vh, he, hh, o⟩ := h
  exact ⟨e, ρ, vh, he, hh, o.mono fun _ _ _ _ k v r => q _ _ (k v r)⟩
theorem tMT.mono {f : FT} {Q Q' : Bool → Hp → Prop} (h : tMT c X f σ H Q) (q : ∀ v H, Q v H → Q' v H) : tMT c X f σ H Q' := by
  obtain ⟨e, ρ, vh, he, hh, o⟩ := h
  exact ⟨e, ρ, vh, he, hh, o.mono fun _ _ _ _ k => q _ _ k⟩
theorem tMA.mono {f : FA} {Q Q' : List V → Hp → Prop} (h : tMA c X f σ H Q) (q : ∀ v H, Q v H → Q' v H) : tMA c X f σ H Q' := by
  obtain ⟨e, ρ, vh, he, hh, o⟩ := h
  exact ⟨e, ρ, vh, he, hh, o.mono fun _ _ _ _ k v r => q _ _ (k v r)⟩
abbrev KW (c : Cn) (Q : VK) : W → VH → Hp → Rho → Prop := fun w _ H' ρ' => ∀ v, RelW c H' ρ' w v → Q v H'
theorem dM {o : Option α} {k : α → Res β} {K : β → VH → Hp → Rho → Prop} (h : Out c σ H ρ X (opt o k) K) : ∃ a, o = some a ∧ Out c σ H ρ X (k a) K := by
  cases o with
  | none => exact h.elim
  | some a => exact ⟨a, rfl, h⟩
/-- the end of a pure operation -/
theorem xT {z : D} {Q : VK} (rh : RelH c H ρ vh) (h : Out c σ H ρ X (.ok (.d z) vh) (KW c Q)) : ∀ v' H', Same H H' → RelD c H' ρ z v' → Q v' H' :=
  fun v' H' s r => h H' ρ ⟨Nat.le_refl _, fun _ _ => .inl rfl, fun _ z => .inl z⟩ (Fm.same s) (rh.same s) v' r
end

/-! ### operations on data -/
def arL (c : Cn) (H : Hp) (ρ : Rho) : Prop := ∀ p, H p = none → Off c ρ p
/-- what holds of an outcome of data: told at any heap that grew -/
abbrev DK (c : Cn) (H : Hp) (ρ : Rho) (z : D) (Q : VK) : Prop := ∀ v' H', Same H H' → RelD c H' ρ z v' → Q v' H'
def OpD (c : Cn) (r : R2) (g : D → D → Option D) : Prop := ∀ H ρ x y v u z Q, arL c H ρ → RelR c H ρ x v → RelR c H ρ y u → g x y = some z → DK c H ρ z Q → r v u H Q
def UnD (c : Cn) (r : V → Hp → VK → Prop) (g : D → Option D) : Prop := ∀ H ρ x v z Q, arL c H ρ → RelR c H ρ x v → g x = some z → DK c H ρ z Q → r v H Q
def RelRs (c : Cn) (H : Hp) (ρ : Rho) : List D → List V → Prop
  | [], [] => True
  | d :: ds, v :: vs => RelR c H ρ d v ∧ RelRs c H ρ ds vs
  | _, _ => False
def an2 (c : Cn) (r : List V → Hp → VK → Prop) (g : List D → Option D) : Prop := ∀ H ρ xs vs z Q, arL c H ρ → RelRs c H ρ xs vs → g xs = some z → DK c H ρ z Q → r vs H Q

def bD (i : Nat) : FE := fun e vh => match e[i]? with
  | some (some w) => .ok w vh
  | _ => .stuck
def mC (d : D) : FE := fun _ vh => .ok (.d d) vh
def mOp (g : D → D → Option D) (fa fb : FE) : FE := fun e vh => bnd (fa e vh) fun w1 vh1 => bnd (fb e vh1) fun w2 vh2 => opt (see vh2 w1) fun x => opt (see vh2 w2) fun y => opt (g x y) fun z => .ok (.d z) vh2
def mUn (g : D → Option D) (fa : FE) : FE := fun e vh => bnd (fa e vh) fun w1 vh1 => opt (see vh1 w1) fun x => opt (g x) fun z => .ok (.d z) vh1
/-- a comparison's chain a op b op' c -/
def arE (g g' : D → D → Option D) (fa fb fc : FE) : FE := fun e vh => bnd (fa e vh) fun w1 vh1 => bnd (fb e vh1) fun w2 vh2 => opt (see vh2 w1) fun x => opt (see vh2 w2) fun y => opt (g x y) fun z => match z with
  | .bl true => bnd (fc e vh2) fun w3 vh3 => opt (see vh3 w2) fun y => opt (see vh3 w3) fun x3 => opt (g' y x3) fun z' => .ok (.d z') vh3
  | .bl false => .ok (.d (.bl false)) vh2
  | _ => .stuck
def isB (w : W) (vh : VH) : Res Bool := match w with
  | .d (.bl b) => .ok b vh
  | _ => .stuck
def tV (f : FE) : FT := fun e vh => bnd (f e vh) isB
def aBD (f : FT) : FT := fun e vh => bnd (f e vh) fun b vh1 => .ok (!b) vh1
def aBt (f g : FT) : FT := fun e vh => bnd (f e vh) fun b vh1 => if b = true then g e vh1 else .ok false vh1
def aHQ (f g : FT) : FT := fun e vh => bnd (f e vh) fun b vh1 => if b = true then .ok true vh1 else g e vh1
def mIf (t : FT) (f g : FE) : FE := fun e vh => bnd (t e vh) fun b vh1 => if b = true then f e vh1 else g e vh1
def aIA (f g : FE) : FE := fun e vh => bnd (f e vh) fun w vh1 => bnd (isB w vh1) fun b vh1 => if b = true then g e vh1 else .ok (.d (.bl false)) vh1
def mOr (f g : FE) : FE := fun e vh => bnd (f e vh) fun w vh1 => bnd (isB w vh1) fun b vh1 => if b = true then .ok (.d (.bl true)) vh1 else g e vh1
def aIc (f : FE) : FE := fun e vh => bnd (f e vh) fun w vh1 => bnd (isB w vh1) fun b vh1 => .ok (.d (.bl !b)) vh1
def cI : FA := fun _ vh => .ok [] vh
def aK (f : FE) (g : FA) : FA := fun e vh => bnd (f e vh) fun w vh1 => bnd (g e vh1) fun ws vh2 => .ok (w :: ws) vh2
/-- data alone -/
def rH : List W → Option (List D)
  | [] => some []
  | .d x :: r => match rH r with
    | some xs => some (x :: xs)
    | none => none
  | .ref _ :: _ => none
def agA (vh : VH) : List W → Option (List D)
  | [] => some []
  | w :: r => match see vh w, agA vh r with
    | some x, some xs => some (x :: xs)
    | _, _ => none
def yG (f : FA) : FE := fun e vh => bnd (f e vh) fun ws vh1 => opt (rH ws) fun ds => if ds.length ≤ sizeLine then .ok (.d (.tup ds)) vh1 else .stuck
def alQ (f : FA) : FE := fun e vh => bnd (f e vh) fun ws vh1 => opt (rH ws) fun ds => if ds.length ≤ sizeLine then .ok (.d (.lst ds)) vh1 else .stuck
/-- a list that will change -/
def azB (f : FA) : FE := fun e vh => bnd (f e vh) fun ws vh1 => opt (rH ws) fun ds => if ds.length ≤ sizeLine then .ok (.ref vh1.length) (vh1 ++ [.lst ds]) else .stuck
/-- a builtin's call -/
def akW (g : List D → Option D) (f : FA) : FE := fun e vh => bnd (f e vh) fun ws vh1 => opt (agA vh1 ws) fun ds => opt (g ds) fun z => .ok (.d z) vh1

section
variable {c : Cn} {X : Cx} {U : WX} {a b d : Expr} {es : List Expr} {pos p : Pos}
theorem aC (i : Nat) {x : Str} (hN : X.N[i]? = some x := by rfl) (hv : Vis X.env.scope x := by first | exact Or.inl rfl | exact Or.inr (Or.inl rfl) | exact Or.inr (Or.inr rfl)) (hd : (x == ("__debug__" : Str)) = false := by decide)
    (hcd : (x == ("__classdict__" : Str)) = false := by decide) : PE X (.Name x pos) (tM c U (bD i)) := by
  refine mQ (pe_var hN hv hd hcd) fun σ H Q ⟨e, ρ, vh, he, hh, h⟩ => ?_
  unfold bD at h
  cases q : e[i]? with
  | none => rw [q] at h; exact h.elim
  | some o => cases o with
    | none => rw [q] at h; exact h.elim
    | some w =>
      rw [q] at h
      obtain ⟨v, e1, r⟩ := he.get q
      exact ⟨v, e1, h.here hh v r⟩
theorem aq6 {d : D} {v : V} (h : PE X a (tC v)) (r : ∀ H ρ, RelD c H ρ d v) : PE X a (tM c U (mC d)) := mQ h fun σ H Q ⟨e, ρ, vh, he, hh, h⟩ => h.here hh v (r H ρ)
theorem bU {i : Int} {j : Nat} : PE X (.Constant (.int i) j pos) (tM c U (mC (.int i))) := aq6 pe_int fun _ _ => rfl
theorem avW {b : Bool} {j : Nat} : PE X (.Constant (.bool b) j pos) (tM c U (mC (.bl b))) := aq6 pe_bl fun _ _ => rfl
theorem mH {x : Str} {j : Nat} (hl : (decide (x.length ≤ sizeLine) && PyData.strOk x) = true := by decide +kernel) : PE X (.Constant (.str x) j pos) (tM c U (mC (.str x))) := aq6 pe_str fun _ _ => by
  rw [Bool.and_eq_true, decide_eq_true_eq] at hl
  exact ⟨rfl, hl⟩
section
variable {σ : L2.St} {H : Hp} {ρ : Rho} {vh : VH} {e : Env}
theorem RelH.fr (h : RelH c H ρ vh) : arL c H ρ := fun _ hp => h.fresh hp
theorem aGG {r : R2} {g : D → D → Option D} (hd : OpD c r g) {w1 w2 : W} {v1 v2 : V} {Q : VK} (rh : RelH c H ρ vh) (r1 : RelW c H ρ w1 v1) (r2 : RelW c H ρ w2 v2)
    (h : Out c σ H ρ U (opt (see vh w1) fun x => opt (see vh w2) fun y => opt (g x y) fun z => .ok (.d z) vh) (KW c Q)) : r v1 v2 H Q := by
  obtain ⟨x, e1, h⟩ := dM h
  obtain ⟨y, e2, h⟩ := dM h
  obtain ⟨z, e3, h⟩ := dM h
  exact hd H ρ x y v1 v2 z Q rh.fr (zN rh r1 e1) (zN rh r2 e2) e3 (xT rh h)
theorem atD {fa fb : FE} {r : R2} {g : D → D → Option D} (hd : OpD c r g) {Q : VK} (h : tM c U (mOp g fa fb) σ H Q) : tOp r (tM c U fa) (tM c U fb) σ H Q := by
  obtain ⟨e, ρ, vh, he, hh, h⟩ := h
  refine (use he hh h).mono fun v1 H1 ⟨w1, vh1, ρ1, r1, A, g1, f1⟩ => ?_
  refine (use A.re A.rh A.out).mono fun v2 H2 ⟨w2, vh2, ρ2, r2, B, g2, f2⟩ => ?_
  exact aGG hd B.rh (r1.stay g2 f2) r2 B.out
end
theorem gW {op : Operator} {r : R2} {g : D → D → Option D} {fa fb : FE} (ho : OpR X (binaryOp op) r) (hd : OpD c r g) (ha : PE X a (tM c U fa)) (hb : PE X b (tM c U fb)) : PE X (.BinOp a op b pos) (tM c U (mOp g fa fb)) :=
  mQ (pe_op ho ha hb) fun σ H Q h => atD hd h
theorem al6 {op : CmpOp} {r : R2} {g : D → D → Option D} {fa fb : FE} (ho : OpR X (compareOp op) r) (hd : OpD c r g) (ha : PE X a (tM c U fa)) (hb : PE X b (tM c U fb)) (hm : behindInMarks op b = false) : PE X (.Compare a [op] [b] pos) (tM c U (mOp g fa fb)) :=
  mQ (pe_cmpR ho ha hb hm) fun σ H Q h => atD hd h
theorem awJ {f : FE} {σ : L2.St} {H : Hp} {Q : Bool → Hp → Prop} (h : tMT c U (tV f) σ H Q) : tM c U f σ H fun x H' => ∃ k, x = .bl k ∧ Q k H' := by
  obtain ⟨e, ρ, vh, he, hh, h⟩ := h
  refine (use he hh h).mono fun v1 H1 ⟨w1, vh1, ρ1, r1, A, g1, f1⟩ => ?_
  have o := A.out
  unfold isB at o
  split at o
  · exact ⟨_, r1, o.here A.rh⟩
  · exact o.elim
theorem v5 {op : CmpOp} {r : R2} {g : D → D → Option D} {fa fb : FE} (ho : OpR X (compareOp op) r) (hd : OpD c r g) (ha : PE X a (tM c U fa)) (hb : PE X b (tM c U fb)) (hm : behindInMarks op b = false) : PT X (.Compare a [op] [b] pos) (tMT c U (tV (mOp g fa fb))) :=
  ayP (pt_cmpR ho ha hb hm) fun σ H Q h => atD hd (awJ h)
theorem aAx {fa fb fc : FE} {r r' : R2} {g g' : D → D → Option D} (hd : OpD c r g) (hd' : OpD c r' g') {σ : L2.St} {H : Hp} {Q : VK} (h : tM c U (arE g g' fa fb fc) σ H Q) : tChain r r' (tM c U fa) (tM c U fb) (tM c U fc) σ H Q := by
  obtain ⟨e, ρ, vh, he, hh, h⟩ := h
  refine (use he hh h).mono fun v1 H1 ⟨w1, vh1, ρ1, r1, A, g1, f1⟩ => ?_
  refine (use A.re A.rh A.out).mono fun v2 H2 ⟨w2, vh2, ρ2, r2, B, g2, f2⟩ => ?_
  obtain ⟨x, e1, o⟩ := dM B.out
  obtain ⟨y, e2, o⟩ := dM o
  obtain ⟨z, e3, o⟩ := dM o
  refine hd H2 ρ2 x y v1 v2 z _ B.rh.fr (zN B.rh (r1.stay g2 f2) e1) (zN B.rh r2 e2) e3 fun v' H' s rz => ?_
  cases z with
  | bl k =>
    refine ⟨k, rz, ?_⟩
    have gs : Grow ρ2 H2 ρ2 := Grow.refl _ _
    cases k with
    | true =>
      refine iteT ?_
      refine (use (B.re.stay gs (Fm.same s)) (B.rh.same s) (o.later gs (Fm.same s))).mono fun v3 H3 ⟨w3, vh3, ρ3, r3, C, g3, f3⟩ => ?_
      exact aGG hd' C.rh ((r2.stay gs (Fm.same s)).stay g3 f3) r3 C.out
    | false =>
      refine iteF ?_
      exact xT B.rh o _ _ s rfl
  | _ => exact o.elim
theorem aBp {op op' : CmpOp} {r r' : R2} {g g' : D → D → Option D} {fa fb fc : FE} (ho : OpR X (compareOp op) r) (hd : OpD c r g) (ho' : OpR X (compareOp op') r') (hd' : OpD c r' g') (ha : PE X a (tM c U fa)) (hb : PE X b (tM c U fb)) (hc : PE X d (tM c U fc)) (hm : lastMarks [op, op'] [b, d] = false := by rfl) :
    PE X (.Compare a [op, op'] [b, d] pos) (tM c U (arE g g' fa fb fc)) := mQ (pe_chain ho ho' ha hb hc hm) fun σ H Q h => aAx hd hd' h
/-- a bool's value as a test -/
theorem awZ {f : FE} (h : PE X a (tM c U f)) (he : ∀ whole, isTrue a X.env whole = (do let v ← whole; standAt a.pos; holding [v] (truthy v)) := by intro _; rfl) : PT X a (tMT c U (tV f)) :=
  ayP (pt_val h he) fun σ H Q h => awJ h
theorem aEc {f : FT} (h : PT X a (tMT c U f)) : PT X (.UnaryOp .Not a pos) (tMT c U (aBD f)) := ayP (pt_not h) fun σ H Q ⟨e, ρ, vh, he, hh, h⟩ =>
  (aDC he hh h).mono fun b H1 ⟨vh1, ρ1, A, _, _⟩ => A.out.here A.rh
theorem aCF {f : FT} (h : PT X a (tMT c U f)) : PW X (.BoolOp .And [a] pos) (tMT c U f) := pw_and1 h
theorem aEu {f g : FT} (ha : PT X a (tMT c U f)) (hb : PW X (.BoolOp .And (b :: es) pos) (tMT c U g)) : PW X (.BoolOp .And (a :: b :: es) pos) (tMT c U (aBt f g)) := aD0 (pw_and ha hb) fun σ H Q ⟨e, ρ, vh, he, hh, h⟩ =>
  (aDC he hh h).mono fun b H1 ⟨vh1, ρ1, A, _, _⟩ => by
    have o := A.out
    cases b with
    | true => exact iteT ⟨e, ρ1, vh1, A.re, A.rh, o⟩
    | false => exact iteF (o.here A.rh)
theorem akO {t : FT} {f g : FE} (hc : PT X d (tMT c U t)) (ha : PE X a (tM c U f)) (hb : PE X b (tM c U g)) : PE X (.IfExp d a b pos) (tM c U (mIf t f g)) := mQ (pe_ifExp hc ha hb) fun σ H Q ⟨e, ρ, vh, he, hh, h⟩ =>
  (aDC he hh h).mono fun b H1 ⟨vh1, ρ1, A, _, _⟩ => by
    have o := A.out
    cases b with
    | true => exact iteT ⟨e, ρ1, vh1, A.re, A.rh, o⟩
    | false => exact iteF ⟨e, ρ1, vh1, A.re, A.rh, o⟩
theorem aY : PA X [] (tMA c U cI) := aBf pa_nil fun σ H Q ⟨e, ρ, vh, he, hh, h⟩ => h.here hh [] trivial
theorem aA {f : FE} {g : FA} (ha : PE X a (tM c U f)) (hr : PA X es (tMA c U g)) (hs : starEach (a :: es) X.env = (false, eval a X.env) :: starEach es X.env := by rfl) : PA X (a :: es) (tMA c U (aK f g)) :=
  aBf (pa_cons ha hr hs) fun σ H Q ⟨e, ρ, vh, he, hh, h⟩ =>
  (use he hh h).mono fun v H1 ⟨w1, vh1, ρ1, r1, A, _, _⟩ =>
    (apF A.re A.rh A.out).mono fun vs H2 ⟨ws, vh2, ρ2, rs, B, g2, f2⟩ => B.out.here B.rh (v :: vs) ⟨r1.stay g2 f2, rs⟩
theorem ae7 {H : Hp} {ρ : Rho} : ∀ {ws : List W} {vs : List V} {ds : List D}, RelWs c H ρ ws vs → rH ws = some ds → RelDs c H ρ ds vs
  | [], [], ds, _, q => by cases q; trivial
  | .d x :: ws, v :: vs, ds, ⟨r, t⟩, q => by
    unfold rH at q
    split at q
    · rename_i xs hx
      cases q
      exact ⟨r, ae7 t hx⟩
    · cases q
  | .ref _ :: _, _ :: _, _, _, q => by cases q
theorem ao7 {H : Hp} {ρ : Rho} {vh : VH} (hh : RelH c H ρ vh) : ∀ {ws : List W} {vs : List V} {ds : List D}, RelWs c H ρ ws vs → agA vh ws = some ds → RelRs c H ρ ds vs
  | [], [], ds, _, q => by cases q; trivial
  | w :: ws, v :: vs, ds, ⟨r, t⟩, q => by
    unfold agA at q
    split at q
    · rename_i x xs h1 h2
      cases q
      exact ⟨zN hh r h1, ao7 hh t h2⟩
    · cases q
theorem iI {x1 : Nat} {f : FA} (h : PA X es (tMA c U f)) : PE X (.Tuple es x1 pos) (tM c U (yG f)) := mQ (pe_tup h) fun σ H Q ⟨e, ρ, vh, he, hh, h⟩ =>
  (apF he hh h).mono fun vs H1 ⟨ws, vh1, ρ1, rs, A, _, _⟩ => by
    obtain ⟨ds, e1, o⟩ := dM A.out
    have rd := ae7 rs e1
    split at o
    · rename_i hl
      refine ⟨by rw [← rd.length]; exact hl, fun p hp => ?_⟩
      have s := jD (o := .tup vs) hp
      exact xT A.rh o _ _ s ⟨p, vs, rfl, A.rh.fresh hp, upd_same, hl, rd.stay (Grow.refl _ _) (Fm.same s)⟩
    · exact o.elim
theorem abC {f : FA} (h : PA X es (tMA c U f)) : PE X (.List es pos) (tM c U (alQ f)) := mQ (pe_lst h) fun σ H Q ⟨e, ρ, vh, he, hh, h⟩ =>
  (apF he hh h).mono fun vs H1 ⟨ws, vh1, ρ1, rs, A, _, _⟩ => by
    obtain ⟨ds, e1, o⟩ := dM A.out
    have rd := ae7 rs e1
    split at o
    · rename_i hl
      refine ⟨by rw [← rd.length]; exact hl, fun p hp => ?_⟩
      have s := jD (o := .lst vs) hp
      exact xT A.rh o _ _ s ⟨p, vs, rfl, A.rh.fresh hp, upd_same, hl, rd.stay (Grow.refl _ _) (Fm.same s)⟩
    · exact o.elim
theorem awK {H : Hp} {ρ : Rho} {vh : VH} {ds : List D} {vs : List V} {p : Addr} (hh : RelH c H ρ vh) (hp : H p = none) (hl : ds.length ≤ sizeLine) (rd : RelDs c H ρ ds vs) : RelH c (upd H p (.lst vs)) (ρ ++ [some p]) (vh ++ [.lst ds]) :=
  hh.push hp ⟨p, vs, rfl, upd_same, hl, rd.stay (Grow.push hp) (Fm.new hp)⟩
theorem ay0 {f : FA} (h : PA X es (tMA c U f)) : PE X (.List es pos) (tM c U (azB f)) := mQ (pe_lst h) fun σ H Q ⟨e, ρ, vh, he, hh, h⟩ =>
  (apF he hh h).mono fun vs H1 ⟨ws, vh1, ρ1, rs, A, _, _⟩ => by
    obtain ⟨ds, e1, o⟩ := dM A.out
    have rd := ae7 rs e1
    split at o
    · rename_i hl
      refine ⟨by rw [← rd.length]; exact hl, fun p hp => ?_⟩
      refine o _ _ (Grow.push hp) (Fm.new hp) (awK A.rh hp hl rd) _ ⟨by simp [A.rh.len], fun a ha => ?_⟩
      rw [List.getElem?_append_right (by rw [A.rh.len]; omega), A.rh.len] at ha
      simp at ha; rw [ha]
    · exact o.elim
end
end Mn

namespace Mn
open PySem PySem.Spec PyProof.Rows L2
variable [TL : TabList]

/-! ### statements -/
inductive RS where
  | nx (e : Env) (h : VH) | rt (w : W) (h : VH) | bk (e : Env) (h : VH) | ct (e : Env) (h : VH) | exn (x : Exn) (e : Env) (h : VH) | stuck
abbrev FS := Env → VH → RS
def OutS (c : Cn) (H : Hp) (ρ : Rho) (X : WX) (r : RS) (D : Ends) : Prop :=
  match r with
  | .nx e vh => ∀ σ' H' ρ', Grow ρ H ρ' → Fm H H' ρ → RelE c H' ρ' e σ' → RelH c H' ρ' vh → D.nx σ' H'
  | .bk e vh => ∀ σ' H' ρ', Grow ρ H ρ' → Fm H H' ρ → RelE c H' ρ' e σ' → RelH c H' ρ' vh → D.bk σ' H'
  | .ct e vh => ∀ σ' H' ρ', Grow ρ H ρ' → Fm H H' ρ → RelE c H' ρ' e σ' → RelH c H' ρ' vh → D.ct σ' H'
  | .rt w vh => ∀ v H' ρ', Grow ρ H ρ' → Fm H H' ρ → RelW c H' ρ' w v → RelH c H' ρ' vh → D.rt v H'
  | .exn x e vh => ∀ cls d σ' H' ρ', Grow ρ H ρ' → Fm H H' ρ → aCO c H' ρ' x cls d → RelE c H' ρ' e σ' → RelH c H' ρ' vh → X cls d σ' H'
  | .stuck => False
def tMS (c : Cn) (X : WX) (f : FS) : TS := fun D σ H => ∃ e ρ vh, RelE c H ρ e σ ∧ RelH c H ρ vh ∧ OutS c H ρ X (f e vh) D
/-- an expression's outcome in a statement -/
def lft {α : Type} (r : Res α) (e : Env) (k : α → VH → RS) : RS := match r with
  | .ok a h => k a h
  | .exn x h => .exn x e h
  | .stuck => .stuck
@[simp] theorem amL {α : Type} (a : α) (h : VH) (e : Env) (k : α → VH → RS) : lft (.ok a h) e k = k a h := rfl
@[simp] theorem aCf {α : Type} (x : Exn) (h : VH) (e : Env) (k : α → VH → RS) : lft (.exn x h) e k = .exn x e h := rfl
@[simp] theorem aEZ {α : Type} (e : Env) (k : α → VH → RS) : lft .stuck e k = .stuck := rfl
def adR : FS := fun e vh => .nx e vh
def dF (f g : FS) : FS := fun e vh => match f e vh with
  | .nx e' vh' => g e' vh'
  | r => r
def wO (i : Nat) (f : FE) : FS := fun e vh => lft (f e vh) e fun w vh' => .nx (e.set i (some w)) vh'
def mDo (f : FE) : FS := fun e vh => lft (f e vh) e fun _ vh' => .nx e vh'
def afU (f : FE) : FS := fun e vh => lft (f e vh) e fun w vh' => .rt w vh'
def aFa : FS := fun _ vh => .rt (.d .non) vh
def akE (t : FT) (f g : FS) : FS := fun e vh => lft (t e vh) e fun b vh' => if b = true then f e vh' else g e vh'
def aHI : FS := fun _ _ => .stuck
def aD1 : FS := fun e vh => .bk e vh
def aFx : FS := fun e vh => .ct e vh

section
variable {c : Cn} {X : WX} {σ : L2.St} {H H1 : Hp} {ρ ρ1 : Rho} {e : Env} {vh : VH} {α β : Type}
theorem OutS.later {r : RS} {D : Ends} (h : OutS c H ρ X r D) (g : Grow ρ H ρ1) (f : Fm H H1 ρ) : OutS c H1 ρ1 X r D := by
  cases r with
  | nx e vh => exact fun σ' H' ρ' g' f' => h σ' H' ρ' (g.trans f g') (Fm.trans g f f')
  | bk e vh => exact fun σ' H' ρ' g' f' => h σ' H' ρ' (g.trans f g') (Fm.trans g f f')
  | ct e vh => exact fun σ' H' ρ' g' f' => h σ' H' ρ' (g.trans f g') (Fm.trans g f f')
  | rt e vh => exact fun σ' H' ρ' g' f' => h σ' H' ρ' (g.trans f g') (Fm.trans g f f')
  | exn x e vh => exact fun cls d σ' H' ρ' g' f' => h cls d σ' H' ρ' (g.trans f g') (Fm.trans g f f')
  | stuck => exact h
theorem OutS.imp {r : RS} {D D' : Ends} (h : OutS c H ρ X r D) (n : ∀ σ H, D.nx σ H → D'.nx σ H) (b : ∀ σ H, D.bk σ H → D'.bk σ H) (t : ∀ σ H, D.ct σ H → D'.ct σ H) (q : ∀ v H, D.rt v H → D'.rt v H) : OutS c H ρ X r D' := by
  cases r with
  | nx e vh => exact fun σ' H' ρ' g' f' x y => n _ _ (h σ' H' ρ' g' f' x y)
  | bk e vh => exact fun σ' H' ρ' g' f' x y => b _ _ (h σ' H' ρ' g' f' x y)
  | ct e vh => exact fun σ' H' ρ' g' f' x y => t _ _ (h σ' H' ρ' g' f' x y)
  | rt e vh => exact fun σ' H' ρ' g' f' x y => q _ _ (h σ' H' ρ' g' f' x y)
  | exn x e vh => exact h
  | stuck => exact h
theorem OutS.here {D : Ends} (h : OutS c H ρ X (.nx e vh) D) (re : RelE c H ρ e σ) (rh : RelH c H ρ vh) : D.nx σ H := h σ H ρ (Grow.refl _ _) (Fm.refl _ _) re rh
/-- what stands behind a part of a statement -/
structure AftS (c : Cn) (X : WX) (σ : L2.St) (e : Env) (H1 : Hp) (ρ1 : Rho) (vh1 : VH) (r : RS) (D : Ends) : Prop where
  re : RelE c H1 ρ1 e σ
  rh : RelH c H1 ρ1 vh1
  out : OutS c H1 ρ1 X r D
theorem avL {f : FE} {k : W → VH → RS} {D : Ends} (he : RelE c H ρ e σ) (hh : RelH c H ρ vh) (h : OutS c H ρ X (lft (f e vh) e k) D) :
    tM c X f σ H fun v H1 => ∃ w vh1 ρ1, RelW c H1 ρ1 w v ∧ AftS c X σ e H1 ρ1 vh1 (k w vh1) D ∧ Grow ρ H ρ1 ∧ Fm H H1 ρ := by
  refine ⟨e, ρ, vh, he, hh, ?_⟩
  cases q : f e vh with
  | ok w vh' =>
    rw [q] at h
    exact fun H' ρ' g fm rh v rw' => ⟨w, vh', ρ', rw', ⟨he.stay g fm, rh, h.later g fm⟩, g, fm⟩
  | exn x vh' => rw [q] at h; exact fun cls d H' ρ' g fm rx rh => h cls d σ H' ρ' g fm rx (he.stay g fm) rh
  | stuck => rw [q] at h; exact h
theorem aGn {f : FT} {k : Bool → VH → RS} {D : Ends} (he : RelE c H ρ e σ) (hh : RelH c H ρ vh) (h : OutS c H ρ X (lft (f e vh) e k) D) :
    tMT c X f σ H fun b H1 => ∃ vh1 ρ1, AftS c X σ e H1 ρ1 vh1 (k b vh1) D ∧ Grow ρ H ρ1 ∧ Fm H H1 ρ := by
  refine ⟨e, ρ, vh, he, hh, ?_⟩
  cases q : f e vh with
  | ok w vh' =>
    rw [q] at h
    exact fun H' ρ' g fm rh => ⟨vh', ρ', ⟨he.stay g fm, rh, h.later g fm⟩, g, fm⟩
  | exn x vh' => rw [q] at h; exact fun cls d H' ρ' g fm rx rh => h cls d σ H' ρ' g fm rx (he.stay g fm) rh
  | stuck => rw [q] at h; exact h
end

section
variable {c : Cn} {X : Cx} {U : WX} {a b d : Expr} {es : List Expr} {st : Stmt} {sts : List Stmt} {pos p : Pos}
theorem tG : PSs X [] (tMS c U adR) := auB pss_nil fun D σ H ⟨e, ρ, vh, he, hh, h⟩ => h.here he hh
theorem bH {f g : FS} (h1 : PS X st (tMS c U f)) (h2 : PSs X sts (tMS c U g)) : PSs X (st :: sts) (tMS c U (dF f g)) := auB (pss_cons h1 h2) fun D σ H ⟨e, ρ, vh, he, hh, h⟩ => by
  refine ⟨e, ρ, vh, he, hh, ?_⟩
  unfold dF at h
  cases q : f e vh with
  | nx e' vh' => rw [q] at h; exact fun σ' H' ρ' g' f' x y => ⟨e', ρ', vh', x, y, h.later g' f'⟩
  | bk e' vh' => rw [q] at h; exact h
  | ct e' vh' => rw [q] at h; exact h
  | rt e' vh' => rw [q] at h; exact h
  | exn x e' vh' => rw [q] at h; exact h
  | stuck => rw [q] at h; exact h
theorem iZ {f : FS} (h : PS X st (tMS c U f)) : PSs X [st] (tMS c U f) := pss_one h
theorem jE (i : Nat) {x : Str} {f : FE} {pos' : Pos} (hN : X.N.Nodup) (ha : PE X a (tM c U f)) (hi : X.N[i]? = some x := by rfl) (hx : Loc X.env.scope x := by first | exact Or.inl rfl | exact Or.inr rfl)
    (hs : swapsWith a (some (.Name x pos')) pos.line X.env = pure false := by rfl) (hf : X.fn x = true ∨ X.env.scope.names.lookup x = some .local := by first | exact .inl rfl | exact .inr rfl) : PS X (.Assign [.Name x pos'] a pos) (tMS c U (wO i f)) :=
  ahF (ps_set hN hi hx ha hs hf) fun D σ H ⟨e, ρ, vh, he, hh, h⟩ => (avL he hh h).mono fun v H1 ⟨w, vh1, ρ1, r, A, _, _⟩ => A.out.here (A.re.set r) A.rh
theorem aCo {f : FE} (ha : PE X a (tM c U f)) (hs : swapsWith a none pos.line X.env = pure false := by rfl) : PS X (.Expr a pos) (tMS c U (mDo f)) :=
  ahF (ps_expr ha hs) fun D σ H ⟨e, ρ, vh, he, hh, h⟩ => (avL he hh h).mono fun v H1 ⟨w, vh1, ρ1, r, A, _, _⟩ => A.out.here A.re A.rh
theorem sU {f : FE} (ha : PE X a (tM c U f)) : PS X (.Return (some a) pos) (tMS c U (afU f)) :=
  ahF (ps_ret ha) fun D σ H ⟨e, ρ, vh, he, hh, h⟩ => (avL he hh h).mono fun v H1 ⟨w, vh1, ρ1, r, A, _, _⟩ => A.out v H1 ρ1 (Grow.refl _ _) (Fm.refl _ _) r A.rh
theorem afD {t : FT} {f g : FS} {A B : List Stmt} (hc : PT X d (tMT c U t)) (ha : PSs X A (tMS c U f)) (hb : PSs X B (tMS c U g)) : PS X (.If d A B pos) (tMS c U (akE t f g)) :=
  ahF (ps_if hc ha hb) fun D σ H ⟨e, ρ, vh, he, hh, h⟩ => (aGn he hh h).mono fun b H1 ⟨vh1, ρ1, A, _, _⟩ => by
    have o := A.out
    cases b with
    | true => exact iteT ⟨e, ρ1, vh1, A.re, A.rh, o⟩
    | false => exact iteF ⟨e, ρ1, vh1, A.re, A.rh, o⟩
end

/-! ### defs -/
abbrev FN := List W → VH → Res W
def yH (np nn : Nat) (ws : List W) : Env := ws.map some ++ List.replicate (nn - np) none
def mFn (np nn : Nat) (f : FS) : FN := fun ws vh => if ws.length = np then match f (yH np nn ws) vh with
  | .nx _ vh' => .ok (.d .non) vh'
  | .rt w vh' => .ok w vh'
  | .exn x _ vh' => .exn x vh'
  | _ => .stuck else .stuck
def spM (K : PySem.W.Frag) (mg : Str → Option Value) (F : FN) : Sp := fun vs H Q E => ∃ c : Cn, c.K = K ∧ c.mg = mg ∧ ∃ ws ρ vh, RelWs c H ρ ws vs ∧ RelH c H ρ vh ∧ Out c [] H ρ (fun cls d _ H' => E cls d H') (F ws vh) (KW c Q)
theorem amD {c : Cn} {H : Hp} {ρ : Rho} {np : Nat} {N : List Str} : ∀ {ws : List W} {vs : List V}, RelWs c H ρ ws vs → RelE c H ρ (ws.map some ++ List.replicate (N.length - vs.length) none) (L2.start N vs) := by
  intro ws vs h
  unfold L2.start
  generalize N.length - vs.length = k
  induction ws generalizing vs with
  | nil => cases vs with
    | nil =>
      simp only [List.map_nil, List.nil_append]
      induction k with
      | zero => trivial
      | succ k ih => exact ih
    | cons _ _ => exact h.elim
  | cons w ws ih => cases vs with
    | nil => exact h.elim
    | cons v vs => exact ⟨h.1, ih h.2⟩
theorem FnOk.m {P : Program} {w : World} {K : PySem.W.Frag} {mg : Str → Option Value} {base : Heap} {x qual : Str} {st : Stmt} {f : Addr} {fd : FuncData} {N ps : List Str} {k : Nat} {g : FS} (F : Fun K x qual st f fd) (S : FnScope N ps (defScope st))
    (hbody : ∀ (cdv : Value) (A : Around) (outer : List PySem.Env) (s : Shared) (H : Hp) (E : XK), Room k (A.deeper (envOfC qual (defScope st) s.heap.objs.size f cdv)) → Takes (cxOf (L2.CX P w) P w K mg base N qual (defScope st) f cdv A outer s H E) (fun cls d _ H => E cls d H) →
      ∀ hid, PSs (cxOf (L2.CX P w) P w K mg base N qual (defScope st) f cdv A outer s H E) (defBody st) (tMS ⟨K, mg, hid⟩ (fun cls d _ H => E cls d H) g)) : FnOk P w K mg base (L2.CX P w) (k + 1) f fd ps (spM K mg (mFn ps.length N.length g)) := by
  refine F.okX S (fun vs H Q E ⟨c, hk, hm, ws, ρ, vh, rs, hh, h⟩ => ?_) fun cdv A outer s H vs Q E hr h => ?_
  · unfold mFn at h
    split at h
    · rename_i e; rw [← rs.length, e]
    · exact h.elim
  · obtain ⟨⟨K', mg', hid⟩, rfl, rfl, ws, ρ, vh, rs, hh, h⟩ := h
    refine ⟨_, hbody cdv A outer s H E hr (takes_of rfl rfl rfl rfl) hid, ?_⟩
    unfold mFn at h
    split at h
    · rename_i e
      refine ⟨_, ρ, vh, amD (np := ps.length) rs, hh, ?_⟩
      have e2 : yH ps.length N.length ws = ws.map some ++ List.replicate (N.length - vs.length) none := by unfold yH; rw [← rs.length, e]
      rw [← e2]
      cases q : g (yH ps.length N.length ws) vh with
      | nx e' vh' => rw [q] at h; exact fun σ' H' ρ' g' f' x y => h H' ρ' g' f' y .non rfl
      | bk e' vh' => rw [q] at h; exact h.elim
      | ct e' vh' => rw [q] at h; exact h.elim
      | rt w vh' => rw [q] at h; exact fun v H' ρ' g' f' x y => h H' ρ' g' f' y v x
      | exn x e' vh' => rw [q] at h; exact fun cls d σ' H' ρ' g' f' x y z => h cls d H' ρ' g' f' x z
      | stuck => rw [q] at h; exact h.elim
    · exact h.elim

/-! ### shutting: what is handed back is frozen, what was made is dropped -/
def aBj (n : Nat) : VO → Bool
  | .ins _ fs => fs.all fun f => match f.2 with
    | .ref k => decide (k < n)
    | .d _ => true
  | .lsw ws => ws.all fun w => match w with
    | .ref k => decide (k < n)
    | .d _ => true
  | .tpw ws => ws.all fun w => match w with
    | .ref k => decide (k < n)
    | .d _ => true
  | _ => true
def anO (n : Nat) (vh : VH) : Bool := (vh.take n).all (aBj n)
def aCu (n : Nat) (vh : VH) : W → Option W
  | .d x => some (.d x)
  | .ref k => if k < n then some (.ref k) else match vh[k]? with
    | some (.lst ds) => some (.d (.lst ds))
    | some (.dic t kvs) => some (.d (.dic t kvs))
    | _ => none
def aiO (F : FN) : FN := fun ws vh => match F ws vh with
  | .ok w vh' => if vh.length ≤ vh'.length ∧ anO vh.length vh' = true then opt (aCu vh.length vh' w) fun z => .ok z (vh'.take vh.length) else .stuck
  | .exn x vh' => if vh.length ≤ vh'.length ∧ anO vh.length vh' = true then .exn x (vh'.take vh.length) else .stuck
  | .stuck => .stuck

section
variable {c : Cn} {H : Hp} {ρ ρ2 : Rho}
theorem LOk.less (s : ∀ a, some a ∈ ρ2 → some a ∈ ρ) {a : Addr} {xs : List V} (h : LOk c H ρ a xs) : LOk c H ρ2 a xs := h.elim (fun z => .inl ⟨⟨fun y => z.1.1 (s _ y), z.1.2⟩, z.2⟩) .inr
mutual
theorem RelD.less (s : ∀ a, some a ∈ ρ2 → some a ∈ ρ) : ∀ {x : D} {v : V}, RelD c H ρ x v → RelD c H ρ2 x v
  | .non, _, h => h
  | .bl _, _, h => h
  | .int _, _, h => h
  | .str _, _, h => h
  | .tup _, _, ⟨a, xs, e, n, hH, l, r⟩ => ⟨a, xs, e, ⟨fun y => n.1 (s _ y), n.2⟩, hH, l, RelDs.less s r⟩
  | .ctp _, _, ⟨a, xs, e, t, l, r⟩ => ⟨a, xs, e, t, l, RelDs.less s r⟩
  | .lst _, _, ⟨a, xs, e, n, hH, l, r⟩ => ⟨a, xs, e, ⟨fun y => n.1 (s _ y), n.2⟩, hH, l, RelDs.less s r⟩
  | .frz _, _, ⟨a, xs, e, t, l, r⟩ => ⟨a, xs, e, t.less s, l, RelDs.less s r⟩
  | .dic _ _, _, ⟨a, xs, e, n, hH, r⟩ => ⟨a, xs, e, ⟨fun y => n.1 (s _ y), n.2⟩, hH, RelDv.less s r⟩
  | .ins _ _, _, ⟨a, C, dx, xs, e, n, hm, hH, r⟩ => ⟨a, C, dx, xs, e, ⟨fun y => n.1 (s _ y), n.2⟩, hm, hH, RelDf.less s r⟩
  | .ty _, _, h => h
  | .cls _, _, h => h
  | .fdc _ _, _, ⟨a, xs, e, n, hH, r⟩ => ⟨a, xs, e, ⟨fun y => n.1 (s _ y), n.2⟩, hH, RelDv.less s r⟩
  | .exc _ _, _, ⟨a, C, dx, xs, e, n, n2, hm, hH, hD, r⟩ => ⟨a, C, dx, xs, e, ⟨fun y => n.1 (s _ y), n.2⟩, ⟨fun y => n2.1 (s _ y), n2.2⟩, hm, hH, hD, RelDf.less s r⟩
theorem RelDs.less (s : ∀ a, some a ∈ ρ2 → some a ∈ ρ) : ∀ {xs : List D} {vs : List V}, RelDs c H ρ xs vs → RelDs c H ρ2 xs vs
  | [], [], h => trivial
  | _ :: _, _ :: _, ⟨h, t⟩ => ⟨RelD.less s h, RelDs.less s t⟩
theorem RelDv.less (s : ∀ a, some a ∈ ρ2 → some a ∈ ρ) : ∀ {xs : List (D × D)} {vs : List V}, RelDv c H ρ xs vs → RelDv c H ρ2 xs vs
  | [], [], h => trivial
  | (_, _) :: _, _ :: _, ⟨h, t⟩ => ⟨RelD.less s h, RelDv.less s t⟩
theorem RelDf.less (s : ∀ a, some a ∈ ρ2 → some a ∈ ρ) : ∀ {xs : List (Str × D)} {vs : List V}, RelDf c H ρ xs vs → RelDf c H ρ2 xs vs
  | [], [], h => trivial
  | (_, _) :: _, _ :: _, ⟨h, t⟩ => ⟨RelD.less s h, RelDf.less s t⟩
end
theorem rQ {n : Nat} : ∀ a, some a ∈ ρ.take n → some a ∈ ρ := fun a h => List.mem_of_mem_take h
theorem RelWf.take {n : Nat} (hn : n ≤ ρ.length) : ∀ {fs : List (Str × W)} {xs : List V}, (fs.all fun f => match f.2 with | .ref k => decide (k < n) | .d _ => true) = true → RelWf c H ρ fs xs → RelWf c H (ρ.take n) fs xs
  | [], [], _, _ => trivial
  | (_, .d x) :: fs, v :: xs, h, ⟨r, t⟩ => ⟨RelD.less rQ r, RelWf.take hn (by simpa using h) t⟩
  | (_, .ref k) :: fs, v :: xs, h, ⟨⟨r1, r2⟩, t⟩ => by
    rw [List.all_cons, Bool.and_eq_true] at h
    have hk : k < n := by simpa using h.1
    exact ⟨⟨by rw [List.length_take]; omega, fun a ha => r2 a (by rwa [List.getElem?_take_of_lt hk] at ha)⟩, RelWf.take hn h.2 t⟩
theorem RelWs.takeR {n : Nat} (hn : n ≤ ρ.length) : ∀ {ws : List W} {xs : List V}, (ws.all fun w => match w with | .ref k => decide (k < n) | .d _ => true) = true → RelWs c H ρ ws xs → RelWs c H (ρ.take n) ws xs
  | [], [], _, _ => trivial
  | .d x :: fs, v :: xs, h, ⟨r, t⟩ => ⟨RelD.less rQ r, RelWs.takeR hn (by simpa using h) t⟩
  | .ref k :: fs, v :: xs, h, ⟨⟨r1, r2⟩, t⟩ => by
    rw [List.all_cons, Bool.and_eq_true] at h
    have hk : k < n := by simpa using h.1
    exact ⟨⟨by rw [List.length_take]; omega, fun a ha => r2 a (by rwa [List.getElem?_take_of_lt hk] at ha)⟩, RelWs.takeR hn h.2 t⟩
theorem RelO.take {n : Nat} (hn : n ≤ ρ.length) {vo : VO} {o : Option Addr} (k : aBj n vo = true) (h : RelO c H ρ vo o) : RelO c H (ρ.take n) vo o := by
  cases vo with
  | dead => exact h
  | lsw ws => obtain ⟨a, xs, e, hH, l, r⟩ := h; exact ⟨a, xs, e, hH, l, r.takeR hn k⟩
  | tpw ws => obtain ⟨a, xs, e, hH, l, hr, r⟩ := h; exact ⟨a, xs, e, hH, l, hr, r.takeR hn k⟩
  | lst ds => obtain ⟨a, xs, e, hH, l, r⟩ := h; exact ⟨a, xs, e, hH, l, r.less rQ⟩
  | dic t kvs => obtain ⟨a, xs, e, hH, r⟩ := h; exact ⟨a, xs, e, hH, r.less rQ⟩
  | ins n fs => obtain ⟨a, C, dx, xs, e, hm, hH, r⟩ := h; exact ⟨a, C, dx, xs, e, hm, hH, r.take hn k⟩
theorem RelH.take {n : Nat} {vh : VH} (h : RelH c H ρ vh) (hn : n ≤ vh.length) (k : anO n vh = true) : RelH c H (ρ.take n) (vh.take n) where
  len := by rw [List.length_take, List.length_take, h.len]
  inj := fun i j a hi hj => h.inj i j a (by
    by_cases l : i < n
    · rwa [List.getElem?_take_of_lt l] at hi
    · rw [List.getElem?_take, if_neg l] at hi; cases hi) (by
    by_cases l : j < n
    · rwa [List.getElem?_take_of_lt l] at hj
    · rw [List.getElem?_take, if_neg l] at hj; cases hj)
  at' := fun i vo e => by
    by_cases l : i < n
    · have e' := e
      rw [List.getElem?_take_of_lt l] at e
      obtain ⟨o, ho, r⟩ := h.at' i vo e
      refine ⟨o, by rw [List.getElem?_take_of_lt l]; exact ho, r.take (by rw [h.len]; exact hn) ?_⟩
      exact List.all_eq_true.mp k vo (List.mem_of_getElem? e')
    · rw [List.getElem?_take, if_neg l] at e; cases e
  hid := fun a ha => let ⟨e, n⟩ := h.hid a ha; ⟨e, fun z => n (rQ a z)⟩
  tab := h.tab.to fun a o n e => ⟨⟨fun z => n.1 (rQ a z), n.2⟩, e⟩
theorem Grow.take {n : Nat} {ρ' : Rho} (g : Grow ρ H ρ') (hn : n = ρ.length) : Grow ρ H (ρ'.take n) where
  len := by have := g.len; rw [List.length_take]; omega
  old := fun i hi => by rw [List.getElem?_take_of_lt (by omega)]; exact g.old i hi
  new := fun a h => g.new a (rQ a h)
theorem RelDf.less' (s : ∀ a, some a ∈ ρ2 → some a ∈ ρ) {x : Exn} {cls : Value} {d : Option Addr} (h : aCO c H ρ x cls d) : aCO c H ρ2 x cls d := by
  obtain ⟨hm, dd, gs, e, n, hH, r⟩ := h
  exact ⟨hm, dd, gs, e, ⟨fun z => n.1 (s _ z), n.2⟩, hH, r.less s⟩
theorem aA9 {σ : L2.St} {X : WX} {F : FN} {ws : List W} {vh : VH} {Q : VK} (hh : RelH c H ρ vh) (h : Out c σ H ρ X (aiO F ws vh) (KW c Q)) : Out c σ H ρ X (F ws vh) (KW c Q) := by
  unfold aiO at h
  cases q : F ws vh with
  | ok w vh' =>
    simp only [q] at h
    split at h
    · rename_i hk
      obtain ⟨z, hz, h⟩ := dM h
      intro H' ρ' g f rh v rw'
      refine h H' (ρ'.take vh.length) (g.take hh.len.symm) f (rh.take hk.1 hk.2) v ?_
      cases w with
      | d x => cases hz; exact RelD.less rQ rw'
      | ref k =>
        obtain ⟨r1, r2⟩ := rw'
        simp only [aCu] at hz
        split at hz
        · rename_i lk
          cases hz
          exact ⟨by rw [List.length_take]; omega, fun a ha => r2 a (by rwa [List.getElem?_take_of_lt lk] at ha)⟩
        · rename_i lk
          have hnot : ∀ a, ρ'[k]? = some (some a) → some a ∉ ρ'.take vh.length := fun a ha hm => by
            obtain ⟨j, hj, e⟩ := List.mem_iff_getElem.mp hm
            have hj' : j < vh.length := by have hj2 := hj; rw [List.length_take] at hj2; omega
            have e2 : ρ'[j]? = some (some a) := by
              rw [← List.getElem?_take_of_lt hj', List.getElem?_eq_getElem hj, e]
            have e3 := rh.inj _ _ _ ha e2
            exact lk (by omega)
          cases qq : vh'[k]? with
          | none => simp only [qq] at hz; cases hz
          | some vo =>
            obtain ⟨o, ho, ro⟩ := rh.at' k vo qq
            simp only [qq] at hz
            cases vo with
            | lst ds =>
              cases hz
              obtain ⟨a, xs, rfl, hH, l, rr⟩ := ro
              exact ⟨a, xs, r2 a ho, ⟨hnot a ho, fun z => (rh.hid a z).2 (List.mem_of_getElem? ho)⟩, hH, l, rr.less rQ⟩
            | dic t kvs =>
              cases hz
              obtain ⟨a, xs, rfl, hH, rr⟩ := ro
              exact ⟨a, xs, r2 a ho, ⟨hnot a ho, fun z => (rh.hid a z).2 (List.mem_of_getElem? ho)⟩, hH, rr.less rQ⟩
            | ins _ _ => cases hz
            | lsw _ => cases hz
            | tpw _ => cases hz
            | dead => cases hz
    · exact h.elim
  | exn x vh' =>
    simp only [q] at h
    split at h
    · rename_i hk
      exact fun cls d H' ρ' g f rx rh => h cls d H' (ρ'.take vh.length) (g.take hh.len.symm) f (RelDf.less' rQ rx) (rh.take hk.1 hk.2)
    · exact h.elim
  | stuck => simp only [q] at h; exact h
end
theorem spM.shut {K : PySem.W.Frag} {mg : Str → Option Value} {F : FN} : ∀ vs H Q E, spM K mg (aiO F) vs H Q E → spM K mg F vs H Q E := fun vs H Q E ⟨c, hk, hm, ws, ρ, vh, rs, hh, h⟩ => ⟨c, hk, hm, ws, ρ, vh, rs, hh, aA9 hh h⟩
theorem FnOk.shut {P : Program} {w : World} {K : PySem.W.Frag} {mg : Str → Option Value} {base : Heap} {f : Addr} {fd : FuncData} {ps : List Str} {k : Nat} {F : FN} {CX : CXT} (h : FnOk P w K mg base CX k f fd ps (spM K mg F)) : FnOk P w K mg base CX k f fd ps (spM K mg (aiO F)) :=
  h.imp spM.shut
/-! ### calls -/
def aFF (F : FN) (dws : List W) (fa : FA) : FE := fun e vh => bnd (fa e vh) fun ws vh1 => F (ws ++ dws) vh1
section
variable {c : Cn} {X : Cx} {U : WX} {e : Expr} {es : List Expr} {pos p : Pos} {F : FN} {f : Addr} {fd : FuncData} {ps : List Str} {k : Nat} {x : Str} {ds : List Value} {dvs : List V} {dws : List W} {fa : FA}
theorem RelWs.append {H : Hp} {ρ : Rho} : ∀ {xs ys : List W} {vs us : List V}, RelWs c H ρ xs vs → RelWs c H ρ ys us → RelWs c H ρ (xs ++ ys) (vs ++ us)
  | [], _, [], _, _, s => s
  | _ :: _, _, _ :: _, _, ⟨h, t⟩, s => ⟨h, RelWs.append t s⟩
theorem Out.sigma {α : Type} {σ τ : L2.St} {H : Hp} {ρ : Rho} {E : XK} {r : Res α} {K : α → VH → Hp → Rho → Prop} (h : Out c σ H ρ U r K) (he : ∀ cls d H, U cls d σ H → E cls d H) : Out c τ H ρ (fun cls d _ H' => E cls d H') r K := by
  cases r with
  | ok w vh => exact h
  | exn x vh => exact fun cls d H' ρ' g f rx rh => he _ _ _ (h cls d H' ρ' g f rx rh)
  | stuck => exact h
end
end Mn

namespace Mn
open PySem PySem.Spec PyProof.Rows L2
variable [TL : TabList]

/-! ### data as the library's PyData -/
mutual
def wN : D → Option PyData
  | .non => some .none
  | .bl b => some (.bool b)
  | .int i => some (.int i)
  | .str x => some (.str x)
  | .tup ds => (toPys ds).map .tuple
  | .ctp ds => (toPys ds).map .tuple
  | .lst ds => (toPys ds).map .list
  | _ => none
def toPys : List D → Option (List PyData)
  | [] => some []
  | d :: ds => match wN d, toPys ds with
    | some p, some ps => some (p :: ps)
    | _, _ => none
end
section
variable {c : Cn} {H : Hp} {ρ : Rho}
mutual
theorem alU : ∀ {x : D} {v : V} {p : PyData}, RelD c H ρ x v → wN x = some p → Dp c.K H v p ∧ p.canLay0 = true
  | .non, _, _, h, q => by cases h; cases q; exact ⟨.non, rfl⟩
  | .bl _, _, _, h, q => by cases h; cases q; exact ⟨.bl _, rfl⟩
  | .int _, _, _, h, q => by cases h; cases q; exact ⟨.int _, rfl⟩
  | .str _, _, _, ⟨h, _, hs⟩, q => by cases h; cases q; exact ⟨.str _, by simpa [PyData.canLay0] using hs⟩
  | .tup ds, _, p, ⟨a, xs, e, n, hH, l, r⟩, q => by
    simp only [wN] at q
    obtain ⟨ps, hp, rfl⟩ := Option.map_eq_some_iff.mp q
    subst e
    obtain ⟨h1, h2⟩ := dp_ofs r hp
    exact ⟨.tup (.of hH) h1, by simpa [PyData.canLay0] using h2⟩
  | .ctp ds, _, p, ⟨a, xs, e, t, l, r⟩, q => by
    simp only [wN] at q
    obtain ⟨ps, hp, rfl⟩ := Option.map_eq_some_iff.mp q
    subst e
    obtain ⟨h1, h2⟩ := dp_ofs r hp
    exact ⟨.tup t.sq h1, by simpa [PyData.canLay0] using h2⟩
  | .lst ds, _, p, ⟨a, xs, e, n, hH, l, r⟩, q => by
    simp only [wN] at q
    obtain ⟨ps, hp, rfl⟩ := Option.map_eq_some_iff.mp q
    subst e
    obtain ⟨h1, h2⟩ := dp_ofs r hp
    exact ⟨.lst (.of hH) h1, by simpa [PyData.canLay0] using h2⟩
  | .frz _, _, _, _, q => by cases q
  | .dic _ _, _, _, _, q => by cases q
  | .ins _ _, _, _, _, q => by cases q
  | .ty _, _, _, _, q => by cases q
  | .cls _, _, _, _, q => by cases q
  | .fdc _ _, _, _, _, q => by cases q
  | .exc _ _, _, _, _, q => by cases q
theorem dp_ofs : ∀ {xs : List D} {vs : List V} {ps : List PyData}, RelDs c H ρ xs vs → toPys xs = some ps → DpAll c.K H vs ps ∧ PyData.canLayAll0 ps = true
  | [], [], _, _, q => by cases q; exact ⟨.nil, rfl⟩
  | d :: ds, v :: vs, ps, ⟨r, t⟩, q => by
    simp only [toPys] at q
    split at q
    · rename_i p qs h1 h2
      cases q
      obtain ⟨a1, a2⟩ := alU r h1
      obtain ⟨b1, b2⟩ := dp_ofs t h2
      exact ⟨.cons a1 b1, by simp [PyData.canLayAll0, a2, b2]⟩
    · cases q
end
theorem awI {x : D} {v : V} {p : PyData} (h : RelR c H ρ x v) (q : wN x = some p) : Dp c.K H v p ∧ p.canLay0 = true := by
  cases x with
  | lst ds =>
    obtain ⟨a, xs, e, hH, l, r⟩ := h
    simp only [wN] at q
    obtain ⟨ps, hp, rfl⟩ := Option.map_eq_some_iff.mp q
    subst e
    obtain ⟨h1, h2⟩ := dp_ofs r hp
    exact ⟨.lst (.of hH) h1, by simpa [PyData.canLay0] using h2⟩
  | dic _ _ => cases q
  | non => exact alU h q
  | bl _ => exact alU h q
  | int _ => exact alU h q
  | str _ => exact alU h q
  | tup _ => exact alU h q
  | ctp _ => exact alU h q
  | frz _ => exact alU h q
  | ins _ _ => exact alU h q
  | ty _ => cases q
  | cls _ => cases q
  | fdc _ _ => cases q
  | exc _ _ => cases q
end

/-! ### == and != of data -/
def dEq (x y : D) : Option D := match wN x, wN y with
  | some p, some q => if min p.depth q.depth ≤ 60 then some (.bl (PyData.eqv p q)) else none
  | _, _ => none
def dNe (x y : D) : Option D := match wN x, wN y with
  | some p, some q => if min p.depth q.depth ≤ 60 then some (.bl (!PyData.eqv p q)) else none
  | _, _ => none
def aCL (K : PySem.W.Frag) (n : Bool) : R2 := fun x y H Q => ∃ d e, Dp K H x d ∧ Dp K H y e ∧ d.canLay0 = true ∧ e.canLay0 = true ∧ min d.depth e.depth ≤ 60 ∧ Q (.bl (if n then !PyData.eqv d e else PyData.eqv d e)) H
section
variable {X : Cx} {c : Cn} {U : WX}
theorem aeN (hu : X.A.units + 64 < cLine) : OpR X (compareOp .Eq) (aCL X.K false) := by
  intro pins s σ H x y v u Q I rx ry h
  obtain ⟨d, e, hd, he, sd, se, hm, q⟩ := h
  obtain ⟨as, r1⟩ := Dp.reads I d x v hd rx
  obtain ⟨bs, r2⟩ := Dp.reads I e y u he ry
  exact SeqAt.compareEq_reads r1 r2 sd se (by omega) ⟨.bl _, H, I, rfl, q⟩
theorem aAL (hu : X.A.units + 64 < cLine) : OpR X (compareOp .NotEq) (aCL X.K true) := by
  intro pins s σ H x y v u Q I rx ry h
  obtain ⟨d, e, hd, he, sd, se, hm, q⟩ := h
  obtain ⟨as, r1⟩ := Dp.reads I d x v hd rx
  obtain ⟨bs, r2⟩ := Dp.reads I e y u he ry
  exact SeqAt.compareNe_reads r1 r2 sd se (by omega) ⟨.bl _, H, I, rfl, q⟩
theorem aiM : OpD c (aCL c.K false) dEq := fun H ρ x y v u z Q fr rx ry e k => by
  unfold dEq at e
  split at e
  · rename_i p q h1 h2
    split at e
    · rename_i hm
      cases e
      obtain ⟨a1, a2⟩ := awI rx h1
      obtain ⟨b1, b2⟩ := awI ry h2
      exact ⟨p, q, a1, b1, a2, b2, hm, k _ H (Same.refl H) rfl⟩
    · cases e
  · cases e
theorem aDt : OpD c (aCL c.K true) dNe := fun H ρ x y v u z Q fr rx ry e k => by
  unfold dNe at e
  split at e
  · rename_i p q h1 h2
    split at e
    · rename_i hm
      cases e
      obtain ⟨a1, a2⟩ := awI rx h1
      obtain ⟨b1, b2⟩ := awI ry h2
      exact ⟨p, q, a1, b1, a2, b2, hm, k _ H (Same.refl H) rfl⟩
    · cases e
  · cases e
/-! ### is None -/
def D.isNon : D → Bool
  | .non => true
  | _ => false
def aJT (x y : D) : Option D := match y with
  | .non => some (.bl x.isNon)
  | _ => none
def aJt (x y : D) : Option D := match y with
  | .non => some (.bl !x.isNon)
  | _ => none
/-! ### ints, texts, lists, tuples: + - * // % ** < -/
def acA (g : Int → Int → Option D) (x y : D) : Option D := match x, y with
  | .int i, .int j => g i j
  | _, _ => none
theorem ayZ {C : Int → Int → Prop} {g : Int → Int → V} {f : Int → Int → Option D} (h : ∀ i j z, f i j = some z → C i j ∧ ∀ H ρ, RelD c H ρ z (g i j)) : OpD c (rI C g) (acA f) := fun H ρ x y v u z Q fr rx ry e k => by
  unfold acA at e
  split at e
  · rename_i i j
    obtain ⟨h1, h2⟩ := h i j z e
    exact ⟨i, j, rx, ry, h1, k _ H (Same.refl H) (h2 _ _)⟩
  · cases e
theorem atL {g : Int → Int → V} {f : Int → Int → D} (h : ∀ i j H ρ, RelD c H ρ (f i j) (g i j)) : OpD c (rI0 g) (acA fun i j => some (f i j)) := fun H ρ x y v u z Q fr rx ry e k => by
  unfold acA at e
  split at e
  · rename_i i j
    cases e
    exact ⟨i, j, rx, ry, k _ H (Same.refl H) (h i j _ _)⟩
  · cases e
def aEF : D → D → Option D := acA fun i j => some (.int (i - j))
def afK : D → D → Option D := acA fun i j => if (-(2 ^ 64) < i ∧ i < 2 ^ 64) ∨ (-(2 ^ 64) < j ∧ j < 2 ^ 64) then some (.int (i * j)) else none
def apZ : D → D → Option D := acA fun i j => if 0 < j ∧ j < 1073741824 then some (.int (i / j)) else none
def alC : D → D → Option D := acA fun i j => if 0 < j then some (.int (i % j)) else none
def aEL : D → D → Option D := acA fun i j => if 0 ≤ j ∧ j ≤ 1000000 ∧ i.natAbs < 2 ^ 64 then some (.int (i ^ j.toNat)) else none
def dLt : D → D → Option D := acA fun i j => some (.bl (decide (i < j)))
def dLe : D → D → Option D := acA fun i j => some (.bl (decide (i ≤ j)))
def dGt : D → D → Option D := acA fun i j => some (.bl (decide (j < i)))
def dGe : D → D → Option D := acA fun i j => some (.bl (decide (j ≤ i)))
theorem aEv : OpD c (rI0 fun i j => .int (i - j)) aEF := atL fun _ _ _ _ => rfl
theorem ajX : OpD c (rI CMul fun i j => .int (i * j)) afK := ayZ fun i j z e => by
  split at e
  · rename_i h; cases e; exact ⟨h, fun _ _ => rfl⟩
  · cases e
theorem azF : OpD c (rI CDiv fun i j => .int (i / j)) apZ := ayZ fun i j z e => by
  split at e
  · rename_i h; cases e; exact ⟨h, fun _ _ => rfl⟩
  · cases e
theorem anD : OpD c (rI (fun _ j => 0 < j) fun i j => .int (i % j)) alC := ayZ fun i j z e => by
  split at e
  · rename_i h; cases e; exact ⟨h, fun _ _ => rfl⟩
  · cases e
theorem aDE : OpD c (rI CPow fun i j => .int (i ^ j.toNat)) aEL := ayZ fun i j z e => by
  split at e
  · rename_i h; cases e; exact ⟨h, fun _ _ => rfl⟩
  · cases e
theorem awD : OpD c (rI0 fun i j => .bl (decide (i < j))) dLt := atL fun _ _ _ _ => rfl
theorem aCX : OpD c (rI0 fun i j => .bl (decide (j < i))) dGt := atL fun _ _ _ _ => rfl
theorem aGd : OpD c (rI0 fun i j => .bl (decide (j ≤ i))) dGe := atL fun _ _ _ _ => rfl
def aFl : D → Option (List D)
  | .tup ds => some ds
  | .ctp ds => some ds
  | _ => none
def abP (x y : D) : Option D := match x, y with
  | .int i, .int j => some (.int (i + j))
  | .str a, .str b => if a.length + b.length ≤ sizeLine then some (.str (a ++ b)) else none
  | .lst a, .lst b => if a.length + b.length ≤ sizeLine then some (.lst (a ++ b)) else none
  | .tup a, .tup b => if a.length + b.length ≤ sizeLine then some (.tup (a ++ b)) else none
  | _, _ => none
theorem pC {a b : Str} (ha : PyData.strOk a = true) (hb : PyData.strOk b = true) : PyData.strOk (a ++ b) = true := by
  unfold PyData.strOk at *
  show (a.cps ++ b.cps).all _ = true
  rw [Array.all_append, ha, hb]; rfl
theorem awT (a b : Str) : (a ++ b).length = a.length + b.length := by
  show (a.cps ++ b.cps).size = _
  rw [Array.size_append]; rfl
def aDl (K : PySem.W.Frag) : R2 := fun x y H Q => rI0 (fun i j => .int (i + j)) x y H Q ∨ (∃ i j, x = .str i ∧ y = .str j ∧ i.length + j.length ≤ sizeLine ∧ Q (.str (i ++ j)) H) ∨ rCat x y H Q ∨ rCatA K x y H Q
theorem jC : OpR X (binaryOp .Add) (aDl X.K) := op_add.or (op_add_str.or (op_cat.or op_catA))
theorem nU : OpD c (aDl c.K) abP := fun H ρ x y v u z Q fr rx ry e k => by
  unfold abP at e
  split at e
  · rename_i i j
    cases e
    exact .inl ⟨i, j, rx, ry, k _ H (Same.refl H) rfl⟩
  · rename_i a b
    split at e
    · rename_i hl
      cases e
      exact .inr (.inl ⟨a, b, rx.1, ry.1, hl, k _ H (Same.refl H) ⟨rfl, by rw [awT]; exact hl, pC rx.2.2 ry.2.2⟩⟩)
    · cases e
  · rename_i a b
    split at e
    · rename_i hl
      cases e
      obtain ⟨p, xs, rfl, hH, l, r⟩ := rx
      obtain ⟨p2, ys, rfl, hH2, l2, r2⟩ := ry
      refine .inr (.inr (.inl ⟨p, p2, xs, ys, rfl, rfl, hH, hH2, by rw [← r.length, ← r2.length]; exact hl, fun q hq => ?_⟩))
      exact k _ _ (jD hq) ⟨q, _, rfl, fr q hq, upd_same, by rw [List.length_append]; exact hl, (r.append r2).stay (Grow.refl _ _) (Fm.new hq)⟩
    · cases e
  · rename_i a b
    split at e
    · rename_i hl
      cases e
      obtain ⟨p, xs, rfl, n, hH, l, r⟩ := rx
      obtain ⟨p2, ys, rfl, n2, hH2, l2, r2⟩ := ry
      refine .inr (.inr (.inr ⟨p, p2, xs, ys, rfl, rfl, .of hH, .of hH2, by rw [← r.length, ← r2.length]; exact hl, fun q => ?_, fun q1 q2 => ?_, fun q1 q2 q hq => ?_⟩))
      · subst q
        cases a with
        | nil => exact k _ H (Same.refl H) ⟨p2, ys, rfl, n2, hH2, l2, r2⟩
        | cons _ _ => exact r.elim
      · subst q2
        cases b with
        | nil => rw [List.append_nil] at k; exact k _ H (Same.refl H) ⟨p, xs, rfl, n, hH, l, r⟩
        | cons _ _ => exact r2.elim
      · exact k _ _ (jD hq) ⟨q, _, rfl, fr q hq, upd_same, by rw [List.length_append]; exact hl, (r.append r2).stay (Grow.refl _ _) (Fm.new hq)⟩
    · cases e
  · cases e
end
end Mn

namespace Mn
open PySem PySem.Spec PyProof.Rows L2
variable [TL : TabList]

/-! ### dicts by keys -/
theorem aCt {c : Cn} {H : Hp} {ρ : Rho} {x : D} {v : V} {k : Key} (h : RelD c H ρ x v) (e : wM x = some k) : v = kV k := by
  cases x with
  | int i => cases e; cases h; rfl
  | str x => cases e; obtain ⟨rfl, _⟩ := h; rfl
  | _ => cases e
theorem aBi {c : Cn} {H : Hp} {ρ : Rho} : ∀ {ds : List D} {vs : List V} {ks : List Key}, RelDs c H ρ ds vs → aB8 ds = some ks → vs = ks.map kV
  | [], [], _, _, e => by cases e; rfl
  | d :: ds, v :: vs, ks, ⟨r, t⟩, e => by
    simp only [aB8] at e
    split at e
    · rename_i k ks' h1 h2
      cases e
      rw [aCt r h1, aBi t h2]; rfl
    · cases e
/-- the place of a key -/
def aqE : List (D × D) → Key → Option D
  | [], _ => none
  | (a, b) :: r, k => if wM a = some k then some b else aqE r k
def auD : List (D × D) → List Key → Option D
  | [], _ => none
  | (a, b) :: r, k => if wD a = some k then some b else auD r k
/-- (is it a key?) what stands there -/
def aAh (t : Bool) (kvs : List (D × D)) (x : D) : Option (Option D) := match t with
  | false => (wM x).map (aqE kvs)
  | true => (wD x).map (auD kvs)
def as8 (kvs : List (D × D)) (k : Key) (x v : D) : List (D × D) :=
  if kvs.any (fun p => decide (wM p.1 = some k)) = true then kvs.map (fun p => if wM p.1 = some k then (p.1, v) else p) else kvs ++ [(x, v)]
def auY (kvs : List (D × D)) (k : List Key) (x v : D) : List (D × D) :=
  if kvs.any (fun p => decide (wD p.1 = some k)) = true then kvs.map (fun p => if wD p.1 = some k then (p.1, v) else p) else kvs ++ [(x, v)]
def aGJ (t : Bool) (kvs : List (D × D)) (x v : D) : Option (List (D × D)) := match t with
  | false => (wM x).map fun k => as8 kvs k x v
  | true => (wD x).map fun k => auY kvs k x v
section
variable {c : Cn} {H : Hp} {ρ : Rho}
def ay4 (c : Cn) (H : Hp) (ρ : Rho) : Option D → Option V → Prop
  | some x, some v => RelD c H ρ x v
  | none, none => True
  | _, _ => False
theorem acD : ∀ {kvs : List (D × D)} {ks : List Key}, rG kvs = some ks → ks.length = kvs.length
  | [], _, e => by cases e; rfl
  | (a, _) :: r, ks, e => by
    simp only [rG] at e
    split at e
    · rename_i h1 h2; cases e; simp [acD h2]
    · cases e
theorem ahT : ∀ {kvs : List (D × D)} {ks : List (List Key)}, vA kvs = some ks → ks.length = kvs.length
  | [], _, e => by cases e; rfl
  | (a, _) :: r, ks, e => by
    simp only [vA] at e
    split at e
    · rename_i h1 h2; cases e; simp [ahT h2]
    · cases e
theorem RelDv.length : ∀ {kvs : List (D × D)} {xs : List V}, RelDv c H ρ kvs xs → kvs.length = xs.length
  | [], [], _ => rfl
  | (_, _) :: _, _ :: _, ⟨_, t⟩ => congrArg (· + 1) (RelDv.length t)
theorem aw2 {k : Key} : ∀ {kvs : List (D × D)} {ks : List Key} {xs : List V}, rG kvs = some ks → RelDv c H ρ kvs xs → ay4 c H ρ (aqE kvs k) (valV (ks.zip xs) k)
  | [], _, [], e, _ => by cases e; trivial
  | (a, b) :: r, ks, v :: xs, e, ⟨h, t⟩ => by
    simp only [rG] at e
    split at e
    · rename_i k' ks' h1 h2
      cases e
      have ih := aw2 (k := k) h2 t
      unfold aqE valV
      rw [List.zip_cons_cons, List.find?_cons]
      by_cases hk : k' = k
      · subst hk
        rw [if_pos h1]
        simp only [decide_true, Option.map_some]
        exact h
      · rw [if_neg (by rw [h1]; exact fun z => hk (Option.some.inj z))]
        simp only [hk, decide_false]
        exact ih
    · cases e
theorem axL {k : List Key} : ∀ {kvs : List (D × D)} {ks : List (List Key)} {xs : List V}, vA kvs = some ks → RelDv c H ρ kvs xs → ay4 c H ρ (auD kvs k) (valV (ks.zip xs) k)
  | [], _, [], e, _ => by cases e; trivial
  | (a, b) :: r, ks, v :: xs, e, ⟨h, t⟩ => by
    simp only [vA] at e
    split at e
    · rename_i k' ks' h1 h2
      cases e
      have ih := axL (k := k) h2 t
      unfold auD valV
      rw [List.zip_cons_cons, List.find?_cons]
      by_cases hk : k' = k
      · subst hk
        rw [if_pos h1]
        simp only [decide_true, Option.map_some]
        exact h
      · rw [if_neg (by rw [h1]; exact fun z => hk (Option.some.inj z))]
        simp only [hk, decide_false]
        exact ih
    · cases e
theorem aC1 {k : Key} : ∀ {kvs : List (D × D)} {ks : List (Key)} {xs : List V}, rG kvs = some ks → RelDv c H ρ kvs xs → (ks.zip xs).any (fun kv => decide (kv.1 = k)) = kvs.any (fun p => decide (wM p.1 = some k))
  | [], _, [], e, _ => by cases e; rfl
  | (a, b) :: r, ks, v :: xs, e, ⟨h, t⟩ => by
    simp only [rG] at e
    split at e
    · rename_i k' ks' h1 h2
      cases e
      rw [List.zip_cons_cons, List.any_cons, List.any_cons, aC1 h2 t, h1]
      simp
    · cases e
theorem aDx {k : Key} {d : D} {v : V} (hv : RelD c H ρ d v) : ∀ {kvs : List (D × D)} {ks : List (Key)} {xs : List V}, rG kvs = some ks → RelDv c H ρ kvs xs →
    ∃ xs', rG (kvs.map fun p => if wM p.1 = some k then (p.1, d) else p) = some ks ∧ (ks.zip xs).map (fun kv => if kv.1 = k then (kv.1, v) else kv) = ks.zip xs' ∧ RelDv c H ρ (kvs.map fun p => if wM p.1 = some k then (p.1, d) else p) xs'
  | [], _, [], e, _ => by cases e; exact ⟨[], rfl, rfl, trivial⟩
  | (a, b) :: r, ks, w :: xs, e, ⟨h, t⟩ => by
    simp only [rG] at e
    split at e
    · rename_i k' ks' h1 h2
      cases e
      obtain ⟨xs2, e1, e2, e3⟩ := aDx (k := k) hv h2 t
      by_cases hk : k' = k
      · subst hk
        refine ⟨v :: xs2, ?_, ?_, ?_⟩
        · rw [List.map_cons]; simp only [h1, if_true, rG, e1]
        · rw [List.zip_cons_cons, List.map_cons, e2]; simp
        · rw [List.map_cons]; simp only [h1, if_true]; exact ⟨hv, e3⟩
      · have hk2 : ¬ some k' = some k := fun z => hk (Option.some.inj z)
        refine ⟨w :: xs2, ?_, ?_, ?_⟩
        · rw [List.map_cons]; simp only [h1, hk2, if_false, rG, e1]
        · rw [List.zip_cons_cons, List.map_cons, e2]; simp [hk]
        · rw [List.map_cons]; simp only [h1, hk2, if_false]; exact ⟨h, e3⟩
    · cases e
theorem aDv {k : Key} {x d : D} {v : V} (hx : wM x = some k) (hv : RelD c H ρ d v) : ∀ {kvs : List (D × D)} {ks : List (Key)} {xs : List V}, rG kvs = some ks → RelDv c H ρ kvs xs →
    rG (kvs ++ [(x, d)]) = some (ks ++ [k]) ∧ RelDv c H ρ (kvs ++ [(x, d)]) (xs ++ [v])
  | [], _, [], e, _ => by cases e; exact ⟨by simp [rG, hx], ⟨hv, trivial⟩⟩
  | (a, b) :: r, ks, w :: xs, e, ⟨h, t⟩ => by
    simp only [rG] at e
    split at e
    · rename_i k' ks' h1 h2
      cases e
      obtain ⟨e1, e2⟩ := aDv hx hv h2 t
      exact ⟨by simp [rG, h1, e1], ⟨h, e2⟩⟩
    · cases e
theorem aEh {k : Key} {x d : D} {v : V} (hx : wM x = some k) (hv : RelD c H ρ d v) {kvs : List (D × D)} {ks : List (Key)} {xs : List V} (e : rG kvs = some ks) (r : RelDv c H ρ kvs xs) :
    ∃ ks' xs', rG (as8 kvs k x d) = some ks' ∧ putK (ks.zip xs) k v = ks'.zip xs' ∧ RelDv c H ρ (as8 kvs k x d) xs' := by
  unfold as8 putK
  rw [aC1 e r]
  by_cases hk : kvs.any (fun p => decide (wM p.1 = some k)) = true
  · rw [if_pos hk, if_pos hk]
    obtain ⟨xs', e1, e2, e3⟩ := aDx (k := k) hv e r
    exact ⟨ks, xs', e1, e2, e3⟩
  · rw [if_neg hk, if_neg hk]
    obtain ⟨e1, e2⟩ := aDv hx hv e r
    refine ⟨_, _, e1, ?_, e2⟩
    rw [List.zip_append (by rw [acD e, r.length])]
    rfl
theorem aCZ {k : List Key} : ∀ {kvs : List (D × D)} {ks : List (List Key)} {xs : List V}, vA kvs = some ks → RelDv c H ρ kvs xs → (ks.zip xs).any (fun kv => decide (kv.1 = k)) = kvs.any (fun p => decide (wD p.1 = some k))
  | [], _, [], e, _ => by cases e; rfl
  | (a, b) :: r, ks, v :: xs, e, ⟨h, t⟩ => by
    simp only [vA] at e
    split at e
    · rename_i k' ks' h1 h2
      cases e
      rw [List.zip_cons_cons, List.any_cons, List.any_cons, aCZ h2 t, h1]
      simp
    · cases e
theorem aC8 {k : List Key} {d : D} {v : V} (hv : RelD c H ρ d v) : ∀ {kvs : List (D × D)} {ks : List (List Key)} {xs : List V}, vA kvs = some ks → RelDv c H ρ kvs xs →
    ∃ xs', vA (kvs.map fun p => if wD p.1 = some k then (p.1, d) else p) = some ks ∧ (ks.zip xs).map (fun kv => if kv.1 = k then (kv.1, v) else kv) = ks.zip xs' ∧ RelDv c H ρ (kvs.map fun p => if wD p.1 = some k then (p.1, d) else p) xs'
  | [], _, [], e, _ => by cases e; exact ⟨[], rfl, rfl, trivial⟩
  | (a, b) :: r, ks, w :: xs, e, ⟨h, t⟩ => by
    simp only [vA] at e
    split at e
    · rename_i k' ks' h1 h2
      cases e
      obtain ⟨xs2, e1, e2, e3⟩ := aC8 (k := k) hv h2 t
      by_cases hk : k' = k
      · subst hk
        refine ⟨v :: xs2, ?_, ?_, ?_⟩
        · rw [List.map_cons]; simp only [h1, if_true, vA, e1]
        · rw [List.zip_cons_cons, List.map_cons, e2]; simp
        · rw [List.map_cons]; simp only [h1, if_true]; exact ⟨hv, e3⟩
      · have hk2 : ¬ some k' = some k := fun z => hk (Option.some.inj z)
        refine ⟨w :: xs2, ?_, ?_, ?_⟩
        · rw [List.map_cons]; simp only [h1, hk2, if_false, vA, e1]
        · rw [List.zip_cons_cons, List.map_cons, e2]; simp [hk]
        · rw [List.map_cons]; simp only [h1, hk2, if_false]; exact ⟨h, e3⟩
    · cases e
theorem aDz {k : List Key} {x d : D} {v : V} (hx : wD x = some k) (hv : RelD c H ρ d v) : ∀ {kvs : List (D × D)} {ks : List (List Key)} {xs : List V}, vA kvs = some ks → RelDv c H ρ kvs xs →
    vA (kvs ++ [(x, d)]) = some (ks ++ [k]) ∧ RelDv c H ρ (kvs ++ [(x, d)]) (xs ++ [v])
  | [], _, [], e, _ => by cases e; exact ⟨by simp [vA, hx], ⟨hv, trivial⟩⟩
  | (a, b) :: r, ks, w :: xs, e, ⟨h, t⟩ => by
    simp only [vA] at e
    split at e
    · rename_i k' ks' h1 h2
      cases e
      obtain ⟨e1, e2⟩ := aDz hx hv h2 t
      exact ⟨by simp [vA, h1, e1], ⟨h, e2⟩⟩
    · cases e
theorem aEn {k : List Key} {x d : D} {v : V} (hx : wD x = some k) (hv : RelD c H ρ d v) {kvs : List (D × D)} {ks : List (List Key)} {xs : List V} (e : vA kvs = some ks) (r : RelDv c H ρ kvs xs) :
    ∃ ks' xs', vA (auY kvs k x d) = some ks' ∧ putK (ks.zip xs) k v = ks'.zip xs' ∧ RelDv c H ρ (auY kvs k x d) xs' := by
  unfold auY putK
  rw [aCZ e r]
  by_cases hk : kvs.any (fun p => decide (wD p.1 = some k)) = true
  · rw [if_pos hk, if_pos hk]
    obtain ⟨xs', e1, e2, e3⟩ := aC8 (k := k) hv e r
    exact ⟨ks, xs', e1, e2, e3⟩
  · rw [if_neg hk, if_neg hk]
    obtain ⟨e1, e2⟩ := aDz hx hv e r
    refine ⟨_, _, e1, ?_, e2⟩
    rw [List.zip_append (by rw [ahT e, r.length])]
    rfl
theorem RelR.d_key {x : D} {v : V} {k : Key} (h : RelR c H ρ x v) (e : wM x = some k) : v = kV k := by
  cases x with
  | int i => cases e; cases h; rfl
  | str x => cases e; obtain ⟨rfl, _⟩ := h; rfl
  | _ => cases e
theorem RelR.d_keyT {x : D} {v : V} {k : List Key} (h : RelR c H ρ x v) (e : wD x = some k) : ∃ b, v = .ref b ∧ H b = some (.tup (k.map kV)) := by
  cases x with
  | tup ds =>
    obtain ⟨a, xs, rfl, n, hH, l, r⟩ := h
    exact ⟨a, rfl, by rw [hH, aBi r e]⟩
  | _ => cases e
theorem azX {t : Bool} {kvs : List (D × D)} {xs : List V} {a : Addr} {x : D} {y : V} {o : Option D} (h : HDic H a t kvs xs) (r : RelDv c H ρ kvs xs) (hx : RelR c H ρ x y) (e : aAh t kvs x = some o) : ∃ ov, DGet H a y ov ∧ ay4 c H ρ o ov := by
  cases t with
  | false =>
    obtain ⟨ks, h1, h2⟩ := h
    obtain ⟨k, hk, rfl⟩ := Option.map_eq_some_iff.mp e
    exact ⟨_, .inl ⟨_, k, .inl h2, hx.d_key hk, rfl⟩, aw2 h1 r⟩
  | true =>
    obtain ⟨ks, h1, h2⟩ := h
    obtain ⟨k, hk, rfl⟩ := Option.map_eq_some_iff.mp e
    obtain ⟨b, e1, e2⟩ := hx.d_keyT hk
    exact ⟨_, .inr ⟨_, k, b, .inl h2, e1, e2, rfl⟩, axL h1 r⟩
theorem auX {t : Bool} {kvs : List (D × D)} {xs : List V} {a : Addr} {x : D} {y : V} {o : Option D} (h : HFrz H a t kvs xs) (r : RelDv c H ρ kvs xs) (hx : RelR c H ρ x y) (e : aAh t kvs x = some o) : ∃ ov, DGet H a y ov ∧ ay4 c H ρ o ov := by
  cases t with
  | false =>
    obtain ⟨ks, od, h1, h2⟩ := h
    obtain ⟨k, hk, rfl⟩ := Option.map_eq_some_iff.mp e
    exact ⟨_, .inl ⟨_, k, .inr ⟨od, h2⟩, hx.d_key hk, rfl⟩, aw2 h1 r⟩
  | true =>
    obtain ⟨ks, od, h1, h2⟩ := h
    obtain ⟨k, hk, rfl⟩ := Option.map_eq_some_iff.mp e
    obtain ⟨b, e1, e2⟩ := hx.d_keyT hk
    exact ⟨_, .inr ⟨_, k, b, .inr ⟨od, h2⟩, e1, e2, rfl⟩, axL h1 r⟩
end

/-! ### in -/
def ag5 : D → Bool
  | .non => true
  | .bl _ => true
  | .int _ => true
  | .str _ => true
  | _ => false
def agU : D → D → Bool
  | .non, .non => true
  | .bl a, .bl b => a == b
  | .bl a, .int b => (if a then 1 else 0) == b
  | .int a, .bl b => a == (if b then 1 else 0)
  | .int a, .int b => a == b
  | .str a, .str b => a == b
  | _, _ => false
def dIn (x y : D) : Option Bool := match y with
  | .str z => match x with
    | .str s => if s.cps.size = 1 then some (decide (s.cps.getD 0 0 ∈ z.cps.toList)) else none
    | _ => none
  | .tup ds => if ag5 x && ds.all ag5 then some (ds.any fun d => agU d x) else none
  | .ctp ds => if ag5 x && ds.all ag5 then some (ds.any fun d => agU d x) else none
  | .lst ds => match wN x, toPys ds with
    | some p, some ps => if p.depth ≤ 50 ∧ PyData.depthAll ps ≤ 50 then some (ps.any fun z => PyData.eqv z p) else none
    | _, _ => none
  | .dic t kvs => (aAh t kvs x).map (·.isSome)
  | .fdc t kvs => (aAh t kvs x).map (·.isSome)
  | _ => none
def aCq (x y : D) : Option D := (dIn x y).map D.bl
def aHd (x y : D) : Option D := (dIn x y).map fun b => .bl !b
section
variable {X : Cx} {c : Cn} {U : WX}
/-- `in` of all kinds; n: not in -/
def aCw (K : PySem.W.Frag) (n : Bool) : R2 := fun x y H Q =>
  (∃ (ch : Nat) (z : Str), x = .str ⟨#[ch]⟩ ∧ y = .str z ∧ Q (.bl (if n then !decide (ch ∈ z.cps.toList) else decide (ch ∈ z.cps.toList))) H) ∨
  rIn K n x y H Q ∨
  (∃ d ds, Dp K H x d ∧ Dp K H y (.list ds) ∧ SeqAt.shaped d = true ∧ SeqAt.shaped (.list ds) = true ∧ Q (.bl (if n then !(ds.any fun z => PyData.eqv z d) else ds.any fun z => PyData.eqv z d)) H) ∨
  (∃ a o, y = .ref a ∧ DGet H a x o ∧ Q (.bl (if n then !o.isSome else o.isSome)) H)
theorem aw6 (hu : X.A.units + 65 < cLine) : OpR X (compareOp .In) (aCw X.K false) := by
  intro pins s σ H x y v u Q I rx ry h
  rcases h with ⟨ch, z, e1, e2, q⟩ | h | ⟨d, ds, h1, h2, h3, h4, q⟩ | ⟨a, o, rfl, g, q⟩
  · exact op_in_sign pins s σ H x y v u Q I rx ry ⟨ch, z, e1, e2, q⟩
  · exact op_in_seq pins s σ H x y v u Q I rx ry h
  · exact op_inD hu pins s σ H x y v u Q I rx ry ⟨d, ds, h1, h2, h3, h4, q⟩
  · obtain rfl : u = Value.ref a := ry
    exact d_in (by omega) I g rx fun s3 I3 => ⟨.bl o.isSome, H, I3, rfl, q⟩
theorem ayC {H : Hp} {ρ : Rho} {x : D} {v : V} (h : RelD c H ρ x v) (e : ag5 x = true) : flatV v = true ∧ ∀ {y : D} {w : V}, RelD c H ρ y w → ag5 y = true → eqV w v = agU y x := by
  cases x with
  | non => cases h; exact ⟨rfl, fun {y w} hy ey => by cases y <;> first | (cases hy; rfl) | (obtain ⟨rfl, _⟩ := hy; rfl) | cases ey⟩
  | bl _ => cases h; exact ⟨rfl, fun {y w} hy ey => by cases y <;> first | (cases hy; rfl) | (obtain ⟨rfl, _⟩ := hy; rfl) | cases ey⟩
  | int _ => cases h; exact ⟨rfl, fun {y w} hy ey => by cases y <;> first | (cases hy; rfl) | (obtain ⟨rfl, _⟩ := hy; rfl) | cases ey⟩
  | str _ => obtain ⟨rfl, _⟩ := h; exact ⟨rfl, fun {y w} hy ey => by cases y <;> first | (cases hy; rfl) | (obtain ⟨rfl, _⟩ := hy; rfl) | cases ey⟩
  | _ => cases e
theorem RelR.flat {H : Hp} {ρ : Rho} {x : D} {v : V} (h : RelR c H ρ x v) (e : ag5 x = true) : RelD c H ρ x v := by
  cases x <;> first | exact h | cases e
theorem ay2 {H : Hp} {ρ : Rho} {x : D} {v : V} (h : RelD c H ρ x v) (e : ag5 x = true) : ∀ {ds : List D} {vs : List V}, RelDs c H ρ ds vs → ds.all ag5 = true → vs.all flatV = true ∧ inV v vs = ds.any fun d => agU d x
  | [], [], _, _ => ⟨rfl, rfl⟩
  | d :: ds, w :: vs, ⟨r, t⟩, q => by
    rw [List.all_cons, Bool.and_eq_true] at q
    obtain ⟨h1, h2⟩ := ay2 h e t q.2
    refine ⟨by rw [List.all_cons, (ayC r q.1).1, h1]; rfl, ?_⟩
    show (eqV w v || inV v vs) = _
    rw [h2, (ayC h e).2 r q.1, List.any_cons]
theorem aCR {n : Bool} {H : Hp} {ρ : Rho} {x y : D} {v u : V} {b : Bool} {Q : VK} (rx : RelR c H ρ x v) (ry : RelR c H ρ y u) (e : dIn x y = some b) (k : Q (.bl (if n then !b else b)) H) : aCw c.K n v u H Q := by
  have tupcase : ∀ {ds : List D} {a : Addr} {xs : List V}, u = .ref a → SqT c.K H a xs → RelDs c H ρ ds xs → (if ag5 x && ds.all ag5 then some (ds.any fun d => agU d x) else none) = some b → aCw c.K n v u H Q := fun {ds a xs} eu hq r e => by
    split at e
    · rename_i hf
      rw [Bool.and_eq_true] at hf
      cases e
      have hx := rx.flat hf.1
      obtain ⟨h1, h2⟩ := ay2 hx hf.1 r hf.2
      exact .inr (.inl ⟨a, xs, eu, .inr hq, (ayC hx hf.1).1, h1, by rw [h2]; exact k⟩)
    · cases e
  unfold dIn at e
  split at e
  · rename_i z
    split at e
    · rename_i s
      split at e
      · rename_i hs
        cases e
        obtain ⟨e1, _⟩ := rx
        obtain ⟨e2, _⟩ := ry
        refine .inl ⟨s.cps.getD 0 0, z, ?_, e2, k⟩
        rw [e1]
        obtain ⟨⟨l⟩⟩ := s
        match l, hs with
        | [a], _ => rfl
      · cases e
    · cases e
  · obtain ⟨a, xs, eu, n, hH, l, r⟩ := ry
    exact tupcase eu (.of hH) r e
  · obtain ⟨a, xs, eu, t, l, r⟩ := ry
    exact tupcase eu t.sq r e
  · rename_i dsl
    split at e
    · rename_i p ps h1 h2
      split at e
      · rename_i hd
        cases e
        obtain ⟨a1, a2⟩ := awI rx h1
        have h3 : wN (.lst dsl) = some (.list ps) := by simp only [wN, h2, Option.map_some]
        obtain ⟨b1, b2⟩ := awI ry h3
        refine .inr (.inr (.inl ⟨p, ps, a1, b1, ?_, ?_, k⟩))
        · unfold SeqAt.shaped; rw [a2, Bool.true_and]; exact decide_eq_true (by omega)
        · unfold SeqAt.shaped; rw [b2, Bool.true_and]; exact decide_eq_true (by rw [PyData.depth]; omega)
      · cases e
    · cases e
  · obtain ⟨a, xs, eu, hd, r⟩ := ry
    obtain ⟨o, ho, rfl⟩ := Option.map_eq_some_iff.mp e
    obtain ⟨ov, g, ro⟩ := azX hd r rx ho
    refine .inr (.inr (.inr ⟨a, ov, eu, g, ?_⟩))
    have : ov.isSome = o.isSome := by
      cases o <;> cases ov <;> first | rfl | exact ro.elim
    rw [this]; exact k
  · obtain ⟨a, xs, eu, nf, hd, r⟩ := ry
    obtain ⟨o, ho, rfl⟩ := Option.map_eq_some_iff.mp e
    obtain ⟨ov, g, ro⟩ := auX hd r rx ho
    refine .inr (.inr (.inr ⟨a, ov, eu, g, ?_⟩))
    have : ov.isSome = o.isSome := by
      cases o <;> cases ov <;> first | rfl | exact ro.elim
    rw [this]; exact k
  · cases e
theorem aB0 : OpD c (aCw c.K false) aCq := fun H ρ x y v u z Q fr rx ry e k => by
  obtain ⟨b, hb, rfl⟩ := Option.map_eq_some_iff.mp e
  exact aCR rx ry hb (k _ H (Same.refl H) rfl)
/-! ### a[i] -/
def dIx (x y : D) : Option D := match x with
  | .lst ds => match y with
    | .int i => atI ds i
    | _ => none
  | .tup ds => match y with
    | .int i => atI ds i
    | _ => none
  | .ctp ds => match y with
    | .int i => atI ds i
    | _ => none
  | .str z => match y with
    | .int i => (atI z.cps.toList i).map fun ch => .str ⟨#[ch]⟩
    | _ => none
  | .dic t kvs => match aAh t kvs y with
    | some (some d) => some d
    | _ => none
  | .fdc t kvs => match aAh t kvs y with
    | some (some d) => some d
    | _ => none
  | _ => none
def aFU (K : PySem.W.Frag) : R2 := fun x y H Q => rIx K x y H Q ∨ ∃ a v, x = .ref a ∧ DGet H a y (some v) ∧ Q v H
theorem aCH (hu : X.A.units + 1 < cLine) : IxR X (fun x y H Q => ∃ a v, x = .ref a ∧ DGet H a y (some v) ∧ Q v H) := by
  intro value slice pins s σ H x y v u Q I rx ry h hs
  obtain ⟨a, z, rfl, g, q⟩ := h
  obtain rfl : v = Value.ref a := rx
  exact tail_any (dict_typeIs I g) PySem.F.slot_dict_getitem.lookup (d_getItem hu I g ry fun w' s3 I3 rw' => ⟨z, H, I3, rw', q⟩) hs
theorem aH0 (hu : X.A.units + 1 < cLine) : IxR X (aFU X.K) := ix_seq.or (aCH hu)
theorem au5 {α : Type} {xs : List α} {i : Int} {v : α} (h : atI xs i = some v) : ∃ j, ixN xs.length i = some j ∧ xs[j]? = some v := by
  unfold atI at h
  cases q : ixN xs.length i with
  | none => rw [q] at h; cases h
  | some j => rw [q] at h; exact ⟨j, rfl, h⟩
theorem RelDs.atI {H : Hp} {ρ : Rho} {ds : List D} {vs : List V} {i : Int} {d : D} (r : RelDs c H ρ ds vs) (h : L2.atI ds i = some d) : ∃ v, L2.atI vs i = some v ∧ RelD c H ρ d v := by
  obtain ⟨j, h1, h2⟩ := au5 h
  obtain ⟨v, h3, h4⟩ := r.get h2
  refine ⟨v, ?_, h4⟩
  unfold L2.atI
  rw [← r.length, h1]; exact h3
theorem asU {z : Str} {ch : Nat} (h : PyData.strOk z = true) (e : ch ∈ z.cps.toList) : PyData.strOk ⟨#[ch]⟩ = true := by
  unfold PyData.strOk at *
  have := Array.all_eq_true_iff_forall_mem.mp h ch (by simpa using e)
  simpa using this
theorem aE8 : OpD c (aFU c.K) dIx := fun H ρ x y v u z Q fr rx ry e k => by
  unfold dIx at e
  split at e
  · split at e
    · rename_i i
      obtain ⟨a, xs, rfl, hH, l, r⟩ := rx
      obtain ⟨w, h1, h2⟩ := r.atI e
      exact .inl (.inl ⟨a, xs, i, w, rfl, ry, .of hH, h1, k _ H (Same.refl H) h2⟩)
    · cases e
  · split at e
    · rename_i i
      obtain ⟨a, xs, rfl, n, hH, l, r⟩ := rx
      obtain ⟨w, h1, h2⟩ := r.atI e
      exact .inl (.inr (.inl ⟨a, xs, i, w, rfl, ry, .of hH, h1, k _ H (Same.refl H) h2⟩))
    · cases e
  · split at e
    · rename_i i
      obtain ⟨a, xs, rfl, t, l, r⟩ := rx
      obtain ⟨w, h1, h2⟩ := r.atI e
      exact .inl (.inr (.inl ⟨a, xs, i, w, rfl, ry, t.sq, h1, k _ H (Same.refl H) h2⟩))
    · cases e
  · rename_i zz
    split at e
    · rename_i i
      obtain ⟨ch, hc, rfl⟩ := Option.map_eq_some_iff.mp e
      obtain ⟨h1, h2, h3⟩ := rx
      obtain ⟨j, _, hj⟩ := au5 hc
      exact .inl (.inr (.inr ⟨zz, i, ch, h1, ry, h2, hc, k _ H (Same.refl H) ⟨rfl, by show 1 ≤ sizeLine; decide, asU h3 (List.mem_of_getElem? hj)⟩⟩))
    · cases e
  · split at e
    · rename_i d hd
      cases e
      obtain ⟨a, xs, rfl, hh, r⟩ := rx
      obtain ⟨ov, g, ro⟩ := azX hh r ry hd
      cases ov with
      | none => exact ro.elim
      | some w => exact .inr ⟨a, w, rfl, g, k _ H (Same.refl H) ro⟩
    · cases e
  · split at e
    · rename_i d hd
      cases e
      obtain ⟨a, xs, rfl, nf, hh, r⟩ := rx
      obtain ⟨ov, g, ro⟩ := auX hh r ry hd
      cases ov with
      | none => exact ro.elim
      | some w => exact .inr ⟨a, w, rfl, g, k _ H (Same.refl H) ro⟩
    · cases e
  · cases e
theorem xF {a b : Expr} {pos : Pos} {fa fb : FE} {c : Cn} (hc : X.K = c.K) (hu : X.A.units + 1 < cLine) (ha : PE X a (tM c U fa)) (hb : PE X b (tM c U fb)) (hs : PlainIx b := by exact fun _ _ => rfl) : PE X (.Subscript a b pos) (tM c U (mOp dIx fa fb)) := by
  have hx := pe_ix (pos := pos) (aH0 hu) ha hb hs
  rw [hc] at hx
  exact mQ hx fun σ H Q h => atD aE8 h
end
end Mn

namespace Mn
open PySem PySem.Spec PyProof.Rows L2
variable [TL : TabList]

section
variable {X : Cx} {c : Cn} {U : WX} {a b : Expr} {es : List Expr} {pos p p2 : Pos}
/-! ### slices -/
abbrev FO := PySem.Str → Nat
def ahR : Env → VH → Res (Option Int) := fun _ vh => .ok none vh
def aqR (f : FE) : Env → VH → Res (Option Int) := fun e vh => bnd (f e vh) fun w vh1 => match see vh1 w with
  | some (.int i) => .ok (some i) vh1
  | _ => .stuck
def tMO (c : Cn) (U : WX) (f : Env → VH → Res (Option Int)) : TO := fun σ H Q => ∃ e ρ vh, RelE c H ρ e σ ∧ RelH c H ρ vh ∧ Out c σ H ρ U (f e vh) fun o _ H' _ => Q o H'
theorem ao8 : PO X none (tMO c U ahR) := ⟨fun pins s σ H Q I ⟨e, ρ, vh, he, hh, h⟩ => po_none.run pins s σ H Q I (h.here hh)⟩
theorem ao2 {f : FE} (ha : PE X a (tM c U f)) : PO X (some a) (tMO c U (aqR f)) := ⟨fun pins s σ H Q I ⟨e, ρ, vh, he, hh, h⟩ => (po_some ha).run pins s σ H Q I ((use he hh h).mono fun v H1 ⟨w, vh1, ρ1, r, A, _, _⟩ => by
  have o := A.out
  split at o
  · rename_i i hs
    exact ⟨i, zN A.rh r hs, o.here A.rh⟩
  · exact o.elim)⟩
theorem aFp {β : Type} {σ : L2.St} {H : Hp} {ρ : Rho} {e : Env} {vh : VH} {f : Env → VH → Res (Option Int)} {k : Option Int → VH → Res β} {K : β → VH → Hp → Rho → Prop} (he : RelE c H ρ e σ) (hh : RelH c H ρ vh) (h : Out c σ H ρ U (bnd (f e vh) k) K) :
    tMO c U f σ H fun b H1 => ∃ vh1 ρ1, Aft c U σ e H1 ρ1 vh1 (k b vh1) K ∧ Grow ρ H ρ1 ∧ Fm H H1 ρ := by
  refine ⟨e, ρ, vh, he, hh, ?_⟩
  cases q : f e vh with
  | ok w vh' =>
    rw [q] at h
    exact fun H' ρ' g fm rh => ⟨vh', ρ', ⟨he.stay g fm, rh, h.later g fm⟩, g, fm⟩
  | exn x vh' => rw [q] at h; exact h
  | stuck => rw [q] at h; exact h
theorem tMO.mono {σ : L2.St} {H : Hp} {f : Env → VH → Res (Option Int)} {Q Q' : Option Int → Hp → Prop} (h : tMO c U f σ H Q) (q : ∀ v H, Q v H → Q' v H) : tMO c U f σ H Q' := by
  obtain ⟨e, ρ, vh, he, hh, o⟩ := h
  exact ⟨e, ρ, vh, he, hh, o.mono fun _ _ _ _ k => q _ _ k⟩
def cutD (xs : List D) (lo hi : Option Int) : List D := (xs.drop (HT.sIx xs.length 0 lo)).take (HT.sIx xs.length xs.length hi - HT.sIx xs.length 0 lo)
def dSl (x : D) (lo hi : Option Int) : Option D := match x with
  | .lst ds => some (.lst (cutD ds lo hi))
  | .frz ds => some (.lst (cutD ds lo hi))
  | .tup ds => some (.tup (cutD ds lo hi))
  | .str z => some (.str (cutS z lo hi))
  | _ => none
def mSl (fa : FE) (fl fh : Env → VH → Res (Option Int)) : FE := fun e vh => bnd (fa e vh) fun w vh1 => bnd (fl e vh1) fun lo vh2 => bnd (fh e vh2) fun hi vh3 => opt (see vh3 w) fun x => opt (dSl x lo hi) fun z => .ok (.d z) vh3
def aFA (K : PySem.W.Frag) : V → Option Int → Option Int → Hp → VK → Prop := fun x lo hi H Q => rSlL K x lo hi H Q ∨ rSlS x lo hi H Q ∨ rSlA K x lo hi H Q
theorem aHV : SlR X (aFA X.K) := sl_list.or (sl_str.or sl_tupA)
theorem ao1 {H : Hp} {ρ : Rho} {ds : List D} {vs : List V} {lo hi : Option Int} (r : RelDs c H ρ ds vs) : RelDs c H ρ (cutD ds lo hi) (cutV vs lo hi) := by
  unfold cutD cutV
  rw [r.length]
  exact (r.drop _).take _
theorem ao4 (ds : List D) (lo hi : Option Int) : (cutD ds lo hi).length ≤ ds.length := by
  unfold cutD
  rw [List.length_take, List.length_drop]
  omega
theorem aAO (z : Str) (lo hi : Option Int) : (cutS z lo hi).length ≤ z.length := by
  show (List.toArray _).size ≤ _
  rw [List.size_toArray, List.length_take, List.length_drop]
  have : z.cps.toList.length = z.length := by simp [Str.length]
  omega
theorem aAz {z y : Str} (h : PyData.strOk z = true) (s : ∀ c ∈ y.cps.toList, c ∈ z.cps.toList) : PyData.strOk y = true := by
  unfold PyData.strOk at *
  rw [Array.all_eq_true_iff_forall_mem] at *
  exact fun c hc => h c (by simpa using s c (by simpa using hc))
theorem aAo {z : Str} {lo hi : Option Int} (h : PyData.strOk z = true) : PyData.strOk (cutS z lo hi) = true := aAz h fun c hc => by
  have : c ∈ (z.cps.toList.drop (HT.sIx z.length 0 lo)).take (HT.sIx z.length z.length hi - HT.sIx z.length 0 lo) := by simpa [cutS] using hc
  exact List.mem_of_mem_drop (List.mem_of_mem_take this)
theorem aCd {H : Hp} {ρ : Rho} {x : D} {v : V} {lo hi : Option Int} {z : D} {Q : VK} (fr : arL c H ρ) (rx : RelR c H ρ x v) (e : dSl x lo hi = some z) (k : DK c H ρ z Q) : aFA c.K v lo hi H Q := by
  unfold dSl at e
  split at e
  · cases e
    obtain ⟨a, xs, rfl, hH, l, r⟩ := rx
    exact .inl ⟨a, xs, rfl, .of hH, fun q hq => k _ _ (jD hq) ⟨q, _, rfl, fr q hq, upd_same, Nat.le_trans (ao4 _ _ _) l, (ao1 r).stay (Grow.refl _ _) (Fm.new hq)⟩⟩
  · cases e
    rename_i ds
    obtain ⟨a, xs, rfl, t, l, r⟩ := rx
    exact .inl ⟨a, xs, rfl, t.sq, fun q hq => k _ _ (jD hq) ⟨q, _, rfl, fr q hq, upd_same, Nat.le_trans (ao4 _ _ _) l, (ao1 r).stay (Grow.refl _ _) (Fm.new hq)⟩⟩
  · cases e
    obtain ⟨a, xs, rfl, n, hH, l, r⟩ := rx
    refine .inr (.inr ⟨a, xs, rfl, .of hH, fun ⟨h1, h2⟩ => ?_, fun _ q hq => k _ _ (jD hq) ⟨q, _, rfl, fr q hq, upd_same, Nat.le_trans (ao4 _ _ _) l, (ao1 r).stay (Grow.refl _ _) (Fm.new hq)⟩⟩)
    refine k _ H (Same.refl H) ⟨a, xs, rfl, n, hH, Nat.le_trans (ao4 _ _ _) l, ?_⟩
    have : cutV xs lo hi = xs := by unfold cutV; rw [h1, h2]; simp
    have q := ao1 (lo := lo) (hi := hi) r
    rwa [this] at q
  · cases e
    rename_i zz
    obtain ⟨h1, h2, h3⟩ := rx
    exact .inr (.inl ⟨zz, h1, h2, k _ H (Same.refl H) ⟨rfl, Nat.le_trans (aAO _ _ _) h2, aAo h3⟩⟩)
  · cases e
theorem ak7 {lo hi : Option Expr} {fa : FE} {fl fh : Env → VH → Res (Option Int)} (hc : X.K = c.K) (ha : PE X a (tM c U fa)) (hl : PO X lo (tMO c U fl)) (hu : PO X hi (tMO c U fh)) : PE X (.Subscript a (.Slice lo hi none p2) pos) (tM c U (mSl fa fl fh)) := by
  have hx := pe_slice (pos := pos) (p2 := p2) aHV ha hl hu
  rw [hc] at hx
  exact mQ hx fun σ H Q ⟨e, ρ, vh, he, hh, h⟩ =>
    (use he hh h).mono fun v1 H1 ⟨w1, vh1, ρ1, r1, A, g1, f1⟩ => (aFp A.re A.rh A.out).mono fun lo H2 ⟨vh2, ρ2, B, g2, f2⟩ => (aFp B.re B.rh B.out).mono fun hi H3 ⟨vh3, ρ3, C, g3, f3⟩ => by
      obtain ⟨x, e1, o⟩ := dM C.out
      obtain ⟨z, e2, o⟩ := dM o
      exact aCd C.rh.fr (zN C.rh ((r1.stay g2 f2).stay g3 f3) e1) e2 (xT C.rh o)

/-! ### builtins -/
theorem avB {r : List V → Hp → VK → Prop} {g : List D → Option D} {fa : FA} (hd : an2 c r g) {σ : L2.St} {H : Hp} {Q : VK} (h : tM c U (akW g fa) σ H Q) : tMA c U fa σ H fun vs H1 => r vs H1 Q := by
  obtain ⟨e, ρ, vh, he, hh, h⟩ := h
  exact (apF he hh h).mono fun vs H1 ⟨ws, vh1, ρ1, rs, A, _, _⟩ => by
    obtain ⟨xs, e1, o⟩ := dM A.out
    obtain ⟨z, e2, o⟩ := dM o
    exact hd H1 ρ1 xs vs z Q A.rh.fr (ao7 A.rh rs e1) e2 (xT A.rh o)
theorem aqV {id : String} {x : Str} {r : List V → Hp → VK → Prop} {g : List D → Option D} {fa : FA} {e : Expr} (hc : CallR X (.builtin id) r) (hd : an2 c r g) (hg : Gl X x) (hm : X.mg x = none) (hv : bootBuiltins x = some (.builtin id)) (ha : PA X (e :: es) (tMA c U fa))
    (hn : x ≠ "__name__" := by decide) (hdb : (x == ("__debug__" : Str)) = false := by decide)
    (he : starEach (e :: es) X.env = (false, eval e X.env) :: starEach es X.env := by rfl) (hpl : (backTo pos (starEach es X.env)).any (·.1) = false := by rfl) : PE X (.Call (.Name x p) (e :: es) [] pos) (tM c U (akW g fa)) :=
  mQ (pe_callB hc hg hm hv ha hn hdb he hpl) fun σ H Q h => avB hd h
theorem zB {T : String} {x : Str} {r : List V → Hp → VK → Prop} {g : List D → Option D} {fa : FA} {e : Expr} (hc : CallR X (.type T) r) (hd : an2 c r g) (hg : Gl X x) (hm : X.mg x = none) (hv : bootBuiltins x = some (.type T)) (ha : PA X (e :: es) (tMA c U fa))
    (hn : x ≠ "__name__" := by decide) (hdb : (x == ("__debug__" : Str)) = false := by decide)
    (he : starEach (e :: es) X.env = (false, eval e X.env) :: starEach es X.env := by rfl) (hpl : (backTo pos (starEach es X.env)).any (·.1) = false := by rfl) : PE X (.Call (.Name x p) (e :: es) [] pos) (tM c U (akW g fa)) :=
  mQ (pe_callTy hc hg hm hv ha hn hdb he hpl) fun σ H Q h => avB hd h
theorem RelRs.one {H : Hp} {ρ : Rho} {x : D} {vs : List V} (h : RelRs c H ρ [x] vs) : ∃ v, vs = [v] ∧ RelR c H ρ x v := by
  match vs, h with
  | [v], ⟨r, _⟩ => exact ⟨v, rfl, r⟩
theorem RelRs.two {H : Hp} {ρ : Rho} {x y : D} {vs : List V} (h : RelRs c H ρ [x, y] vs) : ∃ v w, vs = [v, w] ∧ RelR c H ρ x v ∧ RelR c H ρ y w := by
  match vs, h with
  | [v, w], ⟨r, s, _⟩ => exact ⟨v, w, rfl, r, s⟩

def aAF : List D → Option D
  | [.str z] => some (.int z.length)
  | [.lst ds] => some (.int ds.length)
  | [.frz ds] => some (.int ds.length)
  | [.tup ds] => some (.int ds.length)
  | [.ctp ds] => some (.int ds.length)
  | [.dic _ kvs] => some (.int kvs.length)
  | _ => none
def aDf (K : PySem.W.Frag) : List V → Hp → VK → Prop := fun xs H Q => (∃ x n, xs = [x] ∧ LenV K x H n ∧ Q (.int n) H) ∨ (∃ a kvs, xs = [V.ref a] ∧ H a = some (.dK kvs) ∧ Q (.int kvs.length) H) ∨ (∃ (p : Addr) (kvs : List (List Key × V)), xs = [.ref p] ∧ H p = some (.dT kvs) ∧ Q (.int ((kvs.length : Nat) : Int)) H)
theorem aAd : CallR X (.builtin "len") (aDf X.K) := call_len.or (call_lenD.or call_len_dT)
theorem HDic.len {H : Hp} {ρ : Rho} {a : Addr} {t : Bool} {kvs : List (D × D)} {xs : List V} (h : HDic H a t kvs xs) (r : RelDv c H ρ kvs xs) : (∃ ks, H a = some (.dK ks) ∧ ks.length = kvs.length) ∨ (∃ ks, H a = some (.dT ks) ∧ ks.length = kvs.length) := by
  cases t with
  | false =>
    obtain ⟨ks, h1, h2⟩ := h
    exact .inl ⟨_, h2, by rw [List.length_zip, acD h1, ← r.length]; exact Nat.min_self _⟩
  | true =>
    obtain ⟨ks, h1, h2⟩ := h
    exact .inr ⟨_, h2, by rw [List.length_zip, ahT h1, ← r.length]; exact Nat.min_self _⟩
theorem aDO : an2 c (aDf c.K) aAF := fun H ρ xs vs z Q fr rs e k => by
  unfold aAF at e
  split at e
  · cases e
    obtain ⟨v, rfl, h1, h2, _⟩ := rs.one
    subst h1
    exact .inl ⟨_, _, rfl, ⟨h2, rfl⟩, k _ H (Same.refl H) rfl⟩
  · cases e
    obtain ⟨v, rfl, a, xs, rfl, hH, l, r⟩ := rs.one
    exact .inl ⟨_, _, rfl, .inl ⟨xs, .of hH, r.length⟩, k _ H (Same.refl H) rfl⟩
  · cases e
    obtain ⟨v, rfl, a, xs, rfl, t, l, r⟩ := rs.one
    exact .inl ⟨_, _, rfl, .inl ⟨xs, t.sq, r.length⟩, k _ H (Same.refl H) rfl⟩
  · cases e
    obtain ⟨v, rfl, a, xs, rfl, n, hH, l, r⟩ := rs.one
    exact .inl ⟨_, _, rfl, .inr ⟨xs, .of hH, r.length⟩, k _ H (Same.refl H) rfl⟩
  · cases e
    obtain ⟨v, rfl, a, xs, rfl, t, l, r⟩ := rs.one
    exact .inl ⟨_, _, rfl, .inr ⟨xs, t.sq, r.length⟩, k _ H (Same.refl H) rfl⟩
  · cases e
    obtain ⟨v, rfl, a, xs, rfl, hd, r⟩ := rs.one
    rcases hd.len r with ⟨ks, h1, h2⟩ | ⟨ks, h1, h2⟩
    · exact .inr (.inl ⟨a, ks, rfl, h1, by rw [h2]; exact k _ H (Same.refl H) rfl⟩)
    · exact .inr (.inr ⟨a, ks, rfl, h1, by rw [h2]; exact k _ H (Same.refl H) rfl⟩)
  · cases e
def atN : List D → Option (List Bool)
  | [] => some []
  | .bl b :: r => (atN r).map (b :: ·)
  | _ => none
def aJ8 : List D → Option D
  | [.lst ds] => (atN ds).map fun bs => .bl (bs.all id)
  | _ => none
def aKg : List D → Option D
  | [.lst ds] => (atN ds).map fun bs => .bl (bs.any id)
  | _ => none
/-- the items of a list or a tuple -/
def af0 : D → Option (List D)
  | .lst ds => some ds
  | .tup ds => some ds
  | .ctp ds => some ds
  | _ => none
theorem alI {H : Hp} {ρ : Rho} {x : D} {v : V} {ds : List D} (h : RelR c H ρ x v) (e : af0 x = some ds) : ∃ a xs, v = .ref a ∧ (SqL c.K H a xs ∨ SqT c.K H a xs) ∧ ds.length ≤ sizeLine ∧ RelDs c H ρ ds xs := by
  cases x with
  | lst _ => cases e; obtain ⟨a, xs, rfl, hH, l, r⟩ := h; exact ⟨a, xs, rfl, .inl (.of hH), l, r⟩
  | tup _ => cases e; obtain ⟨a, xs, rfl, n, hH, l, r⟩ := h; exact ⟨a, xs, rfl, .inr (.of hH), l, r⟩
  | ctp _ => cases e; obtain ⟨a, xs, rfl, t, l, r⟩ := h; exact ⟨a, xs, rfl, .inr t.sq, l, r⟩
  | _ => cases e
def avH : List D → Option D
  | [x] => (af0 x).map .lst
  | _ => none
theorem aCz : an2 c (fun xs H Q => ∃ p ys, xs = [.ref p] ∧ (SqL c.K H p ys ∨ SqT c.K H p ys) ∧ ∀ l, H l = none → Q (.ref l) (upd H l (.lst ys))) avH := fun H ρ xs vs z Q fr rs e k => by
  unfold avH at e
  split at e
  · obtain ⟨ds, h, rfl⟩ := Option.map_eq_some_iff.mp e
    obtain ⟨v, rfl, r⟩ := rs.one
    obtain ⟨a, xs, rfl, hs, l, rr⟩ := alI r h
    exact ⟨a, xs, rfl, hs, fun q hq => k _ _ (jD hq) ⟨q, xs, rfl, fr q hq, upd_same, l, rr.stay (Grow.refl _ _) (Fm.new hq)⟩⟩
  · cases e
def aIm : List D → Option D
  | [.lst ds] => some (.tup ds)
  | [.tup ds] => some (.tup ds)
  | [.ctp ds] => some (.ctp ds)
  | _ => none
def atR : List D → Option D
  | [.int i] => some (.int i)
  | _ => none
theorem amW : an2 c (fun xs H Q => (∃ i, xs = [.int i] ∧ Q (.int i) H) ∨ ∃ k, xs = [.bl k] ∧ Q (.int (if k then 1 else 0)) H) atR := fun H ρ xs vs z Q fr rs e k => by
  unfold atR at e
  split at e
  · cases e
    obtain ⟨v, rfl, r⟩ := rs.one
    exact .inl ⟨_, by rw [show v = .int _ from r], k _ H (Same.refl H) rfl⟩
  · cases e
/-- a built-in type's name -/
def aeP : D → Option String
  | .non => some "NoneType"
  | .bl _ => some "bool"
  | .int _ => some "int"
  | .str _ => some "str"
  | .tup _ => some "tuple"
  | .ctp _ => some "tuple"
  | .lst _ => some "list"
  | .dic _ _ => some "dict"
  | _ => none
def auW : List D → Option D
  | [x, .ty T] => match aeP x with
    | some S => (kitB S T).map .bl
    | none => none
  | _ => none
end
end Mn

namespace Mn
open PySem PySem.Spec PyProof.Rows L2
variable [TL : TabList]

section
variable {X : Cx} {c : Cn} {U : WX} {a b : Expr} {es : List Expr} {pos p p2 : Pos}
/-! ### a built-in type's methods that change nothing -/
def MtD (c : Cn) (T : String) (r : V → List V → Hp → VK → Prop) (g : D → List D → Option D) : Prop :=
  ∀ H ρ x xs v vs z Q, arL c H ρ → RelR c H ρ x v → RelRs c H ρ xs vs → g x xs = some z → DK c H ρ z Q → r v vs H Q
theorem aBr {H : Hp} {ρ : Rho} {x : D} {v : V} {T : String} (h : RelR c H ρ x v) (e : aeP x = some T) (ht : T = "str" ∨ T = "list" ∨ T = "dict") : tyV c.K T v H := by
  cases x with
  | str _ => cases e; obtain ⟨rfl, _⟩ := h; rfl
  | lst _ => cases e; obtain ⟨a, xs, rfl, hH, l, r⟩ := h; exact .inl ⟨rfl, xs, .of hH⟩
  | dic t kvs =>
    cases e
    obtain ⟨a, xs, rfl, hd, r⟩ := h
    cases t with
    | false => obtain ⟨ks, h1, h2⟩ := hd; exact .inr (.inr (.inl ⟨rfl, .inl ⟨_, h2⟩⟩))
    | true => obtain ⟨ks, h1, h2⟩ := hd; exact .inr (.inr (.inl ⟨rfl, .inr ⟨_, h2⟩⟩))
  | non => cases e; exact absurd ht (by decide)
  | bl _ => cases e; exact absurd ht (by decide)
  | int _ => cases e; exact absurd ht (by decide)
  | tup _ => cases e; exact absurd ht (by decide)
  | ctp _ => cases e; exact absurd ht (by decide)
  | _ => cases e
def mMt (T : String) (g : D → List D → Option D) (fo : FE) (fa : FA) : FE := fun e vh => bnd (fo e vh) fun w vh1 => opt (see vh1 w) fun x0 => if aeP x0 = some T ∧ (T = "str" ∨ T = "list" ∨ T = "dict") then
  bnd (fa e vh1) fun ws vh2 => opt (see vh2 w) fun x => opt (agA vh2 ws) fun xs => opt (g x xs) fun z => .ok (.d z) vh2 else .stuck
theorem aC2 {o : Expr} {e : Expr} {name : Str} {apos cpos : Pos} {T id : String} {r : V → List V → Hp → VK → Prop} {g : D → List D → Option D} {fo : FE} {fa : FA} (hc : X.K = c.K) (pa : PlainAttrs T) (slot : Slot T name id) (hty : typeOf (.builtin id) = pure (.type "method_descriptor")) (hm : MtR X id r) (hd : MtD c T r g) (ho : PE X o (tM c U fo)) (ha : PA X (e :: es) (tMA c U fa))
    (hbase : attributeBase o name X.env (eval o X.env) = eval o X.env := by rfl)
    (hfew : ((backTo cpos (starEach (e :: es) X.env)).all (fun x => !x.1) && (backToKw cpos (keywordEach [] X.env)).all (fun x => x.1.isSome)
      && decide ((e :: es).length + ([] : List Keyword).length + (if ([] : List Keyword).isEmpty then 0 else 1) < 30)) = true := by rfl)
    (hline : (apos.endLine == cpos.line) = true := by rfl) (hs : starEach (e :: es) X.env = (false, eval e X.env) :: starEach es X.env := by rfl) (hplain : (backTo cpos (starEach es X.env)).any (·.1) = false := by rfl) :
    PE X (.Call (.Attribute o name apos) (e :: es) [] cpos) (tM c U (mMt T g fo fa)) := by
  have hx := pe_bm pa slot hty hm ho ha hbase hfew hline hs hplain
  rw [hc] at hx
  exact mQ hx fun σ H Q ⟨e, ρ, vh, he, hh, h⟩ => (use he hh h).mono fun v H1 ⟨w, vh1, ρ1, r1, A, g1, f1⟩ => by
    obtain ⟨x0, e0, o⟩ := dM A.out
    split at o
    · rename_i ht
      refine ⟨aBr (zN A.rh r1 e0) ht.1 ht.2, ?_⟩
      refine (apF A.re A.rh o).mono fun vs H2 ⟨ws, vh2, ρ2, rs, B, g2, f2⟩ => ?_
      obtain ⟨x, e1, o⟩ := dM B.out
      obtain ⟨xs, e2, o⟩ := dM o
      obtain ⟨z, e3, o⟩ := dM o
      exact hd H2 ρ2 x xs v vs z Q B.rh.fr (zN B.rh (r1.stay g2 f2) e1) (ao7 B.rh rs e2) e3 (xT B.rh o)
    · exact o.elim
theorem aEg {o : Expr} {name : Str} {apos cpos : Pos} {T id : String} {r : V → List V → Hp → VK → Prop} {g : D → List D → Option D} {fo : FE} (hc : X.K = c.K) (pa : PlainAttrs T) (slot : Slot T name id) (hty : typeOf (.builtin id) = pure (.type "method_descriptor")) (hm : MtR X id r) (hd : MtD c T r g) (ho : PE X o (tM c U fo))
    (hbase : attributeBase o name X.env (eval o X.env) = eval o X.env := by rfl) (hline : (apos.endLine == cpos.line) = true := by rfl) : PE X (.Call (.Attribute o name apos) [] [] cpos) (tM c U (mMt T g fo cI)) := by
  have hx := pe_bm0 pa slot hty hm ho hbase hline
  rw [hc] at hx
  exact mQ hx fun σ H Q ⟨e, ρ, vh, he, hh, h⟩ => (use he hh h).mono fun v H1 ⟨w, vh1, ρ1, r1, A, g1, f1⟩ => by
    obtain ⟨x0, e0, o⟩ := dM A.out
    split at o
    · rename_i ht
      refine ⟨aBr (zN A.rh r1 e0) ht.1 ht.2, ?_⟩
      obtain ⟨x, e1, o1⟩ := dM (show Out _ _ _ _ _ (opt (see vh1 w) _) _ from o)
      obtain ⟨xs, e2, o2⟩ := dM o1
      obtain ⟨z, e3, o3⟩ := dM o2
      have e4 : xs = [] := (Option.some.inj e2).symm
      rw [e4] at e3
      exact hd H1 ρ1 x [] v [] z Q A.rh.fr (zN A.rh r1 e1) trivial e3 (xT A.rh o3)
    · exact o.elim
/-- all are texts -/
def aeW : List D → Option (List Str)
  | [] => some []
  | .str b :: r => (aeW r).map (b :: ·)
  | _ => none
theorem as3 {H : Hp} {ρ : Rho} : ∀ {ds : List D} {vs : List V} {bs : List Str}, RelDs c H ρ ds vs → aeW ds = some bs → vs = bs.map V.str ∧ ∀ b ∈ bs, PyData.strOk b = true
  | [], [], _, _, e => by cases e; exact ⟨rfl, fun _ h => nomatch h⟩
  | .str b :: ds, v :: vs, bs, ⟨⟨r, _, hs⟩, t⟩, e => by
    obtain ⟨bs', h, rfl⟩ := Option.map_eq_some_iff.mp e
    subst r
    obtain ⟨h1, h2⟩ := as3 t h
    exact ⟨by rw [h1]; rfl, fun x hx => by
      rcases List.mem_cons.mp hx with e | hx
      · rw [e]; exact hs
      · exact h2 x hx⟩
def as5 (x : D) (xs : List D) : Option D := match x, xs with
  | .str a, [y] => match af0 y with
    | some ds => match aeW ds with
      | some ys => if (ys.map (·.length)).sum + ys.length * a.length ≤ 16777216 ∧ (Txt.join a ys).length ≤ sizeLine ∧ PyData.strOk (Txt.join a ys) = true then some (.str (Txt.join a ys)) else none
      | none => none
    | none => none
  | _, _ => none
theorem aCC : MtD c "str" (fun x xs H Q => ∃ a p, ∃ ys : List Str, x = .str a ∧ xs = [.ref p] ∧ (SqL c.K H p (ys.map V.str) ∨ SqT c.K H p (ys.map V.str)) ∧
    (ys.map (·.length)).sum + ys.length * a.length ≤ 16777216 ∧ Q (.str (Txt.join a ys)) H) as5 := fun H ρ x xs v vs z Q fr rx rs e k => by
  unfold as5 at e
  split at e
  · split at e
    · rename_i ds hds
      split at e
      · rename_i ys hys
        split at e
        · rename_i hl
          cases e
          obtain ⟨w, rfl, rw'⟩ := rs.one
          obtain ⟨q, us, rfl, hq, l, r⟩ := alI rw' hds
          obtain ⟨h1, h2⟩ := as3 r hys
          rw [h1] at hq
          exact ⟨_, q, ys, rx.1, rfl, hq, hl.1, k _ H (Same.refl H) ⟨rfl, hl.2.1, hl.2.2⟩⟩
        · cases e
      · cases e
    · cases e
  · cases e

/-! ### methods that change a list -/
/-- what a changing method does: the result, the new items -/
def aEM (c : Cn) (r : V → List V → Hp → VK → Prop) (g : List D → List D → Option (D × List D)) : Prop :=
  ∀ H ρ a ds us xs vs z ds' Q, H a = some (.lst us) → ds.length ≤ sizeLine → RelDs c H ρ ds us → RelDs c H ρ xs vs → g ds xs = some (z, ds') →
    (∀ v' us', RelDs c H ρ ds' us' → ds'.length ≤ sizeLine → (∀ ρ', Grow ρ H ρ' → RelD c (upd H a (.lst us')) ρ' z v' ∨ RelD c H ρ z v') → Q v' (upd H a (.lst us'))) → r (.ref a) vs H Q
def aBE (g : List D → List D → Option (D × List D)) (fo : FE) (fa : FA) : FE := fun e vh => bnd (fo e vh) fun w vh1 => match w with
  | .ref k => match vh1[k]? with
    | some (.lst _) => bnd (fa e vh1) fun ws vh2 => opt (rH ws) fun xs => match vh2[k]? with
      | some (.lst ds) => opt (g ds xs) fun z => .ok (.d z.1) (vh2.set k (.lst z.2))
      | _ => .stuck
    | _ => .stuck
  | _ => .stuck
/-- the object at k is replaced -/
theorem RelH.put {H : Hp} {ρ : Rho} {vh : VH} {k : Nat} {a : Addr} {o : HO} {vo : VO} (hh : RelH c H ρ vh) (ha : ρ[k]? = some (some a)) (nt : ∀ xs, H a ≠ some (.tup xs)) (r : RelO c (upd H a o) ρ vo (some a)) : RelH c (upd H a o) ρ (vh.set k vo) := by
  have hm : some a ∈ ρ := List.mem_of_getElem? ha
  have fm : Fm H (upd H a o) ρ := .of (fun b u hb e => by rw [upd_ne (fun (z : b = a) => hb (by rw [z]; exact hm))]; exact e) fun b xs e => by rw [upd_ne (fun (z : b = a) => nt xs (by rw [← z]; exact e))]; exact e
  refine ⟨by rw [List.length_set]; exact hh.len, hh.inj, fun i w e => ?_, fun b hb => ?_, hh.tabs_put hm⟩
  rotate_left
  · obtain ⟨⟨u, e, nt⟩, n⟩ := hh.hid b hb
    exact ⟨⟨u, by rw [upd_ne (fun z => n (by rw [z]; exact hm))]; exact e, nt⟩, n⟩
  by_cases hi : i = k
  · subst hi
    rw [List.getElem?_set] at e
    rw [if_pos rfl] at e
    split at e
    · cases e; exact ⟨some a, ha, r⟩
    · cases e
  · rw [List.getElem?_set_ne (fun z => hi z.symm)] at e
    obtain ⟨q, hq, rq⟩ := hh.at' i w e
    refine ⟨q, hq, rq.stay (Grow.refl _ _) fm fun b u eb hb => ?_⟩
    rw [upd_ne]
    · exact hb
    · intro z
      subst z
      subst eb
      exact hi (hh.inj i k b hq ha)
theorem Fm.put {H : Hp} {ρ : Rho} {k : Nat} {a : Addr} {o : HO} (ha : ρ[k]? = some (some a)) (nt : ∀ xs, H a ≠ some (.tup xs)) : Fm H (upd H a o) ρ := .of (fun b u hb e => by rw [upd_ne (fun (z : b = a) => hb (by rw [z]; exact List.mem_of_getElem? ha))]; exact e) fun b xs e => by rw [upd_ne (fun (z : b = a) => nt xs (by rw [← z]; exact e))]; exact e
theorem aCr {K : PySem.W.Frag} {r : V → List V → Hp → VK → Prop} {g : List D → List D → Option (D × List D)} {fo : FE} {fa : FA} (hk : c.K = K) (hd : aEM c r g) {σ : L2.St} {H : Hp} {Q : VK} (h : tM c U (aBE g fo fa) σ H Q) :
    tM c U fo σ H fun x H1 => tyV K "list" x H1 ∧ tMA c U fa σ H1 fun xs H2 => r x xs H2 Q := by
  subst hk
  obtain ⟨e, ρ, vh, he, hh, h⟩ := h
  refine (use he hh h).mono fun v H1 ⟨w, vh1, ρ1, r1, A, g1, f1⟩ => ?_
  have o := A.out
  split at o
  · rename_i k
    split at o
    · rename_i ds0 hk0
      obtain ⟨q, hq, a, xs0, rfl, hH0, l0, r0⟩ := A.rh.at' k _ hk0
      obtain rfl := r1.2 a hq
      refine ⟨.inl ⟨rfl, xs0, .of hH0⟩, ?_⟩
      refine (apF A.re A.rh o).mono fun vs H2 ⟨ws, vh2, ρ2, rs, B, g2, f2⟩ => ?_
      obtain ⟨xs, e1, o⟩ := dM B.out
      split at o
      · rename_i ds hk
        obtain ⟨z, e2, o⟩ := dM o
        obtain ⟨q, hq2, a2, us, rfl, hH, l, rr⟩ := B.rh.at' k _ hk
        have r1' := r1.stay g2 f2
        obtain rfl : a = a2 := V.ref.inj (r1'.2 a2 hq2)
        refine hd H2 ρ2 a ds us xs vs z.1 z.2 Q hH l rr (ae7 rs e1) e2 fun v' us' ru lu hz => ?_
        have nt : ∀ xs, H2 a ≠ some (.tup xs) := fun xs z => by rw [hH] at z; cases z
        have fm := Fm.put (H := H2) (o := .lst us') hq2 nt
        refine o _ _ (Grow.refl _ _) fm (B.rh.put (o := .lst us') (vo := .lst z.2) hq2 nt ⟨a, us', rfl, upd_same, lu, ru.stay (Grow.refl _ _) fm⟩) v' ?_
        rcases hz ρ2 (Grow.refl _ _) with h | h
        · exact h
        · exact RelD.stay (Grow.refl _ _) fm h
      · exact o.elim
    · exact o.elim
  · exact o.elim
theorem aD4 {o : Expr} {e : Expr} {name : Str} {apos cpos : Pos} {id : String} {r : V → List V → Hp → VK → Prop} {g : List D → List D → Option (D × List D)} {fo : FE} {fa : FA} (hc : X.K = c.K) (slot : Slot "list" name id) (hty : typeOf (.builtin id) = pure (.type "method_descriptor")) (hm : MtM X id r) (hd : aEM c r g) (ho : PE X o (tM c U fo)) (ha : PA X (e :: es) (tMA c U fa))
    (hbase : attributeBase o name X.env (eval o X.env) = eval o X.env := by rfl)
    (hfew : ((backTo cpos (starEach (e :: es) X.env)).all (fun x => !x.1) && (backToKw cpos (keywordEach [] X.env)).all (fun x => x.1.isSome)
      && decide ((e :: es).length + ([] : List Keyword).length + (if ([] : List Keyword).isEmpty then 0 else 1) < 30)) = true := by rfl)
    (hline : (apos.endLine == cpos.line) = true := by rfl) (hs : starEach (e :: es) X.env = (false, eval e X.env) :: starEach es X.env := by rfl) (hplain : (backTo cpos (starEach es X.env)).any (·.1) = false := by rfl) :
    PE X (.Call (.Attribute o name apos) (e :: es) [] cpos) (tM c U (aBE g fo fa)) :=
  mQ (pe_bm PySem.F.plainAttrs_list slot hty hm ho ha hbase hfew hline hs hplain) fun σ H Q h => aCr (by rw [hc]) hd h
def alR (ds xs : List D) : Option (D × List D) := match xs with
  | [x] => if ds.length < sizeLine then some (.non, ds ++ [x]) else none
  | _ => none
theorem aAv : aEM c rAppend alR := fun H ρ a ds us xs vs z ds' Q hH l r rx e k => by
  unfold alR at e
  split at e
  · split at e
    · rename_i x hl
      cases e
      match vs, rx with
      | [v], ⟨r1, _⟩ =>
        refine ⟨a, us, v, rfl, rfl, hH, by rw [← r.length]; exact hl, k .non _ (r.append ⟨r1, trivial⟩) ?_ fun ρ' _ => .inr rfl⟩
        rw [List.length_append]; exact hl
    · cases e
  · cases e
def aGR (ds xs : List D) : Option (D × List D) := match xs with
  | [.int i, x] => if ds.length < sizeLine ∧ 0 ≤ i ∧ i < 2 ^ 63 then some (.non, ds.take i.toNat ++ [x] ++ ds.drop i.toNat) else none
  | _ => none
abbrev aGW : V → List V → Hp → VK → Prop := fun x vs H Q => ∃ (l : Addr) (xs : List V) (i : Int) (y : V), x = .ref l ∧ vs = [.int i, y] ∧ H l = some (.lst xs) ∧ xs.length < sizeLine ∧ 0 ≤ i ∧ i < 2 ^ 63 ∧ Q .non (upd H l (.lst (xs.take i.toNat ++ [y] ++ xs.drop i.toNat)))
def aH5 (ds xs : List D) : Option (D × List D) := match xs with
  | [] => some (.non, [])
  | _ => none
end
end Mn

namespace Mn
open PySem PySem.Spec PyProof.Rows L2
variable [TL : TabList]

/-! ### targets -/
abbrev FTg := D → Env → Option Env
def SameBut (vs : List Nat) (σ σ' : L2.St) : Prop := σ'.length = σ.length ∧ ∀ i, i ∉ vs → σ'[i]? = σ[i]?
def tMG (c : Cn) (A : FTg) (vs : List Nat) : TG := fun v σ H Q => ∃ e ρ d e', RelE c H ρ e σ ∧ RelD c H ρ d v ∧ A d e = some e' ∧ ∀ σ', RelE c H ρ e' σ' → SameBut vs σ σ' → Q σ' H
def aeA (i : Nat) : FTg := fun d e => some (e.set i (some (.d d)))
abbrev arF := List D → Env → Option Env
def aEw : arF := fun ds e => match ds with
  | [] => some e
  | _ => none
def as9 (A : FTg) (B : arF) : arF := fun ds e => match ds with
  | d :: r => match A d e with
    | some e' => B r e'
    | none => none
  | [] => none
def aFh (n : Nat) (B : arF) : FTg := fun d e => match aFl d with
  | some ds => if ds.length = n then B ds e else none
  | none => none
def aCg (c : Cn) (A : arF) (vs : List Nat) : TGs := fun us σ H Q => ∃ e ρ ds e', RelE c H ρ e σ ∧ RelDs c H ρ ds us ∧ A ds e = some e' ∧ ∀ σ', RelE c H ρ e' σ' → SameBut vs σ σ' → Q σ' H
section
variable {X : Cx} {c : Cn} {U : WX} {pos : Pos}
theorem SameBut.refl (vs : List Nat) (σ : L2.St) : SameBut vs σ σ := ⟨rfl, fun _ _ => rfl⟩
theorem SameBut.trans {vs : List Nat} {σ σ1 σ2 : L2.St} (a : SameBut vs σ σ1) (b : SameBut vs σ1 σ2) : SameBut vs σ σ2 := ⟨b.1.trans a.1, fun i hi => (b.2 i hi).trans (a.2 i hi)⟩
theorem SameBut.mono {vs ws : List Nat} {σ σ1 : L2.St} (a : SameBut vs σ σ1) (h : ∀ i ∈ vs, i ∈ ws) : SameBut ws σ σ1 := ⟨a.1, fun i hi => a.2 i fun z => hi (h i z)⟩
theorem aBn {tg : Expr} {t t' : TG} (h : PG X tg t) (i : ∀ v σ H Q, t' v σ H Q → t v σ H Q) : PG X tg t' := ⟨fun pins s σ H v u Q I r q => h.run pins s σ H v u Q I r (i v σ H Q q)⟩
theorem az0 {ts : List Expr} {t t' : TGs} (h : PGs X ts t) (i : ∀ v σ H Q, t' v σ H Q → t v σ H Q) : PGs X ts t' := ⟨fun pins s σ H v u Q I r q => h.run pins s σ H v u Q I r (i v σ H Q q)⟩
theorem aeF (i : Nat) {x : Str} (hN : X.N.Nodup) (hi : X.N[i]? = some x := by rfl) (hx : Loc X.env.scope x := by first | exact Or.inl rfl | exact Or.inr rfl) (hf : X.fn x = true ∨ X.env.scope.names.lookup x = some .local := by first | exact .inl rfl | exact .inr rfl) : PG X (.Name x pos) (tMG c (aeA i) [i]) :=
  aBn (pg_name hN hi hx hf) fun v σ H Q ⟨e, ρ, d, e', he, hd, ha, k⟩ => by
    cases ha
    exact k _ (he.set (show RelW c H ρ (.d d) v from hd)) ⟨by rw [List.length_set], fun j hj => by rw [List.getElem?_set_ne (fun z => hj (by simp [z]))]⟩
theorem aCG : PGs X [] (aCg c aEw []) := az0 pgs_nil fun v σ H Q ⟨e, ρ, ds, e', he, hd, ha, k⟩ => by
  cases ds with
  | nil => cases ha; cases v with
    | nil => exact ⟨rfl, k σ he (SameBut.refl _ _)⟩
    | cons _ _ => exact hd.elim
  | cons _ _ => cases ha
theorem avV {t : Expr} {ts : List Expr} {A : FTg} {B : arF} {vs ws : List Nat} (h1 : PG X t (tMG c A vs)) (h2 : PGs X ts (aCg c B ws)) (hs : (assignEach (t :: ts) X.env).map (·.2) = assign t X.env :: (assignEach ts X.env).map (·.2) := by rfl) : PGs X (t :: ts) (aCg c (as9 A B) (vs ++ ws)) :=
  az0 (pgs_cons h1 h2 hs) fun us σ H Q ⟨e, ρ, ds, e', he, hd, ha, k⟩ => by
    match ds, us, hd with
    | [], _, _ => cases ha
    | d :: ds, u :: us, ⟨r, t⟩ =>
      simp only [as9] at ha
      split at ha
      · rename_i e1 h1
        exact ⟨u, us, rfl, e, ρ, d, e1, he, r, h1, fun σ1 he1 s1 => ⟨e1, ρ, ds, e', he1, t, ha, fun σ2 he2 s2 => k σ2 he2 ((s1.mono fun i hi => List.mem_append_left _ hi).trans (s2.mono fun i hi => List.mem_append_right _ hi))⟩⟩
      · cases ha
end

/-! ### a[i] = v -/
def vB (fo fi fv : FE) : FS := fun e vh => lft (fv e vh) e fun wv vh1 => lft (fo e vh1) e fun wo vh2 => lft (fi e vh2) e fun wi vh3 => match wo with
  | .d _ => .stuck
  | .ref k => match wv with
  | .ref _ => .stuck
  | .d x => match see vh3 wi with
  | none => .stuck
  | some i => match vh3[k]? with
    | some (.lst ds) => match i with
      | .int n => match ixN ds.length n with
        | some j => .nx e (vh3.set k (.lst (ds.set j x)))
        | none => .stuck
      | _ => .stuck
    | some (.dic t kvs) => match aGJ t kvs i x with
      | some kvs' => if kvs.length < sizeLine then .nx e (vh3.set k (.dic t kvs')) else .stuck
      | none => .stuck
    | _ => .stuck
section
variable {X : Cx} {c : Cn} {U : WX} {pos : Pos}
theorem PSet.or {t t' : TSet} (h : PSet X t) (h' : PSet X t') : PSet X (fun o i v H Q => t o i v H Q ∨ t' o i v H Q) := by
  intro pins s σ H o i v ov iv u Q I ro ri rv q
  rcases q with q | q
  · exact h pins s σ H o i v ov iv u Q I ro ri rv q
  · exact h' pins s σ H o i v ov iv u Q I ro ri rv q
theorem wC {o i v : Expr} {fo fi fv : FE} {pos' : Pos} (hu : X.A.units + 1 < cLine) (ho : PE X o (tM c U fo)) (hi : PE X i (tM c U fi)) (hv : PE X v (tM c U fv)) (hs : swapsWithSole [.Subscript o i pos'] v pos.line X.env = pure false := by rfl) (hw : swappedStores [.Subscript o i pos'] v X.env = pure none := by rfl)
    (h1 : (assignEach [.Subscript o i pos'] X.env).map (·.2) = [assign (.Subscript o i pos') X.env] := by rfl)
    (ha : ∀ v, assign (.Subscript o i pos') X.env v = (do
      let ov ← holding [v] (eval o X.env)
      let iv ← holding [v, ov] (eval i X.env)
      standAt pos'
      holding [v, ov, iv] (setItem ov iv v)
      release [v, ov, iv] []) := by intro _; rfl) : PS X (.Assign [.Subscript o i pos'] v pos) (tMS c U (vB fo fi fv)) :=
  ahF (ps_asg hv (pg_sub ho hi (PSet.or set_list (set_dict hu)) ha) hs hw h1) fun D σ H ⟨e, ρ, vh, he, hh, h⟩ =>
    (avL he hh h).mono fun v1 H1 ⟨w1, vh1, ρ1, r1, A, g1, f1⟩ => (avL A.re A.rh A.out).mono fun v2 H2 ⟨w2, vh2, ρ2, r2, B, g2, f2⟩ => (avL B.re B.rh B.out).mono fun v3 H3 ⟨w3, vh3, ρ3, r3, C, g3, f3⟩ => by
      have o := C.out
      have r1' := (r1.stay g2 f2).stay g3 f3
      have r2' := r2.stay g3 f3
      cases w2 with
      | d _ => exact o.elim
      | ref k => cases w1 with
      | ref _ => exact o.elim
      | d x =>
      dsimp only at o
      cases hs3 : see vh3 w3 with
      | none => rw [hs3] at o; exact o.elim
      | some i =>
        rw [hs3] at o
        dsimp only at o
        have r3' := zN C.rh r3 hs3
        split at o
        · rename_i ds hk
          split at o
          · rename_i n
            split at o
            · rename_i j hj
              obtain ⟨q, hq, a, us, rfl, hH, l, rr⟩ := C.rh.at' k _ hk
              obtain rfl := r2'.2 a hq
              refine .inl ⟨a, us, n, j, rfl, r3', hH, by rw [← rr.length]; exact hj, ?_⟩
              have nt : ∀ xs, H3 a ≠ some (.tup xs) := fun xs z => by rw [hH] at z; cases z
              have fm := Fm.put (H := H3) (o := .lst (us.set j v1)) hq nt
              refine o _ _ _ (Grow.refl _ _) fm (C.re.stay (Grow.refl _ _) fm) (C.rh.put (o := .lst (us.set j v1)) (vo := .lst (ds.set j x)) hq nt ⟨a, _, rfl, upd_same, by rw [List.length_set]; exact l, ?_⟩)
              exact RelDs.stay (Grow.refl _ _) fm (rr.set r1')
            · exact o.elim
          · exact o.elim
        · rename_i t kvs hk
          split at o
          · rename_i kvs' hp
            split at o
            · rename_i hl
              obtain ⟨q, hq, a, us, rfl, hd, rr⟩ := C.rh.at' k _ hk
              obtain rfl := r2'.2 a hq
              have fin : ∀ (ob : HO) (us' : List V), HDic (upd H3 a ob) a t kvs' us' → RelDv c H3 ρ3 kvs' us' → D.nx σ (upd H3 a ob) := fun ob us' hd' rr' => by
                have fm := Fm.put (H := H3) (o := ob) hq hd.nt
                exact o _ _ _ (Grow.refl _ _) fm (C.re.stay (Grow.refl _ _) fm) (C.rh.put (o := ob) (vo := .dic t kvs') hq hd.nt ⟨a, us', rfl, hd', RelDv.stay (Grow.refl _ _) fm rr'⟩)
              cases t with
              | false =>
                obtain ⟨ks, h1, h2⟩ := hd
                obtain ⟨key, hk1, rfl⟩ := Option.map_eq_some_iff.mp hp
                obtain ⟨ks', xs', e1, e2, e3⟩ := aEh (v := v1) (d := x) hk1 r1' h1 rr
                refine .inr ⟨a, _, rfl, .inl ⟨_, key, h2, r3'.d_key hk1, by rw [List.length_zip, acD h1, ← rr.length, Nat.min_self]; exact hl, rfl⟩, ?_⟩
                rw [e2]
                exact fin _ xs' ⟨ks', e1, upd_same⟩ e3
              | true =>
                obtain ⟨ks, h1, h2⟩ := hd
                obtain ⟨key, hk1, rfl⟩ := Option.map_eq_some_iff.mp hp
                obtain ⟨ks', xs', e1, e2, e3⟩ := aEn (v := v1) (d := x) hk1 r1' h1 rr
                obtain ⟨b, eb, hb⟩ := r3'.d_keyT hk1
                refine .inr ⟨a, _, rfl, .inr ⟨_, key, b, h2, eb, hb, by rw [List.length_zip, ahT h1, ← rr.length, Nat.min_self]; exact hl, rfl⟩, ?_⟩
                rw [e2]
                exact fin _ xs' ⟨ks', e1, upd_same⟩ e3
            · exact o.elim
          · exact o.elim
        · exact o.elim
end

/-! ### other hidden lists, other places -/
structure Cn.Ext (c c' : Cn) (H : Hp) : Prop where
  k : c'.K = c.K
  m : c'.mg = c.mg
  h : ∀ a, a ∈ c'.hid → a ∈ c.hid ∨ ∀ o, H a ≠ some o
structure Mv (c : Cn) (ρ : Rho) (c' : Cn) (ρ' : Rho) (H : Hp) : Prop where
  k : c'.K = c.K
  m : c'.mg = c.mg
  off : ∀ a o, Off c ρ a → H a = some o → Off c' ρ' a
section
variable {c c' : Cn} {H : Hp} {ρ ρ' : Rho}
mutual
theorem RelD.mv (x : Mv c ρ c' ρ' H) : ∀ {d : D} {v : V}, RelD c H ρ d v → RelD c' H ρ' d v
  | .non, _, h => h
  | .bl _, _, h => h
  | .int _, _, h => h
  | .str _, _, h => h
  | .tup _, _, ⟨b, xs, e, n, hH, l, r⟩ => ⟨b, xs, e, x.off _ _ n hH, hH, l, RelDs.mv x r⟩
  | .ctp _, _, ⟨b, xs, e, ⟨o, its, m, h1, h2⟩, l, r⟩ => ⟨b, xs, e, ⟨o, its, m, by rw [x.k]; exact h1, h2⟩, l, RelDs.mv x r⟩
  | .lst _, _, ⟨b, xs, e, n, hH, l, r⟩ => ⟨b, xs, e, x.off _ _ n hH, hH, l, RelDs.mv x r⟩
  | .frz _, _, ⟨b, xs, e, t, l, r⟩ => ⟨b, xs, e, t.elim (fun ⟨n, hr⟩ => .inl ⟨hr.elim (fun hr => x.off _ _ n hr) fun ⟨_, hr⟩ => x.off _ _ n hr, hr⟩) (fun ⟨o, its, m, h1, h2⟩ => .inr ⟨o, its, m, by rw [x.k]; exact h1, h2⟩), l, RelDs.mv x r⟩
  | .dic _ _, _, ⟨b, xs, e, n, hH, r⟩ => ⟨b, xs, e, let ⟨_, ho⟩ := hH.ex; x.off _ _ n ho, hH, RelDv.mv x r⟩
  | .ins _ _, _, ⟨b, C, dx, xs, e, n, hm, hH, r⟩ => ⟨b, C, dx, xs, e, x.off _ _ n hH, by rw [x.m]; exact hm, hH, RelDf.mv x r⟩
  | .ty _, _, h => h
  | .cls _, _, ⟨C, e, hm⟩ => ⟨C, e, by rw [x.m]; exact hm⟩
  | .fdc _ _, _, ⟨b, xs, e, n, hH, r⟩ => ⟨b, xs, e, let ⟨_, ho⟩ := hH.ex; x.off _ _ n ho, hH, RelDv.mv x r⟩
  | .exc _ _, _, ⟨b, C, dx, xs, e, n, n2, hm, hH, hD, r⟩ => ⟨b, C, dx, xs, e, x.off _ _ n hH, x.off _ _ n2 hD, by rw [x.m]; exact hm, hH, hD, RelDf.mv x r⟩
theorem RelDs.mv (x : Mv c ρ c' ρ' H) : ∀ {xs : List D} {vs : List V}, RelDs c H ρ xs vs → RelDs c' H ρ' xs vs
  | [], [], h => trivial
  | _ :: _, _ :: _, ⟨h, t⟩ => ⟨RelD.mv x h, RelDs.mv x t⟩
theorem RelDv.mv (x : Mv c ρ c' ρ' H) : ∀ {xs : List (D × D)} {vs : List V}, RelDv c H ρ xs vs → RelDv c' H ρ' xs vs
  | [], [], h => trivial
  | (_, _) :: _, _ :: _, ⟨h, t⟩ => ⟨RelD.mv x h, RelDv.mv x t⟩
theorem RelDf.mv (x : Mv c ρ c' ρ' H) : ∀ {xs : List (Str × D)} {vs : List V}, RelDf c H ρ xs vs → RelDf c' H ρ' xs vs
  | [], [], h => trivial
  | (_, _) :: _, _ :: _, ⟨h, t⟩ => ⟨RelD.mv x h, RelDf.mv x t⟩
end
theorem Cn.Ext.mv (x : c.Ext c' H) : Mv c ρ c' ρ H := ⟨x.k, x.m, fun a o h e => ⟨h.1, fun z => (x.h a z).elim h.2 fun w => w o e⟩⟩
theorem RelD.re (x : c.Ext c' H) {d : D} {v : V} (h : RelD c H ρ d v) : RelD c' H ρ d v := RelD.mv x.mv h
theorem RelDs.re (x : c.Ext c' H) {d : List D} {v : List V} (h : RelDs c H ρ d v) : RelDs c' H ρ d v := RelDs.mv x.mv h
theorem Cn.Ext.refl : c.Ext c H := ⟨rfl, rfl, fun _ h => .inl h⟩
end
/-! ### what is walked -/
def apD (c : Cn) (ds : List D) (H0 : Hp) (ρ0 : Rho) (J : It) : Prop := ∀ c' H ρ i, c.Ext c' H0 → Grow ρ0 H0 ρ → Fw c' H0 H ρ0 → arL c' H ρ →
  (i < ds.length → J.go i H ∧ ∀ x H', J.yld i H x H' → Same H H' ∧ ∃ d, ds[i]? = some d ∧ RelD c' H' ρ d x) ∧ (ds.length ≤ i → J.stop i H)
abbrev FI := Env → VH → Res (List D)
def tMI (c : Cn) (U : WX) (f : FI) : TI := fun σ H R => ∃ e ρ vh, RelE c H ρ e σ ∧ RelH c H ρ vh ∧ Out c σ H ρ U (f e vh) fun ds _ H' ρ' => ∀ J, apD c ds H' ρ' J → R J H'
def apL (f : FE) : FI := fun e vh => bnd (f e vh) fun w vh1 => match w with
  | .d x => match x with
    | .str z => .ok (z.cps.toList.map fun ch => .str ⟨#[ch]⟩) vh1
    | x => opt (af0 x) fun ds => .ok ds vh1
  | _ => .stuck
def afN (f : FE) : FI := fun e vh => bnd (f e vh) fun w vh1 => match see vh1 w with
  | some (.int j) => if -(2 ^ 62) ≤ j ∧ j < 2 ^ 62 then .ok ((List.range j.toNat).map fun (i : Nat) => .int (i : Int)) vh1 else .stuck
  | _ => .stuck
section
variable {X : Cx} {c : Cn} {U : WX} {pos p : Pos} {tg iter e : Expr}
theorem aIx {β : Type} {f : FI} {k : List D → VH → RS} {D : Ends} {σ : L2.St} {H : Hp} {ρ : Rho} {e : Env} {vh : VH} (he : RelE c H ρ e σ) (hh : RelH c H ρ vh) (h : OutS c H ρ U (lft (f e vh) e k) D) :
    tMI c U f σ H fun J H1 => ∃ ds vh1 ρ1, apD c ds H1 ρ1 J ∧ AftS c U σ e H1 ρ1 vh1 (k ds vh1) D ∧ Grow ρ H ρ1 ∧ Fm H H1 ρ := by
  refine ⟨e, ρ, vh, he, hh, ?_⟩
  cases q : f e vh with
  | ok ds vh' =>
    rw [q] at h
    exact fun H' ρ' g fm rh J fd => ⟨ds, vh', ρ', fd, ⟨he.stay g fm, rh, h.later g fm⟩, g, fm⟩
  | exn x vh' => rw [q] at h; exact fun cls d H' ρ' g fm rx rh => h cls d σ H' ρ' g fm rx (he.stay g fm) rh
  | stuck => rw [q] at h; exact h
theorem aFj {β : Type} {f : FI} {k : List D → VH → Res β} {K : β → VH → Hp → Rho → Prop} {σ : L2.St} {H : Hp} {ρ : Rho} {e : Env} {vh : VH} (he : RelE c H ρ e σ) (hh : RelH c H ρ vh) (h : Out c σ H ρ U (bnd (f e vh) k) K) :
    tMI c U f σ H fun J H1 => ∃ ds vh1 ρ1, apD c ds H1 ρ1 J ∧ Aft c U σ e H1 ρ1 vh1 (k ds vh1) K ∧ Grow ρ H ρ1 ∧ Fm H H1 ρ := by
  refine ⟨e, ρ, vh, he, hh, ?_⟩
  cases q : f e vh with
  | ok ds vh' =>
    rw [q] at h
    exact fun H' ρ' g fm rh J fd => ⟨ds, vh', ρ', fd, ⟨he.stay g fm, rh, h.later g fm⟩, g, fm⟩
  | exn x vh' => rw [q] at h; exact h
  | stuck => rw [q] at h; exact h
theorem tMI.mono {f : FI} {σ : L2.St} {H : Hp} {Q Q' : It → Hp → Prop} (h : tMI c U f σ H Q) (q : ∀ v H, Q v H → Q' v H) : tMI c U f σ H Q' := by
  obtain ⟨e, ρ, vh, he, hh, o⟩ := h
  exact ⟨e, ρ, vh, he, hh, o.mono fun _ _ _ _ k J fd => q _ _ (k J fd)⟩
theorem aEa {t t' : TI} (h : PI X tg iter t) (i : ∀ σ H R, t' σ H R → t σ H R) : PI X tg iter t' := ⟨fun pins s σ H R I q => h.run pins s σ H R I (i σ H R q)⟩
/-- a list, a tuple or a text -/
theorem axO {f : FE} (hk : X.K = c.K) (he : PE X iter (tM c U f)) : PI X tg iter (tMI c U (apL f)) := by
  refine ⟨fun pins s σ H R I hw => ?_⟩
  obtain ⟨en, ρ, vh, he0, hh, h⟩ := hw
  have h2 : tM c U f σ H fun v H1 => (∃ a xs ds ρ1 vh1, v = .ref a ∧ H1 a = some (.lst xs) ∧ RelD c H1 ρ1 (.lst ds) v ∧ RelH c H1 ρ1 vh1 ∧ ∀ J, apD c ds H1 ρ1 J → R J H1) ∨ (∃ a xs ds ρ1 vh1, v = .ref a ∧ SqT c.K H1 a xs ∧ (RelD c H1 ρ1 (.tup ds) v ∨ RelD c H1 ρ1 (.ctp ds) v) ∧ RelH c H1 ρ1 vh1 ∧ ∀ J, apD c ds H1 ρ1 J → R J H1) ∨
      (∃ z, v = .str z ∧ ∃ ρ1, PyData.strOk z = true ∧ ∀ J, apD c (z.cps.toList.map fun ch => .str ⟨#[ch]⟩) H1 ρ1 J → R J H1) := by
    refine (use he0 hh h).mono fun v H1 ⟨w, vh1, ρ1, r, A, g1, f1⟩ => ?_
    have o := A.out
    split at o
    · rename_i x
      split at o
      · rename_i z
        exact .inr (.inr ⟨z, r.1, ρ1, r.2.2, o.here A.rh⟩)
      · obtain ⟨ds, hd, o⟩ := dM o
        have k := o.here A.rh
        cases x with
        | lst _ => cases hd; obtain ⟨a, xs, e1, n, hH, l, rr⟩ := id r; exact .inl ⟨a, xs, ds, ρ1, vh1, e1, hH, r, A.rh, k⟩
        | tup _ => cases hd; obtain ⟨a, xs, e1, n, hH, l, rr⟩ := id r; exact .inr (.inl ⟨a, xs, ds, ρ1, vh1, e1, .of hH, .inl r, A.rh, k⟩)
        | ctp _ => cases hd; obtain ⟨a, xs, e1, t, l, rr⟩ := id r; exact .inr (.inl ⟨a, xs, ds, ρ1, vh1, e1, t.sq, .inr r, A.rh, k⟩)
        | _ => cases hd
    · exact o.elim
  refine thn (he.run pins s σ H _ I h2) fun v s1 ⟨x, H1, I1, r1, q1⟩ => ?_
  rcases q1 with ⟨a, xs, ds, ρ1, vh1, rfl, hH, hr, rh, k⟩ | ⟨a, xs, ds, ρ1, vh1, rfl, hs, hr, rh, k⟩ | ⟨z, rfl, ρ1, hs, k⟩
  · cases r1
    obtain ⟨its, rv, p, hz⟩ := I1.list (.of hH)
    refine wpAny_pyIter_list p.isList ?_
    refine ⟨s1.heap.objs.size, [s1.heap.objs.size], _, _, H1, rfl, I1.kept (t' := s1.toks) fun b o e => Heap.get?_push_of_some _ e, turn_list a _, ⟨_, Heap.get?_push_size _ rfl, rfl, rfl⟩, fun b hb => ?_, k _ ?_⟩
    · have e : b = s1.heap.objs.size := by simpa using hb
      subst e
      exact I1.fpOk (Nat.le_refl _) (I1.hok.fresh (Nat.le_refl _))
    · intro c' H' ρ' i ce g f fr
      obtain ⟨a', xs', e1, n', hH', l', rr'⟩ := RelD.stayw g f (RelD.re ce hr)
      cases e1
      refine ⟨fun hi => ⟨⟨xs', xs'[i]'(by rw [← rr'.length]; exact hi), .of hH', by simp [← rr'.length, hi]⟩, fun x H2 hy => ?_⟩, fun hi => ⟨xs', .of hH', by rw [← rr'.length]; exact hi⟩⟩
      obtain ⟨rfl, hx⟩ := hy
      have hx' := hx xs' (.of hH')
      obtain ⟨d, h1, h2⟩ := rr'.get' hx'
      exact ⟨Same.refl _, d, h1, h2⟩
  · cases r1
    obtain ⟨its, rv, p, hz⟩ := I1.tuple (show SqT X.K H1 a xs by rw [hk]; exact hs)
    refine wpAny_pyIter_tuple (show s1.heap.IsTuple a its.toArray from p) ?_
    refine ⟨s1.heap.objs.size, [s1.heap.objs.size], _, _, H1, rfl, I1.kept (t' := s1.toks) fun b o e => Heap.get?_push_of_some _ e, turn_tuple a _, ⟨_, Heap.get?_push_size _ rfl, rfl, rfl⟩, fun b hb => ?_, k _ ?_⟩
    · have e : b = s1.heap.objs.size := by simpa using hb
      subst e
      exact I1.fpOk (Nat.le_refl _) (I1.hok.fresh (Nat.le_refl _))
    · intro c' H' ρ' i ce g f fr
      obtain ⟨xs', hs', rr'⟩ : ∃ xs', SqT X.K H' a xs' ∧ RelDs c' H' ρ' ds xs' := by
        rw [hk, ← ce.k]
        rcases hr with hr | hr
        · obtain ⟨a', xs', e1, n', hH', l', rr'⟩ := RelD.stayw g f (RelD.re ce hr); cases e1; exact ⟨xs', .of hH', rr'⟩
        · obtain ⟨a', xs', e1, t', l', rr'⟩ := RelD.stayw g f (RelD.re ce hr); cases e1; exact ⟨xs', t'.sq, rr'⟩
      refine ⟨fun hi => ⟨⟨xs', xs'[i]'(by rw [← rr'.length]; exact hi), hs', by simp [← rr'.length, hi]⟩, fun x H2 hy => ?_⟩, fun hi => ⟨xs', hs', by rw [← rr'.length]; exact hi⟩⟩
      obtain ⟨rfl, hx⟩ := hy
      have hx' := hx xs' hs'
      obtain ⟨d, h1, h2⟩ := rr'.get' hx'
      exact ⟨Same.refl _, d, h1, h2⟩
  · obtain ⟨t, rfl⟩ := r1
    have fd : apD c (z.cps.toList.map fun ch => .str ⟨#[ch]⟩) H1 ρ1 (Its z) := fun c' H' ρ' i ce g f fr => by
      rw [List.length_map, Array.length_toList]
      refine ⟨fun hi => ⟨hi, fun x H2 hy => ?_⟩, fun hi => hi⟩
      obtain ⟨rfl, ch, hc, rfl⟩ := hy
      have hm : ch ∈ z.cps.toList := by simpa using Array.mem_of_getElem? hc
      exact ⟨Same.refl _, .str ⟨#[ch]⟩, by rw [List.getElem?_map, Array.getElem?_toList, hc]; rfl, rfl, by show 1 ≤ sizeLine; decide, asU hs hm⟩
    cases ha : z.cps.all (· < 128)
    · exact wpAny_pyIter_wide ha (pi_one (tk := s1.toks) I1 _ (turn_str _ z t "str_iterator" (.inr rfl)) ⟨_, Heap.get?_push_size _ rfl, rfl, rfl⟩ (k _ fd))
    · exact wpAny_pyIter_ascii ha (pi_one (tk := s1.toks) I1 _ (turn_str _ z t "str_ascii_iterator" (.inl rfl)) ⟨_, Heap.get?_push_size _ rfl, rfl, rfl⟩ (k _ fd))
/-- range(n) -/
theorem am0 {a : Expr} {f : FE} (hg : Gl X "range") (hm : X.mg "range" = none) (ha : PE X a (tM c U f)) (hs : starEach [a] X.env = [(false, eval a X.env)] := by rfl) : PI X tg (.Call (.Name "range" p) [a] [] pos) (tMI c U (afN f)) :=
  aEa (pi_range1 hg hm (aA ha aY (by rw [hs]; rfl)) hs) fun σ H R ⟨e, ρ, vh, he, hh, h⟩ => by
    refine ⟨e, ρ, vh, he, hh, ?_⟩
    unfold afN at h
    unfold aK cI
    cases q : f e vh with
    | stuck => rw [q] at h; exact h.elim
    | exn x vh' => rw [q] at h; exact h
    | ok w vh' =>
      rw [q, abD] at h
      rw [abD, abD]
      intro H' ρ' g f rh vs hr
      match vs, hr with
      | [v], ⟨r, _⟩ =>
        cases hs : see vh' w with
        | none => simp only [hs] at h; exact h.elim
        | some x =>
          simp only [hs] at h
          split at h
          · rename_i j hj
            cases hj
            split at h
            · rename_i hb
              refine ⟨j, by rw [show v = .int j from zN rh r hs], hb.1, hb.2, h H' ρ' g f rh _ fun c' H2 ρ2 i ce g2 f2 fr => ?_⟩
              rw [List.length_map, List.length_range]
              refine ⟨fun hi => ⟨hi, fun x H3 hy => ?_⟩, fun hi => hi⟩
              obtain ⟨rfl, rfl⟩ := hy
              exact ⟨Same.refl _, .int (i : Int), by simp [hi], by show V.int (0 + (i : Int)) = V.int (i : Int); rw [Int.zero_add]⟩
            · exact h.elim
          · exact h.elim
end
end Mn

namespace Mn
open PySem PySem.Spec PyProof.Rows L2
variable [TL : TabList]

/-! ### for, while -/
def aoD (A : FTg) (f : FS) : List D → Env → VH → RS
  | [], e, vh => .nx e vh
  | d :: ds, e, vh => match A d e with
    | none => .stuck
    | some e' => match f e' vh with
      | .nx e2 vh2 => aoD A f ds e2 vh2
      | .ct e2 vh2 => aoD A f ds e2 vh2
      | .bk e2 vh2 => .nx e2 vh2
      | r => r
def azT (fi : FI) (A : FTg) (f : FS) : FS := fun e vh => lft (fi e vh) e fun ds vh' => aoD A f ds e vh'
def aA5 (t : FT) (f : FS) : Nat → Env → VH → RS
  | 0, _, _ => .stuck
  | n + 1, e, vh => lft (t e vh) e fun b vh1 => if b = true then match f e vh1 with
      | .nx e2 vh2 => aA5 t f n e2 vh2
      | .ct e2 vh2 => aA5 t f n e2 vh2
      | .bk e2 vh2 => .nx e2 vh2
      | r => r
    else .nx e vh1
section
variable {X : Cx} {c : Cn} {U : WX} {pos : Pos}
theorem aAY {tg iter : Expr} {body : List Stmt} {fi : FI} {A : FTg} {vs : List Nat} {f : FS} (hp : PassesOwn (model X.prog X.w) X.A X.env X.xe) (hc : X.calm = true) (hi : PI X tg iter (tMI c U fi)) (hg : PG X tg (tMG c A vs)) (hb : PSs X body (tMS c U f))
    (hs : ∀ x, foldedSetIterable iter X.env x = pure x := by intro _; rfl) : PS X (.For tg iter body [] pos) (tMS c U (azT fi A f)) :=
  ahF (ps_for hp hc hi hg hb hs) fun D σ H ⟨e, ρ, vh, he, hh, h⟩ => (aIx (β := Unit) he hh h).mono fun J H1 ⟨ds, vh1, ρ1, fd, A0, g1, f1⟩ => by
    refine ⟨fun i m σ2 H2 => m = ds.length - i ∧ i ≤ ds.length ∧ ∃ e2 ρ2 vh2, Grow ρ1 H1 ρ2 ∧ Fm H1 H2 ρ1 ∧ RelE c H2 ρ2 e2 σ2 ∧ RelH c H2 ρ2 vh2 ∧ OutS c H2 ρ2 U (aoD A f (ds.drop i) e2 vh2) D,
      ⟨ds.length, by simp, Nat.zero_le _, e, ρ1, vh1, Grow.refl _ _, Fm.refl _ _, A0.re, A0.rh, A0.out⟩, ?_⟩
    rintro i m σ2 H2 ⟨rfl, hi, e2, ρ2, vh2, g2, f2, re, rh, o⟩
    obtain ⟨k1, k2⟩ := fd c H2 ρ2 i .refl g2 f2.w rh.fr
    by_cases hlt : i < ds.length
    · obtain ⟨go, yl⟩ := k1 hlt
      refine .inr ⟨go, fun σ' H' => ∃ e' ρ' vh', Grow ρ1 H1 ρ' ∧ Fm H1 H' ρ1 ∧ RelE c H' ρ' e' σ' ∧ RelH c H' ρ' vh' ∧ OutS c H' ρ' U (aoD A f (ds.drop (i + 1)) e' vh') D, fun σ' H' ⟨e', ρ', vh', a1, a2, a3, a4, a5⟩ => ⟨ds.length - (i + 1), by omega, rfl, hlt, e', ρ', vh', a1, a2, a3, a4, a5⟩, fun x H' hy => ?_⟩
      obtain ⟨sm, d, hd, rd⟩ := yl x H' hy
      rw [List.drop_eq_getElem_cons hlt] at o
      have ed : ds[i] = d := by rw [List.getElem?_eq_getElem hlt] at hd; exact Option.some.inj hd
      rw [ed] at o
      have re' : RelE c H' ρ2 e2 σ2 := re.stay (Grow.refl _ _) (Fm.same sm)
      have o' := o.later (Grow.refl _ _) (Fm.same sm)
      simp only [aoD] at o'
      cases qa : A d e2 with
      | none => rw [qa] at o'; exact o'.elim
      | some e' =>
        rw [qa] at o'
        dsimp only at o'
        refine ⟨e2, ρ2, d, e', re', rd, qa, fun σ' re2 _ => ⟨e', ρ2, vh2, re2, rh.same sm, ?_⟩⟩
        have f3 : Fm H1 H' ρ1 := Fm.trans g2 f2 (Fm.same sm)
        cases qf : f e' vh2 with
        | nx e3 vh3 => rw [qf] at o'; exact fun σ3 H3 ρ3 g3 f4 a b => ⟨e3, ρ3, vh3, g2.trans f2 (by exact ⟨g3.len, g3.old, fun a ha => (g3.new a ha).imp id fun z => by cases q : H2 a with | none => rfl | some o => rw [sm a o q] at z; cases z⟩), Fm.trans g2 f2 (Fm.trans (Grow.refl ρ2 H2) (Fm.same sm) f4), a, b, o'.later g3 f4⟩
        | ct e3 vh3 => rw [qf] at o'; exact fun σ3 H3 ρ3 g3 f4 a b => ⟨e3, ρ3, vh3, g2.trans f2 (by exact ⟨g3.len, g3.old, fun a ha => (g3.new a ha).imp id fun z => by cases q : H2 a with | none => rfl | some o => rw [sm a o q] at z; cases z⟩), Fm.trans g2 f2 (Fm.trans (Grow.refl ρ2 H2) (Fm.same sm) f4), a, b, o'.later g3 f4⟩
        | bk e3 vh3 => rw [qf] at o'; exact o'
        | rt w vh3 => rw [qf] at o'; exact o'
        | exn x e3 vh3 => rw [qf] at o'; exact o'
        | stuck => rw [qf] at o'; exact o'
    · have ei : i = ds.length := by omega
      subst ei
      rw [List.drop_length] at o
      exact .inl ⟨k2 (Nat.le_refl _), o.here re rh⟩
end

/-! ### comprehensions -/
def lE (e : Env) : List Nat → Env
  | [] => e
  | v :: vs => (lE e vs).set v none
def aEm : List FT → FT
  | [] => fun _ vh => .ok true vh
  | t :: ts => fun e vh => bnd (t e vh) fun b vh1 => if b = true then aEm ts e vh1 else .ok false vh1
def acC (A : FTg) (t : FT) (f : FE) (e : Env) : List D → VH → Res (List D)
  | [], vh => .ok [] vh
  | d :: ds, vh => match A d e with
    | none => .stuck
    | some e' => match t e' vh with
      | .ok false vh1 => acC A t f e ds vh1
      | .ok true vh1 => match f e' vh1 with
        | .ok (.d x) vh2 => match acC A t f e ds vh2 with
          | .ok xs vh3 => .ok (x :: xs) vh3
          | _ => .stuck
        | _ => .stuck
      | _ => .stuck
/-- a list comprehension; m: it will change -/
def mLc (m : Bool) (fi : FI) (A : FTg) (t : FT) (f : FE) (vs : List Nat) : FE := fun e vh => bnd (fi e vh) fun ds vh1 => match acC A t f (lE e vs) ds vh1 with
  | .ok xs vh2 => if xs.length ≤ sizeLine then (if m then .ok (.ref vh2.length) (vh2 ++ [.lst xs]) else .ok (.d (.lst xs)) vh2) else .stuck
  | _ => .stuck
abbrev Cn.hide (c : Cn) (a : Addr) : Cn := { c with hid := a :: c.hid }
section
variable {c : Cn} {H : Hp} {ρ : Rho} {vh : VH}
theorem RelE.wipe {e : Env} {σ : L2.St} (h : RelE c H ρ e σ) : ∀ vs : List Nat, RelE c H ρ (lE e vs) (L2.wipe σ vs)
  | [] => h
  | v :: vs => by
    have go : ∀ {e : Env} {σ : L2.St} {i : Nat}, RelE c H ρ e σ → RelE c H ρ (e.set i none) (σ.set i none) := by
      intro e
      induction e with
      | nil => intro σ i h; cases σ with
        | nil => trivial
        | cons _ _ => exact h.elim
      | cons o e ih => intro σ i h; cases σ with
        | nil => cases o <;> exact h.elim
        | cons s σ =>
          cases i with
          | zero => cases o with
            | none => exact h
            | some w => cases s with
              | none => exact h.elim
              | some v => exact h.2
          | succ i => cases o with
            | none => exact ih (σ := σ) (i := i) h
            | some w => cases s with
              | none => exact h.elim
              | some v => exact ⟨h.1, ih (σ := σ) (i := i) h.2⟩
    exact go (RelE.wipe h vs)
theorem Cn.ext_hide {a : Addr} (ha : H a = none) : c.Ext (c.hide a) H := ⟨rfl, rfl, fun b hb => (List.mem_cons.mp hb).elim (fun e => .inr fun o z => by rw [e, ha] at z; cases z) .inl⟩
theorem Cn.ext_bare {a : Addr} : (c.hide a).Ext c H := ⟨rfl, rfl, fun b hb => .inl (List.mem_cons_of_mem _ hb)⟩
/-- the places of ρ stand in ρ' -/
def Pre (ρ ρ' : Rho) : Prop := ρ.length ≤ ρ'.length ∧ ∀ i, i < ρ.length → ρ'[i]? = ρ[i]?
theorem Pre.refl (ρ : Rho) : Pre ρ ρ := ⟨Nat.le_refl _, fun _ _ => rfl⟩
theorem RelW.conv {c' : Cn} {H' : Hp} {ρ' : Rho} (p : Pre ρ ρ') (k : ∀ x v, RelD c H ρ x v → RelD c' H' ρ' x v) : ∀ {w : W} {v : V}, RelW c H ρ w v → RelW c' H' ρ' w v
  | .d _, _, h => k _ _ h
  | .ref _, _, ⟨h1, h2⟩ => ⟨Nat.lt_of_lt_of_le h1 p.1, fun a ha => h2 a (by rw [← p.2 _ h1]; exact ha)⟩
theorem RelE.conv {c' : Cn} {H' : Hp} {ρ' : Rho} (p : Pre ρ ρ') (k : ∀ x v, RelD c H ρ x v → RelD c' H' ρ' x v) : ∀ {e : Env} {σ : L2.St}, RelE c H ρ e σ → RelE c' H' ρ' e σ
  | [], [], h => trivial
  | some _ :: _, some _ :: _, ⟨h, t⟩ => ⟨RelW.conv p k h, RelE.conv p k t⟩
  | none :: e, _ :: σ, t => RelE.conv (e := e) (σ := σ) p k t
theorem RelDs.conv {c' : Cn} {H' : Hp} {ρ' : Rho} (k : ∀ x v, RelD c H ρ x v → RelD c' H' ρ' x v) : ∀ {xs : List D} {vs : List V}, RelDs c H ρ xs vs → RelDs c' H' ρ' xs vs
  | [], [], h => trivial
  | _ :: _, _ :: _, ⟨h, t⟩ => ⟨k _ _ h, RelDs.conv k t⟩
theorem RelDv.conv {c' : Cn} {H' : Hp} {ρ' : Rho} (k : ∀ x v, RelD c H ρ x v → RelD c' H' ρ' x v) : ∀ {xs : List (D × D)} {vs : List V}, RelDv c H ρ xs vs → RelDv c' H' ρ' xs vs
  | [], [], h => trivial
  | (_, _) :: _, _ :: _, ⟨h, t⟩ => ⟨k _ _ h, RelDv.conv k t⟩
theorem RelWf.conv {c' : Cn} {H' : Hp} {ρ' : Rho} (p : Pre ρ ρ') (k : ∀ x v, RelD c H ρ x v → RelD c' H' ρ' x v) : ∀ {xs : List (Str × W)} {vs : List V}, RelWf c H ρ xs vs → RelWf c' H' ρ' xs vs
  | [], [], h => trivial
  | (_, _) :: _, _ :: _, ⟨h, t⟩ => ⟨RelW.conv p k h, RelWf.conv p k t⟩
theorem RelWs.convR {c' : Cn} {H' : Hp} {ρ' : Rho} (p : Pre ρ ρ') (k : ∀ x v, RelD c H ρ x v → RelD c' H' ρ' x v) : ∀ {xs : List W} {vs : List V}, RelWs c H ρ xs vs → RelWs c' H' ρ' xs vs
  | [], [], h => trivial
  | _ :: _, _ :: _, ⟨h, t⟩ => ⟨RelW.conv p k h, RelWs.convR p k t⟩
theorem RelO.conv {c' : Cn} {H' : Hp} {ρ' : Rho} (p : Pre ρ ρ') (km : c'.mg = c.mg) (k : ∀ x v, RelD c H ρ x v → RelD c' H' ρ' x v) {vo : VO} {o : Option Addr} (s : ∀ a u, o = some a → H a = some u → H' a = some u) (h : RelO c H ρ vo o) : RelO c' H' ρ' vo o := by
  cases vo with
  | dead => exact h
  | lsw ws => obtain ⟨a, xs, e, hH, l, r⟩ := h; exact ⟨a, xs, e, s a _ e hH, l, r.convR p k⟩
  | tpw ws => obtain ⟨a, xs, e, hH, l, hr, r⟩ := h; exact ⟨a, xs, e, s a _ e hH, l, hr, r.convR p k⟩
  | lst ds => obtain ⟨a, xs, e, hH, l, r⟩ := h; exact ⟨a, xs, e, s a _ e hH, l, r.conv k⟩
  | dic t kvs => obtain ⟨a, xs, e, hH, r⟩ := h; exact ⟨a, xs, e, hH.to fun u q _ => s a u e q, r.conv k⟩
  | ins n fs => obtain ⟨a, C, dx, xs, e, hm, hH, r⟩ := h; exact ⟨a, C, dx, xs, e, by rw [km]; exact hm, s a _ e hH, r.conv p k⟩
/-- the hidden list comes to light as a changeable one -/
theorem Mv.show {a : Addr} : Mv (c.hide a) ρ c (ρ ++ [some a]) H := ⟨rfl, rfl, fun b o h e => ⟨fun z => by
  rcases List.mem_append.mp z with z | z
  · exact h.1 z
  · simp at z; subst z; exact h.2 List.mem_cons_self, fun z => h.2 (List.mem_cons_of_mem _ z)⟩⟩
theorem Pre.snoc {o : Option Addr} : Pre ρ (ρ ++ [o]) := ⟨by simp, fun i hi => List.getElem?_append_left hi⟩
theorem RelH.show {a : Addr} {vo : VO} (h : RelH (c.hide a) H ρ vh) (hc : a ∉ c.hid) (r : RelO c H (ρ ++ [some a]) vo (some a)) : RelH c H (ρ ++ [some a]) (vh ++ [vo]) where
  len := by simp [h.len]
  inj := fun i j b hi hj => by
    have na := (h.hid a List.mem_cons_self).2
    have at_ : ∀ i b, (ρ ++ [some a])[i]? = some (some b) → (i < ρ.length ∧ ρ[i]? = some (some b)) ∨ (i = ρ.length ∧ b = a) := fun i b e => by
      by_cases li : i < ρ.length
      · rw [List.getElem?_append_left li] at e; exact .inl ⟨li, e⟩
      · rw [List.getElem?_append_right (by omega)] at e
        cases q : i - ρ.length with
        | zero => rw [q] at e; exact .inr ⟨by omega, by simpa using e.symm⟩
        | succ n => rw [q] at e; simp at e
    rcases at_ i b hi with ⟨l1, e1⟩ | ⟨e1, z1⟩
    · rcases at_ j b hj with ⟨l2, e2⟩ | ⟨e2, z2⟩
      · exact h.inj i j b e1 e2
      · subst z2; exact absurd (List.mem_of_getElem? e1) na
    · rcases at_ j b hj with ⟨l2, e2⟩ | ⟨e2, z2⟩
      · subst z1; exact absurd (List.mem_of_getElem? e2) na
      · omega
  at' := fun i vo' e => by
    by_cases li : i < vh.length
    · rw [List.getElem?_append_left li] at e
      obtain ⟨u, hu, r'⟩ := h.at' i vo' e
      exact ⟨u, by rw [List.getElem?_append_left (by rw [h.len]; exact li)]; exact hu, RelO.conv (c := c.hide a) (c' := c) (H := H) (H' := H) Pre.snoc rfl (fun x v hx => RelD.mv Mv.show hx) (fun _ _ _ z => z) r'⟩
    · rw [List.getElem?_append_right (by omega)] at e
      cases q : i - vh.length with
      | zero =>
        rw [q] at e
        simp at e; subst e
        refine ⟨some a, ?_, r⟩
        rw [List.getElem?_append_right (by rw [h.len]; omega), h.len, q]; rfl
      | succ n => rw [q] at e; simp at e
  hid := fun b hb => by
    obtain ⟨e, n⟩ := h.hid b (List.mem_cons_of_mem _ hb)
    refine ⟨e, fun z => ?_⟩
    rcases List.mem_append.mp z with z | z
    · exact n z
    · simp at z; subst z; exact hc hb
  tab := h.tab.to fun b o n e => ⟨Mv.show.off b o n e, e⟩
theorem RelH.hide {a : Addr} {o : HO} (h : RelH c H ρ vh) (ha : H a = none) (nt : ∀ xs, o ≠ .tup xs := by intro xs z; cases z) : RelH (c.hide a) (upd H a o) ρ vh where
  len := h.len
  inj := h.inj
  at' := fun i vo e => by
    obtain ⟨q, hq, r⟩ := h.at' i vo e
    have r2 : RelO (c.hide a) H ρ vo q := RelO.conv (c := c) (c' := c.hide a) (H := H) (H' := H) (.refl _) rfl (fun x v hx => RelD.re (Cn.ext_hide ha) hx) (fun _ _ _ z => z) r
    exact ⟨q, hq, RelO.stay (Grow.refl _ _) (Fm.new ha) (fun b u _ z => jD ha b u z) r2⟩
  hid := fun b hb => by
    rcases List.mem_cons.mp hb with e | hb
    · subst e
      exact ⟨⟨o, upd_same, .of nt⟩, (h.fresh ha).1⟩
    · obtain ⟨⟨u, e, nu⟩, n⟩ := h.hid b hb
      exact ⟨⟨u, jD ha b u e, nu⟩, n⟩
  tab := h.tab.to fun b u n e => ⟨⟨n.1, fun z => (List.mem_cons.mp z).elim (fun q => by rw [q, ha] at e; cases e) n.2⟩, jD ha b u e⟩
theorem RelH.bare {a : Addr} (h : RelH (c.hide a) H ρ vh) : RelH c H ρ vh where
  len := h.len
  inj := h.inj
  at' := fun i vo e => by
    obtain ⟨q, hq, r⟩ := h.at' i vo e
    have r2 : RelO c H ρ vo q := RelO.conv (c := c.hide a) (c' := c) (H := H) (H' := H) (.refl _) rfl (fun x v hx => RelD.re Cn.ext_bare hx) (fun _ _ _ z => z) r
    exact ⟨q, hq, r2⟩
  hid := fun b hb => h.hid b (List.mem_cons_of_mem _ hb)
  tab := h.tab.to fun b u n e => ⟨⟨n.1, fun z => n.2 (List.mem_cons_of_mem _ z)⟩, e⟩
/-- the hidden list is written -/
theorem Fw.hid {a : Addr} {o : HO} : Fw (c.hide a) H (upd H a o) ρ := fun b u hb e _ => by
  rw [upd_ne fun z => hb.2 (by rw [z]; exact List.mem_cons_self)]; exact e
theorem RelH.wr {a : Addr} {o : HO} (h : RelH (c.hide a) H ρ vh) (nt : ∀ xs, o ≠ .tup xs := by intro xs z; cases z) : RelH (c.hide a) (upd H a o) ρ vh where
  len := h.len
  inj := h.inj
  at' := fun i vo e => by
    obtain ⟨q, hq, r⟩ := h.at' i vo e
    refine ⟨q, hq, RelO.conv (c := c.hide a) (c' := c.hide a) (H := H) (H' := upd H a o) (.refl _) rfl (fun x v hx => RelD.stayw (Grow.refl _ _) Fw.hid hx) (fun b u eb z => ?_) r⟩
    rw [upd_ne]
    · exact z
    · intro w
      subst w; subst eb
      exact (h.hid b List.mem_cons_self).2 (List.mem_of_getElem? hq)
  hid := fun b hb => by
    obtain ⟨⟨u, e, nu⟩, n⟩ := h.hid b hb
    refine ⟨?_, n⟩
    by_cases z : b = a
    · subst z; exact ⟨o, upd_same, .of nt⟩
    · exact ⟨u, by rw [upd_ne z]; exact e, nu⟩
  tab := h.tab.put fun z => z.2 List.mem_cons_self
theorem aAq {vs : List Nat} {σ σ' : L2.St} (h : SameBut vs (L2.wipe σ vs) σ') : L2.wipe σ' vs = L2.wipe σ vs := by
  have at_ : ∀ (vs : List Nat) (σ : L2.St) (i : Nat), (L2.wipe σ vs)[i]? = if i ∈ vs then (if i < σ.length then some none else none) else σ[i]? := by
    intro vs
    induction vs with
    | nil => intro σ i; simp [L2.wipe]
    | cons v vs ih =>
      intro σ i
      unfold L2.wipe
      by_cases hi : v = i
      · subst hi
        rw [List.getElem?_set_self', if_pos List.mem_cons_self]
        rw [ih]
        by_cases hl : v < σ.length
        · by_cases hm : v ∈ vs <;> simp [hl, hm]
        · by_cases hm : v ∈ vs <;> simp [hl, hm]
      · rw [List.getElem?_set_ne hi, ih]
        have : (i ∈ v :: vs) ↔ i ∈ vs := by
          rw [List.mem_cons]
          exact ⟨fun z => z.elim (fun w => absurd w.symm hi) id, .inr⟩
        simp only [this]
  refine List.ext_getElem? fun i => ?_
  rw [at_, at_]
  have hl : σ'.length = σ.length := by rw [h.1, L2.wipe_length]
  by_cases hi : i ∈ vs
  · rw [if_pos hi, if_pos hi, hl]
  · rw [if_neg hi, if_neg hi, h.2 i hi, at_, if_neg hi]
end
section
variable {X : Cx} {c : Cn} {U : WX} {pos : Pos}
abbrev U0 : WX := fun _ _ _ _ => False
theorem aBw {fi : FI} {A : FTg} {t : FT} {f : FE} {vs ws : List Nat} {mm : Bool} (hvw : ∀ i ∈ ws, i ∈ vs) {σ : L2.St} {H : Hp} {Q : VK} (h : tM c U (mLc mm fi A t f vs) σ H Q) : tMI c U fi σ H fun J H1 => ∀ Dd, H1 Dd = none → ∃ W : Nat → Nat → Hp → Prop, (∃ m, W 0 m (upd H1 Dd (.lst []))) ∧ ∀ i m H, W i m H →
    (J.stop i H ∧ Q (.ref Dd) H) ∨ (J.go i H ∧ ∃ Nx : Hp → Prop, (∀ H', Nx H' → ∃ m', m' < m ∧ W (i + 1) m' H') ∧ ∀ x H', J.yld i H x H' → (∃ hid, tMG ⟨c.K, c.mg, hid⟩ A ws x (L2.wipe σ vs) H' fun σ2 H2 => L2.wipe σ2 vs = L2.wipe σ vs ∧ (∃ hid, tMT ⟨c.K, c.mg, hid⟩ U0 t σ2 H2 fun b H3 =>
      if b = true then (∃ hid, tM ⟨c.K, c.mg, hid⟩ U0 f σ2 H3 fun y H4 => ∃ acc, H4 Dd = some (.lst acc) ∧ acc.length < sizeLine ∧ Nx (upd H4 Dd (.lst (acc ++ [y])))) else Nx H3))) := by
  obtain ⟨e, ρ, vh, he, hh, h⟩ := h
  refine (aFj he hh h).mono fun J H1 ⟨ds, vh1, ρ1, fd, A0, g1, f1⟩ Dd hD => ?_
  have o := A0.out
  cases q0 : acC A t f (lE e vs) ds vh1 with
  | exn x h => rw [q0] at o; exact o.elim
  | stuck => rw [q0] at o; exact o.elim
  | ok xs0 vh0 =>
  rw [q0] at o
  by_cases hl0 : xs0.length ≤ sizeLine
  rotate_left
  · simp only [hl0, if_false] at o
    exact o.elim
  have o : Out c σ H1 ρ1 U (if mm = true then .ok (.ref vh0.length) (vh0 ++ [.lst xs0]) else .ok (.d (.lst xs0)) vh0) (KW c Q) := by simpa only [hl0, if_true] using o
  let St : Nat → Hp → Prop := fun i H2 => ∃ ρ2 vh2 acc us xs, Grow ρ1 H1 ρ2 ∧ Fm H1 H2 ρ1 ∧ RelE (c.hide Dd) H2 ρ2 (lE e vs) (L2.wipe σ vs) ∧ RelH (c.hide Dd) H2 ρ2 vh2 ∧ H2 Dd = some (.lst us) ∧ RelDs (c.hide Dd) H2 ρ2 acc us ∧
    acC A t f (lE e vs) (ds.drop i) vh2 = .ok xs vh0 ∧ acc ++ xs = xs0
  refine ⟨fun i m H2 => m = ds.length - i ∧ i ≤ ds.length ∧ St i H2, ⟨ds.length, by simp, Nat.zero_le _, ρ1, vh1, [], [], xs0, Grow.refl _ _, Fm.new hD, ?_, A0.rh.hide hD, upd_same, trivial, q0, rfl⟩, ?_⟩
  · exact RelE.stay (Grow.refl _ _) (Fm.new hD) ((A0.re.wipe vs).conv (c' := c.hide Dd) (H' := H1) (.refl _) fun x v hx => RelD.re (Cn.ext_hide hD) hx)
  rintro i m H2 ⟨rfl, hi, ρ2, vh2, acc, us, xs, g2, f2, re, rh, hDd, ra, hq, hx⟩
  obtain ⟨k1, k2⟩ := fd (c.hide Dd) H2 ρ2 i (Cn.ext_hide hD) g2 f2.w rh.fr
  have hDρ : some Dd ∉ ρ2 := (rh.hid Dd List.mem_cons_self).2
  by_cases hlt : i < ds.length
  · obtain ⟨go, yl⟩ := k1 hlt
    refine .inr ⟨go, St (i + 1), fun H' a => ⟨ds.length - (i + 1), by omega, rfl, hlt, a⟩, fun x H' hy => ?_⟩
    obtain ⟨sm, d, hd, rd⟩ := yl x H' hy
    rw [List.drop_eq_getElem_cons hlt] at hq
    have ed : ds[i] = d := by rw [List.getElem?_eq_getElem hlt] at hd; exact Option.some.inj hd
    rw [ed] at hq
    have fs : Fm H2 H' ρ2 := Fm.same sm
    have g0 : Grow ρ2 H2 ρ2 := Grow.refl _ _
    have re' := re.stay g0 fs
    have rh' := rh.same sm
    simp only [acC] at hq
    cases qa : A d (lE e vs) with
    | none => rw [qa] at hq; cases hq
    | some e' =>
    rw [qa] at hq
    try dsimp only at hq
    refine ⟨Dd :: c.hid, lE e vs, ρ2, d, e', re', rd, qa, fun σ2 re2 sb => ⟨aAq (sb.mono hvw), Dd :: c.hid, e', ρ2, vh2, re2, rh', ?_⟩⟩
    cases qt : t e' vh2 with
    | stuck => rw [qt] at hq; cases hq
    | exn x h => rw [qt] at hq; cases hq
    | ok b vh3 =>
    rw [qt] at hq
    try dsimp only at hq
    intro H3 ρ3 g3 f3 rh3
    have g23 : Grow ρ2 H2 ρ3 := g0.trans fs g3
    have f23 : Fm H2 H3 ρ2 := Fm.trans g0 fs f3
    have fD3 : H3 Dd = some (.lst us) := f23.at hDρ hDd (fun ps z => nomatch z)
    have re3 : RelE (c.hide Dd) H3 ρ3 (lE e vs) (L2.wipe σ vs) := re.stay g23 f23
    cases b with
    | false =>
      refine iteF ⟨ρ3, vh3, acc, us, xs, g2.trans f2 g23, Fm.trans g2 f2 f23, re3, rh3, fD3, ra.stay g23 f23, hq, hx⟩
    | true =>
      dsimp only at hq
      refine iteT ⟨Dd :: c.hid, e', ρ3, vh3, re2.stay g3 f3, rh3, ?_⟩
      cases qf : f e' vh3 with
      | stuck => rw [qf] at hq; cases hq
      | exn x h => rw [qf] at hq; cases hq
      | ok w vh4 =>
      rw [qf] at hq
      cases w with
      | ref k => cases hq
      | d y0 =>
      try dsimp only at hq
      cases qc : acC A t f (lE e vs) (ds.drop (i + 1)) vh4 with
      | stuck => rw [qc] at hq; cases hq
      | exn x h => rw [qc] at hq; cases hq
      | ok ys vh5 =>
      rw [qc] at hq
      cases hq
      intro H4 ρ4 g4 f4 rh4 y ry
      have g24 : Grow ρ2 H2 ρ4 := g23.trans f23 g4
      have f24 : Fm H2 H4 ρ2 := Fm.trans g23 f23 f4
      have hD4 : some Dd ∉ ρ4 := (rh4.hid Dd List.mem_cons_self).2
      have fD4 : H4 Dd = some (.lst us) := f24.at hDρ hDd (fun ps z => nomatch z)
      have ra4 : RelDs (c.hide Dd) H4 ρ4 acc us := ra.stay g24 f24
      refine ⟨us, fD4, ?_, ρ4, vh4, acc ++ [y0], us ++ [y], ys, g2.trans f2 g24, ?_, RelE.stayw (Grow.refl _ _) Fw.hid (re.stay g24 f24), rh4.wr, upd_same, RelDs.stayw (Grow.refl _ _) Fw.hid (ra4.append ⟨ry, trivial⟩), qc, by rw [← hx, List.append_assoc]; rfl⟩
      · rw [← ra4.length]
        have : (acc ++ y0 :: ys).length ≤ sizeLine := by rw [hx]; exact hl0
        rw [List.length_append, List.length_cons] at this
        omega
      · refine ⟨fun b u hb hu => ?_, fun b xs hu => ?_⟩
        · by_cases z : b = Dd
          · subst z; rw [hD] at hu; cases hu
          · rw [upd_ne z]; exact (Fm.trans g2 f2 f24).1 b u hb hu
        · have z : b ≠ Dd := fun z => by rw [z, hD] at hu; cases hu
          rw [upd_ne z]; exact (Fm.trans g2 f2 f24).2 b xs hu
  · have ei : i = ds.length := by omega
    subst ei
    rw [List.drop_length] at hq
    cases hq
    rw [List.append_nil] at hx
    subst hx
    refine .inl ⟨k2 (Nat.le_refl _), ?_⟩
    have ra' : RelDs c H2 ρ2 acc us := RelDs.re Cn.ext_bare ra
    have rh' : RelH c H2 ρ2 vh0 := RelH.bare rh
    have hDh : Dd ∉ c.hid := (A0.rh.fresh hD).2
    cases mm with
    | false =>
      rw [if_neg Bool.false_ne_true] at o
      exact o H2 ρ2 g2 f2 rh' (.ref Dd) ⟨Dd, us, rfl, ⟨hDρ, hDh⟩, hDd, hl0, ra'⟩
    | true =>
      rw [if_pos rfl] at o
      refine o H2 (ρ2 ++ [some Dd]) ⟨by have := g2.len; simp; omega, fun i hi => ?_, fun a ha => ?_⟩ f2 (rh.show hDh ⟨Dd, us, rfl, hDd, hl0, RelDs.mv Mv.show ra⟩) (.ref Dd) ⟨by simp [rh.len], fun a ha => ?_⟩
      · rw [List.getElem?_append_left (Nat.lt_of_lt_of_le hi g2.len)]; exact g2.old i hi
      · rcases List.mem_append.mp ha with z | z
        · exact g2.new a z
        · simp at z; subst z; exact .inr hD
      · rw [← rh.len, List.getElem?_append_right (Nat.le_refl _)] at ha
        simp at ha; rw [ha]
theorem aC9 {tg : Expr} {t : List Addr → TG} (h : ∀ hid, PG X tg (t hid)) : PG X tg (fun v σ H Q => ∃ hid, t hid v σ H Q) := ⟨fun pins s σ H v u Q I r ⟨hid, q⟩ => (h hid).run pins s σ H v u Q I r q⟩
theorem aDe {e : Expr} {t : List Addr → TE} (h : ∀ hid, PE X e (t hid)) : PE X e (fun σ H Q => ∃ hid, t hid σ H Q) := ⟨fun pins s σ H Q I ⟨hid, q⟩ => (h hid).run pins s σ H Q I q⟩
theorem aBo {ifs : List Expr} {t : List Addr → TT} (h : ∀ hid, PTs X ifs (t hid)) : PTs X ifs (fun σ H Q => ∃ hid, t hid σ H Q) := ⟨fun pins s σ H Q I ⟨hid, q⟩ => (h hid).run pins s σ H Q I q⟩
theorem ao0 : PTs X [] (tMT c U fun _ vh => .ok true vh) := ⟨fun pins s σ H Q I ⟨e, ρ, vh, he, hh, h⟩ => pts_nil.run pins s σ H Q I (h.here hh)⟩
theorem aBz {elt tg iter : Expr} {ifs : List Expr} {scope : Scope} {own : List (Str × Nat)} {fi : FI} {A : FTg} {t : FT} {f : FE} {ws : List Nat} {vs : List Nat} (mm : Bool) (hc : X.calm = true) (hN : X.N.Nodup) (hi : PI X tg iter (tMI c U fi)) (ok : BlkOk X.N X.env.scope scope own)
    (hg : ∀ (s : Shared) (H : Hp) (C : Addr) (cl : List (Str × Addr)) (fp : List Addr) (hid : List Addr), PG (X.blk s H scope (compEnvC scope cl C X.env) fp) tg (tMG ⟨c.K, c.mg, hid⟩ A ws))
    (ht : ∀ (s : Shared) (H : Hp) (C : Addr) (cl : List (Str × Addr)) (fp : List Addr) (hid : List Addr), PTs (X.blk s H scope (compEnvC scope cl C X.env) fp) ifs (tMT ⟨c.K, c.mg, hid⟩ U0 t))
    (he : ∀ (s : Shared) (H : Hp) (C : Addr) (cl : List (Str × Addr)) (fp : List Addr) (hid : List Addr), PE (X.blk s H scope (compEnvC scope cl C X.env) fp) elt (tM ⟨c.K, c.mg, hid⟩ U0 f))
    (hvs : own.map (·.2) = vs := by rfl) (hvw : ∀ i ∈ ws, i ∈ vs := by decide) (hs : ∀ x, foldedSetIterable iter X.env x = pure x := by intro _; rfl) :
    PE X (.ListComp elt [⟨tg, iter, ifs, 0⟩] scope pos) (tM c U (mLc mm fi A t f vs)) := by
  subst hvs
  exact mQ (pe_lc hc hN hi ok (fun s H C cl fp => aC9 (hg s H C cl fp)) (fun s H C cl fp => aBo (ht s H C cl fp)) (fun s H C cl fp => aDe (he s H C cl fp)) hs) fun σ H Q h => aBw hvw h
end
end Mn

namespace Mn
open PySem PySem.Spec PyProof.Rows L2
variable [TL : TabList]

/-! ### defs where no repr runs around -/
def NoGuard (A : Around) : Prop := A.guards = some []
theorem NoGuard.deeper {A : Around} (h : NoGuard A) (env : PySem.Env) : NoGuard (A.deeper env) := h
theorem NoGuard.in1 {A : Around} (h : NoGuard A) : NoGuard A.in1 := h
theorem NoGuard.make {A : Around} (h : NoGuard A) (C : Addr) (us : List Value) (kw : List (Str × Value)) : NoGuard (A.under (.builtin "type.__call__" ⟨.ref C :: us, kw⟩)) := by
  unfold NoGuard at *
  simp [Around.under, Code.guards, Code.isGuard, guardIds, pushGuards, h]
/-- as FnOk, but run only where no guard stands around -/
structure FnG (P : Program) (w : World) (K : PySem.W.Frag) (mg : Str → Option Value) (base : Heap) (k : Nat) (f : Addr) (fd : FuncData) (ps : List Str) (F : FN) : Prop where
  ar : ∀ ws vh, ws.length ≠ ps.length → F ws vh = .stuck
  go : ∀ (A : Around) (outer : List PySem.Env) (s : Shared) (H : Hp) (args : Args) (us : List Value) (vs : List V) (Q : VK) (E : XK), Room k A → NoGuard A → Env0 P w K mg base A outer s H → BindsTo s fd args (ps.zip us) → Vals vs us →
    spM K mg F vs H Q E → codeAny (model P w) A (.call (.ref f) args) (CR (L2.CX P w) outer P w H s Q E) s
section
variable {P : Program} {w : World} {K : PySem.W.Frag} {mg : Str → Option Value} {base : Heap}
theorem FnG.mono {j k : Nat} {f : Addr} {fd : FuncData} {ps : List Str} {F : FN} (G : FnG P w K mg base j f fd ps F) (h : j ≤ k) : FnG P w K mg base k f fd ps F :=
  ⟨G.ar, fun A outer s H args us vs Q E hr => G.go A outer s H args us vs Q E (hr.mono h)⟩
theorem at3 {np nn : Nat} {g : FS} (ws : List W) (vh : VH) (h : ws.length ≠ np) : mFn np nn g ws vh = .stuck := by unfold mFn; rw [if_neg h]
theorem azI {F : FN} {np : Nat} (ar : ∀ ws vh, ws.length ≠ np → F ws vh = .stuck) {vs : List V} {H : Hp} {Q : VK} {E : XK} (h : spM K mg F vs H Q E) : vs.length = np := by
  obtain ⟨c, _, _, ws, ρ, vh, rs, hh, o⟩ := h
  by_cases e : ws.length = np
  · rw [← rs.length, e]
  · rw [ar ws vh e] at o; exact o.elim
theorem FnG.shut {k : Nat} {f : Addr} {fd : FuncData} {ps : List Str} {F : FN} (G : FnG P w K mg base k f fd ps F) : FnG P w K mg base k f fd ps (aiO F) where
  ar := fun ws vh e => by unfold aiO; rw [G.ar ws vh e]
  go := fun A outer s H args us vs Q E hr hg e0 hb rv h => G.go A outer s H args us vs Q E hr hg e0 hb rv (spM.shut _ _ _ _ h)
/-- a def of the text keeps its meaning -/
theorem FnG.of {x qual : Str} {st : Stmt} {f : Addr} {fd : FuncData} {N ps : List Str} {k : Nat} {g : FS} (F : Fun K x qual st f fd) (S : FnScope N ps (defScope st))
    (body : ∀ (cdv : Value) (A : Around) (outer : List PySem.Env) (s : Shared) (H : Hp) (E : XK) (hid : List Addr), Room k (A.deeper (envOfC qual (defScope st) s.heap.objs.size f cdv)) → NoGuard (A.deeper (envOfC qual (defScope st) s.heap.objs.size f cdv)) →
      Takes (cxOf (L2.CX P w) P w K mg base N qual (defScope st) f cdv A outer s H E) (fun cls d _ H => E cls d H) →
      PSs (cxOf (L2.CX P w) P w K mg base N qual (defScope st) f cdv A outer s H E) (defBody st) (tMS ⟨K, mg, hid⟩ (fun cls d _ H => E cls d H) g)) :
    FnG P w K mg base (k + 1) f fd ps (mFn ps.length N.length g) := by
  refine ⟨at3, fun A outer s H args us vs Q E hr ng e0 hb rv hsp => ?_⟩
  have hl : vs.length = ps.length := azI at3 hsp
  obtain ⟨oc, od, kV, doc, pm, an, cdv, ct, osl, rfl, lk, hcd⟩ := F.ex
  have inH : K.In s.heap := e0.mod.kin.keeps fun b o e => (e0.bs b o e).1
  have noLim : s.heap.NoLimit := e0.mod.nolimit.keeps fun b o e => (e0.bs b o e).1
  refine codeAny_call_function hr.depth (inH _ _ lk) rfl S.co S.gen rfl (PySem.W.codeRec_of inH hcd) (hb _ _ _ _ ?_)
  refine wpAny_newFunctionEnv_cells S.kind (fun y hy => (S.par y.1 (List.of_mem_zip (a := y.1) (b := y.2) hy).1).imp id fun q => ⟨q, PySem.W.cellsFrom_some _ _ _ (.inl q)⟩) fun env he s1 x => ?_
  cases he
  refine ⟨noLim.keeps x.toInCall.keep, codeAny_func ?_⟩
  obtain ⟨⟨K', mg', hid⟩, rfl, rfl, ws, ρ, vh, rs, hh, h⟩ := hsp
  have D := body cdv A outer s H E hid (hr.deeper _) (ng.deeper _) (takes_of rfl rfl rfl rfl)
  have I := inv_start (CX := L2.CX P w) (E := E) S hr.hd e0 hl rv x
  have rd : tMS ⟨K', mg', hid⟩ (fun cls d _ H => E cls d H) g { nx := fun _ H' => Q .non H', rt := Q } (L2.start N vs) H := by
    unfold mFn at h
    split at h
    · rename_i e
      refine ⟨_, ρ, vh, amD (np := ps.length) rs, hh, ?_⟩
      have e2 : yH ps.length N.length ws = ws.map some ++ List.replicate (N.length - vs.length) none := by unfold yH; rw [← rs.length, e]
      rw [← e2]
      cases q : g (yH ps.length N.length ws) vh with
      | nx e' vh' => rw [q] at h; exact fun σ' H' ρ' g' f' x y => h H' ρ' g' f' y .non rfl
      | bk e' vh' => rw [q] at h; exact h.elim
      | ct e' vh' => rw [q] at h; exact h.elim
      | rt w vh' => rw [q] at h; exact fun v H' ρ' g' f' x y => h H' ρ' g' f' y v x
      | exn x e' vh' => rw [q] at h; exact fun cls d σ' H' ρ' g' f' x y z => h cls d H' ρ' g' f' x z
      | stuck => rw [q] at h; exact h.elim
    · exact h.elim
  refine wpAny_mono (D.run [] s1 _ H _ I rd) (fun fl s' hs => ?_) fun _ _ z => z
  cases fl with
  | ret u => obtain ⟨v, σ', H', J, r1, q⟩ := hs; exact ⟨v, H', J.os, J.bare, J.base, J.hok, r1, q⟩
  | next => obtain ⟨σ', H', J, q⟩ := hs; exact ⟨.non, H', J.os, J.bare, J.base, J.hok, rfl, q⟩
  | brk => obtain ⟨_, _, _, q⟩ := hs; exact q.elim
  | cont => obtain ⟨_, _, _, q⟩ := hs; exact q.elim
end

/-! ### calls of such -/
section
variable {X : Cx} {U : WX} {k : Nat} {f : Addr} {fd : FuncData} {ps : List Str} {F : FN} {c : Cn} {e : Expr} {es : List Expr} {pos p : Pos} {x : Str} {ds : List Value} {dvs : List V} {dws : List W} {fa : FA}
end

/-! ### repr -/
def aJG : List D → Option D
  | [x] => match wN x with
    | some p => if p.showable = true ∧ p.depth ≤ 60 ∧ p.shown.length ≤ sizeLine then some (.str p.shown) else none
    | none => none
  | _ => none
def av4 (K : PySem.W.Frag) : List V → Hp → VK → Prop := fun xs H Q => ∃ x d, xs = [x] ∧ Dp K H x d ∧ d.showable = true ∧ d.depth ≤ 60 ∧ d.shown.length ≤ sizeLine ∧ (∃ a, x = .ref a) ∧ d.hasDict = false ∧ Q (.str d.shown) H
theorem axV {X : Cx} (hr : X.A.units + 64 < cLine) (ng : NoGuard X.A) : CallR X (.builtin "repr") (av4 X.K) := by
  intro pins s σ H xs us Q I r h
  obtain ⟨x, d, rfl, hd, h1, h2, h3, ⟨a, rfl⟩, h5, q⟩ := h
  obtain ⟨u, rfl, rx⟩ := vals1 r
  cases rx
  obtain ⟨as, rd⟩ := Dp.reads I d _ _ hd rfl
  refine repr_of_reads' rd h1 (fun z => by rw [h5] at z; cases z) ng (by omega) (fun _ _ e => e) (fun h' t tk hk => ?_) h3
  exact ⟨.str d.shown, H, I.kept (h' := h') (t' := tk) hk, ⟨t, rfl⟩, q⟩
end Mn

namespace Mn
open PySem PySem.Spec PyProof.Rows L2
variable [TL : TabList]

/-! ### repr of data, as data -/
theorem aqY (s : String) : PyData.strOk (Str.ofString s) = true := by
  rw [Str.ofString_eq_toList]
  unfold PyData.strOk
  rw [Array.all_eq_true_iff_forall_mem]
  intro x hx
  simp only [List.mem_toArray, List.mem_map] at hx
  obtain ⟨ch, _, rfl⟩ := hx
  have h := ch.valid
  simp only [UInt32.isValidChar, Nat.isValidChar] at h
  have : ch.toNat = ch.val.toNat := rfl
  rw [this]
  exact decide_eq_true (by omega)
theorem strOk_iff {x : Str} : PyData.strOk x = true ↔ ∀ ch ∈ x.cps.toList, ch < 1114112 := by
  unfold PyData.strOk
  rw [Array.all_eq_true_iff_forall_mem]
  exact ⟨fun h ch hc => of_decide_eq_true (h ch (by simpa using hc)), fun h ch hc => decide_eq_true (h ch (by simpa using hc))⟩
theorem atV : ∀ ch ∈ (Nat.toDigits 16 n).map Char.toNat, ch < 1114112 := fun ch h => by
  obtain ⟨a, _, rfl⟩ := List.mem_map.mp h
  have h := a.valid
  simp only [UInt32.isValidChar, Nat.isValidChar] at h
  have : a.toNat = a.val.toNat := rfl
  omega
theorem ap0 {q ch : Nat} (hq : q < 128) (hc : ch < 1114112) : ∀ y ∈ Builtin.Str.reprChar q ch, y < 1114112 := by
  intro y hy
  have hex : ∀ k, y ∈ List.replicate (k - ((Nat.toDigits 16 ch).map Char.toNat).length) 48 ++ (Nat.toDigits 16 ch).map Char.toNat → y < 1114112 := fun k h => by
    rcases List.mem_append.mp h with h | h
    · have := (List.mem_replicate.mp h).2; omega
    · exact atV _ h
  unfold Builtin.Str.reprChar at hy
  simp only at hy
  split at hy
  · simp at hy; omega
  split at hy
  · simp at hy; omega
  split at hy
  · simp at hy; omega
  split at hy
  · simp at hy; omega
  split at hy
  · simp at hy; omega
  split at hy
  · rcases List.mem_append.mp hy with h | h
    · simp at h; omega
    · exact hex 2 h
  split at hy
  · rcases List.mem_append.mp hy with h | h
    · simp at h; omega
    · exact hex 4 h
  · rcases List.mem_append.mp hy with h | h
    · simp at h; omega
    · exact hex 8 h
theorem awX {x : Str} (h : PyData.strOk x = true) : PyData.strOk (reprText x) = true := by
  rw [strOk_iff] at *
  have hq : reprQuote x < 128 := by unfold reprQuote; split <;> omega
  have go : ∀ (l : List Nat) (acc : Array Nat), (∀ ch ∈ l, ch < 1114112) → (∀ ch ∈ acc.toList, ch < 1114112) → ∀ ch ∈ (l.foldl (fun out c => out ++ (Builtin.Str.reprChar (reprQuote x) c).toArray) acc).toList, ch < 1114112 := by
    intro l
    induction l with
    | nil => intro acc _ h2; exact h2
    | cons a l ih =>
      intro acc h1 h2
      refine ih _ (fun ch hc => h1 ch (List.mem_cons_of_mem _ hc)) fun ch hc => ?_
      rw [Array.toList_append] at hc
      rcases List.mem_append.mp hc with hc | hc
      · exact h2 ch hc
      · exact ap0 hq (h1 a List.mem_cons_self) ch (by simpa using hc)
  intro ch hc
  unfold reprText at hc
  rw [Array.toList_push] at hc
  rcases List.mem_append.mp hc with hc | hc
  · rw [← Array.foldl_toList] at hc
    exact go _ _ h (fun ch hc => by simp at hc; omega) ch hc
  · simp at hc; omega
theorem ai8 {y : Str} (hy : PyData.strOk y = true) : ∀ {ts : List Str}, (∀ t ∈ ts, PyData.strOk t = true) → PyData.strOk (Str.join y ts) = true
  | [], _ => by show PyData.strOk Str.empty = true; decide +kernel
  | [t], h => h t List.mem_cons_self
  | t :: u :: r, h => by
    show PyData.strOk (t ++ y ++ Str.join y (u :: r)) = true
    exact pC (pC (h t List.mem_cons_self) hy) (ai8 hy fun z hz => h z (List.mem_cons_of_mem _ hz))
mutual
theorem agS : ∀ {p : PyData}, p.canLay0 = true → PyData.strOk p.shown = true
  | .none, _ => by rw [PyData.shown_none]; decide +kernel
  | .bool b, _ => by cases b <;> (rw [PyData.shown_bool]; decide +kernel)
  | .int i, _ => by rw [PyData.shown_int]; exact aqY _
  | .str x, h => by rw [PyData.shown_str]; exact awX (by simpa [PyData.canLay0] using h)
  | .list xs, h => by
    rw [PyData.shown_list]
    exact pC (pC (by decide +kernel) (ai8 (by decide +kernel) (strOk_shownAll (by simpa [PyData.canLay0] using h)))) (by decide +kernel)
  | .tuple xs, h => by
    rw [PyData.shown_tuple]
    exact pC (pC (by decide +kernel) (ai8 (by decide +kernel) (strOk_shownAll (by simpa [PyData.canLay0] using h)))) (by split <;> decide +kernel)
  | .dict _, h => by simp [PyData.canLay0] at h
theorem strOk_shownAll : ∀ {xs : List PyData}, PyData.canLayAll0 xs = true → ∀ t ∈ PyData.shownAll xs, PyData.strOk t = true
  | [], _ => fun t h => by simp [PyData.shownAll] at h
  | x :: xs, h => fun t ht => by
    simp only [PyData.canLayAll0, Bool.and_eq_true] at h
    rw [PyData.shownAll_cons] at ht
    rcases List.mem_cons.mp ht with e | ht
    · rw [e]; exact agS h.1
    · exact strOk_shownAll h.2 t ht
end
mutual
theorem as7 : ∀ {x : D} {p : PyData}, wN x = some p → p.hasDict = false
  | .non, _, e => by cases e; rfl
  | .bl _, _, e => by cases e; rfl
  | .int _, _, e => by cases e; rfl
  | .str _, _, e => by cases e; rfl
  | .tup ds, _, e => by obtain ⟨ps, h, rfl⟩ := Option.map_eq_some_iff.mp (show (toPys ds).map PyData.tuple = _ by simpa only [wN] using e); simpa [PyData.hasDict] using noDict_ofs h
  | .ctp ds, _, e => by obtain ⟨ps, h, rfl⟩ := Option.map_eq_some_iff.mp (show (toPys ds).map PyData.tuple = _ by simpa only [wN] using e); simpa [PyData.hasDict] using noDict_ofs h
  | .lst ds, _, e => by obtain ⟨ps, h, rfl⟩ := Option.map_eq_some_iff.mp (show (toPys ds).map PyData.list = _ by simpa only [wN] using e); simpa [PyData.hasDict] using noDict_ofs h
  | .frz _, _, e => by cases e
  | .dic _ _, _, e => by cases e
  | .ins _ _, _, e => by cases e
  | .ty _, _, e => by cases e
  | .cls _, _, e => by cases e
  | .fdc _ _, _, e => by cases e
  | .exc _ _, _, e => by cases e
theorem noDict_ofs : ∀ {xs : List D} {ps : List PyData}, toPys xs = some ps → PyData.hasDictAll ps = false
  | [], _, e => by cases e; rfl
  | x :: xs, ps, e => by
    simp only [toPys] at e
    split at e
    · rename_i p qs h1 h2
      cases e
      simp [PyData.hasDictAll, as7 h1, noDict_ofs h2]
    · cases e
end
/-- repr of a list or a tuple -/
def aBv : List D → Option D
  | [x] => match x with
    | .str _ => none
    | .int _ => none
    | .bl _ => none
    | .non => none
    | x => match wN x with
      | some p => if p.showable = true ∧ p.depth ≤ 60 ∧ p.weight ≤ 1048576 ∧ p.intsShort 13 = true then some (.str p.shown) else none
      | none => none
  | _ => none
theorem aCJ {c : Cn} : an2 c (av4 c.K) aBv := fun H ρ xs vs z Q fr rs e k => by
  match xs, rs, e with
  | [x], rs, e =>
    obtain ⟨v, rfl, r⟩ := rs.one
    have main : ∀ {p : PyData}, wN x = some p → (∃ a, v = .ref a) → (if p.showable = true ∧ p.depth ≤ 60 ∧ p.weight ≤ 1048576 ∧ p.intsShort 13 = true then some (D.str p.shown) else none) = some z → av4 c.K [v] H Q := fun {p} hp hr he => by
      split at he
      · rename_i hc
        obtain ⟨h1, h2, h3, h4⟩ := hc
        cases he
        obtain ⟨a1, a2⟩ := awI r hp
        have lay : PyData.layable0 p = true := by
          unfold PyData.layable0
          rw [a2, decide_eq_true (show p.depth ≤ 64 by omega), decide_eq_true (show p.weight ≤ 2 ^ 20 from h3)]
          rfl
        have hz := PyData.shown_fits_of_layable0 (B := 13) (by omega) (by omega) lay h4
        exact ⟨v, p, rfl, a1, h1, h2, hz, hr, as7 hp, k _ H (Same.refl H) ⟨rfl, hz, agS a2⟩⟩
      · cases he
    cases x with
    | tup ds =>
      simp only [aBv] at e
      split at e
      · rename_i p hp
        obtain ⟨a, xs, e1, _⟩ := id r
        exact main hp ⟨a, e1⟩ e
      · cases e
    | ctp ds =>
      simp only [aBv] at e
      split at e
      · rename_i p hp
        obtain ⟨a, xs, e1, _⟩ := id r
        exact main hp ⟨a, e1⟩ e
      · cases e
    | lst ds =>
      simp only [aBv] at e
      split at e
      · rename_i p hp
        obtain ⟨a, xs, e1, _⟩ := id r
        exact main hp ⟨a, e1⟩ e
      · cases e
    | _ => cases e
end Mn

namespace Mn
open PySem PySem.Spec PyProof.Rows L2
variable [TL : TabList]

theorem arO {c : Cn} {H : Hp} {ρ : Rho} : ∀ ns : List Int, RelDs c H ρ (ns.map D.int) (ns.map V.int)
  | [] => trivial
  | _ :: ns => ⟨rfl, arO ns⟩
/-- the tables of code objects as the text's top leaves them -/
def avY (K : PySem.W.Frag) (h : Heap) : Prop := ∀ p ∈ TL.T, h.get? p.1 = some (PySem.W.tabObj #[]) ∧ K.lookup p.1 = none ∧ ∃ c, PySem.W.CodeHd h c p.1
/-- what the makers of lambdas ask of them -/
def az2 (base : Heap) (mg : Str → Option Value) : Prop := ∀ p ∈ TL.T, base.BuiltinsAt mg p.1 ∧ mainGlobals ≠ p.1
def acY (b : Addr) : Bool := TL.T.any fun p => p.1 == b
theorem aBa {p : Addr × Str} (h : p ∈ TL.T) : acY p.1 = true := List.any_eq_true.mpr ⟨p, h, beq_self_eq_true _⟩
theorem ap6 {b : Addr} (h : acY b = true) : ∃ p ∈ TL.T, p.1 = b := let ⟨p, h1, h2⟩ := List.any_eq_true.mp h; ⟨p, h1, beq_iff_eq.mp h2⟩
/-- the law, called from outside, where nothing is tracked but the script and the tables -/
theorem aCh {P : Program} {w : World} {K : PySem.W.Frag} {mg mb : Str → Option Value} {k : Nat} {fa a : Addr} {fd : FuncData} {x : Str} {F : FN} {s₁ : Shared} {vs : List Value} {ns : List Int}
    (inH : K.In s₁.heap) (nsM : s₁.heap.Ns mainGlobals mg) (nsB : s₁.heap.Ns builtinsNs mb) (mbB : ∀ y : Str, y ≠ "__name__" → mb y = bootBuiltins y) (noLim : s₁.heap.NoLimit) (noGen : s₁.gens = #[]) (tb : avY K s₁.heap)
    (bmod : ∃ (bm : Addr) (ob : Obj), mg "__builtins__" = some (.ref bm) ∧ bm ≠ builtinsNs ∧ s₁.heap.get? bm = some ob ∧ ob.cls = .type "module" ∧ ob.dict = some builtinsNs ∧ ob.data = .plain)
    (atA : s₁.heap.get? a = some { cls := .type "list", data := .seq vs.toArray }) (are : IntsAre vs ns) (len : ns.length ≤ sizeLine) (room : Room k callerA)
    (G : ∀ base : Heap, K.In base → base.Ns mainGlobals mg → az2 base mg → FnG P w K mg base k fa fd [x] F) (bind : ∀ (s : Shared) (u : Value), BindsTo s fd ⟨[u], []⟩ [(x, u)])
    (law : ∃ vh, F [.d (.frz (ns.map D.int))] [] = .ok (.d (.bl true)) vh) :
    codeAny (model P w) callerA (.call (.ref fa) ⟨[.ref a], []⟩) (fun r s' => r = .ok (.ret (.bool true)) ∧ PySem.OldK s₁.heap s'.heap ∧ s'.os = s₁.os ∧ AllBare s'.gens) s₁ := by
  obtain ⟨vhE, law⟩ := law
  have lenV := are.length
  let it : Obj := { cls := .type "list", data := .seq vs.toArray }
  have tObj : ∀ b, acY b = true → s₁.heap.get? b = some (PySem.W.tabObj #[]) := fun b hb => by
    obtain ⟨p, hp, rfl⟩ := ap6 hb
    exact (tb p hp).1
  have naT : acY a = false := by
    cases q : acY a with
    | false => rfl
    | true => rw [tObj a q] at atA; cases atA
  have main : ∀ H : Hp, (∀ b u, H b = some u → (b = a ∧ u = .frz it (.lst (ns.map V.int)) ∧ K.lookup a = none) ∨ (acY b = true ∧ u = .tbl #[])) → (∀ b, acY b = true → H b = some (.tbl #[])) → SqL K H a (ns.map V.int) →
      codeAny (model P w) callerA (.call (.ref fa) ⟨[.ref a], []⟩) (fun r s' => r = .ok (.ret (.bool true)) ∧ PySem.OldK s₁.heap s'.heap ∧ s'.os = s₁.os ∧ AllBare s'.gens) s₁ := by
    intro H known hT sq
    have free : ∀ {b : Addr} {o : Obj}, s₁.heap.get? b = some o → (∀ us n, o.data ≠ .seq us n) → o.data ≠ .fields #[] → H b = none := fun {b o} e d d2 => by
      cases q : H b with
      | none => rfl
      | some u =>
        rcases known b u q with ⟨rfl, _⟩ | ⟨z, _⟩
        · rw [atA] at e
          cases e
          exact absurd rfl (d _ _)
        · rw [tObj b z] at e
          cases e
          exact absurd rfl d2
    have hok : HOk P w H s₁.heap := fun b u q => by
      rcases known b u q with ⟨rfl, rfl, _⟩ | ⟨z, rfl⟩
      · exact ⟨atA, by rw [List.length_map]; exact len, vs, _, vals_ints are, atA⟩
      · exact tObj b z
    have stay : ∀ {b : Addr} {m : Str → Option Value}, s₁.heap.Ns b m → (hidT s₁.heap H).Ns b m := fun {b m} ⟨o, es, ep, e, d, r⟩ =>
      ⟨o, es, ep, hidT_get e (free e (fun us n z => by rw [d] at z; cases z) fun z => by rw [d] at z; cases z), d, r⟩
    have inB : K.In (hidT s₁.heap H) := fun b o e => hidT_get (inH b o e) (by
      cases q : H b with
      | none => rfl
      | some u =>
        rcases known b u q with ⟨rfl, _, z⟩ | ⟨z, _⟩
        · rw [z] at e; cases e
        · obtain ⟨p, hp, rfl⟩ := ap6 z
          rw [(tb p hp).2.1] at e; cases e)
    have md : Mod K mg (hidT s₁.heap H) := ⟨inB, stay nsM, ⟨mb, stay nsB, mbB⟩, let ⟨mc, h1, h2⟩ := noLim; ⟨mc, stay h1, h2⟩⟩
    have e0 : Env0 P w K mg (hidT s₁.heap H) callerA [] s₁ H :=
      { frames := rfl, mod := md, bs := fun b o e => of_hidT e, bsz := Nat.le_of_eq (hidT_size _ _), funs := trivial, frf := fun b hb => (nomatch (show b ∈ ([] : List Addr) from hb)), hok := hok, bare := .of_eq noGen }
    have tB : az2 (hidT s₁.heap H) mg := fun p hp => by
      obtain ⟨t1, _, _⟩ := tb p hp
      obtain ⟨bm, ob, b1, b2, b3, b4, b5, b6⟩ := bmod
      have apart : ∀ {b : Addr} {m : Str → Option Value}, s₁.heap.Ns b m → b ≠ p.1 := fun {b m} ⟨o, es, ep, e, d, _⟩ z => by
        rw [z, t1] at e
        cases e; cases d
      refine ⟨⟨bm, ob, b1, b2, fun z => ?_, fun z => ?_, hidT_get b3 (free b3 (fun us n z => ?_) fun z => ?_), b4, b5, b6⟩, apart nsM⟩
      · obtain ⟨o, es, ep, e, d, _⟩ := nsM
        rw [z, e] at b3; cases b3
        rw [d] at b6; cases b6
      · rw [z, t1] at b3; cases b3; cases b6
      · rw [b6] at z; cases z
      · rw [b6] at z; cases z
    have arg : RelWs ⟨K, mg, []⟩ H [] [.d (.frz (ns.map D.int))] [.ref a] := by
      refine ⟨⟨a, ns.map V.int, rfl, sq.imp (fun z => ⟨⟨(fun h => nomatch h), (fun h => nomatch h)⟩, z⟩) id, by rw [List.length_map]; exact len, arO ns⟩, trivial⟩
    have rh : RelH ⟨K, mg, []⟩ H [] [] := ⟨rfl, fun i j b h => by simp at h, fun i vo h => by simp at h, (fun b h => nomatch h), fun p hp =>
      ⟨#[], hT _ (aBa hp), ⟨(fun h => nomatch h), (fun h => nomatch h)⟩, trivial, fun pos cv h => by simp [codeAmong] at h⟩⟩
    have pr : spM K mg F [.ref a] H (fun v _ => v = .bl true) (fun _ _ _ => False) := by
      refine ⟨⟨K, mg, []⟩, rfl, rfl, _, [], [], arg, rh, ?_⟩
      rw [law]
      exact fun H' ρ' g f r v rv => rv
    refine codeAny_mono ((G _ inB (stay nsM) tB).go callerA [] s₁ H ⟨[.ref a], []⟩ [.ref a] [.ref a] _ _ room rfl e0 (bind s₁ (.ref a)) (.cons rfl .nil) pr) fun r s' h => ?_
    cases r with
    | error e => obtain ⟨_, _, _, _, _, _, _, _, _, _, _, _, z⟩ := h; exact z.elim
    | ok fl => cases fl with
      | next => exact h.elim
      | brk => exact h.elim
      | cont => exact h.elim
      | ret u =>
        obtain ⟨v, H', os, bare, un, ok', rv, q⟩ := h
        cases q
        cases rv
        have grew : ∀ b, acY b = true → ∃ more : Array Value, s'.heap.get? b = some (PySem.W.tabObj more) := fun b hb => by
          obtain ⟨more, z⟩ := un.tbls b #[] (hT b hb)
          exact ⟨_, ok' b _ z⟩
        have same : ∀ b o, acY b = false → s₁.heap.get? b = some o → s'.heap.get? b = some o := fun b o nb e => by
          cases q : H b with
          | none => exact un.keep b o e q (fun z => nomatch (show b ∈ ([] : List Addr) from z)) (fun z => nomatch z)
          | some u =>
            rcases known b u q with ⟨rfl, rfl, _⟩ | ⟨z, _⟩
            · rw [atA] at e
              cases e
              exact (ok' b _ (un.frzs b _ _ q)).1
            · rw [nb] at z; cases z
        refine ⟨rfl, ⟨fun b o e => ?_, fun b o e => ?_⟩, os, bare⟩
        · cases hb : acY b with
          | false => exact .inl (same b o hb e)
          | true =>
            obtain ⟨more, z⟩ := grew b hb
            obtain ⟨p, hp, rfl⟩ := ap6 hb
            obtain ⟨t1, _, c, t3⟩ := tb p hp
            rw [t1] at e
            cases e
            refine .inr (.inl ⟨(t3.tab t1).isCodeTable, rfl, #[], more, rfl, ?_⟩)
            rw [Array.empty_append]
            exact z
        · cases hb : acY b with
          | false => exact ⟨o, same b o hb e⟩
          | true => exact let ⟨_, z⟩ := grew b hb; ⟨_, z⟩
  cases hk : K.lookup a with
  | some o =>
    have e := inH a o hk
    rw [atA] at e
    cases e
    refine main (fun b => if acY b = true then some (.tbl #[]) else none) (fun b u z => ?_) (fun b hb => if_pos hb) (.inr ⟨_, vs.toArray, _, hk, rfl, rfl, rfl, by rw [List.size_toArray, lenV]; exact len, by simpa using vals_ints are⟩)
    cases hb : acY b with
    | true => rw [hb, if_pos rfl] at z; exact .inr ⟨rfl, (Option.some.inj z).symm⟩
    | false => rw [hb, if_neg Bool.false_ne_true] at z; cases z
  | none =>
    refine main (fun b => if b = a then some (.frz it (.lst (ns.map V.int))) else if acY b = true then some (.tbl #[]) else none) (fun b u z => ?_) (fun b hb => ?_) (.inl (.inr ⟨it, if_pos rfl⟩))
    · by_cases q : b = a
      · rw [if_pos q] at z
        exact .inl ⟨q, (Option.some.inj z).symm, hk⟩
      · rw [if_neg q] at z
        cases hb : acY b with
        | true => rw [hb, if_pos rfl] at z; exact .inr ⟨rfl, (Option.some.inj z).symm⟩
        | false => rw [hb, if_neg Bool.false_ne_true] at z; cases z
    · rw [if_neg (fun z => by rw [z, naT] at hb; cases hb), if_pos hb]
theorem walk_end {l : PySem.W.OpenLaw} {n k : Nat} {q : Program} {loose : List Str} {XP : (Str → Option Value) → Heap → Prop} {YP : World → Heap → Prop} {d : DefRec} {K : Params → PySem.W.Frag} {F : FN} {x : Str}
    (most : l.most = some n) (small : n ≤ sizeLine) (noDef : d.params.defaults = []) (room : Room k callerA) (inK : ∀ (w : World) (h : Heap), YP w h → (K w.params).In h)
    (defs : ∀ (w : World) (mg : Str → Option Value) (fa : Addr) (h : Heap), YP w h → (K w.params).In h → h.Ns mainGlobals mg → mg d.name = some (.ref fa) →
      avY (K w.params) h ∧ ∃ fd : FuncData, (∀ (s : Shared) (u : Value), BindsTo s fd ⟨[u], []⟩ [(x, u)]) ∧ ∀ base : Heap, (K w.params).In base → base.Ns mainGlobals mg → az2 base mg → FnG l.prog w (K w.params) mg base k fa fd [x] F)
    (law : ∀ ns : List Int, ns.length ≤ n → ∃ vh, F [.d (.frz (ns.map D.int))] [] = .ok (.d (.bl true)) vh) : PySem.W.WalkO q loose XP YP l.row.toRowW d [] (fun f vs => PySem.call f vs) := by
  refine Att.attach_call most noDef fun w s₀ s₁ mg mb fa o pm cd doc a vs ns G Y ho hd hcd hmg hobj hints hlen hg => ?_
  obtain ⟨tb, fd, b, g⟩ := defs w mg fa _ Y (inK w _ Y) G.T.g hmg
  exact aCh (inK w _ Y) G.T.g G.T.b G.T.builtins G.T.nolimit hg tb G.T.bmain hobj hints (Nat.le_trans hlen small) room g b (law ns hlen)
end Mn

namespace Mn
open PySem PySem.Spec PyProof.Rows L2
variable [TabList]

theorem aD2 : bootBuiltins "len" = some (.builtin "len") := by decide +kernel
theorem ayT : bootBuiltins "repr" = some (.builtin "repr") := by decide +kernel
theorem amK : bootBuiltins "int" = some (.type "int") := by decide +kernel
theorem azJ : bootBuiltins "list" = some (.type "list") := by decide +kernel
/-! ### a module's constants -/
def aJo (K : PySem.W.Frag) (mg : Str → Option Value) (x : Str) (d : D) : Prop := ∃ u v, mg x = some u ∧ RelV v u ∧ ∀ hid H ρ, RelD ⟨K, mg, hid⟩ H ρ d v
def aIy : Value → Option D
  | .none => some .non
  | .bool b => some (.bl b)
  | .int i _ => some (.int i)
  | .str x _ => if (decide (x.length ≤ sizeLine) && PyData.strOk x) = true then some (.str x) else none
  | _ => none
def aE5 : List Value → Option (List D)
  | [] => some []
  | u :: us => match aIy u, aE5 us with
    | some x, some xs => some (x :: xs)
    | _, _ => none
def aGF : List Value → List V
  | [] => []
  | u :: us => (absV u).getD .non :: aGF us
section
variable {K : PySem.W.Frag} {mg : Str → Option Value} {h : Heap} {x : Str}
theorem qL (X : K.In h) (G : h.Ns mainGlobals mg) (a : PySem.W.nsIn K mainGlobals x = some none) : mg x = none := PySem.W.mg_none_of X G a
/-- a def of the text, by its global name -/
structure GDef (K : PySem.W.Frag) (mg : Str → Option Value) (x : Str) (st : Stmt) (f : Addr) (fd : FuncData) : Prop where
  F : Fun K x x st f fd
  m : mg x = some (.ref f)
end
section
variable {X : Cx} {c : Cn} {U : WX} {pos p : Pos}
theorem aBJ (i : Nat) {y : Str} {py : Pos} {elt tg iter : Expr} {ifs : List Expr} {scope : Scope} {own : List (Str × Nat)} {spos : Pos} {fi : FI} {A : FTg} {t : FT} {f : FE} {ws : List Nat} {vs : List Nat} (mm : Bool) (hc : X.calm = true) (hN : X.N.Nodup)
    (hi : PI X tg iter (tMI c U fi)) (ok : BlkOk X.N X.env.scope scope own)
    (hg : ∀ (s : Shared) (H : Hp) (C : Addr) (cl : List (Str × Addr)) (fp : List Addr) (hid : List Addr), PG (X.blk s H scope (compEnvC scope cl C X.env) fp) tg (tMG ⟨c.K, c.mg, hid⟩ A ws))
    (ht : ∀ (s : Shared) (H : Hp) (C : Addr) (cl : List (Str × Addr)) (fp : List Addr) (hid : List Addr), PTs (X.blk s H scope (compEnvC scope cl C X.env) fp) ifs (tMT ⟨c.K, c.mg, hid⟩ U0 t))
    (he : ∀ (s : Shared) (H : Hp) (C : Addr) (cl : List (Str × Addr)) (fp : List Addr) (hid : List Addr), PE (X.blk s H scope (compEnvC scope cl C X.env) fp) elt (tM ⟨c.K, c.mg, hid⟩ U0 f))
    (hy : X.N[i]? = some y := by rfl) (hyl : X.env.scope.names.lookup y = some .local := by rfl)
    (hsw : swapsWith (.ListComp elt [⟨tg, iter, ifs, 0⟩] scope pos) (some (.Name y py)) spos.line X.env = pure true := by exact sw_true rfl rfl rfl (by decide +kernel))
    (hvs : own.map (·.2) = vs := by rfl) (hvw : ∀ i ∈ ws, i ∈ vs := by decide) (hs : ∀ x, foldedSetIterable iter X.env x = pure x := by intro _; rfl) :
    PS X (.Assign [.Name y py] (.ListComp elt [⟨tg, iter, ifs, 0⟩] scope pos) spos) (tMS c U (wO i (mLc mm fi A t f vs))) := by
  subst hvs
  exact ahF (ps_setLc hc hN hy hyl hsw hi ok (fun s H C cl fp => aC9 (hg s H C cl fp)) (fun s H C cl fp => aBo (ht s H C cl fp)) (fun s H C cl fp => aDe (he s H C cl fp)) hs) fun D σ H ⟨e, ρ, vh, he, hh, h⟩ => by
    have q : tM c U (mLc mm fi A t f (own.map (·.2))) σ H fun v H1 => D.nx (σ.set i (some v)) H1 := (avL he hh h).mono fun v H1 ⟨w, vh1, ρ1, r, A, _, _⟩ => A.out.here (A.re.set r) A.rh
    exact aBw (U := U) hvw q
def aDp (i j : Nat) (fa : FA) : FS := fun e vh => lft (fa e vh) e fun ws vh1 => match ws with
  | [w1, w2] => .nx ((e.set i (some w1)).set j (some w2)) vh1
  | _ => .stuck
def aCY (i j l : Nat) (fa : FA) : FS := fun e vh => lft (fa e vh) e fun ws vh1 => match ws with
  | [w1, w2, w3] => .nx (((e.set i (some w1)).set j (some w2)).set l (some w3)) vh1
  | _ => .stuck
/-- targets = value, the targets a tuple -/
def aBS (f : FE) (A : FTg) : FS := fun e vh => lft (f e vh) e fun w vh1 => match w with
  | .d x => match A x e with
    | some e' => .nx e' vh1
    | none => .stuck
  | .ref _ => .stuck
theorem aEC {tg a : Expr} {f : FE} {A : FTg} {vs : List Nat} (ha : PE X a (tM c U f)) (hg : PG X tg (tMG c A vs)) (hs : swapsWithSole [tg] a pos.line X.env = pure false := by rfl) (hw : swappedStores [tg] a X.env = pure none := by rfl)
    (h1 : (assignEach [tg] X.env).map (·.2) = [assign tg X.env] := by rfl) : PS X (.Assign [tg] a pos) (tMS c U (aBS f A)) :=
  ahF (ps_asg ha hg hs hw h1) fun D σ H ⟨e, ρ, vh, he, hh, h⟩ => (avL he hh h).mono fun v H1 ⟨w, vh1, ρ1, r, A0, _, _⟩ => by
    have o := A0.out
    cases w with
    | ref k => exact o.elim
    | d x =>
      dsimp only at o
      cases q : A x e with
      | none => rw [q] at o; exact o.elim
      | some e' => rw [q] at o; exact ⟨e, ρ1, x, e', A0.re, r, q, fun σ' re' _ => o.here re' A0.rh⟩
end
end Mn

namespace Mn
open PySem PySem.Spec PyProof.Rows L2
variable [TabList]

/-! ### how the meanings are reckoned -/
section
variable {e : Env} {vh : VH} {f g : FE} {s t : FS} {fa : FA} {ft gt : FT}
def auH (r : RS) (g : FS) : RS := match r with
  | .nx e' vh' => g e' vh'
  | r => r
@[simp] theorem pW : auH (.nx e vh) t = t e vh := rfl
@[simp] theorem aCi {w : W} : auH (.rt w vh) t = .rt w vh := rfl
@[simp] theorem aHk : auH (.bk e vh) t = .bk e vh := rfl
@[simp] theorem aGK : auH (.ct e vh) t = .ct e vh := rfl
@[simp] theorem aA6 {x : Exn} : auH (.exn x e vh) t = .exn x e vh := rfl
@[simp] theorem aDL : auH .stuck t = .stuck := rfl
@[simp] theorem xX : dF s t e vh = auH (s e vh) t := by unfold dF auH; cases s e vh <;> rfl
@[simp] theorem ayY : adR e vh = .nx e vh := rfl
@[simp] theorem apV {i : Nat} : wO i f e vh = lft (f e vh) e fun w vh' => .nx (e.set i (some w)) vh' := rfl
@[simp] theorem aFN : mDo f e vh = lft (f e vh) e fun _ vh' => .nx e vh' := rfl
@[simp] theorem aAK : afU f e vh = lft (f e vh) e fun w vh' => .rt w vh' := rfl
@[simp] theorem aG4 : aFa e vh = .rt (.d .non) vh := rfl
@[simp] theorem aA0 : akE ft s t e vh = lft (ft e vh) e fun b vh' => if b = true then s e vh' else t e vh' := rfl
@[simp] theorem aFt : aD1 e vh = .bk e vh := rfl
@[simp] theorem aGQ : aFx e vh = .ct e vh := rfl
def aCQ (o : Option (Option W)) (vh : VH) : Res W := match o with
  | some (some w) => .ok w vh
  | _ => .stuck
@[simp] theorem wF {w : W} : aCQ (some (some w)) vh = .ok w vh := rfl
@[simp] theorem agJ {i : Nat} : bD i e vh = aCQ (e[i]?) vh := by unfold bD aCQ; rfl
@[simp] theorem aAA {d : D} : mC d e vh = .ok (.d d) vh := rfl
@[simp] theorem aAW {k : D → D → Option D} : mOp k f g e vh = bnd (f e vh) fun w1 vh1 => bnd (g e vh1) fun w2 vh2 => opt (see vh2 w1) fun x => opt (see vh2 w2) fun y => opt (k x y) fun z => .ok (.d z) vh2 := rfl
@[simp] theorem aIZ {k : D → Option D} : mUn k f e vh = bnd (f e vh) fun w1 vh1 => opt (see vh1 w1) fun x => opt (k x) fun z => .ok (.d z) vh1 := rfl
def ayE (z : D) (vh : VH) (k : VH → Res W) : Res W := match z with
  | .bl true => k vh
  | .bl false => .ok (.d (.bl false)) vh
  | _ => .stuck
@[simp] theorem aEV {b : Bool} {k : VH → Res W} : ayE (.bl b) vh k = if b = true then k vh else .ok (.d (.bl false)) vh := by cases b <;> rfl
@[simp] theorem aGI {h : FE} {k k' : D → D → Option D} : arE k k' f g h e vh = bnd (f e vh) fun w1 vh1 => bnd (g e vh1) fun w2 vh2 => opt (see vh2 w1) fun x => opt (see vh2 w2) fun y => opt (k x y) fun z =>
    ayE z vh2 fun vh2 => bnd (h e vh2) fun w3 vh3 => opt (see vh3 w2) fun y => opt (see vh3 w3) fun x3 => opt (k' y x3) fun z' => .ok (.d z') vh3 := by
  unfold arE ayE; rfl
@[simp] theorem aBN {b : Bool} : isB (.d (.bl b)) vh = .ok b vh := rfl
@[simp] theorem azC : tV f e vh = bnd (f e vh) isB := rfl
@[simp] theorem azV : aBD ft e vh = bnd (ft e vh) fun b vh1 => .ok (!b) vh1 := rfl
@[simp] theorem aCE : aBt ft gt e vh = bnd (ft e vh) fun b vh1 => if b = true then gt e vh1 else .ok false vh1 := rfl
@[simp] theorem aEN : aHQ ft gt e vh = bnd (ft e vh) fun b vh1 => if b = true then .ok true vh1 else gt e vh1 := rfl
@[simp] theorem aGB : mIf ft f g e vh = bnd (ft e vh) fun b vh1 => if b = true then f e vh1 else g e vh1 := rfl
@[simp] theorem aHR : aIA f g e vh = bnd (f e vh) fun w vh1 => bnd (isB w vh1) fun b vh1 => if b = true then g e vh1 else .ok (.d (.bl false)) vh1 := rfl
@[simp] theorem aI3 : mOr f g e vh = bnd (f e vh) fun w vh1 => bnd (isB w vh1) fun b vh1 => if b = true then .ok (.d (.bl true)) vh1 else g e vh1 := rfl
@[simp] theorem aDS : aIc f e vh = bnd (f e vh) fun w vh1 => bnd (isB w vh1) fun b vh1 => .ok (.d (.bl !b)) vh1 := rfl
@[simp] theorem ag9 : cI e vh = .ok [] vh := rfl
@[simp] theorem aeC : aK f fa e vh = bnd (f e vh) fun w vh1 => bnd (fa e vh1) fun ws vh2 => .ok (w :: ws) vh2 := rfl
@[simp] theorem as4 : rH [] = some [] := rfl
@[simp] theorem axW {x : D} {r : List W} : rH (.d x :: r) = (rH r).map (x :: ·) := by simp only [rH]; cases rH r <;> rfl
@[simp] theorem avC : agA vh [] = some [] := rfl
@[simp] theorem as6 {w : W} {r : List W} : agA vh (w :: r) = (see vh w).bind fun x => (agA vh r).map (x :: ·) := by
  simp only [agA]
  cases see vh w <;> cases agA vh r <;> rfl
def sizeOk (n : Nat) (r : Res W) : Res W := if n ≤ sizeLine then r else .stuck
@[simp] theorem aD9 : yG fa e vh = bnd (fa e vh) fun ws vh1 => opt (rH ws) fun ds => sizeOk ds.length (.ok (.d (.tup ds)) vh1) := rfl
@[simp] theorem aEt : alQ fa e vh = bnd (fa e vh) fun ws vh1 => opt (rH ws) fun ds => sizeOk ds.length (.ok (.d (.lst ds)) vh1) := rfl
@[simp] theorem azR : azB fa e vh = bnd (fa e vh) fun ws vh1 => opt (rH ws) fun ds => sizeOk ds.length (.ok (.ref vh1.length) (vh1 ++ [.lst ds])) := rfl
@[simp] theorem aBT {k : List D → Option D} : akW k fa e vh = bnd (fa e vh) fun ws vh1 => opt (agA vh1 ws) fun ds => opt (k ds) fun z => .ok (.d z) vh1 := rfl
@[simp] theorem aGO {F : FN} {dws : List W} : aFF F dws fa e vh = bnd (fa e vh) fun ws vh1 => F (ws ++ dws) vh1 := rfl
def azN (r : RS) : Res W := match r with
  | .nx _ vh' => .ok (.d .non) vh'
  | .rt w vh' => .ok w vh'
  | .exn x _ vh' => .exn x vh'
  | _ => .stuck
@[simp] theorem aF7 : azN (.nx e vh) = .ok (.d .non) vh := rfl
@[simp] theorem avA {w : W} : azN (.rt w vh) = .ok w vh := rfl
theorem awG {np nn : Nat} {ws : List W} (h : ws.length = np) : mFn np nn s ws vh = azN (s (yH np nn ws) vh) := by
  unfold mFn azN
  exact (if_pos h).trans rfl
@[simp] theorem aAf : ahR e vh = .ok none vh := rfl
def aAP (o : Option D) (vh : VH) : Res (Option Int) := match o with
  | some (.int i) => .ok (some i) vh
  | _ => .stuck
@[simp] theorem aE1 {i : Int} : aAP (some (.int i)) vh = .ok (some i) vh := rfl
@[simp] theorem aCm : aqR f e vh = bnd (f e vh) fun w vh1 => aAP (see vh1 w) vh1 := by unfold aqR aAP; rfl
@[simp] theorem aFK {fl fh : Env → VH → Res (Option Int)} : mSl f fl fh e vh = bnd (f e vh) fun w vh1 => bnd (fl e vh1) fun lo vh2 => bnd (fh e vh2) fun hi vh3 => opt (see vh3 w) fun x => opt (dSl x lo hi) fun z => .ok (.d z) vh3 := rfl
def agY (k : Nat) (ds : List D) (n : Int) (x : D) (e : Env) (vh : VH) : RS := match ixN ds.length n with
  | some j => .nx e (vh.set k (.lst (ds.set j x)))
  | none => .stuck
def awR (k : Nat) (t : Bool) (kvs : List (D × D)) (i x : D) (e : Env) (vh : VH) : RS := match aGJ t kvs i x with
  | some kvs' => if kvs.length < sizeLine then .nx e (vh.set k (.dic t kvs')) else .stuck
  | none => .stuck
def ahQ (k : Nat) (o : Option VO) (i x : D) (e : Env) (vh : VH) : RS := match o with
  | some (.lst ds) => match i with
    | .int n => agY k ds n x e vh
    | _ => .stuck
  | some (.dic t kvs) => awR k t kvs i x e vh
  | _ => .stuck
def aqI (wo wv : W) (oi : Option D) (e : Env) (vh : VH) : RS := match wo with
  | .d _ => .stuck
  | .ref k => match wv with
    | .ref _ => .stuck
    | .d x => match oi with
      | none => .stuck
      | some i => ahQ k (vh[k]?) i x e vh
@[simp] theorem aAD {k : Nat} {x i : D} : aqI (.ref k) (.d x) (some i) e vh = ahQ k (vh[k]?) i x e vh := rfl
@[simp] theorem avI {k : Nat} {ds : List D} {n : Int} {x : D} : ahQ k (some (.lst ds)) (.int n) x e vh = agY k ds n x e vh := rfl
@[simp] theorem aCW {k : Nat} {t : Bool} {kvs : List (D × D)} {i x : D} : ahQ k (some (.dic t kvs)) i x e vh = awR k t kvs i x e vh := rfl
@[simp] theorem aER {h : FE} : vB f g h e vh = lft (h e vh) e fun wv vh1 => lft (f e vh1) e fun wo vh2 => lft (g e vh2) e fun wi vh3 => aqI wo wv (see vh3 wi) e vh3 := by
  unfold vB aqI ahQ agY awR; rfl
def aAk (w : W) (vh : VH) : Res (List D) := match w with
  | .d x => match x with
    | .str z => .ok (z.cps.toList.map fun ch => .str ⟨#[ch]⟩) vh
    | x => opt (af0 x) fun ds => .ok ds vh
  | _ => .stuck
@[simp] theorem aFz {z : Str} : aAk (.d (.str z)) vh = .ok (z.cps.toList.map fun ch => .str ⟨#[ch]⟩) vh := rfl
@[simp] theorem auU {ds : List D} : aAk (.d (.lst ds)) vh = .ok ds vh := rfl
@[simp] theorem aFf {ds : List D} : aAk (.d (.tup ds)) vh = .ok ds vh := rfl
@[simp] theorem aGl {ds : List D} : aAk (.d (.ctp ds)) vh = .ok ds vh := rfl
@[simp] theorem azO : apL f e vh = bnd (f e vh) aAk := by unfold apL aAk; rfl
def ax0 (o : Option D) (vh : VH) : Res (List D) := match o with
  | some (.int j) => if -(2 ^ 62) ≤ j ∧ j < 2 ^ 62 then .ok ((List.range j.toNat).map fun (i : Nat) => .int (i : Int)) vh else .stuck
  | _ => .stuck
theorem asQ {j : Int} (h : -(2 ^ 62) ≤ j ∧ j < 2 ^ 62) : ax0 (some (.int j)) vh = .ok ((List.range j.toNat).map fun (i : Nat) => .int (i : Int)) vh := if_pos h
@[simp] theorem asZ : afN f e vh = bnd (f e vh) fun w vh1 => ax0 (see vh1 w) vh1 := by unfold afN ax0; rfl
def lcR (m : Bool) (r : Res (List D)) : Res W := match r with
  | .ok xs vh2 => if xs.length ≤ sizeLine then (if m then .ok (.ref vh2.length) (vh2 ++ [.lst xs]) else .ok (.d (.lst xs)) vh2) else .stuck
  | _ => .stuck
theorem asW {xs : List D} (h : xs.length ≤ 16777216) : lcR false (.ok xs vh) = .ok (.d (.lst xs)) vh := if_pos h
@[simp] theorem aAJ {m : Bool} {fi : FI} {A : FTg} {vs : List Nat} : mLc m fi A ft f vs e vh = bnd (fi e vh) fun ds vh1 => lcR m (acC A ft f (lE e vs) ds vh1) := by unfold mLc lcR; rfl
@[simp] theorem az4 {fi : FI} {A : FTg} : azT fi A s e vh = lft (fi e vh) e fun ds vh' => aoD A s ds e vh' := rfl
def aAb (r : RS) (k : Env → VH → RS) : RS := match r with
  | .nx e2 vh2 => k e2 vh2
  | .ct e2 vh2 => k e2 vh2
  | .bk e2 vh2 => .nx e2 vh2
  | r => r
@[simp] theorem az1 {k : Env → VH → RS} : aAb (.nx e vh) k = k e vh := rfl
@[simp] theorem aHv {k : Env → VH → RS} : aAb (.ct e vh) k = k e vh := rfl
@[simp] theorem aGZ {k : Env → VH → RS} : aAb (.bk e vh) k = .nx e vh := rfl
@[simp] theorem aGS {k : Env → VH → RS} {w : W} : aAb (.rt w vh) k = .rt w vh := rfl
@[simp] theorem aHf {A : FTg} : aoD A s [] e vh = .nx e vh := rfl
theorem aBy {A : FTg} {d : D} {ds : List D} {e' : Env} (h : A d e = some e') : aoD A s (d :: ds) e vh = aAb (s e' vh) (aoD A s ds) := by
  simp only [aoD, h]
  unfold aAb
  cases s e' vh <;> rfl
@[simp] theorem aE6 {i : Nat} {d : D} : aeA i d e = some (e.set i (some (.d d))) := rfl
@[simp] theorem aGL : aEw [] e = some e := rfl
@[simp] theorem aGo {A : FTg} {B : arF} {d : D} {ds : List D} : as9 A B (d :: ds) e = (A d e).bind fun e' => B ds e' := by simp only [as9]; cases A d e <;> rfl
@[simp] theorem aDq {n : Nat} {B : arF} {ds : List D} : aFh n B (.tup ds) e = if ds.length = n then B ds e else none := rfl
@[simp] theorem aC3 {n : Nat} {B : arF} {ds : List D} : aFh n B (.ctp ds) e = if ds.length = n then B ds e else none := rfl
def aCP (o : Option Env) (vh : VH) : RS := match o with
  | some e' => .nx e' vh
  | none => .stuck
@[simp] theorem aEU : aCP (some e) vh = .nx e vh := rfl
def aEo (w : W) (A : FTg) (e : Env) (vh : VH) : RS := match w with
  | .d x => aCP (A x e) vh
  | .ref _ => .stuck
@[simp] theorem aH7 {x : D} {A : FTg} : aEo (.d x) A e vh = aCP (A x e) vh := rfl
@[simp] theorem aG9 {A : FTg} : aBS f A e vh = lft (f e vh) e fun w vh1 => aEo w A e vh1 := by unfold aBS aEo aCP; rfl
def aCB (k : Nat) (o : Option VO) (g : List D → List D → Option (D × List D)) (ws : List W) (vh : VH) : Res W := opt (rH ws) fun xs => match o with
  | some (.lst ds) => opt (g ds xs) fun z => .ok (.d z.1) (vh.set k (.lst z.2))
  | _ => .stuck
@[simp] theorem aB5 {k : Nat} {ds : List D} {g : List D → List D → Option (D × List D)} {ws : List W} : aCB k (some (.lst ds)) g ws vh = opt (rH ws) fun xs => opt (g ds xs) fun z => .ok (.d z.1) (vh.set k (.lst z.2)) := rfl
def aCs (w : W) (g : List D → List D → Option (D × List D)) (fa : FA) (e : Env) (vh : VH) : Res W := match w with
  | .ref k => match vh[k]? with
    | some (.lst _) => bnd (fa e vh) fun ws vh2 => aCB k (vh2[k]?) g ws vh2
    | _ => .stuck
  | _ => .stuck
theorem aAZ {k : Nat} {ds : List D} {g : List D → List D → Option (D × List D)} (h : vh[k]? = some (.lst ds)) : aCs (.ref k) g fa e vh = bnd (fa e vh) fun ws vh2 => aCB k (vh2[k]?) g ws vh2 := by
  simp only [aCs, h]
@[simp] theorem aDQ {g : List D → List D → Option (D × List D)} : aBE g f fa e vh = bnd (f e vh) fun w vh1 => aCs w g fa e vh1 := by unfold aBE aCs aCB; rfl
@[simp] theorem aE7 {T : String} {k : D → List D → Option D} : mMt T k f fa e vh = bnd (f e vh) fun w vh1 => opt (see vh1 w) fun x0 => if aeP x0 = some T ∧ (T = "str" ∨ T = "list" ∨ T = "dict") then
    bnd (fa e vh1) fun ws vh2 => opt (see vh2 w) fun x => opt (agA vh2 ws) fun xs => opt (k x xs) fun z => .ok (.d z) vh2 else .stuck := rfl
def aBG (x : D) (r : Res (List D)) : Res (List D) := match r with
  | .ok xs vh3 => .ok (x :: xs) vh3
  | _ => .stuck
@[simp] theorem aF9 {x : D} {xs : List D} : aBG x (.ok xs vh) = .ok (x :: xs) vh := rfl
theorem ay1 {A : FTg} {d : D} {ds : List D} {e' : Env} {x : D} {vh1 vh2 : VH} (h : A d e = some e') (h2 : ft e' vh = .ok true vh1) (h3 : f e' vh1 = .ok (.d x) vh2) : acC A ft f e (d :: ds) vh = aBG x (acC A ft f e ds vh2) := by
  simp only [acC, h, h2, h3]
  unfold aBG; rfl
end
end Mn

namespace Mn
open PySem PySem.Spec PyProof.Rows L2
variable [TabList]

/-! ### evaluation of operations on known shapes -/
section
variable {a b c d e x y : D} {vh : VH} {k : Nat} {i j : Int} {ds : List D} {z : Str} {E : Env} {vo : VO} {w : W}
theorem alO (i j : Int) : dEq (.int i) (.int j) = some (.bl (decide (i = j))) := by
  simp [dEq, wN, PyData.depth, PyData.eqv]
  exact Bool.beq_eq_decide_eq _ _
@[simp] theorem aJj : dIx (.lst [a, b, c, d, e]) (.int 0) = some a := rfl
@[simp] theorem aJB : dIx (.lst [a, b, c, d, e]) (.int 1) = some b := rfl
@[simp] theorem aIQ : dIx (.lst [a, b, c, d, e]) (.int 2) = some c := rfl
@[simp] theorem aJk : dIx (.lst [a, b, c, d, e]) (.int 3) = some d := rfl
@[simp] theorem aIW : dIx (.lst [a, b, c, d, e]) (.int 4) = some e := rfl
@[simp] theorem aJD : agY k [a, b, c, d, e] 1 x E vh = .nx E (vh.set k (.lst [a, x, c, d, e])) := rfl
@[simp] theorem aIU : agY k [a, b, c, d, e] 2 x E vh = .nx E (vh.set k (.lst [a, b, x, d, e])) := rfl
@[simp] theorem aI2 : agY k [a, b, c, d, e] 3 x E vh = .nx E (vh.set k (.lst [a, b, c, x, e])) := rfl
@[simp] theorem aJJ : agY k [a, b, c, d, e] 4 x E vh = .nx E (vh.set k (.lst [a, b, c, d, x])) := rfl
@[simp] theorem aJ5 : see (.lst ds :: vh) (.ref 0) = some (.lst ds) := rfl
@[simp] theorem aJ4 : List.set (vo :: vh) 0 (.lst ds) = .lst ds :: vh := rfl
@[simp] theorem aJ2 : (vo :: vh)[0]? = some vo := rfl
@[simp] theorem aGH : aqI (.ref 0) (.d x) (some y) E (.lst ds :: vh) = ahQ 0 (some (.lst ds)) y x E (.lst ds :: vh) := rfl
@[simp] theorem add_int : abP (.int i) (.int j) = some (.int (i + j)) := rfl
@[simp] theorem aGq : atR [.int i] = some (.int i) := rfl
@[simp] theorem aGk : aAF [.lst ds] = some (.int ds.length) := rfl
@[simp] theorem aFX : aAF [.str z] = some (.int z.length) := rfl
theorem agG (h : 0 < j) : alC (.int i) (.int j) = some (.int (i % j)) := by unfold alC acA; exact if_pos h
theorem asY (h : 0 < j ∧ j < 1073741824) : apZ (.int i) (.int j) = some (.int (i / j)) := by unfold apZ acA; exact if_pos h
theorem acH (h : (-(2 ^ 64) < i ∧ i < 2 ^ 64) ∨ (-(2 ^ 64) < j ∧ j < 2 ^ 64)) : afK (.int i) (.int j) = some (.int (i * j)) := by unfold afK acA; exact if_pos h
@[simp] theorem aHD : aEL (.int 10) (.int 18) = some (.int 1000000000000000000) := rfl
@[simp] theorem aIl : dLt (.int i) (.int j) = some (.bl (decide (i < j))) := rfl
@[simp] theorem aIn : dLe (.int i) (.int j) = some (.bl (decide (i ≤ j))) := rfl
@[simp] theorem aHA : dGt (.int i) (.int j) = some (.bl (decide (j < i))) := rfl
@[simp] theorem aHX : dGe (.int i) (.int j) = some (.bl (decide (j ≤ i))) := rfl
theorem ax8 {α : Type} {xs : List α} (h0 : 0 ≤ i) (h1 : i < xs.length) : atI xs i = xs[i.toNat]? := by
  unfold atI ixN
  rw [if_pos h0, if_pos h1]; rfl
theorem az8 : dIx (.lst ds) (.int i) = atI ds i := rfl
theorem aCb : dIx (.str z) (.int i) = (atI z.cps.toList i).map fun ch => .str ⟨#[ch]⟩ := rfl
theorem aCj : yH 2 5 [w, .d x] = [some w, some (.d x), none, none, none] := rfl
end


section
variable {A : FTg} {ft : FT} {f : FE} {s : FS} {e : Env} {vh : VH} {i j : Int}
theorem apA (a b : Str) : dEq (.str a) (.str b) = some (.bl (a == b)) := by simp [dEq, wN, PyData.depth, PyData.eqv]
abbrev sgn (n : Nat) : D := .str ⟨#[n]⟩
theorem aqJ : ∀ cs : List Nat, aeW (cs.map sgn) = some ((cs.map fun n => [n]).map SX.S)
  | [] => rfl
  | c :: cs => by
    have := aqJ cs
    simp only [List.map_cons, aeW] at this ⊢
    rw [this]; rfl
theorem asT : ∀ cs : List Nat, TL.joinL [] (cs.map fun n => [n]) = cs
  | [] => rfl
  | [c] => rfl
  | c :: d :: cs => by
    have := asT (d :: cs)
    simp only [List.map_cons, TL.joinL] at this ⊢
    simp [this]
theorem aB6 {cs : List Nat} (hc : ∀ c ∈ cs, c < 1114112) (hl : cs.length ≤ 1000000) : as5 (.str (SX.S [])) [.lst (cs.map sgn)] = some (.str (SX.S cs)) := by
  have e : Txt.join (SX.S []) ((cs.map fun n => [n]).map SX.S) = SX.S cs := by rw [SX.join_S, asT]
  have l1 : ∀ cs : List Nat, (((cs.map fun n => [n]).map SX.S).map (·.length)).sum = cs.length := fun cs => by
    rw [SX.lens]
    induction cs with
    | nil => rfl
    | cons a t ih => simp only [List.map_cons, List.sum_cons, List.length_cons, List.length_nil] at ih ⊢; omega
  simp only [as5, af0, aqJ, e]
  rw [if_pos]
  refine ⟨?_, by rw [SX.S_len]; show _ ≤ 16777216; omega, strOk_iff.mpr fun c h => hc c (by simpa using h)⟩
  rw [l1]
  have : (SX.S []).length = 0 := rfl
  simp [this]; omega
end

/-! ### loops -/
/-- a comprehension that carries a state in the heap -/
theorem auP {A : FTg} {ft : FT} {f : FE} {e : Env} (I : VH → Prop) (Pr : D → Prop) : ∀ {ds : List D} {vh : VH}, (∀ d ∈ ds, ∀ vh, I vh → ∃ e', A d e = some e' ∧ ft e' vh = .ok true vh ∧ ∃ x vh2, f e' vh = .ok (.d x) vh2 ∧ I vh2 ∧ Pr x) → I vh →
    ∃ xs vh2, acC A ft f e ds vh = .ok xs vh2 ∧ I vh2 ∧ xs.length = ds.length ∧ ∀ x ∈ xs, Pr x
  | [], vh, _, hi => ⟨[], vh, rfl, hi, rfl, fun _ h => nomatch h⟩
  | d :: ds, vh, h, hi => by
    obtain ⟨e', h1, h2, x, vh2, h3, h4, h5⟩ := h d List.mem_cons_self vh hi
    obtain ⟨xs, vh3, h6, h7, h8, h9⟩ := auP I Pr (ds := ds) (fun x hx => h x (List.mem_cons_of_mem _ hx)) h4
    refine ⟨x :: xs, vh3, by rw [ay1 h1 h2 h3, h6]; rfl, h7, by simp [h8], fun y hy => ?_⟩
    rcases List.mem_cons.mp hy with rfl | hy
    · exact h5
    · exact h9 y hy
end Mn

namespace Mn
open PySem PySem.Spec PyProof.Rows L2
variable [TabList]

/-! ### upper, list(..) that will change -/
def arR (x : D) (xs : List D) : Option D := match x, xs with
  | .str a, [] => if a.length ≤ 5592405 ∧ (Txt.upper a).length ≤ sizeLine ∧ PyData.strOk (Txt.upper a) = true then some (.str (Txt.upper a)) else none
  | _, _ => none
theorem aBH {c : Cn} : MtD c "str" (fun x xs H Q => ∃ a, x = .str a ∧ xs = [] ∧ a.length ≤ 5592405 ∧ Q (.str (Txt.upper a)) H) arR := fun H ρ x xs v vs z Q fr rx rs e k => by
  unfold arR at e
  split at e
  · split at e
    · rename_i hl
      cases e
      match vs, rs with
      | [], _ => exact ⟨_, rx.1, rfl, hl.1, k _ H (Same.refl H) ⟨rfl, hl.2.1, hl.2.2⟩⟩
    · cases e
  · cases e
def aKm (o : Option (List D)) (vh : VH) : Res W := match o with
  | some ds => .ok (.ref vh.length) (vh ++ [.lst ds])
  | none => .stuck
def aA2 : List D → Option (List D)
  | [x] => af0 x
  | _ => none
def axI (fa : FA) : FE := fun e vh => bnd (fa e vh) fun ws vh1 => opt (agA vh1 ws) fun ds => opt (aA2 ds) fun xs => .ok (.ref vh1.length) (vh1 ++ [.lst xs])
section
variable {X : Cx} {c : Cn} {U : WX} {x : Str} {fa : FA} {e : Expr} {es : List Expr} {pos p : Pos}
theorem aBm (hcK : X.K = c.K) (hg : Gl X x) (hm : X.mg x = none) (hv : bootBuiltins x = some (.type "list")) (ha : PA X (e :: es) (tMA c U fa))
    (hn : x ≠ "__name__" := by decide) (hdb : (x == ("__debug__" : Str)) = false := by decide)
    (he : starEach (e :: es) X.env = (false, eval e X.env) :: starEach es X.env := by rfl) (hpl : (backTo pos (starEach es X.env)).any (·.1) = false := by rfl) : PE X (.Call (.Name x p) (e :: es) [] pos) (tM c U (axI fa)) :=
  mQ (pe_callTy call_list_of hg hm hv ha hn hdb he hpl) fun σ H Q ⟨e, ρ, vh, he, hh, h⟩ => (apF he hh h).mono fun vs H1 ⟨ws, vh1, ρ1, rs, A, _, _⟩ => by
    obtain ⟨ds, e1, o⟩ := dM A.out
    obtain ⟨xs, e2, o2⟩ := dM o
    have rr := ao7 A.rh rs e1
    match ds, rr, e2 with
    | [d], rr, e2 =>
      obtain ⟨v, rfl, rd⟩ := rr.one
      obtain ⟨a, ys, rfl, hs, hl, ry⟩ := alI rd e2
      refine ⟨a, ys, rfl, by rw [hcK]; exact hs, fun p hp => ?_⟩
      refine o2 _ _ (Grow.push hp) (Fm.new hp) (awK A.rh hp hl ry) _ ⟨by simp [A.rh.len], fun a ha => ?_⟩
      rw [List.getElem?_append_right (by rw [A.rh.len]; omega), A.rh.len] at ha
      simp at ha; rw [ha]
end
@[simp] theorem aFE {fa : FA} {e : Env} {vh : VH} : axI fa e vh = bnd (fa e vh) fun ws vh1 => opt (agA vh1 ws) fun ds => opt (aA2 ds) fun xs => .ok (.ref vh1.length) (vh1 ++ [.lst xs]) := rfl

/-! ### defs with defaults -/
theorem awA {c : Cn} {H : Hp} {ρ : Rho} : ∀ {ds : List D} {vs : List V}, RelDs c H ρ ds vs → RelWs c H ρ (ds.map W.d) vs
  | [], [], _ => trivial
  | _ :: _, _ :: _, ⟨r, t⟩ => ⟨r, awA t⟩
/-- a def of the text with positional defaults dd and keyword-only ones kd -/
structure GDefX (K : PySem.W.Frag) (mg : Str → Option Value) (x : Str) (st : Stmt) (dd : List D) (kd : List (Str × D)) (f : Addr) (fd : FuncData) : Prop where
  ex : ∃ (dvs : List V) (kws : List (Str × V)), FunD K x x (defArgs st) (defBody st) (defScope st) dvs kws f fd ∧ kws.map (·.1) = kd.map (·.1) ∧ (∀ hid H ρ, RelDs ⟨K, mg, hid⟩ H ρ dd dvs) ∧ ∀ hid H ρ, RelDs ⟨K, mg, hid⟩ H ρ (kd.map (·.2)) (kws.map (·.2))
  m : mg x = some (.ref f)
  kp : PySem.W.keepIn K (.ref f) = true
section
variable {P : Program} {w : World} {K : PySem.W.Frag} {mg : Str → Option Value} {base : Heap} {x : Str} {st : Stmt} {dd : List D} {kd : List (Str × D)} {f : Addr} {fd : FuncData} {ps : List Str}
/-- n positional values, keywords named ks, all keyword-only parameters among them: g puts them in order -/
theorem GDefX.k0 (F : GDefX K mg x st [] kd f fd) (n : Nat) (ks : List Str) (g : {α : Type} → List α → List α → List α) (hk : kd ≠ [])
    (hrel : ∀ {vs zs : List V} {us ws : List Value}, Vals vs us → Vals zs ws → Vals (g vs zs) (g us ws))
    (h : ∀ (D : Addr) (doc pm : Value) (an : Option Addr) (cdv ct : Value) (us ws : List Value), us.length = n → ws.length = ks.length →
      bindArgs (PySem.W.fnOf x x (defArgs st) (defBody st) (defScope st) .none (.ref D) doc pm an cdv ct) ⟨us, ks.zip ws⟩ = pure (ps.zip (g us ws))) :
    KBn K fd ps n ks (fun us ws => g us ws) (fun vs zs => g vs zs) := by
  obtain ⟨dvs, kws, G, e, r0, r⟩ := F.ex
  have hl : kws.length = kd.length := by have := congrArg List.length e; simpa using this
  cases dvs with
  | cons v vs => exact (r0 [] (fun _ => none) []).elim
  | nil =>
    obtain ⟨mv, hb⟩ := FunD.kbinds0 (ps := ps) G n ks [] (fun a _ b => g a b) (fun z => hk (by rw [z] at hl; exact List.length_eq_zero_iff.mp hl.symm)) (fun q hq => nomatch hq) (fun h1 _ h3 => hrel h1 h3) fun D doc pm an cdv ct us mv ws l1 l2 l3 => h D doc pm an cdv ct us ws l1 l3
    exact hb
end
/-- f(a, .., k = b, ..): g puts the values in the parameters' order -/
def ak9 (a b n m : Nat) (r : Res W) : Res W := if a = n ∧ b = m then r else .stuck
@[simp] theorem aGs {n m : Nat} {r : Res W} : ak9 n m n m r = r := if_pos ⟨rfl, rfl⟩
def aEz (n m : Nat) (F : FN) (g : List W → List W → List W) (fa fk : FA) : FE := fun e vh => bnd (fa e vh) fun ws vh1 => bnd (fk e vh1) fun zs vh2 => ak9 ws.length zs.length n m (F (g ws zs) vh2)
def tMK (c : Cn) (U : WX) (f : FA) : TA := tMA c U f
section
variable {X : Cx} {U : WX} {k n : Nat} {f : Addr} {fd : FuncData} {ps ks : List Str} {F : FN} {c : Cn} {e : Expr} {es : List Expr} {kws : List Keyword} {pos p kpos : Pos} {x : Str} {fa fk : FA} {nm : Option Str} {fe : FE}
theorem aeV : PK X [] (tMA c U cI) := ⟨fun pos pins s σ H Q I h => pk_nil.run pos pins s σ H Q I (by
  obtain ⟨e, ρ, vh, he, hh, h⟩ := h
  exact h H ρ (Grow.refl _ _) (Fm.refl _ _) hh [] trivial)⟩
end
@[simp] theorem aGb {n m : Nat} {F : FN} {g : List W → List W → List W} {fa fk : FA} {e : Env} {vh : VH} : aEz n m F g fa fk e vh = bnd (fa e vh) fun ws vh1 => bnd (fk e vh1) fun zs vh2 => ak9 ws.length zs.length n m (F (g ws zs) vh2) := rfl

/-! ### facts of such defs, at the end -/
def awS (K : PySem.W.Frag) (mg : Str → Option Value) (Z : Addr) : List (Str × D) → Prop
  | [] => True
  | q :: r => (∃ u v, PySem.W.nsIn K Z q.1 = some (some u) ∧ RelV v u ∧ ∀ hid H ρ, RelD ⟨K, mg, hid⟩ H ρ q.2 v) ∧ awS K mg Z r
section
variable {K : PySem.W.Frag} {mg : Str → Option Value} {h : Heap} {x : Str} {Z : Addr} {kd : List (Str × D)}
theorem azD : ∀ {kd : List (Str × D)}, awS K mg Z kd → ∃ kws : List (Str × V), (∀ q ∈ kws, ∃ u, PySem.W.nsIn K Z q.1 = some (some u) ∧ RelV q.2 u) ∧ kws.map (·.1) = kd.map (·.1) ∧ ∀ hid H ρ, RelDs ⟨K, mg, hid⟩ H ρ (kd.map (·.2)) (kws.map (·.2))
  | [], _ => ⟨[], fun _ h => (nomatch h), rfl, fun _ _ _ => trivial⟩
  | q :: r, ⟨⟨u, v, h1, h2, h3⟩, t⟩ => by
    obtain ⟨kws, g1, g2, g3⟩ := azD t
    refine ⟨(q.1, v) :: kws, fun p hp => ?_, by simp [g2], fun hid H ρ => ⟨h3 hid H ρ, g3 hid H ρ⟩⟩
    rcases List.mem_cons.mp hp with rfl | hp
    · exact ⟨u, h1, h2⟩
    · exact g1 p hp
end
end Mn

namespace Mn
open PySem PySem.Spec PyProof.Rows L2
variable [TabList]

/-! ### data that repr can show -/
def Fine (n h : Nat) (d : D) : Prop := ∃ p, wN d = some p ∧ p.showable = true ∧ p.depth ≤ h ∧ p.weight ≤ n ∧ p.intsShort 13 = true
theorem Fine.mono {n m h k : Nat} {d : D} (f : Fine n h d) (a : n ≤ m) (b : h ≤ k) : Fine m k d := let ⟨p, h1, h2, h3, h4, h5⟩ := f; ⟨p, h1, h2, Nat.le_trans h3 b, Nat.le_trans h4 a, h5⟩
theorem av8 (z : Str) : Fine z.length 0 (.str z) := ⟨_, rfl, rfl, Nat.le_refl _, Nat.le_refl _, rfl⟩
theorem aqS {n h : Nat} : ∀ {ds : List D}, (∀ d ∈ ds, Fine n h d) → ∃ ps, toPys ds = some ps ∧ PyData.showableAll ps = true ∧ PyData.depthAll ps ≤ h ∧ PyData.weightAll ps ≤ ds.length * (n + 1) ∧ PyData.intsShortAll 13 ps = true
  | [], _ => ⟨[], rfl, rfl, Nat.zero_le _, Nat.zero_le _, rfl⟩
  | d :: ds, f => by
    obtain ⟨p, h1, h2, h3, h4, h5⟩ := f d List.mem_cons_self
    obtain ⟨ps, g1, g2, g3, g4, g5⟩ := aqS fun x hx => f x (List.mem_cons_of_mem _ hx)
    refine ⟨p :: ps, by simp only [toPys, h1, g1], by simp [PyData.showableAll, h2, g2], by simp only [PyData.depthAll]; omega, ?_, by simp [PyData.intsShortAll, h5, g5]⟩
    simp only [PyData.weightAll, List.length_cons, Nat.succ_mul]
    omega
theorem aAN {n h : Nat} {ds : List D} (f : ∀ d ∈ ds, Fine n h d) : Fine (ds.length * (n + 1)) (h + 1) (.lst ds) := by
  obtain ⟨ps, g1, g2, g3, g4, g5⟩ := aqS f
  exact ⟨.list ps, by simp only [wN, g1]; rfl, by simpa [PyData.showable] using g2, by simp only [PyData.depth]; omega, by simpa [PyData.weight] using g4, by simpa [PyData.intsShort] using g5⟩
theorem aqX {n h : Nat} {ds : List D} (f : ∀ d ∈ ds, Fine n h d) : Fine (ds.length * (n + 1)) (h + 1) (.tup ds) := by
  obtain ⟨ps, g1, g2, g3, g4, g5⟩ := aqS f
  exact ⟨.tuple ps, by simp only [wN, g1]; rfl, by simpa [PyData.showable] using g2, by simp only [PyData.depth]; omega, by simpa [PyData.weight] using g4, by simpa [PyData.intsShort] using g5⟩
end Mn

namespace Mn
open PySem PySem.Spec PyProof.Rows L2
variable [TabList]

/-! ### a static method, called by its class -/
structure SMet (K : PySem.W.Frag) (mg : Str → Option Value) (x m : Str) (g : Addr) : Prop where
  ex : ∃ (C p : Addr) (mc : Value) (rest : List Value), mg x = some (.ref C) ∧ PySem.W.readsIn K C mc = true ∧ PySem.W.specialIn K (.ref C) "__getattribute__" = some (some (.builtin "type.__getattribute__")) ∧
    PySem.W.findCls K (.ref C) mc m = some (.get (.builtin "staticmethod.__get__") (.ref p) .none (.ref C)) ∧ PySem.W.recIn K p "staticmethod" = some (.ref g :: rest)
section
variable {X : Cx} {U : WX} {k : Nat} {f : Addr} {fd : FuncData} {ps : List Str} {F : FN} {c : Cn} {e : Expr} {es : List Expr} {pos p apos : Pos} {x m : Str} {ds : List Value} {dvs : List V} {dws : List W} {fa : FA} {pl : Sem Bool}
end
structure GSm (K : PySem.W.Frag) (mg : Str → Option Value) (x m qual : Str) (st : Stmt) (f : Addr) (fd : FuncData) : Prop where
  F : Fun K m qual st f fd
  S : SMet K mg x m f
end Mn

namespace Mn
open PySem PySem.Spec PyProof.Rows L2
variable [TabList]

/-! ### own classes: fields, methods, makings -/
/-- an instance's class and the names of its attributes -/
def ajL (vh : VH) : W → Option (Str × List Str)
  | .d (.ins n fs) => some (n, fs.map (·.1))
  | .ref k => match vh[k]? with
    | some (.ins n fs) => some (n, fs.map (·.1))
    | _ => none
  | _ => none
/-- an attribute -/
def aEA (vh : VH) (ns : List Str) (f : Str) : W → Option W
  | .d (.ins n fs) => if n ∈ ns then (fs.lookup f).map .d else none
  | .ref k => match vh[k]? with
    | some (.ins n fs) => if n ∈ ns then fs.lookup f else none
    | _ => none
  | _ => none
def aHS (ns : List Str) (f : Str) (fo : FE) : FE := fun e vh => bnd (fo e vh) fun w vh1 => opt (aEA vh1 ns f w) fun z => .ok z vh1
def aEd (f : Str) (w : W) : List (Str × W) → List (Str × W)
  | [] => [(f, w)]
  | (g, x) :: r => if g = f then (g, w) :: r else (g, x) :: aEd f w r
def ao3 (ns : List Str) (f : Str) (fo fv : FE) : FS := fun e vh => lft (fv e vh) e fun wv vh1 => lft (fo e vh1) e fun wo vh2 => match wo with
  | .d _ => .stuck
  | .ref k => match vh2[k]? with
    | some (.ins n fs) => if n ∈ ns ∧ fs.length < 1000 then .nx e (vh2.set k (.ins n (aEd f wv fs))) else .stuck
    | _ => .stuck

section
variable {c : Cn} {H : Hp} {ρ : Rho} {vh : VH}
end

/-- what of the text a class must have -/
structure KFld (K : PySem.W.Frag) (mg : Str → Option Value) (n f : Str) : Prop where
  ex : ∃ C, mg n = some (.ref C) ∧ Cls K C ∧ NoAttr K C f
def KFlds (K : PySem.W.Frag) (mg : Str → Option Value) (ns : List Str) (f : Str) : Prop := ∀ n ∈ ns, KFld K mg n f
theorem KFlds.nil {K : PySem.W.Frag} {mg : Str → Option Value} {f : Str} : KFlds K mg [] f := fun _ h => nomatch h
theorem KFlds.cons {K : PySem.W.Frag} {mg : Str → Option Value} {n f : Str} {ns : List Str} (h : KFld K mg n f) (t : KFlds K mg ns f) : KFlds K mg (n :: ns) f := fun x hx => by
  rcases List.mem_cons.mp hx with z | z
  · rw [z]; exact h
  · exact t x z

section
variable {X : Cx} {U : WX} {c : Cn} {o v : Expr} {pos pos' apos cpos : Pos} {fo fv : FE} {ns : List Str} {f : Str}
end

end Mn

namespace Mn
open PySem PySem.Spec PyProof.Rows L2
variable [TabList]

/-! ### which value goes where in a call -/
inductive Src where
  | p (i : Nat) | k (i : Nat) | d (i : Nat)
def Src.get {α : Type} (us ws ds : List α) : Src → Option α
  | .p i => us[i]?
  | .k i => ws[i]?
  | .d i => ds[i]?
def agF {α : Type} (us ws ds : List α) : List Src → List α
  | [] => []
  | s :: r => match s.get us ws ds with
    | some x => x :: agF us ws ds r
    | none => agF us ws ds r
theorem Vals.o {xs : List V} {us : List Value} (r : Vals xs us) (i : Nat) : (∃ x u, xs[i]? = some x ∧ us[i]? = some u ∧ RelV x u) ∨ (xs[i]? = none ∧ us[i]? = none) := by
  cases q : xs[i]? with
  | none => exact .inr ⟨rfl, Vals.none_of r q⟩
  | some x => obtain ⟨u, e, ru⟩ := Vals.get r q; exact .inl ⟨x, u, rfl, e, ru⟩
theorem asL {vs zs dv : List V} {us ws ds : List Value} (r1 : Vals vs us) (r2 : Vals zs ws) (r3 : Vals dv ds) : ∀ l : List Src, Vals (agF vs zs dv l) (agF us ws ds l)
  | [] => .nil
  | s :: l => by
    have ih := asL r1 r2 r3 l
    have o : (∃ x u, s.get vs zs dv = some x ∧ s.get us ws ds = some u ∧ RelV x u) ∨ (s.get vs zs dv = none ∧ s.get us ws ds = none) := by
      cases s with
      | p i => exact Vals.o r1 i
      | k i => exact Vals.o r2 i
      | d i => exact Vals.o r3 i
    unfold agF
    rcases o with ⟨x, u, e1, e2, r⟩ | ⟨e1, e2⟩
    · rw [e1, e2]; exact .cons r ih
    · rw [e1, e2]; exact ih
section
variable {c : Cn} {H : Hp} {ρ : Rho}
theorem RelWs.o : ∀ {xs : List W} {us : List V} (r : RelWs c H ρ xs us) (i : Nat), (∃ x u, xs[i]? = some x ∧ us[i]? = some u ∧ RelW c H ρ x u) ∨ (xs[i]? = none ∧ us[i]? = none)
  | [], [], _, i => .inr ⟨by simp, by simp⟩
  | x :: xs, u :: us, ⟨h, t⟩, 0 => .inl ⟨x, u, rfl, rfl, h⟩
  | x :: xs, u :: us, ⟨h, t⟩, i + 1 => by simpa using RelWs.o t i
theorem avX {ws zs dw : List W} {vs us dv : List V} (r1 : RelWs c H ρ ws vs) (r2 : RelWs c H ρ zs us) (r3 : RelWs c H ρ dw dv) : ∀ l : List Src, RelWs c H ρ (agF ws zs dw l) (agF vs us dv l)
  | [] => trivial
  | s :: l => by
    have ih := avX r1 r2 r3 l
    have o : (∃ x u, s.get ws zs dw = some x ∧ s.get vs us dv = some u ∧ RelW c H ρ x u) ∨ (s.get ws zs dw = none ∧ s.get vs us dv = none) := by
      cases s with
      | p i => exact RelWs.o r1 i
      | k i => exact RelWs.o r2 i
      | d i => exact RelWs.o r3 i
    unfold agF
    rcases o with ⟨x, u, e1, e2, r⟩ | ⟨e1, e2⟩
    · rw [e1, e2]; exact ⟨r, ih⟩
    · rw [e1, e2]; exact ih
end

/-! ### a def of the text, with its defaults -/
/-- positional defaults -/
def aBV (K : PySem.W.Frag) (mg : Str → Option Value) (dV : Value) (dd : List D) : Prop := match dd with
  | [] => dV = .none
  | _ => ∃ (T : Addr) (o : Obj) (its : List Value) (n : Nat) (dvs : List V), dV = .ref T ∧ K.lookup T = some o ∧ o.data = .seq its.toArray n ∧ Vals dvs its ∧ ∀ hid H ρ, RelDs ⟨K, mg, hid⟩ H ρ dd dvs
def aAI (K : PySem.W.Frag) (mg : Str → Option Value) (kV : Value) (kd : List (Str × D)) : Prop := match kd with
  | [] => True
  | _ => ∃ Z, kV = .ref Z ∧ awS K mg Z kd
structure GDf (K : PySem.W.Frag) (mg : Str → Option Value) (x qual : Str) (st : Stmt) (dd : List D) (kd : List (Str × D)) (f : Addr) (fd : FuncData) : Prop where
  ex : ∃ (oc : Value) (od : Option Addr) (dV kV doc pm : Value) (an : Option Addr) (cdv ct : Value) (osl : Array (Option Value)), fd = PySem.W.fnOf x qual (defArgs st) (defBody st) (defScope st) dV kV doc pm an cdv ct ∧
    K.lookup f = some ⟨oc, od, .func fd, osl⟩ ∧ PySem.W.codeIn K cdv qual = true ∧ aBV K mg dV dd ∧ aAI K mg kV kd
  kp : PySem.W.keepIn K (.ref f) = true
section
variable {P : Program} {w : World} {K : PySem.W.Frag} {mg : Str → Option Value} {base : Heap} {x qual : Str} {st : Stmt} {dd : List D} {kd : List (Str × D)} {f : Addr} {fd : FuncData} {ps : List Str}
theorem FnG.dfC {N : List Str} {k : Nat} {g : FS} (F : GDf K mg x qual st dd kd f fd) (S : FnScope N ps (defScope st))
    (body : ∀ (cdv : Value), fd.code = cdv → ∀ (A : Around) (outer : List PySem.Env) (s : Shared) (H : Hp) (E : XK) (hid : List Addr), Room k (A.deeper (envOfC qual (defScope st) s.heap.objs.size f cdv)) → NoGuard (A.deeper (envOfC qual (defScope st) s.heap.objs.size f cdv)) →
      Takes (cxOf (L2.CX P w) P w K mg base N qual (defScope st) f cdv A outer s H E) (fun cls d _ H => E cls d H) →
      PSs (cxOf (L2.CX P w) P w K mg base N qual (defScope st) f cdv A outer s H E) (defBody st) (tMS ⟨K, mg, hid⟩ (fun cls d _ H => E cls d H) g)) :
    FnG P w K mg base (k + 1) f fd ps (mFn ps.length N.length g) := by
  obtain ⟨oc, od, dV, kV, doc, pm, an, cdv0, ct, osl, rfl, lk, hcd, _, _⟩ := F.ex
  refine ⟨at3, fun A outer s H args us vs Q E hr ng e0 hb rv hsp => ?_⟩
  have hl : vs.length = ps.length := azI at3 hsp
  have inH : K.In s.heap := e0.mod.kin.keeps fun b o e => (e0.bs b o e).1
  have noLim : s.heap.NoLimit := e0.mod.nolimit.keeps fun b o e => (e0.bs b o e).1
  refine codeAny_call_function hr.depth (inH _ _ lk) rfl S.co S.gen rfl (PySem.W.codeRec_of inH hcd) (hb _ _ _ _ ?_)
  refine wpAny_newFunctionEnv_cells S.kind (fun y hy => (S.par y.1 (List.of_mem_zip (a := y.1) (b := y.2) hy).1).imp id fun q => ⟨q, PySem.W.cellsFrom_some _ _ _ (.inl q)⟩) fun env he s1 x => ?_
  cases he
  refine ⟨noLim.keeps x.toInCall.keep, codeAny_func ?_⟩
  obtain ⟨⟨K', mg', hid⟩, rfl, rfl, ws, ρ, vh, rs, hh, h⟩ := hsp
  have D := body cdv0 rfl A outer s H E hid (hr.deeper _) (ng.deeper _) (takes_of rfl rfl rfl rfl)
  have I := inv_start (CX := L2.CX P w) (E := E) S hr.hd e0 hl rv x
  have rd : tMS ⟨K', mg', hid⟩ (fun cls d _ H => E cls d H) g { nx := fun _ H' => Q .non H', rt := Q } (L2.start N vs) H := by
    unfold mFn at h
    split at h
    · rename_i e
      refine ⟨_, ρ, vh, amD (np := ps.length) rs, hh, ?_⟩
      have e2 : yH ps.length N.length ws = ws.map some ++ List.replicate (N.length - vs.length) none := by unfold yH; rw [← rs.length, e]
      rw [← e2]
      cases q : g (yH ps.length N.length ws) vh with
      | nx e' vh' => rw [q] at h; exact fun σ' H' ρ' g' f' x y => h H' ρ' g' f' y .non rfl
      | bk e' vh' => rw [q] at h; exact h.elim
      | ct e' vh' => rw [q] at h; exact h.elim
      | rt w vh' => rw [q] at h; exact fun v H' ρ' g' f' x y => h H' ρ' g' f' y v x
      | exn x e' vh' => rw [q] at h; exact fun cls d σ' H' ρ' g' f' x y z => h cls d H' ρ' g' f' x z
      | stuck => rw [q] at h; exact h.elim
    · exact h.elim
  refine wpAny_mono (D.run [] s1 _ H _ I rd) (fun fl s' hs => ?_) fun _ _ z => z
  cases fl with
  | ret u => obtain ⟨v, σ', H', J, r1, q⟩ := hs; exact ⟨v, H', J.os, J.bare, J.base, J.hok, r1, q⟩
  | next => obtain ⟨σ', H', J, q⟩ := hs; exact ⟨.non, H', J.os, J.bare, J.base, J.hok, rfl, q⟩
  | brk => obtain ⟨_, _, _, q⟩ := hs; exact q.elim
  | cont => obtain ⟨_, _, _, q⟩ := hs; exact q.elim

theorem FnG.df {N : List Str} {k : Nat} {g : FS} (F : GDf K mg x qual st dd kd f fd) (S : FnScope N ps (defScope st))
    (body : ∀ (cdv : Value) (A : Around) (outer : List PySem.Env) (s : Shared) (H : Hp) (E : XK) (hid : List Addr), Room k (A.deeper (envOfC qual (defScope st) s.heap.objs.size f cdv)) → NoGuard (A.deeper (envOfC qual (defScope st) s.heap.objs.size f cdv)) →
      Takes (cxOf (L2.CX P w) P w K mg base N qual (defScope st) f cdv A outer s H E) (fun cls d _ H => E cls d H) →
      PSs (cxOf (L2.CX P w) P w K mg base N qual (defScope st) f cdv A outer s H E) (defBody st) (tMS ⟨K, mg, hid⟩ (fun cls d _ H => E cls d H) g)) :
    FnG P w K mg base (k + 1) f fd ps (mFn ps.length N.length g) := FnG.dfC F S fun cdv _ => body cdv
/-- n values and keywords ks bind: srcs tells from where each parameter comes, dws the defaults that are wanted -/
structure BnB (K : PySem.W.Frag) (mg : Str → Option Value) (fd : FuncData) (ps : List Str) (n : Nat) (ks : List Str) (srcs : List Src) (dws : List W) : Prop where
  ex : ∃ (dvs : List V) (dus : List Value), Vals dvs dus ∧ (∀ hid H ρ, RelWs ⟨K, mg, hid⟩ H ρ dws dvs) ∧ ∀ (s : Shared) (us ws : List Value), K.In s.heap → us.length = n → ws.length = ks.length → BindsTo s fd ⟨us, ks.zip ws⟩ (ps.zip (agF us ws dus srcs))
theorem az6 {Z : Addr} : ∀ {kd ms : List (Str × D)}, awS K mg Z kd → (∀ q ∈ ms, q ∈ kd) → awS K mg Z ms
  | kd, [], _, _ => trivial
  | kd, q :: ms, h, hm => by
    refine ⟨?_, az6 h fun p hp => hm p (List.mem_cons_of_mem _ hp)⟩
    have : ∀ {kd : List (Str × D)}, awS K mg Z kd → q ∈ kd → ∃ u v, PySem.W.nsIn K Z q.1 = some (some u) ∧ RelV v u ∧ ∀ hid H ρ, RelD ⟨K, mg, hid⟩ H ρ q.2 v := by
      intro kd
      induction kd with
      | nil => intro _ z; cases z
      | cons p kd ih =>
        intro hk hq
        rcases List.mem_cons.mp hq with rfl | hq
        · exact hk.1
        · exact ih hk.2 hq
    exact this h (hm q List.mem_cons_self)
/-- keyword-only defaults ms fill up -/
theorem GDf.bk (F : GDf K mg x qual st dd kd f fd) (n : Nat) (ks : List Str) (ms : List (Str × D)) (srcs : List Src) (hd : dd = []) (hk : kd ≠ []) (hms : ∀ q ∈ ms, q ∈ kd)
    (h : ∀ (Z : Addr) (doc pm : Value) (an : Option Addr) (cdv ct : Value) (us ws mv : List Value), us.length = n → ws.length = ks.length → mv.length = ms.length →
      KwChain Z ((ms.map (·.1)).zip mv) (bindArgs (PySem.W.fnOf x qual (defArgs st) (defBody st) (defScope st) .none (.ref Z) doc pm an cdv ct) ⟨us, ks.zip ws⟩) (ps.zip (agF us ws mv srcs))) : BnB K mg fd ps n ks srcs (ms.map fun q => .d q.2) := by
  obtain ⟨oc, od, dV, kV, doc, pm, an, cdv0, ct, osl, rfl, lk, hcd, p1, p2⟩ := F.ex
  subst hd
  cases p1
  have p3 : ∃ Z, kV = .ref Z ∧ awS K mg Z kd := by
    cases kd with
    | nil => exact absurd rfl hk
    | cons _ _ => exact p2
  clear p2
  obtain ⟨Z, rfl, p2⟩ := p3
  obtain ⟨kws, g1, g2, g3⟩ := azD (az6 p2 hms)
  obtain ⟨mv, l, rk, hks⟩ := kwd_vals g1
  refine ⟨_, mv, rk, fun hid H ρ => ?_, fun s us ws X l1 l2 => BindsTo.of_looks fun M => KwChain.looks X (by rw [← g2]; exact hks) (h Z _ _ _ _ _ us ws mv l1 l2 (by rw [l]; simpa using congrArg List.length g2))⟩
  have := awA (g3 hid H ρ)
  rwa [List.map_map] at this
end

/-! ### called with any values and the keywords ks -/
abbrev FC := List W → List W → VH → Res W
def spC (K : PySem.W.Frag) (mg : Str → Option Value) (F : FC) (vs zs : List V) (H : Hp) (Q : VK) (E : XK) : Prop := ∃ c : Cn, c.K = K ∧ c.mg = mg ∧ ∃ ws wz ρ vh, RelWs c H ρ ws vs ∧ RelWs c H ρ wz zs ∧ RelH c H ρ vh ∧ Out c [] H ρ (fun cls d _ H' => E cls d H') (F ws wz vh) (KW c Q)
structure FnC (P : Program) (w : World) (K : PySem.W.Frag) (mg : Str → Option Value) (base : Heap) (k : Nat) (f : Addr) (ks : List Str) (F : FC) : Prop where
  go : ∀ (A : Around) (outer : List PySem.Env) (s : Shared) (H : Hp) (us uz : List Value) (vs zs : List V) (Q : VK) (E : XK), Room k A → NoGuard A → Env0 P w K mg base A outer s H → Vals vs us → Vals zs uz → spC K mg F vs zs H Q E →
    codeAny (model P w) A (.call (.ref f) ⟨us, ks.zip uz⟩) (CR (L2.CX P w) outer P w H s Q E) s
/-- by its parameters -/
def aBR (n m : Nat) (srcs : List Src) (dws : List W) (F : FN) : FC := fun ws zs vh => ak9 ws.length zs.length n m (F (agF ws zs dws srcs) vh)
section
variable {P : Program} {w : World} {K : PySem.W.Frag} {mg : Str → Option Value} {base : Heap} {k j : Nat} {f : Addr} {fd : FuncData} {ps ks : List Str} {F : FN} {n : Nat} {srcs : List Src} {dws : List W}
theorem FnC.mono {F : FC} (G : FnC P w K mg base j f ks F) (h : j ≤ k) : FnC P w K mg base k f ks F := ⟨fun A outer s H us uz vs zs Q E hr => G.go A outer s H us uz vs zs Q E (hr.mono h)⟩
theorem FnC.of (G : FnG P w K mg base k f fd ps F) (b : BnB K mg fd ps n ks srcs dws) : FnC P w K mg base k f ks (aBR n ks.length srcs dws F) := by
  refine ⟨fun A outer s H us uz vs zs Q E hr ng e0 r rz h => ?_⟩
  obtain ⟨dvs, dus, d1, d2, d3⟩ := b.ex
  obtain ⟨c, rfl, rfl, ws, wz, ρ, vh, rs, rsz, rh, o⟩ := h
  unfold aBR ak9 at o
  split at o
  · rename_i hl
    have X : c.K.In s.heap := e0.mod.kin.keeps fun b o e => (e0.bs b o e).1
    exact G.go A outer s H ⟨us, ks.zip uz⟩ _ _ Q E hr ng e0 (d3 s us uz X (by rw [← r.length, ← rs.length]; exact hl.1) (by rw [← rz.length, ← rsz.length]; exact hl.2)) (asL r rz d1 srcs) ⟨c, rfl, rfl, _, ρ, vh, avX rs rsz (d2 c.hid H ρ) srcs, rh, o⟩
  · exact o.elim
end
section
variable {X : Cx} {U : WX} {k : Nat} {f : Addr} {ks : List Str} {F : FC} {c : Cn} {e : Expr} {es : List Expr} {kws : List Keyword} {pos p : Pos} {x : Str} {fa fk : FA}
theorem aF3 {pins : List (Addr × Obj)} {σ : L2.St} {H : Hp} {ρ : Rho} {vh : VH} {s : Shared} {Q : VK} {us uz : List Value} {vs zs : List V} {ws wz : List W} (G : FnC X.prog X.w X.K X.mg X.base k f ks F) (hr : Room k X.A) (ng : NoGuard X.A) (tk : Takes X U) (hc : c.K = X.K) (hcm : c.mg = X.mg)
    (I : L2.Inv X pins σ H s) (r : Vals vs us) (rz : Vals zs uz) (rs : RelWs c H ρ ws vs) (rsz : RelWs c H ρ wz zs) (rh : RelH c H ρ vh) (o : Out c σ H ρ U (F ws wz vh) (KW c Q)) :
    wpAny (model X.prog X.w) X.A (call (.ref f) us (ks.zip uz)) (EP X pins σ Q) X.xe s := by
  refine wpAny_call (codeAny_mono (G.go X.A X.stack s H us uz vs zs Q (WE U σ) hr ng I.env0 r rz ⟨c, hc, hcm, ws, wz, ρ, vh, rs, rsz, rh, o.sigma (τ := []) fun _ _ _ h => h⟩) fun r s' hq => ?_)
  cases r with
  | error e => exact passAt tk σ pins H s e s' I hq
  | ok fl => cases fl with
    | ret u => exact I.after hq
    | next => exact hq.elim
    | brk => exact hq.elim
    | cont => exact hq.elim
def yU (F : FC) (fa fk : FA) : FE := fun e vh => bnd (fa e vh) fun ws vh1 => bnd (fk e vh1) fun zs vh2 => F ws zs vh2
@[simp] theorem ae4 {e : Env} {vh : VH} : yU F fa fk e vh = bnd (fa e vh) fun ws vh1 => bnd (fk e vh1) fun zs vh2 => F ws zs vh2 := rfl
@[simp] theorem aFn {n m : Nat} {srcs : List Src} {dws : List W} {F : FN} {ws zs : List W} {vh : VH} : aBR n m srcs dws F ws zs vh = ak9 ws.length zs.length n m (F (agF ws zs dws srcs) vh) := rfl
/-- f(e, .., k = v, ..) -/
theorem aa1 (hc : c.K = X.K) (hcm : c.mg = X.mg) (G : FnC X.prog X.w X.K X.mg X.base k f ks F) (hr : Room k X.A) (ng : NoGuard X.A) (tk : Takes X U) (hg : Gl X x) (hm : X.mg x = some (.ref f)) (hk : PySem.W.keepIn X.K (.ref f) = true)
    (ha : PA X (e :: es) (tMA c U fa)) (hkw : PK X kws (tMA c U fk))
    (hall : (backToKw pos (keywordEach kws X.env)).all (·.1.isSome) = true := by rfl) (hks : (backToKw pos (keywordEach kws X.env)).filterMap (·.1) = ks := by rfl)
    (hdb : (x == ("__debug__" : Str)) = false := by decide) (he : starEach (e :: es) X.env = (false, eval e X.env) :: starEach es X.env := by rfl)
    (hpl : ((backTo pos (starEach (e :: es) X.env)).any (·.1) || (backToKw pos (keywordEach kws X.env)).any (·.1.isNone)) = false := by rfl) :
    PE X (.Call (.Name x p) (e :: es) kws pos) (tM c U (yU F fa fk)) := by
  refine ⟨fun pins s σ H Q I ⟨en, ρ, vh, hE, hh, h⟩ => wpAny_Call_Name_kw (ld_glob I hg hm ?_ hdb)⟩
  refine PySem.W.callWith_KW (h₀ := X.base) I.ok.mod.kin hk hall (thn (ha.run pos pins s σ H _ I (apF hE hh h)) fun us s1 ⟨vs, H1, I1, r, ws, vh1, ρ1, rs, A, g1, f1⟩ => ?_) hpl he
  refine thn (hkw.run pos pins s1 σ H1 _ I1 (apF A.re A.rh A.out)) fun uz s2 ⟨zs, H2, I2, rz, wz, vh2, ρ2, rs2, B, g2, f2⟩ => ⟨I2.kIn, ?_⟩
  rw [hks]
  exact aF3 G hr ng tk hc hcm I2 r rz (rs.stay g2 f2) rs2 B.rh B.out
/-- the items of a list or tuple, as arguments -/
def aGE (vh : VH) (w : W) : Option (List W) := (see vh w).bind fun x => (af0 x).map (·.map .d)
def aJs (f : FE) (g : FA) : FA := fun e vh => bnd (f e vh) fun w vh1 => opt (aGE vh1 w) fun us => bnd (g e vh1) fun ws vh2 => .ok (us ++ ws) vh2
def aEP (f : FE) : FA := fun e vh => bnd (f e vh) fun w vh1 => opt (aGE vh1 w) fun us => .ok us vh1
end

/-! ### a def with *names -/
def aHO (ws : List W) : Option (List D) := rH ws
/-- np parameters, the rest a new tuple -/
def aIj (np : Nat) (F : FN) : FC := fun ws zs vh => if np ≤ ws.length ∧ zs.length = 0 then opt (rH (ws.drop np)) fun ds => sizeOk ds.length (F (ws.take np ++ [.d (.tup ds)]) vh) else .stuck
section
variable {P : Program} {w : World} {K : PySem.W.Frag} {mg : Str → Option Value} {base : Heap} {k : Nat} {f : Addr} {fd : FuncData} {x qual pv : Str} {st : Stmt} {ps N : List Str}
theorem RelWs.take {c : Cn} {H : Hp} {ρ : Rho} : ∀ {xs : List W} {vs : List V} (n : Nat), RelWs c H ρ xs vs → RelWs c H ρ (xs.take n) (vs.take n)
  | [], [], n, _ => by simp; trivial
  | _ :: _, _ :: _, 0, _ => trivial
  | _ :: _, _ :: _, n + 1, ⟨h, t⟩ => ⟨h, RelWs.take n t⟩
theorem RelWs.drop {c : Cn} {H : Hp} {ρ : Rho} : ∀ {xs : List W} {vs : List V} (n : Nat), RelWs c H ρ xs vs → RelWs c H ρ (xs.drop n) (vs.drop n)
  | [], [], n, _ => by simp; trivial
  | _ :: _, _ :: _, 0, h => h
  | _ :: _, _ :: _, n + 1, ⟨_, t⟩ => RelWs.drop n t
end
end Mn

namespace Mn
open PySem PySem.Spec PyProof.Rows L2
variable [TabList]

/-! ### methods -/
/-- o.m(..): the class tells the def -/
def aC6 (m : Str) (l : List Str) (r : Res W) : Res W := if m ∈ l then .stuck else r
def aGm (tbl : List (Str × FC)) (m : Str) (fo : FE) (fa : FA) : FE := fun e vh => bnd (fo e vh) fun w vh1 => opt (ajL vh1 w) fun p => opt (tbl.lookup p.1) fun F => aC6 m p.2 (bnd (fa e vh1) fun ws vh2 => F (w :: ws) [] vh2)
@[simp] theorem aCK {tbl : List (Str × FC)} {m : Str} {fo : FE} {fa : FA} {e : Env} {vh : VH} : aGm tbl m fo fa e vh = bnd (fo e vh) fun w vh1 => opt (ajL vh1 w) fun p => opt (tbl.lookup p.1) fun F => aC6 m p.2 (bnd (fa e vh1) fun ws vh2 => F (w :: ws) [] vh2) := rfl
@[simp] theorem aDM {ns : List Str} {f : Str} {fo : FE} {e : Env} {vh : VH} : aHS ns f fo e vh = bnd (fo e vh) fun w vh1 => opt (aEA vh1 ns f w) fun z => .ok z vh1 := rfl
def MEv (X : Cx) (k : Nat) (m n : Str) (F : FC) : Prop := ∃ (C f : Addr), X.mg n = some (.ref C) ∧ Cls X.K C ∧ Meth X.K C m f ∧ FnC X.prog X.w X.K X.mg X.base k f [] F
def MOk (X : Cx) (k : Nat) (m : Str) (tbl : List (Str × FC)) : Prop := ∀ n F, tbl.lookup n = some F → MEv X k m n F
theorem MOk.nil {X : Cx} {k : Nat} {m : Str} : MOk X k m [] := fun _ _ h => nomatch h
theorem MEv.mono {X : Cx} {j k : Nat} {m n : Str} {F : FC} (h : MEv X j m n F) (l : j ≤ k) : MEv X k m n F :=
  let ⟨C, f, h1, h2, h3, h4⟩ := h
  ⟨C, f, h1, h2, h3, h4.mono l⟩
theorem MOk.cons {X : Cx} {k : Nat} {m n : Str} {F : FC} {tbl : List (Str × FC)} (h : MEv X k m n F) (t : MOk X k m tbl) : MOk X k m ((n, F) :: tbl) := fun x G e => by
  rw [List.lookup_cons] at e
  cases q : x == n with
  | true => rw [q] at e; cases e; rw [beq_iff_eq.mp q]; exact h
  | false => rw [q] at e; exact t x G e
section
variable {X : Cx} {U : WX} {c : Cn} {k : Nat} {m : Str} {tbl : List (Str × FC)} {e o : Expr} {es : List Expr} {fo : FE} {fa : FA} {pos apos p : Pos} {pl : Sem Bool}
end

/-! ### C(..) -/
/-- attributes as data -/
def aIM (n : Nat) (vh : VH) : W → Option D
  | .d x => some x
  | .ref j => if j < n then none else match vh[j]? with
    | some (.lst ds) => some (.lst ds)
    | some (.dic t kvs) => some (.dic t kvs)
    | _ => none
def aGf (n : Nat) (vh : VH) : List (Str × W) → Option (List (Str × D))
  | [] => some []
  | (f, w) :: r => match aIM n vh w, aGf n vh r with
    | some x, some xs => some ((f, x) :: xs)
    | _, _ => none
def aEH (n : Nat) (vh : VH) (r : Res W) : Res W := if n ≤ vh.length ∧ anO n vh = true then r else .stuck
def aDu (fz : Bool) (n : Nat) (r : Res W) : Res W := match r with
  | .ok (.d .non) vh2 => if fz = true then match vh2[n]? with
    | some (.ins c fs) => opt (aGf n vh2 fs) fun gs => aEH n vh2 (.ok (.d (.ins c gs)) (vh2.take n))
    | _ => .stuck else .ok (.ref n) vh2
  | .exn x vh2 => if n ≤ vh2.length ∧ anO n vh2 = true then .exn x (vh2.take n) else .stuck
  | _ => .stuck
def aCU (cn : Str) (fz : Bool) (F : FC) (fa fk : FA) : FE := fun e vh => bnd (fa e vh) fun ws vh1 => bnd (fk e vh1) fun zs vh2 => aDu fz vh2.length (F (.ref vh2.length :: ws) zs (vh2 ++ [.ins cn []]))
@[simp] theorem aB9 {cn : Str} {fz : Bool} {F : FC} {fa fk : FA} {e : Env} {vh : VH} : aCU cn fz F fa fk e vh = bnd (fa e vh) fun ws vh1 => bnd (fk e vh1) fun zs vh2 => aDu fz vh2.length (F (.ref vh2.length :: ws) zs (vh2 ++ [.ins cn []])) := rfl
section
variable {c : Cn} {H : Hp} {ρ : Rho} {vh : VH}
end
section
variable {X : Cx} {U : WX} {c : Cn} {k : Nat} {ks : List Str} {cn : Str} {fz : Bool} {F : FC} {e : Expr} {es : List Expr} {kws : List Keyword} {fa fk : FA} {pos p : Pos} {C f : Addr}
end
end Mn

namespace Mn
open PySem PySem.Spec PyProof.Rows L2
variable [TabList]

/-! ### the order of texts -/
def sLt (a b : Str) : Bool := decide (a.cps.toList < b.cps.toList)
/-! ### data in the order of their heads -/
def headD : D → Str
  | .str z => z
  | .tup (.str z :: _) => z
  | _ => ⟨#[]⟩
def aHK : D → Bool
  | .str _ => true
  | _ => false
def aCI : D → Bool
  | .tup (.str _ :: _) => true
  | _ => false
def aC4 {α : Type} (k : α → Str) (x : α) : List α → List α
  | [] => [x]
  | y :: r => if sLt (k y) (k x) = true then y :: aC4 k x r else x :: y :: r
def anR {α : Type} (k : α → Str) : List α → List α
  | [] => []
  | x :: r => aC4 k x (anR k r)
abbrev aH1 {α : Type} (k : α → Str) (l : List α) : Prop := l.Pairwise fun x y => sLt (k y) (k x) = false
/-! ### sorted(xs), a list of tuples that begin with texts, no two alike -/
def aIt (h : Heap) (v : Value) (z : Str) : Prop := ∃ (a : Addr) (o : Obj) (its : Array Value) (n : Nat) (t : Tok), v = .ref a ∧ h.get? a = some o ∧ o.cls = .type "tuple" ∧ o.data = .seq its n ∧ its[0]? = some (.str z t)
section
variable {prog : Program} {w : World} {A : Around} {E : Value → Shared → Prop} {s : Shared}
end
def aBu (K : PySem.W.Frag) : List V → Hp → VK → Prop := fun vs H Q => ∃ (a : Addr) (xs : List V) (k : V → Str), vs = [V.ref a] ∧ SqL K H a xs ∧ (∀ x ∈ xs, ∃ t ys, x = V.ref t ∧ SqT K H t (.str (k x) :: ys)) ∧ (∀ x ∈ xs, ∀ y ∈ xs, k x = k y → x = y) ∧
  ∀ ys p, aH1 k ys → ys.Perm xs → H p = none → Q (.ref p) (upd H p (.lst ys))
/-! ### sorted of data -/
def aA4 (x : Str) : Bool := decide (x.length ≤ sizeLine) && PyData.strOk x
def aHe : List D → Option D
  | [.lst ds] => match aeW ds with
    | some xs => if xs.length < 64 then some (.lst ((anR id xs).map .str)) else none
    | none => if ds.all aCI = true ∧ (ds.map headD).Nodup then some (.lst (anR headD ds)) else none
  | [.dic false kvs] => match aeW (kvs.map (·.1)) with
    | some xs => if xs.length < 64 ∧ xs.all aA4 = true then some (.lst ((anR id xs).map .str)) else none
    | none => none
  | [.fdc false kvs] => match aeW (kvs.map (·.1)) with
    | some xs => if xs.length < 64 ∧ xs.all aA4 = true then some (.lst ((anR id xs).map .str)) else none
    | none => none
  | _ => none
def aH4 (K : PySem.W.Frag) : List V → Hp → VK → Prop := fun xs H Q => rSortedS K xs H Q ∨ aBu K xs H Q ∨
  (∃ (a : Addr) (kvs : List (Key × V)) (ks : List Str), xs = [.ref a] ∧ Rd H a (.dK kvs) ∧ kvs.map (·.1) = ks.map Sum.inr ∧ ks.length < 64 ∧ ∀ ys p, ys.Perm ks → sortedS ys = true → H p = none → Q (.ref p) (upd H p (.lst (ys.map V.str))))
theorem CallR.or {X : Cx} {v : Value} {r r' : List V → Hp → VK → Prop} (h : CallR X v r) (h' : CallR X v r') : CallR X v (fun xs H Q => r xs H Q ∨ r' xs H Q) := by
  intro pins s σ H xs us Q I rr q
  rcases q with q | q
  · exact h pins s σ H xs us Q I rr q
  · exact h' pins s σ H xs us Q I rr q
section
variable {c : Cn} {H : Hp} {ρ : Rho}
theorem RelDs.key {k : V → Str} : ∀ {ds : List D} {us : List V}, RelDs c H ρ ds us → (∀ d ∈ ds, ∀ v, RelD c H ρ d v → k v = headD d) → ds.map headD = us.map k
  | [], [], _, _ => rfl
  | d :: ds, v :: us, ⟨r, t⟩, h => by
    rw [List.map_cons, List.map_cons, h d List.mem_cons_self v r, RelDs.key t fun x hx => h x (List.mem_cons_of_mem _ hx)]
/-- the head of a value that stands in H -/
def aJS (H : Hp) : V → Str
  | .ref t => match H t with
    | some (.tup (.str z :: _)) => z
    | _ => ⟨#[]⟩
  | _ => ⟨#[]⟩
theorem aw5 {xs : List Str} (h : ∀ x ∈ xs, x.length ≤ sizeLine ∧ PyData.strOk x = true) : RelDs c H ρ (xs.map D.str) (xs.map V.str) := by
  induction xs with
  | nil => trivial
  | cons x xs ih => exact ⟨⟨rfl, h x List.mem_cons_self⟩, ih fun y hy => h y (List.mem_cons_of_mem _ hy)⟩
end
end Mn

namespace Mn
open PySem PySem.Spec PyProof.Rows L2
variable [TabList]

/-! ### repr of any data -/
def aC5 : D → Bool
  | .int i => decide (i.natAbs.log2 < 1920)
  | _ => true
def af3 : List D → Option D
  | [x] => match wN x with
    | some p => if (p.showable = true ∧ p.depth ≤ 60 ∧ p.weight ≤ 1048576 ∧ p.intsShort 13 = true) ∧ aC5 x = true then some (.str p.shown) else none
    | none => none
  | _ => none
def aFd : D → Bool
  | .str _ => true
  | .int _ => true
  | .bl _ => true
  | .non => true
  | _ => false
def aw9 : List V → Hp → VK → Prop := fun xs H Q => (∃ b, xs = [.bl b] ∧ Q (.str (PyData.bool b).shown) H) ∨ (xs = [.non] ∧ Q (.str PyData.none.shown) H) ∨ (∃ i, xs = [.int i] ∧ i.natAbs.log2 < 1920 ∧ Q (.str (PyData.int i).shown) H) ∨
  ∃ x, xs = [.str x] ∧ (PyData.str x).shown.length ≤ sizeLine ∧ Q (.str (PyData.str x).shown) H
theorem axG {X : Cx} : CallR X (.builtin "repr") aw9 := by
  intro pins s σ H xs us Q I r h
  rcases h with ⟨b, rfl, q⟩ | ⟨rfl, q⟩ | ⟨i, rfl, hz, q⟩ | ⟨x, rfl, hz, q⟩
  · obtain ⟨u, rfl, ru⟩ := vals1 r
    cases ru
    refine PySem.P.repr_of_bool ⟨.str _, H, I.tok _, ⟨_, rfl⟩, ?_⟩
    rw [PyData.shown_bool] at q
    first | exact q | (cases b <;> exact q)
  · obtain ⟨u, rfl, ru⟩ := vals1 r
    cases ru
    refine PySem.P.repr_of_none ⟨.str _, H, I.tok _, ⟨_, rfl⟩, ?_⟩
    rw [PyData.shown_none] at q
    exact q
  · obtain ⟨u, rfl, ru⟩ := vals1 r
    obtain ⟨t, rfl⟩ := ru
    refine PySem.P.repr_of_int hz ⟨.str _, H, I.tok _, ⟨_, rfl⟩, ?_⟩
    rw [PyData.shown_int] at q
    exact q
  · obtain ⟨u, rfl, ru⟩ := vals1 r
    obtain ⟨t, rfl⟩ := ru
    rw [PyData.shown_str] at hz q
    exact PySem.P.repr_of_str ⟨.str _, H, I.tok _, ⟨_, rfl⟩, q⟩ hz
theorem aqB {X : Cx} (hr : X.A.units + 64 < cLine) (ng : NoGuard X.A) : CallR X (.builtin "repr") (fun xs H Q => av4 X.K xs H Q ∨ aw9 xs H Q) := CallR.or (axV hr ng) axG
theorem azQ {c : Cn} : an2 c (fun xs H Q => av4 c.K xs H Q ∨ aw9 xs H Q) af3 := fun H ρ xs vs z Q fr rs e k => by
  match xs, rs, e with
  | [x], rs, e =>
    obtain ⟨v, rfl, r⟩ := rs.one
    by_cases hf : aFd x = true
    · simp only [af3] at e
      split at e
      · rename_i p hp
        split at e
        · rename_i hc
          obtain ⟨⟨h1, h2, h3, h4⟩, h5⟩ := hc
          cases e
          obtain ⟨a1, a2⟩ := awI r hp
          have lay : PyData.layable0 p = true := by
            unfold PyData.layable0
            rw [a2, decide_eq_true (show p.depth ≤ 64 by omega), decide_eq_true (show p.weight ≤ 2 ^ 20 from h3)]
            rfl
          have hz := PyData.shown_fits_of_layable0 (B := 13) (by omega) (by omega) lay h4
          have kk := k (.str p.shown) H (Same.refl H) ⟨rfl, hz, agS a2⟩
          refine .inr ?_
          cases x with
          | bl b => cases hp; cases r; exact .inl ⟨b, rfl, kk⟩
          | non => cases hp; cases r; exact .inr (.inl ⟨rfl, kk⟩)
          | int i =>
            cases hp; cases r
            exact .inr (.inr (.inl ⟨i, rfl, of_decide_eq_true h5, kk⟩))
          | str y => cases hp; obtain ⟨rfl, _⟩ := r; exact .inr (.inr (.inr ⟨y, rfl, hz, kk⟩))
          | _ => cases hf
        · cases e
      · cases e
    · refine .inl (aCJ H ρ [x] [v] z Q fr rs ?_ k)
      cases x <;> first | exact absurd rfl hf | (simp only [af3, aC5, and_true] at e; simp only [aBv]; exact e) | (exfalso; simp [af3, wN] at e; done)

/-! ### list(d.values()) -/
def aGV : D → Option D
  | .dic _ kvs => some (.lst (kvs.map (·.2)))
  | _ => none
def aJL : V → Hp → VK → Prop := fun x H Q => ∃ (d : Addr) (kvs : List (Key × V)), x = .ref d ∧ H d = some (.dK kvs) ∧ ∀ p, H p = none → Q (.ref p) (upd H p (.lst (kvs.map (·.2))))
section
variable {X : Cx} {e : Expr} {te : TE} {p apos cpos pos : Pos}
end
section
variable {X : Cx} {U : WX} {c : Cn} {e : Expr} {f : FE} {p apos cpos pos : Pos}
def aBM : D → Option D
  | .dic false kvs => if kvs.length ≤ sizeLine then some (.lst (kvs.map (·.2))) else none
  | _ => none
end
end Mn

namespace Mn
open PySem PySem.Spec PyProof.Rows L2
variable [TabList]

/-! ### enumerate(list) -/
def an9 : Nat → List D → List D
  | _, [] => []
  | i, d :: ds => .tup [.int (i : Nat), d] :: an9 (i + 1) ds
def aFB (f : FE) : FI := fun e vh => bnd (f e vh) fun w vh1 => match w with
  | .d (.lst ds) => .ok (an9 0 ds) vh1
  | _ => .stuck
def aDh (w : W) (vh : VH) : Res (List D) := match w with
  | .d (.lst ds) => .ok (an9 0 ds) vh
  | _ => .stuck
@[simp] theorem aEW {ds : List D} {vh : VH} : aDh (.d (.lst ds)) vh = .ok (an9 0 ds) vh := rfl
@[simp] theorem aHi {f : FE} {e : Env} {vh : VH} : aFB f e vh = bnd (f e vh) aDh := rfl
section
variable {X : Cx} {c : Cn} {U : WX} {pos p tpos : Pos} {elts : List Expr} {kk : Nat} {a : Expr} {f : FE}
end

/-! ### new dicts -/
/-- {}: it will change; t: its keys will be tuples -/
def aFJ (t : Bool) : FE := fun _ vh => .ok (.ref vh.length) (vh ++ [.dic t []])
@[simp] theorem aHc {t : Bool} {e : Env} {vh : VH} : aFJ t e vh = .ok (.ref vh.length) (vh ++ [.dic t []]) := rfl
/-- {}: it stays -/
def aE3 (t : Bool) : FE := fun _ vh => .ok (.d (.dic t [])) vh
@[simp] theorem aHa {t : Bool} {e : Env} {vh : VH} : aE3 t e vh = .ok (.d (.dic t [])) vh := rfl
section
variable {X : Cx} {c : Cn} {U : WX} {pos : Pos}
end

/-! ### dict comprehensions -/
def auI (A : FTg) (t : FT) (fk fv : FE) (e : Env) : List D → VH → List (D × D) → Res (List (D × D))
  | [], vh, acc => .ok acc vh
  | d :: ds, vh, acc => match A d e with
    | none => .stuck
    | some e' => match t e' vh with
      | .ok true vh1 => match fk e' vh1 with
        | .ok (.d k) vh2 => match fv e' vh2 with
          | .ok (.d v) vh3 => match wM k with
            | some key => if acc.length < sizeLine then auI A t fk fv e ds vh3 (as8 acc key k v) else .stuck
            | none => .stuck
          | _ => .stuck
        | _ => .stuck
      | .ok false vh1 => auI A t fk fv e ds vh1 acc
      | _ => .stuck
def dcR (mm : Bool) (r : Res (List (D × D))) : Res W := match r with
  | .ok kvs vh2 => if mm then .ok (.ref vh2.length) (vh2 ++ [.dic false kvs]) else .ok (.d (.dic false kvs)) vh2
  | _ => .stuck
def mDc (mm : Bool) (fi : FI) (A : FTg) (t : FT) (fk fv : FE) (vs : List Nat) : FE := fun e vh => bnd (fi e vh) fun ds vh1 => dcR mm (auI A t fk fv (lE e vs) ds vh1 [])
@[simp] theorem aJI {mm : Bool} {fi : FI} {A : FTg} {t : FT} {fk fv : FE} {vs : List Nat} {e : Env} {vh : VH} : mDc mm fi A t fk fv vs e vh = bnd (fi e vh) fun ds vh1 => dcR mm (auI A t fk fv (lE e vs) ds vh1 []) := rfl
@[simp] theorem aIO {kvs : List (D × D)} {vh : VH} : dcR false (.ok kvs vh) = .ok (.d (.dic false kvs)) vh := rfl
@[simp] theorem aJd {kvs : List (D × D)} {vh : VH} : dcR true (.ok kvs vh) = .ok (.ref vh.length) (vh ++ [.dic false kvs]) := rfl
section
variable {X : Cx} {c : Cn} {U : WX} {pos : Pos}
end
end Mn

namespace Mn
open PySem PySem.Spec PyProof.Rows L2
variable [TabList]

/-! ### own methods behind in, len, [], repr, ==, () -/
/-- the special method m of the class n -/
def SEv (X : Cx) (k : Nat) (m n : Str) (F : FC) : Prop := ∃ (C f : Addr), X.mg n = some (.ref C) ∧ Cls X.K C ∧ PySem.W.findIn X.K (.ref C) m = some (some (.ref f)) ∧ PySem.W.isFn X.K (.ref f) = true ∧ PySem.W.fnIn X.K f = true ∧ FnC X.prog X.w X.K X.mg X.base k f [] F
def SOk (X : Cx) (k : Nat) (m : Str) (tbl : List (Str × FC)) : Prop := ∀ n F, tbl.lookup n = some F → SEv X k m n F
theorem SOk.nil {X : Cx} {k : Nat} {m : Str} : SOk X k m [] := fun _ _ h => nomatch h
theorem SEv.mono {X : Cx} {j k : Nat} {m n : Str} {F : FC} (h : SEv X j m n F) (l : j ≤ k) : SEv X k m n F :=
  let ⟨C, f, h1, h2, h3, h4, h5, h6⟩ := h
  ⟨C, f, h1, h2, h3, h4, h5, h6.mono l⟩
theorem SOk.cons {X : Cx} {k : Nat} {m n : Str} {F : FC} {tbl : List (Str × FC)} (h : SEv X k m n F) (t : SOk X k m tbl) : SOk X k m ((n, F) :: tbl) := fun x G e => by
  rw [List.lookup_cons] at e
  cases q : x == n with
  | true => rw [q] at e; cases e; rw [beq_iff_eq.mp q]; exact h
  | false => rw [q] at e; exact t x G e
/-- the own method is called: o the object, ws the other values -/
def aiT (tbl : List (Str × FC)) (vh : VH) (w : W) (ws : List W) (k : W → VH → Res W) : Res W := opt (ajL vh w) fun p => opt (tbl.lookup p.1) fun F => bnd (F (w :: ws) [] vh) k
def an3 (n : Bool) (w : W) (vh : VH) : Res W := match w with
  | .d (.bl b) => .ok (.d (.bl (if n then !b else b))) vh
  | _ => .stuck
@[simp] theorem aHq {n b : Bool} {vh : VH} : an3 n (.d (.bl b)) vh = .ok (.d (.bl (if n then !b else b))) vh := rfl
def aFH (w : W) (vh : VH) : Res W := match w with
  | .d (.int i) => if 0 ≤ i ∧ i < 2 ^ 63 then .ok (.d (.int i)) vh else .stuck
  | _ => .stuck
def aFT (w : W) (vh : VH) : Res W := match w with
  | .d (.str z) => .ok (.d (.str z)) vh
  | _ => .stuck
def aHH (tbl : List (Str × FC)) (n : Bool) (fa fb : FE) : FE := fun e vh => bnd (fa e vh) fun w1 vh1 => bnd (fb e vh1) fun w2 vh2 => aiT tbl vh2 w2 [w1] (an3 n)
def aF4 (tbl : List (Str × FC)) (fa : FE) : FE := fun e vh => bnd (fa e vh) fun w vh1 => aiT tbl vh1 w [] aFH
def aDX (tbl : List (Str × FC)) (fa : FE) : FE := fun e vh => bnd (fa e vh) fun w vh1 => aiT tbl vh1 w [] aFT
def aFP (tbl : List (Str × FC)) (fa fb : FE) : FE := fun e vh => bnd (fa e vh) fun w1 vh1 => bnd (fb e vh1) fun w2 vh2 => aiT tbl vh2 w1 [w2] fun w vh => .ok w vh
def aEf (tbl : List (Str × FC)) (fo : FE) (fa : FA) : FE := fun e vh => bnd (fo e vh) fun w vh1 => bnd (fa e vh1) fun ws vh2 => aiT tbl vh2 w ws fun w vh => .ok w vh
section
variable {tbl : List (Str × FC)} {n : Bool} {fa fb : FE} {ga : FA} {e : Env} {vh : VH}
@[simp] theorem aIb : aHH tbl n fa fb e vh = bnd (fa e vh) fun w1 vh1 => bnd (fb e vh1) fun w2 vh2 => aiT tbl vh2 w2 [w1] (an3 n) := rfl
@[simp] theorem aGP : aF4 tbl fa e vh = bnd (fa e vh) fun w vh1 => aiT tbl vh1 w [] aFH := rfl
@[simp] theorem aFm : aDX tbl fa e vh = bnd (fa e vh) fun w vh1 => aiT tbl vh1 w [] aFT := rfl
@[simp] theorem aHp : aFP tbl fa fb e vh = bnd (fa e vh) fun w1 vh1 => bnd (fb e vh1) fun w2 vh2 => aiT tbl vh2 w1 [w2] fun w vh => .ok w vh := rfl
@[simp] theorem aFv : aEf tbl fa ga e vh = bnd (fa e vh) fun w vh1 => bnd (ga e vh1) fun ws vh2 => aiT tbl vh2 w ws fun w vh => .ok w vh := rfl
end
section
variable {X : Cx} {U : WX} {c : Cn} {k : Nat} {tbl : List (Str × FC)} {m : Str} {a b e : Expr} {es : List Expr} {fa fb : FE} {ga : FA} {pos p : Pos}
end
end Mn

namespace Mn
open PySem PySem.Spec PyProof.Rows L2
variable [TabList]

/-! ### what the generator's text is over -/
structure KClass (K : PySem.W.Frag) (mg : Str → Option Value) (n : Str) (C : Addr) : Prop where
  m : mg n = some (.ref C)
  cls : Cls K C
structure GFun (K : PySem.W.Frag) (mg : Str → Option Value) (x : Str) (st : Stmt) (dd : List D) (kd : List (Str × D)) (f : Addr) (fd : FuncData) : Prop where
  df : GDf K mg x x st dd kd f fd
  m : mg x = some (.ref f)
structure GMth (K : PySem.W.Frag) (mg : Str → Option Value) (x qual : Str) (st : Stmt) (dd : List D) (kd : List (Str × D)) (C f : Addr) (fd : FuncData) : Prop where
  df : GDf K mg x qual st dd kd f fd
  mt : Meth K C x f
  fi : PySem.W.fnIn K f = true
structure GSta (K : PySem.W.Frag) (mg : Str → Option Value) (cl x qual : Str) (st : Stmt) (dd : List D) (kd : List (Str × D)) (f : Addr) (fd : FuncData) : Prop where
  df : GDf K mg x qual st dd kd f fd
  S : SMet K mg cl x f
section
variable {K : PySem.W.Frag} {mg : Str → Option Value} {h : Heap} {x qual cl : Str} {st : Stmt} {f C p : Addr} {oc : Value} {od an : Option Addr} {osl : Array (Option Value)} {dV kV doc pm cdv ct : Value} {dd : List D} {kd : List (Str × D)}
theorem jJ : aBV K mg .none [] := rfl
theorem jL : aAI K mg kV [] := trivial
theorem jQ (l : K.lookup f = some ⟨oc, od, .func (PySem.W.fnOf x qual (defArgs st) (defBody st) (defScope st) dV kV doc pm an cdv ct), osl⟩) (c : PySem.W.codeIn K cdv qual = true) (k : PySem.W.keepIn K (.ref f) = true) (p1 : aBV K mg dV dd) (p2 : aAI K mg kV kd) :
    GDf K mg x qual st dd kd f (PySem.W.fnOf x qual (defArgs st) (defBody st) (defScope st) dV kV doc pm an cdv ct) := ⟨⟨oc, od, dV, kV, doc, pm, an, cdv, ct, osl, rfl, l, c, p1, p2⟩, k⟩
theorem ahO {fd : FuncData} (X : K.In h) (G : h.Ns mainGlobals mg) (a : PySem.W.nsIn K mainGlobals x = some (some (.ref f))) (D : GDf K mg x x st dd kd f fd) : GFun K mg x st dd kd f fd := ⟨D, PySem.W.mg_of X G a⟩
end
section
variable {X : Cx} {k : Nat} {n x qual : Str} {st : Stmt} {dd : List D} {kd : List (Str × D)} {C f : Addr} {fd : FuncData} {F : FC}
end
/-- no defaults, no keywords -/
def sJ (n : Nat) (F : FN) : FC := fun ws zs vh => ak9 ws.length zs.length n 0 (F ws vh)
@[simp] theorem aGe {n : Nat} {F : FN} {ws zs : List W} {vh : VH} : sJ n F ws zs vh = ak9 ws.length zs.length n 0 (F ws vh) := rfl
section
variable {P : Program} {w : World} {K : PySem.W.Frag} {mg : Str → Option Value} {base : Heap} {k : Nat} {f : Addr} {x qual : Str} {st : Stmt} {kd : List (Str × D)} {fd : FuncData} {ps : List Str} {F : FN} {n : Nat}
theorem FnC.pos (G : FnG P w K mg base k f fd ps F) (D : GDf K mg x qual st [] kd f fd) (h : ∀ (kV doc pm : Value) (an : Option Addr) (cdv ct : Value) (us : List Value), us.length = n → bindArgs (PySem.W.fnOf x qual (defArgs st) (defBody st) (defScope st) .none kV doc pm an cdv ct) ⟨us, []⟩ = pure (ps.zip us)) :
    FnC P w K mg base k f [] (sJ n F) := by
  obtain ⟨oc, od, dV, kV, doc, pm, an, cdv, ct, osl, rfl, lk, hcd, p1, _⟩ := D.ex
  cases p1
  refine ⟨fun A outer s H us uz vs zs Q E hr ng e0 r rz h2 => ?_⟩
  obtain ⟨c, rfl, rfl, ws, wz, ρ, vh, rs, rsz, rh, o⟩ := h2
  unfold sJ ak9 at o
  split at o
  · rename_i hl
    have l1 : us.length = n := by rw [← r.length, ← rs.length]; exact hl.1
    obtain rfl : uz = [] := List.length_eq_zero_iff.mp (by rw [← rz.length, ← rsz.length]; exact hl.2)
    exact G.go A outer s H ⟨us, []⟩ us vs Q E hr ng e0 (.of_eq (h _ _ _ _ _ _ us l1)) r ⟨c, rfl, rfl, ws, ρ, vh, rs, rh, o⟩
  · exact o.elim
end
end Mn

namespace Mn
open PySem PySem.Spec PyProof.Rows L2
variable [TabList]

/-! ### slots that are forgotten behind a statement -/
def auC (is : List Nat) : RS → RS
  | .nx e vh => .nx (lE e is) vh
  | .ct e vh => .ct (lE e is) vh
  | .bk e vh => .bk (lE e is) vh
  | r => r
def aBP (is : List Nat) (f : FS) : FS := fun e vh => auC is (f e vh)
section
variable {c : Cn} {U : WX} {X : Cx}
theorem RelE.none1 {H : Hp} {ρ : Rho} : ∀ {e : Env} {σ : L2.St} (i : Nat), RelE c H ρ e σ → RelE c H ρ (e.set i none) σ
  | [], [], _, _ => trivial
  | some _ :: e, some v :: σ, 0, ⟨_, t⟩ => t
  | none :: e, _ :: σ, 0, t => t
  | some _ :: e, some _ :: σ, i + 1, ⟨h, t⟩ => ⟨h, RelE.none1 i t⟩
  | none :: e, _ :: σ, i + 1, t => RelE.none1 (e := e) (σ := σ) i t
theorem RelE.fgt {H : Hp} {ρ : Rho} {σ : L2.St} : ∀ {e : Env} (is : List Nat), RelE c H ρ e σ → RelE c H ρ (lE e is) σ
  | _, [], h => h
  | e, i :: is, h => RelE.none1 i (RelE.fgt is h)
theorem aCp {H : Hp} {ρ : Rho} {is : List Nat} {r : RS} {D : Ends} (h : OutS c H ρ U (auC is r) D) : OutS c H ρ U r D := by
  cases r with
  | nx e vh => exact fun σ' H' ρ' g f re rh => h σ' H' ρ' g f (re.fgt is) rh
  | bk e vh => exact fun σ' H' ρ' g f re rh => h σ' H' ρ' g f (re.fgt is) rh
  | ct e vh => exact fun σ' H' ρ' g f re rh => h σ' H' ρ' g f (re.fgt is) rh
  | rt w vh => exact h
  | exn x e vh => exact h
  | stuck => exact h
theorem ayV {sts : List Stmt} {f : FS} (is : List Nat) (h : PSs X sts (tMS c U f)) : PSs X sts (tMS c U (aBP is f)) := auB h fun D σ H ⟨e, ρ, vh, he, hh, o⟩ => ⟨e, ρ, vh, he, hh, aCp o⟩
end
section
variable {e : Env} {vh : VH} {is : List Nat} {f : FS}
@[simp] theorem aBA : aBP is f e vh = auC is (f e vh) := rfl
@[simp] theorem ay8 : auC is (.nx e vh) = .nx (lE e is) vh := rfl
@[simp] theorem aHh : auC is (.ct e vh) = .ct (lE e is) vh := rfl
@[simp] theorem aHn : auC is (.bk e vh) = .bk (lE e is) vh := rfl
@[simp] theorem aHl {w : W} : auC is (.rt w vh) = .rt w vh := rfl
@[simp] theorem aFi {x : Exn} : auC is (.exn x e vh) = .exn x e vh := rfl
@[simp] theorem aEQ : auC is .stuck = .stuck := rfl
@[simp] theorem anS : lE e [] = e := rfl
@[simp] theorem ajC {i : Nat} {r : List Nat} : lE e (i :: r) = (lE e r).set i none := rfl
def aD8 (i j : Nat) (e : Env) (ws : List W) (vh : VH) : RS := match ws with
  | [w1, w2] => .nx ((e.set i (some w1)).set j (some w2)) vh
  | _ => .stuck
@[simp] theorem aAR {i j : Nat} {w1 w2 : W} : aD8 i j e [w1, w2] vh = .nx ((e.set i (some w1)).set j (some w2)) vh := rfl
@[simp] theorem aCT {i j : Nat} {fa : FA} : aDp i j fa e vh = lft (fa e vh) e (aD8 i j e) := by unfold aDp aD8; rfl
def aAG (i j l : Nat) (e : Env) (ws : List W) (vh : VH) : RS := match ws with
  | [w1, w2, w3] => .nx (((e.set i (some w1)).set j (some w2)).set l (some w3)) vh
  | _ => .stuck
@[simp] theorem aDa {i j l : Nat} {w1 w2 w3 : W} : aAG i j l e [w1, w2, w3] vh = .nx (((e.set i (some w1)).set j (some w2)).set l (some w3)) vh := rfl
@[simp] theorem aG1 {i j l : Nat} {fa : FA} : aCY i j l fa e vh = lft (fa e vh) e (aAG i j l e) := by unfold aCY aAG; rfl
def sfR (ns : List Str) (f : Str) (wv wo : W) (e : Env) (vh : VH) : RS := match wo with
  | .d _ => .stuck
  | .ref k => match vh[k]? with
    | some (.ins n fs) => if n ∈ ns ∧ fs.length < 1000 then .nx e (vh.set k (.ins n (aEd f wv fs))) else .stuck
    | _ => .stuck
@[simp] theorem aET {ns : List Str} {f : Str} {fo fv : FE} : ao3 ns f fo fv e vh = lft (fv e vh) e fun wv vh1 => lft (fo e vh1) e fun wo vh2 => sfR ns f wv wo e vh2 := by unfold ao3 sfR; rfl
@[simp] theorem aFM {α : Type} {us ws ds : List α} : agF us ws ds [] = [] := rfl
@[simp] theorem aEY {α : Type} {us ws ds : List α} {s : Src} {r : List Src} {x : α} (h : s.get us ws ds = some x) : agF us ws ds (s :: r) = x :: agF us ws ds r := by simp [agF, h]
@[simp] theorem aJy {α : Type} {us ws ds : List α} {i : Nat} : (Src.p i).get us ws ds = us[i]? := rfl
@[simp] theorem aJx {α : Type} {us ws ds : List α} {i : Nat} : (Src.k i).get us ws ds = ws[i]? := rfl
@[simp] theorem aI0 {α : Type} {us ws ds : List α} {i : Nat} : (Src.d i).get us ws ds = ds[i]? := rfl
end

/-! ### loops by a state -/
section
variable {F : FN} {vh : VH} {a b c d e f g h : W}
@[simp] theorem aGX : sJ 0 F [] [] vh = F [] vh := rfl
@[simp] theorem azK : sJ 1 F [a] [] vh = F [a] vh := rfl
@[simp] theorem ao6 : sJ 2 F [a, b] [] vh = F [a, b] vh := rfl
@[simp] theorem azS : sJ 3 F [a, b, c] [] vh = F [a, b, c] vh := rfl
@[simp] theorem aCS : sJ 4 F [a, b, c, d] [] vh = F [a, b, c, d] vh := rfl
@[simp] theorem aCv : sJ 5 F [a, b, c, d, e] [] vh = F [a, b, c, d, e] vh := rfl
@[simp] theorem aGY : sJ 6 F [a, b, c, d, e, f] [] vh = F [a, b, c, d, e, f] vh := rfl
@[simp] theorem aGM : sJ 7 F [a, b, c, d, e, f, g] [] vh = F [a, b, c, d, e, f, g] vh := rfl
@[simp] theorem aG8 : sJ 8 F [a, b, c, d, e, f, g, h] [] vh = F [a, b, c, d, e, f, g, h] vh := rfl
end
end Mn

namespace Mn
open PySem PySem.Spec PyProof.Rows L2
variable [TabList]

/-! ### facts about data, for the maths -/
section
variable {α : Type}
/-! ### dicts with texts as keys -/
/-- the pairs of a table -/
def prs (k : α → Str) (v : α → D) (l : List α) : List (D × D) := l.map fun a => (.str (k a), v a)
@[simp] theorem aG3 (k : α → Str) (v : α → D) (l : List α) : (prs k v l).length = l.length := by simp [prs]
@[simp] theorem aHb (k : α → Str) (v : α → D) (l : List α) : (prs k v l).map (·.1) = (l.map k).map .str := by simp [prs]
@[simp] theorem aHg (k : α → Str) (v : α → D) (l : List α) : (prs k v l).map (·.2) = l.map v := by simp [prs]
/-! ### sorted -/
end
/-! ### isinstance -/
section
variable {z : Str} {ds : List D} {b : Bool} {n : Str} {fs : List (Str × D)}
theorem amY {x : D} {S T : String} {b : Bool} (h : aeP x = some S) (k : kitB S T = some b) : auW [x, .ty T] = some (.bl b) := by simp only [auW, h, k]; rfl
@[simp] theorem aDc : auW [.str z, .ty "str"] = some (.bl true) := amY rfl (by decide +kernel)
@[simp] theorem aDn : auW [.tup ds, .ty "str"] = some (.bl false) := amY rfl (by decide +kernel)
@[simp] theorem aDm : auW [.tup ds, .ty "tuple"] = some (.bl true) := amY rfl (by decide +kernel)
@[simp] theorem aDk : auW [.str z, .ty "tuple"] = some (.bl false) := amY rfl (by decide +kernel)
@[simp] theorem aDj : auW [.non, .ty "str"] = some (.bl false) := amY rfl (by decide +kernel)
@[simp] theorem aDo : auW [.non, .ty "tuple"] = some (.bl false) := amY rfl (by decide +kernel)
end
end Mn

namespace Mn
open PySem PySem.Spec PyProof.Rows L2
variable [TabList]

/-! ### sets of texts: the entries hold the texts of l, each once -/
def aGC : Value → Str
  | .str x _ => x
  | _ => Str.empty
def aFe (w : World) (e : Int × Value) : Prop := ∃ x tk, e.2 = .str x tk ∧ e.1 = hashStr w x
abbrev aII (es : Array (Int × Value)) : List Str := es.toList.map fun e => aGC e.2
structure SetZ (w : World) (h : Heap) (a : Addr) (l : List Str) : Prop where
  ex : ∃ o es ep t, h.get? a = some o ∧ o.ExactSet ∧ o.data = .set es ep t ∧ (∀ e ∈ es.toList, aFe w e) ∧ (aII es).Perm l ∧
    t.fits es.size = true ∧ Ris t.place.toList ∧ (w.params.followText "set-order" = true ∨ t.led = true)
  nd : l.Nodup
  small : l.length < scanBound
/-- one text more -/
def aGD (l : List Str) (x : Str) : List Str := if x ∈ l then l else x :: l
section
variable {P : Program} {w : World} {A : Around} {E : Value → Shared → Prop} {s : Shared} {a : Addr} {l : List Str} {h h' : Heap}
theorem SetZ.at (R : SetZ w h a l) (k : ∀ o, h.get? a = some o → h'.get? a = some o) : SetZ w h' a l :=
  let ⟨⟨o, es, ep, t, ho, r⟩, nd, sm⟩ := R
  ⟨⟨o, es, ep, t, k o ho, r⟩, nd, sm⟩
/-! ### sorted -/
end

/-! ### as tracked things -/
def au0 (w : World) (a : Addr) (l : List Str) : HO := .ext fun h => SetZ w h a l
section
variable {X : Cx}
/-- sorted(found), found a set of texts -/
def aIp (w : World) : List V → Hp → VK → Prop := fun vs H Q => ∃ (a : Addr) (l : List Str), vs = [V.ref a] ∧ H a = some (au0 w a l) ∧ l.length < 64 ∧
  ∀ (xs : List Str) (p : Addr), xs.Perm l → sortedS xs = true → H p = none → Q (.ref p) (upd H p (.lst (xs.map V.str)))
end
end Mn

namespace Mn
open PySem PySem.Spec PyProof.Rows L2
variable [TabList]

/-! ### {e for x in xs if c}, e a text: what such a set owes -/
section
variable {X : Cx}
abbrev aHu (X : Cx) (sc : Scope) (z : Nat) : List (Str × Addr) := cellsFrom (z + 1) sc.names (cloFrom X.env.cells sc.names [])
def aJm (w : World) (wi : TI) (g : TG) (tt : TT) (te : TE) (vs : List Nat) : TE := fun σ H Q => wi σ H fun J Ha => ∀ D, Ha D = none → ∃ W : Nat → Nat → Hp → Prop, (∃ m, W 0 m (upd Ha D (au0 w D []))) ∧ ∀ i m Hb, W i m Hb →
  (J.stop i Hb ∧ Q (.ref D) Hb) ∨ (J.go i Hb ∧ ∃ Nx : Hp → Prop, (∀ Hc, Nx Hc → ∃ m', m' < m ∧ W (i + 1) m' Hc) ∧ ∀ x Hc, J.yld i Hb x Hc → g x (L2.wipe σ vs) Hc fun σ2 Hd => L2.wipe σ2 vs = L2.wipe σ vs ∧ tt σ2 Hd fun b He =>
    if b = true then te σ2 He fun y Hf => ∃ (z : Str) (l : List Str), y = .str z ∧ Hf D = some (au0 w D l) ∧ l.length + 1 < scanBound ∧ Nx (upd Hf D (au0 w D (aGD l z))) else Nx He)
end
end Mn

namespace Mn
open PySem PySem.Spec PyProof.Rows L2
variable [TabList]

/-! ### set(xs), xs a list of texts -/
def azY (xs : List Str) : List Str := xs.foldl aGD []
section
variable {P : Program} {w : World} {A : Around} {E : Value → Shared → Prop} {s : Shared}
abbrev aHt (w : World) : Obj := { cls := .type "set", dict := none, data := .set #[] 0 (.fresh 0 0 (!w.params.followText "set-order")) }
end
end Mn

namespace Mn
open PySem PySem.Spec PyProof.Rows L2
variable [TabList]

/-! ### sorted(set(xs)), sorted({e for x in xs if c}): texts -/
def aDd (zs : List Str) : List Str := anR id (azY zs)
def aF5 : D → Option D
  | .lst ds => match aeW ds with
    | some zs => if zs.length ≤ 1000 ∧ (azY zs).length < 64 then some (.lst ((aDd zs).map .str)) else none
    | none => none
  | _ => none
def aDr (r : Res (List D)) : Res W := match r with
  | .ok xs vh2 => match aeW xs with
    | some zs => if zs.length ≤ 1000 ∧ (azY zs).length < 64 then .ok (.d (.lst ((aDd zs).map .str))) vh2 else .stuck
    | none => .stuck
  | _ => .stuck
def aDY (fi : FI) (A : FTg) (t : FT) (f : FE) (vs : List Nat) : FE := fun e vh => bnd (fi e vh) fun ds vh1 => aDr (acC A t f (lE e vs) ds vh1)
@[simp] theorem aF1 {fi : FI} {A : FTg} {t : FT} {f : FE} {vs : List Nat} {e : Env} {vh : VH} : aDY fi A t f vs e vh = bnd (fi e vh) fun ds vh1 => aDr (acC A t f (lE e vs) ds vh1) := rfl
section
variable {X : Cx} {c : Cn} {U : WX} {H : Hp} {ρ : Rho}
def aJc (K : PySem.W.Frag) (w : World) : List V → Hp → VK → Prop := fun vs H Q => ∃ (a : Addr) (xs : List Str), vs = [V.ref a] ∧ SqL K H a (xs.map V.str) ∧ xs.length ≤ 1000 ∧ ∀ p, H p = none → Q (.ref p) (upd H p (au0 w p (azY xs)))
end
end Mn

namespace Mn
open PySem PySem.Spec PyProof.Rows L2
variable [TabList]

/-! ### zip of two lists, of two tuples -/
def aCk : D → Option (List D)
  | .tup ds => some ds
  | .ctp ds => some ds
  | _ => none
def awO (ds es : List D) : List D := (ds.zip es).map fun p => .tup [p.1, p.2]
def aCl (ws : List W) (vh : VH) : Res (List D) := match ws with
  | [.d (.lst ds), .d (.lst es)] => .ok (awO ds es) vh
  | [.d x, .d y] => match aCk x, aCk y with
    | some ds, some es => .ok (awO ds es) vh
    | _, _ => .stuck
  | _ => .stuck
def aIq (fa : FA) : FI := fun e vh => bnd (fa e vh) aCl
@[simp] theorem aIv {fa : FA} {e : Env} {vh : VH} : aIq fa e vh = bnd (fa e vh) aCl := rfl
@[simp] theorem aFu {ds es : List D} {vh : VH} : aCl [.d (.lst ds), .d (.lst es)] vh = .ok (awO ds es) vh := rfl
@[simp] theorem aGu {ds es : List D} {vh : VH} : aCl [.d (.tup ds), .d (.tup es)] vh = .ok (awO ds es) vh := rfl
section
variable {X : Cx} {c : Cn} {U : WX} {pos p tpos : Pos} {elts : List Expr} {kk : Nat} {a b : Expr} {fa : FA} {H : Hp} {ρ : Rho}
end
end Mn

namespace Mn
open PySem PySem.Spec PyProof.Rows L2
variable [TabList]

/-! ### [f for x in xs if t for y in ys if t1] -/
def aFb (xs : List D) (r : Res (List D)) : Res (List D) := match r with
  | .ok ys vh => .ok (xs ++ ys) vh
  | _ => .stuck
@[simp] theorem aGU {xs ys : List D} {vh : VH} : aFb xs (.ok ys vh) = .ok (xs ++ ys) vh := rfl
def atF (A : FTg) (t : FT) (fi1 : FI) (A1 : FTg) (t1 : FT) (f : FE) (vs1 : List Nat) (e : Env) : List D → VH → Res (List D)
  | [], vh => .ok [] vh
  | d :: ds, vh => match A d e with
    | none => .stuck
    | some e' => match t e' vh with
      | .ok false vh1 => atF A t fi1 A1 t1 f vs1 e ds vh1
      | .ok true vh1 => match fi1 e' vh1 with
        | .ok ds1 vh2 => match acC A1 t1 f (lE e' vs1) ds1 vh2 with
          | .ok xs vh3 => aFb xs (atF A t fi1 A1 t1 f vs1 e ds vh3)
          | _ => .stuck
        | _ => .stuck
      | _ => .stuck
def aHT (m : Bool) (fi : FI) (A : FTg) (t : FT) (fi1 : FI) (A1 : FTg) (t1 : FT) (f : FE) (vs vs1 : List Nat) : FE := fun e vh => bnd (fi e vh) fun ds vh1 => lcR m (atF A t fi1 A1 t1 f vs1 (lE e vs) ds vh1)
@[simp] theorem aHx {m : Bool} {fi : FI} {A : FTg} {t : FT} {fi1 : FI} {A1 : FTg} {t1 : FT} {f : FE} {vs vs1 : List Nat} {e : Env} {vh : VH} : aHT m fi A t fi1 A1 t1 f vs vs1 e vh = bnd (fi e vh) fun ds vh1 => lcR m (atF A t fi1 A1 t1 f vs1 (lE e vs) ds vh1) := rfl
section
variable {A A1 : FTg} {t t1 : FT} {fi1 : FI} {f : FE} {vs1 : List Nat} {e e' : Env} {d : D} {ds ds1 xs : List D} {vh vh1 vh2 vh3 : VH}
end
section
variable {X : Cx} {c : Cn} {U : WX} {pos : Pos}
def FmX (Dd : Addr) (H H' : Hp) (ρ : Rho) : Prop := ∀ b o, some b ∉ ρ → b ≠ Dd → H b = some o → H' b = some o ∨ ∃ ps more : Array Value, o = .tbl ps ∧ H' b = some (.tbl (ps ++ more))
theorem FmX.ex {Dd : Addr} {H H' : Hp} {ρ : Rho} (f : FmX Dd H H' ρ) {b : Addr} {o : HO} (n : some b ∉ ρ) (ne : b ≠ Dd) (z : H b = some o) : ∃ u, H' b = some u := (f b o n ne z).elim (fun e => ⟨_, e⟩) fun ⟨_, _, _, e⟩ => ⟨_, e⟩
theorem FmX.w {Dd : Addr} {H H' : Hp} {ρ : Rho} (f : FmX Dd H H' ρ) : Fw (c.hide Dd) H H' ρ := fun b o off z nt => (f b o off.1 (fun e => off.2 (by rw [e]; exact List.mem_cons_self)) z).elim id fun ⟨ps, _, e, _⟩ => (nt ps e).elim
theorem FmX.of {Dd : Addr} {H H' : Hp} {ρ : Rho} (f : Fm H H' ρ) : FmX Dd H H' ρ := fun b o n _ z => f.1 b o n z
theorem FmX.trans {Dd : Addr} {H H1 H2 : Hp} {ρ ρ1 : Rho} (g : Grow ρ H ρ1) (f : FmX Dd H H1 ρ) (f2 : FmX Dd H1 H2 ρ1) : FmX Dd H H2 ρ := fun b o n ne z => by
  have n1 : some b ∉ ρ1 := fun m => (g.new b m).elim n fun e => by rw [e] at z; cases z
  rcases f b o n ne z with e | ⟨ps, m1, rfl, e⟩
  · exact f2 b o n1 ne e
  · rcases f2 b _ n1 ne e with e2 | ⟨qs, m2, q, e2⟩
    · exact .inr ⟨ps, m1, rfl, e2⟩
    · cases q
      exact .inr ⟨ps, m1 ++ m2, rfl, by rw [e2, Array.append_assoc]⟩
theorem FmX.upd {Dd : Addr} {H : Hp} {ρ : Rho} {o : HO} : FmX Dd H (upd H Dd o) ρ := fun b u _ ne z => .inl (by rw [upd_ne ne]; exact z)
end
end Mn

namespace Mn
open PySem PySem.Spec PyProof.Rows L2
variable [TabList]

/-! ### {**d, k: v}, the dicts -/
section
variable {prog : Program} {w : World} {K : Type} [DecidableEq K] {knd : PySem.KeyKind prog w K} {A : Around} {E : Value → Shared → Prop} {s : Shared}
end
section
variable {X : Cx} {e k v : Expr} {te tk tv : TE} {pos : Pos}
def aIk (te tk tv : TE) : TE := fun σ H Q => ∀ D, H D = none → te σ (upd H D (.dK [])) fun x H1 => ∃ a kvs, x = .ref a ∧ a ≠ D ∧ Rd H1 a (.dK kvs) ∧ H1 D = some (.dK []) ∧ kvs.length ≤ 1000 ∧ ∀ S, H1 S = none → S ≠ D → tk σ (upd (upd H1 D (.dK kvs)) S (.dK [])) fun y H2 => tv σ H2 fun z H3 =>
  ∃ q, y = kV q ∧ H3 D = some (.dK kvs) ∧ H3 S = some (.dK []) ∧ Q (.ref D) (upd (upd H3 S (.dK [(q, z)])) D (.dK (putK kvs q z)))
end
end Mn

namespace Mn
open PySem PySem.Spec PyProof.Rows L2
variable [TabList]

/-! ### {**d, k: v} -/
def aGh (x : D) (e : Env) (fk fv : FE) (vh : VH) : Res W := match x with
  | .dic false kvs => match fk e vh with
    | .ok (.d y) vh1 => match fv e vh1 with
      | .ok (.d z) vh2 => match wM y with
        | some q => if kvs.length ≤ 1000 then .ok (.d (.dic false (as8 kvs q y z))) vh2 else .stuck
        | none => .stuck
      | _ => .stuck
    | _ => .stuck
  | _ => .stuck
def aHP (fe fk fv : FE) : FE := fun e vh => match fe e vh with
  | .ok w vh1 => match see vh1 w with
    | some x => aGh x e fk fv vh1
    | none => .stuck
  | _ => .stuck
section
variable {fe fk fv : FE} {e : Env} {vh vh1 vh2 vh3 : VH} {w : W} {kvs : List (D × D)} {y z : D} {q : Key}
end
section
variable {X : Cx} {c : Cn} {U : WX} {ke ve ex : Expr} {fe fk fv : FE} {pos : Pos}
end
end Mn

namespace Mn
open PySem PySem.Spec PyProof.Rows L2 ClX
variable [TabList]

/-! ### C.f, a flat constant of the class -/
structure GAtt (K : PySem.W.Frag) (mg : Str → Option Value) (cl f : Str) (d : D) : Prop where
  ex : ∃ C mc v u, mg cl = some (.ref C) ∧ CRead K C mc ∧ CVal K C mc f v u ∧ ∀ hid H ρ, RelD ⟨K, mg, hid⟩ H ρ d v
end Mn

namespace Mn
open PySem PySem.Spec PyProof.Rows L2
variable [TabList]

/-! ### comprehensions over typed lists -/
section
variable {α β : Type} {A A1 : FTg} {ft t1 : FT} {f : FE} {fi1 : FI} {vs1 : List Nat} {e : Env} {vh : VH}
end
/-! ### one row of a dict of texts changed -/
section
variable {α : Type}
/-- a row put in the place of that with its name -/
def aJh (k : α → Str) (a : α) (l : List α) : List α := if k a ∈ l.map k then l.map fun b => if k b = k a then a else b else l ++ [a]
end
end Mn

namespace Mn
open PySem PySem.Spec PyProof.Rows L2
variable [TabList]

/-! ### own exception classes over any built-in base -/
/-- what is said of the class at C, over the base B -/
structure XcC (K : PySem.W.Frag) (C : Addr) (B newId initId : String) (bmB : List Value) : Prop where
  fb : ExcBaseFacts B newId initId bmB
  st : StoreFacts B bmB "object.__setattr__" "object"
  ini : PySem.W.excInitIn K C bmB newId = true
  over : PySem.W.excOver K C bmB = true
  dict : PySem.W.hasDictIn K C = true
  sa : PySem.W.findIn K (.ref C) "__setattr__" = some (some (.builtin "object.__setattr__"))
  exC : PySem.W.subIn K (.ref C) (.type "BaseException") = some true
  tyC : PySem.W.typeIn K (.ref C) = some (.type "type")
  kC : PySem.W.keepIn K (.ref C) = true
section
variable {X : Cx} {pins : List (Addr × Obj)} {σ : L2.St} {H : Hp} {s : Shared} {a C dx : Addr} {f : Str} {y : V} {u : Value} {fs : List (Str × V)} {Q : Unit → Shared → Prop} {E : Value → Shared → Prop} {A : Around} {B newId initId : String} {bmB : List Value}
/-- the first field: the dict is laid -/
theorem aBU (T : XcC X.K C B newId initId bmB) (I : L2.Inv X pins σ H s) (e : H a = some (exo a C none)) (hno : PySem.W.takerIn X.K C f = some none) (ry : L2.RelV y u)
    (h : ∀ dx s', H dx = none → dx ≠ a → L2.Inv X pins σ (upd (upd H dx (exd dx [(f, y)])) a (exo a C (some dx))) s' → Q () s') : wpAny (model X.prog X.w) A (setAttr (.ref a) f u) Q E s := by
  obtain ⟨t1, ho⟩ := exo_at I.hok e
  obtain ⟨hp, g, d, t, os⟩ := s
  have lt : a < hp.objs.size := Heap.lt_size ho
  refine PySem.W.set_plain (ox := PySem.W.excObj C t1 none .none) (od := none) I.kIn ⟨ho, rfl, rfl, trivial⟩ T.sa ?_
  refine PySem.W.osa_openX (ox := PySem.W.excObj C t1 none .none) (od := none) (r := none) T.st I.kIn ⟨ho, rfl, rfl, trivial⟩ T.over hno fun b => ?_
  obtain ⟨cd, hc, hd⟩ := PySem.W.any_some T.dict
  refine wpAny_bind (wpAny_pure (wpAny_bind (PySem.W.instanceDict_exc (s := ⟨hp, g, d, t + 1, os⟩) ho (PySem.W.looks_clsIn I.kIn hc) hd ?_)))
  have nd : H hp.objs.size = none := I.hok.fresh (Nat.le_refl _)
  have na : hp.objs.size ≠ a := Nat.ne_of_gt lt
  have k1 : ∀ b o, hp.get? b = some o → (hp.push (PySem.W.dictOf [] 0)).get? b = some o := fun b o q => Heap.get?_push_of_some _ q
  have d1 : (hp.push (PySem.W.dictOf [] 0)).get? hp.objs.size = some (PySem.W.dictOf [] 0) := Heap.get?_push_size _ rfl
  have n1 : ∀ {h' : Heap}, h'.get? hp.objs.size = some (PySem.W.dictOf [] 0) → h'.Ns hp.objs.size (fun _ => none) := fun {h'} q => ⟨_, #[], _, q, rfl, fun e he => absurd he (by simp), fun _ => rfl⟩
  have I1 := I.laid (t' := t + 1) (o := exd hp.objs.size []) k1 (Nat.le_refl _) (exd_ok (fs := []) (Heap.Ns1.of_empty (n1 d1)) fun _ => True.intro)
  have u1 : upd H hp.objs.size (exd hp.objs.size []) a = some (exo a C none) := by rw [upd_ne (Ne.symm na)]; exact e
  have g2 : ((hp.push (PySem.W.dictOf [] 0)).update a fun o => { o with dict := some hp.objs.size }).get? a = some (PySem.W.excObj C t1 (some hp.objs.size) .none) := Heap.get?_update_self (fun o => { o with dict := some hp.objs.size }) (k1 a _ ho) rfl
  have o2 : ∀ b, b ≠ a → ((hp.push (PySem.W.dictOf [] 0)).update a fun o => { o with dict := some hp.objs.size }).get? b = (hp.push (PySem.W.dictOf [] 0)).get? b := fun b q => Heap.get?_update_other _ _ (Ne.symm q)
  have I2 := I1.write (t' := t + 1) (h' := (hp.push (PySem.W.dictOf [] 0)).update a fun o => { o with dict := some hp.objs.size }) (x := a) (e := a) (o := exo a C (some hp.objs.size)) (by rw [u1]; exact True.intro) (.inl rfl)
    (fun b o q z => (o2 b q).trans z) ⟨_, g2⟩ (exo_ok g2)
  refine HandSPX.store_in_new (n1 ((o2 _ na).trans d1)) fun h3 tk hn sb => ?_
  have kd : ∀ b o, b ≠ hp.objs.size → ((hp.push (PySem.W.dictOf [] 0)).update a fun o => { o with dict := some hp.objs.size }).get? b = some o → h3.get? b = some o := fun b o q z => (sb.2 b q).trans z
  have u2 : upd (upd H hp.objs.size (exd hp.objs.size [])) a (exo a C (some hp.objs.size)) hp.objs.size = some (exd hp.objs.size []) := by rw [upd_ne na, upd_same]
  have I3 := I2.write (t' := tk) (h' := h3) (x := hp.objs.size) (e := hp.objs.size) (o := exd hp.objs.size [(f, y)]) (by rw [u2]; exact True.intro) (.inl rfl) kd (let ⟨o, _, _, z, _⟩ := hn; ⟨o, z⟩)
    (exd_ok hn (relO_put (fs := []) ry fun _ => True.intro))
  refine h hp.objs.size _ nd na ?_
  have ee : upd (upd (upd H hp.objs.size (exd hp.objs.size [])) a (exo a C (some hp.objs.size))) hp.objs.size (exd hp.objs.size [(f, y)]) = upd (upd H hp.objs.size (exd hp.objs.size [(f, y)])) a (exo a C (some hp.objs.size)) := by
    funext b
    by_cases h1 : b = hp.objs.size
    · rw [h1, upd_same, upd_ne na, upd_same]
    · by_cases h2 : b = a
      · rw [h2, upd_ne (Ne.symm na), upd_same, upd_same]
      · rw [upd_ne h1, upd_ne h2, upd_ne h1, upd_ne h2, upd_ne h1]
  exact ee ▸ I3
/-- a further field -/
theorem aBF (T : XcC X.K C B newId initId bmB) (I : L2.Inv X pins σ H s) (e : H a = some (exo a C (some dx))) (ed : H dx = some (exd dx fs)) (hl : fs.length ≤ 900) (hno : PySem.W.takerIn X.K C f = some none) (ry : L2.RelV y u)
    (h : ∀ s', L2.Inv X pins σ (upd H dx (exd dx ((f, y) :: fs))) s' → Q () s') : wpAny (model X.prog X.w) A (setAttr (.ref a) f u) Q E s := by
  obtain ⟨t1, ho⟩ := exo_at I.hok e
  obtain ⟨mA, hn, rl⟩ := exd_at I.hok ed
  have wi := within_of rl
  obtain ⟨hp, g, d, t, os⟩ := s
  obtain ⟨oD, esD, epD, aD, dD, cD⟩ := hn.count wi
  refine PySem.W.set_plain (ox := PySem.W.excObj C t1 (some dx) .none) (od := some oD) I.kIn ⟨ho, rfl, rfl, aD⟩ T.sa ?_
  refine PySem.W.osa_openX (ox := PySem.W.excObj C t1 (some dx) .none) (od := some oD) (r := none) T.st I.kIn ⟨ho, rfl, rfl, aD⟩ T.over hno fun b => ?_
  obtain ⟨cd, hc, hd⟩ := PySem.W.any_some T.dict
  refine wpAny_bind (wpAny_pure (wpAny_bind (wpAny_bind (wpAny_loadPart ho (wpAny_bind ((PySem.W.looks_clsIn (h := hp) I.kIn hc).at ?_))))))
  rw [hd]
  refine wpAny_pure (a := some dx) ?_
  refine PySem.OEX.store_in_old hn wi (by rw [List.length_map]; omega) fun h3 tk hn3 sb => ?_
  exact h _ (I.write (t' := tk) (h' := h3) (x := dx) (e := dx) (o := exd dx ((f, y) :: fs)) (by rw [ed]; exact True.intro) (.inl rfl) (fun b o q z => (sb.2 b q).trans z) (let ⟨o, _, _, z, _⟩ := hn3; ⟨o, z⟩) (exd_ok hn3 (relO_put ry rl)))
/-- B.__init__(self, ..) -/
theorem aAr {us : List Value} {Q : Value → Shared → Prop} (T : XcC X.K C B newId initId bmB) (I : L2.Inv X pins σ H s) (e : H a = some (exo a C none)) (hl : us.length ≤ sizeLine) (h : ∀ s', L2.Inv X pins σ H s' → Q .none s') :
    wpAny (model X.prog X.w) A (call (.builtin initId) (.ref a :: us)) Q E s := by
  obtain ⟨t1, ho⟩ := exo_at I.hok e
  obtain ⟨nm, N', qn, bs, bm, hdct, sn, sub, ab, col, dd, k0, k1, k2, k3, k5, hC, hT⟩ := PySem.W.excInit_of I.kIn T.ini
  obtain ⟨hp, g, d, t, os⟩ := s
  refine wpAny_call (HandSPX.init_base T.fb hT hC ho hl fun h' t2 kk hx => ?_)
  have J := I.write (t' := t) (h' := h') (x := a) (e := a) (o := exo a C none) (by rw [e]; exact True.intro) (.inl rfl) kk ⟨_, hx⟩ (exo_ok hx)
  have same : upd H a (exo a C none) = H := funext fun b => by
    by_cases q : b = a
    · rw [q, upd_same, e]
    · exact upd_ne q
  exact h _ (same ▸ J)
end

/-! ### rules: B.__init__(self, ..), self.f = e, Own.__init__(self, ..) -/
/-- B.__init__(self, ..), B built in -/
def aBZ (K : PySem.W.Frag) (B newId initId : String) (bmB : List Value) (ta : TA) : TE := fun σ H Q => ta σ H fun vs H1 => ∃ (a C : Addr) (ws : List V), vs = .ref a :: ws ∧ ws.length ≤ 1000 ∧ XcC K C B newId initId bmB ∧ H1 a = some (exo a C none) ∧ Q .non H1
/-- self.f = e -/
def asV (K : PySem.W.Frag) (B newId initId : String) (bmB : List Value) (f : Str) (to te : TE) : TS := fun D σ H => te σ H fun y H1 => to σ H1 fun x H2 => ∃ a C : Addr, x = .ref a ∧ XcC K C B newId initId bmB ∧ PySem.W.takerIn K C f = some none ∧
  ((H2 a = some (exo a C none) ∧ ∀ dx, H2 dx = none → dx ≠ a → D.nx σ (upd (upd H2 dx (exd dx [(f, y)])) a (exo a C (some dx)))) ∨
    ∃ (dx : Addr) (fs : List (Str × V)), H2 a = some (exo a C (some dx)) ∧ H2 dx = some (exd dx fs) ∧ fs.length ≤ 900 ∧ D.nx σ (upd H2 dx (exd dx ((f, y) :: fs))))
section
variable {X : Cx} {o e : Expr} {es : List Expr} {to te : TE} {ta : TA} {f : Str} {p p' p1 p2 pos : Pos} {B newId initId : String} {bmB : List Value} {x : Str}
theorem awN {pl : Sem Bool} (hg : Gl X x) (hm : X.mg x = none) (hv : bootBuiltins x = some (.type B)) (ht : typeOf (.type B) = pure (.type "type")) (hs : Manifest.isStub B = false) (hh : PySem.W.handedIn (.builtin initId) = true)
    (vV : PySem.W.findCls X.K (.type B) (.type "type") "__init__" = some (.val (.builtin initId))) (ha : PA X (e :: es) ta) (hn : x ≠ "__name__" := by decide) (hdb : (x == ("__debug__" : Str)) = false := by decide)
    (hc : eval (.Call (.Attribute (.Name x p1) "__init__" p2) (e :: es) [] pos) X.env = (eval (.Name x p1) X.env >>= fun ov => standAt p2.atName >>= fun _ => holding [ov] (getMethod ov "__init__" pl) >>= fun q =>
      callWith pos q.1 q.2 (backTo pos (starEach (e :: es) X.env)) (backToKw pos (keywordEach [] X.env))) := by rfl)
    (he : starEach (e :: es) X.env = (false, eval e X.env) :: starEach es X.env := by rfl) (hpl : (backTo pos (starEach es X.env)).any (·.1) = false := by rfl) :
    PE X (.Call (.Attribute (.Name x p1) "__init__" p2) (e :: es) [] pos) (aBZ X.K B newId initId bmB ta) := by
  refine ⟨fun pins s σ H Q I h => PySem.W.methodCall_KW (pl := pl) (ld_blt I hg hm hv ?_ hn hdb) hc⟩
  obtain ⟨m, fr⟩ := I.fr
  refine PySem.W.method_type fr I.ok.mod.kin ht hs vV hh (PyProof.Rows.callWith_method1 ?_ he hpl)
  refine thn (ha.run pos pins _ σ H _ (I.tok _) h) fun us s1 hq => ?_
  obtain ⟨vs, H1, I1, rv, a, C, ws, rfl, hl, T, ea, q⟩ := hq
  cases rv with
  | cons r0 rr =>
    cases r0
    exact aAr T I1 ea (by rw [← Paired.length rr, sizeLine_eq]; omega) fun s2 J => ⟨.non, H1, J, rfl, q⟩
theorem oE (ho : PE X o to) (he : PE X e te) (hs : swapsWith e (some (.Attribute o f p')) pos.line X.env = pure false := by rfl) : PS X (.Assign [.Attribute o f p'] e pos) (asV X.K B newId initId bmB f to te) := by
  refine ⟨fun pins s σ H D I h => plainObj_wpAny_Assign_Attribute (thn (he.run pins s σ H _ I h) fun v s1 hq => ?_) hs⟩
  obtain ⟨y, H1, I1, ry, h1⟩ := hq
  refine thn (ho.run pins s1 σ H1 _ I1 h1) fun u s2 hq => ?_
  obtain ⟨z, H2, I2, rz, a, C, rfl, T, hno, h2⟩ := hq
  cases rz
  cases h2 with
  | inl h2 => exact aBU T I2 h2.1 hno ry fun dx s3 n1 n2 J => ⟨σ, _, J, h2.2 dx n1 n2⟩
  | inr h2 =>
    obtain ⟨dx, fs, e1, e2, hl, h3⟩ := h2
    exact aBF T I2 e1 e2 hl hno ry fun s3 J => ⟨σ, _, J, h3⟩
/-- Own.__init__(self, ..), a def of an own class -/
theorem aEe {pl : Sem Bool} {C f : Addr} {mc : Value} {k : Nat} {fd : FuncData} {ps : List Str} {sp : Sp} {CX : CXT} {E : XK} (F : FnOk X.prog X.w X.K X.mg X.base CX k f fd ps sp) (hr : Room k X.A) (hg : Gl X x) (hm : X.mg x = some (.ref C)) (h1 : PySem.W.readsIn X.K C mc = true)
    (h2 : PySem.W.specialIn X.K (.ref C) "__getattribute__" = some (some (.builtin "type.__getattribute__"))) (h3 : PySem.W.findCls X.K (.ref C) mc "__init__" = some (.val (.ref f))) (hk : PySem.W.keepIn X.K (.ref f) = true) (hb : Binds X.K fd ps []) (hx : Passes CX X E)
    (ha : PA X (e :: es) ta) (hdb : (x == ("__debug__" : Str)) = false := by decide)
    (hc : eval (.Call (.Attribute (.Name x p1) "__init__" p2) (e :: es) [] pos) X.env = (eval (.Name x p1) X.env >>= fun ov => standAt p2.atName >>= fun _ => holding [ov] (getMethod ov "__init__" pl) >>= fun q =>
      callWith pos q.1 q.2 (backTo pos (starEach (e :: es) X.env)) (backToKw pos (keywordEach [] X.env))) := by rfl)
    (he : starEach (e :: es) X.env = (false, eval e X.env) :: starEach es X.env := by rfl) (hpl : (backTo pos (starEach es X.env)).any (·.1) = false := by rfl) :
    PE X (.Call (.Attribute (.Name x p1) "__init__" p2) (e :: es) [] pos) (tCall sp [] E ta) := by
  refine ⟨fun pins s σ H Q I h => PySem.W.methodCall_KW (pl := pl) (ld_glob I hg hm ?_ hdb) hc⟩
  refine PySem.W.method_cls I.kIn h2 (PySem.W.cls_value I.kIn h1 h3 (by rfl) ?_)
  refine PySem.W.callWith_K (h₀ := X.base) I.ok.mod.kin hk (thn (ha.run pos pins _ σ H _ (I.tok _) h) fun us s1 hq => ?_) he hpl
  obtain ⟨vs, H1, I1, r, q⟩ := hq
  exact ⟨I1.kIn, run_fn F hr hb .nil hx I1 r q⟩
end
end Mn

namespace Mn
open PySem PySem.Spec PyProof.Rows L2
variable [TabList]

/-! ### what the __init__ of an own exception promises -/
/-- the instance at a of C, made but bare, gets the fields flds of the other arguments -/
def spX (K : PySem.W.Frag) (B newId initId : String) (bmB : List Value) (n : Nat) (fn : List Str) (flds : List V → List (Str × V)) : Sp := fun vs H Q _ => ∃ (a C : Addr) (ws : List V), vs = .ref a :: ws ∧ ws.length = n ∧
  XcC K C B newId initId bmB ∧ (∀ f ∈ fn, PySem.W.takerIn K C f = some none) ∧ H a = some (exo a C none) ∧ ∀ dx, H dx = none → dx ≠ a → Q .non (upd (upd H dx (exd dx (flds ws))) a (exo a C (some dx)))
theorem jR {K : PySem.W.Frag} {B newId initId : String} {bmB : List Value} {n : Nat} {fn : List Str} {flds : List V → List (Str × V)} {ps : List Str} (h : ps.length = n + 1) : ∀ vs H Q E, spX K B newId initId bmB n fn flds vs H Q E → vs.length = ps.length := by
  rintro vs H Q E ⟨a, C, ws, rfl, hl, _⟩
  rw [h, List.length_cons, hl]
section
variable {K : PySem.W.Frag} {B newId initId : String} {bmB : List Value} {H : Hp} {Q : VK} {vs : List V} {E : XK}
theorem aq1 {a dx : Addr} {o1 o2 o3 : HO} (n : dx ≠ a) : upd (upd (upd H dx o1) a o2) dx o3 = upd (upd H dx o3) a o2 := funext fun b => by
  by_cases h1 : b = dx
  · subst h1
    rw [upd_same, upd_ne n, upd_same]
  · by_cases h2 : b = a
    · subst h2
      rw [upd_ne h1, upd_same, upd_same]
    · rw [upd_ne h1, upd_ne h2, upd_ne h1, upd_ne h2, upd_ne h1]
/-- the base: B.__init__(self, word); self.word = word -/
theorem ayW (h : spX K B newId initId bmB 1 ["word"] (fun ws => [("word", ws.headD .non)]) vs H Q E) :
    tSeq (tDrop (aBZ K B newId initId bmB (tCons (tVar 0) (tCons (tVar 1) tNil)))) (asV K B newId initId bmB "word" (tVar 0) (tVar 1)) { nx := fun _ H' => Q .non H', rt := Q } (start ["self", "word"] vs) H := by
  obtain ⟨a, C, ws, rfl, hl, T, hf, ea, q⟩ := h
  obtain ⟨w, rfl⟩ := List.length_eq_one_iff.mp hl
  refine ⟨.ref a, rfl, w, rfl, a, C, [w], rfl, by simp, T, ea, w, rfl, .ref a, rfl, a, C, rfl, T, hf _ (by simp), .inl ⟨ea, fun dx n1 n2 => q dx n1 n2⟩⟩
/-- .. with a word of its own: B.__init__(self, "W"); self.word = "W" -/
theorem aB3 {W : Str} (h : spX K B newId initId bmB 0 ["word"] (fun _ => [("word", .str W)]) vs H Q E) :
    tSeq (tDrop (aBZ K B newId initId bmB (tCons (tVar 0) (tCons (tC (.str W)) tNil)))) (asV K B newId initId bmB "word" (tVar 0) (tC (.str W))) { nx := fun _ H' => Q .non H', rt := Q } (start ["self"] vs) H := by
  obtain ⟨a, C, ws, rfl, hl, T, hf, ea, q⟩ := h
  obtain rfl := List.length_eq_zero_iff.mp hl
  exact ⟨.ref a, rfl, a, C, [.str W], rfl, by simp, T, ea, .ref a, rfl, a, C, rfl, T, hf _ (by simp), .inl ⟨ea, fun dx n1 n2 => q dx n1 n2⟩⟩
/-- Sup.__init__(self, "W") alone -/
theorem azA {W : Str} (h : spX K B newId initId bmB 0 ["word"] (fun _ => [("word", .str W)]) vs H Q E) :
    tDrop (tCall (spX K B newId initId bmB 1 ["word"] fun ws => [("word", ws.headD .non)]) [] (fun _ _ _ => False) (tCons (tVar 0) (tCons (tC (.str W)) tNil))) { nx := fun _ H' => Q .non H', rt := Q } (start ["self"] vs) H := by
  obtain ⟨a, C, ws, rfl, hl, T, hf, ea, q⟩ := h
  obtain rfl := List.length_eq_zero_iff.mp hl
  exact ⟨.ref a, rfl, a, C, [.str W], rfl, rfl, T, hf, ea, fun dx n1 n2 => q dx n1 n2⟩
/-- Sup.__init__(self, "W"); self.f = p -/
theorem vD {W f p : Str} (h : spX K B newId initId bmB 1 ["word", f] (fun ws => [(f, ws.headD .non), ("word", .str W)]) vs H Q E) :
    tSeq (tDrop (tCall (spX K B newId initId bmB 1 ["word"] fun ws => [("word", ws.headD .non)]) [] (fun _ _ _ => False) (tCons (tVar 0) (tCons (tC (.str W)) tNil)))) (asV K B newId initId bmB f (tVar 0) (tVar 1)) { nx := fun _ H' => Q .non H', rt := Q } (start ["self", p] vs) H := by
  obtain ⟨a, C, ws, rfl, hl, T, hf, ea, q⟩ := h
  obtain ⟨w, rfl⟩ := List.length_eq_one_iff.mp hl
  refine ⟨.ref a, rfl, a, C, [.str W], rfl, rfl, T, fun g hg => hf g (by simp at hg; simp [hg]), ea, fun dx n1 n2 => ?_⟩
  refine ⟨w, rfl, .ref a, rfl, a, C, rfl, T, hf f (by simp), .inr ⟨dx, [("word", .str W)], upd_same, by rw [upd_ne n2, upd_same]; rfl, by simp, ?_⟩⟩
  rw [aq1 n2]
  exact q dx n1 n2
/-- .. ; self.f = p; self.g = q -/
theorem auO {W f g p1 p2 : Str} (h : spX K B newId initId bmB 2 ["word", f, g] (fun ws => [(g, ws.getD 1 .non), (f, ws.headD .non), ("word", .str W)]) vs H Q E) :
    tSeq (tDrop (tCall (spX K B newId initId bmB 1 ["word"] fun ws => [("word", ws.headD .non)]) [] (fun _ _ _ => False) (tCons (tVar 0) (tCons (tC (.str W)) tNil)))) (tSeq (asV K B newId initId bmB f (tVar 0) (tVar 1)) (asV K B newId initId bmB g (tVar 0) (tVar 2)))
      { nx := fun _ H' => Q .non H', rt := Q } (start ["self", p1, p2] vs) H := by
  obtain ⟨a, C, ws, rfl, hl, T, hf, ea, q⟩ := h
  obtain ⟨w, z, rfl⟩ : ∃ w z, ws = [w, z] := by match ws, hl with | [w, z], _ => exact ⟨w, z, rfl⟩
  refine ⟨.ref a, rfl, a, C, [.str W], rfl, rfl, T, fun g hg => hf g (by simp at hg; simp [hg]), ea, fun dx n1 n2 => ?_⟩
  refine ⟨w, rfl, .ref a, rfl, a, C, rfl, T, hf f (by simp), .inr ⟨dx, [("word", .str W)], upd_same, by rw [upd_ne n2, upd_same]; rfl, by simp, ?_⟩⟩
  rw [aq1 n2]
  refine ⟨z, rfl, .ref a, rfl, a, C, rfl, T, hf g (by simp), .inr ⟨dx, [(f, w), ("word", .str W)], upd_same, by rw [upd_ne n2, upd_same], by simp, ?_⟩⟩
  rw [aq1 n2]
  exact q dx n1 n2
end
end Mn

namespace Mn
open PySem PySem.Spec PyProof.Rows L2
variable [TabList]

/-! ### C(e, ..) for an own exception class with an __init__ -/
/-- the reading: the class, a new dict with the fields -/
def aGi (C : Addr) (n : Nat) (flds : List V → List (Str × V)) (ta : TA) : L2.St → Hp → XK → Prop := fun σ H Q => ta σ H fun vs H1 => vs.length = n ∧ ∀ d, H1 d = none → Q (.ref C) (some d) (upd H1 d (.xd (flds vs)))
theorem aB4 {P : Program} {w : World} {outer : List PySem.Env} {H : Hp} {s s' : Shared} {u : Value} : ¬ L2.CX P w outer H s (fun _ _ _ => False) u s' := fun ⟨_, _, _, _, _, _, _, _, _, _, _, _, z⟩ => z
section
variable {X : Cx} {e : Expr} {es : List Expr} {ta : TA} {x : Str} {C fI : Addr} {k : Nat} {fd : FuncData} {ps fn : List Str} {n : Nat} {flds : List V → List (Str × V)} {B newId initId : String} {bmB : List Value} {p pos : Pos} {pins : List (Addr × Obj)} {σ : L2.St} {H : Hp} {Q : XK} {s : Shared}
/-- the arguments at hand -/
theorem aAs {us : List Value} {vs : List V} (T : XcC X.K C B newId initId bmB) (iC : PySem.W.findIn X.K (.ref C) "__init__" = some (some (.ref fI))) (tI : PySem.W.typeIn X.K (.ref fI) = some (.type "function")) (F : FnOk X.prog X.w X.K X.mg X.base (L2.CX X.prog X.w) k fI fd ps (spX X.K B newId initId bmB n fn flds))
    (hf : ∀ f ∈ fn, PySem.W.takerIn X.K C f = some none) (hn : n ≤ 1000) (hr : Room (k + 1) X.A) (hb : Binds X.K fd ps []) (I : L2.Inv X pins σ H s) (r : Vals vs us) (hl : vs.length = n) (q : ∀ d, H d = none → Q (.ref C) (some d) (upd H d (.xd (flds vs)))) :
    wpAny (model X.prog X.w) X.A (call (.ref C) us) (MkP X pins σ Q) X.xe s := by
  obtain ⟨nm, N', qn, bs, bm, hdct, sn, sub, ab, col, dd, k0, k1, k2, k3, k5, hC, hT⟩ := PySem.W.excInit_of I.kIn T.ini
  have hus : us.length ≤ sizeLine := by rw [← r.length, hl, sizeLine_eq]; omega
  obtain ⟨hp, g, dr, tk, os⟩ := s
  have up1 : hp.objs.size ≤ hp.objs.size + 1 := Nat.le_succ _
  have na : H (hp.objs.size + 1) = none := I.hok.fresh up1
  have kk : ∀ b o, hp.get? b = some o → ((hp.push (PySem.W.kdv_tup us)).push (HandSPX.excO C hp.objs.size)).get? b = some o := fun b o z => Heap.get?_push_of_some _ (Heap.get?_push_of_some _ z)
  have atE : ((hp.push (PySem.W.kdv_tup us)).push (HandSPX.excO C hp.objs.size)).get? (hp.objs.size + 1) = some (HandSPX.excO C hp.objs.size) := by heap_get
  have J := I.laid (t' := tk) (a := hp.objs.size + 1) (o := exo (hp.objs.size + 1) C none) (h' := (hp.push (PySem.W.kdv_tup us)).push (HandSPX.excO C hp.objs.size)) kk up1 (exo_ok atE)
  have hsp : spX X.K B newId initId bmB n fn flds (.ref (hp.objs.size + 1) :: vs) (upd H (hp.objs.size + 1) (exo (hp.objs.size + 1) C none))
      (fun v H2 => v = .non ∧ ∃ d, H2 (hp.objs.size + 1) = some (exo (hp.objs.size + 1) C (some d)) ∧ H2 d = some (exd d (flds vs)) ∧ H d = none ∧ upd (del H2 (hp.objs.size + 1)) d (.xd (flds vs)) = upd H d (.xd (flds vs))) (fun _ _ _ => False) := by
    refine ⟨hp.objs.size + 1, C, vs, rfl, hl, T, hf, upd_same, fun dx n1 n2 => ⟨rfl, dx, upd_same, by rw [upd_ne n2, upd_same], by rw [upd_ne n2] at n1; exact n1, funext fun b => ?_⟩⟩
    by_cases h1 : b = dx
    · rw [h1, upd_same, upd_same]
    · rw [upd_ne h1, upd_ne h1]
      by_cases h2 : b = hp.objs.size + 1
      · rw [h2, del_same, na]
      · rw [del_ne h2, upd_ne h2, upd_ne h1, upd_ne h2]
  have rv : Vals (V.ref (hp.objs.size + 1) :: vs) (Value.ref (hp.objs.size + 1) :: us) := .cons rfl r
  have hps : (Value.ref (hp.objs.size + 1) :: us ++ []).length = ps.length := by rw [List.append_nil, ← rv.length]; exact F.len _ _ _ _ hsp
  have bind : BindsTo (⟨(hp.push (PySem.W.kdv_tup us)).push (HandSPX.excO C hp.objs.size), g, dr, tk, os⟩ : Shared) fd ⟨Value.ref (hp.objs.size + 1) :: us, []⟩ (ps.zip (Value.ref (hp.objs.size + 1) :: us)) := by
    have z := hb _ (Value.ref (hp.objs.size + 1) :: us) J.kIn hps
    rw [List.append_nil] at z
    exact z
  refine wpAny_call (HandSPX.call_own T.fb hT hC (PySem.W.looks_findIn I.kIn iC) (fun self => PySem.W.bind_fn I.kIn self tI) hus (codeAny_mono (F.run _ X.stack _ _ ⟨Value.ref (hp.objs.size + 1) :: us, []⟩ _ _ _ _ (hr.make C us []) (J.env0.make C us []) bind rv hsp) fun res s' z => ?_))
  cases res with
  | error er => exact (aB4 z).elim
  | ok fl => cases fl with
    | next => exact z.elim
    | brk => exact z.elim
    | cont => exact z.elim
    | ret u =>
      obtain ⟨v, H2, os2, ba, un, ok2, ru, rfl, d, ea, ed, nd, eq⟩ := z
      obtain ⟨h2, g2, d2, t2, os'⟩ := s'
      exact ⟨ru, mk_end (raises_own T.exC T.tyC) I up1 kk un ok2 os2 ba ea ed nd (by rw [eq]; exact q d nd)⟩
theorem aCa (T : XcC X.K C B newId initId bmB) (iC : PySem.W.findIn X.K (.ref C) "__init__" = some (some (.ref fI))) (tI : PySem.W.typeIn X.K (.ref fI) = some (.type "function")) (F : FnOk X.prog X.w X.K X.mg X.base (L2.CX X.prog X.w) k fI fd ps (spX X.K B newId initId bmB n fn flds))
    (hf : ∀ f ∈ fn, PySem.W.takerIn X.K C f = some none) (hn : n ≤ 1000) (hr : Room (k + 1) X.A) (hb : Binds X.K fd ps []) (hg : Gl X x) (hm : X.mg x = some (.ref C)) (ha : PA X (e :: es) ta)
    (hdb : (x == ("__debug__" : Str)) = false := by decide) (he : starEach (e :: es) X.env = (false, eval e X.env) :: starEach es X.env := by rfl) (hpl : (backTo pos (starEach es X.env)).any (·.1) = false := by rfl) :
    PMk X (.Call (.Name x p) (e :: es) [] pos) (aGi C n flds ta) := by
  intro pins s σ H Q I h
  refine wpAny_Call_Name_kw (ld_glob I hg hm (PySem.W.callWith_K (h₀ := X.base) I.ok.mod.kin T.kC (thn (ha.run pos pins s σ H _ I h) fun us s1 hq => ?_) he hpl) hdb)
  obtain ⟨vs, H1, I1, r, hl, q⟩ := hq
  exact ⟨I1.kIn, aAs T iC tI F hf hn hr hb I1 r hl q⟩
end
end Mn

namespace Mn
open PySem PySem.Spec PyProof.Rows L2
variable [TabList]

/-! ### raise C(e, ..) -/
/-- an own exception leaves: class x, n arguments, the fields by fl -/
def aHB (x : Str) (n : Nat) (fl : List D → List (Str × D)) (fa : FA) : FS := fun e vh => lft (fa e vh) e fun ws vh' => match rH ws with
  | some ds => if ds.length = n then .exn ⟨x, fl ds⟩ e vh' else .stuck
  | none => .stuck
/-- the two readings of the fields agree -/
def avM (n : Nat) (fv : List V → List (Str × V)) (fl : List D → List (Str × D)) : Prop := ∀ (c : Cn) (H : Hp) (ρ : Rho) (ds : List D) (vs : List V), ds.length = n → RelDs c H ρ ds vs → ∃ gs, fv vs = ((fl ds).map (·.1)).zip gs ∧ RelDf c H ρ (fl ds) gs
section
variable {W f g : Str}
theorem aEy (h : decide (W.length ≤ sizeLine) = true) (s : PyData.strOk W = true) : avM 0 (fun _ => [("word", .str W)]) (fun _ => [("word", .str W)]) := fun c H ρ ds vs _ _ => ⟨[.str W], rfl, ⟨rfl, of_decide_eq_true h, s⟩, trivial⟩
theorem aoH (h : decide (W.length ≤ sizeLine) = true) (s : PyData.strOk W = true) : avM 1 (fun ws => [(f, ws.headD .non), ("word", .str W)]) (fun ds => [(f, ds.headD .non), ("word", .str W)]) := fun c H ρ ds vs hl r => by
  match ds, vs, hl, r with
  | [d], [v], _, r => exact ⟨[v, .str W], rfl, r.1, ⟨rfl, of_decide_eq_true h, s⟩, trivial⟩
theorem aEb (h : decide (W.length ≤ sizeLine) = true) (s : PyData.strOk W = true) : avM 2 (fun ws => [(g, ws.getD 1 .non), (f, ws.headD .non), ("word", .str W)]) (fun ds => [(g, ds.getD 1 .non), (f, ds.headD .non), ("word", .str W)]) := fun c H ρ ds vs hl r => by
  match ds, vs, hl, r with
  | [d, d'], [v, v'], _, r => exact ⟨[v', v, .str W], rfl, r.2.1, r.1, ⟨rfl, of_decide_eq_true h, s⟩, trivial⟩
end
section
variable {X : Cx} {c : Cn} {U : WX} {C : Addr} {x : Str} {n : Nat} {fv : List V → List (Str × V)} {fl : List D → List (Str × D)} {ta : TA} {fa : FA} {e : Expr} {pos : Pos}
end
end Mn

namespace Mn
open PySem PySem.Spec PyProof.Rows L2
variable [TabList]

/-! ### the __init__ of the text's exception classes -/
section
variable {P : Program} {w : World} {K : PySem.W.Frag} {mg : Str → Option Value} {base : Heap} {k : Nat} {f : Addr} {m qual : Str} {st : Stmt} {fd : FuncData} {N ps : List Str} {sp : Sp}
theorem wL {dd : List D} {kd : List (Str × D)} (G : GDf K mg m qual st dd kd f fd) (S : FnScope N ps (defScope st)) (len : ∀ vs H Q E, sp vs H Q E → vs.length = ps.length)
    (body : ∀ (cdv : Value) (A : Around) (outer : List PySem.Env) (s : Shared) (H : Hp) (vs : List V) (Q : VK) (E : XK), Room k (A.deeper (envOfC qual (defScope st) s.heap.objs.size f cdv)) → sp vs H Q E →
      ∃ t, PSs (cxOf (L2.CX P w) P w K mg base N qual (defScope st) f cdv A outer s H E) (defBody st) t ∧ t { nx := fun _ H' => Q .non H', rt := Q } (start N vs) H) :
    FnOk P w K mg base (L2.CX P w) (k + 1) f fd ps sp := by
  obtain ⟨oc, od, dV, kV, doc, pm, an, cdv, ct, osl, rfl, lk, hcd, _, _⟩ := G.ex
  exact fn_of lk hcd S len fun A outer s H vs Q E hr h => body cdv A outer s H vs Q E hr h
theorem cH {kd : List (Str × D)} (G : GDf K mg m qual st [] kd f fd)
    (h : ∀ (kV doc pm : Value) (an : Option Addr) (cdv ct : Value) (us : List Value), us.length = ps.length → bindArgs (PySem.W.fnOf m qual (defArgs st) (defBody st) (defScope st) .none kV doc pm an cdv ct) ⟨us, []⟩ = pure (ps.zip us)) : Binds K fd ps [] := by
  obtain ⟨oc, od, dV, kV, doc, pm, an, cdv, ct, osl, rfl, lk, hcd, p1, _⟩ := G.ex
  cases p1
  exact Binds.all fun us hl => h _ _ _ _ _ _ us hl
end
theorem aAg {X : Cx} : Passes (L2.CX X.prog X.w) X (fun _ _ _ => False) := fun _ _ _ _ _ _ _ z => (aB4 z).elim
/-- an own class whose __init__ is asked for by its name -/
structure GSup (K : PySem.W.Frag) (mg : Str → Option Value) (x : Str) (f : Addr) : Prop where
  ex : ∃ (C : Addr) (mc : Value), mg x = some (.ref C) ∧ PySem.W.readsIn K C mc = true ∧ PySem.W.specialIn K (.ref C) "__getattribute__" = some (some (.builtin "type.__getattribute__")) ∧ PySem.W.findCls K (.ref C) mc "__init__" = some (.val (.ref f))
  kp : PySem.W.keepIn K (.ref f) = true
theorem az3 {K : PySem.W.Frag} {mg : Str → Option Value} {h : Heap} {x : Str} {f C : Addr} {mc : Value} (X : K.In h) (G : h.Ns mainGlobals mg) (a : PySem.W.nsIn K mainGlobals x = some (some (.ref C))) (b1 : PySem.W.readsIn K C mc = true)
    (b2 : PySem.W.specialIn K (.ref C) "__getattribute__" = some (some (.builtin "type.__getattribute__"))) (b3 : PySem.W.findCls K (.ref C) mc "__init__" = some (.val (.ref f))) (k : PySem.W.keepIn K (.ref f) = true) : GSup K mg x f := ⟨⟨C, mc, PySem.W.mg_of X G a, b1, b2, b3⟩, k⟩
/-- an own exception class of the text: made by its __init__ at f, over B -/
structure GExc (K : PySem.W.Frag) (mg : Str → Option Value) (x : Str) (C f : Addr) (B newId initId : String) (bmB : List Value) (fn : List Str) : Prop where
  m : mg x = some (.ref C)
  T : XcC K C B newId initId bmB
  ini : PySem.W.findIn K (.ref C) "__init__" = some (some (.ref f))
  isf : PySem.W.typeIn K (.ref f) = some (.type "function")
  flds : ∀ g ∈ fn, PySem.W.takerIn K C g = some none
theorem mW {K : PySem.W.Frag} {mg : Str → Option Value} {h : Heap} {x : Str} {C f : Addr} {B newId initId : String} {bmB : List Value} {fn : List Str} (X : K.In h) (G : h.Ns mainGlobals mg) (a : PySem.W.nsIn K mainGlobals x = some (some (.ref C))) (fb : ExcBaseFacts B newId initId bmB) (sf : StoreFacts B bmB "object.__setattr__" "object")
    (c1 : PySem.W.excInitIn K C bmB newId = true) (c2 : PySem.W.excOver K C bmB = true) (c3 : PySem.W.hasDictIn K C = true) (c4 : PySem.W.findIn K (.ref C) "__setattr__" = some (some (.builtin "object.__setattr__"))) (c5 : PySem.W.subIn K (.ref C) (.type "BaseException") = some true)
    (c6 : PySem.W.typeIn K (.ref C) = some (.type "type")) (c7 : PySem.W.keepIn K (.ref C) = true) (c8 : PySem.W.findIn K (.ref C) "__init__" = some (some (.ref f))) (c9 : PySem.W.typeIn K (.ref f) = some (.type "function"))
    (c10 : fn.all (fun g => decide (PySem.W.takerIn K C g = some none)) = true) : GExc K mg x C f B newId initId bmB fn :=
  ⟨PySem.W.mg_of X G a, ⟨fb, sf, c1, c2, c3, c4, c5, c6, c7⟩, c8, c9, fun g hg => of_decide_eq_true (List.all_eq_true.mp c10 g hg)⟩
section
variable {X : Cx} {e : Expr} {es : List Expr} {ta : TA} {x : Str} {C f : Addr} {k n : Nat} {fd : FuncData} {ps fn : List Str} {flds : List V → List (Str × V)} {B newId initId : String} {bmB : List Value} {p p1 p2 pos : Pos} {sp : Sp}
theorem GExc.make (T : GExc X.K X.mg x C f B newId initId bmB fn) (F : FnOk X.prog X.w X.K X.mg X.base (L2.CX X.prog X.w) k f fd ps (spX X.K B newId initId bmB n fn flds)) (hn : n ≤ 1000) (hr : Room (k + 1) X.A) (hb : Binds X.K fd ps []) (hg : Gl X x) (ha : PA X (e :: es) ta)
    (hdb : (x == ("__debug__" : Str)) = false := by decide) (he : starEach (e :: es) X.env = (false, eval e X.env) :: starEach es X.env := by rfl) (hpl : (backTo pos (starEach es X.env)).any (·.1) = false := by rfl) :
    PMk X (.Call (.Name x p) (e :: es) [] pos) (aGi C n flds ta) := aCa T.T T.ini T.isf F T.flds hn hr hb hg T.m ha hdb he hpl
theorem nO {pl : Sem Bool} (S : GSup X.K X.mg x f) (F : FnOk X.prog X.w X.K X.mg X.base (L2.CX X.prog X.w) k f fd ps sp) (hr : Room k X.A) (hg : Gl X x) (hb : Binds X.K fd ps []) (ha : PA X (e :: es) ta) (hdb : (x == ("__debug__" : Str)) = false := by decide)
    (hc : eval (.Call (.Attribute (.Name x p1) "__init__" p2) (e :: es) [] pos) X.env = (eval (.Name x p1) X.env >>= fun ov => standAt p2.atName >>= fun _ => holding [ov] (getMethod ov "__init__" pl) >>= fun q =>
      callWith pos q.1 q.2 (backTo pos (starEach (e :: es) X.env)) (backToKw pos (keywordEach [] X.env))) := by rfl)
    (he : starEach (e :: es) X.env = (false, eval e X.env) :: starEach es X.env := by rfl) (hpl : (backTo pos (starEach es X.env)).any (·.1) = false := by rfl) :
    PE X (.Call (.Attribute (.Name x p1) "__init__" p2) (e :: es) [] pos) (tCall sp [] (fun _ _ _ => False) ta) := by
  obtain ⟨C, mc, h0, h1, h2, h3⟩ := S.ex
  exact aEe F hr hg h0 h1 h2 h3 S.kp hb aAg ha hdb hc he hpl
end
end Mn

namespace Mn
open PySem PySem.Spec PyProof.Rows L2
variable [TabList]

/-! ### try: .. except (C1, C2, C3) as n: .., where each exception of the body is one of them -/
def aEi (D : Ends) (i : Nat) : Ends := { nx := fun σ H => D.nx (σ.set i none) H, rt := D.rt, bk := fun σ H => D.bk (σ.set i none) H, ct := fun σ H => D.ct (σ.set i none) H }
def wT3 (K : PySem.W.Frag) (cs : List Value) (i : Nat) (ts : Addr → Value → Option Addr → TS) (D : Ends) : WX := fun cls d σ H => PySem.W.exmAny K cls cs = some true ∧ ∀ a, H a = none → ts a cls d (aEi D i) (σ.set i (some (.ref a))) H
section
variable {X : Cx} {x1 x2 x3 n : Str} {c1 c2 c3 : Addr} {i : Nat} {body suite : List Stmt} {b₀ : Stmt} {q1 q2 q3 tp pos pos' : Pos} {tb : WX → TS} {ts : Addr → Value → Option Addr → TS}
end
end Mn

namespace Mn
open PySem PySem.Spec PyProof.Rows L2
variable [TabList]

/-! ### a field of a caught exception that is pinned -/
/-- the caught exception: a its place, of the class at C, its dict at d -/
structure Caught (X : Cx) (a C d : Addr) : Prop where
  ex : ∃ oe : Obj, (a, oe) ∈ X.pn ∧ Zc (.ref C) (some d) oe ∧ ∃ vs, oe.data = .fields vs
def aJW (K : PySem.W.Frag) (a C d : Addr) (f : Str) (te : TE) : TE := fun σ H Q => te σ H fun x H1 => x = .ref a ∧ XfC K C ∧ PySem.W.findIn K (.ref C) f = some none ∧ ∃ (fs : List (Str × V)) (v : V), H1 d = some (.xd fs) ∧ fs.lookup f = some v ∧ Q v H1
/-! ### a def that is entered while an exception is handled, the exception pinned -/
structure FnP (P : Program) (w : World) (K : PySem.W.Frag) (mg : Str → Option Value) (base : Heap) (k : Nat) (f : Addr) (fd : FuncData) (ps : List Str) (sp : Addr × Obj → Sp) : Prop where
  len : ∀ p vs H Q E, sp p vs H Q E → vs.length = ps.length
  run : ∀ (A : Around) (outer : List PySem.Env) (s : Shared) (H : Hp) (args : Args) (us : List Value) (vs : List V) (Q : VK) (E : XK) (p : Addr × Obj), L2H.RoomH k A → L2H.PinOk outer H s p → Env0 P w K mg base A outer s H → BindsTo s fd args (ps.zip us) → Vals vs us → sp p vs H Q E →
    codeAny (model P w) A (.call (.ref f) args) (CR (L2.CX P w) outer P w H s Q E) s
section
variable {X : Cx} {k : Nat} {f : Addr} {fd : FuncData} {ps : List Str} {sp : Addr × Obj → Sp} {x : Str} {q pos : Pos} {e : Expr} {es : List Expr} {ta : TA} {p : Addr × Obj}
end
end Mn

namespace Mn
open PySem PySem.Spec PyProof.Rows L2
variable [TL : TabList]

/-! ### a ladder of returns over a word, beside a caught exception: slot 0 the exception, slot 1 the word -/
section
variable {c : Cn} {ρ : Rho} {vh : VH} {U : WX} {ft : FT} {t rest : TS} {te u v : TE} {D : Ends} {H : Hp} {a : Addr} {w : Str} {b : Bool}
/-- the word is fit -/
structure WordOk (w : Str) : Prop where
  len : w.length ≤ sizeLine
  ok : PyData.strOk w = true
end
def apP : List Str := ["InvalidName", "DuplicateName", "InvalidBrand", "UnknownInterface", "UnknownMember", "UnknownVariable", "TooMany", "TooWide", "NotConforming", "Conforms", "InvalidMember", "InvalidStatement", "InvalidText", "InUse", "Aborted", "InvalidMode", "NothingLeft", "InvalidCommand"]
/-- the fields that a word asks for -/
def asks (w : Str) : List Str :=
  if w ∈ (["InvalidName", "DuplicateName", "InvalidBrand", "UnknownInterface", "UnknownMember", "UnknownVariable"] : List Str) then ["name"]
  else if w ∈ (["TooMany", "TooWide"] : List Str) then ["most"] else if w ∈ (["NotConforming", "Conforms"] : List Str) then ["one", "other"] else if w = "InvalidMember" then ["index"]
  else if w = "InvalidStatement" then ["at"] else if w = "InvalidText" then ["line"] else if w = "InUse" then ["by"] else if w = "Aborted" then ["at", "why"] else []
/-- what _law_fields promises: names, the fields that the word w asks for -/
def aIY (K : PySem.W.Frag) (mg : Str → Option Value) (names : Str → List Str) : Addr × Obj → Sp := fun p vs H Q _ => ∃ (C d : Addr) (w : Str) (fs : List (Str × V)) (gs : List V) (hid : List Addr) (ρ : Rho) (vh : VH), vs = [.ref p.1, .str w] ∧ w ∈ apP ∧ Zc (.ref C) (some d) p.2 ∧ (∃ vs, p.2.data = .fields vs) ∧ XfC K C ∧
  (∀ f ∈ names w, PySem.W.findIn K (.ref C) f = some none) ∧ H d = some (.xd fs) ∧ Off ⟨K, mg, hid⟩ ρ d ∧ RelH ⟨K, mg, hid⟩ H ρ vh ∧ (names w).map (fun f => List.lookup f fs) = gs.map some ∧
  ∀ H' ρ' t, Grow ρ H ρ' → Fm H H' ρ → RelH ⟨K, mg, hid⟩ H' ρ' vh → H' t = none → Q (.ref t) (upd H' t (.tup gs))
section
variable {K : PySem.W.Frag} {H H1 : Hp} {a C d : Addr} {f g : Str} {fs : List (Str × V)} {σ : L2.St} {Q : VK} {x y : V}
end
end Mn

namespace Mn
open PySem PySem.Spec PyProof.Rows L2
variable [TL : TabList]

/-! ### a lambda is made -/
/-- the maker's code object stands at c, its table at P; its lambdas are called q -/
structure LamT (base : Heap) (mg : Str → Option Value) (c P : Addr) (q : Str) : Prop where
  tb : LamX.TabB base mg c P
  mem : (P, q) ∈ TL.T
  uni : ∀ p ∈ TL.T, p.1 = P → p.2 = q
/-- what the making leaves: the code object is at c', known before or new -/
def MadeL (P c' : Addr) (q : Str) (H H1 : Hp) : Prop := H1 c' = some (LamX.CodeO c' q) ∧
  (H1 = H ∨ ∃ (ps : Array Value) (pos : Pos), H P = some (.tbl ps) ∧ H c' = none ∧ H1 = upd (upd H P (.tbl (ps ++ #[rawInt pos.line, rawInt pos.col, .ref c']))) c' (LamX.CodeO c' q))
section
variable {c : Cn} {H H1 : Hp} {ρ : Rho} {vh : VH} {P c' C : Addr} {q : Str} {base : Heap} {mg : Str → Option Value}
theorem MadeL.fm (m : MadeL P c' q H H1) : Fm H H1 ρ := by
  rcases m.2 with rfl | ⟨ps, pos, e1, e2, rfl⟩
  · exact Fm.refl _ _
  · refine ⟨fun b o nb e => ?_, fun b xs e => ?_⟩
    · by_cases z : b = P
      · subst z
        rw [e1] at e; cases e
        exact .inr ⟨ps, _, rfl, by rw [upd_ne (ne_of_none e1 e2), upd_same]⟩
      · exact .inl (by rw [upd_ne (ne_of_none e e2), upd_ne z]; exact e)
    · have z : b ≠ P := fun z => by rw [z, e1] at e; cases e
      rw [upd_ne (ne_of_none e e2), upd_ne z]; exact e
end
/-- the object of a lambda -/
abbrev aEs (q : Str) (params : Arguments) (body : Expr) (scope : Scope) (cl : List (Str × Addr)) (dV doc pm : Value) (c' : Addr) (ctv : Value) : Obj := PySem.W.kdv_obj "<lambda>" q params (.expr body) scope cl dV doc pm c' ctv
/-- the closure that stands at f -/
structure LamAt (X : Cx) (params : Arguments) (body : Expr) (scope : Scope) (dV : Value) (H1 : Hp) (s : Shared) (f c' : Addr) : Prop where
  at' : ∃ (doc pm ctv : Value), s.heap.get? f = some (aEs (X.env.qual ++ "<lambda>") params body scope (cloFrom X.env.cells scope.names []) dV doc pm c' ctv)
  free : H1 f = none
  out : f ∉ frs X.stack
section
variable {X : Cx} {pins : List (Addr × Obj)} {σ : L2.St} {H : Hp} {s : Shared} {c P : Addr} {params : Arguments} {body : Expr} {scope : Scope} {pos : Pos} {ln : Nat} {dV : Value} {E : Value → Shared → Prop} {Q : Value → Shared → Prop}
end
end Mn

namespace Mn
open PySem PySem.Spec PyProof.Rows L2
variable [TL : TabList]

/-! ### a lambda is called -/
/-- the lambda's names: captured ones, globals, names of its own that the maker has not -/
structure LamN (sc scope : Scope) (N : List Str) : Prop where
  kind : scope.kind = .function
  co : scope.isCoroutine = false
  gen : scope.isGenerator = false
  own : ∀ y ∈ scope.names, y.2 ≠ .cell ∧ (y.2 = .local → y.1 ∉ N)
  free : ∀ y ∈ scope.names, y.2 = .free → sc.names.lookup y.1 = some .cell ∨ sc.names.lookup y.1 = some .free
def aJi (sc scope : Scope) (N : List Str) : Bool := decide (scope.kind = .function) && (!scope.isCoroutine && (!scope.isGenerator && scope.names.all fun y =>
  !decide (y.2 = .cell) && ((!decide (y.2 = .local) || !N.contains y.1) && (!decide (y.2 = .free) || (decide (sc.names.lookup y.1 = some .cell) || decide (sc.names.lookup y.1 = some .free))))))
theorem LamN.cell {X : Cx} {scope : Scope} (L : LamN X.env.scope scope X.N) (ok : X.Ok) : ∀ y ∈ scope.names, y.2 = .free → ∃ c, X.env.cells.lookup y.1 = some c := fun y hy e => (L.free y hy e).elim (fun k => ok.has _ (.inl k)) fun k => ok.has _ (.inr k)
section
variable {X : Cx} {pins : List (Addr × Obj)} {σ : L2.St} {H H1 : Hp} {s s1 : Shared}
end
/-- what f() does, from any state behind s -/
def Clo (P : Program) (w : World) (K : PySem.W.Frag) (mg : Str → Option Value) (base : Heap) (k : Nat) (outer0 : List PySem.Env) (s : Shared) (H : Hp) (f : Addr) (tl : XK → Hp → VK → Prop) : Prop :=
  ∀ (A : Around) (outer : List PySem.Env) (s1 : Shared) (H1 : Hp) (Q : VK) (E : XK), Room k A → NoGuard A → Env0 P w K mg base A outer s1 H1 → Un (frs outer0) [] H H1 s.heap s1.heap → tl E H1 Q →
    (∃ q n fd sl, s1.heap.get? f = some ⟨q, n, .func fd, sl⟩) ∧ codeAny (model P w) A (.call (.ref f) ⟨[], []⟩) (CR (L2.CX P w) outer P w H1 s1 Q E) s1
section
variable {X : Cx} {pins : List (Addr × Obj)} {σ : L2.St} {H H1 : Hp} {s s1 : Shared} {params : Arguments} {body : Expr} {scope : Scope} {dV : Value} {f c' : Addr} {k : Nat} {t : XK → TE}
/-- the same, looked at from further behind -/
theorem Un.under {outer : List PySem.Env} {l : List Addr} {h h1 h2 : Heap} {H H1 H2 : Hp} (a : Un (frs outer) [] H H1 h h1) (b : Un l [] H1 H2 h1 h2) (n : ∀ x o, h.get? x = some o → x ∈ l → x ∈ frs outer) : Un (frs outer) [] H H2 h h2 where
  keep := fun x o e nx hx _ => by
    have e1 := a.keep x o e nx hx (fun z => nomatch z)
    exact b.keep x o e1 (a.free x o e nx (fun z => nomatch z)) (fun z => hx (n x o e z)) (fun z => nomatch z)
  slot := fun x o e nx hx _ => by
    obtain ⟨sl, e1⟩ := a.slot x o e nx hx (fun z => nomatch z)
    obtain ⟨sl2, e2⟩ := b.any e1 (a.free x o e nx (fun z => nomatch z)) (fun z => nomatch z)
    exact ⟨sl2, e2⟩
  free := fun x o e nx _ => let ⟨u, e1⟩ := a.there x o e (fun z => nomatch z); b.free x u e1 (a.free x o e nx (fun z => nomatch z)) (fun z => nomatch z)
  there := fun x o e _ => let ⟨u, e1⟩ := a.there x o e (fun z => nomatch z); b.there x u e1 (fun z => nomatch z)
  tups := fun x xs e => b.tups x xs (a.tups x xs e)
  frzs := fun x o xs e => b.frzs x o xs (a.frzs x o xs e)
  tbls := fun x ps e => by
    obtain ⟨m1, e1⟩ := a.tbls x ps e
    obtain ⟨m2, e2⟩ := b.tbls x _ e1
    exact ⟨m1 ++ m2, by rw [e2, Array.append_assoc]⟩
theorem Clo.later {P : Program} {w : World} {K : PySem.W.Frag} {mg : Str → Option Value} {base : Heap} {j : Nat} {outer0 outer1 : List PySem.Env} {tl : XK → Hp → VK → Prop} (C : Clo P w K mg base j outer0 s H f tl) (u : Un (frs outer0) [] H H1 s.heap s1.heap) (n : ∀ x o, s.heap.get? x = some o → x ∈ frs outer1 → x ∈ frs outer0) :
    Clo P w K mg base j outer1 s1 H1 f tl := fun A outer s2 H2 Q E hr ng e0 un ht => C A outer s2 H2 Q E hr ng e0 (Un.under u un n) ht
/-- as promised by a def that got the lambda and calls it, d levels above -/
structure FnL (P : Program) (w : World) (K : PySem.W.Frag) (mg : Str → Option Value) (base : Heap) (d : Nat) (g : Addr) (TT : (XK → Hp → VK → Prop) → Hp → VK → Prop) : Prop where
  run : ∀ (k : Nat) (A : Around) (outer : List PySem.Env) (s : Shared) (H : Hp) (f : Addr) (tl : XK → Hp → VK → Prop) (Q : VK), 2 ≤ k → Room (k + d) A → NoGuard A → Env0 P w K mg base A outer s H → Clo P w K mg base k outer s H f tl → TT tl H Q →
    codeAny (model P w) A (.call (.ref g) ⟨[.ref f], []⟩) (CR C8.CX0 outer P w H s Q C8.E0) s
end
end Mn

namespace Mn
open PySem PySem.Spec PyProof.Rows L2
variable [TL : TabList]

/-! ### the def that tries a lambda -/
section
variable {Z : Cx} {pn : List (Addr × Obj)} {xe : Value → Shared → Prop} {W : WX} {E : XK} {k : Nat} {f : Addr} {tl : XK → Hp → VK → Prop} {a : Str} {p1 p2 : Pos}
end
/-- what is told: the value, the empty word, no fields; or None, the word, the fields of it -/
def TTr (K : PySem.W.Frag) (mg : Str → Option Value) (cs : List Value) (asks : Str → List Str) : (XK → Hp → VK → Prop) → Hp → VK → Prop := fun tl H Q =>
  tl (fun cls d H' => PySem.W.exmAny K cls cs = some true ∧ ∃ (C dd : Addr) (w : Str) (fs : List (Str × V)) (gs : List V) (hid : List Addr) (ρ : Rho) (vh : VH), cls = .ref C ∧ d = some dd ∧ XfC K C ∧ PySem.W.findIn K (.ref C) "word" = some none ∧ (∀ f ∈ asks w, PySem.W.findIn K (.ref C) f = some none) ∧ w ∈ apP ∧ H' dd = some (.xd fs) ∧ List.lookup ("word" : Str) fs = some (.str w) ∧ (asks w).map (fun f => List.lookup f fs) = gs.map some ∧ Off ⟨K, mg, hid⟩ ρ dd ∧ RelH ⟨K, mg, hid⟩ H' ρ vh ∧
      ∀ H2 ρ2 t t2, Grow ρ H' ρ2 → Fm H' H2 ρ → RelH ⟨K, mg, hid⟩ H2 ρ2 vh → H2 t = none → upd H2 t (.tup gs) t2 = none → Q (.ref t2) (upd (upd H2 t (.tup gs)) t2 (.tup [.non, .str w, .ref t])))
    H fun v H1 => tCons (tC (.str "")) (tCons (tTup tNil) tNil) [] H1 fun xs H2 => (v :: xs).length ≤ sizeLine ∧ ∀ p, H2 p = none → Q (.ref p) (upd H2 p (.tup (v :: xs)))
/-- .. without the value -/
def TTw (K : PySem.W.Frag) (T : (XK → Hp → VK → Prop) → Hp → VK → Prop) : (XK → Hp → VK → Prop) → Hp → VK → Prop := fun tl H Q => T tl H fun v H1 => tPart (tC (.int 1)) [] H1 fun l H2 => tNoPart [] H2 fun u H3 => rSlA K v l u H3 Q
section
variable {X : Cx} {d k : Nat} {g f : Addr} {TT : (XK → Hp → VK → Prop) → Hp → VK → Prop} {tl : XK → Hp → VK → Prop} {x a : Str} {p q pos : Pos}
end
end Mn

namespace Mn
open PySem PySem.Spec PyProof.Rows L2
variable [TL : TabList]

/-! ### g(lambda: e) -/
def tLm (P : Addr) (q : Str) (TT : (XK → Hp → VK → Prop) → Hp → VK → Prop) (t : XK → TE) : TE := fun σ H Q => LamX.TabS H P q ∧ ∀ c' H1, MadeL P c' q H H1 → TT (fun E H' Q' => H' c' = some (LamX.CodeO c' q) ∧ t E σ H' Q') H1 Q
/-- what the walk tells of a lambda in the text: its place, its names, its body; its parameters are bound by themselves -/
structure LamD (X : Cx) (params : Arguments) (body : Expr) (scope : Scope) (k : Nat) (t : XK → TE) : Prop where
  n : LamN X.env.scope scope X.N
  body : ∀ (A : Around) (outer : List PySem.Env) (s : Shared) (H : Hp) (E : XK) (f c' : Addr), Room k (A.deeper (LamX.lamEnv X scope s.heap.objs.size f c')) → NoGuard (A.deeper (LamX.lamEnv X scope s.heap.objs.size f c')) → PE (LamX.lamCx X A outer s H E scope f c') body (t E)
section
variable {X : Cx} {d k : Nat} {g cO P : Addr} {TT : (XK → Hp → VK → Prop) → Hp → VK → Prop} {t : XK → TE} {x : Str} {p pos lpos : Pos} {params : Arguments} {body : Expr} {scope : Scope} {Q : VK} {f : Addr} {tl : XK → Hp → VK → Prop}
end

/-! ### in the layer -/
/-- the fields that the words ask for -/
def allF : List Str := ["word", "name", "most", "one", "other", "index", "at", "line", "by", "why"]
/-- these classes are caught by the clause, their fields are their own -/
def XcF (K : PySem.W.Frag) (mg : Str → Option Value) (cs : List Value) (xs : List Str) : Prop := ∀ x ∈ xs, ∃ C : Addr, mg x = some (.ref C) ∧ PySem.W.exmAny K (.ref C) cs = some true ∧ XfC K C ∧ ∀ f ∈ allF, PySem.W.findIn K (.ref C) f = some none
def aFS (fs : List (Str × D)) : List Str → Option (List D)
  | [] => some []
  | f :: r => match List.lookup f fs, aFS fs r with
    | some d, some ds => some (d :: ds)
    | _, _ => none
/-- the word and the fields of a caught exception -/
def told (xs : List Str) (x : Exn) : Option (Str × List D) := if x.cls ∈ xs then match List.lookup ("word" : Str) x.fs with
    | some (.str w) => if w ∈ apP then (match aFS x.fs (asks w) with
      | some gs => some (w, gs)
      | none => none) else none
    | _ => none
  else none
def aHG (xs : List Str) (fb : FE) : FE := fun e vh => match fb e vh with
  | .ok (.d x) vh' => .ok (.d (.tup [x, .str "", .tup []])) vh'
  | .exn x vh' => match told xs x with
    | some (w, gs) => .ok (.d (.tup [.non, .str w, .tup gs])) vh'
    | none => .stuck
  | _ => .stuck
def aJX (xs : List Str) (fb : FE) : FE := fun e vh => match fb e vh with
  | .ok _ vh' => .ok (.d (.tup [.str "", .tup []])) vh'
  | .exn x vh' => match told xs x with
    | some (w, gs) => .ok (.d (.tup [.str w, .tup gs])) vh'
    | none => .stuck
  | .stuck => .stuck
section
variable {c : Cn} {H : Hp} {ρ : Rho}
theorem RelDf.look : ∀ {fs : List (Str × D)} {gs : List V} {f : Str} {d : D}, RelDf c H ρ fs gs → List.lookup f fs = some d → ∃ v, List.lookup f ((fs.map (·.1)).zip gs) = some v ∧ RelD c H ρ d v
  | [], [], _, _, _, e => by cases e
  | (n, x) :: fs, v :: gs, f, d, ⟨r, t⟩, e => by
    simp only [List.lookup, List.map_cons, List.zip_cons_cons] at e ⊢
    split at e
    · cases e; exact ⟨v, rfl, r⟩
    · exact RelDf.look t e
end

section
variable {c : Cn} {X : Cx} {U : WX} {fb : FE} {xs : List Str} {P : Addr} {q : Str} {C0 : Addr} {base : Heap} {cs : List Value}
end
/-- the text's lambdas in g(lambda: e) -/
structure GTab (K : PySem.W.Frag) (base : Heap) (mg : Str → Option Value) (cO P : Addr) (q : Str) : Prop where
  t : LamT base mg cO P q
end Mn

namespace Mn
open PySem PySem.Spec PyProof.Rows L2
variable [TL : TabList]

/-! ### raising: what the walk takes -/
abbrev aaR : List Value := [.type "LookupError", .type "Exception", .type "BaseException", .type "object"]
abbrev axY : List Value := [.type "IndexError", .type "LookupError", .type "Exception", .type "BaseException", .type "object"]
theorem aDW : typeOf (.type "LookupError") = pure (.type "type") := by kernel_rfl
theorem aEp : typeOf (.type "IndexError") = pure (.type "type") := by kernel_rfl
/-- x may be raised with n arguments; its fields by fl -/
structure GRaise (P : Program) (w : World) (K : PySem.W.Frag) (mg : Str → Option Value) (base : Heap) (x : Str) (k n : Nat) (fl : List D → List (Str × D)) : Prop where
  ex : ∃ (C f : Addr) (fd : FuncData) (ps : List Str) (B newId initId : String) (bmB : List Value) (fn : List Str) (fv : List V → List (Str × V)), GExc K mg x C f B newId initId bmB fn ∧ FnOk P w K mg base (L2.CX P w) k f fd ps (spX K B newId initId bmB n fn fv) ∧ Binds K fd ps [] ∧ avM n fv fl
section
variable {X : Cx} {c : Cn} {U : WX} {x : Str} {k n : Nat} {fl : List D → List (Str × D)} {fa : FA} {e : Expr} {es : List Expr} {p pos pos' : Pos}
end
/-! ### the lambdas' rules -/
section
variable {X : Cx} {c : Cn} {U : WX} {d k : Nat} {g cO P : Addr} {x q : Str} {p pos lpos : Pos} {params : Arguments} {body : Expr} {scope : Scope} {cs : List Value} {xs : List Str} {fb : FE}
theorem agB {k : Nat} {A : Around} (r : Room k A) (n : Nat) (h : n ≤ 200 := by decide) : A.units + n < cLine := by have := r.un; omega
end
theorem XcF.nil {K : PySem.W.Frag} {mg : Str → Option Value} {cs : List Value} : XcF K mg cs [] := fun x hx => nomatch hx
theorem XcF.cons {K : PySem.W.Frag} {mg : Str → Option Value} {cs : List Value} {x : Str} {C : Addr} {xs : List Str} (m : mg x = some (.ref C)) (z1 : PySem.W.exmAny K (.ref C) cs = some true) (z2 : xfB K C = true) (z3 : allF.all (fun f => decide (PySem.W.findIn K (.ref C) f = some none)) = true) (r : XcF K mg cs xs) : XcF K mg cs (x :: xs) := fun y hy => by
  rcases List.mem_cons.mp hy with rfl | hy
  · exact ⟨C, m, z1, xfB_ok z2, fun f hf => of_decide_eq_true (List.all_eq_true.mp z3 f hf)⟩
  · exact r y hy
end Mn

namespace Mn
open PySem PySem.Spec PyProof.Rows L2
variable [TL : TabList]

/-! ### products, of a tuple too -/
def aF0 (x y : D) : Option D := match x, y with
  | .tup ds, .int k => if 2 ≤ k ∧ k ≤ 1000 ∧ ds ≠ [] ∧ ds.length ≤ 1000 then some (.tup (List.replicate k.toNat ds).flatten) else none
  | x, y => afK x y
section
variable {X : Cx} {c : Cn}
end
@[simp] theorem aES {i j : Int} : aF0 (.int i) (.int j) = afK (.int i) (.int j) := rfl
end Mn

namespace Mn
open PySem PySem.Spec PyProof.Rows L2
variable [TL : TabList]

/-! ### == and != by an own __eq__ -/
section
variable {prog : Program} {w : World} {A : Around} {E : Value → Shared → Prop} {s : Shared} {K : PySem.W.Frag} {x C L f : Addr} {h₀ : Heap} {m : Str → Option Value} {ox : Obj} {od : Option Obj} {b tb : Value}
end
/-- what of the text != needs -/
def NeOk (X : Cx) (tbl : List (Str × FC)) : Prop := ∀ n F, tbl.lookup n = some F → ∃ C : Addr, X.mg n = some (.ref C) ∧ PySem.W.mroIn X.K C (.type "object") = some true ∧ PySem.W.findIn X.K (.ref C) "__ne__" = some (some (.builtin "object.__ne__"))
theorem NeOk.nil {X : Cx} : NeOk X [] := fun _ _ h => nomatch h
theorem NeOk.cons {X : Cx} {n : Str} {F : FC} {C : Addr} {tbl : List (Str × FC)} (h0 : X.mg n = some (.ref C)) (h1 : PySem.W.mroIn X.K C (.type "object") = some true) (h2 : PySem.W.findIn X.K (.ref C) "__ne__" = some (some (.builtin "object.__ne__"))) (t : NeOk X tbl) : NeOk X ((n, F) :: tbl) := fun x G e => by
  rw [List.lookup_cons] at e
  cases q : x == n with
  | true => rw [beq_iff_eq.mp q]; exact ⟨C, h0, h1, h2⟩
  | false => rw [q] at e; exact t x G e
def eqC (tbl : List (Str × FC)) (n : Bool) (w1 w2 : W) (vh : VH) : Res W := opt (ajL vh w1) fun p1 => match ajL vh w2 with
  | some p2 => if p1.1 = p2.1 then aiT tbl vh w1 [w2] (an3 n) else .stuck
  | none => opt (see vh w2) fun x => match aeP x with
    | some _ => aiT tbl vh w1 [w2] (an3 n)
    | none => .stuck
def aIi (tbl : List (Str × FC)) (n : Bool) (fa fb : FE) : FE := fun e vh => bnd (fa e vh) fun w1 vh1 => bnd (fb e vh1) fun w2 vh2 => eqC tbl n w1 w2 vh2
@[simp] theorem aIf {tbl : List (Str × FC)} {n : Bool} {fa fb : FE} {e : Env} {vh : VH} : aIi tbl n fa fb e vh = bnd (fa e vh) fun w1 vh1 => bnd (fb e vh1) fun w2 vh2 => eqC tbl n w1 w2 vh2 := rfl
section
variable {X : Cx} {U : WX} {c : Cn} {k : Nat} {tbl : List (Str × FC)} {m : Str} {a b e : Expr} {fa fb : FE} {pos p : Pos}
end
end Mn

namespace Mn
open PySem PySem.Spec PyProof.Rows L2
variable [TL : TabList]

/-! ### == of dicts, is True, isinstance of an own class -/
inductive DHit (K : PySem.W.Frag) (H : Hp) (ls : List (Key × V)) : List (Key × V) → Bool → Prop
  | nil : DHit K H ls [] true
  | miss {k : Key} {v : V} {r : List (Key × V)} : valV ls k = none → DHit K H ls ((k, v) :: r) false
  | hit {k : Key} {v y : V} {d e : PyData} {r : List (Key × V)} {b : Bool} : valV ls k = some y → Dp K H v d → Dp K H y e → d.canLay0 = true → e.canLay0 = true → min d.depth e.depth ≤ 60 → DHit K H ls r b → DHit K H ls ((k, v) :: r) (PyData.eqv d e && b)
def aIR (K : PySem.W.Frag) : R2 := fun x y H Q => ∃ a b ks ls r, x = .ref a ∧ y = .ref b ∧ H a = some (.dK ks) ∧ H b = some (.dK ls) ∧ (ks.length = ls.length → DHit K H ls ks r) ∧ Q (.bl (decide (ks.length = ls.length) && r)) H
section
variable {X : Cx} {c : Cn} {U : WX}
end
/-- all keys of the one stand in the other, with equal values -/
def azU (b : List (D × D)) : List (D × D) → Option Bool
  | [] => some true
  | (k, v) :: r => match wM k with
    | some kk => match aqE b kk with
      | none => some false
      | some y => match wN v, wN y with
        | some p, some q => if min p.depth q.depth ≤ 60 then (azU b r).map (PyData.eqv p q && ·) else none
        | _, _ => none
    | none => none
def aJ1 (x y : D) : Option D := match x, y with
  | .dic false a, .dic false b => if a.length = b.length then (azU b a).map .bl else some (.bl false)
  | x, y => dEq x y
section
variable {X : Cx} {c : Cn} {U : WX}
def aJZ (x y : D) : Option D := match x, y with
  | .bl a, .bl b => some (.bl (decide (a = b)))
  | _, _ => none
def aG2 (x y : D) : Option D := match x, y with
  | .bl a, .bl b => some (.bl (!decide (a = b)))
  | _, _ => none
end
/-- what of the text isinstance(x, n) needs: the classes of the instances that are asked, with the answers -/
structure IsK (K : PySem.W.Frag) : Prop where
  hn : PySem.W.specialIn K (.builtin "object.__class__") "__get__" = some (some (.builtin "getset_descriptor.__get__"))
  tk : PySem.W.takesIn K (.builtin "object.__class__") = some true
structure IsC (K : PySem.W.Frag) (mg : Str → Option Value) (C : Addr) (n : Str) (b : Bool) : Prop where
  ex : ∃ D : Addr, mg n = some (.ref D) ∧ Cls K D ∧ PySem.W.findIn K (.ref D) "__class__" = some (some (.builtin "object.__class__")) ∧ PySem.W.mroIn K D (.type "object") = some true ∧ PySem.W.kitOne K (.ref D) (.ref C) = some b
def IsOk (K : PySem.W.Frag) (mg : Str → Option Value) (C : Addr) (tbl : List (Str × Bool)) : Prop := ∀ n b, tbl.lookup n = some b → IsC K mg C n b
theorem IsOk.nil {K : PySem.W.Frag} {mg : Str → Option Value} {C : Addr} : IsOk K mg C [] := fun _ _ h => nomatch h
theorem IsOk.cons {K : PySem.W.Frag} {mg : Str → Option Value} {C : Addr} {n : Str} {b : Bool} {tbl : List (Str × Bool)} (h : IsC K mg C n b) (t : IsOk K mg C tbl) : IsOk K mg C ((n, b) :: tbl) := fun x d e => by
  rw [List.lookup_cons] at e
  cases q : x == n with
  | true => rw [q] at e; cases e; rw [beq_iff_eq.mp q]; exact h
  | false => rw [q] at e; exact t x d e
def bareTys : List String := ["NoneType", "bool", "int", "str", "tuple", "list", "dict"]
/-- no built-in value is an instance of it -/
def IsB (K : PySem.W.Frag) (C : Addr) : Prop := bareTys.all (fun T => decide (PySem.W.kitOne K (.type T) (.ref C) = some false)) = true
def aFc (tbl : List (Str × Bool)) (vh : VH) (w : W) : Option Bool := match ajL vh w with
  | some p => tbl.lookup p.1
  | none => match see vh w with
    | some x => match aeP x with
      | some _ => some false
      | none => none
    | none => none
def aIz (tbl : List (Str × Bool)) (fa : FE) : FE := fun e vh => bnd (fa e vh) fun w vh1 => opt (aFc tbl vh1 w) fun b => .ok (.d (.bl b)) vh1
@[simp] theorem aIo {tbl : List (Str × Bool)} {fa : FE} {e : Env} {vh : VH} : aIz tbl fa e vh = bnd (fa e vh) fun w vh1 => opt (aFc tbl vh1 w) fun b => .ok (.d (.bl b)) vh1 := rfl
section
variable {X : Cx} {U : WX} {c : Cn} {tbl : List (Str × Bool)} {a : Expr} {fa : FE} {pos p p2 : Pos} {C : Addr} {n : Str}
end
end Mn

namespace Mn
open PySem PySem.Spec PyProof.Rows L2
variable [TL : TabList]

/-! ### texts put together, lists turned -/
def aFV (i : Int) : Str := toString i
def aJV : D → Option D
  | .int i => if 0 ≤ i ∧ i < 1000 then some (.str (aFV i)) else none
  | .str z => some (.str z)
  | _ => none
def aJK : List D → Option D
  | [.int i] => if 0 ≤ i ∧ i < 1000 then some (.str (aFV i)) else none
  | _ => none
def aKa : D → Option D
  | .lst ds => some (.lst ds.reverse)
  | _ => none
section
variable {X : Cx} {U : WX} {c : Cn} {a e : Expr} {fe : FE} {pos p p1 p2 p3 : Pos}
/-- the parts of a text, one behind the other -/
def mJs : List FE → Str → FE
  | [], acc => fun _ vh => .ok (.d (.str acc)) vh
  | f :: fs, acc => fun e vh => bnd (f e vh) fun w vh1 => match w with
    | .d (.str y) => if (acc ++ y).length ≤ sizeLine then mJs fs (acc ++ y) e vh1 else .stuck
    | _ => .stuck
inductive PMs (X : Cx) (c : Cn) (U : WX) : List Expr → List FE → Prop
  | nil : PMs X c U [] []
  | cons {e : Expr} {f : FE} {es : List Expr} {fs : List FE} (h : PE X e (tM c U f)) (r : PMs X c U es fs) : PMs X c U (e :: es) (f :: fs)
end
@[simp] theorem aE0 {acc : Str} {e : Env} {vh : VH} : mJs [] acc e vh = .ok (.d (.str acc)) vh := rfl
end Mn

namespace Mn
open PySem PySem.Spec PyProof.Rows L2
variable [TL : TabList]

/-! ### repr of a list display, whose items may be changeable lists -/
mutual
theorem aDT {K : PySem.W.Frag} {H H' : Hp} (e : Ext H H') : ∀ {v : V} {d : PyData}, Dp K H v d → Dp K H' v d
  | _, _, .non => .non
  | _, _, .bl b => .bl b
  | _, _, .int i => .int i
  | _, _, .str x => .str x
  | _, _, .lst h a => .lst (h.ext e) (dps_ext e a)
  | _, _, .tup h a => .tup (h.ext e) (dps_ext e a)
theorem dps_ext {K : PySem.W.Frag} {H H' : Hp} (e : Ext H H') : ∀ {vs : List V} {ds : List PyData}, DpAll K H vs ds → DpAll K H' vs ds
  | _, _, .nil => .nil
  | _, _, .cons h a => .cons (aDT e h) (dps_ext e a)
end
section
variable {X : Cx} {U : WX} {c : Cn} {fa : FA} {es : List Expr} {pos p p2 : Pos}
theorem RelRs.len {H : Hp} {ρ : Rho} : ∀ {ds : List D} {vs : List V}, RelRs c H ρ ds vs → ds.length = vs.length
  | [], [], _ => rfl
  | _ :: _, _ :: _, ⟨_, t⟩ => congrArg (· + 1) (RelRs.len t)
def aFD (fa : FA) : FE := fun e vh => bnd (fa e vh) fun ws vh1 => opt (agA vh1 ws) fun ds => if ds.length ≤ sizeLine then opt (af3 [.lst ds]) fun z => .ok (.d z) vh1 else .stuck
@[simp] theorem aHm {e : Env} {vh : VH} : aFD fa e vh = bnd (fa e vh) fun ws vh1 => opt (agA vh1 ws) fun ds => if ds.length ≤ sizeLine then opt (af3 [.lst ds]) fun z => .ok (.d z) vh1 else .stuck := rfl
/-! ### list(d.values()) as a changeable list -/
def aEJ (f : FE) : FE := fun e vh => bnd (f e vh) fun w vh1 => opt (see vh1 w) fun x => opt (aBM x) fun z => match z with
  | .lst ds => .ok (.ref vh1.length) (vh1 ++ [.lst ds])
  | _ => .stuck
@[simp] theorem aGx {f : FE} {e : Env} {vh : VH} : aEJ f e vh = bnd (f e vh) fun w vh1 => opt (see vh1 w) fun x => opt (aBM x) fun z => match z with
  | .lst ds => .ok (.ref vh1.length) (vh1 ++ [.lst ds])
  | _ => .stuck := rfl
variable {e : Expr} {f : FE} {apos cpos : Pos}
end
end Mn

namespace Mn
open PySem PySem.Spec PyProof.Rows L2
variable [TL : TabList]

/-! ### loops over a changeable list -/
/-- what a loop over w must find at each turn -/
def grd (o : Option Nat) (ds : List D) (vh : VH) : Prop := match o with
  | none => True
  | some k => vh[k]? = some (.lst ds)
def aEq (c : Cn) (o : Option Nat) (ds es : List D) (H0 : Hp) (ρ0 : Rho) (J : It) : Prop := ∀ H ρ vh i, Grow ρ0 H0 ρ → Fm H0 H ρ0 → RelH c H ρ vh → grd o ds vh →
  (i < es.length → J.go i H ∧ ∀ x H', J.yld i H x H' → Same H H' ∧ ∃ d, es[i]? = some d ∧ RelD c H' ρ d x) ∧ (es.length ≤ i → J.stop i H)
/-- where the list stands (none: it does not change), its items, what is given -/
structure Src3 where
  o : Option Nat
  ds : List D
  es : List D
abbrev FIW := Env → VH → Res Src3
def tMIW (c : Cn) (U : WX) (f : FIW) : TI := fun σ H R => ∃ e ρ vh, RelE c H ρ e σ ∧ RelH c H ρ vh ∧ Out c σ H ρ U (f e vh) fun t _ H' ρ' => ∀ J, aEq c t.o t.ds t.es H' ρ' J → R J H'
def aGy (g : List D → List D) (vh : VH) (k : Nat) : Res Src3 := match vh[k]? with
  | some (.lst ds) => .ok ⟨some k, ds, g ds⟩ vh
  | _ => .stuck
def aC0 (w : W) (vh : VH) : Res Src3 := match w with
  | .d x => opt (af0 x) fun ds => .ok ⟨none, ds, ds⟩ vh
  | .ref k => aGy id vh k
def aBx (w : W) (vh : VH) : Res Src3 := match w with
  | .d (.lst ds) => .ok ⟨none, ds, an9 0 ds⟩ vh
  | .d _ => .stuck
  | .ref k => aGy (an9 0) vh k
def aGw (f : FE) : FIW := fun e vh => bnd (f e vh) aC0
def aEx (f : FE) : FIW := fun e vh => bnd (f e vh) aBx
section
variable {X : Cx} {c : Cn} {U : WX} {pos p tpos : Pos} {tg iter a : Expr} {elts : List Expr} {kk : Nat} {f : FE}
end
open Classical in
noncomputable def ay9 (o : Option Nat) (ds : List D) (A : FTg) (f : FS) : List D → Env → VH → RS
  | [], e, vh => if grd o ds vh then .nx e vh else .stuck
  | d :: es, e, vh => if grd o ds vh then (match A d e with
    | none => .stuck
    | some e' => match f e' vh with
      | .nx e2 vh2 => ay9 o ds A f es e2 vh2
      | .ct e2 vh2 => ay9 o ds A f es e2 vh2
      | .bk e2 vh2 => .nx e2 vh2
      | r => r) else .stuck
noncomputable def aEk (fi : FIW) (A : FTg) (f : FS) : FS := fun e vh => lft (fi e vh) e fun t vh' => ay9 t.o t.ds A f t.es e vh'
@[simp] theorem aFw {fi : FIW} {A : FTg} {f : FS} {e : Env} {vh : VH} : aEk fi A f e vh = lft (fi e vh) e fun t vh' => ay9 t.o t.ds A f t.es e vh' := rfl
@[simp] theorem aHw {f : FE} {e : Env} {vh : VH} : aGw f e vh = bnd (f e vh) aC0 := rfl
@[simp] theorem aFR {f : FE} {e : Env} {vh : VH} : aEx f e vh = bnd (f e vh) aBx := rfl
section
variable {X : Cx} {c : Cn} {U : WX} {pos : Pos}
theorem tMIW.mono {f : FIW} {σ : L2.St} {H : Hp} {Q Q' : It → Hp → Prop} (h : tMIW c U f σ H Q) (q : ∀ v H, Q v H → Q' v H) : tMIW c U f σ H Q' := by
  obtain ⟨e, ρ, vh, he, hh, o⟩ := h
  exact ⟨e, ρ, vh, he, hh, o.mono fun _ _ _ _ k J fd => q _ _ (k J fd)⟩
end
end Mn

namespace Mn
open PySem PySem.Spec PyProof.Rows L2
variable [TL : TabList]

/-! ### defs that call themselves: by fuel; without fuel nothing is promised -/
def aDU : FN := fun _ _ => .stuck
theorem FnG.stuck {P : Program} {w : World} {K : PySem.W.Frag} {mg : Str → Option Value} {base : Heap} {k : Nat} {f : Addr} {fd : FuncData} {ps : List Str} : FnG P w K mg base k f fd ps aDU :=
  ⟨fun _ _ _ => rfl, fun A outer s H args us vs Q E hr ng e0 hb rv hsp => by
    obtain ⟨c, _, _, ws, ρ, vh, rs, hh, o⟩ := hsp
    exact o.elim⟩
end Mn

/-! enumerate(zip(t, u)) of two tuples: the pair that zip hands out is kept by enumerate's own one -/
namespace Mn
open PySem PySem.Spec PyProof.Rows
section
variable {prog : Program} {w : World} {A : Around} {E : Value → Shared → Prop} {s : Shared}
/-- a zip, whatever it remembers of the tuple that it handed out last -/
def aDK (h : Heap) (z TI TO : Addr) : Prop := ∃ (own : Value) (f : Bool), (own = .none ∨ ∃ T : Addr, own = rawInt T) ∧ h.get? z = some { cls := .type "zip", dict := none, data := .fields #[own, .bool f, .bool false, .ref TI, .ref TO], slots := #[] }
structure ZipSt (h : Heap) (z TI TO i1 i2 l1 l2 : Addr) (k : Nat) : Prop where
  z : aDK h z TI TO
  ti : IsPair h TI (.ref i1) (.ref i2)
  tot : ∃ a b, IsPair h TO a b
  i1 : h.IsTupleIter i1 l1 k
  i2 : h.IsTupleIter i2 l2 k
end
end Mn

namespace Mn
open PySem PySem.Spec PyProof.Rows
section
variable {prog : Program} {w : World} {A : Around} {E : Value → Shared → Prop} {s : Shared}
/-! ### enumerate over it -/
/-! ### enumerate(zip(..)) is made -/
end
end Mn

namespace Mn
open PySem PySem.Spec PyProof.Rows L2
variable [TabList]
section
variable {X : Cx} {pins : List (Addr × Obj)} {σ : L2.St} {H : Hp} {s : Shared} {S : Addr} {ob : HO}
end
/-- the tuples at a and b as they stand at each turn: the items in new pairs, those in numbered pairs -/
def aKh (K : PySem.W.Frag) (a b : Addr) : It :=
  ⟨fun i H => ∃ (xs ys : List V) (x y : V), SqT K H a xs ∧ SqT K H b ys ∧ xs[i]? = some x ∧ ys[i]? = some y,
    fun i H v H' => ∃ T T2 x y, v = .ref T2 ∧ H T = none ∧ H T2 = none ∧ T ≠ T2 ∧ H' = upd (upd H T (.tup [x, y])) T2 (.tup [.int (i : Nat), .ref T]) ∧ (∀ xs, SqT K H a xs → xs[i]? = some x) ∧ ∀ ys, SqT K H b ys → ys[i]? = some y,
    fun i H => ∃ xs ys : List V, SqT K H a xs ∧ SqT K H b ys ∧ (xs.length ≤ i ∨ ys.length ≤ i)⟩
def axC (ws : List W) (vh : VH) : Res (List D) := match ws with
  | [.d x, .d y] => match aCk x, aCk y with
    | some ds, some es => .ok (an9 0 (awO ds es)) vh
    | _, _ => .stuck
  | _ => .stuck
def aDP (fa : FA) : FI := fun e vh => bnd (fa e vh) axC
@[simp] theorem aFW {fa : FA} {e : Env} {vh : VH} : aDP fa e vh = bnd (fa e vh) axC := rfl
@[simp] theorem aDJ {ds es : List D} {vh : VH} : axC [.d (.tup ds), .d (.tup es)] vh = .ok (an9 0 (awO ds es)) vh := rfl
section
variable {X : Cx} {c : Cn} {U : WX} {pos p pos2 p2 tpos : Pos} {elts : List Expr} {kk : Nat} {a b : Expr} {fa : FA}
end
end Mn

namespace Mn
open PySem PyProof.Rows
open Sem (wp)

/-! ### a run never wakes a generator that cannot be woken -/
/-- asleep for good: looks as before, but cannot go on -/
def aw8 : GenState → GenState
  | .suspended _ l c p fs cl => .suspended (fun _ => .unsupported "dead") l c p fs cl
  | x => x
def awQ : GenState → Bool
  | .suspended .. => true
  | _ => false
/-- its frames hold no generator's mark -/
def aCM : GenState → Prop
  | .suspended _ _ _ _ fs _ => splitAtGen fs = none
  | _ => True
def ClnE : End → Prop
  | .ret _ => True
  | .susp _ _ _ _ _ _ fs => splitAtGen fs = none
theorem ClnE.gen {e : End} (h : ClnE e) : aCM e.genState := by cases e <;> exact h
/-- g: the table with the sleepers of D dead, G: the table with them alive -/
structure RevG (D : Nat → Option GenState) (g G : Array GenState) : Prop where
  size : g.size = G.size
  at' : ∀ i, (∃ x, D i = some x ∧ awQ x = true ∧ g[i]? = some (aw8 x) ∧ G[i]? = some x) ∨ (D i = none ∧ G[i]? = g[i]? ∧ ∀ x, g[i]? = some x → aCM x)
section
variable {D : Nat → Option GenState} {g G : Array GenState}
theorem RevG.free (h : RevG D g G) {i : Nat} {x : GenState} (e : g[i]? = some x) (n : awQ x = false) : D i = none ∧ G[i]? = some x := by
  rcases h.at' i with ⟨z, _, e0, e1, e2⟩ | ⟨e0, e1, _⟩
  · rw [e] at e1; cases e1
    cases z <;> simp [awQ, aw8] at e0 n
  · exact ⟨e0, e1.trans e⟩
theorem RevG.set (h : RevG D g G) {i : Nat} {x : GenState} (hi : D i = none) (c : aCM x) : RevG D (g.setIfInBounds i x) (G.setIfInBounds i x) where
  size := by simp [h.size]
  at' := fun j => by
    by_cases e : i = j
    · subst e
      refine .inr ⟨hi, ?_, fun y hy => ?_⟩
      · rw [Array.getElem?_setIfInBounds, Array.getElem?_setIfInBounds, if_pos rfl, if_pos rfl, h.size]
      · rw [Array.getElem?_setIfInBounds, if_pos rfl] at hy
        split at hy
        · cases hy; exact c
        · cases hy
    · rw [Array.getElem?_setIfInBounds, Array.getElem?_setIfInBounds, if_neg e, if_neg e]
      exact h.at' j
theorem RevG.push (h : RevG D g G) {x : GenState} (c : aCM x) : RevG D (g.push x) (G.push x) where
  size := by simp [h.size]
  at' := fun j => by
    rw [Array.getElem?_push, Array.getElem?_push, h.size]
    split
    · rename_i e
      refine .inr ⟨?_, rfl, fun y hy => by cases hy; exact c⟩
      rcases h.at' j with ⟨z, _, _, e1, e2⟩ | ⟨e0, _, _⟩
      · have := (Array.getElem?_eq_some_iff.mp e2).1
        omega
      · exact e0
    · exact h.at' j
end
/-- all sleepers of a table, dead -/
def aGN (G : Array GenState) : Array GenState := G.map aw8
end Mn

namespace Mn
open PySem PySem.Spec PyProof.Rows L2 GenW
variable [TL : TabList]

/-! ### a stretch of a generator's run: from a waking to the next item or the end -/
def Stretch (M : Model) (A : Around) (Φ : End → Shared → Prop) (c : Code) (t : Sem PySem.Fin) (fs : List Frame) (s : Shared) : Prop :=
  ∀ (Γ : PySem.Ctx) (p : Pos), Γ.code = c → Γ.Woken A → ∃ e s', Runs M Γ p t fs s e s' ∧ Φ e s'
section
variable {M : Model} {A : Around} {Φ : End → Shared → Prop} {c c' : Code} {fs : List Frame} {s : Shared} {α : Type}
theorem Stretch.wrap {m : Sem α} {K : α → Sem PySem.Fin} {J : Value → Sem PySem.Fin} {gd : Bool → Bool} {lv : List Value → List Value}
    (h : wpAny M (A.over c fs) m (fun a s1 => Stretch M A Φ c (K a) fs s1) (fun x s1 => Stretch M A Φ c (J x) fs s1) s) : Stretch M A Φ c (m.wrap K J gd lv) fs s := by
  intro Γ p ec wk
  subst ec
  exact runs_wrap_of_wp K J gd lv m (h (Γ.over fs) p (wk.over fs)) (fun a q s1 z => z Γ q rfl wk) fun x q s1 z => z Γ q rfl wk
theorem Stretch.bind {m : Sem α} {K : α → Sem PySem.Fin} (h : wpAny M (A.over c fs) m (fun a s1 => Stretch M A Φ c (K a) fs s1) (fun x s1 => Stretch M A Φ c (.raise x) fs s1) s) : Stretch M A Φ c (m >>= K) fs s := by
  rw [Sem.bind_eq_wrap']
  exact Stretch.wrap h
theorem Stretch.at {p' : Pos} {k : Unit → Sem PySem.Fin} (h : Stretch M A Φ c (k ()) fs s) : Stretch M A Φ c (.at p' k) fs s :=
  Stretch.wrap (m := standAt p') (K := k) (J := Sem.raise) (gd := id) (lv := id) (wpAny_standAt h)
theorem Stretch.call {h : Option Value} {g : Bool} {l : List Value} {k : Result → Sem PySem.Fin} (hc : ∀ p, Stretch M A Φ c' (M.den c') (.ret k h g l c p [] :: fs) s) : Stretch M A Φ c (.call c' h g l k) fs s := by
  intro Γ p ec wk
  subst ec
  obtain ⟨e, s1, r, z⟩ := hc p (Γ.goto c') p rfl (wk.goto c')
  exact ⟨e, s1, runs_call_seg r, z⟩
end

/-! ### a generator's frame, and what stands around it whenever it is woken -/
structure GW where
  P : Program
  w : World
  K : PySem.W.Frag
  mg : Str → Option Value
  base : Heap
  N : List Str
  qual : Str
  sc : Scope
  f : Addr
  cd : Value
  A : Around
  outer : List PySem.Env
  /-- its locals -/
  L : Addr
  /-- its own object -/
  a : Addr
  oa : Obj
def GW.env (W : GW) : PySem.Env := envOfC W.qual W.sc W.L W.f W.cd
abbrev NoE : XK := fun _ _ _ => False
abbrev NoX : WX := fun _ _ _ _ => False
def GW.cx (W : GW) (s : Shared) (H : Hp) : Cx where
  prog := W.P
  w := W.w
  K := W.K
  mg := W.mg
  base := W.base
  A := W.A.deeper W.env
  N := W.N
  s_0 := s
  H_0 := H
  env := W.env
  outer := W.outer
  stack := W.env :: W.outer
  ex := []
  calm := true
  fn := fun _ => true
  pn := []
  xe := fun e s' => wpAny (model W.P W.w) (W.A.deeper W.env) (leaving W.env e) (fun _ s'' => L2.CX W.P W.w W.outer H s NoE e s'') (fun e' s'' => L2.CX W.P W.w W.outer H s NoE e' s'') s'
/-- the heap below an address -/
def azP (h : Heap) (L : Nat) : Heap := { h with objs := h.objs.extract 0 L }
def aBe (s : Shared) (L : Nat) : Shared := { s with heap := azP s.heap L }
theorem axX {h : Heap} {L : Nat} (l : L ≤ h.objs.size) : (azP h L).objs.size = L := by
  unfold azP
  simp only [Array.size_extract]
  omega
end Mn

namespace Mn
open PySem PySem.Spec PyProof.Rows L2 GenW
variable [TL : TabList]

/-! ### from one stretch to the next -/
/-- hid may be written in between: all other things stay, and what is written later was there or is new -/
structure Wk (hid : List Addr) (H : Hp) (hid' : List Addr) (H' : Hp) : Prop where
  new : ∀ a ∈ hid', a ∈ hid ∨ H a = none
  keep : ∀ a o, a ∉ hid → H a = some o → (∀ ps, o ≠ .tbl ps) → H' a = some o
  there : ∀ a, a ∉ hid → H' a = none → H a = none
theorem Wk.trans {h0 h1 h2 : List Addr} {H0 H1 H2 : Hp} (a : Wk h0 H0 h1 H1) (b : Wk h1 H1 h2 H2) : Wk h0 H0 h2 H2 := by
  have up : ∀ x o, x ∉ h0 → H0 x = some o → x ∉ h1 := fun x o n e z => (a.new x z).elim n fun z => by rw [e] at z; cases z
  have dn : ∀ x, x ∉ h0 → H1 x = none → H0 x = none := a.there
  refine ⟨fun x hx => ?_, fun x o n e nt => b.keep x o (up x o n e) (a.keep x o n e nt) nt, fun x n e => ?_⟩
  · rcases b.new x hx with z | z
    · exact a.new x z
    · by_cases n : x ∈ h0
      · exact .inl n
      · exact .inr (dn x n z)
  · cases q : H0 x with
    | none => rfl
    | some o => rw [← q]; exact dn x n (b.there x (up x o n q) e)
section
variable {K : PySem.W.Frag} {mg : Str → Option Value} {hid hid' : List Addr} {H H' : Hp}
theorem Wk.rd (w : Wk hid H hid' H') {x : D} {v : V} (h : RelD ⟨K, mg, hid⟩ H [] x v) : RelD ⟨K, mg, hid'⟩ H' [] x v := by
  have m1 : Mv ⟨K, mg, hid⟩ [] ⟨K, mg, hid ++ hid'⟩ [] H := ⟨rfl, rfl, fun a o n e => ⟨n.1, fun z => (List.mem_append.mp z).elim n.2 fun z => (w.new a z).elim n.2 fun z => by rw [e] at z; cases z⟩⟩
  have m2 : Mv ⟨K, mg, hid ++ hid'⟩ [] ⟨K, mg, hid'⟩ [] H' := ⟨rfl, rfl, fun a o n _ => ⟨n.1, fun z => n.2 (List.mem_append_right _ z)⟩⟩
  exact RelD.mv m2 (RelD.stayw (Grow.refl _ _) (fun a o n e nt => w.keep a o (fun z => n.2 (List.mem_append_left _ z)) e nt) (RelD.mv m1 h))
theorem Wk.re (w : Wk hid H hid' H') {e : Env} {σ : L2.St} (h : RelE ⟨K, mg, hid⟩ H [] e σ) : RelE ⟨K, mg, hid'⟩ H' [] e σ := RelE.conv (Pre.refl _) (fun _ _ q => w.rd q) h
end

/-- the frame as it stands amid a stretch that began at s0, H0; ip: its own iterators -/
structure Cur (W : GW) (s0 : Shared) (H0 : Hp) (pins : List (Addr × Obj)) (hid : List Addr) (ip : List (Addr × Obj)) (e : Env) (σ : L2.St) (H : Hp) (s : Shared) : Prop where
  inv : Inv (W.cx (aBe s0 W.L) H0) (ip ++ (W.a, W.oa) :: pins) σ H s
  re : RelE ⟨W.K, W.mg, hid⟩ H [] e σ
  rh : RelH ⟨W.K, W.mg, hid⟩ H [] []
  fm : Fm H0 H []
structure Lay (W : GW) (s0 : Shared) (pins ip : List (Addr × Obj)) : Prop where
  sz : W.L ≤ s0.heap.objs.size
  dis : ∀ p ∈ pins, ∀ q ∈ ip, p.1 ≠ q.1
def aGr (W : GW) (s0 : Shared) (H0 : Hp) (pins : List (Addr × Obj)) (hid : List Addr) : End → Shared → Prop
  | .ret r, s1 => r = .ok (.ret .none) ∧ ∃ e σ H, Cur W s0 H0 pins hid [] e σ H s1
  | .susp .., _ => False
abbrev Nxt := List Addr → Hp → Env → L2.St → List (Addr × Obj) → Code → Sem PySem.Fin → List Frame → Prop
def aFC (W : GW) (s0 : Shared) (H0 : Hp) (pins : List (Addr × Obj)) (hid : List Addr) (y : D) (nxt : Nxt) : End → Shared → Prop
  | .ret _, _ => False
  | .susp v g l k c _ fs, s1 => (g || fs.any Frame.guarded) = false ∧ ∃ x e ip σ H, RelV x v ∧ RelD ⟨W.K, W.mg, hid⟩ H [] y x ∧ Cur W s0 H0 pins hid ip e σ H s1 ∧ (∀ p ∈ ip, W.L < p.1) ∧ (∀ p ∈ pins, ∀ q ∈ ip, p.1 ≠ q.1) ∧ nxt hid H e σ ip c (k (.send .none)) fs
/-- asleep: it will hand out these, one by one, and end -/
def Go (W : GW) : List D → Nxt
  | [] => fun hd Hd e σ ip c t fs => ∀ s H pins hid, Lay W s pins ip → Wk hd Hd hid H → Cur W s H pins hid ip e σ H s → Stretch (model W.P W.w) W.A (aGr W s H pins hid) c t fs s
  | y :: ys => fun hd Hd e σ ip c t fs => ∀ s H pins hid, Lay W s pins ip → Wk hd Hd hid H → Cur W s H pins hid ip e σ H s → Stretch (model W.P W.w) W.A (aFC W s H pins hid y (Go W ys)) c t fs s
def aH8 (W : GW) (s0 : Shared) (H0 : Hp) (pins : List (Addr × Obj)) (hid : List Addr) : List D → End → Shared → Prop
  | [] => aGr W s0 H0 pins hid
  | y :: ys => aFC W s0 H0 pins hid y (Go W ys)
abbrev aCx (W : GW) (s0 : Shared) (H0 : Hp) (pins : List (Addr × Obj)) (hid : List Addr) (ys : List D) (c : Code) (t : Sem PySem.Fin) (fs : List Frame) (s : Shared) : Prop := Stretch (model W.P W.w) W.A (aH8 W s0 H0 pins hid ys) c t fs s
theorem Go.of {W : GW} {ys : List D} {hd : List Addr} {Hd : Hp} {e : Env} {σ : L2.St} {ip : List (Addr × Obj)} {c : Code} {t : Sem PySem.Fin} {fs : List Frame}
    (h : ∀ s H pins hid, Lay W s pins ip → Wk hd Hd hid H → Cur W s H pins hid ip e σ H s → aCx W s H pins hid ys c t fs s) : Go W ys hd Hd e σ ip c t fs := by
  cases ys with
  | nil => exact h
  | cons y ys => exact h
theorem Go.to {W : GW} {ys : List D} {hd : List Addr} {Hd : Hp} {e : Env} {σ : L2.St} {ip : List (Addr × Obj)} {c : Code} {t : Sem PySem.Fin} {fs : List Frame} (g : Go W ys hd Hd e σ ip c t fs) :
    ∀ s H pins hid, Lay W s pins ip → Wk hd Hd hid H → Cur W s H pins hid ip e σ H s → aCx W s H pins hid ys c t fs s := by
  cases ys with
  | nil => exact g
  | cons y ys => exact g

/-! ### statements of a generator: what they hand out, where they end -/
inductive GF where
  | nx (e : Env) | bk (e : Env) | ct (e : Env)
def GF.env : GF → Env
  | .nx e => e
  | .bk e => e
  | .ct e => e
def GF.flow : GF → Flow
  | .nx _ => .next
  | .bk _ => .brk
  | .ct _ => .cont
abbrev FGS := Env → Option (List D × GF)
structure GPt (W : GW) (c : Code) (fs : List Frame) (gd : Bool → Bool) : Prop where
  over : W.A.over c fs = W.A.deeper W.env
  split : splitAtGen fs = none
  guard : fs.any Frame.guarded = false
  gd : gd false = false
/-- a tree that belongs to a statement, whatever comes behind it -/
def aFI (W : GW) (t : (Flow → Sem PySem.Fin) → (Value → Sem PySem.Fin) → (Bool → Bool) → (List Value → List Value) → Sem PySem.Fin) (g : FGS) : Prop :=
  ∀ (c : Code) (fs : List Frame) (K : Flow → Sem PySem.Fin) (J : Value → Sem PySem.Fin) (gd : Bool → Bool) (lv : List Value → List Value) (ip : List (Addr × Obj)), GPt W c fs gd → (∀ p ∈ ip, W.L < p.1) →
    ∀ (zs ys : List D) (gf : GF) (s0 : Shared) (H0 : Hp) (pins : List (Addr × Obj)) (hid : List Addr) (e : Env) (σ : L2.St) (H : Hp) (s : Shared), Lay W s0 pins ip → Cur W s0 H0 pins hid ip e σ H s → g e = some (ys, gf) →
    (∀ (s1 : Shared) (H1 : Hp) (pins' : List (Addr × Obj)) (hid' : List Addr) (σ' : L2.St) (H' : Hp) (s' : Shared), Lay W s1 pins' ip → Wk hid H hid' H' → Cur W s1 H1 pins' hid' ip gf.env σ' H' s' → aCx W s1 H1 pins' hid' zs c (K gf.flow) fs s') →
    aCx W s0 H0 pins hid (ys ++ zs) c (t K J gd lv) fs s
structure GSt (W : GW) (st : Stmt) (g : FGS) : Prop where
  run : aFI W (fun K J gd lv => (exec st W.env).wrap K J gd lv) g
structure GSs (W : GW) (sts : List Stmt) (g : FGS) : Prop where
  run : aFI W (fun K J gd lv => (execs sts W.env).wrap K J gd lv) g

section
variable {W : GW} {st : Stmt} {sts : List Stmt}
/-- without an item -/
def GF.rs : GF → RS
  | .nx e => .nx e []
  | .bk e => .bk e []
  | .ct e => .ct e []
def aHW (f : FS) : FGS := fun e => match f e [] with
  | .nx e' [] => some ([], .nx e')
  | .bk e' [] => some ([], .bk e')
  | .ct e' [] => some ([], .ct e')
  | _ => none
def aJ9 : FGS := fun e => some ([], .nx e)
def aJE (f g : FGS) : FGS := fun e => match f e with
  | some (ys, .nx e') => match g e' with
    | some (zs, r) => some (ys ++ zs, r)
    | none => none
  | r => r
end
end Mn

namespace Mn
open PySem PySem.Spec PyProof.Rows L2 GenW
variable [TL : TabList]

section
variable {W : GW} {st : Stmt} {A B : List Stmt} {x test tg iter : Expr} {pos yp : Pos}
/-! ### if -/
def gIf (t : FT) (f g : FGS) : FGS := fun e => match t e [] with
  | .ok true [] => f e
  | .ok false [] => g e
  | _ => none
/-! ### yield -/
def aIE (f : FE) : FGS := fun e => match f e [] with
  | .ok (.d y) [] => some ([y], .nx e)
  | _ => none
end
end Mn

namespace Mn
open PySem PySem.Spec PyProof.Rows L2 GenW
variable [TL : TabList]

/-! ### for, within a generator, over a list or a tuple of data -/
def aD6 (A : FTg) (g : FGS) : List D → Env → Option (List D × Env)
  | [], e => some ([], e)
  | d :: ds, e => match A d e with
    | none => none
    | some e1 => match g e1 with
      | none => none
      | some (ys, gf) => match gf with
        | .bk e2 => some (ys, e2)
        | .nx e2 => match aD6 A g ds e2 with
          | none => none
          | some (zs, e3) => some (ys ++ zs, e3)
        | .ct e2 => match aD6 A g ds e2 with
          | none => none
          | some (zs, e3) => some (ys ++ zs, e3)
def aIF : Mn.W → Option (List D)
  | .d (.lst ds) => some ds
  | .d (.tup ds) => some ds
  | .d (.ctp ds) => some ds
  | _ => none
def aI7 (f : FE) (A : FTg) (g : FGS) : FGS := fun e => match f e [] with
  | .ok w [] => match aIF w with
    | none => none
    | some ds => match aD6 A g ds e with
      | none => none
      | some (ys, e') => some (ys, .nx e')
  | _ => none
/-- what an iterator over data is good for, as long as the data stand -/
def aH6 (W : GW) (dd : D) (ds : List D) (va : V) (J : It) : Prop := ∀ hid H i, RelD ⟨W.K, W.mg, hid⟩ H [] dd va →
  (i < ds.length → J.go i H ∧ ∀ x H2, J.yld i H x H2 → H2 = H ∧ ∃ d, ds[i]? = some d ∧ RelD ⟨W.K, W.mg, hid⟩ H [] d x) ∧ (ds.length ≤ i → J.stop i H)
structure Fpo (W : GW) (ip : List (Addr × Obj)) (b : Addr) : Prop where
  l : b ≠ W.L
  o : b ∉ frs W.outer
  u : W.L ≤ b
  a : b ≠ W.a
  p : ∀ q ∈ ip, q.1 ≠ b
section
variable {W : GW} {body : List Stmt} {tg iter : Expr} {pos : Pos}
theorem Fpo.ok {ip pins : List (Addr × Obj)} {b : Addr} {s0 : Shared} {H0 H : Hp} (h : Fpo W ip b) (hc : W.env.cells = []) (sz : W.L ≤ s0.heap.objs.size) (dis : ∀ p ∈ pins, p.1 ≠ b) (n : H b = none) : FpOk (W.cx (aBe s0 W.L) H0) (ip ++ (W.a, W.oa) :: pins) H b := by
  refine ⟨n, h.l, h.o, .inr ?_, fun x c e => ?_, fun p hp => ?_⟩
  · show (azP s0.heap W.L).objs.size ≤ b
    rw [axX sz]; exact h.u
  · have e' : W.env.cells.lookup x = some c := e
    rw [hc] at e'; cases e'
  · rcases List.mem_append.mp (show p ∈ [] ++ (ip ++ (W.a, W.oa) :: pins) from hp) with z | z
    · cases z
    · rcases List.mem_append.mp z with z | z
      · exact h.p p z
      · rcases List.mem_cons.mp z with z | z
        · rw [z]; exact Ne.symm h.a
        · exact dis p z
/-- the frame of a loop's call -/
abbrev aGT (env : PySem.Env) (K : Flow → Sem PySem.Fin) (J : Value → Sem PySem.Fin) (gd : Bool → Bool) (lv : List Value → List Value) (r : Result) : Sem PySem.Fin :=
  ((match r with | .ok f => (.pure f : Sem Flow) | .error x => .raise x).onRaise (cameBack env)).wrap K J gd lv
end
end Mn

namespace Mn
open PySem PySem.Spec PyProof.Rows L2 GenW
variable [TL : TabList]

/-! ### woken -/
def aG6 (M : Model) (A : Around) (Φ : End → Shared → Prop) (gs : GenState) (s : Shared) : Prop := match gs with
  | .fresh c => Stretch M A Φ c (M.den c) [] s
  | .suspended k _ c _ fs _ => Stretch M A Φ c (k (.send .none)) fs s
  | _ => False
/-! ### asleep, as its consumer agA it -/
def aKn (X : Cx) (A0 : Around) (N : List Str) (qual : Str) (sc : Scope) (f : Addr) (cd : Value) (L a : Addr) (oa : Obj) : GW := ⟨X.prog, X.w, X.K, X.mg, X.base, N, qual, sc, f, cd, A0.in1, X.stack, L, a, oa⟩
def GoS (W : GW) (gs : GenState) (ys : List D) (hid : List Addr) (H : Hp) (e : Env) (σ : L2.St) (ip : List (Addr × Obj)) : Prop := match gs with
  | .fresh c => Go W ys hid H e σ ip c ((model W.P W.w).den c) []
  | .suspended k _ c _ fs _ => Go W ys hid H e σ ip c (k (.send .none)) fs
  | _ => False
structure Slp (W : GW) (g : Nat) (gs : GenState) (oL : Obj) (ys : List D) (hid : List Addr) (H : Hp) (e : Env) (σ : L2.St) (ip : List (Addr × Obj)) : Prop where
  kind : W.sc.kind = .function
  cells : W.env.cells = []
  nocell : ∀ x, W.env.kindOf x ≠ some .cell ∧ W.env.kindOf x ≠ some .free
  len : σ.length = W.N.length
  gen : ∀ h : Heap, h.get? W.a = some W.oa → h.IsGen W.a g
  oad : ∀ v, W.oa.data ≠ .cell v
  old : ∀ v, oL.data ≠ .cell v
  al : W.L < W.a
  ips : ∀ p ∈ ip, W.L < p.1 ∧ ∀ v, p.2.data ≠ .cell v
  loc : ∃ m, (∀ h : Heap, h.get? W.L = some oL → h.Ns W.L m) ∧ ∀ (i : Nat) (x : Str) (v : V), W.N[i]? = some x → σ[i]? = some (some v) → Vis W.sc x → ∃ u, RelV v u ∧ W.env.kindOf x = some .local ∧ m x = some u
  re : RelE ⟨W.K, W.mg, hid⟩ H [] e σ
  go : GoS W gs ys hid H e σ ip
/-- all of the consumer's stands below the generator's frame -/
structure Below (X : Cx) (pins : List (Addr × Obj)) (L : Addr) : Prop where
  z : X.s_0.heap.objs.size ≤ L
  l : X.env.locals < L
  c : ∀ x c, X.env.cells.lookup x = some c → c < L
  p : ∀ p ∈ X.pn ++ pins, p.1 ≠ L
theorem Below.of {X : Cx} {pins : List (Addr × Obj)} {σ : L2.St} {H : Hp} {s : Shared} (I : Inv X pins σ H s) : Below X pins s.heap.objs.size where
  z := I.sz
  l := I.lt
  c := fun x c e => let ⟨_, q⟩ := I.cell x c e; q.lt
  p := fun p hp => Nat.ne_of_lt (Heap.lt_size (I.pin p hp).1)
section
variable {X : Cx} {A0 : Around} {pins : List (Addr × Obj)} {N : List Str} {qual : Str} {sc : Scope} {f : Addr} {cd : Value} {L a : Addr} {oa : Obj} {g : Nat} {gs : GenState} {oL : Obj} {ys : List D} {hid hid' : List Addr} {H H' H2 : Hp} {e : Env} {σ σc : L2.St} {ip : List (Addr × Obj)} {s s1 : Shared}
theorem Below.fs (B : Below X pins L) (I : Inv X pins σc H s) {b : Addr} (h : b ∈ X.fs) : b < L := by
  obtain ⟨_, o, ho, _⟩ := I.ok.funs.mem h
  exact Nat.lt_of_lt_of_le (Heap.lt_size ho) B.z
end
end Mn

namespace Mn
open PySem PySem.Spec PyProof.Rows L2 GenW
variable [TL : TabList]
section
variable {X : Cx} {A0 : Around} {pins : List (Addr × Obj)} {N : List Str} {qual : Str} {sc : Scope} {f : Addr} {cd : Value} {L a : Addr} {oa : Obj} {g : Nat} {gs : GenState} {oL : Obj} {ys : List D} {hid hid' : List Addr} {H H' H2 : Hp} {e e' : Env} {σ σ' σc : L2.St} {ip ip' : List (Addr × Obj)} {s s0 s1 s2 : Shared}
end
end Mn

namespace Mn
open PySem PySem.Spec PyProof.Rows L2 GenW
variable [TL : TabList]

/-! ### a generator def, called -/
def apC (c : Cn) (ρ : Rho) : List Addr := ρ.filterMap id ++ c.hid
theorem mem_hidOf {c : Cn} {ρ : Rho} {a : Addr} : a ∉ apC c ρ ↔ Off c ρ a := by
  unfold apC Off
  rw [List.mem_append, List.mem_filterMap]
  constructor
  · intro h
    exact ⟨fun z => h (.inl ⟨_, z, rfl⟩), fun z => h (.inr z)⟩
  · rintro ⟨h1, h2⟩ (⟨o, z, e⟩ | z)
    · cases o with
      | none => cases e
      | some b => cases e; exact h1 z
    · exact h2 z
section
variable {c : Cn} {H H' : Hp} {ρ ρ' : Rho} {vh : VH}
theorem Mv.hid : Mv c ρ ⟨c.K, c.mg, apC c ρ⟩ [] H := ⟨rfl, rfl, fun a o h _ => ⟨by simp, mem_hidOf.mpr h⟩⟩
theorem Mv.shown : Mv ⟨c.K, c.mg, apC c ρ⟩ [] c ρ H := ⟨rfl, rfl, fun a o h _ => mem_hidOf.mp h.2⟩
/-- behind a stretch: what the consumer tracks stands as it stood -/
theorem RelH.over (h : RelH c H ρ vh) (f : Fm H H' []) (h2 : RelH ⟨c.K, c.mg, apC c ρ⟩ H' [] []) : RelH c H' ρ vh where
  len := h.len
  inj := h.inj
  at' := fun i vo e => by
    obtain ⟨o, ho, r⟩ := h.at' i vo e
    refine ⟨o, ho, ?_⟩
    have fw : Fw c H H' ρ := fun a o _ e nt => f.at (by simp) e nt
    cases vo with
    | dead => exact r
    | lsw ws => obtain ⟨a, xs, e, hH, l, rr⟩ := r; exact ⟨a, xs, e, f.at (by simp) hH (fun ps z => nomatch z), l, rr.stayw (Grow.refl _ _) fw⟩
    | tpw ws => obtain ⟨a, xs, e, hH, l, hr, rr⟩ := r; exact ⟨a, xs, e, f.at (by simp) hH (fun ps z => nomatch z), l, hr, rr.stayw (Grow.refl _ _) fw⟩
    | lst ds => obtain ⟨a, xs, e, hH, l, rr⟩ := r; exact ⟨a, xs, e, f.at (by simp) hH (fun ps z => nomatch z), l, rr.stayw (Grow.refl _ _) fw⟩
    | dic t kvs => obtain ⟨a, xs, e, hH, rr⟩ := r; exact ⟨a, xs, e, hH.to fun o q nt => f.at (by simp) q nt, rr.stayw (Grow.refl _ _) fw⟩
    | ins n fs => obtain ⟨a, C, dx, xs, e, hm, hH, rr⟩ := r; exact ⟨a, C, dx, xs, e, hm, f.at (by simp) hH (fun ps z => nomatch z), rr.stayw (Grow.refl _ _) fw⟩
  hid := fun a ha => by
    obtain ⟨⟨o, e, nt⟩, n⟩ := h.hid a ha
    refine ⟨?_, n⟩
    rcases f.1 a o (by simp) e with q | ⟨ps, more, rfl, q⟩
    · exact ⟨o, q, nt⟩
    · exact ⟨_, q, fun _ z => nomatch z⟩
  tab := h2.tab.to fun b o n e => ⟨mem_hidOf.mp n.2, e⟩
theorem Fm.any (f : Fm H H' []) : Fm H H' ρ := ⟨fun a o _ e => f.1 a o (by simp) e, f.2⟩
end

/-- a generator that has not begun -/
def GMk (P : Program) (w : World) (K : PySem.W.Frag) (mg : Str → Option Value) (base : Heap) (k : Nat) (outer : List PySem.Env) (s : Shared) (H : Hp) (hid : List Addr) (ys : List D) (u : Value) (s' : Shared) : Prop :=
  ∃ (N : List Str) (qual : Str) (sc : Scope) (f : Addr) (cd : Value) (a : Addr) (oa oL : Obj) (g : Nat) (gs : GenState) (e : Env) (σ : L2.St), u = .ref a ∧ s'.heap.get? a = some oa ∧ s'.heap.get? s.heap.objs.size = some oL ∧ s'.gens[g]? = some gs ∧ s'.os = s.os ∧ AllBare s'.gens ∧ (∀ b o, s.heap.get? b = some o → s'.heap.get? b = some o) ∧
    ∀ A : Around, Room k A → NoGuard A → A.frames = some outer → Slp ⟨P, w, K, mg, base, N, qual, sc, f, cd, A, outer, s.heap.objs.size, a, oa⟩ g gs oL ys hid H e σ []
abbrev FGn := List Mn.W → List Mn.W → Option (List D)
structure GnC (P : Program) (w : World) (K : PySem.W.Frag) (mg : Str → Option Value) (base : Heap) (k : Nat) (f : Addr) (ks : List Str) (F : FGn) : Prop where
  go : ∀ (A : Around) (outer : List PySem.Env) (s : Shared) (H : Hp) (us uz : List Value) (vs zs : List V) (c : Cn) (ρ : Rho) (vh : VH) (ws wz : List Mn.W) (ys : List D), c.K = K → c.mg = mg → Room k A → NoGuard A → Env0 P w K mg base A outer s H → Vals vs us → Vals zs uz → RelWs c H ρ ws vs → RelWs c H ρ wz zs → RelH c H ρ vh → F ws wz = some ys →
    codeAny (model P w) A (.call (.ref f) ⟨us, ks.zip uz⟩) (fun r s' => ∃ u, r = .ok (.ret u) ∧ GMk P w K mg base k outer s H (apC c ρ) ys u s') s
def aI8 (n m : Nat) (srcs : List Src) (dws : List Mn.W) (np nn : Nat) (g : FGS) : FGn := fun ws zs =>
  if ws.length = n ∧ zs.length = m then match rH (agF ws zs dws srcs) with
    | none => none
    | some xs => if xs.length = np then match g (yH np nn (xs.map .d)) with
      | some (ys, .nx _) => some ys
      | _ => none
    else none
  else none
section
variable {P : Program} {w : World} {K : PySem.W.Frag} {mg : Str → Option Value} {base : Heap} {k : Nat} {x qual : Str} {st : Stmt} {dd : List D} {kd : List (Str × D)} {f : Addr} {fd : FuncData} {ps ks N : List Str} {n : Nat} {srcs : List Src} {dws : List Mn.W} {g : FGS}
end
end Mn

namespace Mn
open PySem PySem.Spec PyProof.Rows L2 GenW
variable [TL : TabList]

/-! ### where no exception is looked for -/
abbrev aJb (X : Cx) : Cx := { X with xe := fun _ _ => False }
section
variable {X : Cx} {pins : List (Addr × Obj)} {σ : L2.St} {H : Hp} {s : Shared}
end
def azM (f : FS) : FS := fun e vh => match f e vh with
  | .exn _ _ _ => .stuck
  | r => r

/-! ### an expression whose value is a generator -/
def aE2 (F : FGn) (fa fk : FA) : FI := fun e vh => bnd (fa e vh) fun ws vh1 => bnd (fk e vh1) fun zs vh2 => opt (F ws zs) fun ys => .ok ys vh2
def tGI (c : Cn) (U : WX) (f : FI) (σ : L2.St) (H : Hp) (Q : List D → Rho → Hp → Prop) : Prop := ∃ e ρ vh, RelE c H ρ e σ ∧ RelH c H ρ vh ∧ Out c σ H ρ U (f e vh) fun ys _ H' ρ' => Q ys ρ' H'
structure PGn (X : Cx) (k : Nat) (e : Expr) (c : Cn) (U : WX) (f : FI) : Prop where
  run : ∀ (pins : List (Addr × Obj)) (s : Shared) (σ : L2.St) (H : Hp) (Q : List D → Rho → Hp → Prop), Inv X pins σ H s → tGI c U f σ H Q →
    wpAny (model X.prog X.w) X.A (eval e X.env) (fun u s' => ∃ s1 H1 ρ1 ys, GMk X.prog X.w X.K X.mg X.base k X.stack s1 H1 (apC c ρ1) ys u s' ∧ Inv X pins σ H1 s1 ∧ Q ys ρ1 H1) X.xe s
section
variable {X : Cx} {c : Cn} {U : WX} {k : Nat} {f : Addr} {ks : List Str} {F : FGn} {e : Expr} {es : List Expr} {kws : List Keyword} {pos p : Pos} {x : Str} {fa fk : FA} {fi : FI}
/-! ### for over a generator -/
end
end Mn

namespace Mn
open PySem PySem.Spec PyProof.Rows L2 GenW
variable [TL : TabList]

/-! ### list(g) -/
section
variable {X : Cx} {pins : List (Addr × Obj)} {σ : L2.St} {H : Hp} {s : Shared} {S : Addr} {us : List V}
end
section
variable {X : Cx} {pins : List (Addr × Obj)} {N : List Str} {qual : Str} {sc : Scope} {f : Addr} {cd : Value} {L a S : Addr} {oa : Obj} {g : Nat} {hid' : List Addr} {σc : L2.St} {A : Around}
end
end Mn

namespace Mn
open PySem PySem.Spec PyProof.Rows L2 GenW
variable [TL : TabList]
section
variable {P : Program} {w : World} {A : Around} {s : Shared} {a : Addr} {g : Nat}
end
def aD5 (m : Bool) (fi : FI) : FE := fun e vh => bnd (fi e vh) fun ys vh1 => if ys.length ≤ sizeLine then (if m then .ok (.ref vh1.length) (vh1 ++ [.lst ys]) else .ok (.d (.lst ys)) vh1) else .stuck
section
variable {X : Cx} {c : Cn} {U : WX} {k : Nat} {e : Expr} {fi : FI} {nm : Str} {p pos : Pos}
end
end Mn

namespace Mn
open PySem PySem.Spec PyProof.Rows L2 GenW
variable [TL : TabList]
/-! ### for the text of a generator's walk -/
@[simp] theorem aF6 {f : FS} {e e' : Env} {vh vh' : VH} (h : f e vh = .nx e' vh') : azM f e vh = .nx e' vh' := by unfold azM; rw [h]
@[simp] theorem aFs {f : FS} {e : Env} {vh vh' : VH} {w : W} (h : f e vh = .rt w vh') : azM f e vh = .rt w vh' := by unfold azM; rw [h]
@[simp] theorem aHs {F : FGn} {fa fk : FA} {e : Env} {vh : VH} : aE2 F fa fk e vh = bnd (fa e vh) fun ws vh1 => bnd (fk e vh1) fun zs vh2 => opt (F ws zs) fun ys => .ok ys vh2 := rfl
@[simp] theorem aFk {m : Bool} {fi : FI} {e : Env} {vh : VH} : aD5 m fi e vh = bnd (fi e vh) fun ys vh1 => if ys.length ≤ sizeLine then (if m then .ok (.ref vh1.length) (vh1 ++ [.lst ys]) else .ok (.d (.lst ys)) vh1) else .stuck := rfl
end Mn

namespace Mn
open PySem PySem.Spec PyProof.Rows L2 GenW
variable [TL : TabList]

/-! ### {(a, b): v}: a dict of one pair whose keys are tuples -/
def aJv (tk tv : TE) : TE := fun σ H Q => ∀ p, H p = none → tk σ (upd H p (.dT [])) fun x H1 => tv σ H1 fun y H2 => H2 p = some (.dT []) ∧ ∃ b k, x = .ref b ∧ H2 b = some (.tup (k.map kV)) ∧ Q (.ref p) (upd H2 p (.dT (putK [] k y)))
def aJw (fk fv : FE) : FE := fun e vh => bnd (fk e vh) fun wk vh1 => bnd (fv e vh1) fun wv vh2 => match wk, wv with
  | .d x, .d y => match wD x with
    | some _ => .ok (.ref vh2.length) (vh2 ++ [.dic true [(x, y)]])
    | none => .stuck
  | _, _ => .stuck
section
variable {X : Cx} {c : Cn} {U : WX} {ke ve : Expr} {fk fv : FE} {pos : Pos}
end

/-! ### x += e, ints -/
def aDb (i : Nat) (f : FE) : FS := fun e vh => lft (aCQ e[i]? vh) e fun w0 vh0 => lft (f e vh0) e fun w1 vh1 => match w0, w1 with
  | .d (.int a), .d (.int b) => .nx (e.set i (some (.d (.int (a + b))))) vh1
  | _, _ => .stuck
section
variable {X : Cx} {c : Cn} {U : WX} {pos : Pos}
end
@[simp] theorem aHo {i : Nat} {f : FE} {e : Env} {vh : VH} {a b : Int} {vh1 : VH} (h1 : e[i]? = some (some (.d (.int a)))) (h2 : f e vh = .ok (.d (.int b)) vh1) : aDb i f e vh = .nx (e.set i (some (.d (.int (a + b))))) vh1 := by
  unfold aDb
  rw [h1, wF]
  simp only [lft, h2]
end Mn

namespace HT
open PySem PySem.Spec PyProof.Rows
section
variable {prog : Program} {w : World} {A : Around} {E : Value → Shared → Prop} {s : Shared}
end
end HT
namespace Mn
open PySem PySem.Spec PyProof.Rows L2
variable [TL : TabList]
/-! ### t[::-1] of a tuple -/
def aIV (K : PySem.W.Frag) (te : TE) : TE := fun σ H Q => te σ H fun x H1 => ∃ a xs, x = .ref a ∧ SqT K H1 a xs ∧ ∀ p, H1 p = none → Q (.ref p) (upd H1 p (.tup xs.reverse))
def aIX : D → Option D
  | .tup ds => some (.tup ds.reverse)
  | _ => none
section
variable {X : Cx} {c : Cn} {U : WX} {e : Expr} {fe : FE} {pos p1 p2 p3 : Pos}
end
end Mn

namespace Mn
open PySem PySem.Spec PyProof.Rows L2
variable [TL : TabList]

/-! ### here, *rest = a list -/
def aIN (K : PySem.W.Frag) (i j : Nat) : TG := fun v σ H Q => ∃ a x xs, v = .ref a ∧ SqL K H a (x :: xs) ∧ xs.length ≤ 16000 ∧ ∀ p, H p = none → Q ((σ.set i (some x)).set j (some (.ref p))) (upd H p (.lst xs))
end Mn

namespace Mn
open PySem PySem.Spec PyProof.Rows L2
variable [TL : TabList]

/-! ### here, *rest = a list: rest is a new list that may change -/
def aJe (i j : Nat) (f : FE) : FS := fun e vh => lft (f e vh) e fun w vh1 => match see vh1 w with
  | some (.lst (d :: ds)) => if ds.length ≤ 16000 then .nx ((e.set i (some (.d d))).set j (some (.ref vh1.length))) (vh1 ++ [.lst ds]) else .stuck
  | _ => .stuck
section
variable {X : Cx} {c : Cn} {U : WX} {pos : Pos}
/-! ### a + b: a new list that may change -/
def aJH (fa fb : FE) : FE := fun e vh => bnd (fa e vh) fun w1 vh1 => bnd (fb e vh1) fun w2 vh2 => match see vh2 w1, see vh2 w2 with
  | some (.lst a), some (.lst b) => if a.length + b.length ≤ sizeLine then .ok (.ref vh2.length) (vh2 ++ [.lst (a ++ b)]) else .stuck
  | _, _ => .stuck
end

/-! ### l.pop() -/
def aJ3 (ds xs : List D) : Option (D × List D) := match xs with
  | [] => match ds.getLast? with
    | some d => some (d, ds.dropLast)
    | none => none
  | _ => none
end Mn

namespace Mn
open PySem PySem.Spec PyProof.Rows L2
variable [TL : TabList]

/-! ### a list that changes no more behind a statement is data from there on -/
def aHY (i : Nat) : RS → RS
  | .nx e vh => match e[i]? with
    | some (some (.ref k)) => (match vh[k]? with
      | some (.lst ds) => .nx (e.set i (some (.d (.lst ds)))) (vh.set k .dead)
      | _ => .stuck)
    | _ => .nx e vh
  | r => r
def aJU (i : Nat) (f : FS) : FS := fun e vh => aHY i (f e vh)
section
variable {c : Cn} {U : WX} {X : Cx}
end
end Mn

namespace Mn
open PySem PySem.Spec PyProof.Rows L2 Srt SrtO
variable [TL : TabList]

/-! ### sorted(l, key=f), the keys pairs of ints -/
section
variable {X : Cx} {pins : List (Addr × Obj)} {σ : L2.St} {H : Hp} {s : Shared} {h' : Heap}
end
/-- a key: a pair of ints -/
def aDg (H : Hp) (y : V) (k : Int × Int) : Prop := ∃ t, y = .ref t ∧ H t = some (.tup [.int k.1, .int k.2])
def aID (H : Hp) : Value → Int × Int
  | .ref t => match H t with
    | some (.tup [.int x, .int y]) => (x, y)
    | _ => (0, 0)
  | _ => (0, 0)
/-- out is xs by the keys ks, stable or not -/
def aEK (ks : List (Int × Int)) (xs out : List V) : Prop := ∃ ps : List ((Int × Int) × V), ps.Perm (ks.zip xs) ∧ ps.map (·.2) = out ∧ ps.Pairwise fun p q => lexB q.1 p.1 = false
section
variable {X : Cx} {pins : List (Addr × Obj)} {σ : L2.St} {H : Hp} {s : Shared}
end
section
variable {prog : Program} {w : World} {A : Around} {E : Value → Shared → Prop} {s : Shared}
end

section
variable {X : Cx} {pins : List (Addr × Obj)} {σ : L2.St} {H : Hp} {s : Shared}
structure MineAt (X : Cx) (pins : List (Addr × Obj)) (H : Hp) (a : Addr) : Prop where
  hn : H a = none
  hL : a ≠ X.env.locals
  fs : a ∉ X.fs
  h1 : X.s_0.heap.objs.size ≤ a
  h2 : ∀ x c, X.env.cells.lookup x = some c → c ≠ a
  h3 : ∀ p ∈ X.pn ++ pins, p.1 ≠ a
end
end Mn

namespace Mn
open PySem PySem.Spec PyProof.Rows L2 Srt SrtO
variable [TL : TabList]

section
variable {X : Cx} {pins : List (Addr × Obj)} {σ : L2.St} {H : Hp} {s : Shared} {A : Around} {E : Value → Shared → Prop} {a f : Addr} {vs : List Value} {xs : List V} {ks : List (Int × Int)} {R : Addr → List V → Hp → Shared → Prop}
/-- one key: what the call of f gives -/
def aHj (X : Cx) (A : Around) (σ : L2.St) (f : Addr) (xs : List V) (ks : List (Int × Int)) (R : Addr → List V → Hp → Shared → Prop) (pn : List (Addr × Obj)) (kS : Addr) : Prop :=
  ∀ (i : Nat) (x : V) (k : Int × Int) (v : Value) (keys : List V) (s' : Shared) (H' : Hp), xs[i]? = some x → ks[i]? = some k → keys.length = i → L2.Inv X pn σ H' s' → R kS keys H' s' → H' kS = some (.lst keys) → RelV x v →
    wpAny (model X.prog X.w) A (call (.ref f) [v]) (fun u s'' => ∃ y H'', L2.Inv X pn σ H'' s'' ∧ RelV y u ∧ aDg H'' y k ∧ H'' kS = some (.lst keys) ∧ (∀ b ys, H' b = some (.tup ys) → H'' b = some (.tup ys)) ∧
      ∀ h' tk, (∀ b o, b ≠ kS → s''.heap.get? b = some o → h'.get? b = some o) → R kS (keys ++ [y]) (upd H'' kS (.lst (keys ++ [y]))) { s'' with heap := h', toks := tk }) (fun _ _ => False) s'
end
end Mn

namespace Mn
open PySem PySem.Spec PyProof.Rows L2 Srt SrtO
variable [TL : TabList]

/-! ### a lambda of one parameter -/
abbrev aIC (X : Cx) (A : Around) (outer : List PySem.Env) (s : Shared) (H : Hp) (E : XK) (scope : Scope) (f c' : Addr) (p : Str) : Cx := { LamX.lamCx X A outer s H E scope f c' with N := X.N ++ [p] }
section
variable {X : Cx} {pins : List (Addr × Obj)} {σ : L2.St} {H H1 : Hp} {s s1 : Shared}
/-- what f(x) does, from any state behind s -/
def aJQ (P : Program) (w : World) (K : PySem.W.Frag) (mg : Str → Option Value) (base : Heap) (k : Nat) (outer0 : List PySem.Env) (s : Shared) (H : Hp) (f : Addr) (tl : V → XK → Hp → VK → Prop) : Prop :=
  ∀ (A : Around) (outer : List PySem.Env) (s1 : Shared) (H1 : Hp) (x : V) (u : Value) (Q : VK) (E : XK), Room k A → NoGuard A → Env0 P w K mg base A outer s1 H1 → Un (frs outer0) [] H H1 s.heap s1.heap → RelV x u → tl x E H1 Q →
    codeAny (model P w) A (.call (.ref f) ⟨[u], []⟩) (CR (L2.CX P w) outer P w H1 s1 Q E) s1
variable {params : Arguments} {body : Expr} {scope : Scope} {dV : Value} {f c' : Addr} {k : Nat} {t : XK → TE} {p : Str}
end
end Mn

namespace Mn
open PySem PySem.Spec PyProof.Rows L2 Srt SrtO
variable [TL : TabList]

/-- what the keys of xs must give, from the lambda's making on -/
structure KeyRun (X : Cx) (σ : L2.St) (t : TE) (c' : Addr) (q : Str) (xs : List V) (ks : List (Int × Int)) (H2 : Hp) (Q : VK) (R : Addr → List V → Hp → Prop) : Prop where
  start : ∀ kS, H2 kS = none → R kS [] (upd H2 kS (.lst []))
  turn : ∀ (kS : Addr) (i : Nat) (x : V) (k : Int × Int) (keys : List V) (H' : Hp), xs[i]? = some x → ks[i]? = some k → keys.length = i → R kS keys H' → H' kS = some (.lst keys) → H' c' = some (LamX.CodeO c' q) ∧
    t (σ ++ [some x]) H' fun y H'' => aDg H'' y k ∧ H'' kS = some (.lst keys) ∧ (∀ b ys, H' b = some (.tup ys) → H'' b = some (.tup ys)) ∧ R kS (keys ++ [y]) (upd H'' kS (.lst (keys ++ [y])))
  fin : ∀ (a kS : Addr) (keys os : List V) (H' : Hp), keys.length = xs.length → R kS keys H' → H' kS = some (.lst keys) → H' a = none → a ≠ kS → aEK ks xs os → Q (.ref a) (upd (upd H' kS (.lst [])) a (.lst os))
section
variable {X : Cx} {c P : Addr} {e0 body : Expr} {params : Arguments} {scope : Scope} {p : Str} {t0 : TA} {t : TE} {k : Nat} {p1 lp kp pos : Pos}
end
end Mn

namespace Mn
open PySem PySem.Spec PyProof.Rows L2 SrtO
variable [TL : TabList]

/-! ### data sorted by pairs of ints -/
abbrev KI := Int × Int
def leK {α : Type} (p q : KI × α) : Bool := !lexB q.1 p.1
def aC7 (ks : List KI) (ds : List D) : List D := ((ks.zip ds).mergeSort leK).map (·.2)
section
variable {c : Cn} {H : Hp} {ρ : Rho}
end
end Mn

namespace Mn
open PySem PySem.Spec PyProof.Rows L2 SrtO
variable [TL : TabList]

/-! ### sorted(xs, key=lambda p: E) in the layer -/
def atU (fk : FE) (e : Env) : List D → VH → Option (List KI × VH)
  | [], vh => some ([], vh)
  | d :: ds, vh => match fk (e ++ [some (.d d)]) vh with
    | .ok (.d (.tup [.int a, .int b])) vh' => (match atU fk e ds vh' with
      | some (ks, vh2) => some ((a, b) :: ks, vh2)
      | none => none)
    | _ => none
def aDF (fk : FE) (e : Env) (ds : List D) (vh : VH) : Res W := match atU fk e ds vh with
  | some (ks, vh2) => if ks.Nodup ∧ ds.length ≤ 16000 then .ok (.d (.lst (aC7 ks ds))) vh2 else .stuck
  | none => .stuck
def aIu (fa : FA) (fk : FE) : FE := fun e vh => bnd (fa e vh) fun ws vh1 => match ws with
  | [.d (.lst ds)] => aDF fk e ds vh1
  | _ => .stuck
section
variable {c : Cn} {H : Hp} {ρ : Rho} {vh : VH}
end
section
variable {X : Cx} {c : Cn} {U : WX} {cO P : Addr} {e0 body : Expr} {params : Arguments} {scope : Scope} {p : Str} {fa : FA} {fk : FE} {k : Nat} {p1 lp kp pos : Pos}
end
end Mn

namespace Mn
open PySem PySem.Spec PyProof.Rows L2 SrtO
variable [TL : TabList]
section
variable {X : Cx} {c : Cn} {U : WX} {cO P : Addr} {e0 body : Expr} {params : Arguments} {scope : Scope} {p : Str} {fa : FA} {fk : FE} {k : Nat} {p1 lp kp pos : Pos}
end
end Mn

namespace Mn
open PySem PySem.Spec PyProof.Rows L2
variable [TL : TabList]

/-! ### list(d): the keys of a dict -/
def aF8 : D → Bool
  | .int _ => true
  | .str x => aA4 x
  | _ => false
def aq8 (t : Bool) (x : D) : Bool := match t with
  | false => aF8 x
  | true => match x with
    | .tup ds => decide (ds.length ≤ sizeLine) && ds.all aF8
    | _ => false
def aH3 (xs : List D) : Option D := match xs with
  | [.dic t kvs] => if kvs.length ≤ sizeLine ∧ (kvs.all fun p => aq8 t p.1) = true then some (.lst (kvs.map (·.1))) else none
  | xs => avH xs
abbrev aHM (K : PySem.W.Frag) : List V → Hp → VK → Prop := fun xs H Q =>
  (∃ p ys, xs = [.ref p] ∧ (SqL K H p ys ∨ SqT K H p ys) ∧ ∀ l, H l = none → Q (.ref l) (upd H l (.lst ys))) ∨
  (∃ (a : Addr) (kvs : List (Key × V)), xs = [.ref a] ∧ Rd H a (.dK kvs) ∧ ∀ p, H p = none → Q (.ref p) (upd H p (.lst (kvs.map fun kv => kV kv.1)))) ∨
  (∃ d kvs, xs = [V.ref d] ∧ Rd H d (.dT kvs) ∧ ∀ p bs, H p = none → IsKeys H kvs bs → Q (.ref p) (upd H p (.lst (bs.map V.ref))))
section
variable {X : Cx} {U : WX} {c : Cn} {H : Hp} {ρ : Rho}
end
end Mn

namespace Mn
open PySem PySem.Spec PyProof.Rows L2 SrtO
variable [TL : TabList]

/-! ### sorted by a lambda, the list changeable -/
def aCe (fk : FE) (e : Env) (ds : List D) (vh : VH) : Res W := match atU fk e ds vh with
  | some (ks, vh2) => if ks.Nodup ∧ ds.length ≤ 16000 then .ok (.ref vh2.length) (vh2 ++ [.lst (aC7 ks ds)]) else .stuck
  | none => .stuck
def aG0 (fa : FA) (fk : FE) : FE := fun e vh => bnd (fa e vh) fun ws vh1 => match ws with
  | [.d (.lst ds)] => aCe fk e ds vh1
  | _ => .stuck
section
variable {X : Cx} {c : Cn} {U : WX} {cO P : Addr} {e0 body : Expr} {params : Arguments} {scope : Scope} {p : Str} {fa : FA} {fk : FE} {k : Nat} {p1 lp kp pos : Pos}
end
section
variable {X : Cx} {c : Cn} {U : WX} {cO P : Addr} {e0 body : Expr} {params : Arguments} {scope : Scope} {p : Str} {fa : FA} {fk : FE} {k : Nat} {p1 lp kp pos : Pos}
end
end Mn

namespace Mn
open PySem PySem.Spec PyProof.Rows L2 GenW
variable [TL : TabList]

/-! ### a comprehension over a generator: its block begins anew at each turn, over the heap below its own dict -/
abbrev aIr (X : Cx) (scope : Scope) (C : Addr) : PySem.Env := compEnvC scope (cloFrom X.env.cells scope.names []) C X.env
abbrev aJY (X : Cx) (s : Shared) (H : Hp) (scope : Scope) (C : Addr) : Cx := X.blk (aBe s C) H scope (aIr X scope C) []
section
variable {X : Cx} {P : List (Addr × Obj)} {σ σ' : L2.St} {H H' : Hp} {s s' : Shared} {C : Addr} {scope : Scope} {own : List (Str × Nat)}
end
section
variable {c : Cn} {H : Hp} {ρ : Rho}
end
end Mn

namespace Mn
open PySem PySem.Spec PyProof.Rows L2 GenW
variable [TL : TabList]
section
variable {X : Cx} {c : Cn} {U : WX} {k : Nat} {pos : Pos} {fi : FI}
end
end Mn

namespace Mn
open PySem PySem.Spec PyProof.Rows L2 GenW
variable [TL : TabList]

/-! ### {k: v for target in generator}, the keys tuples -/
def ao5 (A : FTg) (t : FT) (fk fv : FE) (e : Env) : List D → VH → List (D × D) → Res (List (D × D))
  | [], vh, acc => .ok acc vh
  | d :: ds, vh, acc => match A d e with
    | none => .stuck
    | some e' => match t e' vh with
      | .ok true vh1 => match fk e' vh1 with
        | .ok (.d k) vh2 => match fv e' vh2 with
          | .ok (.d v) vh3 => match wD k with
            | some key => if acc.length < sizeLine then ao5 A t fk fv e ds vh3 (auY acc key k v) else .stuck
            | none => .stuck
          | _ => .stuck
        | _ => .stuck
      | .ok false vh1 => ao5 A t fk fv e ds vh1 acc
      | _ => .stuck
def aDH (r : Res (List (D × D))) : Res W := match r with
  | .ok kvs vh2 => .ok (.d (.dic true kvs)) vh2
  | _ => .stuck
def aIB (fi : FI) (A : FTg) (t : FT) (fk fv : FE) (vs : List Nat) : FE := fun e vh => bnd (fi e vh) fun ds vh1 => aDH (ao5 A t fk fv (lE e vs) ds vh1 [])
@[simp] theorem aIs {fi : FI} {A : FTg} {t : FT} {fk fv : FE} {vs : List Nat} {e : Env} {vh : VH} : aIB fi A t fk fv vs e vh = bnd (fi e vh) fun ds vh1 => aDH (ao5 A t fk fv (lE e vs) ds vh1 []) := rfl
@[simp] theorem aG7 {kvs : List (D × D)} {vh : VH} : aDH (.ok kvs vh) = .ok (.d (.dic true kvs)) vh := rfl
section
variable {X : Cx} {c : Cn} {U : WX} {k : Nat} {pos : Pos} {fi : FI}
end
end Mn

namespace Mn
open PySem PySem.Spec PyProof.Rows L2
variable [TL : TabList]
/-! ### -x -/
def aHN : D → Option D
  | .int i => some (.int (-i))
  | _ => none
@[simp] theorem aHr {i : Int} : aHN (.int i) = some (.int (-i)) := rfl
section
variable {X : Cx} {c : Cn} {U : WX} {a : Expr} {fa : FE} {pos : Pos}
end
end Mn

namespace Mn
open PySem PySem.Spec PyProof.Rows L2
variable [TL : TabList]
/-! ### a list times an int -/
def aJC (x y : D) : Option D := match x, y with
  | .lst ds, .int k => if 0 ≤ k ∧ k ≤ 1000 ∧ ds.length ≤ 1000 then some (.lst (List.replicate k.toNat ds).flatten) else none
  | _, _ => none
section
variable {X : Cx} {c : Cn}
end
end Mn

namespace Mn
open PySem PySem.Spec PyProof.Rows L2
variable [TL : TabList]

/-! ### x, y = a list -/
def aSq (n : Nat) (B : arF) : FTg := fun d e => match af0 d with
  | some ds => if ds.length = n then B ds e else none
  | none => none
def gSq (K : PySem.W.Frag) (n : Nat) (t : TGs) : TG := fun v σ H Q => ∃ a xs, v = .ref a ∧ (SqL K H a xs ∨ SqT K H a xs) ∧ xs.length = n ∧ t xs σ H Q
section
variable {X : Cx} {c : Cn} {pos : Pos}
theorem aGz {es : List Expr} {k : Nat} {t : TGs} {n : Nat} (hc : X.calm = true) (h : PGs X es t)
    (hn : (assignEach es X.env).length = n := by rfl) (hst : (assignEach es X.env).findIdx? (·.1) = none := by rfl) : PG X (.Tuple es k pos) (gSq X.K n t) := by
  refine ⟨fun pins s σ H v u Q I r hw => ?_⟩
  obtain ⟨a, xs, e1, hq, hl, hw⟩ := hw
  subst e1
  cases r
  rcases hq with hq | hq
  · obtain ⟨its, rv, ht, hz⟩ := I.list hq
    rw [assign_Tuple]
    refine wpAny_bind (wpAny_standAt ?_)
    unfold unpack
    rw [hst, show (assignEach es X.env).length = its.toArray.size by simp [hn, ← hl, rv.length]]
    refine wpAny_bind (wpAny_holding (PySem.W.kun_itemsOf (I.ok.hd hc) ht.isList fun h' hx => ?_))
    have I1 : Inv X pins σ H { s with heap := h' } := I.kept (t' := s.toks) fun b o e => hx b o (Nat.ne_of_lt (Heap.lt_size e)) e
    exact h.run pins _ σ H xs _ Q I1 (by simpa using rv) hw
  · obtain ⟨its, rv, ht, hz⟩ := I.tuple hq
    refine assign_Tuple_tuple (I.ok.hd hc) ht (by simp [hn, ← hl, rv.length]) hst fun h' hx => ?_
    have I1 : Inv X pins σ H { s with heap := h' } := I.kept (t' := s.toks) fun b o e => hx b o (Nat.ne_of_lt (Heap.lt_size e)) e
    exact h.run pins _ σ H xs _ Q I1 (by simpa using rv) hw
theorem aGt {ts : List Expr} {k : Nat} {B : arF} {vs : List Nat} {n : Nat} (hk : X.K = c.K) (hc : X.calm = true) (h : PGs X ts (aCg c B vs)) (hn : (assignEach ts X.env).length = n := by rfl) (hst : (assignEach ts X.env).findIdx? (·.1) = none := by rfl) : PG X (.Tuple ts k pos) (tMG c (aSq n B) vs) :=
  aBn (aGz hc h hn hst) fun v σ H Q ⟨e, ρ, d, e', he, hd, ha, k⟩ => by
    unfold aSq at ha
    split at ha
    · rename_i ds hds
      split at ha
      · rename_i hl
        obtain ⟨a, xs, rfl, hs, _, r⟩ := alI hd.r hds
        exact ⟨a, xs, rfl, by rw [hk]; exact hs, by rw [← r.length]; exact hl, e, ρ, ds, e', he, r, ha, k⟩
      · cases ha
    · cases ha
end
end Mn

namespace Mn
open PySem PySem.Spec PyProof.Rows L2 GenW
variable [TL : TabList]

/-! ### {k: v}: a dict of one pair whose keys are texts or ints -/
def aJO (fk fv : FE) : FE := fun e vh => bnd (fk e vh) fun wk vh1 => bnd (fv e vh1) fun wv vh2 => match wk, wv with
  | .d x, .d y => match wM x with
    | some _ => .ok (.ref vh2.length) (vh2 ++ [.dic false [(x, y)]])
    | none => .stuck
  | _, _ => .stuck
section
variable {X : Cx} {c : Cn} {U : WX} {ke ve : Expr} {fk fv : FE} {pos : Pos}
end
/-! ### a dict that changes no more behind a statement is data from there on -/
def aFY (i : Nat) : RS → RS
  | .nx e vh => match e[i]? with
    | some (some (.ref k)) => (match vh[k]? with
      | some (.dic t kvs) => .nx (e.set i (some (.d (.dic t kvs)))) (vh.set k .dead)
      | _ => .stuck)
    | _ => .nx e vh
  | r => r
def aJF (i : Nat) (f : FS) : FS := fun e vh => aFY i (f e vh)
section
variable {c : Cn} {U : WX} {X : Cx}
end
end Mn

namespace Mn
open PySem PySem.Spec PyProof.Rows L2
variable [TL : TabList]

/-! ### the pairs of a locked dict with tuple keys, each a new tuple -/
def aIH (d : Addr) (o : Obj) (kvs : List (List Key × V)) (qs : List Addr) : It :=
  ⟨fun i H => H d = some (.frz o (.dT kvs)) ∧ i < kvs.length, fun i H x H' => ∃ T k v q, kvs[i]? = some (k, v) ∧ qs[i]? = some q ∧ x = .ref T ∧ H T = none ∧ H' = upd H T (.tup [.ref q, v]), fun i H => H d = some (.frz o (.dT kvs)) ∧ kvs.length ≤ i⟩
section
variable {X : Cx} {pins : List (Addr × Obj)} {σ : L2.St} {H : Hp} {s : Shared} {d : Addr} {o : Obj}
end
section
variable {P : Program} {w : World} {K : PySem.W.Frag} {d : Addr} {o : Obj} {es : Array DictEntry} {ep : Nat}
end
def aIh (tv : TE) : TI := fun σ H R => tv σ H fun x H1 => ∃ p d kvs, x = .ref p ∧ H1 p = some (L2.DX.itemsO p d) ∧ H1 d = some (.dT kvs) ∧ ∀ o qs, (∀ (i : Nat) (k : List Key) (v : V), kvs[i]? = some (k, v) → ∃ q, qs[i]? = some q ∧ H1 q = some (.tup (k.map kV))) → R (aIH d o kvs qs) (upd H1 d (.frz o (.dT kvs)))
section
variable {X : Cx} {iter : Expr} {tv : TE}
end
end Mn

namespace Mn
open PySem PySem.Spec PyProof.Rows L2
variable [TL : TabList]

/-! ### for a, b in f(..).items(): the dict (tuple keys) is given up -/
def aIg (f : FE) : FI := fun e vh => bnd (f e vh) fun w vh1 => match w with
  | .ref k => match vh1[k]? with
    | some (.dic true kvs) => if kvs.length ≤ sizeLine ∧ (kvs.all fun p => aq8 true p.1) = true then .ok (kvs.map fun p => .tup [p.1, p.2]) (vh1.set k .dead) else .stuck
    | _ => .stuck
  | _ => .stuck
section
variable {c : Cn} {H : Hp} {ρ : Rho}
theorem RelDv.at {kvs : List (D × D)} {us : List V} {i : Nat} {p : D × D} : RelDv c H ρ kvs us → kvs[i]? = some p → ∃ v, us[i]? = some v ∧ RelD c H ρ p.2 v := by
  induction kvs generalizing us i with
  | nil => intro _ h; simp at h
  | cons q kvs ih =>
    intro r hp
    cases us with
    | nil => exact r.elim
    | cons u us =>
      obtain ⟨x, d⟩ := q
      cases i with
      | zero => simp at hp; subst hp; exact ⟨u, rfl, r.1⟩
      | succ i =>
        simp at hp
        obtain ⟨v, h1, h2⟩ := ih (us := us) (i := i) r.2 hp
        exact ⟨v, by simpa using h1, h2⟩
end
section
variable {X : Cx} {c : Cn} {U : WX} {e : Expr} {f : FE} {apos cpos : Pos}
end
end Mn

namespace Mn
open PySem PySem.Spec PyProof.Rows L2
variable [TL : TabList]

/-! ### keeping: the new list or dict that is handed back stays changeable; all else that was made is dropped -/
def aFy (n : Nat) : Res W → Res W
  | .ok (.ref k) vh' => if n ≤ vh'.length ∧ anO n vh' = true ∧ n ≤ k then match vh'[k]? with
    | some (.lst ds) => .ok (.ref n) (vh'.take n ++ [.lst ds])
    | some (.dic t kvs) => .ok (.ref n) (vh'.take n ++ [.dic t kvs])
    | _ => .stuck
    else .stuck
  | .ok (.d x) vh' => if n ≤ vh'.length ∧ anO n vh' = true then .ok (.d x) (vh'.take n) else .stuck
  | .exn x vh' => if n ≤ vh'.length ∧ anO n vh' = true then .exn x (vh'.take n) else .stuck
  | .stuck => .stuck
def aI6 (F : FN) : FN := fun ws vh => aFy vh.length (F ws vh)
section
variable {c : Cn} {H : Hp} {ρ : Rho}
end
end Mn

namespace Mn
open PySem PySem.Spec PyProof.Rows L2
variable [TL : TabList]

/-! ### == of lists of own instances: the answer true -/
def aHL (tbl : List (Str × FC)) (vh : VH) (d e : D) : Prop := ∃ p1 p2 : Str × List Str, ajL vh (.d d) = some p1 ∧ ajL vh (.d e) = some p2 ∧ p1.1 = p2.1 ∧ aiT tbl vh (.d d) [.d e] (an3 false) = .ok (.d (.bl true)) vh
def EqEls (tbl : List (Str × FC)) (vh : VH) : List D → List D → Prop
  | [], [] => True
  | d :: ds, e :: es => aHL tbl vh d e ∧ EqEls tbl vh ds es
  | _, _ => False
theorem EqEls.len {tbl : List (Str × FC)} {vh : VH} : ∀ {ds es : List D}, EqEls tbl vh ds es → ds.length = es.length
  | [], [], _ => rfl
  | _ :: _, _ :: _, ⟨_, h⟩ => congrArg (· + 1) h.len
open Classical in
noncomputable def eqL (tbl : List (Str × FC)) (n : Bool) (w1 w2 : W) (vh : VH) : Res W := match w1, w2 with
  | .d (.lst ds), .d (.lst es) => if EqEls tbl vh ds es then .ok (.d (.bl (!n))) vh else .stuck
  | _, _ => .stuck
noncomputable def aJR (tbl : List (Str × FC)) (fa fb : FE) : FE := fun e vh => bnd (fa e vh) fun w1 vh1 => bnd (fb e vh1) fun w2 vh2 => eqL tbl false w1 w2 vh2
section
variable {X : Cx} {U : WX} {c : Cn} {k : Nat} {tbl : List (Str × FC)} {a b e : Expr} {fa fb : FE} {pos p : Pos}
end
end Mn

namespace Mn
open PySem PySem.Spec PyProof.Rows L2
variable [TL : TabList]

/-! ### == of instances of unrelated classes -/
def UnRel (K : PySem.W.Frag) (mg : Str → Option Value) (prs : List (Str × Str)) : Prop := ∀ p ∈ prs, ∃ C1 C2 : Addr, mg p.1 = some (.ref C1) ∧ mg p.2 = some (.ref C2) ∧ PySem.W.subIn K (.ref C2) (.ref C1) = some false
theorem UnRel.nil {K : PySem.W.Frag} {mg : Str → Option Value} : UnRel K mg [] := fun _ h => nomatch h
theorem UnRel.cons {K : PySem.W.Frag} {mg : Str → Option Value} {m n : Str} {prs : List (Str × Str)} {C1 C2 : Addr} (h1 : mg m = some (.ref C1)) (h2 : mg n = some (.ref C2)) (h3 : PySem.W.subIn K (.ref C2) (.ref C1) = some false) (t : UnRel K mg prs) : UnRel K mg ((m, n) :: prs) := fun p hp => by
  rcases List.mem_cons.mp hp with rfl | hp
  · exact ⟨C1, C2, h1, h2, h3⟩
  · exact t p hp
def eqP (tbl : List (Str × FC)) (prs : List (Str × Str)) (n : Bool) (w1 w2 : W) (vh : VH) : Res W := match ajL vh w1, ajL vh w2 with
  | some p1, some p2 => if (p1.1, p2.1) ∈ prs then aiT tbl vh w1 [w2] (an3 n) else eqC tbl n w1 w2 vh
  | _, _ => eqC tbl n w1 w2 vh
def aKf (tbl : List (Str × FC)) (prs : List (Str × Str)) (n : Bool) (fa fb : FE) : FE := fun e vh => bnd (fa e vh) fun w1 vh1 => bnd (fb e vh1) fun w2 vh2 => eqP tbl prs n w1 w2 vh2
section
variable {X : Cx} {U : WX} {c : Cn} {k : Nat} {tbl : List (Str × FC)} {prs : List (Str × Str)} {a b e : Expr} {fa fb : FE} {pos p : Pos}
end
end Mn

namespace Mn
open PySem PySem.Spec PyProof.Rows L2
variable [TL : TabList]

/-! ### lists that hold changeable things: displays, repr -/
def aKd (f : FA) : FE := fun e vh => bnd (f e vh) fun ws vh1 => if ws.length ≤ sizeLine then .ok (.ref vh1.length) (vh1 ++ [.lsw ws]) else .stuck
/-- read as data, through such lists -/
def aEB (g : W → Option D) : List W → Option (List D)
  | [] => some []
  | w :: ws => match g w, aEB g ws with
    | some d, some ds => some (d :: ds)
    | _, _ => none
def aEG : Nat → VH → W → Option D
  | 0, vh, w => see vh w
  | n + 1, vh, w => match see vh w with
    | some d => some d
    | none => match w with
      | .ref k => match vh[k]? with
        | some (.lsw ws) => (aEB (aEG n vh) ws).map .lst
        | some (.tpw ws) => (aEB (aEG n vh) ws).map .tup
        | _ => none
      | .d _ => none
section
variable {X : Cx} {c : Cn} {U : WX} {a : Expr} {es : List Expr} {pos p : Pos} {fa : FE}
def aJf (fa : FE) : FE := fun e vh => bnd (fa e vh) fun w vh1 => opt (aEG 3 vh1 w) fun d => opt (af3 [d]) fun z => .ok (.d z) vh1
end
end Mn

namespace Mn
open PySem PySem.Spec PyProof.Rows L2
variable [TL : TabList]

/-! ### lists that hold changeable things: loops, items, append -/
def aEj (k : Nat) (ws : List W) (vh : VH) : Prop := vh[k]? = some (.lsw ws)
open Classical in
noncomputable def aw7 (k : Nat) (ws : List W) (i : Nat) (f : FS) : List W → Env → VH → RS
  | [], e, vh => if aEj k ws vh then .nx e vh else .stuck
  | w :: r, e, vh => if aEj k ws vh then (match f (e.set i (some w)) vh with
      | .nx e2 vh2 => aw7 k ws i f r e2 vh2
      | .ct e2 vh2 => aw7 k ws i f r e2 vh2
      | .bk e2 vh2 => .nx e2 vh2
      | z => z) else .stuck
def aDw (w : W) (vh : VH) : Res (Nat × List W) := match w with
  | .ref k => match vh[k]? with
    | some (.lsw ws) => .ok (k, ws) vh
    | _ => .stuck
  | _ => .stuck
noncomputable def aIS (fi : FE) (i : Nat) (f : FS) : FS := fun e vh => lft (bnd (fi e vh) aDw) e fun t vh' => aw7 t.1 t.2 i f t.2 e vh'
def aEr (c : Cn) (k : Nat) (ws : List W) (H0 : Hp) (ρ0 : Rho) (J : It) : Prop := ∀ H ρ vh i, Grow ρ0 H0 ρ → Fm H0 H ρ0 → RelH c H ρ vh → aEj k ws vh →
  (i < ws.length → J.go i H ∧ ∀ x H', J.yld i H x H' → Same H H' ∧ ∃ w, ws[i]? = some w ∧ RelW c H' ρ w x) ∧ (ws.length ≤ i → J.stop i H)
section
variable {X : Cx} {c : Cn} {U : WX} {pos p p2 : Pos} {tg iter a b : Expr} {es : List Expr} {body : List Stmt} {fi fa fb : FE} {f : FS}
def aKk (c : Cn) (U : WX) (f : FE) : TI := fun σ H R => ∃ e ρ vh, RelE c H ρ e σ ∧ RelH c H ρ vh ∧ Out c σ H ρ U (bnd (f e vh) aDw) fun t _ H' ρ' => ∀ J, aEr c t.1 t.2 H' ρ' J → R J H'
end
end Mn


namespace Mn
open PySem PySem.Spec PyProof.Rows L2
variable [TL : TabList]

/-! ### int of a truth value -/
section
variable {c : Cn}
def aJn : List D → Option D
  | [.int i] => some (.int i)
  | [.bl k] => some (.int (if k then 1 else 0))
  | _ => none
end
/-! ### == of unrelated classes as a test -/
section
variable {X : Cx} {U : WX} {c : Cn} {k : Nat} {tbl : List (Str × FC)} {prs : List (Str × Str)} {a b e : Expr} {fa fb : FE} {pos p : Pos}
end
end Mn

namespace Mn
open PySem PySem.Spec PyProof.Rows L2 GenW
variable [TL : TabList]

/-! ### {k: v} as data -/
def aJr (fk fv : FE) : FE := fun e vh => bnd (fk e vh) fun wk vh1 => bnd (fv e vh1) fun wv vh2 => match wk, wv with
  | .d x, .d y => match wM x with
    | some _ => .ok (.d (.dic false [(x, y)])) vh2
    | none => .stuck
  | _, _ => .stuck
section
variable {X : Cx} {c : Cn} {U : WX} {ke ve : Expr} {fk fv : FE} {pos : Pos}
end
end Mn

namespace Mn
open PySem PySem.Spec PyProof.Rows L2
variable [TL : TabList]

/-! ### sorted(xs), a list of pairs of texts -/
abbrev SP := Str × Str
def pLt (p q : SP) : Bool := sLt p.1 q.1 || (p.1 == q.1 && sLt p.2 q.2)
def aE4 (x : SP) : List SP → List SP
  | [] => [x]
  | y :: r => if pLt y x = true then y :: aE4 x r else x :: y :: r
def aBB : List SP → List SP
  | [] => []
  | x :: r => aE4 x (aBB r)
abbrev aKi (l : List SP) : Prop := l.Pairwise fun x y => pLt y x = false
/-! the model's own sort -/
def aJA (h : Heap) (v : Value) (p : SP) : Prop := ∃ (a : Addr) (o : Obj) (n : Nat) (t u : Tok), v = .ref a ∧ h.get? a = some o ∧ o.cls = .type "tuple" ∧ o.data = .seq #[.str p.1 t, .str p.2 u] n
section
variable {prog : Program} {w : World} {A : Around} {E : Value → Shared → Prop} {s : Shared}
end
def aHU (K : PySem.W.Frag) : List V → Hp → VK → Prop := fun vs H Q => ∃ (a : Addr) (xs : List V) (k : V → SP), vs = [V.ref a] ∧ SqL K H a xs ∧ (∀ x ∈ xs, ∃ t, x = V.ref t ∧ SqT K H t [.str (k x).1, .str (k x).2]) ∧
  ∀ ys p, (ys.Pairwise fun x y => pLt (k y) (k x) = false) → ys.Perm xs → H p = none → Q (.ref p) (upd H p (.lst ys))
/-! as data -/
def aHy (p : SP) : D := .tup [.str p.1, .str p.2]
def aAX : List D → Option (List SP)
  | [] => some []
  | .tup [.str a, .str b] :: r => (aAX r).map ((a, b) :: ·)
  | _ => none
def aH9 : List D → Option D
  | [.lst ds] => (aAX ds).map fun l => .lst ((aBB l).map aHy)
  | _ => none
section
variable {c : Cn} {H : Hp} {ρ : Rho}
/-- the pair that stands at a value -/
def aJP (H : Hp) : V → SP
  | .ref t => match H t with
    | some (.tup [.str x, .str y]) => (x, y)
    | _ => (⟨#[]⟩, ⟨#[]⟩)
  | _ => (⟨#[]⟩, ⟨#[]⟩)
end
end Mn

namespace Mn
open PySem PySem.Spec PyProof.Rows L2 ClX
variable [TL : TabList]

/-! ### y(*x), y a name that holds an own class -/
def aIe (cn : Str) : W → Bool
  | .d (.cls n) => n == cn
  | _ => false
def aHJ (cn : Str) (fz : Bool) (F : FC) (fc fy : FE) : FE := fun e vh => bnd (fc e vh) fun w vh1 => if aIe cn w = true then aCU cn fz F (aEP fy) cI e vh1 else .stuck
section
variable {X : Cx} {U : WX} {c : Cn} {k : Nat} {cn y : Str} {fz : Bool} {F : FC} {z : Expr} {fc fy : FE} {pos p sp : Pos} {C f : Addr}
end
/-! ### C.m(..), m a classmethod -/
def aDV (cn : Str) (F : FC) (fa : FA) : FE := fun e vh => bnd (fa e vh) fun ws vh1 => F (.d (.cls cn) :: ws) [] vh1
@[simp] theorem aGc {cn : Str} {F : FC} {fa : FA} {e : Env} {vh : VH} : aDV cn F fa e vh = bnd (fa e vh) fun ws vh1 => F (.d (.cls cn) :: ws) [] vh1 := rfl
structure CMt (K : PySem.W.Frag) (mg : Str → Option Value) (cn m : Str) (g : Addr) : Prop where
  ex : ∃ (C p : Addr) (mc : Value), mg cn = some (.ref C) ∧ CRead K C mc ∧ CMet K C mc m p g
section
variable {X : Cx} {U : WX} {c : Cn} {k : Nat} {cn m : Str} {F : FC} {e : Expr} {es : List Expr} {fa : FA} {pos p apos : Pos} {g : Addr} {pl : Sem Bool}
end
/-! ### y = [f for .. for ..] -/
section
variable {X : Cx} {c : Cn} {U : WX} {pos : Pos}
end
/-! ### facts for the text -/
structure GCls (K : PySem.W.Frag) (mg : Str → Option Value) (cl x qual : Str) (st : Stmt) (dd : List D) (kd : List (Str × D)) (f : Addr) (fd : FuncData) : Prop where
  df : GDf K mg x qual st dd kd f fd
  S : CMt K mg cl x f
end Mn

/-! ### == of two lists whose items are compared by own code: both answers -/
namespace TwoEq
open PySem PySem.SeqAt
open AutoSeq1 (wpAny_loadPart')
open MeetsSeq MeetsSeq2 MeetsSeq3 SeqRoads2
section
variable {P : Program} {W0 : World} {B : Around} {R : Result → Shared → Prop}
/-- two lists stand at l and b -/
def Two (l b : Addr) (xs ys : Array Value) (z : Shared) : Prop := ∃ n m : Nat, z.heap.get? l = some { cls := .type "list", data := .seq xs n } ∧ z.heap.get? b = some { cls := .type "list", data := .seq ys m }
/-- a turn: the lists are N long; equal items lead on, others end it -/
def aIP (P : Program) (W0 : World) (B : Around) (R : Result → Shared → Prop) (l b : Addr) (N : Nat) (I : Nat → Shared → Prop) : Prop :=
  ∀ j z, I j z → ∃ xs ys : Array Value, Two l b xs ys z ∧ xs.size = N ∧ ys.size = N ∧
    ∀ (h1 : j < xs.size) (h2 : j < ys.size), wpAny (model P W0) B.in1 (eqBool xs[j] ys[j]) (fun r z' => (r = true ∧ I (j + 1) z') ∨ (r = false ∧ (∃ us vs : Array Value, Two l b us vs z' ∧ j < us.size ∧ j < vs.size) ∧ R (.ok (.ret (.bool false))) z')) (fun e z' => R (.error e) z') z
end
section
variable {P : Program} {W0 : World} {B : Around} {E : Value → Shared → Prop} {z : Shared}
end
end TwoEq

namespace Mn
open PySem PySem.Spec PyProof.Rows L2
variable [TL : TabList]
/-! ### data that cannot be the same object -/
mutual
def bL : D → D → Bool
  | .str x, .str y => x != y
  | .bl x, .bl y => x != y
  | .non, .str _ => true
  | .str _, .non => true
  | .non, .tup _ => true
  | .tup _, .non => true
  | .str _, .tup _ => true
  | .tup _, .str _ => true
  | .tup ds, .tup es => (ds.length != es.length) || dDiffs ds es
  | .ins _ fs, .ins _ gs => (fs.map (·.1) == gs.map (·.1)) && dDiffF fs gs
  | .dic false kvs, .dic false lvs => decide (rG kvs ≠ rG lvs) || dDiffV kvs lvs
  | _, _ => false
def dDiffs : List D → List D → Bool
  | d :: r, e :: q => bL d e || dDiffs r q
  | _, _ => false
def dDiffF : List (Str × D) → List (Str × D) → Bool
  | (_, d) :: r, (_, e) :: q => bL d e || dDiffF r q
  | _, _ => false
def dDiffV : List (D × D) → List (D × D) → Bool
  | (_, d) :: r, (_, e) :: q => bL d e || dDiffV r q
  | _, _ => false
end
theorem RelDf.len {c : Cn} {H : Hp} {ρ : Rho} : ∀ {fs : List (Str × D)} {xs : List V}, RelDf c H ρ fs xs → fs.length = xs.length
  | [], [], _ => rfl
  | _ :: fs, _ :: xs, ⟨_, h⟩ => congrArg (· + 1) (RelDf.len h)
theorem RelDv.len' {c : Cn} {H : Hp} {ρ : Rho} : ∀ {fs : List (D × D)} {xs : List V}, RelDv c H ρ fs xs → fs.length = xs.length
  | [], [], _ => rfl
  | _ :: fs, _ :: xs, ⟨_, h⟩ => congrArg (· + 1) (RelDv.len' h)
theorem azL {α β : Type} : ∀ {a : List α} {x y : List β}, a.length = x.length → a.length = y.length → a.zip x = a.zip y → x = y
  | [], [], [], _, _, _ => rfl
  | _ :: a, x :: xs, y :: ys, h1, h2, e => by
    rw [List.zip_cons_cons, List.zip_cons_cons] at e
    injection e with e1 e2
    injection e1 with _ e1
    rw [e1, azL (by simpa using h1) (by simpa using h2) e2]
theorem avT {α β : Type} : ∀ {a b : List α} {x y : List β}, a.length = x.length → b.length = y.length → a.zip x = b.zip y → a = b ∧ x = y
  | [], [], [], [], _, _, _ => ⟨rfl, rfl⟩
  | [], _ :: _, [], _ :: _, _, _, e => by cases e
  | _ :: _, [], _ :: _, [], _, _, e => by cases e
  | _ :: a, _ :: b, x :: xs, y :: ys, h1, h2, e => by
    rw [List.zip_cons_cons, List.zip_cons_cons] at e
    injection e with e1 e2
    injection e1 with e0 e1
    obtain ⟨q1, q2⟩ := avT (by simpa using h1) (by simpa using h2) e2
    rw [e0, e1, q1, q2]; exact ⟨rfl, rfl⟩
mutual
theorem amA {c : Cn} {H : Hp} {ρ : Rho} {v : V} : ∀ (d e : D), RelD c H ρ d v → RelD c H ρ e v → bL d e = false
  | .str x, .str y, h1, h2 => by
    have := h1.1.symm.trans h2.1
    cases this
    simp [bL]
  | .bl x, .bl y, h1, h2 => by
    have : V.bl x = V.bl y := Eq.trans (Eq.symm h1) h2
    cases this
    simp [bL]
  | .non, .str y, h1, h2 => by
    have : V.non = V.str y := Eq.trans (Eq.symm h1) h2.1
    cases this
  | .str y, .non, h1, h2 => by
    have : V.non = V.str y := Eq.trans (Eq.symm h2) h1.1
    cases this
  | .non, .tup ds, h1, h2 => by
    obtain ⟨a, xs, e, _⟩ := h2
    have : V.non = V.ref a := Eq.trans (Eq.symm h1) e
    cases this
  | .tup ds, .non, h1, h2 => by
    obtain ⟨a, xs, e, _⟩ := h1
    have : V.non = V.ref a := Eq.trans (Eq.symm h2) e
    cases this
  | .str x, .tup ds, h1, h2 => by
    obtain ⟨a, xs, e, _⟩ := h2
    have : V.str x = V.ref a := Eq.trans (Eq.symm h1.1) e
    cases this
  | .tup ds, .str x, h1, h2 => by
    obtain ⟨a, xs, e, _⟩ := h1
    have : V.str x = V.ref a := Eq.trans (Eq.symm h2.1) e
    cases this
  | .tup ds, .tup es, h1, h2 => by
    obtain ⟨a, xs, e1, _, ha, _, r1⟩ := h1
    obtain ⟨b, ys, e2, _, hb, _, r2⟩ := h2
    rw [e1] at e2
    cases e2
    rw [ha] at hb
    cases hb
    have := diffs_same ds es r1 r2
    have l : ds.length = es.length := r1.length.trans r2.length.symm
    simp [bL, l, this]
  | .ins n fs, .ins m gs, h1, h2 => by
    obtain ⟨a, C, dx, xs, e1, _, _, ha, r1⟩ := h1
    obtain ⟨b, C', dx', ys, e2, _, _, hb, r2⟩ := h2
    rw [e1] at e2
    cases e2
    rw [ha] at hb
    injection hb with hb
    injection hb with _ _ hz
    unfold bL
    by_cases q : fs.map (·.1) = gs.map (·.1)
    · have hx : xs = ys := by
        refine azL (a := fs.map (·.1)) ?_ ?_ ?_
        · rw [List.length_map]; exact RelDf.len r1
        · rw [q, List.length_map]; exact RelDf.len r2
        · rw [hz, q]
      subst hx
      rw [diffF_same fs gs r1 r2]; simp
    · have : (fs.map (·.1) == gs.map (·.1)) = false := by simpa using q
      rw [this]; rfl
  | .dic false kvs, .dic false lvs, h1, h2 => by
    obtain ⟨a, xs, e1, _, ⟨ks, k1, ha⟩, r1⟩ := h1
    obtain ⟨b, ys, e2, _, ⟨ls, k2, hb⟩, r2⟩ := h2
    rw [e1] at e2
    cases e2
    rw [ha] at hb
    injection hb with hb
    injection hb with hz
    obtain ⟨q1, q2⟩ := avT (by rw [acD k1]; exact RelDv.len' r1) (by rw [acD k2]; exact RelDv.len' r2) hz
    subst q1 q2
    have := diffV_same kvs lvs r1 r2
    unfold bL
    rw [k1, k2, this]
    simp
  | .non, .non, _, _ => by simp [bL]
  | .non, .bl _, _, _ => by simp [bL]
  | .non, .int _, _, _ => by simp [bL]
  | .non, .ctp _, _, _ => by simp [bL]
  | .non, .lst _, _, _ => by simp [bL]
  | .non, .frz _, _, _ => by simp [bL]
  | .non, .dic _ _, _, _ => by simp [bL]
  | .non, .ins _ _, _, _ => by simp [bL]
  | .non, .ty _, _, _ => by simp [bL]
  | .non, .cls _, _, _ => by simp [bL]
  | .non, .fdc _ _, _, _ => by simp [bL]
  | .non, .exc _ _, _, _ => by simp [bL]
  | .bl _, .non, _, _ => by simp [bL]
  | .bl _, .int _, _, _ => by simp [bL]
  | .bl _, .str _, _, _ => by simp [bL]
  | .bl _, .tup _, _, _ => by simp [bL]
  | .bl _, .ctp _, _, _ => by simp [bL]
  | .bl _, .lst _, _, _ => by simp [bL]
  | .bl _, .frz _, _, _ => by simp [bL]
  | .bl _, .dic _ _, _, _ => by simp [bL]
  | .bl _, .ins _ _, _, _ => by simp [bL]
  | .bl _, .ty _, _, _ => by simp [bL]
  | .bl _, .cls _, _, _ => by simp [bL]
  | .bl _, .fdc _ _, _, _ => by simp [bL]
  | .bl _, .exc _ _, _, _ => by simp [bL]
  | .int _, e, _, _ => by cases e <;> simp [bL]
  | .str _, .bl _, _, _ => by simp [bL]
  | .str _, .int _, _, _ => by simp [bL]
  | .str _, .ctp _, _, _ => by simp [bL]
  | .str _, .lst _, _, _ => by simp [bL]
  | .str _, .frz _, _, _ => by simp [bL]
  | .str _, .dic _ _, _, _ => by simp [bL]
  | .str _, .ins _ _, _, _ => by simp [bL]
  | .str _, .ty _, _, _ => by simp [bL]
  | .str _, .cls _, _, _ => by simp [bL]
  | .str _, .fdc _ _, _, _ => by simp [bL]
  | .str _, .exc _ _, _, _ => by simp [bL]
  | .tup _, .bl _, _, _ => by simp [bL]
  | .tup _, .int _, _, _ => by simp [bL]
  | .tup _, .ctp _, _, _ => by simp [bL]
  | .tup _, .lst _, _, _ => by simp [bL]
  | .tup _, .frz _, _, _ => by simp [bL]
  | .tup _, .dic _ _, _, _ => by simp [bL]
  | .tup _, .ins _ _, _, _ => by simp [bL]
  | .tup _, .ty _, _, _ => by simp [bL]
  | .tup _, .cls _, _, _ => by simp [bL]
  | .tup _, .fdc _ _, _, _ => by simp [bL]
  | .tup _, .exc _ _, _, _ => by simp [bL]
  | .ctp _, e, _, _ => by cases e <;> simp [bL]
  | .lst _, e, _, _ => by cases e <;> simp [bL]
  | .frz _, e, _, _ => by cases e <;> simp [bL]
  | .ty _, e, _, _ => by cases e <;> simp [bL]
  | .cls _, e, _, _ => by cases e <;> simp [bL]
  | .fdc _ _, e, _, _ => by cases e <;> simp [bL]
  | .exc _ _, e, _, _ => by cases e <;> simp [bL]
  | .ins _ _, .non, _, _ => by simp [bL]
  | .ins _ _, .bl _, _, _ => by simp [bL]
  | .ins _ _, .int _, _, _ => by simp [bL]
  | .ins _ _, .str _, _, _ => by simp [bL]
  | .ins _ _, .tup _, _, _ => by simp [bL]
  | .ins _ _, .ctp _, _, _ => by simp [bL]
  | .ins _ _, .lst _, _, _ => by simp [bL]
  | .ins _ _, .frz _, _, _ => by simp [bL]
  | .ins _ _, .dic _ _, _, _ => by simp [bL]
  | .ins _ _, .ty _, _, _ => by simp [bL]
  | .ins _ _, .cls _, _, _ => by simp [bL]
  | .ins _ _, .fdc _ _, _, _ => by simp [bL]
  | .ins _ _, .exc _ _, _, _ => by simp [bL]
  | .dic true _, e, _, _ => by cases e <;> simp [bL]
  | .dic false _, .dic true _, _, _ => by simp [bL]
  | .dic false _, .non, _, _ => by simp [bL]
  | .dic false _, .bl _, _, _ => by simp [bL]
  | .dic false _, .int _, _, _ => by simp [bL]
  | .dic false _, .str _, _, _ => by simp [bL]
  | .dic false _, .tup _, _, _ => by simp [bL]
  | .dic false _, .ctp _, _, _ => by simp [bL]
  | .dic false _, .lst _, _, _ => by simp [bL]
  | .dic false _, .frz _, _, _ => by simp [bL]
  | .dic false _, .ins _ _, _, _ => by simp [bL]
  | .dic false _, .ty _, _, _ => by simp [bL]
  | .dic false _, .cls _, _, _ => by simp [bL]
  | .dic false _, .fdc _ _, _, _ => by simp [bL]
  | .dic false _, .exc _ _, _, _ => by simp [bL]
theorem diffs_same {c : Cn} {H : Hp} {ρ : Rho} : ∀ {vs : List V} (ds es : List D), RelDs c H ρ ds vs → RelDs c H ρ es vs → dDiffs ds es = false
  | [], [], es, _, _ => by cases es <;> simp [dDiffs]
  | v :: vs, d :: ds, es, h1, h2 => by
    cases es with
    | nil => simp [dDiffs]
    | cons e es =>
      unfold dDiffs
      rw [amA d e h1.1 h2.1, diffs_same ds es h1.2 h2.2]; rfl
theorem diffF_same {c : Cn} {H : Hp} {ρ : Rho} : ∀ {vs : List V} (ds es : List (Str × D)), RelDf c H ρ ds vs → RelDf c H ρ es vs → dDiffF ds es = false
  | [], [], es, _, _ => by cases es <;> simp [dDiffF]
  | v :: vs, (_, d) :: ds, es, h1, h2 => by
    cases es with
    | nil => simp [dDiffF]
    | cons e es =>
      obtain ⟨n, e⟩ := e
      unfold dDiffF
      rw [amA d e h1.1 h2.1, diffF_same ds es h1.2 h2.2]; rfl
theorem diffV_same {c : Cn} {H : Hp} {ρ : Rho} : ∀ {vs : List V} (ds es : List (D × D)), RelDv c H ρ ds vs → RelDv c H ρ es vs → dDiffV ds es = false
  | [], [], es, _, _ => by cases es <;> simp [dDiffV]
  | v :: vs, (_, d) :: ds, es, h1, h2 => by
    cases es with
    | nil => simp [dDiffV]
    | cons e es =>
      obtain ⟨n, e⟩ := e
      unfold dDiffV
      rw [amA d e h1.1 h2.1, diffV_same ds es h1.2 h2.2]; rfl
end

/-! ### == of lists of own instances: both answers -/
def EqI (tbl : List (Str × FC)) (vh : VH) (d e : D) (b : Bool) : Prop := (∃ p1 p2 : Str × List Str, ajL vh (.d d) = some p1 ∧ ajL vh (.d e) = some p2 ∧ p1.1 = p2.1) ∧ aiT tbl vh (.d d) [.d e] (an3 false) = .ok (.d (.bl b)) vh ∧ (b = false → bL d e = true)
def EqIs (tbl : List (Str × FC)) (vh : VH) (b : Bool) : List D → List D → Prop
  | [], [] => b = true
  | d :: ds, e :: es => (EqI tbl vh d e true ∧ EqIs tbl vh b ds es) ∨ (EqI tbl vh d e false ∧ ds.length = es.length ∧ b = false)
  | _, _ => b = false
theorem EqI.one {tbl : List (Str × FC)} {vh : VH} {d e : D} (h : EqI tbl vh d e true) (h2 : EqI tbl vh d e false) : False := by
  have := h.2.1.symm.trans h2.2.1
  cases this
theorem EqIs.one {tbl : List (Str × FC)} {vh : VH} : ∀ {ds es : List D}, EqIs tbl vh true ds es → EqIs tbl vh false ds es → False
  | [], [], _, h => by cases h
  | [], _ :: _, h, _ => by cases h
  | _ :: _, [], h, _ => by cases h
  | d :: ds, e :: es, h, k => by
    rcases h with ⟨h1, h2⟩ | ⟨_, _, h⟩
    · rcases k with ⟨_, k2⟩ | ⟨k1, _⟩
      · exact EqIs.one h2 k2
      · exact h1.one k1
    · cases h
theorem EqIs.len {tbl : List (Str × FC)} {vh : VH} : ∀ {ds es : List D}, EqIs tbl vh true ds es → ds.length = es.length
  | [], [], _ => rfl
  | [], _ :: _, h => by cases h
  | _ :: _, [], h => by cases h
  | d :: ds, e :: es, h => by
    rcases h with ⟨_, h⟩ | ⟨_, _, h⟩
    · exact congrArg (· + 1) h.len
    · cases h
open Classical in
noncomputable def aHz (tbl : List (Str × FC)) (w1 w2 : W) (vh : VH) : Res W := match w1, w2 with
  | .d (.lst ds), .d (.lst es) => if EqIs tbl vh true ds es then .ok (.d (.bl true)) vh else if EqIs tbl vh false ds es then .ok (.d (.bl false)) vh else .stuck
  | _, _ => .stuck
noncomputable def aIT (tbl : List (Str × FC)) (fa fb : FE) : FE := fun e vh => bnd (fa e vh) fun w1 vh1 => bnd (fb e vh1) fun w2 vh2 => aHz tbl w1 w2 vh2
section
variable {X : Cx} {U : WX} {c : Cn} {k : Nat} {tbl : List (Str × FC)} {a b e : Expr} {fa fb : FE} {pos p : Pos}
end
end Mn

namespace Mn
open PySem PySem.Spec PyProof.Rows L2
variable [TL : TabList]

/-! ### list(d), d keyed by texts and ints, as a changeable list -/
def aF2 (xs : List D) (vh : VH) : Res W := match xs with
  | [.dic false kvs] => if kvs.length ≤ sizeLine ∧ (kvs.all fun p => aq8 false p.1) = true then .ok (.ref vh.length) (vh ++ [.lst (kvs.map (·.1))]) else .stuck
  | _ => .stuck
def aG5 (fa : FA) : FE := fun e vh => bnd (fa e vh) fun ws vh1 => opt (agA vh1 ws) fun xs => aF2 xs vh1
section
variable {X : Cx} {U : WX} {c : Cn}
end
end Mn

namespace Mn
open PySem PySem.Spec PyProof.Rows L2
variable [TL : TabList]

/-! ### comprehensions over lists that may change elsewhere: they must stand at each turn -/
structure SrcV where
  G : VH → Prop
  es : List D
def aD3 (c : Cn) (G : VH → Prop) (es : List D) (H0 : Hp) (ρ0 : Rho) (J : It) : Prop := ∀ c' H ρ vh i, c.Ext c' H0 → Grow ρ0 H0 ρ → Fm H0 H ρ0 → RelH c' H ρ vh → G vh →
  (i < es.length → J.go i H ∧ ∀ x H', J.yld i H x H' → Same H H' ∧ ∃ d, es[i]? = some d ∧ RelD c' H' ρ d x) ∧ (es.length ≤ i → J.stop i H)
abbrev FIV := Env → VH → Res SrcV
def tMV (c : Cn) (U : WX) (f : FIV) : TI := fun σ H R => ∃ e ρ vh, RelE c H ρ e σ ∧ RelH c H ρ vh ∧ Out c σ H ρ U (f e vh) fun t _ H' ρ' => ∀ J, aD3 c t.G t.es H' ρ' J → R J H'
open Classical in
noncomputable def aw3 (G : VH → Prop) (A : FTg) (t : FT) (f : FE) (e : Env) : List D → VH → Res (List D)
  | [], vh => if G vh then .ok [] vh else .stuck
  | d :: ds, vh => if G vh then match A d e with
    | none => .stuck
    | some e' => match t e' vh with
      | .ok false vh1 => aw3 G A t f e ds vh1
      | .ok true vh1 => match f e' vh1 with
        | .ok (.d x) vh2 => match aw3 G A t f e ds vh2 with
          | .ok xs vh3 => .ok (x :: xs) vh3
          | _ => .stuck
        | _ => .stuck
      | _ => .stuck else .stuck
noncomputable def aKl (m : Bool) (fi : FIV) (A : FTg) (t : FT) (f : FE) (vs : List Nat) : FE := fun e vh => bnd (fi e vh) fun s vh1 => lcR m (aw3 s.G A t f (lE e vs) s.es vh1)
section
variable {G : VH → Prop} {A : FTg} {t : FT} {f : FE} {e e' : Env} {vh vh1 vh2 : VH} {d x : D} {ds : List D}
end
section
variable {X : Cx} {c : Cn} {U : WX} {pos : Pos}
theorem tMV.mono {f : FIV} {σ : L2.St} {H : Hp} {R R' : It → Hp → Prop} (h : tMV c U f σ H R) (k : ∀ J H1, R J H1 → R' J H1) : tMV c U f σ H R' := by
  obtain ⟨e, ρ, vh, he, hh, o⟩ := h
  refine ⟨e, ρ, vh, he, hh, ?_⟩
  cases q : f e vh with
  | ok s vh' =>
    rw [q] at o
    exact fun H' ρ' g fm rh J fd => k J H' (o H' ρ' g fm rh J fd)
  | exn x vh' => rw [q] at o; exact o
  | stuck => rw [q] at o; exact o
/-! zip of two lists -/
def opV (vh : VH) : W → Option (List D × Option Nat)
  | .d (.lst ds) => some (ds, none)
  | .d _ => none
  | .ref k => match vh[k]? with
    | some (.lst ds) => some (ds, some k)
    | _ => none
def aIL (ws : List W) (vh : VH) : Res SrcV := match ws with
  | [w1, w2] => opt (opV vh w1) fun a => opt (opV vh w2) fun b => .ok ⟨fun v => grd a.2 a.1 v ∧ grd b.2 b.1 v, awO a.1 b.1⟩ vh
  | _ => .stuck
def aJl (fa : FA) : FIV := fun e vh => bnd (fa e vh) aIL
end
end Mn

namespace PySem.W
open PySem PySem.Spec PyProof PyProof.Rows
section
variable {prog : Program} {w : World} {K : Type} [DecidableEq K] {knd : KeyKind prog w K} {s : Shared} {A : Around}
end
end PySem.W
namespace Mn
open PySem PySem.Spec PyProof.Rows L2
variable [TL : TabList]

/-! ### dict(d): a copy -/
def aIJ (xs : List D) : Option D := match xs with
  | [.dic false kvs] => some (.dic false kvs)
  | [.fdc false kvs] => some (.dic false kvs)
  | _ => none
abbrev aH2 : List V → Hp → VK → Prop := fun xs H Q => ∃ (a : Addr) (kvs : List (Key × V)), xs = [.ref a] ∧ Rd H a (.dK kvs) ∧ ∀ p, H p = none → Q (.ref p) (upd H p (.dK kvs))
section
variable {X : Cx} {U : WX} {c : Cn}
/-! ### != of dicts -/
def aJg (K : PySem.W.Frag) : R2 := fun x y H Q => ∃ a b ks ls r, x = .ref a ∧ y = .ref b ∧ Rd H a (.dK ks) ∧ Rd H b (.dK ls) ∧ (ks.length = ls.length → DHit K H ls ks r) ∧ Q (.bl (!(decide (ks.length = ls.length) && r))) H
def aKj (x y : D) : Option D := match x, y with
  | .dic false a, .dic false b => if a.length = b.length then (azU b a).map fun r => .bl (!r) else some (.bl true)
  | .dic false a, .fdc false b => if a.length = b.length then (azU b a).map fun r => .bl (!r) else some (.bl true)
  | x, y => dNe x y
end
end Mn

namespace Mn
open PySem PySem.Spec PyProof.Rows L2
variable [TL : TabList]

/-! ### a dict that changes no more is locked from there on -/
def aGj (i : Nat) : RS → RS
  | .nx e vh => match e[i]? with
    | some (some (.ref k)) => (match vh[k]? with
      | some (.dic t kvs) => .nx (e.set i (some (.d (.fdc t kvs)))) (vh.set k .dead)
      | _ => .stuck)
    | _ => .stuck
  | _ => .stuck
def aJa (i : Nat) (f : FS) : FS := fun e vh => aGj i (f e vh)
section
variable {c : Cn} {U : WX} {X : Cx}
/-- the thing is locked when the statement has run -/
def aJz (t : TS) : TS := fun D σ H => t ⟨fun σ' H' => ∃ a u, H' a = some u ∧ Mut (some u) ∧ ∀ od, D.nx σ' (upd H' a (.frz od u)), fun _ _ => False, fun _ _ => False, fun _ _ => False⟩ σ H
end
/-! ### the keys of a locked dict, in a loop or a comprehension -/
def aJN (f : FE) : FI := fun e vh => bnd (f e vh) fun w vh1 => match w with
  | .d (.fdc false kvs) => if (kvs.all fun p => aq8 false p.1) = true then .ok (kvs.map (·.1)) vh1 else .stuck
  | _ => .stuck
section
variable {X : Cx} {c : Cn} {U : WX} {tg e : Expr} {f : FE}
end
end Mn

namespace Mn
open PySem PySem.Spec PyProof.Rows L2
variable [TL : TabList]

/-! ### tuples that hold changeable things: displays, items, is None, handed back -/
def aDi (vh : VH) : W → Bool
  | .ref k => match vh[k]? with
    | some .dead => false
    | some _ => true
    | none => false
  | .d _ => false
def aI1 (f : FA) : FE := fun e vh => bnd (f e vh) fun ws vh1 => if ws.length ≤ sizeLine ∧ ws.any (aDi vh1) = true then .ok (.ref vh1.length) (vh1 ++ [.tpw ws]) else .stuck
def aGA (o : Option W) (vh : VH) : Res W := match o with
  | some x => .ok x vh
  | none => .stuck
def ixW (w1 w2 : W) (vh : VH) : Res W := match w2 with
  | .d (.int j) => match w1 with
    | .ref k => match vh[k]? with
      | some (.tpw ws) => aGA (L2.atI ws j) vh
      | some (.lsw ws) => aGA (L2.atI ws j) vh
      | _ => .stuck
    | .d _ => .stuck
  | _ => .stuck
def aJ6 (fa fb : FE) : FE := fun e vh => bnd (fa e vh) fun w1 vh1 => bnd (fb e vh1) fun w2 vh2 => ixW w1 w2 vh2
def nnW (n : Bool) (w1 w2 : W) (vh : VH) : Res W := match w2 with
  | .d .non => match w1 with
    | .ref k => if aDi vh (.ref k) = true then .ok (.d (.bl n)) vh else .stuck
    | .d x => .ok (.d (.bl (if n = true then !x.isNon else x.isNon))) vh
  | _ => .stuck
def aKo (n : Bool) (fa fb : FE) : FE := fun e vh => bnd (fa e vh) fun w1 vh1 => bnd (fb e vh1) fun w2 vh2 => nnW n w1 w2 vh2
section
variable {c : Cn} {H : Hp} {ρ : Rho} {vh : VH}
end
section
variable {X : Cx} {c : Cn} {U : WX} {a b : Expr} {es : List Expr} {pos p : Pos} {fa fb : FE}
/-! ### min of two ints -/
def aKb : List D → Option D
  | [.int i, .int j] => some (.int (if j < i then j else i))
  | _ => none
end

/-! ### keeping a pair: the new tuple with its new list -/
section
variable {c : Cn} {H : Hp} {ρ : Rho}
end
def aED (n : Nat) (k : Nat) (vh : VH) : Option (Nat × List D × D) := match vh[k]? with
  | some (.tpw [.ref j, .d x]) => match vh[j]? with
    | some (.lst ds) => if n ≤ j ∧ n ≤ k ∧ j ≠ k then some (j, ds, x) else none
    | _ => none
  | _ => none
def aEO (n : Nat) : Res W → Res W
  | .ok (.ref k) vh' => if n ≤ vh'.length ∧ anO n vh' = true then match aED n k vh' with
    | some (_, ds, x) => .ok (.ref (n + 1)) (vh'.take n ++ [.lst ds, .tpw [.ref n, .d x]])
    | none => .stuck
    else .stuck
  | .ok (.d x) vh' => if n ≤ vh'.length ∧ anO n vh' = true then .ok (.d x) (vh'.take n) else .stuck
  | .exn x vh' => if n ≤ vh'.length ∧ anO n vh' = true then .exn x (vh'.take n) else .stuck
  | .stuck => .stuck
def aIw (F : FN) : FN := fun ws vh => aEO vh.length (F ws vh)
section
variable {c : Cn} {H : Hp} {ρ : Rho}
end
end Mn

namespace Mn
open PySem PySem.Spec PyProof.Rows L2
variable [TL : TabList]

/-! ### an own instance is called: o(..) -/
section
variable {M : Model} {A : Around} {E : Value → Shared → Prop} {s : Shared}
end
section
variable {X : Cx} {U : WX} {c : Cn} {k : Nat} {tbl : List (Str × FC)} {m : Str} {a b e f : Expr} {es : List Expr} {fa fb fo : FE} {ga : FA} {pos p : Pos}
end

/-! ### o.x, o.y = a, b -/
def kW (w : W) : FE := fun _ vh => .ok w vh
def aFL (ns1 : List Str) (f1 : Str) (ns2 : List Str) (f2 : Str) (fo : FE) (fa : FA) : FS := fun e vh => lft (fa e vh) e fun ws vh1 => match ws with
  | [w1, w2] => dF (ao3 ns1 f1 fo (kW w1)) (ao3 ns2 f2 fo (kW w2)) e vh1
  | _ => .stuck
def aJ7 (K : PySem.W.Frag) (ta : TE) (f : Str) : TG := fun v σ H Q => ta σ H fun x H2 => ∃ a C dx fs, x = .ref a ∧ H2 a = some (.ins C dx fs) ∧ Cls K C ∧ NoAttr K C f ∧ fs.length < 1000 ∧ Q σ (upd H2 a (.ins C dx (putF f v fs)))
section
variable {X : Cx} {U : WX} {c : Cn} {o a b : Expr} {pos pos' pos1 pos2 pt pt2 : Pos} {fo fv : FE} {fa : FA} {ns ns1 ns2 : List Str} {f f1 f2 : Str}
end

/-! ### o.x, x a property -/
def aJ0 (X : Cx) (k : Nat) (cn f : Str) (F : FC) : Prop := ∃ C p g, X.mg cn = some (.ref C) ∧ Cls X.K C ∧ PropOf X.K C f p g ∧ FnC X.prog X.w X.K X.mg X.base k g [] F
def okR : Res W → Res W
  | .ok w vh => .ok w vh
  | _ => .stuck
def aFr (cn : Str) (F : FC) (w : W) (vh : VH) : Res W := opt (ajL vh w) fun p => if p.1 = cn then okR (F [w] [] vh) else .stuck
def aI9 (cn : Str) (F : FC) (fo : FE) : FE := fun e vh => bnd (fo e vh) (aFr cn F)
section
variable {X : Cx} {U : WX} {c : Cn} {k : Nat} {cn f : Str} {F : FC} {o : Expr} {fo : FE} {pos : Pos}
end
end Mn

namespace Mn
open PySem PySem.Spec PyProof.Rows L2
variable [TL : TabList]

/-! ### facts for the text: a property -/
structure GPrp (K : PySem.W.Frag) (mg : Str → Option Value) (cl x qual : Str) (st : Stmt) (dd : List D) (kd : List (Str × D)) (f : Addr) (fd : FuncData) : Prop where
  df : GDf K mg x qual st dd kd f fd
  S : ∃ C p, mg cl = some (.ref C) ∧ Cls K C ∧ PropOf K C x p f
/-! ### x, y, z = a, b, d where a name is a cell: the tuple is made and taken apart -/
section
variable {X : Cx} {U : WX} {c : Cn} {pos : Pos}
end
/-! ### comprehensions over one list that may change elsewhere -/
def aIa (w : W) (vh : VH) : Res SrcV := match w with
  | .ref k => match vh[k]? with
    | some (.lst ds) => .ok ⟨fun v => v[k]? = some (.lst ds), ds⟩ vh
    | _ => .stuck
  | .d _ => .stuck
def aI4 (f : FE) : FIV := fun e vh => bnd (f e vh) aIa
section
variable {X : Cx} {c : Cn} {U : WX} {tg iter : Expr} {f : FE}
end
end Mn

namespace Mn
open PySem PySem.Spec PyProof.Rows L2
variable [TL : TabList]

/-! ### comprehensions that make changeable things -/
def awU (A : FTg) (t : FT) (f : FE) (e : Env) : List D → VH → Res (List W)
  | [], vh => .ok [] vh
  | d :: ds, vh => match A d e with
    | none => .stuck
    | some e' => match t e' vh with
      | .ok false vh1 => awU A t f e ds vh1
      | .ok true vh1 => match f e' vh1 with
        | .ok w vh2 => match awU A t f e ds vh2 with
          | .ok xs vh3 => .ok (w :: xs) vh3
          | _ => .stuck
        | _ => .stuck
      | _ => .stuck
def aKe (r : Res (List W)) : Res W := match r with
  | .ok xs vh2 => if xs.length ≤ sizeLine then .ok (.ref vh2.length) (vh2 ++ [.lsw xs]) else .stuck
  | _ => .stuck
def aKc (fi : FI) (A : FTg) (t : FT) (f : FE) (vs : List Nat) : FE := fun e vh => bnd (fi e vh) fun ds vh1 => match awU A t f (lE e vs) ds vh1 with
  | .ok xs vh2 => if xs.length ≤ sizeLine then .ok (.ref vh2.length) (vh2 ++ [.lsw xs]) else .stuck
  | _ => .stuck
section
variable {c : Cn} {H : Hp} {ρ : Rho}
end
section
variable {X : Cx} {c : Cn} {U : WX} {pos : Pos}
end
/-! ### o.x += e, ints -/
def aHE (ns : List Str) (f : Str) (a : Int) (cn : Str) (wo wv : W) (e : Env) (vh : VH) : RS := match wv with
  | .d (.int b) => if (ajL vh wo).map (·.1) = some cn then sfR ns f (.d (.int (a + b))) wo e vh else .stuck
  | _ => .stuck
def aJp (ns : List Str) (f : Str) (fo fv : FE) : FS := fun e vh => lft (fo e vh) e fun wo vh1 => match wo with
  | .d _ => .stuck
  | .ref k => match aEA vh1 ns f (.ref k), ajL vh1 (.ref k) with
    | some (.d (.int a)), some p => lft (fv e vh1) e fun wv vh2 => aHE ns f a p.1 (.ref k) wv e vh2
    | _, _ => .stuck
section
variable {X : Cx} {U : WX} {c : Cn} {o value : Expr} {pos tpos : Pos} {fo fv : FE} {ns : List Str} {f : Str}
end
end Mn

namespace Mn
open PySem PySem.Spec PyProof.Rows L2
variable [TL : TabList]

/-! ### a dict held by a field is locked -/
def aCV (f : Str) (x : D) : List (Str × W) → List (Str × W)
  | [] => []
  | (g, w) :: r => match f == g with
    | true => (g, .d x) :: r
    | false => (g, w) :: aCV f x r
def aFQ (i : Nat) (f : Str) : RS → RS
  | .nx e vh => match e[i]? with
    | some (some (.ref n)) => (match vh[n]? with
      | some (.ins cn fs) => (match fs.lookup f with
        | some (.ref k) => (match vh[k]? with
          | some (.dic t kvs) => .nx e ((vh.set k .dead).set n (.ins cn (aCV f (.fdc t kvs) fs)))
          | _ => .stuck)
        | _ => .stuck)
      | _ => .stuck)
    | _ => .stuck
  | _ => .stuck
def aJM (i : Nat) (f : Str) (s : FS) : FS := fun e vh => aFQ i f (s e vh)
section
variable {c : Cn} {U : WX} {X : Cx}
end

/-! ### the keys (tuples) of a locked dict, in a loop -/
def aFo (w : W) (vh : VH) : Res Src3 := match w with
  | .d (.fdc true kvs) => if (kvs.all fun p => aq8 true p.1) = true then .ok ⟨none, [], kvs.map (·.1)⟩ vh else .stuck
  | _ => .stuck
def aIK (f : FE) : FIW := fun e vh => bnd (f e vh) aFo
section
variable {X : Cx} {c : Cn} {U : WX} {tg e : Expr} {f : FE}
end

/-! ### isinstance, len and clear of what holds changeable things -/
def tyW (vh : VH) : W → Option String
  | .d x => aeP x
  | .ref k => match vh[k]? with
    | some (.lst _) => some "list"
    | some (.lsw _) => some "list"
    | some (.tpw _) => some "tuple"
    | _ => none
def aHC (ws : List W) (vh : VH) : Res W := match ws with
  | [w, .d (.ty T)] => match tyW vh w with
    | some S => match kitB S T with
      | some b => .ok (.d (.bl b)) vh
      | none => .stuck
    | none => .stuck
  | _ => .stuck
def aJq (f : FA) : FE := fun e vh => bnd (f e vh) aHC
def aIG (ws : List W) (vh : VH) : Res W := match ws with
  | [.ref k] => match vh[k]? with
    | some (.lsw ws) => .ok (.d (.int ws.length)) vh
    | some (.tpw ws) => .ok (.d (.int ws.length)) vh
    | _ => .stuck
  | _ => .stuck
def aJu (f : FA) : FE := fun e vh => bnd (f e vh) aIG
def aHZ (w : W) (vh : VH) : Res W := match w with
  | .ref k => match vh[k]? with
    | some (.lsw _) => .ok (.d .non) (vh.set k (.lsw []))
    | _ => .stuck
  | _ => .stuck
def aI5 (fo : FE) : FE := fun e vh => bnd (fo e vh) aHZ
section
variable {X : Cx} {c : Cn} {U : WX} {o e a b : Expr} {es : List Expr} {pos p : Pos} {x : Str} {fo : FE} {fa : FA}
end
end Mn

namespace Mn
open PySem PySem.Spec PyProof.Rows L2
variable [TL : TabList]

/-! ### x, y = a, b where a name is a cell: the tuple is made and taken apart -/
section
variable {X : Cx} {U : WX} {c : Cn} {pos : Pos}
end
end Mn

namespace Mn
open PySem PySem.Spec PyProof.Rows L2
variable [TabList]

/-! ### an own exception class: C(e, ..) as a value, its fields, isinstance of it -/
/-- the reading: the exception object with its dict, both new -/
def aBd (C : Addr) (n : Nat) (flds : List V → List (Str × V)) (ta : TA) : TE := fun σ H Q => ta σ H fun vs H1 => vs.length = n ∧ ∀ a d, H1 a = none → H1 d = none → d ≠ a → Q (.ref a) (upd (upd H1 d (exd d (flds vs))) a (exo a C (some d)))
theorem axU {H : Hp} {a dx : Addr} {o1 o2 o3 : HO} : upd (upd (upd H a o1) dx o2) a o3 = upd (upd H dx o2) a o3 := funext fun b => by
  by_cases h : b = a
  · rw [h, upd_same, upd_same]
  · rw [upd_ne h, upd_ne h]
    by_cases h2 : b = dx
    · rw [h2, upd_same, upd_same]
    · rw [upd_ne h2, upd_ne h2, upd_ne h]
section
variable {X : Cx} {e : Expr} {es : List Expr} {ta : TA} {x : Str} {C fI : Addr} {k : Nat} {fd : FuncData} {ps fn : List Str} {n : Nat} {flds : List V → List (Str × V)} {B newId initId : String} {bmB : List Value} {p pos : Pos} {pins : List (Addr × Obj)} {σ : L2.St} {H : Hp} {Q : VK} {s : Shared}
/-- the arguments at hand -/
theorem au6 {us : List Value} {vs : List V} (T : XcC X.K C B newId initId bmB) (iC : PySem.W.findIn X.K (.ref C) "__init__" = some (some (.ref fI))) (tI : PySem.W.typeIn X.K (.ref fI) = some (.type "function")) (F : FnOk X.prog X.w X.K X.mg X.base (L2.CX X.prog X.w) k fI fd ps (spX X.K B newId initId bmB n fn flds))
    (hf : ∀ f ∈ fn, PySem.W.takerIn X.K C f = some none) (hn : n ≤ 1000) (hr : Room (k + 1) X.A) (hb : Binds X.K fd ps []) (I : L2.Inv X pins σ H s) (r : Vals vs us) (hl : vs.length = n) (q : ∀ a d, H a = none → H d = none → d ≠ a → Q (.ref a) (upd (upd H d (exd d (flds vs))) a (exo a C (some d)))) :
    wpAny (model X.prog X.w) X.A (call (.ref C) us) (EP X pins σ Q) X.xe s := by
  obtain ⟨nm, N', qn, bs, bm, hdct, sn, sub, ab, col, dd, k0, k1, k2, k3, k5, hC, hT⟩ := PySem.W.excInit_of I.kIn T.ini
  have hus : us.length ≤ sizeLine := by rw [← r.length, hl, sizeLine_eq]; omega
  obtain ⟨hp, g, dr, tk, os⟩ := s
  have up1 : hp.objs.size ≤ hp.objs.size + 1 := Nat.le_succ _
  have na : H (hp.objs.size + 1) = none := I.hok.fresh up1
  have kk : ∀ b o, hp.get? b = some o → ((hp.push (PySem.W.kdv_tup us)).push (HandSPX.excO C hp.objs.size)).get? b = some o := fun b o z => Heap.get?_push_of_some _ (Heap.get?_push_of_some _ z)
  have atE : ((hp.push (PySem.W.kdv_tup us)).push (HandSPX.excO C hp.objs.size)).get? (hp.objs.size + 1) = some (HandSPX.excO C hp.objs.size) := by heap_get
  have J := I.laid (t' := tk) (a := hp.objs.size + 1) (o := exo (hp.objs.size + 1) C none) (h' := (hp.push (PySem.W.kdv_tup us)).push (HandSPX.excO C hp.objs.size)) kk up1 (exo_ok atE)
  have hsp : spX X.K B newId initId bmB n fn flds (.ref (hp.objs.size + 1) :: vs) (upd H (hp.objs.size + 1) (exo (hp.objs.size + 1) C none))
      (fun v H2 => v = .non ∧ ∃ d, H d = none ∧ d ≠ hp.objs.size + 1 ∧ H2 = upd (upd H d (exd d (flds vs))) (hp.objs.size + 1) (exo (hp.objs.size + 1) C (some d))) (fun _ _ _ => False) := by
    refine ⟨hp.objs.size + 1, C, vs, rfl, hl, T, hf, upd_same, fun dx n1 n2 => ⟨rfl, dx, by rw [upd_ne n2] at n1; exact n1, n2, axU⟩⟩
  have rv : Vals (V.ref (hp.objs.size + 1) :: vs) (Value.ref (hp.objs.size + 1) :: us) := .cons rfl r
  have hps : (Value.ref (hp.objs.size + 1) :: us ++ []).length = ps.length := by rw [List.append_nil, ← rv.length]; exact F.len _ _ _ _ hsp
  have bind : BindsTo (⟨(hp.push (PySem.W.kdv_tup us)).push (HandSPX.excO C hp.objs.size), g, dr, tk, os⟩ : Shared) fd ⟨Value.ref (hp.objs.size + 1) :: us, []⟩ (ps.zip (Value.ref (hp.objs.size + 1) :: us)) := by
    have z := hb _ (Value.ref (hp.objs.size + 1) :: us) J.kIn hps
    rw [List.append_nil] at z
    exact z
  refine wpAny_call (HandSPX.call_own T.fb hT hC (PySem.W.looks_findIn I.kIn iC) (fun self => PySem.W.bind_fn I.kIn self tI) hus (codeAny_mono (F.run _ X.stack _ _ ⟨Value.ref (hp.objs.size + 1) :: us, []⟩ _ _ _ _ (hr.make C us []) (J.env0.make C us []) bind rv hsp) fun res s' z => ?_))
  cases res with
  | error er => exact (aB4 z).elim
  | ok fl => cases fl with
    | next => exact z.elim
    | brk => exact z.elim
    | cont => exact z.elim
    | ret u =>
      obtain ⟨v, H2, J2, ru, rfl, d, nd, ne, rfl⟩ := J.after z
      exact ⟨ru, .ref (hp.objs.size + 1), _, J2, rfl, q _ d na nd ne⟩
theorem aDI (T : XcC X.K C B newId initId bmB) (iC : PySem.W.findIn X.K (.ref C) "__init__" = some (some (.ref fI))) (tI : PySem.W.typeIn X.K (.ref fI) = some (.type "function")) (F : FnOk X.prog X.w X.K X.mg X.base (L2.CX X.prog X.w) k fI fd ps (spX X.K B newId initId bmB n fn flds))
    (hf : ∀ f ∈ fn, PySem.W.takerIn X.K C f = some none) (hn : n ≤ 1000) (hr : Room (k + 1) X.A) (hb : Binds X.K fd ps []) (hg : Gl X x) (hm : X.mg x = some (.ref C)) (ha : PA X (e :: es) ta)
    (hdb : (x == ("__debug__" : Str)) = false := by decide) (he : starEach (e :: es) X.env = (false, eval e X.env) :: starEach es X.env := by rfl) (hpl : (backTo pos (starEach es X.env)).any (·.1) = false := by rfl) :
    PE X (.Call (.Name x p) (e :: es) [] pos) (aBd C n flds ta) := by
  refine ⟨fun pins s σ H Q I h => ?_⟩
  refine wpAny_Call_Name_kw (ld_glob I hg hm (PySem.W.callWith_K (h₀ := X.base) I.ok.mod.kin T.kC (thn (ha.run pos pins s σ H _ I h) fun us s1 hq => ?_) he hpl) hdb)
  obtain ⟨vs, H1, I1, r, hl, q⟩ := hq
  exact ⟨I1.kIn, au6 T iC tI F hf hn hr hb I1 r hl q⟩
theorem aCn (T : XcC X.K C B newId initId bmB) (iC : PySem.W.findIn X.K (.ref C) "__init__" = some (some (.ref fI))) (tI : PySem.W.typeIn X.K (.ref fI) = some (.type "function")) (F : FnOk X.prog X.w X.K X.mg X.base (L2.CX X.prog X.w) k fI fd ps (spX X.K B newId initId bmB 0 fn flds))
    (hf : ∀ f ∈ fn, PySem.W.takerIn X.K C f = some none) (hr : Room (k + 1) X.A) (hb : Binds X.K fd ps []) (hg : Gl X x) (hm : X.mg x = some (.ref C)) (hdb : (x == ("__debug__" : Str)) = false := by decide) :
    PE X (.Call (.Name x p) [] [] pos) (aBd C 0 flds tNil) := by
  refine ⟨fun pins s σ H Q I h => ?_⟩
  obtain ⟨hl, q⟩ := h
  exact wpAny_Call_Name_kw (ld_glob I hg hm (PySem.W.callWith_K0 I.kIn T.kC (au6 T iC tI F hf (Nat.zero_le _) hr hb I .nil hl q)) hdb)
/-- e.f of such a value -/
def tXv (K : PySem.W.Frag) (f : Str) (te : TE) : TE := fun σ H Q => te σ H fun x H1 => ∃ (a C dx : Addr) (fs : List (Str × V)) (v : V), x = .ref a ∧ H1 a = some (exo a C (some dx)) ∧ H1 dx = some (exd dx fs) ∧ XfC K C ∧ PySem.W.findIn K (.ref C) f = some none ∧ fs.lookup f = some v ∧ Q v H1
theorem aE9 {te : TE} {f : Str} (he : PE X e te) (hb : attributeBase e f X.env (eval e X.env) = eval e X.env := by rfl) : PE X (.Attribute e f pos) (tXv X.K f te) := by
  refine ⟨fun pins s σ H Q I h => ?_⟩
  refine attr_of hb (thn (he.run pins s σ H _ I h) fun u s1 hh => ?_)
  obtain ⟨x, H1, I1, rx, a, C, dx, fs, v, ex, ea, ed, T, hno, l, q⟩ := hh
  subst ex
  obtain rfl : u = Value.ref a := rx
  obtain ⟨t1, ho⟩ := exo_at I1.hok ea
  obtain ⟨mA, hns, hr⟩ := exd_at I1.hok ed
  obtain ⟨od, ho2, hl⟩ := lookIn_ns hns
  obtain ⟨u, hu, ru⟩ := RelO.some_of (v := v) (o := mA f) (by rw [← l]; exact hr f)
  have J : PySem.W.InstAt s1.heap a _ C (some od) := ⟨ho, rfl, rfl, ho2⟩
  exact HandSPX.exc_get I1.kIn J T.ga T.gg T.exC (PySem.W.findObj_own T.hdC hno rfl (by rw [hl, hu])) (handed_of ru) ⟨v, H1, I1.tok _, ru, q⟩
/-- what the class says, so that isinstance asks its instances rightly -/
structure XisC (K : PySem.W.Frag) (C : Addr) : Prop where
  cl : (PySem.W.clsIn K C).isSome = true
  ga : PySem.W.findIn K (.ref C) "__getattribute__" = some (some (.builtin "BaseException.__getattribute__"))
  gg : PySem.W.findIn K (.ref C) "__getattr__" = some none
  sb : PySem.W.subIn K (.ref C) (.type "BaseException") = some true
  ha : PySem.W.findIn K (.ref C) "__class__" = some (some (.builtin "object.__class__"))
  hm : PySem.W.mroIn K C (.type "object") = some true
def aGg (K : PySem.W.Frag) : List V → Hp → VK → Prop := fun xs H Q => ∃ (a C dx : Addr) (fs : List (Str × V)) (c : V) (u : Value) (b : Bool), xs = [.ref a, c] ∧ ClsV c u ∧ H a = some (exo a C (some dx)) ∧ H dx = some (exd dx fs) ∧ XisC K C ∧ PySem.W.kitOne K (.ref C) u = some b ∧ Q (.bl b) H
theorem awM (hn : PySem.W.specialIn X.K (.builtin "object.__class__") "__get__" = some (some (.builtin "getset_descriptor.__get__"))) (htk : PySem.W.takesIn X.K (.builtin "object.__class__") = some true) : CallR X (.builtin "isinstance") (aGg X.K) := by
  intro pins s σ H xs us Q I r h
  obtain ⟨a, C, dx, fs, c, u, b, rfl, k, ea, ed, S, e, q⟩ := h
  obtain ⟨u1, u2, rfl, r1, r2⟩ := vals2 r
  have e2 := k.eq r2
  subst e2
  cases (show u1 = Value.ref a from r1)
  obtain ⟨t1, ho⟩ := exo_at I.hok ea
  obtain ⟨mA, hns, hr⟩ := exd_at I.hok ed
  obtain ⟨od, ho2, hl⟩ := lookIn_ns hns
  have J : PySem.W.InstAt s.heap a _ C (some od) := ⟨ho, rfl, rfl, ho2⟩
  exact PySem.W.kia_one (PySem.W.kitx_exc S.cl S.ga S.gg S.sb S.ha hn htk S.hm) I.kIn J e (fun z => nomatch z) fun tk => ⟨.bl b, H, I.tok tk, rfl, q⟩
end
end Mn

namespace Mn
open PySem PySem.Spec PyProof.Rows L2
variable [TL : TabList]

/-! ### x.split(y) -/
def axZ (x : D) (xs : List D) : Option D := match x, xs with
  | .str a, [.str b] => if (b.length == 0) = false ∧ a.length + 2 ≤ sizeLine ∧ (Txt.split a b).length ≤ sizeLine ∧ (Txt.split a b).all (fun y => decide (y.length ≤ sizeLine) && PyData.strOk y) = true then some (.lst ((Txt.split a b).map .str)) else none
  | _, _ => none
theorem aBk {c : Cn} : MtD c "str" (fun x xs H Q => ∃ a b, x = .str a ∧ xs = [.str b] ∧ (b.length == 0) = false ∧ a.length + 2 ≤ sizeLine ∧ rNewStrs (Txt.split a b) H Q) axZ := fun H ρ x xs v vs z Q fr rx rs e k => by
  unfold axZ at e
  split at e
  · rename_i a b
    split at e
    · rename_i hl
      cases e
      obtain ⟨w, rfl, rw'⟩ := rs.one
      obtain rfl : w = .str b := rw'.1
      refine ⟨a, b, rx.1, rfl, hl.1, hl.2.1, fun p hp => k _ _ (jD hp) ⟨p, _, rfl, fr p hp, upd_same, by rw [List.length_map]; exact hl.2.2.1, aw5 fun y hy => ?_⟩⟩
      have := List.all_eq_true.mp hl.2.2.2 y hy
      rw [Bool.and_eq_true, decide_eq_true_iff] at this
      exact this
    · cases e
  · cases e

theorem ar8 : bootBuiltins "ValueError" = some (.type "ValueError") := PyProof.Rows.Boot.«ValueError»
theorem ap5 : bootBuiltins "LookupError" = some (.type "LookupError") := PyProof.Rows.Boot.«LookupError»
theorem asH : bootBuiltins "IndexError" = some (.type "IndexError") := PyProof.Rows.Boot.«IndexError»
/-! ### own exceptions as values -/
def ad8 (x : Str) (n : Nat) (fl : List D → List (Str × D)) (fa : FA) : FE := fun e vh => bnd (fa e vh) fun ws vh1 => opt (rH ws) fun ds => if ds.length = n then .ok (.d (.exc x (fl ds))) vh1 else .stuck
@[simp] theorem aHF {x : Str} {n : Nat} {fl : List D → List (Str × D)} {fa : FA} {e : Env} {vh : VH} : ad8 x n fl fa e vh = bnd (fa e vh) fun ws vh1 => opt (rH ws) fun ds => if ds.length = n then .ok (.d (.exc x (fl ds))) vh1 else .stuck := rfl
section
variable {X : Cx} {c : Cn} {U : WX} {C : Addr} {x : Str} {k n : Nat} {fv : List V → List (Str × V)} {fl : List D → List (Str × D)} {fa : FA} {e : Expr} {es : List Expr} {p pos : Pos}
theorem aBc (hm : c.mg x = some (.ref C)) (ok : avM n fv fl) (h : PE X e (aBd C n fv (tMA c U fa))) : PE X e (tM c U (ad8 x n fl fa)) := mQ h fun σ H Q ⟨en, ρ, vh, he, hh, o⟩ => (apF he hh o).mono fun vs H1 ⟨ws, vh1, ρ1, rs, A, _, _⟩ => by
  obtain ⟨ds, e1, o⟩ := dM A.out
  have rd := ae7 rs e1
  split at o
  · rename_i hl
    refine ⟨rd.length.symm.trans hl, fun a d na nd ne => ?_⟩
    obtain ⟨gs, e2, r2⟩ := ok c H1 ρ1 ds vs hl rd
    have s1 := jD (o := exd d (fv vs)) nd
    have na' : upd H1 d (exd d (fv vs)) a = none := by rw [upd_ne (Ne.symm ne)]; exact na
    have s2 := jD (o := exo a C (some d)) na'
    have s : Same H1 (upd (upd H1 d (exd d (fv vs))) a (exo a C (some d))) := fun b u q => s2 b u (s1 b u q)
    exact xT A.rh o _ _ s ⟨a, C, d, gs, rfl, A.rh.fresh na, A.rh.fresh nd, hm, upd_same, by rw [upd_ne ne, upd_same, e2], r2.stay (Grow.refl _ _) (Fm.same s)⟩
  · exact o.elim
theorem pY (hcm : c.mg = X.mg) (R : GRaise X.prog X.w X.K X.mg X.base x k n fl) (hn : n ≤ 1000) (hr : Room (k + 1) X.A) (hg : Gl X x) (ha : PA X (e :: es) (tMA c U fa))
    (hdb : (x == ("__debug__" : Str)) = false := by decide) (he : starEach (e :: es) X.env = (false, eval e X.env) :: starEach es X.env := by rfl) (hpl : (backTo pos (starEach es X.env)).any (·.1) = false := by rfl) :
    PE X (.Call (.Name x p) (e :: es) [] pos) (tM c U (ad8 x n fl fa)) := by
  obtain ⟨C, f, fd, ps, B, newId, initId, bmB, fn, fv, T, F, hb, ok⟩ := R.ex
  exact aBc (by rw [hcm]; exact T.m) ok (aDI T.T T.ini T.isf F T.flds hn hr hb hg T.m ha hdb he hpl)
theorem aqW (hcm : c.mg = X.mg) (R : GRaise X.prog X.w X.K X.mg X.base x k 0 fl) (hr : Room (k + 1) X.A) (hg : Gl X x) (hdb : (x == ("__debug__" : Str)) = false := by decide) :
    PE X (.Call (.Name x p) [] [] pos) (tM c U (ad8 x 0 fl cI)) := by
  obtain ⟨C, f, fd, ps, B, newId, initId, bmB, fn, fv, T, F, hb, ok⟩ := R.ex
  refine aBc (by rw [hcm]; exact T.m) ok (mQ (aCn T.T T.ini T.isf F T.flds hr hb hg T.m hdb) fun σ H Q h => ?_)
  obtain ⟨en, ρ, vh, hE, hh, o⟩ := h
  exact o.here hh [] trivial
end
/-- the class called n has the field f in its instances alone -/
structure KXf (K : PySem.W.Frag) (mg : Str → Option Value) (n f : Str) : Prop where
  ex : ∃ C : Addr, mg n = some (.ref C) ∧ XfC K C ∧ PySem.W.findIn K (.ref C) f = some none
def KXs (K : PySem.W.Frag) (mg : Str → Option Value) (ns : List Str) (f : Str) : Prop := ∀ n ∈ ns, KXf K mg n f
theorem KXs.nil {K : PySem.W.Frag} {mg : Str → Option Value} {f : Str} : KXs K mg [] f := fun _ h => nomatch h
theorem KXs.cons {K : PySem.W.Frag} {mg : Str → Option Value} {n f : Str} {ns : List Str} (h : KXf K mg n f) (t : KXs K mg ns f) : KXs K mg (n :: ns) f := fun m hm => (List.mem_cons.mp hm).elim (fun e => e ▸ h) (t m)
def ae5 (ns : List Str) (f : Str) (fo : FE) : FE := fun e vh => bnd (fo e vh) fun w vh1 => match w with
  | .d (.exc n fs) => if n ∈ ns then opt (fs.lookup f) fun d => .ok (.d d) vh1 else .stuck
  | _ => .stuck
section
variable {X : Cx} {c : Cn} {U : WX} {C : Addr} {o a : Expr} {fo fa : FE} {ns : List Str} {f n : Str} {p p2 pos : Pos} {tbl : List (Str × Bool)} {u : Value} {T : String}
theorem vC (hm : c.mg = X.mg) (kx : KXs X.K X.mg ns f) (ho : PE X o (tM c U fo)) (hb : attributeBase o f X.env (eval o X.env) = eval o X.env := by rfl) : PE X (.Attribute o f pos) (tM c U (ae5 ns f fo)) :=
  mQ (aE9 ho hb) fun σ H Q ⟨e, ρ, vh, he, hh, h⟩ => (use he hh h).mono fun v1 H1 ⟨w, vh1, ρ1, r, A, _, _⟩ => by
    have out := A.out
    cases w with
    | ref _ => exact out.elim
    | d x =>
      cases x with
      | exc n fs =>
        dsimp only at out
        split at out
        · rename_i hn
          obtain ⟨z, hz, o2⟩ := dM out
          obtain ⟨a, C, dx, xs, e1, _, _, e2, ea, ed, rf⟩ := r
          obtain ⟨C', m1, m2, m3⟩ := (kx n hn).ex
          rw [hm, m1] at e2
          cases e2
          obtain ⟨v, hv, rv⟩ := rf.look hz
          exact ⟨a, _, dx, _, v, e1, ea, ed, m2, m3, hv, o2.here A.rh v rv⟩
        · exact out.elim
      | _ => exact out.elim
/-- isinstance of an exception -/
structure KXi (K : PySem.W.Frag) (mg : Str → Option Value) (u : Value) (n : Str) (b : Bool) : Prop where
  ex : ∃ D : Addr, mg n = some (.ref D) ∧ XisC K D ∧ PySem.W.kitOne K (.ref D) u = some b
def XiOk (K : PySem.W.Frag) (mg : Str → Option Value) (u : Value) (tbl : List (Str × Bool)) : Prop := ∀ n b, tbl.lookup n = some b → KXi K mg u n b
theorem XiOk.nil {K : PySem.W.Frag} {mg : Str → Option Value} : XiOk K mg u [] := fun _ _ h => nomatch h
theorem XiOk.cons {K : PySem.W.Frag} {mg : Str → Option Value} {b : Bool} (h : KXi K mg u n b) (t : XiOk K mg u tbl) : XiOk K mg u ((n, b) :: tbl) := fun x d e => by
  rw [List.lookup_cons] at e
  cases q : x == n with
  | true => rw [q] at e; cases e; rw [beq_iff_eq.mp q]; exact h
  | false => rw [q] at e; exact t x d e
def awE (tbl : List (Str × Bool)) (fa : FE) : FE := fun e vh => bnd (fa e vh) fun w vh1 => match w with
  | .d (.exc n _) => opt (tbl.lookup n) fun b => .ok (.d (.bl b)) vh1
  | _ => .stuck
theorem azZ {cv : V} (hcm : c.mg = X.mg) (M : XiOk X.K X.mg u tbl) (k : ClsV cv u) {σ : L2.St} {H : Hp} {Q : VK} (h : tM c U (awE tbl fa) σ H Q) : tM c U fa σ H fun x H1 => aGg X.K [x, cv] H1 Q := by
  obtain ⟨en, ρ, vh, hE, hh, h⟩ := h
  refine (use hE hh h).mono fun x H1 ⟨w, vh1, ρ1, r, A, g1, f1⟩ => ?_
  have out := A.out
  cases w with
  | ref _ => exact out.elim
  | d y =>
    cases y with
    | exc n fs =>
      obtain ⟨b, hb, o⟩ := dM out
      obtain ⟨a, C, dx, xs, e1, _, _, e2, ea, ed, rf⟩ := r
      obtain ⟨C', m1, m2, m3⟩ := (M n b hb).ex
      rw [hcm, m1] at e2
      cases e2
      subst e1
      exact ⟨a, _, dx, _, cv, u, b, rfl, k, ea, ed, m2, m3, o.here A.rh (.bl b) rfl⟩
    | _ => exact out.elim
theorem aBq (hcm : c.mg = X.mg) (S : IsK X.K) (M : XiOk X.K X.mg (.ref C) tbl) (hg : Gl X "isinstance") (hm : X.mg "isinstance" = none) (hgn : Gl X n) (hC : X.mg n = some (.ref C)) (ha : PE X a (tM c U fa))
    (hdn : (n == ("__debug__" : Str)) = false := by decide)
    (he : starEach [a, .Name n p2] X.env = (false, eval a X.env) :: starEach [.Name n p2] X.env := by rfl) (hpl : (backTo pos (starEach [.Name n p2] X.env)).any (·.1) = false := by rfl) : PE X (.Call (.Name "isinstance" p) [a, .Name n p2] [] pos) (tM c U (awE tbl fa)) :=
  mQ (pe_callB (awM S.hn S.tk) hg hm PyProof.Rows.Boot.«isinstance» (pa_cons ha (pa_cons (pe_glob (v := .ref C) hgn hC rfl hdn) pa_nil) he) (by decide) (by decide) he hpl) fun σ H Q h => azZ hcm M (.own C) h
theorem atM (hcm : c.mg = X.mg) (S : IsK X.K) (M : XiOk X.K X.mg (.type T) tbl) (hg : Gl X "isinstance") (hm : X.mg "isinstance" = none) (hT : PE X (.Name n p2) (tC (.ty T))) (ha : PE X a (tM c U fa))
    (he : starEach [a, .Name n p2] X.env = (false, eval a X.env) :: starEach [.Name n p2] X.env := by rfl) (hpl : (backTo pos (starEach [.Name n p2] X.env)).any (·.1) = false := by rfl) : PE X (.Call (.Name "isinstance" p) [a, .Name n p2] [] pos) (tM c U (awE tbl fa)) :=
  mQ (pe_callB (awM S.hn S.tk) hg hm PyProof.Rows.Boot.«isinstance» (pa_cons ha (pa_cons hT pa_nil) he) (by decide) (by decide) he hpl) fun σ H Q h => azZ hcm M (.ty T) h
end
end Mn

namespace Law
open PySem PySem.Spec PyProof.Rows L2 Mn
variable [TL : TabList]
def xsT : List Str := ["InvalidMode", "TooMany", "InvalidMember", "DuplicateName", "InvalidName", "InvalidBrand", "Conforms", "NotConforming", "InvalidStatement", "Aborted", "InUse", "InvalidCommand", "InvalidText", "TooWide", "NothingLeft", "UnknownVariable", "UnknownMember", "UnknownInterface"]
def top (i : Nat) : Stmt := PySem.Challenge.pw_unmeant_k65_errors_made_by_hand.main.body.getD i (.Pass ⟨0, 0, 0, 0⟩)
def wG (i j : Nat) : Stmt := match top i with
  | .ClassDef _ _ _ b _ _ _ _ _ _ _ => b.getD j (.Pass ⟨0, 0, 0, 0⟩)
  | s => s
abbrev bF : Stmt := wG 1 0
def aAB : List D → List (Str × D) := fun ds => [("word", ds.headD .non)]
abbrev fP : Stmt := wG 8 0
def wZ : List D → List (Str × D) := fun _ => [("word", .str "InvalidMode")]
abbrev pM : Stmt := wG 7 0
def afF : List D → List (Str × D) := fun ds => [("most", ds.headD .non), ("word", .str "TooMany")]
abbrev eE : Stmt := wG 6 0
def tK : List D → List (Str × D) := fun ds => [("index", ds.headD .non), ("word", .str "InvalidMember")]
abbrev d9 : Stmt := wG 5 0
def sW : List D → List (Str × D) := fun ds => [("name", ds.headD .non), ("word", .str "DuplicateName")]
abbrev fV : Stmt := wG 4 0
def xO : List D → List (Str × D) := fun ds => [("name", ds.headD .non), ("word", .str "InvalidName")]
abbrev eZ : Stmt := wG 12 0
def vG : List D → List (Str × D) := fun ds => [("name", ds.headD .non), ("word", .str "InvalidBrand")]
abbrev nM : Stmt := wG 11 0
def ad9 : List D → List (Str × D) := fun ds => [("other", ds.getD 1 .non), ("one", ds.headD .non), ("word", .str "Conforms")]
abbrev eQ : Stmt := wG 10 0
def sX : List D → List (Str × D) := fun ds => [("other", ds.getD 1 .non), ("one", ds.headD .non), ("word", .str "NotConforming")]
abbrev cZ : Stmt := wG 9 0
def oM : List D → List (Str × D) := fun ds => [("at", ds.headD .non), ("word", .str "InvalidStatement")]
abbrev pD : Stmt := wG 17 0
def afP : List D → List (Str × D) := fun ds => [("why", ds.getD 1 .non), ("at", ds.headD .non), ("word", .str "Aborted")]
abbrev xY : Stmt := wG 16 0
def alA : List D → List (Str × D) := fun ds => [("by", ds.headD .non), ("word", .str "InUse")]
abbrev dN : Stmt := wG 15 0
def rF : List D → List (Str × D) := fun _ => [("word", .str "InvalidCommand")]
abbrev fO : Stmt := wG 14 0
def xJ : List D → List (Str × D) := fun ds => [("line", ds.headD .non), ("word", .str "InvalidText")]
abbrev pO : Stmt := wG 13 0
def afJ : List D → List (Str × D) := fun ds => [("most", ds.headD .non), ("word", .str "TooWide")]
abbrev gK : Stmt := wG 3 0
def yD : List D → List (Str × D) := fun _ => [("word", .str "NothingLeft")]
abbrev kE : Stmt := wG 2 0
def aDB : List D → List (Str × D) := fun ds => [("word", ds.headD .non)]
abbrev dH : Stmt := wG 20 0
def pP : List D → List (Str × D) := fun ds => [("name", ds.headD .non), ("word", .str "UnknownVariable")]
abbrev eG : Stmt := wG 19 0
def tR : List D → List (Str × D) := fun ds => [("name", ds.headD .non), ("word", .str "UnknownMember")]
abbrev cY : Stmt := wG 18 0
def oO : List D → List (Str × D) := fun ds => [("name", ds.headD .non), ("word", .str "UnknownInterface")]
def ay3 : List Str := ["DuplicateName", "InvalidName", "InvalidBrand", "UnknownVariable", "UnknownMember", "UnknownInterface"]
def az9 : List Str := ["TooMany", "TooWide"]
def au8 : List Str := ["Conforms", "NotConforming"]
def aB1 : List Str := ["Conforms", "NotConforming"]
def av6 : List Str := ["InvalidMember"]
def aAV : List Str := ["InvalidStatement", "Aborted"]
def ayU : List Str := ["InvalidText"]
def aDs : List Str := ["InUse"]
def aBL : List Str := ["Aborted"]
def at6 : List Str := ["InvalidMode", "TooMany", "InvalidMember", "DuplicateName", "InvalidName", "InvalidBrand", "Conforms", "NotConforming", "InvalidStatement", "Aborted", "InUse", "InvalidCommand", "InvalidText", "TooWide", "NothingLeft", "UnknownVariable", "UnknownMember", "UnknownInterface"]
def aqQ : List (Str × Bool) := [("InvalidMode", false), ("TooMany", false), ("InvalidMember", false), ("DuplicateName", false), ("InvalidName", false), ("InvalidBrand", false), ("Conforms", false), ("NotConforming", false), ("InvalidStatement", false), ("Aborted", false), ("InUse", false), ("InvalidCommand", false), ("InvalidText", false), ("TooWide", false), ("NothingLeft", false), ("UnknownVariable", true), ("UnknownMember", true), ("UnknownInterface", true)]
def aiG : List (Str × Bool) := [("InvalidMode", true), ("TooMany", true), ("InvalidMember", true), ("DuplicateName", true), ("InvalidName", true), ("InvalidBrand", true), ("Conforms", true), ("NotConforming", true), ("InvalidStatement", true), ("Aborted", true), ("InUse", true), ("InvalidCommand", true), ("InvalidText", true), ("TooWide", true), ("NothingLeft", false), ("UnknownVariable", false), ("UnknownMember", false), ("UnknownInterface", false)]
def af5 : List (Str × Bool) := [("InvalidMode", true), ("TooMany", true), ("InvalidMember", true), ("DuplicateName", true), ("InvalidName", true), ("InvalidBrand", true), ("Conforms", true), ("NotConforming", true), ("InvalidStatement", true), ("Aborted", true), ("InUse", true), ("InvalidCommand", true), ("InvalidText", true), ("TooWide", true), ("NothingLeft", false), ("UnknownVariable", false), ("UnknownMember", false), ("UnknownInterface", false)]
def agH : List (Str × Bool) := [("InvalidMode", false), ("TooMany", false), ("InvalidMember", false), ("DuplicateName", false), ("InvalidName", false), ("InvalidBrand", false), ("Conforms", false), ("NotConforming", false), ("InvalidStatement", false), ("Aborted", false), ("InUse", false), ("InvalidCommand", false), ("InvalidText", false), ("TooWide", false), ("NothingLeft", true), ("UnknownVariable", true), ("UnknownMember", true), ("UnknownInterface", true)]
def aiP : List (Str × Bool) := [("InvalidMode", false), ("TooMany", false), ("InvalidMember", false), ("DuplicateName", false), ("InvalidName", false), ("InvalidBrand", false), ("Conforms", false), ("NotConforming", false), ("InvalidStatement", false), ("Aborted", false), ("InUse", false), ("InvalidCommand", false), ("InvalidText", false), ("TooWide", false), ("NothingLeft", true), ("UnknownVariable", false), ("UnknownMember", false), ("UnknownInterface", false)]
abbrev oF : Stmt := top 22
abbrev asR : List Str := ["_law_script"]
def an5 : FS := afU (azB (aK (akW avH (aK (mSl (bD 0) ahR (aqR (mC (.int 63)))) (cI))) (aK (mC (.int 0)) (aK (mC (.int 0)) (aK (mC (.int 60289)) (aK (mC (.int 0)) (cI)))))))
def am9 : FS := an5
def ae8 : FN := mFn 1 1 am9
abbrev jK : Stmt := top 23
abbrev arM : List Str := ["_law_bag_here", "_law_many", "_law_base", "_law_cell", "_law_digit"]
def adV : FS := wO 3 (mOp dIx (mOp dIx (bD 0) (mC (.int 0))) (mOp dIx (bD 0) (mC (.int 1))))
def adI : FS := vB (bD 0) (mC (.int 1)) (mOp abP (mOp dIx (bD 0) (mC (.int 1))) (mC (.int 1)))
def ac1 : FS := vB (bD 0) (mC (.int 3)) (mOp alC (akW atR (aK (mOp abP (mOp abP (mOp afK (mOp dIx (bD 0) (mC (.int 3))) (mC (.int 40013))) (mOp afK (mOp alC (akW atR (aK (bD 3) (cI))) (mC (.int 2147483549))) (mC (.int 307)))) (mC (.int 1013))) (cI))) (mC (.int 2147483629)))
def zR : FS := vB (bD 0) (mC (.int 2)) (bD 3)
def acO : FS := akE (tV (mOp dGe (bD 3) (mOp aEL (mC (.int 10)) (mC (.int 18))))) (zR) (adR)
def afR : FS := akE (aBt (tV (mOp dEq (mOp dIx (bD 0) (mC (.int 2))) (mC (.int 0)))) (tV (mOp dLt (mOp dIx (bD 0) (mC (.int 1))) (akW aAF (aK (mOp dIx (bD 0) (mC (.int 0))) (cI)))))) (dF (adV) (dF (adI) (dF (ac1) (acO)))) (adR)
def agD : FS := wO 4 (mOp alC (akW atR (aK (mOp dIx (bD 0) (mC (.int 2))) (cI))) (bD 1))
def agE : FS := vB (bD 0) (mC (.int 2)) (mOp apZ (mOp dIx (bD 0) (mC (.int 2))) (bD 1))
def agX : FS := afU (bD 4)
def afV : FS := akE (tV (mOp dGt (mOp dIx (bD 0) (mC (.int 2))) (mC (.int 0)))) (dF (agD) (dF (agE) (agX))) (adR)
def alG : FS := vB (bD 0) (mC (.int 4)) (mOp abP (mOp dIx (bD 0) (mC (.int 4))) (mC (.int 1)))
def ak0 : FS := wO 2 (mOp dIx (bD 0) (mC (.int 3)))
def alD : FS := vB (bD 0) (mC (.int 3)) (mOp alC (akW atR (aK (mOp abP (mOp abP (mOp abP (mOp afK (bD 2) (bD 2)) (mOp afK (mC (.int 70001)) (bD 2))) (mOp afK (mC (.int 7907)) (mOp dIx (bD 0) (mC (.int 4))))) (mC (.int 30011))) (cI))) (mC (.int 2147483629)))
def alJ : FS := afU (mOp alC (akW atR (aK (mOp abP (mOp abP (mOp apZ (mOp dIx (bD 0) (mC (.int 3))) (mC (.int 59))) (mOp afK (bD 2) (mC (.int 33301)))) (mOp dIx (bD 0) (mC (.int 4)))) (cI))) (bD 1))
def ai3 : FS := dF (afR) (dF (afV) (dF (alG) (dF (ak0) (dF (alD) (alJ)))))
def gA : FN := mFn 2 5 ai3
abbrev lZ : Stmt := top 24
abbrev aqZ : List Str := ["_law_found", "_law_due"]
def alS : FS := afU (mOp dEq (akW af3 (aK (bD 0) (cI))) (akW af3 (aK (bD 1) (cI))))
def ai7 : FS := alS
def ac2 : FN := mFn 2 2 ai7
abbrev gU : Stmt := top 25
abbrev ahG : List Str := ["_law_bag_here", "_law_many", "_law_great", "_law_letters", "_law_size", "_law_place", "_law_first", "_law_alike", "_law_found", "_law_k", "_law_long", "_law_row", "_law_word", "_law_at"]
def aiJ : FS := wO 3 (mC (.str "abcdefghijklmnopqrstuvwxyz"))
def aiI : FS := wO 4 (mOp abP (mC (.int 1)) (yU (sJ 2 gA) (aK (bD 0) (aK (mC (.int 8)) (cI))) (cI)))
def aiN : FS := wO 5 (yU (sJ 2 gA) (aK (bD 0) (aK (bD 4) (cI))) (cI))
def aeX : FE := yU (sJ 2 gA) (aK (bD 0) (aK (mC (.int 26)) (cI))) (cI)
def aiK : FS := wO 6 (mLc false (afN (bD 4)) (aeA 9) (fun _ vh => .ok true vh) (aeX) [9])
def aiQ : FS := wO 7 (mOp dEq (yU (sJ 2 gA) (aK (bD 0) (aK (mC (.int 2)) (cI))) (cI)) (mC (.int 0)))
def aiF : FS := wO 8 (azB (cI))
def qG : FS := wO 10 (mIf (tV (bD 7)) (bD 4) (mOp abP (mOp abP (bD 5) (mC (.int 1))) (yU (sJ 2 gA) (aK (bD 0) (aK (mOp aEF (bD 4) (bD 5)) (cI))) (cI))))
def qM : FS := wO 11 (axI (aK (bD 6) (cI)))
def qK : FS := vB (bD 11) (bD 5) (mOp alC (akW atR (aK (mOp abP (mOp dIx (bD 6) (bD 5)) (mOp afK (mC (.int 11)) (bD 9))) (cI))) (mC (.int 26)))
def aeJ : FE := mOp dIx (bD 3) (bD 13)
def qJ : FS := wO 12 (mMt "str" as5 (mC (.str "")) (aK (mLc false (apL (mSl (bD 11) ahR (aqR (bD 10)))) (aeA 13) (fun _ vh => .ok true vh) (aeJ) [13]) (cI)))
def qH : FS := wO 12 (mIf (tV (mOp dEq (bD 12) (mC (.str "writable")))) (mC (.str "writablr")) (bD 12))
def qI : FS := mDo (aBE alR (bD 8) (aK (mIf (tV (bD 2)) (mOp abP (mMt "str" arR (mSl (bD 12) ahR (aqR (mC (.int 1)))) cI) (mSl (bD 12) (aqR (mC (.int 1))) ahR)) (bD 12)) (cI)))
def aiH : FS := azT (afN (bD 1)) (aeA 9) (aBP [9, 10, 11, 12] (dF (qG) (dF (qM) (dF (qK) (dF (qJ) (dF (qH) (qI)))))))
def asB : FS := afU (bD 8)
def agT : FS := dF (aiJ) (dF (aiI) (dF (aiN) (dF (aiK) (dF (aiQ) (dF (aiF) (dF (aiH) (asB)))))))
def rZ : FN := mFn 3 14 agT
abbrev fJ : Stmt := top 26
abbrev alN : List Str := ["_law_e", "_law_word"]
def anN : FS := afU (yG (aK (ae5 ay3 "name" (bD 0)) (cI)))
def arN : FS := akE (tV (mOp aCq (bD 1) (alQ (aK (mC (.str "InvalidName")) (aK (mC (.str "DuplicateName")) (aK (mC (.str "InvalidBrand")) (aK (mC (.str "UnknownInterface")) (aK (mC (.str "UnknownMember")) (aK (mC (.str "UnknownVariable")) (cI)))))))))) (anN) (adR)
def anI : FS := afU (yG (aK (ae5 az9 "most" (bD 0)) (cI)))
def aqN : FS := akE (tV (mOp aCq (bD 1) (alQ (aK (mC (.str "TooMany")) (aK (mC (.str "TooWide")) (cI)))))) (anI) (adR)
def amN : FS := afU (yG (aK (ae5 aB1 "one" (bD 0)) (aK (ae5 au8 "other" (bD 0)) (cI))))
def aq3 : FS := akE (tV (mOp aCq (bD 1) (alQ (aK (mC (.str "NotConforming")) (aK (mC (.str "Conforms")) (cI)))))) (amN) (adR)
def anY : FS := afU (yG (aK (ae5 av6 "index" (bD 0)) (cI)))
def apQ : FS := akE (tV (mOp dEq (bD 1) (mC (.str "InvalidMember")))) (anY) (adR)
def anH : FS := afU (yG (aK (ae5 aAV "at" (bD 0)) (cI)))
def arX : FS := akE (tV (mOp dEq (bD 1) (mC (.str "InvalidStatement")))) (anH) (adR)
def anK : FS := afU (yG (aK (ae5 ayU "line" (bD 0)) (cI)))
def arB : FS := akE (tV (mOp dEq (bD 1) (mC (.str "InvalidText")))) (anK) (adR)
def anL : FS := afU (yG (aK (ae5 aDs "by" (bD 0)) (cI)))
def apO : FS := akE (tV (mOp dEq (bD 1) (mC (.str "InUse")))) (anL) (adR)
def aq5 : FS := afU (mIf (tV (mOp dEq (bD 1) (mC (.str "Aborted")))) (yG (aK (ae5 aAV "at" (bD 0)) (aK (ae5 aBL "why" (bD 0)) (cI)))) (yG (cI)))
def akS : FS := dF (arN) (dF (aqN) (dF (aq3) (dF (apQ) (dF (arX) (dF (arB) (dF (apO) (aq5)))))))
def afT : FN := mFn 2 2 akS
abbrev aeS : Stmt := top 27
abbrev aAU : List Str := ["_law_script", "_law_bag_here", "_law_one", "_law_other", "_law_many", "_law_made", "_law_words", "_law_dues", "_law_at", "_law_e", "_law_found"]
def at5 : FS := wO 1 (yU (sJ 1 ae8) (aK (bD 0) (cI)) (cI))
def atO : FS := aBS (yU (sJ 3 (aiO rZ)) (aK (bD 1) (aK (mC (.int 2)) (aK (mC (.bl true)) (cI)))) (cI)) (aSq 2 (as9 (aeA 2) (as9 (aeA 3) (aEw))))
def auK : FS := wO 4 (yU (sJ 2 gA) (aK (bD 1) (aK (mC (.int 999)) (cI))) (cI))
def alE : FS := wO 5 (alQ (aK (ad8 "InvalidName" 1 xO (aK (bD 2) (cI))) (aK (ad8 "DuplicateName" 1 sW (aK (bD 2) (cI))) (aK (ad8 "InvalidMember" 1 tK (aK (bD 4) (cI))) (aK (ad8 "TooMany" 1 afF (aK (bD 4) (cI))) (aK (ad8 "InvalidMode" 0 wZ cI) (cI)))))))
def alB : FS := wO 5 (mOp abP (bD 5) (alQ (aK (ad8 "InvalidStatement" 1 oM (aK (bD 4) (cI))) (aK (ad8 "NotConforming" 2 sX (aK (bD 2) (aK (bD 3) (cI)))) (aK (ad8 "Conforms" 2 ad9 (aK (bD 2) (aK (bD 3) (cI)))) (aK (ad8 "InvalidBrand" 1 vG (aK (bD 2) (cI))) (cI)))))))
def akR : FS := wO 5 (mOp abP (bD 5) (alQ (aK (ad8 "TooWide" 1 afJ (aK (bD 4) (cI))) (aK (ad8 "InvalidText" 1 xJ (aK (bD 4) (cI))) (aK (ad8 "InvalidCommand" 0 rF cI) (aK (ad8 "InUse" 1 alA (aK (bD 2) (cI))) (aK (ad8 "Aborted" 2 afP (aK (bD 4) (aK (bD 3) (cI)))) (cI))))))))
def alP : FS := wO 5 (mOp abP (bD 5) (alQ (aK (ad8 "UnknownInterface" 1 oO (aK (bD 2) (cI))) (aK (ad8 "UnknownMember" 1 tR (aK (bD 2) (cI))) (aK (ad8 "UnknownVariable" 1 pP (aK (bD 2) (cI))) (aK (ad8 "NothingLeft" 0 yD cI) (cI)))))))
def azW : FS := wO 6 (mC (.str "InvalidName DuplicateName InvalidMember TooMany InvalidMode InvalidStatement NotConforming Conforms"))
def azG : FS := wO 6 (mOp abP (bD 6) (mC (.str " InvalidBrand TooWide InvalidText InvalidCommand InUse Aborted")))
def ay5 : FS := wO 6 (mOp abP (bD 6) (mC (.str " UnknownInterface UnknownMember UnknownVariable NothingLeft")))
def aCy : FE := ae5 at6 "word" (bD 9)
def aAp : FS := afU (mC (.bl false))
def az7 : FS := akE (tV (mOp dNe (mLc false (apL (bD 5)) (aeA 9) (fun _ vh => .ok true vh) (aCy) [9]) (mMt "str" axZ (bD 6) (aK (mC (.str " ")) (cI))))) (aAp) (adR)
def azE : FS := wO 7 (alQ (aK (yG (aK (bD 2) (cI))) (aK (yG (aK (bD 2) (cI))) (aK (yG (aK (bD 4) (cI))) (aK (yG (aK (bD 4) (cI))) (aK (yG (cI)) (aK (yG (aK (bD 4) (cI))) (aK (yG (aK (bD 2) (aK (bD 3) (cI)))) (aK (yG (aK (bD 2) (aK (bD 3) (cI)))) (aK (yG (aK (bD 2) (cI))) (aK (yG (aK (bD 4) (cI))) (aK (yG (aK (bD 4) (cI))) (aK (yG (cI)) (cI))))))))))))))
def az5 : FS := wO 7 (mOp abP (bD 7) (alQ (aK (yG (aK (bD 2) (cI))) (aK (yG (aK (bD 4) (aK (bD 3) (cI)))) (aK (yG (aK (bD 2) (cI))) (aK (yG (aK (bD 2) (cI))) (aK (yG (aK (bD 2) (cI))) (aK (yG (cI)) (cI)))))))))
def ay6 : FE := yU (sJ 2 afT) (aK (bD 9) (aK (ae5 at6 "word" (bD 9)) (cI))) (cI)
def aAn : FS := afU (mC (.bl false))
def auF : FS := akE (aBD (tV (yU (sJ 2 ac2) (aK (mLc false (apL (bD 5)) (aeA 9) (fun _ vh => .ok true vh) (ay6) [9]) (aK (bD 7) (cI))) (cI)))) (aAn) (adR)
def aAy : FS := wO 9 (mOp dIx (bD 5) (bD 8))
def aAc : FS := wO 10 (alQ (aK (awE af5 (bD 9)) (aK (awE aiG (bD 9)) (aK (awE aqQ (bD 9)) (cI)))))
def aAl : FS := wO 10 (mOp abP (bD 10) (alQ (aK (awE aiP (bD 9)) (aK (awE agH (bD 9)) (cI)))))
def avQ : FS := afU (mC (.bl false))
def aAj : FS := akE (tV (mOp dNe (bD 10) (alQ (aK (mOp dLt (bD 8) (mC (.int 14))) (aK (mOp dLt (bD 8) (mC (.int 14))) (aK (arE dLt dLt (mC (.int 13)) (bD 8) (mC (.int 17))) (aK (mOp dEq (bD 8) (mC (.int 17))) (aK (mOp dGt (bD 8) (mC (.int 13))) (cI))))))))) (avQ) (adR)
def aAa : FS := azT (afN (mC (.int 18))) (aeA 8) (aBP [8, 9, 10] (dF (aAy) (dF (aAc) (dF (aAl) (aAj)))))
def ayX : FS := afU (mC (.bl true))
def aBQ : FS := dF (at5) (dF (atO) (dF (auK) (dF (alE) (dF (alB) (dF (akR) (dF (alP) (dF (azW) (dF (azG) (dF (ay5) (dF (az7) (dF (azE) (dF (az5) (dF (auF) (dF (aAa) (ayX)))))))))))))))
def f_law : FN := mFn 1 11 aBQ
structure Txt (K : PySem.W.Frag) (mg : Str → Option Value) (bJ aH : Addr) : Prop where
  no_IndexError : mg "IndexError" = none
  no_LookupError : mg "LookupError" = none
  no_ValueError : mg "ValueError" = none
  no_int : mg "int" = none
  no_isinstance : mg "isinstance" = none
  no_len : mg "len" = none
  no_list : mg "list" = none
  no_range : mg "range" = none
  no_repr : mg "repr" = none
  isK : IsK K
  xf_name : KXs K mg ay3 "name"
  xf_most : KXs K mg az9 "most"
  xf_other : KXs K mg au8 "other"
  xf_one : KXs K mg aB1 "one"
  xf_index : KXs K mg av6 "index"
  xf_at : KXs K mg aAV "at"
  xf_line : KXs K mg ayU "line"
  xf_by : KXs K mg aDs "by"
  xf_why : KXs K mg aBL "why"
  xf_word : KXs K mg at6 "word"
  xi_Missing : XiOk K mg (.ref bJ) aqQ
  xi_ValueError : XiOk K mg (.type "ValueError") aiG
  xi_UnmeantError : XiOk K mg (.ref aH) af5
  xi_LookupError : XiOk K mg (.type "LookupError") agH
  xi_IndexError : XiOk K mg (.type "IndexError") aiP
  mx_Missing : mg "Missing" = some (.ref bJ)
  mx_UnmeantError : mg "UnmeantError" = some (.ref aH)
section
variable {P : Program} {w : World} {K : PySem.W.Frag} {mg : Str → Option Value} {base : Heap} {bJ aH : Addr}
theorem cM (kV doc pm : Value) (an : Option Addr) (cdv ct : Value) (us : List Value) (h : us.length = 2) : bindArgs (PySem.W.fnOf "__init__" "UnmeantError.__init__" (defArgs bF) (defBody bF) (defScope bF) .none kV doc pm an cdv ct) ⟨us, []⟩ = pure ((["self", "word"] : List Str).zip us) := match us, h with | [_, _], _ => rfl
theorem aoQ {f : Addr} {fd : FuncData} (D : GDf K mg "__init__" "UnmeantError.__init__" bF [] [] f fd) (no : mg "ValueError" = none) (vV : PySem.W.findCls K (.type "ValueError") (.type "type") "__init__" = some (.val (.builtin "ValueError.__init__"))) : FnOk P w K mg base (L2.CX P w) 1 f fd ["self", "word"] (spX K "ValueError" "ValueError.__new__" "ValueError.__init__" HandSPX.veTail 1 ["word"] (fun ws => [("word", ws.headD .non)])) := by
  have S : FnScope ["self", "word"] ["self", "word"] (defScope bF) := ⟨rfl, rfl, rfl, by decide +kernel, rfl, by decide +kernel, by decide +kernel⟩
  refine wL D S (jR rfl) fun cdv A outer s H vs Q E hr h => ⟨_, ?_, ayW h⟩
  exact pss_cons (ps_expr (awN rfl no PyProof.Rows.Boot.«ValueError» PySem.OEX.typ_VE (by decide +kernel) (by decide +kernel) vV (pa_cons (pe_var (i := 0) rfl (.inl rfl)) (pa_cons (pe_var (i := 1) rfl (.inl rfl)) pa_nil)))) (pss_one (oE (pe_var (i := 0) rfl (.inl rfl)) (pe_var (i := 1) rfl (.inl rfl))))
theorem aqM (kV doc pm : Value) (an : Option Addr) (cdv ct : Value) (us : List Value) (h : us.length = 1) : bindArgs (PySem.W.fnOf "__init__" "InvalidMode.__init__" (defArgs fP) (defBody fP) (defScope fP) .none kV doc pm an cdv ct) ⟨us, []⟩ = pure ((["self"] : List Str).zip us) := match us, h with | [_], _ => rfl
theorem arP {f : Addr} {fd : FuncData} (D : GDf K mg "__init__" "InvalidMode.__init__" fP [] [] f fd) {f1 : Addr} {fd1 : FuncData} (S1 : GSup K mg "UnmeantError" f1) (D1 : GDf K mg "__init__" "UnmeantError.__init__" bF [] [] f1 fd1) (F1 : FnOk P w K mg base (L2.CX P w) 1 f1 fd1 ["self", "word"] (spX K "ValueError" "ValueError.__new__" "ValueError.__init__" HandSPX.veTail 1 ["word"] (fun ws => [("word", ws.headD .non)]))) : FnOk P w K mg base (L2.CX P w) 2 f fd ["self"] (spX K "ValueError" "ValueError.__new__" "ValueError.__init__" HandSPX.veTail 0 ["word"] (fun _ => [("word", .str "InvalidMode")])) := by
  have S : FnScope ["self"] ["self"] (defScope fP) := ⟨rfl, rfl, rfl, by decide +kernel, rfl, by decide +kernel, by decide +kernel⟩
  refine wL D S (jR rfl) fun cdv A outer s H vs Q E hr h => ⟨_, ?_, azA h⟩
  exact pss_one (ps_expr (nO S1 F1 hr rfl (cH D1 cM) (pa_cons (pe_var (i := 0) rfl (.inl rfl)) (pa_cons pe_str pa_nil))))
theorem ayG (kV doc pm : Value) (an : Option Addr) (cdv ct : Value) (us : List Value) (h : us.length = 2) : bindArgs (PySem.W.fnOf "__init__" "TooMany.__init__" (defArgs pM) (defBody pM) (defScope pM) .none kV doc pm an cdv ct) ⟨us, []⟩ = pure ((["self", "most"] : List Str).zip us) := match us, h with | [_, _], _ => rfl
theorem axE {f : Addr} {fd : FuncData} (D : GDf K mg "__init__" "TooMany.__init__" pM [] [] f fd) {f1 : Addr} {fd1 : FuncData} (S1 : GSup K mg "UnmeantError" f1) (D1 : GDf K mg "__init__" "UnmeantError.__init__" bF [] [] f1 fd1) (F1 : FnOk P w K mg base (L2.CX P w) 1 f1 fd1 ["self", "word"] (spX K "ValueError" "ValueError.__new__" "ValueError.__init__" HandSPX.veTail 1 ["word"] (fun ws => [("word", ws.headD .non)]))) : FnOk P w K mg base (L2.CX P w) 2 f fd ["self", "most"] (spX K "ValueError" "ValueError.__new__" "ValueError.__init__" HandSPX.veTail 1 ["word", "most"] (fun ws => [("most", ws.headD .non), ("word", .str "TooMany")])) := by
  have S : FnScope ["self", "most"] ["self", "most"] (defScope pM) := ⟨rfl, rfl, rfl, by decide +kernel, rfl, by decide +kernel, by decide +kernel⟩
  refine wL D S (jR rfl) fun cdv A outer s H vs Q E hr h => ⟨_, ?_, vD h⟩
  exact pss_cons (ps_expr (nO S1 F1 hr rfl (cH D1 cM) (pa_cons (pe_var (i := 0) rfl (.inl rfl)) (pa_cons pe_str pa_nil)))) (pss_one (oE (pe_var (i := 0) rfl (.inl rfl)) (pe_var (i := 1) rfl (.inl rfl))))
theorem al0 (kV doc pm : Value) (an : Option Addr) (cdv ct : Value) (us : List Value) (h : us.length = 2) : bindArgs (PySem.W.fnOf "__init__" "InvalidMember.__init__" (defArgs eE) (defBody eE) (defScope eE) .none kV doc pm an cdv ct) ⟨us, []⟩ = pure ((["self", "index"] : List Str).zip us) := match us, h with | [_, _], _ => rfl
theorem alY {f : Addr} {fd : FuncData} (D : GDf K mg "__init__" "InvalidMember.__init__" eE [] [] f fd) {f1 : Addr} {fd1 : FuncData} (S1 : GSup K mg "UnmeantError" f1) (D1 : GDf K mg "__init__" "UnmeantError.__init__" bF [] [] f1 fd1) (F1 : FnOk P w K mg base (L2.CX P w) 1 f1 fd1 ["self", "word"] (spX K "ValueError" "ValueError.__new__" "ValueError.__init__" HandSPX.veTail 1 ["word"] (fun ws => [("word", ws.headD .non)]))) : FnOk P w K mg base (L2.CX P w) 2 f fd ["self", "index"] (spX K "ValueError" "ValueError.__new__" "ValueError.__init__" HandSPX.veTail 1 ["word", "index"] (fun ws => [("index", ws.headD .non), ("word", .str "InvalidMember")])) := by
  have S : FnScope ["self", "index"] ["self", "index"] (defScope eE) := ⟨rfl, rfl, rfl, by decide +kernel, rfl, by decide +kernel, by decide +kernel⟩
  refine wL D S (jR rfl) fun cdv A outer s H vs Q E hr h => ⟨_, ?_, vD h⟩
  exact pss_cons (ps_expr (nO S1 F1 hr rfl (cH D1 cM) (pa_cons (pe_var (i := 0) rfl (.inl rfl)) (pa_cons pe_str pa_nil)))) (pss_one (oE (pe_var (i := 0) rfl (.inl rfl)) (pe_var (i := 1) rfl (.inl rfl))))
theorem anU (kV doc pm : Value) (an : Option Addr) (cdv ct : Value) (us : List Value) (h : us.length = 2) : bindArgs (PySem.W.fnOf "__init__" "DuplicateName.__init__" (defArgs d9) (defBody d9) (defScope d9) .none kV doc pm an cdv ct) ⟨us, []⟩ = pure ((["self", "name"] : List Str).zip us) := match us, h with | [_, _], _ => rfl
theorem al8 {f : Addr} {fd : FuncData} (D : GDf K mg "__init__" "DuplicateName.__init__" d9 [] [] f fd) {f1 : Addr} {fd1 : FuncData} (S1 : GSup K mg "UnmeantError" f1) (D1 : GDf K mg "__init__" "UnmeantError.__init__" bF [] [] f1 fd1) (F1 : FnOk P w K mg base (L2.CX P w) 1 f1 fd1 ["self", "word"] (spX K "ValueError" "ValueError.__new__" "ValueError.__init__" HandSPX.veTail 1 ["word"] (fun ws => [("word", ws.headD .non)]))) : FnOk P w K mg base (L2.CX P w) 2 f fd ["self", "name"] (spX K "ValueError" "ValueError.__new__" "ValueError.__init__" HandSPX.veTail 1 ["word", "name"] (fun ws => [("name", ws.headD .non), ("word", .str "DuplicateName")])) := by
  have S : FnScope ["self", "name"] ["self", "name"] (defScope d9) := ⟨rfl, rfl, rfl, by decide +kernel, rfl, by decide +kernel, by decide +kernel⟩
  refine wL D S (jR rfl) fun cdv A outer s H vs Q E hr h => ⟨_, ?_, vD h⟩
  exact pss_cons (ps_expr (nO S1 F1 hr rfl (cH D1 cM) (pa_cons (pe_var (i := 0) rfl (.inl rfl)) (pa_cons pe_str pa_nil)))) (pss_one (oE (pe_var (i := 0) rfl (.inl rfl)) (pe_var (i := 1) rfl (.inl rfl))))
theorem aq0 (kV doc pm : Value) (an : Option Addr) (cdv ct : Value) (us : List Value) (h : us.length = 2) : bindArgs (PySem.W.fnOf "__init__" "InvalidName.__init__" (defArgs fV) (defBody fV) (defScope fV) .none kV doc pm an cdv ct) ⟨us, []⟩ = pure ((["self", "name"] : List Str).zip us) := match us, h with | [_, _], _ => rfl
theorem ap8 {f : Addr} {fd : FuncData} (D : GDf K mg "__init__" "InvalidName.__init__" fV [] [] f fd) {f1 : Addr} {fd1 : FuncData} (S1 : GSup K mg "UnmeantError" f1) (D1 : GDf K mg "__init__" "UnmeantError.__init__" bF [] [] f1 fd1) (F1 : FnOk P w K mg base (L2.CX P w) 1 f1 fd1 ["self", "word"] (spX K "ValueError" "ValueError.__new__" "ValueError.__init__" HandSPX.veTail 1 ["word"] (fun ws => [("word", ws.headD .non)]))) : FnOk P w K mg base (L2.CX P w) 2 f fd ["self", "name"] (spX K "ValueError" "ValueError.__new__" "ValueError.__init__" HandSPX.veTail 1 ["word", "name"] (fun ws => [("name", ws.headD .non), ("word", .str "InvalidName")])) := by
  have S : FnScope ["self", "name"] ["self", "name"] (defScope fV) := ⟨rfl, rfl, rfl, by decide +kernel, rfl, by decide +kernel, by decide +kernel⟩
  refine wL D S (jR rfl) fun cdv A outer s H vs Q E hr h => ⟨_, ?_, vD h⟩
  exact pss_cons (ps_expr (nO S1 F1 hr rfl (cH D1 cM) (pa_cons (pe_var (i := 0) rfl (.inl rfl)) (pa_cons pe_str pa_nil)))) (pss_one (oE (pe_var (i := 0) rfl (.inl rfl)) (pe_var (i := 1) rfl (.inl rfl))))
theorem aoG (kV doc pm : Value) (an : Option Addr) (cdv ct : Value) (us : List Value) (h : us.length = 2) : bindArgs (PySem.W.fnOf "__init__" "InvalidBrand.__init__" (defArgs eZ) (defBody eZ) (defScope eZ) .none kV doc pm an cdv ct) ⟨us, []⟩ = pure ((["self", "name"] : List Str).zip us) := match us, h with | [_, _], _ => rfl
theorem aoR {f : Addr} {fd : FuncData} (D : GDf K mg "__init__" "InvalidBrand.__init__" eZ [] [] f fd) {f1 : Addr} {fd1 : FuncData} (S1 : GSup K mg "UnmeantError" f1) (D1 : GDf K mg "__init__" "UnmeantError.__init__" bF [] [] f1 fd1) (F1 : FnOk P w K mg base (L2.CX P w) 1 f1 fd1 ["self", "word"] (spX K "ValueError" "ValueError.__new__" "ValueError.__init__" HandSPX.veTail 1 ["word"] (fun ws => [("word", ws.headD .non)]))) : FnOk P w K mg base (L2.CX P w) 2 f fd ["self", "name"] (spX K "ValueError" "ValueError.__new__" "ValueError.__init__" HandSPX.veTail 1 ["word", "name"] (fun ws => [("name", ws.headD .non), ("word", .str "InvalidBrand")])) := by
  have S : FnScope ["self", "name"] ["self", "name"] (defScope eZ) := ⟨rfl, rfl, rfl, by decide +kernel, rfl, by decide +kernel, by decide +kernel⟩
  refine wL D S (jR rfl) fun cdv A outer s H vs Q E hr h => ⟨_, ?_, vD h⟩
  exact pss_cons (ps_expr (nO S1 F1 hr rfl (cH D1 cM) (pa_cons (pe_var (i := 0) rfl (.inl rfl)) (pa_cons pe_str pa_nil)))) (pss_one (oE (pe_var (i := 0) rfl (.inl rfl)) (pe_var (i := 1) rfl (.inl rfl))))
theorem avJ (kV doc pm : Value) (an : Option Addr) (cdv ct : Value) (us : List Value) (h : us.length = 3) : bindArgs (PySem.W.fnOf "__init__" "Conforms.__init__" (defArgs nM) (defBody nM) (defScope nM) .none kV doc pm an cdv ct) ⟨us, []⟩ = pure ((["self", "one", "other"] : List Str).zip us) := match us, h with | [_, _, _], _ => rfl
theorem avN {f : Addr} {fd : FuncData} (D : GDf K mg "__init__" "Conforms.__init__" nM [] [] f fd) {f1 : Addr} {fd1 : FuncData} (S1 : GSup K mg "UnmeantError" f1) (D1 : GDf K mg "__init__" "UnmeantError.__init__" bF [] [] f1 fd1) (F1 : FnOk P w K mg base (L2.CX P w) 1 f1 fd1 ["self", "word"] (spX K "ValueError" "ValueError.__new__" "ValueError.__init__" HandSPX.veTail 1 ["word"] (fun ws => [("word", ws.headD .non)]))) : FnOk P w K mg base (L2.CX P w) 2 f fd ["self", "one", "other"] (spX K "ValueError" "ValueError.__new__" "ValueError.__init__" HandSPX.veTail 2 ["word", "one", "other"] (fun ws => [("other", ws.getD 1 .non), ("one", ws.headD .non), ("word", .str "Conforms")])) := by
  have S : FnScope ["self", "one", "other"] ["self", "one", "other"] (defScope nM) := ⟨rfl, rfl, rfl, by decide +kernel, rfl, by decide +kernel, by decide +kernel⟩
  refine wL D S (jR rfl) fun cdv A outer s H vs Q E hr h => ⟨_, ?_, auO h⟩
  exact pss_cons (ps_expr (nO S1 F1 hr rfl (cH D1 cM) (pa_cons (pe_var (i := 0) rfl (.inl rfl)) (pa_cons pe_str pa_nil)))) (pss_cons (oE (pe_var (i := 0) rfl (.inl rfl)) (pe_var (i := 1) rfl (.inl rfl))) (pss_one (oE (pe_var (i := 0) rfl (.inl rfl)) (pe_var (i := 2) rfl (.inl rfl)))))
theorem anB (kV doc pm : Value) (an : Option Addr) (cdv ct : Value) (us : List Value) (h : us.length = 3) : bindArgs (PySem.W.fnOf "__init__" "NotConforming.__init__" (defArgs eQ) (defBody eQ) (defScope eQ) .none kV doc pm an cdv ct) ⟨us, []⟩ = pure ((["self", "one", "other"] : List Str).zip us) := match us, h with | [_, _, _], _ => rfl
theorem anT {f : Addr} {fd : FuncData} (D : GDf K mg "__init__" "NotConforming.__init__" eQ [] [] f fd) {f1 : Addr} {fd1 : FuncData} (S1 : GSup K mg "UnmeantError" f1) (D1 : GDf K mg "__init__" "UnmeantError.__init__" bF [] [] f1 fd1) (F1 : FnOk P w K mg base (L2.CX P w) 1 f1 fd1 ["self", "word"] (spX K "ValueError" "ValueError.__new__" "ValueError.__init__" HandSPX.veTail 1 ["word"] (fun ws => [("word", ws.headD .non)]))) : FnOk P w K mg base (L2.CX P w) 2 f fd ["self", "one", "other"] (spX K "ValueError" "ValueError.__new__" "ValueError.__init__" HandSPX.veTail 2 ["word", "one", "other"] (fun ws => [("other", ws.getD 1 .non), ("one", ws.headD .non), ("word", .str "NotConforming")])) := by
  have S : FnScope ["self", "one", "other"] ["self", "one", "other"] (defScope eQ) := ⟨rfl, rfl, rfl, by decide +kernel, rfl, by decide +kernel, by decide +kernel⟩
  refine wL D S (jR rfl) fun cdv A outer s H vs Q E hr h => ⟨_, ?_, auO h⟩
  exact pss_cons (ps_expr (nO S1 F1 hr rfl (cH D1 cM) (pa_cons (pe_var (i := 0) rfl (.inl rfl)) (pa_cons pe_str pa_nil)))) (pss_cons (oE (pe_var (i := 0) rfl (.inl rfl)) (pe_var (i := 1) rfl (.inl rfl))) (pss_one (oE (pe_var (i := 0) rfl (.inl rfl)) (pe_var (i := 2) rfl (.inl rfl)))))
theorem ah8 (kV doc pm : Value) (an : Option Addr) (cdv ct : Value) (us : List Value) (h : us.length = 2) : bindArgs (PySem.W.fnOf "__init__" "InvalidStatement.__init__" (defArgs cZ) (defBody cZ) (defScope cZ) .none kV doc pm an cdv ct) ⟨us, []⟩ = pure ((["self", "at"] : List Str).zip us) := match us, h with | [_, _], _ => rfl
theorem ah3 {f : Addr} {fd : FuncData} (D : GDf K mg "__init__" "InvalidStatement.__init__" cZ [] [] f fd) {f1 : Addr} {fd1 : FuncData} (S1 : GSup K mg "UnmeantError" f1) (D1 : GDf K mg "__init__" "UnmeantError.__init__" bF [] [] f1 fd1) (F1 : FnOk P w K mg base (L2.CX P w) 1 f1 fd1 ["self", "word"] (spX K "ValueError" "ValueError.__new__" "ValueError.__init__" HandSPX.veTail 1 ["word"] (fun ws => [("word", ws.headD .non)]))) : FnOk P w K mg base (L2.CX P w) 2 f fd ["self", "at"] (spX K "ValueError" "ValueError.__new__" "ValueError.__init__" HandSPX.veTail 1 ["word", "at"] (fun ws => [("at", ws.headD .non), ("word", .str "InvalidStatement")])) := by
  have S : FnScope ["self", "at"] ["self", "at"] (defScope cZ) := ⟨rfl, rfl, rfl, by decide +kernel, rfl, by decide +kernel, by decide +kernel⟩
  refine wL D S (jR rfl) fun cdv A outer s H vs Q E hr h => ⟨_, ?_, vD h⟩
  exact pss_cons (ps_expr (nO S1 F1 hr rfl (cH D1 cM) (pa_cons (pe_var (i := 0) rfl (.inl rfl)) (pa_cons pe_str pa_nil)))) (pss_one (oE (pe_var (i := 0) rfl (.inl rfl)) (pe_var (i := 1) rfl (.inl rfl))))
theorem ax6 (kV doc pm : Value) (an : Option Addr) (cdv ct : Value) (us : List Value) (h : us.length = 3) : bindArgs (PySem.W.fnOf "__init__" "Aborted.__init__" (defArgs pD) (defBody pD) (defScope pD) .none kV doc pm an cdv ct) ⟨us, []⟩ = pure ((["self", "at", "why"] : List Str).zip us) := match us, h with | [_, _, _], _ => rfl
theorem ayR {f : Addr} {fd : FuncData} (D : GDf K mg "__init__" "Aborted.__init__" pD [] [] f fd) {f1 : Addr} {fd1 : FuncData} (S1 : GSup K mg "UnmeantError" f1) (D1 : GDf K mg "__init__" "UnmeantError.__init__" bF [] [] f1 fd1) (F1 : FnOk P w K mg base (L2.CX P w) 1 f1 fd1 ["self", "word"] (spX K "ValueError" "ValueError.__new__" "ValueError.__init__" HandSPX.veTail 1 ["word"] (fun ws => [("word", ws.headD .non)]))) : FnOk P w K mg base (L2.CX P w) 2 f fd ["self", "at", "why"] (spX K "ValueError" "ValueError.__new__" "ValueError.__init__" HandSPX.veTail 2 ["word", "at", "why"] (fun ws => [("why", ws.getD 1 .non), ("at", ws.headD .non), ("word", .str "Aborted")])) := by
  have S : FnScope ["self", "at", "why"] ["self", "at", "why"] (defScope pD) := ⟨rfl, rfl, rfl, by decide +kernel, rfl, by decide +kernel, by decide +kernel⟩
  refine wL D S (jR rfl) fun cdv A outer s H vs Q E hr h => ⟨_, ?_, auO h⟩
  exact pss_cons (ps_expr (nO S1 F1 hr rfl (cH D1 cM) (pa_cons (pe_var (i := 0) rfl (.inl rfl)) (pa_cons pe_str pa_nil)))) (pss_cons (oE (pe_var (i := 0) rfl (.inl rfl)) (pe_var (i := 1) rfl (.inl rfl))) (pss_one (oE (pe_var (i := 0) rfl (.inl rfl)) (pe_var (i := 2) rfl (.inl rfl)))))
theorem aB7 (kV doc pm : Value) (an : Option Addr) (cdv ct : Value) (us : List Value) (h : us.length = 2) : bindArgs (PySem.W.fnOf "__init__" "InUse.__init__" (defArgs xY) (defBody xY) (defScope xY) .none kV doc pm an cdv ct) ⟨us, []⟩ = pure ((["self", "by"] : List Str).zip us) := match us, h with | [_, _], _ => rfl
theorem aAM {f : Addr} {fd : FuncData} (D : GDf K mg "__init__" "InUse.__init__" xY [] [] f fd) {f1 : Addr} {fd1 : FuncData} (S1 : GSup K mg "UnmeantError" f1) (D1 : GDf K mg "__init__" "UnmeantError.__init__" bF [] [] f1 fd1) (F1 : FnOk P w K mg base (L2.CX P w) 1 f1 fd1 ["self", "word"] (spX K "ValueError" "ValueError.__new__" "ValueError.__init__" HandSPX.veTail 1 ["word"] (fun ws => [("word", ws.headD .non)]))) : FnOk P w K mg base (L2.CX P w) 2 f fd ["self", "by"] (spX K "ValueError" "ValueError.__new__" "ValueError.__init__" HandSPX.veTail 1 ["word", "by"] (fun ws => [("by", ws.headD .non), ("word", .str "InUse")])) := by
  have S : FnScope ["self", "by"] ["self", "by"] (defScope xY) := ⟨rfl, rfl, rfl, by decide +kernel, rfl, by decide +kernel, by decide +kernel⟩
  refine wL D S (jR rfl) fun cdv A outer s H vs Q E hr h => ⟨_, ?_, vD h⟩
  exact pss_cons (ps_expr (nO S1 F1 hr rfl (cH D1 cM) (pa_cons (pe_var (i := 0) rfl (.inl rfl)) (pa_cons pe_str pa_nil)))) (pss_one (oE (pe_var (i := 0) rfl (.inl rfl)) (pe_var (i := 1) rfl (.inl rfl))))
theorem akZ (kV doc pm : Value) (an : Option Addr) (cdv ct : Value) (us : List Value) (h : us.length = 1) : bindArgs (PySem.W.fnOf "__init__" "InvalidCommand.__init__" (defArgs dN) (defBody dN) (defScope dN) .none kV doc pm an cdv ct) ⟨us, []⟩ = pure ((["self"] : List Str).zip us) := match us, h with | [_], _ => rfl
theorem alF {f : Addr} {fd : FuncData} (D : GDf K mg "__init__" "InvalidCommand.__init__" dN [] [] f fd) {f1 : Addr} {fd1 : FuncData} (S1 : GSup K mg "UnmeantError" f1) (D1 : GDf K mg "__init__" "UnmeantError.__init__" bF [] [] f1 fd1) (F1 : FnOk P w K mg base (L2.CX P w) 1 f1 fd1 ["self", "word"] (spX K "ValueError" "ValueError.__new__" "ValueError.__init__" HandSPX.veTail 1 ["word"] (fun ws => [("word", ws.headD .non)]))) : FnOk P w K mg base (L2.CX P w) 2 f fd ["self"] (spX K "ValueError" "ValueError.__new__" "ValueError.__init__" HandSPX.veTail 0 ["word"] (fun _ => [("word", .str "InvalidCommand")])) := by
  have S : FnScope ["self"] ["self"] (defScope dN) := ⟨rfl, rfl, rfl, by decide +kernel, rfl, by decide +kernel, by decide +kernel⟩
  refine wL D S (jR rfl) fun cdv A outer s H vs Q E hr h => ⟨_, ?_, azA h⟩
  exact pss_one (ps_expr (nO S1 F1 hr rfl (cH D1 cM) (pa_cons (pe_var (i := 0) rfl (.inl rfl)) (pa_cons pe_str pa_nil))))
theorem arA (kV doc pm : Value) (an : Option Addr) (cdv ct : Value) (us : List Value) (h : us.length = 2) : bindArgs (PySem.W.fnOf "__init__" "InvalidText.__init__" (defArgs fO) (defBody fO) (defScope fO) .none kV doc pm an cdv ct) ⟨us, []⟩ = pure ((["self", "line"] : List Str).zip us) := match us, h with | [_, _], _ => rfl
theorem aqC {f : Addr} {fd : FuncData} (D : GDf K mg "__init__" "InvalidText.__init__" fO [] [] f fd) {f1 : Addr} {fd1 : FuncData} (S1 : GSup K mg "UnmeantError" f1) (D1 : GDf K mg "__init__" "UnmeantError.__init__" bF [] [] f1 fd1) (F1 : FnOk P w K mg base (L2.CX P w) 1 f1 fd1 ["self", "word"] (spX K "ValueError" "ValueError.__new__" "ValueError.__init__" HandSPX.veTail 1 ["word"] (fun ws => [("word", ws.headD .non)]))) : FnOk P w K mg base (L2.CX P w) 2 f fd ["self", "line"] (spX K "ValueError" "ValueError.__new__" "ValueError.__init__" HandSPX.veTail 1 ["word", "line"] (fun ws => [("line", ws.headD .non), ("word", .str "InvalidText")])) := by
  have S : FnScope ["self", "line"] ["self", "line"] (defScope fO) := ⟨rfl, rfl, rfl, by decide +kernel, rfl, by decide +kernel, by decide +kernel⟩
  refine wL D S (jR rfl) fun cdv A outer s H vs Q E hr h => ⟨_, ?_, vD h⟩
  exact pss_cons (ps_expr (nO S1 F1 hr rfl (cH D1 cM) (pa_cons (pe_var (i := 0) rfl (.inl rfl)) (pa_cons pe_str pa_nil)))) (pss_one (oE (pe_var (i := 0) rfl (.inl rfl)) (pe_var (i := 1) rfl (.inl rfl))))
theorem aw0 (kV doc pm : Value) (an : Option Addr) (cdv ct : Value) (us : List Value) (h : us.length = 2) : bindArgs (PySem.W.fnOf "__init__" "TooWide.__init__" (defArgs pO) (defBody pO) (defScope pO) .none kV doc pm an cdv ct) ⟨us, []⟩ = pure ((["self", "most"] : List Str).zip us) := match us, h with | [_, _], _ => rfl
theorem ayJ {f : Addr} {fd : FuncData} (D : GDf K mg "__init__" "TooWide.__init__" pO [] [] f fd) {f1 : Addr} {fd1 : FuncData} (S1 : GSup K mg "UnmeantError" f1) (D1 : GDf K mg "__init__" "UnmeantError.__init__" bF [] [] f1 fd1) (F1 : FnOk P w K mg base (L2.CX P w) 1 f1 fd1 ["self", "word"] (spX K "ValueError" "ValueError.__new__" "ValueError.__init__" HandSPX.veTail 1 ["word"] (fun ws => [("word", ws.headD .non)]))) : FnOk P w K mg base (L2.CX P w) 2 f fd ["self", "most"] (spX K "ValueError" "ValueError.__new__" "ValueError.__init__" HandSPX.veTail 1 ["word", "most"] (fun ws => [("most", ws.headD .non), ("word", .str "TooWide")])) := by
  have S : FnScope ["self", "most"] ["self", "most"] (defScope pO) := ⟨rfl, rfl, rfl, by decide +kernel, rfl, by decide +kernel, by decide +kernel⟩
  refine wL D S (jR rfl) fun cdv A outer s H vs Q E hr h => ⟨_, ?_, vD h⟩
  exact pss_cons (ps_expr (nO S1 F1 hr rfl (cH D1 cM) (pa_cons (pe_var (i := 0) rfl (.inl rfl)) (pa_cons pe_str pa_nil)))) (pss_one (oE (pe_var (i := 0) rfl (.inl rfl)) (pe_var (i := 1) rfl (.inl rfl))))
theorem aqF (kV doc pm : Value) (an : Option Addr) (cdv ct : Value) (us : List Value) (h : us.length = 1) : bindArgs (PySem.W.fnOf "__init__" "NothingLeft.__init__" (defArgs gK) (defBody gK) (defScope gK) .none kV doc pm an cdv ct) ⟨us, []⟩ = pure ((["self"] : List Str).zip us) := match us, h with | [_], _ => rfl
theorem aqH {f : Addr} {fd : FuncData} (D : GDf K mg "__init__" "NothingLeft.__init__" gK [] [] f fd) (no : mg "IndexError" = none) (vV : PySem.W.findCls K (.type "IndexError") (.type "type") "__init__" = some (.val (.builtin "IndexError.__init__"))) : FnOk P w K mg base (L2.CX P w) 1 f fd ["self"] (spX K "IndexError" "IndexError.__new__" "IndexError.__init__" axY 0 ["word"] (fun _ => [("word", .str "NothingLeft")])) := by
  have S : FnScope ["self"] ["self"] (defScope gK) := ⟨rfl, rfl, rfl, by decide +kernel, rfl, by decide +kernel, by decide +kernel⟩
  refine wL D S (jR rfl) fun cdv A outer s H vs Q E hr h => ⟨_, ?_, aB3 h⟩
  exact pss_cons (ps_expr (awN rfl no PyProof.Rows.Boot.«IndexError» aEp (by decide +kernel) (by decide +kernel) vV (pa_cons (pe_var (i := 0) rfl (.inl rfl)) (pa_cons pe_str pa_nil)))) (pss_one (oE (pe_var (i := 0) rfl (.inl rfl)) pe_str))
theorem ajQ (kV doc pm : Value) (an : Option Addr) (cdv ct : Value) (us : List Value) (h : us.length = 2) : bindArgs (PySem.W.fnOf "__init__" "Missing.__init__" (defArgs kE) (defBody kE) (defScope kE) .none kV doc pm an cdv ct) ⟨us, []⟩ = pure ((["self", "word"] : List Str).zip us) := match us, h with | [_, _], _ => rfl
theorem axK {f : Addr} {fd : FuncData} (D : GDf K mg "__init__" "Missing.__init__" kE [] [] f fd) (no : mg "LookupError" = none) (vV : PySem.W.findCls K (.type "LookupError") (.type "type") "__init__" = some (.val (.builtin "LookupError.__init__"))) : FnOk P w K mg base (L2.CX P w) 1 f fd ["self", "word"] (spX K "LookupError" "LookupError.__new__" "LookupError.__init__" aaR 1 ["word"] (fun ws => [("word", ws.headD .non)])) := by
  have S : FnScope ["self", "word"] ["self", "word"] (defScope kE) := ⟨rfl, rfl, rfl, by decide +kernel, rfl, by decide +kernel, by decide +kernel⟩
  refine wL D S (jR rfl) fun cdv A outer s H vs Q E hr h => ⟨_, ?_, ayW h⟩
  exact pss_cons (ps_expr (awN rfl no PyProof.Rows.Boot.«LookupError» aDW (by decide +kernel) (by decide +kernel) vV (pa_cons (pe_var (i := 0) rfl (.inl rfl)) (pa_cons (pe_var (i := 1) rfl (.inl rfl)) pa_nil)))) (pss_one (oE (pe_var (i := 0) rfl (.inl rfl)) (pe_var (i := 1) rfl (.inl rfl))))
theorem ai1 (kV doc pm : Value) (an : Option Addr) (cdv ct : Value) (us : List Value) (h : us.length = 2) : bindArgs (PySem.W.fnOf "__init__" "UnknownVariable.__init__" (defArgs dH) (defBody dH) (defScope dH) .none kV doc pm an cdv ct) ⟨us, []⟩ = pure ((["self", "name"] : List Str).zip us) := match us, h with | [_, _], _ => rfl
theorem akD {f : Addr} {fd : FuncData} (D : GDf K mg "__init__" "UnknownVariable.__init__" dH [] [] f fd) {f1 : Addr} {fd1 : FuncData} (S1 : GSup K mg "Missing" f1) (D1 : GDf K mg "__init__" "Missing.__init__" kE [] [] f1 fd1) (F1 : FnOk P w K mg base (L2.CX P w) 1 f1 fd1 ["self", "word"] (spX K "LookupError" "LookupError.__new__" "LookupError.__init__" aaR 1 ["word"] (fun ws => [("word", ws.headD .non)]))) : FnOk P w K mg base (L2.CX P w) 2 f fd ["self", "name"] (spX K "LookupError" "LookupError.__new__" "LookupError.__init__" aaR 1 ["word", "name"] (fun ws => [("name", ws.headD .non), ("word", .str "UnknownVariable")])) := by
  have S : FnScope ["self", "name"] ["self", "name"] (defScope dH) := ⟨rfl, rfl, rfl, by decide +kernel, rfl, by decide +kernel, by decide +kernel⟩
  refine wL D S (jR rfl) fun cdv A outer s H vs Q E hr h => ⟨_, ?_, vD h⟩
  exact pss_cons (ps_expr (nO S1 F1 hr rfl (cH D1 ajQ) (pa_cons (pe_var (i := 0) rfl (.inl rfl)) (pa_cons pe_str pa_nil)))) (pss_one (oE (pe_var (i := 0) rfl (.inl rfl)) (pe_var (i := 1) rfl (.inl rfl))))
theorem al2 (kV doc pm : Value) (an : Option Addr) (cdv ct : Value) (us : List Value) (h : us.length = 2) : bindArgs (PySem.W.fnOf "__init__" "UnknownMember.__init__" (defArgs eG) (defBody eG) (defScope eG) .none kV doc pm an cdv ct) ⟨us, []⟩ = pure ((["self", "name"] : List Str).zip us) := match us, h with | [_, _], _ => rfl
theorem al9 {f : Addr} {fd : FuncData} (D : GDf K mg "__init__" "UnknownMember.__init__" eG [] [] f fd) {f1 : Addr} {fd1 : FuncData} (S1 : GSup K mg "Missing" f1) (D1 : GDf K mg "__init__" "Missing.__init__" kE [] [] f1 fd1) (F1 : FnOk P w K mg base (L2.CX P w) 1 f1 fd1 ["self", "word"] (spX K "LookupError" "LookupError.__new__" "LookupError.__init__" aaR 1 ["word"] (fun ws => [("word", ws.headD .non)]))) : FnOk P w K mg base (L2.CX P w) 2 f fd ["self", "name"] (spX K "LookupError" "LookupError.__new__" "LookupError.__init__" aaR 1 ["word", "name"] (fun ws => [("name", ws.headD .non), ("word", .str "UnknownMember")])) := by
  have S : FnScope ["self", "name"] ["self", "name"] (defScope eG) := ⟨rfl, rfl, rfl, by decide +kernel, rfl, by decide +kernel, by decide +kernel⟩
  refine wL D S (jR rfl) fun cdv A outer s H vs Q E hr h => ⟨_, ?_, vD h⟩
  exact pss_cons (ps_expr (nO S1 F1 hr rfl (cH D1 ajQ) (pa_cons (pe_var (i := 0) rfl (.inl rfl)) (pa_cons pe_str pa_nil)))) (pss_one (oE (pe_var (i := 0) rfl (.inl rfl)) (pe_var (i := 1) rfl (.inl rfl))))
theorem ah9 (kV doc pm : Value) (an : Option Addr) (cdv ct : Value) (us : List Value) (h : us.length = 2) : bindArgs (PySem.W.fnOf "__init__" "UnknownInterface.__init__" (defArgs cY) (defBody cY) (defScope cY) .none kV doc pm an cdv ct) ⟨us, []⟩ = pure ((["self", "name"] : List Str).zip us) := match us, h with | [_, _], _ => rfl
theorem ahX {f : Addr} {fd : FuncData} (D : GDf K mg "__init__" "UnknownInterface.__init__" cY [] [] f fd) {f1 : Addr} {fd1 : FuncData} (S1 : GSup K mg "Missing" f1) (D1 : GDf K mg "__init__" "Missing.__init__" kE [] [] f1 fd1) (F1 : FnOk P w K mg base (L2.CX P w) 1 f1 fd1 ["self", "word"] (spX K "LookupError" "LookupError.__new__" "LookupError.__init__" aaR 1 ["word"] (fun ws => [("word", ws.headD .non)]))) : FnOk P w K mg base (L2.CX P w) 2 f fd ["self", "name"] (spX K "LookupError" "LookupError.__new__" "LookupError.__init__" aaR 1 ["word", "name"] (fun ws => [("name", ws.headD .non), ("word", .str "UnknownInterface")])) := by
  have S : FnScope ["self", "name"] ["self", "name"] (defScope cY) := ⟨rfl, rfl, rfl, by decide +kernel, rfl, by decide +kernel, by decide +kernel⟩
  refine wL D S (jR rfl) fun cdv A outer s H vs Q E hr h => ⟨_, ?_, vD h⟩
  exact pss_cons (ps_expr (nO S1 F1 hr rfl (cH D1 ajQ) (pa_cons (pe_var (i := 0) rfl (.inl rfl)) (pa_cons pe_str pa_nil)))) (pss_one (oE (pe_var (i := 0) rfl (.inl rfl)) (pe_var (i := 1) rfl (.inl rfl))))
theorem avE (kV doc pm : Value) (an : Option Addr) (cdv ct : Value) (us : List Value) (h : us.length = 1) : bindArgs (PySem.W.fnOf "_law_bag" "_law_bag" (defArgs oF) (defBody oF) (defScope oF) .none kV doc pm an cdv ct) ⟨us, []⟩ = pure ((["_law_script"] : List Str).zip us) := match us, h with | [_], _ => rfl
theorem aAu (T : Txt K mg bJ aH) {f : Addr} {fd : FuncData} (D : GFun K mg "_law_bag" oF [] [] f fd) : FnG P w K mg base 1 f fd ["_law_script"] ae8 := by
  have S : FnScope asR ["_law_script"] (defScope oF) := ⟨rfl, rfl, rfl, by decide +kernel, rfl, by decide +kernel, by decide +kernel⟩
  have hN := S.nd
  refine FnG.df (N := asR) (g := am9) D.df S fun cdv A outer s H E hid hr ng tk => ?_
  have hu := hr.un
  have h65 := agB hr 65
  have h64 := agB hr 64
  have h1 := agB hr 1
  exact iZ (sU (ay0 (aA (zB (call_list_of) aCz rfl T.no_list azJ (aA (ak7 rfl (aC 0) ao8 (ao2 (bU))) (aY))) (aA (bU) (aA (bU) (aA (bU) (aA (bU) (aY))))))))
theorem tD (kV doc pm : Value) (an : Option Addr) (cdv ct : Value) (us : List Value) (h : us.length = 2) : bindArgs (PySem.W.fnOf "_law_draw" "_law_draw" (defArgs jK) (defBody jK) (defScope jK) .none kV doc pm an cdv ct) ⟨us, []⟩ = pure ((["_law_bag_here", "_law_many"] : List Str).zip us) := match us, h with | [_, _], _ => rfl
theorem axP (T : Txt K mg bJ aH) {f : Addr} {fd : FuncData} (D : GFun K mg "_law_draw" jK [] [] f fd) : FnG P w K mg base 1 f fd ["_law_bag_here", "_law_many"] gA := by
  have S : FnScope arM ["_law_bag_here", "_law_many"] (defScope jK) := ⟨rfl, rfl, rfl, by decide +kernel, rfl, by decide +kernel, by decide +kernel⟩
  have hN := S.nd
  refine FnG.df (N := arM) (g := ai3) D.df S fun cdv A outer s H E hid hr ng tk => ?_
  have hu := hr.un
  have h65 := agB hr 65
  have h64 := agB hr 64
  have h1 := agB hr 1
  exact bH (afD (PW.pt (aEu (v5 (aeN h64) aiM (xF rfl h1 (aC 0) (bU)) (bU) (by first | exact nobehind _ (by decide) (by decide) | rfl)) (aCF (v5 (op_lt) awD (xF rfl h1 (aC 0) (bU)) (aqV (aAd) aDO rfl T.no_len aD2 (aA (xF rfl h1 (aC 0) (bU)) (aY))) (by first | exact nobehind _ (by decide) (by decide) | rfl))))) (bH (jE 3 hN (xF rfl h1 (xF rfl h1 (aC 0) (bU)) (xF rfl h1 (aC 0) (bU)))) (bH (wC h1 (aC 0) (bU) (gW jC nU (xF rfl h1 (aC 0) (bU)) (bU))) (bH (wC h1 (aC 0) (bU) (gW op_mod anD (zB (call_int1) amW rfl T.no_int amK (aA (gW jC nU (gW jC nU (gW op_mul ajX (xF rfl h1 (aC 0) (bU)) (bU)) (gW op_mul ajX (gW op_mod anD (zB (call_int1) amW rfl T.no_int amK (aA (aC 3) (aY))) (bU)) (bU))) (bU)) (aY))) (bU))) (iZ (afD (v5 (op_ge) aGd (aC 3) (gW op_pow aDE (bU) (bU)) (by first | exact nobehind _ (by decide) (by decide) | rfl)) (iZ (wC h1 (aC 0) (bU) (aC 3))) (tG)))))) (tG)) (bH (afD (v5 (op_gt) aCX (xF rfl h1 (aC 0) (bU)) (bU) (by first | exact nobehind _ (by decide) (by decide) | rfl)) (bH (jE 4 hN (gW op_mod anD (zB (call_int1) amW rfl T.no_int amK (aA (xF rfl h1 (aC 0) (bU)) (aY))) (aC 1))) (bH (wC h1 (aC 0) (bU) (gW op_fdiv azF (xF rfl h1 (aC 0) (bU)) (aC 1))) (iZ (sU (aC 4))))) (tG)) (bH (wC h1 (aC 0) (bU) (gW jC nU (xF rfl h1 (aC 0) (bU)) (bU))) (bH (jE 2 hN (xF rfl h1 (aC 0) (bU))) (bH (wC h1 (aC 0) (bU) (gW op_mod anD (zB (call_int1) amW rfl T.no_int amK (aA (gW jC nU (gW jC nU (gW jC nU (gW op_mul ajX (aC 2) (aC 2)) (gW op_mul ajX (bU) (aC 2))) (gW op_mul ajX (bU) (xF rfl h1 (aC 0) (bU)))) (bU)) (aY))) (bU))) (iZ (sU (gW op_mod anD (zB (call_int1) amW rfl T.no_int amK (aA (gW jC nU (gW jC nU (gW op_fdiv azF (xF rfl h1 (aC 0) (bU)) (bU)) (gW op_mul ajX (aC 2) (bU))) (xF rfl h1 (aC 0) (bU))) (aY))) (aC 1))))))))
theorem atJ (kV doc pm : Value) (an : Option Addr) (cdv ct : Value) (us : List Value) (h : us.length = 2) : bindArgs (PySem.W.fnOf "_law_same" "_law_same" (defArgs lZ) (defBody lZ) (defScope lZ) .none kV doc pm an cdv ct) ⟨us, []⟩ = pure ((["_law_found", "_law_due"] : List Str).zip us) := match us, h with | [_, _], _ => rfl
theorem ayQ (T : Txt K mg bJ aH) {f : Addr} {fd : FuncData} (D : GFun K mg "_law_same" lZ [] [] f fd) : FnG P w K mg base 1 f fd ["_law_found", "_law_due"] ac2 := by
  have S : FnScope aqZ ["_law_found", "_law_due"] (defScope lZ) := ⟨rfl, rfl, rfl, by decide +kernel, rfl, by decide +kernel, by decide +kernel⟩
  have hN := S.nd
  refine FnG.df (N := aqZ) (g := ai7) D.df S fun cdv A outer s H E hid hr ng tk => ?_
  have hu := hr.un
  have h65 := agB hr 65
  have h64 := agB hr 64
  have h1 := agB hr 1
  exact iZ (sU (al6 (aeN h64) aiM (aqV (aqB h64 ng) azQ rfl T.no_repr ayT (aA (aC 0) (aY))) (aqV (aqB h64 ng) azQ rfl T.no_repr ayT (aA (aC 1) (aY))) (by first | exact nobehind _ (by decide) (by decide) | rfl)))
theorem asK (kV doc pm : Value) (an : Option Addr) (cdv ct : Value) (us : List Value) (h : us.length = 3) : bindArgs (PySem.W.fnOf "_law_names" "_law_names" (defArgs gU) (defBody gU) (defScope gU) .none kV doc pm an cdv ct) ⟨us, []⟩ = pure ((["_law_bag_here", "_law_many", "_law_great"] : List Str).zip us) := match us, h with | [_, _, _], _ => rfl
theorem awC (T : Txt K mg bJ aH) {f : Addr} {fd : FuncData} (D : GFun K mg "_law_names" gU [] [] f fd) {pA : Addr} {aa5 : FuncData} (cR : GFun K mg "_law_draw" jK [] [] pA aa5) (nW : FnG P w K mg base 1 pA aa5 ["_law_bag_here", "_law_many"] gA) : FnG P w K mg base 2 f fd ["_law_bag_here", "_law_many", "_law_great"] rZ := by
  have S : FnScope ahG ["_law_bag_here", "_law_many", "_law_great"] (defScope gU) := ⟨rfl, rfl, rfl, by decide +kernel, rfl, by decide +kernel, by decide +kernel⟩
  have hN := S.nd
  refine FnG.df (N := ahG) (g := agT) D.df S fun cdv A outer s H E hid hr ng tk => ?_
  have hu := hr.un
  have h65 := agB hr 65
  have h64 := agB hr 64
  have h1 := agB hr 1
  have hp := passes_of (X := cxOf (L2.CX P w) P w K mg base ahG "_law_names" (defScope gU) f cdv A outer s H E) rfl
  exact bH (jE 3 hN (mH)) (bH (jE 4 hN (gW jC nU (bU) (aa1 rfl rfl (FnC.pos (n := 2) nW cR.df tD) (hr.mono (by decide)) ng tk rfl cR.m cR.df.kp (aA (aC 0) (aA (bU) (aY))) (aeV)))) (bH (jE 5 hN (aa1 rfl rfl (FnC.pos (n := 2) nW cR.df tD) (hr.mono (by decide)) ng tk rfl cR.m cR.df.kp (aA (aC 0) (aA (aC 4) (aY))) (aeV))) (bH (aBJ 6 false rfl hN (am0 rfl T.no_range (aC 4)) (blkOk_by (own := [("_law_k", 9)]) (by kernel_rfl)) (fun s H C cl fp hid => aeF 9 hN) (fun s H C cl fp hid => ao0) (fun s H C cl fp hid => aa1 rfl rfl (FnC.pos (n := 2) nW cR.df tD) (hr.mono (by decide)) ng takes0 rfl cR.m cR.df.kp (aA (aC 0) (aA (bU) (aY))) (aeV))) (bH (jE 7 hN (al6 (aeN h64) aiM (aa1 rfl rfl (FnC.pos (n := 2) nW cR.df tD) (hr.mono (by decide)) ng tk rfl cR.m cR.df.kp (aA (aC 0) (aA (bU) (aY))) (aeV)) (bU) (by first | exact nobehind _ (by decide) (by decide) | rfl))) (bH (jE 8 hN (ay0 (aY))) (bH (aAY hp rfl (am0 rfl T.no_range (aC 1)) (aeF 9 hN) (ayV [9, 10, 11, 12] (bH (jE 10 hN (akO (awZ (aC 7)) (aC 4) (gW jC nU (gW jC nU (aC 5) (bU)) (aa1 rfl rfl (FnC.pos (n := 2) nW cR.df tD) (hr.mono (by decide)) ng tk rfl cR.m cR.df.kp (aA (aC 0) (aA (gW op_sub aEv (aC 4) (aC 5)) (aY))) (aeV))))) (bH (jE 11 hN (aBm rfl rfl T.no_list azJ (aA (aC 6) (aY)))) (bH (wC h1 (aC 11) (aC 5) (gW op_mod anD (zB (call_int1) amW rfl T.no_int amK (aA (gW jC nU (xF rfl h1 (aC 6) (aC 5)) (gW op_mul ajX (bU) (aC 9))) (aY))) (bU))) (bH (jE 12 hN (aC2 rfl PySem.F.plainAttrs_str PySem.F.slot_str_join PySem.F.type_str_join mt_join aCC (mH) (aA (aBz false rfl hN (axO rfl (ak7 rfl (aC 11) ao8 (ao2 (aC 10)))) (blkOk_by (own := [("_law_at", 13)]) (by kernel_rfl)) (fun s H C cl fp hid => aeF 13 hN) (fun s H C cl fp hid => ao0) (fun s H C cl fp hid => xF rfl h1 (aC 3) (aC 13))) (aY)))) (bH (jE 12 hN (akO (v5 (aeN h64) aiM (aC 12) (mH) (by first | exact nobehind _ (by decide) (by decide) | rfl)) (mH) (aC 12))) (iZ (aCo (aD4 rfl PySem.F.slot_list_append PySem.F.type_list_append mt_append aAv (aC 8) (aA (akO (awZ (aC 2)) (gW jC nU (aEg rfl PySem.F.plainAttrs_str PySem.F.slot_str_upper PySem.F.type_str_upper mt_upper aBH (ak7 rfl (aC 12) ao8 (ao2 (bU)))) (ak7 rfl (aC 12) (ao2 (bU)) ao8)) (aC 12)) (aY)))))))))))) (iZ (sU (aC 8)))))))))
theorem arZ (kV doc pm : Value) (an : Option Addr) (cdv ct : Value) (us : List Value) (h : us.length = 2) : bindArgs (PySem.W.fnOf "_law_fields" "_law_fields" (defArgs fJ) (defBody fJ) (defScope fJ) .none kV doc pm an cdv ct) ⟨us, []⟩ = pure ((["_law_e", "_law_word"] : List Str).zip us) := match us, h with | [_, _], _ => rfl
theorem auE (T : Txt K mg bJ aH) {f : Addr} {fd : FuncData} (D : GFun K mg "_law_fields" fJ [] [] f fd) : FnG P w K mg base 1 f fd ["_law_e", "_law_word"] afT := by
  have S : FnScope alN ["_law_e", "_law_word"] (defScope fJ) := ⟨rfl, rfl, rfl, by decide +kernel, rfl, by decide +kernel, by decide +kernel⟩
  have hN := S.nd
  refine FnG.df (N := alN) (g := akS) D.df S fun cdv A outer s H E hid hr ng tk => ?_
  have hu := hr.un
  have h65 := agB hr 65
  have h64 := agB hr 64
  have h1 := agB hr 1
  exact bH (afD (v5 (aw6 h65) aB0 (aC 1) (abC (aA (mH) (aA (mH) (aA (mH) (aA (mH) (aA (mH) (aA (mH) (aY)))))))) (by first | exact nobehind _ (by decide) (by decide) | rfl)) (iZ (sU (iI (aA (vC rfl T.xf_name (aC 0)) (aY))))) (tG)) (bH (afD (v5 (aw6 h65) aB0 (aC 1) (abC (aA (mH) (aA (mH) (aY)))) (by first | exact nobehind _ (by decide) (by decide) | rfl)) (iZ (sU (iI (aA (vC rfl T.xf_most (aC 0)) (aY))))) (tG)) (bH (afD (v5 (aw6 h65) aB0 (aC 1) (abC (aA (mH) (aA (mH) (aY)))) (by first | exact nobehind _ (by decide) (by decide) | rfl)) (iZ (sU (iI (aA (vC rfl T.xf_one (aC 0)) (aA (vC rfl T.xf_other (aC 0)) (aY)))))) (tG)) (bH (afD (v5 (aeN h64) aiM (aC 1) (mH) (by first | exact nobehind _ (by decide) (by decide) | rfl)) (iZ (sU (iI (aA (vC rfl T.xf_index (aC 0)) (aY))))) (tG)) (bH (afD (v5 (aeN h64) aiM (aC 1) (mH) (by first | exact nobehind _ (by decide) (by decide) | rfl)) (iZ (sU (iI (aA (vC rfl T.xf_at (aC 0)) (aY))))) (tG)) (bH (afD (v5 (aeN h64) aiM (aC 1) (mH) (by first | exact nobehind _ (by decide) (by decide) | rfl)) (iZ (sU (iI (aA (vC rfl T.xf_line (aC 0)) (aY))))) (tG)) (bH (afD (v5 (aeN h64) aiM (aC 1) (mH) (by first | exact nobehind _ (by decide) (by decide) | rfl)) (iZ (sU (iI (aA (vC rfl T.xf_by (aC 0)) (aY))))) (tG)) (iZ (sU (akO (v5 (aeN h64) aiM (aC 1) (mH) (by first | exact nobehind _ (by decide) (by decide) | rfl)) (iI (aA (vC rfl T.xf_at (aC 0)) (aA (vC rfl T.xf_why (aC 0)) (aY)))) (iI (aY)))))))))))
theorem aFg (T : Txt K mg bJ aH) {f : Addr} {fd : FuncData} (D : GFun K mg "law" aeS [] [] f fd) {acE : Addr} {aqP : FuncData} (acF : GFun K mg "_law_bag" oF [] [] acE aqP) (anJ : FnG P w K mg base 1 acE aqP ["_law_script"] ae8) {wI : Addr} {akT : FuncData} (wH : GFun K mg "_law_names" gU [] [] wI akT) (ag0 : FnG P w K mg base 2 wI akT ["_law_bag_here", "_law_many", "_law_great"] rZ) {pA : Addr} {aa5 : FuncData} (cR : GFun K mg "_law_draw" jK [] [] pA aa5) (nW : FnG P w K mg base 1 pA aa5 ["_law_bag_here", "_law_many"] gA) {zM : Addr} {an0 : FuncData} (aaH : GFun K mg "_law_same" lZ [] [] zM an0) (aiV : FnG P w K mg base 1 zM an0 ["_law_found", "_law_due"] ac2) {sY : Addr} {aiE : FuncData} (tQ : GFun K mg "_law_fields" fJ [] [] sY aiE) (afO : FnG P w K mg base 1 sY aiE ["_law_e", "_law_word"] afT) (ae1 : GRaise P w K mg base "InvalidMode" 2 0 wZ) (anC : GRaise P w K mg base "TooMany" 2 1 afF) (abJ : GRaise P w K mg base "InvalidMember" 2 1 tK) (ab6 : GRaise P w K mg base "DuplicateName" 2 1 sW) (ae3 : GRaise P w K mg base "InvalidName" 2 1 xO) (adC : GRaise P w K mg base "InvalidBrand" 2 1 vG) (ajD : GRaise P w K mg base "Conforms" 2 2 ad9) (abG : GRaise P w K mg base "NotConforming" 2 2 sX) (vU : GRaise P w K mg base "InvalidStatement" 2 1 oM) (am7 : GRaise P w K mg base "Aborted" 2 2 afP) (auA : GRaise P w K mg base "InUse" 2 1 alA) (aaP : GRaise P w K mg base "InvalidCommand" 2 0 rF) (ae0 : GRaise P w K mg base "InvalidText" 2 1 xJ) (amJ : GRaise P w K mg base "TooWide" 2 1 afJ) (aeM : GRaise P w K mg base "NothingLeft" 1 0 yD) (xR : GRaise P w K mg base "UnknownVariable" 2 1 pP) (abX : GRaise P w K mg base "UnknownMember" 2 1 tR) (wB : GRaise P w K mg base "UnknownInterface" 2 1 oO) : FnG P w K mg base 4 f fd ["_law_script"] f_law := by
  have S : FnScope aAU ["_law_script"] (defScope aeS) := ⟨rfl, rfl, rfl, by decide +kernel, rfl, by decide +kernel, by decide +kernel⟩
  have hN := S.nd
  refine FnG.df (N := aAU) (g := aBQ) D.df S fun cdv A outer s H E hid hr ng tk => ?_
  have hu := hr.un
  have h65 := agB hr 65
  have h64 := agB hr 64
  have h1 := agB hr 1
  have hp := passes_of (X := cxOf (L2.CX P w) P w K mg base aAU "law" (defScope aeS) f cdv A outer s H E) rfl
  exact bH (jE 1 hN (aa1 rfl rfl (FnC.pos (n := 1) anJ acF.df avE) (hr.mono (by decide)) ng tk rfl acF.m acF.df.kp (aA (aC 0) (aY)) (aeV))) (bH (aEC (aa1 rfl rfl (FnC.pos (n := 3) ag0.shut wH.df asK) (hr.mono (by decide)) ng tk rfl wH.m wH.df.kp (aA (aC 1) (aA (bU) (aA (avW) (aY)))) (aeV)) (aGt rfl rfl (avV (aeF 2 hN) (avV (aeF 3 hN) (aCG))))) (bH (jE 4 hN (aa1 rfl rfl (FnC.pos (n := 2) nW cR.df tD) (hr.mono (by decide)) ng tk rfl cR.m cR.df.kp (aA (aC 1) (aA (bU) (aY))) (aeV))) (bH (jE 5 hN (abC (aA (pY (k := 2) rfl ae3 (by decide) (hr.mono (by decide)) rfl (aA (aC 2) (aY))) (aA (pY (k := 2) rfl ab6 (by decide) (hr.mono (by decide)) rfl (aA (aC 2) (aY))) (aA (pY (k := 2) rfl abJ (by decide) (hr.mono (by decide)) rfl (aA (aC 4) (aY))) (aA (pY (k := 2) rfl anC (by decide) (hr.mono (by decide)) rfl (aA (aC 4) (aY))) (aA (aqW (k := 2) rfl ae1 (hr.mono (by decide)) rfl) (aY)))))))) (bH (jE 5 hN (gW jC nU (aC 5) (abC (aA (pY (k := 2) rfl vU (by decide) (hr.mono (by decide)) rfl (aA (aC 4) (aY))) (aA (pY (k := 2) rfl abG (by decide) (hr.mono (by decide)) rfl (aA (aC 2) (aA (aC 3) (aY)))) (aA (pY (k := 2) rfl ajD (by decide) (hr.mono (by decide)) rfl (aA (aC 2) (aA (aC 3) (aY)))) (aA (pY (k := 2) rfl adC (by decide) (hr.mono (by decide)) rfl (aA (aC 2) (aY))) (aY)))))))) (bH (jE 5 hN (gW jC nU (aC 5) (abC (aA (pY (k := 2) rfl amJ (by decide) (hr.mono (by decide)) rfl (aA (aC 4) (aY))) (aA (pY (k := 2) rfl ae0 (by decide) (hr.mono (by decide)) rfl (aA (aC 4) (aY))) (aA (aqW (k := 2) rfl aaP (hr.mono (by decide)) rfl) (aA (pY (k := 2) rfl auA (by decide) (hr.mono (by decide)) rfl (aA (aC 2) (aY))) (aA (pY (k := 2) rfl am7 (by decide) (hr.mono (by decide)) rfl (aA (aC 4) (aA (aC 3) (aY)))) (aY))))))))) (bH (jE 5 hN (gW jC nU (aC 5) (abC (aA (pY (k := 2) rfl wB (by decide) (hr.mono (by decide)) rfl (aA (aC 2) (aY))) (aA (pY (k := 2) rfl abX (by decide) (hr.mono (by decide)) rfl (aA (aC 2) (aY))) (aA (pY (k := 2) rfl xR (by decide) (hr.mono (by decide)) rfl (aA (aC 2) (aY))) (aA (aqW (k := 1) rfl aeM (hr.mono (by decide)) rfl) (aY)))))))) (bH (jE 6 hN (mH)) (bH (jE 6 hN (gW jC nU (aC 6) (mH))) (bH (jE 6 hN (gW jC nU (aC 6) (mH))) (bH (afD (v5 (aAL h64) aDt (aBz false rfl hN (axO rfl (aC 5)) (blkOk_by (own := [("_law_e", 9)]) (by kernel_rfl)) (fun s H C cl fp hid => aeF 9 hN) (fun s H C cl fp hid => ao0) (fun s H C cl fp hid => vC rfl T.xf_word (aC 9))) (aC2 rfl PySem.F.plainAttrs_str PySem.F.slot_str_split PySem.F.type_str_split mt_split aBk (aC 6) (aA (mH) (aY))) (by first | exact nobehind _ (by decide) (by decide) | rfl)) (iZ (sU (avW))) (tG)) (bH (jE 7 hN (abC (aA (iI (aA (aC 2) (aY))) (aA (iI (aA (aC 2) (aY))) (aA (iI (aA (aC 4) (aY))) (aA (iI (aA (aC 4) (aY))) (aA (iI (aY)) (aA (iI (aA (aC 4) (aY))) (aA (iI (aA (aC 2) (aA (aC 3) (aY)))) (aA (iI (aA (aC 2) (aA (aC 3) (aY)))) (aA (iI (aA (aC 2) (aY))) (aA (iI (aA (aC 4) (aY))) (aA (iI (aA (aC 4) (aY))) (aA (iI (aY)) (aY))))))))))))))) (bH (jE 7 hN (gW jC nU (aC 7) (abC (aA (iI (aA (aC 2) (aY))) (aA (iI (aA (aC 4) (aA (aC 3) (aY)))) (aA (iI (aA (aC 2) (aY))) (aA (iI (aA (aC 2) (aY))) (aA (iI (aA (aC 2) (aY))) (aA (iI (aY)) (aY)))))))))) (bH (afD (aEc (awZ (aa1 rfl rfl (FnC.pos (n := 2) aiV aaH.df atJ) (hr.mono (by decide)) ng tk rfl aaH.m aaH.df.kp (aA (aBz false rfl hN (axO rfl (aC 5)) (blkOk_by (own := [("_law_e", 9)]) (by kernel_rfl)) (fun s H C cl fp hid => aeF 9 hN) (fun s H C cl fp hid => ao0) (fun s H C cl fp hid => aa1 rfl rfl (FnC.pos (n := 2) afO tQ.df arZ) (hr.mono (by decide)) ng takes0 rfl tQ.m tQ.df.kp (aA (aC 9) (aA (vC rfl T.xf_word (aC 9)) (aY))) (aeV))) (aA (aC 7) (aY))) (aeV)))) (iZ (sU (avW))) (tG)) (bH (aAY hp rfl (am0 rfl T.no_range (bU)) (aeF 8 hN) (ayV [8, 9, 10] (bH (jE 9 hN (xF rfl h1 (aC 5) (aC 8))) (bH (jE 10 hN (abC (aA (aBq rfl T.isK T.xi_UnmeantError rfl T.no_isinstance rfl T.mx_UnmeantError (aC 9)) (aA (atM rfl T.isK T.xi_ValueError rfl T.no_isinstance (pe_bltn rfl T.no_ValueError ar8 (v := .ty "ValueError") rfl (by decide) (by decide)) (aC 9)) (aA (aBq rfl T.isK T.xi_Missing rfl T.no_isinstance rfl T.mx_Missing (aC 9)) (aY)))))) (bH (jE 10 hN (gW jC nU (aC 10) (abC (aA (atM rfl T.isK T.xi_IndexError rfl T.no_isinstance (pe_bltn rfl T.no_IndexError asH (v := .ty "IndexError") rfl (by decide) (by decide)) (aC 9)) (aA (atM rfl T.isK T.xi_LookupError rfl T.no_isinstance (pe_bltn rfl T.no_LookupError ap5 (v := .ty "LookupError") rfl (by decide) (by decide)) (aC 9)) (aY)))))) (iZ (afD (v5 (aAL h64) aDt (aC 10) (abC (aA (al6 (op_lt) awD (aC 8) (bU) (by first | exact nobehind _ (by decide) (by decide) | rfl)) (aA (al6 (op_lt) awD (aC 8) (bU) (by first | exact nobehind _ (by decide) (by decide) | rfl)) (aA (aBp (op_lt) awD (op_lt) awD (bU) (aC 8) (bU)) (aA (al6 (aeN h64) aiM (aC 8) (bU) (by first | exact nobehind _ (by decide) (by decide) | rfl)) (aA (al6 (op_gt) aCX (aC 8) (bU) (by first | exact nobehind _ (by decide) (by decide) | rfl)) (aY))))))) (by first | exact nobehind _ (by decide) (by decide) | rfl)) (iZ (sU (avW))) (tG)))))))) (iZ (sU (avW)))))))))))))))))
end
theorem all (K : PySem.W.Frag) (mg : Str → Option Value) {h : Heap} (X : K.In h) (G : h.Ns mainGlobals mg) {fa : Addr} (hfa : mg "law" = some (.ref fa)) {P : Program} {w : World}
    (no_IndexError : PySem.W.nsIn K mainGlobals "IndexError" = some none)
    (no_LookupError : PySem.W.nsIn K mainGlobals "LookupError" = some none)
    (no_ValueError : PySem.W.nsIn K mainGlobals "ValueError" = some none)
    (no_int : PySem.W.nsIn K mainGlobals "int" = some none)
    (no_isinstance : PySem.W.nsIn K mainGlobals "isinstance" = some none)
    (no_len : PySem.W.nsIn K mainGlobals "len" = some none)
    (no_list : PySem.W.nsIn K mainGlobals "list" = some none)
    (no_range : PySem.W.nsIn K mainGlobals "range" = some none)
    (no_repr : PySem.W.nsIn K mainGlobals "repr" = some none)
    (ik1 : PySem.W.specialIn K (.builtin "object.__class__") "__get__" = some (some (.builtin "getset_descriptor.__get__")))
    (ik2 : PySem.W.takesIn K (.builtin "object.__class__") = some true)
    {acE : Addr} {awY : Value} {axS ax9 : Option Addr} {au2 : Array (Option Value)} {avG ayF anZ ayH : Value}
    {ayD : Value}
    (al5 : PySem.W.nsIn K mainGlobals "_law_bag" = some (some (.ref acE)))
    (am3 : K.lookup acE = some ⟨awY, axS, .func (PySem.W.fnOf "_law_bag" "_law_bag" (defArgs oF) (defBody oF) (defScope oF) .none ayD avG ayF ax9 anZ ayH), au2⟩)
    (aiX : PySem.W.codeIn K anZ "_law_bag" = true)
    (ai5 : PySem.W.keepIn K (.ref acE) = true)
    {pA : Addr} {avU : Value} {au4 awH : Option Addr} {atY : Array (Option Value)} {atH av3 akV avO : Value}
    {auR : Value}
    (ajK : PySem.W.nsIn K mainGlobals "_law_draw" = some (some (.ref pA)))
    (akM : K.lookup pA = some ⟨avU, au4, .func (PySem.W.fnOf "_law_draw" "_law_draw" (defArgs jK) (defBody jK) (defScope jK) .none auR atH av3 awH akV avO), atY⟩)
    (agM : PySem.W.codeIn K akV "_law_draw" = true)
    (ahK : PySem.W.keepIn K (.ref pA) = true)
    {zM : Addr} {au7 : Value} {av2 av1 : Option Addr} {atQ : Array (Option Value)} {atX avR akX av5 : Value}
    {auS : Value}
    (ajS : PySem.W.nsIn K mainGlobals "_law_same" = some (some (.ref zM)))
    (akH : K.lookup zM = some ⟨au7, av2, .func (PySem.W.fnOf "_law_same" "_law_same" (defArgs lZ) (defBody lZ) (defScope lZ) .none auS atX avR av1 akX av5), atQ⟩)
    (ahB : PySem.W.codeIn K akX "_law_same" = true)
    (agW : PySem.W.keepIn K (.ref zM) = true)
    {wI : Addr} {auG : Value} {at8 at7 : Option Addr} {asC : Array (Option Value)} {asI at9 aiL auJ : Value}
    {at4 : Value}
    (agI : PySem.W.nsIn K mainGlobals "_law_names" = some (some (.ref wI)))
    (ahA : K.lookup wI = some ⟨auG, at8, .func (PySem.W.fnOf "_law_names" "_law_names" (defArgs gU) (defBody gU) (defScope gU) .none at4 asI at9 at7 aiL auJ), asC⟩)
    (afX : PySem.W.codeIn K aiL "_law_names" = true)
    (afG : PySem.W.keepIn K (.ref wI) = true)
    {sY : Addr} {ar6 : Value} {ar4 ar7 : Option Addr} {arT : Array (Option Value)} {apT asF ag3 asJ : Value}
    {ar9 : Value}
    (afH : PySem.W.nsIn K mainGlobals "_law_fields" = some (some (.ref sY)))
    (afQ : K.lookup sY = some ⟨ar6, ar4, .func (PySem.W.fnOf "_law_fields" "_law_fields" (defArgs fJ) (defBody fJ) (defScope fJ) .none ar9 apT asF ar7 ag3 asJ), arT⟩)
    (aeO : PySem.W.codeIn K ag3 "_law_fields" = true)
    (aeY : PySem.W.keepIn K (.ref sY) = true)
    {aA8 : Addr} {aDD : Value} {aD7 aAC : Option Addr} {aCc : Array (Option Value)} {azH aBb auN aBh : Value}
    {aAT : Value}
    (aBX : PySem.W.nsIn K mainGlobals "law" = some (some (.ref aA8)))
    (aA3 : K.lookup aA8 = some ⟨aDD, aD7, .func (PySem.W.fnOf "law" "law" (defArgs aeS) (defBody aeS) (defScope aeS) .none aAT azH aBb aAC auN aBh), aCc⟩)
    (axT : PySem.W.codeIn K auN "law" = true)
    (ayB : PySem.W.keepIn K (.ref aA8) = true)
    (acW : PySem.W.nsIn K mainGlobals "ValueError" = some none)
    (aeK : PySem.W.findCls K (.type "ValueError") (.type "type") "__init__" = some (.val (.builtin "ValueError.__init__")))
    (ac9 : PySem.W.nsIn K mainGlobals "IndexError" = some none)
    (aeL : PySem.W.findCls K (.type "IndexError") (.type "type") "__init__" = some (.val (.builtin "IndexError.__init__")))
    (aa8 : PySem.W.nsIn K mainGlobals "LookupError" = some none)
    (acR : PySem.W.findCls K (.type "LookupError") (.type "type") "__init__" = some (.val (.builtin "LookupError.__init__")))
    {aH vJ : Addr} {abM aoS : Value} {aoO aoB : Option Addr} {al7 : Array (Option Value)} {aoY amM aoP afB aoJ : Value}
    (xQ : PySem.W.nsIn K mainGlobals "UnmeantError" = some (some (.ref aH)))
    (af9 : PySem.W.findIn K (.ref aH) "__init__" = some (some (.ref vJ)))
    (acG : K.lookup vJ = some ⟨aoS, aoO, .func (PySem.W.fnOf "__init__" "UnmeantError.__init__" (defArgs bF) (defBody bF) (defScope bF) .none aoY amM aoP aoB afB aoJ), al7⟩)
    (ab5 : PySem.W.codeIn K afB "UnmeantError.__init__" = true)
    (vH : PySem.W.keepIn K (.ref vJ) = true)
    (af7 : PySem.W.typeIn K (.ref aH) = some abM)
    (ab1 : PySem.W.readsIn K aH abM = true)
    (abS : PySem.W.specialIn K (.ref aH) "__getattribute__" = some (some (.builtin "type.__getattribute__")))
    (abU : PySem.W.findCls K (.ref aH) abM "__init__" = some (.val (.ref vJ)))
    {bA yF : Addr} {ap2 : Value} {ap7 apK : Option Addr} {aoC : Array (Option Value)} {arH aoA aq2 af8 apG : Value}
    (jB : PySem.W.nsIn K mainGlobals "InvalidMode" = some (some (.ref bA)))
    (adT : PySem.W.findIn K (.ref bA) "__init__" = some (some (.ref yF)))
    (aeZ : K.lookup yF = some ⟨ap2, ap7, .func (PySem.W.fnOf "__init__" "InvalidMode.__init__" (defArgs fP) (defBody fP) (defScope fP) .none arH aoA aq2 apK af8 apG), aoC⟩)
    (adA : PySem.W.codeIn K af8 "InvalidMode.__init__" = true)
    (acI : PySem.W.keepIn K (.ref yF) = true)
    (acP : PySem.W.excInitIn K bA HandSPX.veTail "ValueError.__new__" = true)
    (adM : PySem.W.excOver K bA HandSPX.veTail = true)
    (adZ : PySem.W.hasDictIn K bA = true)
    (acS : PySem.W.findIn K (.ref bA) "__setattr__" = some (some (.builtin "object.__setattr__")))
    (ad3 : PySem.W.subIn K (.ref bA) (.type "BaseException") = some true)
    (ad7 : PySem.W.typeIn K (.ref bA) = some (.type "type"))
    (adY : PySem.W.keepIn K (.ref bA) = true)
    (adS : PySem.W.typeIn K (.ref yF) = some (.type "function"))
    (abF : (["word"] : List Str).all (fun g => decide (PySem.W.takerIn K bA g = some none)) = true)
    {bZ afI : Addr} {axH : Value} {awW ayS : Option Addr} {awB : Array (Option Value)} {aw4 au1 ayL an7 aw1 : Value}
    (qN : PySem.W.nsIn K mainGlobals "TooMany" = some (some (.ref bZ)))
    (ajI : PySem.W.findIn K (.ref bZ) "__init__" = some (some (.ref afI)))
    (am4 : K.lookup afI = some ⟨axH, awW, .func (PySem.W.fnOf "__init__" "TooMany.__init__" (defArgs pM) (defBody pM) (defScope pM) .none aw4 au1 ayL ayS an7 aw1), awB⟩)
    (ajF : PySem.W.codeIn K an7 "TooMany.__init__" = true)
    (ai0 : PySem.W.keepIn K (.ref afI) = true)
    (aj9 : PySem.W.excInitIn K bZ HandSPX.veTail "ValueError.__new__" = true)
    (akA : PySem.W.excOver K bZ HandSPX.veTail = true)
    (ajM : PySem.W.hasDictIn K bZ = true)
    (ajY : PySem.W.findIn K (.ref bZ) "__setattr__" = some (some (.builtin "object.__setattr__")))
    (ajR : PySem.W.subIn K (.ref bZ) (.type "BaseException") = some true)
    (akC : PySem.W.typeIn K (.ref bZ) = some (.type "type"))
    (ajB : PySem.W.keepIn K (.ref bZ) = true)
    (ai9 : PySem.W.typeIn K (.ref afI) = some (.type "function"))
    (ahE : (["word", "most"] : List Str).all (fun g => decide (PySem.W.takerIn K bZ g = some none)) = true)
    {aP tL : Addr} {amT : Value} {anW am6 : Option Addr} {alV : Array (Option Value)} {anF alL amO aeH al4 : Value}
    (dZ : PySem.W.nsIn K mainGlobals "InvalidMember" = some (some (.ref aP)))
    (yJ : PySem.W.findIn K (.ref aP) "__init__" = some (some (.ref tL)))
    (ab2 : K.lookup tL = some ⟨amT, anW, .func (PySem.W.fnOf "__init__" "InvalidMember.__init__" (defArgs eE) (defBody eE) (defScope eE) .none anF alL amO am6 aeH al4), alV⟩)
    (aaQ : PySem.W.codeIn K aeH "InvalidMember.__init__" = true)
    (zU : PySem.W.keepIn K (.ref tL) = true)
    (aaW : PySem.W.excInitIn K aP HandSPX.veTail "ValueError.__new__" = true)
    (zL : PySem.W.excOver K aP HandSPX.veTail = true)
    (yN : PySem.W.hasDictIn K aP = true)
    (zH : PySem.W.findIn K (.ref aP) "__setattr__" = some (some (.builtin "object.__setattr__")))
    (aaJ : PySem.W.subIn K (.ref aP) (.type "BaseException") = some true)
    (zJ : PySem.W.typeIn K (.ref aP) = some (.type "type"))
    (yL : PySem.W.keepIn K (.ref aP) = true)
    (yX : PySem.W.typeIn K (.ref tL) = some (.type "function"))
    (xW : (["word", "index"] : List Str).all (fun g => decide (PySem.W.takerIn K aP g = some none)) = true)
    {aN tE : Addr} {amF : Value} {amG alX : Option Addr} {ak4 : Array (Option Value)} {alZ ak3 anQ aeB amS : Value}
    (d8 : PySem.W.nsIn K mainGlobals "DuplicateName" = some (some (.ref aN)))
    (aaV : PySem.W.findIn K (.ref aN) "__init__" = some (some (.ref tE)))
    (abY : K.lookup tE = some ⟨amF, amG, .func (PySem.W.fnOf "__init__" "DuplicateName.__init__" (defArgs d9) (defBody d9) (defScope d9) .none alZ ak3 anQ alX aeB amS), ak4⟩)
    (zY : PySem.W.codeIn K aeB "DuplicateName.__init__" = true)
    (aaA : PySem.W.keepIn K (.ref tE) = true)
    (aaZ : PySem.W.excInitIn K aN HandSPX.veTail "ValueError.__new__" = true)
    (aaG : PySem.W.excOver K aN HandSPX.veTail = true)
    (zA : PySem.W.hasDictIn K aN = true)
    (aaB : PySem.W.findIn K (.ref aN) "__setattr__" = some (some (.builtin "object.__setattr__")))
    (zP : PySem.W.subIn K (.ref aN) (.type "BaseException") = some true)
    (aaT : PySem.W.typeIn K (.ref aN) = some (.type "type"))
    (zG : PySem.W.keepIn K (.ref aN) = true)
    (aaN : PySem.W.typeIn K (.ref tE) = some (.type "function"))
    (wY : (["word", "name"] : List Str).all (fun g => decide (PySem.W.takerIn K aN g = some none)) = true)
    {aV xH : Addr} {aq7 : Value} {aqD ap3 : Option Addr} {aoX : Array (Option Value)} {apW aoZ aqO af4 aqK : Value}
    (fH : PySem.W.nsIn K mainGlobals "InvalidName" = some (some (.ref aV)))
    (ad1 : PySem.W.findIn K (.ref aV) "__init__" = some (some (.ref xH)))
    (aeQ : K.lookup xH = some ⟨aq7, aqD, .func (PySem.W.fnOf "__init__" "InvalidName.__init__" (defArgs fV) (defBody fV) (defScope fV) .none apW aoZ aqO ap3 af4 aqK), aoX⟩)
    (ad2 : PySem.W.codeIn K af4 "InvalidName.__init__" = true)
    (ac4 : PySem.W.keepIn K (.ref xH) = true)
    (acM : PySem.W.excInitIn K aV HandSPX.veTail "ValueError.__new__" = true)
    (ac0 : PySem.W.excOver K aV HandSPX.veTail = true)
    (adD : PySem.W.hasDictIn K aV = true)
    (ad0 : PySem.W.findIn K (.ref aV) "__setattr__" = some (some (.builtin "object.__setattr__")))
    (adX : PySem.W.subIn K (.ref aV) (.type "BaseException") = some true)
    (adJ : PySem.W.typeIn K (.ref aV) = some (.type "type"))
    (adE : PySem.W.keepIn K (.ref aV) = true)
    (ac6 : PySem.W.typeIn K (.ref xH) = some (.type "function"))
    (abN : (["word", "name"] : List Str).all (fun g => decide (PySem.W.takerIn K aV g = some none)) = true)
    {aR vI : Addr} {aoI : Value} {aoM aoV : Option Addr} {anA : Array (Option Value)} {aoK anM aoL ae9 aoT : Value}
    (eY : PySem.W.nsIn K mainGlobals "InvalidBrand" = some (some (.ref aR)))
    (ab0 : PySem.W.findIn K (.ref aR) "__init__" = some (some (.ref vI)))
    (acK : K.lookup vI = some ⟨aoI, aoM, .func (PySem.W.fnOf "__init__" "InvalidBrand.__init__" (defArgs eZ) (defBody eZ) (defScope eZ) .none aoK anM aoL aoV ae9 aoT), anA⟩)
    (abA : PySem.W.codeIn K ae9 "InvalidBrand.__init__" = true)
    (abH : PySem.W.keepIn K (.ref vI) = true)
    (abK : PySem.W.excInitIn K aR HandSPX.veTail "ValueError.__new__" = true)
    (abV : PySem.W.excOver K aR HandSPX.veTail = true)
    (abE : PySem.W.hasDictIn K aR = true)
    (abI : PySem.W.findIn K (.ref aR) "__setattr__" = some (some (.builtin "object.__setattr__")))
    (ab4 : PySem.W.subIn K (.ref aR) (.type "BaseException") = some true)
    (abT : PySem.W.typeIn K (.ref aR) = some (.type "type"))
    (abL : PySem.W.keepIn K (.ref aR) = true)
    (ab7 : PySem.W.typeIn K (.ref vI) = some (.type "function"))
    (yS : (["word", "name"] : List Str).all (fun g => decide (PySem.W.takerIn K aR g = some none)) = true)
    {bR aeI : Addr} {av0 : Value} {auQ auZ : Option Addr} {atZ : Array (Option Value)} {auT auL awL ak2 avS : Value}
    (mD : PySem.W.nsIn K mainGlobals "Conforms" = some (some (.ref bR)))
    (agC : PySem.W.findIn K (.ref bR) "__init__" = some (some (.ref aeI)))
    (akJ : K.lookup aeI = some ⟨av0, auQ, .func (PySem.W.fnOf "__init__" "Conforms.__init__" (defArgs nM) (defBody nM) (defScope nM) .none auT auL awL auZ ak2 avS), atZ⟩)
    (ag8 : PySem.W.codeIn K ak2 "Conforms.__init__" = true)
    (ahC : PySem.W.keepIn K (.ref aeI) = true)
    (ag4 : PySem.W.excInitIn K bR HandSPX.veTail "ValueError.__new__" = true)
    (ag1 : PySem.W.excOver K bR HandSPX.veTail = true)
    (agK : PySem.W.hasDictIn K bR = true)
    (ahL : PySem.W.findIn K (.ref bR) "__setattr__" = some (some (.builtin "object.__setattr__")))
    (ahH : PySem.W.subIn K (.ref bR) (.type "BaseException") = some true)
    (agN : PySem.W.typeIn K (.ref bR) = some (.type "type"))
    (agZ : PySem.W.keepIn K (.ref bR) = true)
    (agV : PySem.W.typeIn K (.ref aeI) = some (.type "function"))
    (afW : (["word", "one", "other"] : List Str).all (fun g => decide (PySem.W.takerIn K bR g = some none)) = true)
    {aM tO : Addr} {anP : Value} {amP al3 : Option Addr} {alK : Array (Option Value)} {amV alM anE aeD am5 : Value}
    (dJ : PySem.W.nsIn K mainGlobals "NotConforming" = some (some (.ref aM)))
    (aaM : PySem.W.findIn K (.ref aM) "__init__" = some (some (.ref tO)))
    (abZ : K.lookup tO = some ⟨anP, amP, .func (PySem.W.fnOf "__init__" "NotConforming.__init__" (defArgs eQ) (defBody eQ) (defScope eQ) .none amV alM anE al3 aeD am5), alK⟩)
    (aaC : PySem.W.codeIn K aeD "NotConforming.__init__" = true)
    (yO : PySem.W.keepIn K (.ref tO) = true)
    (aaE : PySem.W.excInitIn K aM HandSPX.veTail "ValueError.__new__" = true)
    (yM : PySem.W.excOver K aM HandSPX.veTail = true)
    (aaD : PySem.W.hasDictIn K aM = true)
    (yV : PySem.W.findIn K (.ref aM) "__setattr__" = some (some (.builtin "object.__setattr__")))
    (zQ : PySem.W.subIn K (.ref aM) (.type "BaseException") = some true)
    (aaU : PySem.W.typeIn K (.ref aM) = some (.type "type"))
    (aaF : PySem.W.keepIn K (.ref aM) = true)
    (zX : PySem.W.typeIn K (.ref tO) = some (.type "function"))
    (wW : (["word", "one", "other"] : List Str).all (fun g => decide (PySem.W.takerIn K aM g = some none)) = true)
    {aF oK : Addr} {ah1 : Value} {ah4 aiD : Option Addr} {ag7 : Array (Option Value)} {ah6 ahD aiB aa2 ah2 : Value}
    (cW : PySem.W.nsIn K mainGlobals "InvalidStatement" = some (some (.ref aF)))
    (uM : PySem.W.findIn K (.ref aF) "__init__" = some (some (.ref oK)))
    (vW : K.lookup oK = some ⟨ah1, ah4, .func (PySem.W.fnOf "__init__" "InvalidStatement.__init__" (defArgs cZ) (defBody cZ) (defScope cZ) .none ah6 ahD aiB aiD aa2 ah2), ag7⟩)
    (uK : PySem.W.codeIn K aa2 "InvalidStatement.__init__" = true)
    (uD : PySem.W.keepIn K (.ref oK) = true)
    (uG : PySem.W.excInitIn K aF HandSPX.veTail "ValueError.__new__" = true)
    (uE : PySem.W.excOver K aF HandSPX.veTail = true)
    (uN : PySem.W.hasDictIn K aF = true)
    (uX : PySem.W.findIn K (.ref aF) "__setattr__" = some (some (.builtin "object.__setattr__")))
    (t8 : PySem.W.subIn K (.ref aF) (.type "BaseException") = some true)
    (uR : PySem.W.typeIn K (.ref aF) = some (.type "type"))
    (uA : PySem.W.keepIn K (.ref aF) = true)
    (uC : PySem.W.typeIn K (.ref oK) = some (.type "function"))
    (rR : (["word", "at"] : List Str).all (fun g => decide (PySem.W.takerIn K aF g = some none)) = true)
    {bV afM : Addr} {axQ : Value} {axN axD : Option Addr} {av9 : Array (Option Value)} {ax4 awF ayK an1 axB : Value}
    (oX : PySem.W.nsIn K mainGlobals "Aborted" = some (some (.ref bV)))
    (ajU : PySem.W.findIn K (.ref bV) "__init__" = some (some (.ref afM)))
    (amZ : K.lookup afM = some ⟨axQ, axN, .func (PySem.W.fnOf "__init__" "Aborted.__init__" (defArgs pD) (defBody pD) (defScope pD) .none ax4 awF ayK axD an1 axB), av9⟩)
    (aj0 : PySem.W.codeIn K an1 "Aborted.__init__" = true)
    (akB : PySem.W.keepIn K (.ref afM) = true)
    (akL : PySem.W.excInitIn K bV HandSPX.veTail "ValueError.__new__" = true)
    (ajV : PySem.W.excOver K bV HandSPX.veTail = true)
    (aiR : PySem.W.hasDictIn K bV = true)
    (ajW : PySem.W.findIn K (.ref bV) "__setattr__" = some (some (.builtin "object.__setattr__")))
    (ai4 : PySem.W.subIn K (.ref bV) (.type "BaseException") = some true)
    (aj6 : PySem.W.typeIn K (.ref bV) = some (.type "type"))
    (aiY : PySem.W.keepIn K (.ref bV) = true)
    (ajT : PySem.W.typeIn K (.ref afM) = some (.type "function"))
    (ahN : (["word", "at", "why"] : List Str).all (fun g => decide (PySem.W.takerIn K bV g = some none)) = true)
    {cX ak1 : Addr} {aB2 : Value} {aA1 aBs : Option Addr} {aAw : Array (Option Value)} {aBK aAm aBO asO aAQ : Value}
    (aa0 : PySem.W.nsIn K mainGlobals "InUse" = some (some (.ref cX)))
    (apM : PySem.W.findIn K (.ref cX) "__init__" = some (some (.ref ak1)))
    (atG : K.lookup ak1 = some ⟨aB2, aA1, .func (PySem.W.fnOf "__init__" "InUse.__init__" (defArgs xY) (defBody xY) (defScope xY) .none aBK aAm aBO aBs asO aAQ), aAw⟩)
    (aqL : PySem.W.codeIn K asO "InUse.__init__" = true)
    (ar3 : PySem.W.keepIn K (.ref ak1) = true)
    (aqT : PySem.W.excInitIn K cX HandSPX.veTail "ValueError.__new__" = true)
    (aqA : PySem.W.excOver K cX HandSPX.veTail = true)
    (aqU : PySem.W.hasDictIn K cX = true)
    (apJ : PySem.W.findIn K (.ref cX) "__setattr__" = some (some (.builtin "object.__setattr__")))
    (arS : PySem.W.subIn K (.ref cX) (.type "BaseException") = some true)
    (apS : PySem.W.typeIn K (.ref cX) = some (.type "type"))
    (arY : PySem.W.keepIn K (.ref cX) = true)
    (apR : PySem.W.typeIn K (.ref ak1) = some (.type "function"))
    (amR : (["word", "by"] : List Str).all (fun g => decide (PySem.W.takerIn K cX g = some none)) = true)
    {aQ rE : Addr} {alT : Value} {akU ak6 : Option Addr} {aj4 : Array (Option Value)} {ak8 akG alH ad5 akY : Value}
    (eO : PySem.W.nsIn K mainGlobals "InvalidCommand" = some (some (.ref aQ)))
    (xP : PySem.W.findIn K (.ref aQ) "__init__" = some (some (.ref rE)))
    (aaS : K.lookup rE = some ⟨alT, akU, .func (PySem.W.fnOf "__init__" "InvalidCommand.__init__" (defArgs dN) (defBody dN) (defScope dN) .none ak8 akG alH ak6 ad5 akY), aj4⟩)
    (wR : PySem.W.codeIn K ad5 "InvalidCommand.__init__" = true)
    (xG : PySem.W.keepIn K (.ref rE) = true)
    (wV : PySem.W.excInitIn K aQ HandSPX.veTail "ValueError.__new__" = true)
    (xV : PySem.W.excOver K aQ HandSPX.veTail = true)
    (wX : PySem.W.hasDictIn K aQ = true)
    (w6 : PySem.W.findIn K (.ref aQ) "__setattr__" = some (some (.builtin "object.__setattr__")))
    (xK : PySem.W.subIn K (.ref aQ) (.type "BaseException") = some true)
    (yE : PySem.W.typeIn K (.ref aQ) = some (.type "type"))
    (wU : PySem.W.keepIn K (.ref aQ) = true)
    (xZ : PySem.W.typeIn K (.ref rE) = some (.type "function"))
    (vL : (["word"] : List Str).all (fun g => decide (PySem.W.takerIn K aQ g = some none)) = true)
    {aU yC : Addr} {arV : Value} {arG arJ : Option Addr} {aoU : Array (Option Value)} {apH aoF arU af6 arQ : Value}
    (fK : PySem.W.nsIn K mainGlobals "InvalidText" = some (some (.ref aU)))
    (adK : PySem.W.findIn K (.ref aU) "__init__" = some (some (.ref yC)))
    (aeT : K.lookup yC = some ⟨arV, arG, .func (PySem.W.fnOf "__init__" "InvalidText.__init__" (defArgs fO) (defBody fO) (defScope fO) .none apH aoF arU arJ af6 arQ), aoU⟩)
    (acX : PySem.W.codeIn K af6 "InvalidText.__init__" = true)
    (adB : PySem.W.keepIn K (.ref yC) = true)
    (acZ : PySem.W.excInitIn K aU HandSPX.veTail "ValueError.__new__" = true)
    (ad4 : PySem.W.excOver K aU HandSPX.veTail = true)
    (ac7 : PySem.W.hasDictIn K aU = true)
    (acV : PySem.W.findIn K (.ref aU) "__setattr__" = some (some (.builtin "object.__setattr__")))
    (acL : PySem.W.subIn K (.ref aU) (.type "BaseException") = some true)
    (acQ : PySem.W.typeIn K (.ref aU) = some (.type "type"))
    (acN : PySem.W.keepIn K (.ref aU) = true)
    (adG : PySem.W.typeIn K (.ref yC) = some (.type "function"))
    (abB : (["word", "line"] : List Str).all (fun g => decide (PySem.W.takerIn K aU g = some none)) = true)
    {cA afY : Addr} {axM : Value} {axA ax3 : Option Addr} {avK : Array (Option Value)} {ax7 au3 ax2 an8 awV : Value}
    (qO : PySem.W.nsIn K mainGlobals "TooWide" = some (some (.ref cA)))
    (aiU : PySem.W.findIn K (.ref cA) "__init__" = some (some (.ref afY)))
    (anV : K.lookup afY = some ⟨axM, axA, .func (PySem.W.fnOf "__init__" "TooWide.__init__" (defArgs pO) (defBody pO) (defScope pO) .none ax7 au3 ax2 ax3 an8 awV), avK⟩)
    (aj1 : PySem.W.codeIn K an8 "TooWide.__init__" = true)
    (ajG : PySem.W.keepIn K (.ref afY) = true)
    (ai6 : PySem.W.excInitIn K cA HandSPX.veTail "ValueError.__new__" = true)
    (aj7 : PySem.W.excOver K cA HandSPX.veTail = true)
    (ajN : PySem.W.hasDictIn K cA = true)
    (aiS : PySem.W.findIn K (.ref cA) "__setattr__" = some (some (.builtin "object.__setattr__")))
    (ajE : PySem.W.subIn K (.ref cA) (.type "BaseException") = some true)
    (akK : PySem.W.typeIn K (.ref cA) = some (.type "type"))
    (ajP : PySem.W.keepIn K (.ref cA) = true)
    (aj3 : PySem.W.typeIn K (.ref afY) = some (.type "function"))
    (agP : (["word", "most"] : List Str).all (fun g => decide (PySem.W.takerIn K cA g = some none)) = true)
    {aZ xN : Addr} {aq4 : Value} {ap4 arK : Option Addr} {aoN : Array (Option Value)} {arW aoE aq9 af2 ap9 : Value}
    (jA : PySem.W.nsIn K mainGlobals "NothingLeft" = some (some (.ref aZ)))
    (adQ : PySem.W.findIn K (.ref aZ) "__init__" = some (some (.ref xN)))
    (aeR : K.lookup xN = some ⟨aq4, ap4, .func (PySem.W.fnOf "__init__" "NothingLeft.__init__" (defArgs gK) (defBody gK) (defScope gK) .none arW aoE aq9 arK af2 ap9), aoN⟩)
    (adL : PySem.W.codeIn K af2 "NothingLeft.__init__" = true)
    (acT : PySem.W.keepIn K (.ref xN) = true)
    (adP : PySem.W.excInitIn K aZ axY "IndexError.__new__" = true)
    (adH : PySem.W.excOver K aZ axY = true)
    (adF : PySem.W.hasDictIn K aZ = true)
    (ac8 : PySem.W.findIn K (.ref aZ) "__setattr__" = some (some (.builtin "object.__setattr__")))
    (adN : PySem.W.subIn K (.ref aZ) (.type "BaseException") = some true)
    (adW : PySem.W.typeIn K (.ref aZ) = some (.type "type"))
    (ad6 : PySem.W.keepIn K (.ref aZ) = true)
    (ac5 : PySem.W.typeIn K (.ref xN) = some (.type "function"))
    (abR : (["word"] : List Str).all (fun g => decide (PySem.W.takerIn K aZ g = some none)) = true)
    {bJ afZ : Addr} {ajJ ayA : Value} {ayO awP : Option Addr} {avF : Array (Option Value)} {axF auV axR an4 ayI : Value}
    (ahS : PySem.W.nsIn K mainGlobals "Missing" = some (some (.ref bJ)))
    (ar0 : PySem.W.findIn K (.ref bJ) "__init__" = some (some (.ref afZ)))
    (amX : K.lookup afZ = some ⟨ayA, ayO, .func (PySem.W.fnOf "__init__" "Missing.__init__" (defArgs kE) (defBody kE) (defScope kE) .none axF auV axR awP an4 ayI), avF⟩)
    (ajH : PySem.W.codeIn K an4 "Missing.__init__" = true)
    (afS : PySem.W.keepIn K (.ref afZ) = true)
    (apI : PySem.W.typeIn K (.ref bJ) = some ajJ)
    (ajZ : PySem.W.readsIn K bJ ajJ = true)
    (aj2 : PySem.W.specialIn K (.ref bJ) "__getattribute__" = some (some (.builtin "type.__getattribute__")))
    (aj8 : PySem.W.findCls K (.ref bJ) ajJ "__init__" = some (.val (.ref afZ)))
    {aJ qF : Addr} {aiZ : Value} {akI akN : Option Addr} {ah7 : Array (Option Value)} {aj5 ahW ajA ab8 ajO : Value}
    (dC : PySem.W.nsIn K mainGlobals "UnknownVariable" = some (some (.ref aJ)))
    (vY : PySem.W.findIn K (.ref aJ) "__init__" = some (some (.ref qF)))
    (xU : K.lookup qF = some ⟨aiZ, akI, .func (PySem.W.fnOf "__init__" "UnknownVariable.__init__" (defArgs dH) (defBody dH) (defScope dH) .none aj5 ahW ajA akN ab8 ajO), ah7⟩)
    (vX : PySem.W.codeIn K ab8 "UnknownVariable.__init__" = true)
    (wA : PySem.W.keepIn K (.ref qF) = true)
    (vN : PySem.W.excInitIn K aJ aaR "LookupError.__new__" = true)
    (v7 : PySem.W.excOver K aJ aaR = true)
    (vP : PySem.W.hasDictIn K aJ = true)
    (v4 : PySem.W.findIn K (.ref aJ) "__setattr__" = some (some (.builtin "object.__setattr__")))
    (vZ : PySem.W.subIn K (.ref aJ) (.type "BaseException") = some true)
    (vO : PySem.W.typeIn K (.ref aJ) = some (.type "type"))
    (vM : PySem.W.keepIn K (.ref aJ) = true)
    (v8 : PySem.W.typeIn K (.ref qF) = some (.type "function"))
    (uQ : (["word", "name"] : List Str).all (fun g => decide (PySem.W.takerIn K aJ g = some none)) = true)
    {aO tH : Addr} {anG : Value} {am1 amE : Option Addr} {akQ : Array (Option Value)} {am8 alW amU aeG am2 : Value}
    (d7 : PySem.W.nsIn K mainGlobals "UnknownMember" = some (some (.ref aO)))
    (zV : PySem.W.findIn K (.ref aO) "__init__" = some (some (.ref tH)))
    (aa9 : K.lookup tH = some ⟨anG, am1, .func (PySem.W.fnOf "__init__" "UnknownMember.__init__" (defArgs eG) (defBody eG) (defScope eG) .none am8 alW amU amE aeG am2), akQ⟩)
    (yR : PySem.W.codeIn K aeG "UnknownMember.__init__" = true)
    (yK : PySem.W.keepIn K (.ref tH) = true)
    (zE : PySem.W.excInitIn K aO aaR "LookupError.__new__" = true)
    (zK : PySem.W.excOver K aO aaR = true)
    (aaL : PySem.W.hasDictIn K aO = true)
    (zW : PySem.W.findIn K (.ref aO) "__setattr__" = some (some (.builtin "object.__setattr__")))
    (aaO : PySem.W.subIn K (.ref aO) (.type "BaseException") = some true)
    (aaK : PySem.W.typeIn K (.ref aO) = some (.type "type"))
    (yP : PySem.W.keepIn K (.ref aO) = true)
    (aaY : PySem.W.typeIn K (.ref tH) = some (.type "function"))
    (wQ : (["word", "name"] : List Str).all (fun g => decide (PySem.W.takerIn K aO g = some none)) = true)
    {aG oN : Addr} {ahZ : Value} {ah5 ahV : Option Addr} {ahJ : Array (Option Value)} {ahU agQ aiC aa3 ahY : Value}
    (cV : PySem.W.nsIn K mainGlobals "UnknownInterface" = some (some (.ref aG)))
    (uY : PySem.W.findIn K (.ref aG) "__init__" = some (some (.ref oN)))
    (v9 : K.lookup oN = some ⟨ahZ, ah5, .func (PySem.W.fnOf "__init__" "UnknownInterface.__init__" (defArgs cY) (defBody cY) (defScope cY) .none ahU agQ aiC ahV aa3 ahY), ahJ⟩)
    (uW : PySem.W.codeIn K aa3 "UnknownInterface.__init__" = true)
    (uB : PySem.W.keepIn K (.ref oN) = true)
    (uI : PySem.W.excInitIn K aG aaR "LookupError.__new__" = true)
    (tZ : PySem.W.excOver K aG aaR = true)
    (uU : PySem.W.hasDictIn K aG = true)
    (tX : PySem.W.findIn K (.ref aG) "__setattr__" = some (some (.builtin "object.__setattr__")))
    (tY : PySem.W.subIn K (.ref aG) (.type "BaseException") = some true)
    (u5 : PySem.W.typeIn K (.ref aG) = some (.type "type"))
    (tW : PySem.W.keepIn K (.ref aG) = true)
    (uH : PySem.W.typeIn K (.ref oN) = some (.type "function"))
    (sH : (["word", "name"] : List Str).all (fun g => decide (PySem.W.takerIn K aG g = some none)) = true)
    (cC : xfB K bA = true)
    (u6 : PySem.W.findIn K (.ref bA) "word" = some none)
    (kJ : (PySem.W.clsIn K bA).isSome = true)
    (jX : PySem.W.findIn K (.ref bA) "__class__" = some (some (.builtin "object.__class__")))
    (jU : PySem.W.mroIn K bA (.type "object") = some true)
    (pZ : PySem.W.kitOne K (.ref bA) (.ref bJ) = some false)
    (nH : PySem.W.kitOne K (.ref bA) (.type "ValueError") = some true)
    (lN : PySem.W.kitOne K (.ref bA) (.ref aH) = some true)
    (mG : PySem.W.kitOne K (.ref bA) (.type "LookupError") = some false)
    (mX : PySem.W.kitOne K (.ref bA) (.type "IndexError") = some false)
    (dI : xfB K bZ = true)
    (aa7 : PySem.W.findIn K (.ref bZ) "most" = some none)
    (ab3 : PySem.W.findIn K (.ref bZ) "word" = some none)
    (rW : (PySem.W.clsIn K bZ).isSome = true)
    (sS : PySem.W.findIn K (.ref bZ) "__class__" = some (some (.builtin "object.__class__")))
    (sO : PySem.W.mroIn K bZ (.type "object") = some true)
    (vQ : PySem.W.kitOne K (.ref bZ) (.ref bJ) = some false)
    (qT : PySem.W.kitOne K (.ref bZ) (.type "ValueError") = some true)
    (oZ : PySem.W.kitOne K (.ref bZ) (.ref aH) = some true)
    (qD : PySem.W.kitOne K (.ref bZ) (.type "LookupError") = some false)
    (qW : PySem.W.kitOne K (.ref bZ) (.type "IndexError") = some false)
    (bQ : xfB K aP = true)
    (pU : PySem.W.findIn K (.ref aP) "index" = some none)
    (rB : PySem.W.findIn K (.ref aP) "word" = some none)
    (gQ : (PySem.W.clsIn K aP).isSome = true)
    (fW : PySem.W.findIn K (.ref aP) "__class__" = some (some (.builtin "object.__class__")))
    (fY : PySem.W.mroIn K aP (.type "object") = some true)
    (oA : PySem.W.kitOne K (.ref aP) (.ref bJ) = some false)
    (lL : PySem.W.kitOne K (.ref aP) (.type "ValueError") = some true)
    (jF : PySem.W.kitOne K (.ref aP) (.ref aH) = some true)
    (j6 : PySem.W.kitOne K (.ref aP) (.type "LookupError") = some false)
    (lG : PySem.W.kitOne K (.ref aP) (.type "IndexError") = some false)
    (bM : xfB K aN = true)
    (qU : PySem.W.findIn K (.ref aN) "name" = some none)
    (rA : PySem.W.findIn K (.ref aN) "word" = some none)
    (gG : (PySem.W.clsIn K aN).isSome = true)
    (gD : PySem.W.findIn K (.ref aN) "__class__" = some (some (.builtin "object.__class__")))
    (gH : PySem.W.mroIn K aN (.type "object") = some true)
    (nQ : PySem.W.kitOne K (.ref aN) (.ref bJ) = some false)
    (lM : PySem.W.kitOne K (.ref aN) (.type "ValueError") = some true)
    (jH : PySem.W.kitOne K (.ref aN) (.ref aH) = some true)
    (jT : PySem.W.kitOne K (.ref aN) (.type "LookupError") = some false)
    (lV : PySem.W.kitOne K (.ref aN) (.type "IndexError") = some false)
    (bW : xfB K aV = true)
    (u9 : PySem.W.findIn K (.ref aV) "name" = some none)
    (uJ : PySem.W.findIn K (.ref aV) "word" = some none)
    (lD : (PySem.W.clsIn K aV).isSome = true)
    (jV : PySem.W.findIn K (.ref aV) "__class__" = some (some (.builtin "object.__class__")))
    (lB : PySem.W.mroIn K aV (.type "object") = some true)
    (pK : PySem.W.kitOne K (.ref aV) (.ref bJ) = some false)
    (nD : PySem.W.kitOne K (.ref aV) (.type "ValueError") = some true)
    (lF : PySem.W.kitOne K (.ref aV) (.ref aH) = some true)
    (mK : PySem.W.kitOne K (.ref aV) (.type "LookupError") = some false)
    (mZ : PySem.W.kitOne K (.ref aV) (.type "IndexError") = some false)
    (bT : xfB K aR = true)
    (sE : PySem.W.findIn K (.ref aR) "name" = some none)
    (rN : PySem.W.findIn K (.ref aR) "word" = some none)
    (iV : (PySem.W.clsIn K aR).isSome = true)
    (iK : PySem.W.findIn K (.ref aR) "__class__" = some (some (.builtin "object.__class__")))
    (iU : PySem.W.mroIn K aR (.type "object") = some true)
    (o5 : PySem.W.kitOne K (.ref aR) (.ref bJ) = some false)
    (mJ : PySem.W.kitOne K (.ref aR) (.type "ValueError") = some true)
    (kY : PySem.W.kitOne K (.ref aR) (.ref aH) = some true)
    (lO : PySem.W.kitOne K (.ref aR) (.type "LookupError") = some false)
    (mU : PySem.W.kitOne K (.ref aR) (.type "IndexError") = some false)
    (cU : xfB K bR = true)
    (xM : PySem.W.findIn K (.ref bR) "other" = some none)
    (abW : PySem.W.findIn K (.ref bR) "one" = some none)
    (yW : PySem.W.findIn K (.ref bR) "word" = some none)
    (pH : (PySem.W.clsIn K bR).isSome = true)
    (pG : PySem.W.findIn K (.ref bR) "__class__" = some (some (.builtin "object.__class__")))
    (pX : PySem.W.mroIn K bR (.type "object") = some true)
    (uV : PySem.W.kitOne K (.ref bR) (.ref bJ) = some false)
    (qC : PySem.W.kitOne K (.ref bR) (.type "ValueError") = some true)
    (oG : PySem.W.kitOne K (.ref bR) (.ref aH) = some true)
    (oW : PySem.W.kitOne K (.ref bR) (.type "LookupError") = some false)
    (o9 : PySem.W.kitOne K (.ref bR) (.type "IndexError") = some false)
    (bG : xfB K aM = true)
    (o7 : PySem.W.findIn K (.ref aM) "other" = some none)
    (sV : PySem.W.findIn K (.ref aM) "one" = some none)
    (rC : PySem.W.findIn K (.ref aM) "word" = some none)
    (gJ : (PySem.W.clsIn K aM).isSome = true)
    (gR : PySem.W.findIn K (.ref aM) "__class__" = some (some (.builtin "object.__class__")))
    (fZ : PySem.W.mroIn K aM (.type "object") = some true)
    (nY : PySem.W.kitOne K (.ref aM) (.ref bJ) = some false)
    (lX : PySem.W.kitOne K (.ref aM) (.type "ValueError") = some true)
    (jP : PySem.W.kitOne K (.ref aM) (.ref aH) = some true)
    (jY : PySem.W.kitOne K (.ref aM) (.type "LookupError") = some false)
    (lQ : PySem.W.kitOne K (.ref aM) (.type "IndexError") = some false)
    (aW : xfB K aF = true)
    (pB : PySem.W.findIn K (.ref aF) "at" = some none)
    (nZ : PySem.W.findIn K (.ref aF) "word" = some none)
    (dO : (PySem.W.clsIn K aF).isSome = true)
    (dY : PySem.W.findIn K (.ref aF) "__class__" = some (some (.builtin "object.__class__")))
    (dU : PySem.W.mroIn K aF (.type "object") = some true)
    (lU : PySem.W.kitOne K (.ref aF) (.ref bJ) = some false)
    (iT : PySem.W.kitOne K (.ref aF) (.type "ValueError") = some true)
    (fQ : PySem.W.kitOne K (.ref aF) (.ref aH) = some true)
    (gY : PySem.W.kitOne K (.ref aF) (.type "LookupError") = some false)
    (iY : PySem.W.kitOne K (.ref aF) (.type "IndexError") = some false)
    (dB : xfB K bV = true)
    (ae2 : PySem.W.findIn K (.ref bV) "at" = some none)
    (acJ : PySem.W.findIn K (.ref bV) "why" = some none)
    (abQ : PySem.W.findIn K (.ref bV) "word" = some none)
    (rM : (PySem.W.clsIn K bV).isSome = true)
    (rO : PySem.W.findIn K (.ref bV) "__class__" = some (some (.builtin "object.__class__")))
    (sG : PySem.W.mroIn K bV (.type "object") = some true)
    (vR : PySem.W.kitOne K (.ref bV) (.ref bJ) = some false)
    (rD : PySem.W.kitOne K (.ref bV) (.type "ValueError") = some true)
    (oU : PySem.W.kitOne K (.ref bV) (.ref aH) = some true)
    (pN : PySem.W.kitOne K (.ref bV) (.type "LookupError") = some false)
    (qX : PySem.W.kitOne K (.ref bV) (.type "IndexError") = some false)
    (fL : xfB K cX = true)
    (ag6 : PySem.W.findIn K (.ref cX) "by" = some none)
    (aeU : PySem.W.findIn K (.ref cX) "word" = some none)
    (aaX : (PySem.W.clsIn K cX).isSome = true)
    (yQ : PySem.W.findIn K (.ref cX) "__class__" = some (some (.builtin "object.__class__")))
    (aaI : PySem.W.mroIn K cX (.type "object") = some true)
    (zF : PySem.W.kitOne K (.ref cX) (.ref bJ) = some false)
    (uL : PySem.W.kitOne K (.ref cX) (.type "ValueError") = some true)
    (qZ : PySem.W.kitOne K (.ref cX) (.ref aH) = some true)
    (rY : PySem.W.kitOne K (.ref cX) (.type "LookupError") = some false)
    (uP : PySem.W.kitOne K (.ref cX) (.type "IndexError") = some false)
    (bK : xfB K aQ = true)
    (pF : PySem.W.findIn K (.ref aQ) "word" = some none)
    (fB : (PySem.W.clsIn K aQ).isSome = true)
    (fD : PySem.W.findIn K (.ref aQ) "__class__" = some (some (.builtin "object.__class__")))
    (fG : PySem.W.mroIn K aQ (.type "object") = some true)
    (nJ : PySem.W.kitOne K (.ref aQ) (.ref bJ) = some false)
    (j9 : PySem.W.kitOne K (.ref aQ) (.type "ValueError") = some true)
    (iW : PySem.W.kitOne K (.ref aQ) (.ref aH) = some true)
    (jM : PySem.W.kitOne K (.ref aQ) (.type "LookupError") = some false)
    (lC : PySem.W.kitOne K (.ref aQ) (.type "IndexError") = some false)
    (bY : xfB K aU = true)
    (uO : PySem.W.findIn K (.ref aU) "line" = some none)
    (uF : PySem.W.findIn K (.ref aU) "word" = some none)
    (j7 : (PySem.W.clsIn K aU).isSome = true)
    (jZ : PySem.W.findIn K (.ref aU) "__class__" = some (some (.builtin "object.__class__")))
    (j5 : PySem.W.mroIn K aU (.type "object") = some true)
    (pJ : PySem.W.kitOne K (.ref aU) (.ref bJ) = some false)
    (m7 : PySem.W.kitOne K (.ref aU) (.type "ValueError") = some true)
    (lK : PySem.W.kitOne K (.ref aU) (.ref aH) = some true)
    (mO : PySem.W.kitOne K (.ref aU) (.type "LookupError") = some false)
    (nA : PySem.W.kitOne K (.ref aU) (.type "IndexError") = some false)
    (dG : xfB K cA = true)
    (aa6 : PySem.W.findIn K (.ref cA) "most" = some none)
    (abO : PySem.W.findIn K (.ref cA) "word" = some none)
    (rP : (PySem.W.clsIn K cA).isSome = true)
    (rJ : PySem.W.findIn K (.ref cA) "__class__" = some (some (.builtin "object.__class__")))
    (rK : PySem.W.mroIn K cA (.type "object") = some true)
    (vK : PySem.W.kitOne K (.ref cA) (.ref bJ) = some false)
    (qQ : PySem.W.kitOne K (.ref cA) (.type "ValueError") = some true)
    (oR : PySem.W.kitOne K (.ref cA) (.ref aH) = some true)
    (pQ : PySem.W.kitOne K (.ref cA) (.type "LookupError") = some false)
    (qR : PySem.W.kitOne K (.ref cA) (.type "IndexError") = some false)
    (cG : xfB K aZ = true)
    (uZ : PySem.W.findIn K (.ref aZ) "word" = some none)
    (kZ : (PySem.W.clsIn K aZ).isSome = true)
    (jW : PySem.W.findIn K (.ref aZ) "__class__" = some (some (.builtin "object.__class__")))
    (lA : PySem.W.mroIn K aZ (.type "object") = some true)
    (o8 : PySem.W.kitOne K (.ref aZ) (.ref bJ) = some false)
    (mY : PySem.W.kitOne K (.ref aZ) (.type "ValueError") = some false)
    (lY : PySem.W.kitOne K (.ref aZ) (.ref aH) = some false)
    (mV : PySem.W.kitOne K (.ref aZ) (.type "LookupError") = some true)
    (m9 : PySem.W.kitOne K (.ref aZ) (.type "IndexError") = some true)
    (bB : xfB K aJ = true)
    (oV : PySem.W.findIn K (.ref aJ) "name" = some none)
    (oY : PySem.W.findIn K (.ref aJ) "word" = some none)
    (eV : (PySem.W.clsIn K aJ).isSome = true)
    (eU : PySem.W.findIn K (.ref aJ) "__class__" = some (some (.builtin "object.__class__")))
    (eX : PySem.W.mroIn K aJ (.type "object") = some true)
    (mF : PySem.W.kitOne K (.ref aJ) (.ref bJ) = some true)
    (jG : PySem.W.kitOne K (.ref aJ) (.type "ValueError") = some false)
    (g8 : PySem.W.kitOne K (.ref aJ) (.ref aH) = some false)
    (iQ : PySem.W.kitOne K (.ref aJ) (.type "LookupError") = some true)
    (jN : PySem.W.kitOne K (.ref aJ) (.type "IndexError") = some false)
    (bO : xfB K aO = true)
    (qY : PySem.W.findIn K (.ref aO) "name" = some none)
    (qP : PySem.W.findIn K (.ref aO) "word" = some none)
    (fX : (PySem.W.clsIn K aO).isSome = true)
    (gM : PySem.W.findIn K (.ref aO) "__class__" = some (some (.builtin "object.__class__")))
    (fU : PySem.W.mroIn K aO (.type "object") = some true)
    (nR : PySem.W.kitOne K (.ref aO) (.ref bJ) = some true)
    (lJ : PySem.W.kitOne K (.ref aO) (.type "ValueError") = some false)
    (jO : PySem.W.kitOne K (.ref aO) (.ref aH) = some false)
    (j8 : PySem.W.kitOne K (.ref aO) (.type "LookupError") = some true)
    (lH : PySem.W.kitOne K (.ref aO) (.type "IndexError") = some false)
    (aX : xfB K aG = true)
    (oH : PySem.W.findIn K (.ref aG) "name" = some none)
    (oJ : PySem.W.findIn K (.ref aG) "word" = some none)
    (dX : (PySem.W.clsIn K aG).isSome = true)
    (dW : PySem.W.findIn K (.ref aG) "__class__" = some (some (.builtin "object.__class__")))
    (dR : PySem.W.mroIn K aG (.type "object") = some true)
    (lW : PySem.W.kitOne K (.ref aG) (.ref bJ) = some true)
    (iH : PySem.W.kitOne K (.ref aG) (.type "ValueError") = some false)
    (fM : PySem.W.kitOne K (.ref aG) (.ref aH) = some false)
    (iG : PySem.W.kitOne K (.ref aG) (.type "LookupError") = some true)
    (iJ : PySem.W.kitOne K (.ref aG) (.type "IndexError") = some false)
    (tT : TL.T = [])
    (tU : ∀ p ∈ TL.T, ∀ p' ∈ TL.T, p.1 = p'.1 → p.2 = p'.2)
    : avY K h ∧ ∃ fd : FuncData, (∀ (s : Shared) (u : Value), BindsTo s fd ⟨[u], []⟩ [("_law_script", u)]) ∧ ∀ base : Heap, K.In base → base.Ns mainGlobals mg → az2 base mg → FnG P w K mg base 4 fa fd ["_law_script"] f_law := by
  have T : Txt K mg bJ aH := ⟨qL X G no_IndexError, qL X G no_LookupError, qL X G no_ValueError, qL X G no_int, qL X G no_isinstance, qL X G no_len, qL X G no_list, qL X G no_range, qL X G no_repr, ⟨ik1, ik2⟩, KXs.cons ⟨⟨aN, PySem.W.mg_of X G d8, xfB_ok bM, qU⟩⟩ (KXs.cons ⟨⟨aV, PySem.W.mg_of X G fH, xfB_ok bW, u9⟩⟩ (KXs.cons ⟨⟨aR, PySem.W.mg_of X G eY, xfB_ok bT, sE⟩⟩ (KXs.cons ⟨⟨aJ, PySem.W.mg_of X G dC, xfB_ok bB, oV⟩⟩ (KXs.cons ⟨⟨aO, PySem.W.mg_of X G d7, xfB_ok bO, qY⟩⟩ (KXs.cons ⟨⟨aG, PySem.W.mg_of X G cV, xfB_ok aX, oH⟩⟩ (KXs.nil)))))), KXs.cons ⟨⟨bZ, PySem.W.mg_of X G qN, xfB_ok dI, aa7⟩⟩ (KXs.cons ⟨⟨cA, PySem.W.mg_of X G qO, xfB_ok dG, aa6⟩⟩ (KXs.nil)), KXs.cons ⟨⟨bR, PySem.W.mg_of X G mD, xfB_ok cU, xM⟩⟩ (KXs.cons ⟨⟨aM, PySem.W.mg_of X G dJ, xfB_ok bG, o7⟩⟩ (KXs.nil)), KXs.cons ⟨⟨bR, PySem.W.mg_of X G mD, xfB_ok cU, abW⟩⟩ (KXs.cons ⟨⟨aM, PySem.W.mg_of X G dJ, xfB_ok bG, sV⟩⟩ (KXs.nil)), KXs.cons ⟨⟨aP, PySem.W.mg_of X G dZ, xfB_ok bQ, pU⟩⟩ (KXs.nil), KXs.cons ⟨⟨aF, PySem.W.mg_of X G cW, xfB_ok aW, pB⟩⟩ (KXs.cons ⟨⟨bV, PySem.W.mg_of X G oX, xfB_ok dB, ae2⟩⟩ (KXs.nil)), KXs.cons ⟨⟨aU, PySem.W.mg_of X G fK, xfB_ok bY, uO⟩⟩ (KXs.nil), KXs.cons ⟨⟨cX, PySem.W.mg_of X G aa0, xfB_ok fL, ag6⟩⟩ (KXs.nil), KXs.cons ⟨⟨bV, PySem.W.mg_of X G oX, xfB_ok dB, acJ⟩⟩ (KXs.nil), KXs.cons ⟨⟨bA, PySem.W.mg_of X G jB, xfB_ok cC, u6⟩⟩ (KXs.cons ⟨⟨bZ, PySem.W.mg_of X G qN, xfB_ok dI, ab3⟩⟩ (KXs.cons ⟨⟨aP, PySem.W.mg_of X G dZ, xfB_ok bQ, rB⟩⟩ (KXs.cons ⟨⟨aN, PySem.W.mg_of X G d8, xfB_ok bM, rA⟩⟩ (KXs.cons ⟨⟨aV, PySem.W.mg_of X G fH, xfB_ok bW, uJ⟩⟩ (KXs.cons ⟨⟨aR, PySem.W.mg_of X G eY, xfB_ok bT, rN⟩⟩ (KXs.cons ⟨⟨bR, PySem.W.mg_of X G mD, xfB_ok cU, yW⟩⟩ (KXs.cons ⟨⟨aM, PySem.W.mg_of X G dJ, xfB_ok bG, rC⟩⟩ (KXs.cons ⟨⟨aF, PySem.W.mg_of X G cW, xfB_ok aW, nZ⟩⟩ (KXs.cons ⟨⟨bV, PySem.W.mg_of X G oX, xfB_ok dB, abQ⟩⟩ (KXs.cons ⟨⟨cX, PySem.W.mg_of X G aa0, xfB_ok fL, aeU⟩⟩ (KXs.cons ⟨⟨aQ, PySem.W.mg_of X G eO, xfB_ok bK, pF⟩⟩ (KXs.cons ⟨⟨aU, PySem.W.mg_of X G fK, xfB_ok bY, uF⟩⟩ (KXs.cons ⟨⟨cA, PySem.W.mg_of X G qO, xfB_ok dG, abO⟩⟩ (KXs.cons ⟨⟨aZ, PySem.W.mg_of X G jA, xfB_ok cG, uZ⟩⟩ (KXs.cons ⟨⟨aJ, PySem.W.mg_of X G dC, xfB_ok bB, oY⟩⟩ (KXs.cons ⟨⟨aO, PySem.W.mg_of X G d7, xfB_ok bO, qP⟩⟩ (KXs.cons ⟨⟨aG, PySem.W.mg_of X G cV, xfB_ok aX, oJ⟩⟩ (KXs.nil)))))))))))))))))), XiOk.cons ⟨⟨bA, PySem.W.mg_of X G jB, ⟨kJ, (xfB_ok cC).ga, (xfB_ok cC).gg, (xfB_ok cC).exC, jX, jU⟩, pZ⟩⟩ (XiOk.cons ⟨⟨bZ, PySem.W.mg_of X G qN, ⟨rW, (xfB_ok dI).ga, (xfB_ok dI).gg, (xfB_ok dI).exC, sS, sO⟩, vQ⟩⟩ (XiOk.cons ⟨⟨aP, PySem.W.mg_of X G dZ, ⟨gQ, (xfB_ok bQ).ga, (xfB_ok bQ).gg, (xfB_ok bQ).exC, fW, fY⟩, oA⟩⟩ (XiOk.cons ⟨⟨aN, PySem.W.mg_of X G d8, ⟨gG, (xfB_ok bM).ga, (xfB_ok bM).gg, (xfB_ok bM).exC, gD, gH⟩, nQ⟩⟩ (XiOk.cons ⟨⟨aV, PySem.W.mg_of X G fH, ⟨lD, (xfB_ok bW).ga, (xfB_ok bW).gg, (xfB_ok bW).exC, jV, lB⟩, pK⟩⟩ (XiOk.cons ⟨⟨aR, PySem.W.mg_of X G eY, ⟨iV, (xfB_ok bT).ga, (xfB_ok bT).gg, (xfB_ok bT).exC, iK, iU⟩, o5⟩⟩ (XiOk.cons ⟨⟨bR, PySem.W.mg_of X G mD, ⟨pH, (xfB_ok cU).ga, (xfB_ok cU).gg, (xfB_ok cU).exC, pG, pX⟩, uV⟩⟩ (XiOk.cons ⟨⟨aM, PySem.W.mg_of X G dJ, ⟨gJ, (xfB_ok bG).ga, (xfB_ok bG).gg, (xfB_ok bG).exC, gR, fZ⟩, nY⟩⟩ (XiOk.cons ⟨⟨aF, PySem.W.mg_of X G cW, ⟨dO, (xfB_ok aW).ga, (xfB_ok aW).gg, (xfB_ok aW).exC, dY, dU⟩, lU⟩⟩ (XiOk.cons ⟨⟨bV, PySem.W.mg_of X G oX, ⟨rM, (xfB_ok dB).ga, (xfB_ok dB).gg, (xfB_ok dB).exC, rO, sG⟩, vR⟩⟩ (XiOk.cons ⟨⟨cX, PySem.W.mg_of X G aa0, ⟨aaX, (xfB_ok fL).ga, (xfB_ok fL).gg, (xfB_ok fL).exC, yQ, aaI⟩, zF⟩⟩ (XiOk.cons ⟨⟨aQ, PySem.W.mg_of X G eO, ⟨fB, (xfB_ok bK).ga, (xfB_ok bK).gg, (xfB_ok bK).exC, fD, fG⟩, nJ⟩⟩ (XiOk.cons ⟨⟨aU, PySem.W.mg_of X G fK, ⟨j7, (xfB_ok bY).ga, (xfB_ok bY).gg, (xfB_ok bY).exC, jZ, j5⟩, pJ⟩⟩ (XiOk.cons ⟨⟨cA, PySem.W.mg_of X G qO, ⟨rP, (xfB_ok dG).ga, (xfB_ok dG).gg, (xfB_ok dG).exC, rJ, rK⟩, vK⟩⟩ (XiOk.cons ⟨⟨aZ, PySem.W.mg_of X G jA, ⟨kZ, (xfB_ok cG).ga, (xfB_ok cG).gg, (xfB_ok cG).exC, jW, lA⟩, o8⟩⟩ (XiOk.cons ⟨⟨aJ, PySem.W.mg_of X G dC, ⟨eV, (xfB_ok bB).ga, (xfB_ok bB).gg, (xfB_ok bB).exC, eU, eX⟩, mF⟩⟩ (XiOk.cons ⟨⟨aO, PySem.W.mg_of X G d7, ⟨fX, (xfB_ok bO).ga, (xfB_ok bO).gg, (xfB_ok bO).exC, gM, fU⟩, nR⟩⟩ (XiOk.cons ⟨⟨aG, PySem.W.mg_of X G cV, ⟨dX, (xfB_ok aX).ga, (xfB_ok aX).gg, (xfB_ok aX).exC, dW, dR⟩, lW⟩⟩ (XiOk.nil)))))))))))))))))), XiOk.cons ⟨⟨bA, PySem.W.mg_of X G jB, ⟨kJ, (xfB_ok cC).ga, (xfB_ok cC).gg, (xfB_ok cC).exC, jX, jU⟩, nH⟩⟩ (XiOk.cons ⟨⟨bZ, PySem.W.mg_of X G qN, ⟨rW, (xfB_ok dI).ga, (xfB_ok dI).gg, (xfB_ok dI).exC, sS, sO⟩, qT⟩⟩ (XiOk.cons ⟨⟨aP, PySem.W.mg_of X G dZ, ⟨gQ, (xfB_ok bQ).ga, (xfB_ok bQ).gg, (xfB_ok bQ).exC, fW, fY⟩, lL⟩⟩ (XiOk.cons ⟨⟨aN, PySem.W.mg_of X G d8, ⟨gG, (xfB_ok bM).ga, (xfB_ok bM).gg, (xfB_ok bM).exC, gD, gH⟩, lM⟩⟩ (XiOk.cons ⟨⟨aV, PySem.W.mg_of X G fH, ⟨lD, (xfB_ok bW).ga, (xfB_ok bW).gg, (xfB_ok bW).exC, jV, lB⟩, nD⟩⟩ (XiOk.cons ⟨⟨aR, PySem.W.mg_of X G eY, ⟨iV, (xfB_ok bT).ga, (xfB_ok bT).gg, (xfB_ok bT).exC, iK, iU⟩, mJ⟩⟩ (XiOk.cons ⟨⟨bR, PySem.W.mg_of X G mD, ⟨pH, (xfB_ok cU).ga, (xfB_ok cU).gg, (xfB_ok cU).exC, pG, pX⟩, qC⟩⟩ (XiOk.cons ⟨⟨aM, PySem.W.mg_of X G dJ, ⟨gJ, (xfB_ok bG).ga, (xfB_ok bG).gg, (xfB_ok bG).exC, gR, fZ⟩, lX⟩⟩ (XiOk.cons ⟨⟨aF, PySem.W.mg_of X G cW, ⟨dO, (xfB_ok aW).ga, (xfB_ok aW).gg, (xfB_ok aW).exC, dY, dU⟩, iT⟩⟩ (XiOk.cons ⟨⟨bV, PySem.W.mg_of X G oX, ⟨rM, (xfB_ok dB).ga, (xfB_ok dB).gg, (xfB_ok dB).exC, rO, sG⟩, rD⟩⟩ (XiOk.cons ⟨⟨cX, PySem.W.mg_of X G aa0, ⟨aaX, (xfB_ok fL).ga, (xfB_ok fL).gg, (xfB_ok fL).exC, yQ, aaI⟩, uL⟩⟩ (XiOk.cons ⟨⟨aQ, PySem.W.mg_of X G eO, ⟨fB, (xfB_ok bK).ga, (xfB_ok bK).gg, (xfB_ok bK).exC, fD, fG⟩, j9⟩⟩ (XiOk.cons ⟨⟨aU, PySem.W.mg_of X G fK, ⟨j7, (xfB_ok bY).ga, (xfB_ok bY).gg, (xfB_ok bY).exC, jZ, j5⟩, m7⟩⟩ (XiOk.cons ⟨⟨cA, PySem.W.mg_of X G qO, ⟨rP, (xfB_ok dG).ga, (xfB_ok dG).gg, (xfB_ok dG).exC, rJ, rK⟩, qQ⟩⟩ (XiOk.cons ⟨⟨aZ, PySem.W.mg_of X G jA, ⟨kZ, (xfB_ok cG).ga, (xfB_ok cG).gg, (xfB_ok cG).exC, jW, lA⟩, mY⟩⟩ (XiOk.cons ⟨⟨aJ, PySem.W.mg_of X G dC, ⟨eV, (xfB_ok bB).ga, (xfB_ok bB).gg, (xfB_ok bB).exC, eU, eX⟩, jG⟩⟩ (XiOk.cons ⟨⟨aO, PySem.W.mg_of X G d7, ⟨fX, (xfB_ok bO).ga, (xfB_ok bO).gg, (xfB_ok bO).exC, gM, fU⟩, lJ⟩⟩ (XiOk.cons ⟨⟨aG, PySem.W.mg_of X G cV, ⟨dX, (xfB_ok aX).ga, (xfB_ok aX).gg, (xfB_ok aX).exC, dW, dR⟩, iH⟩⟩ (XiOk.nil)))))))))))))))))), XiOk.cons ⟨⟨bA, PySem.W.mg_of X G jB, ⟨kJ, (xfB_ok cC).ga, (xfB_ok cC).gg, (xfB_ok cC).exC, jX, jU⟩, lN⟩⟩ (XiOk.cons ⟨⟨bZ, PySem.W.mg_of X G qN, ⟨rW, (xfB_ok dI).ga, (xfB_ok dI).gg, (xfB_ok dI).exC, sS, sO⟩, oZ⟩⟩ (XiOk.cons ⟨⟨aP, PySem.W.mg_of X G dZ, ⟨gQ, (xfB_ok bQ).ga, (xfB_ok bQ).gg, (xfB_ok bQ).exC, fW, fY⟩, jF⟩⟩ (XiOk.cons ⟨⟨aN, PySem.W.mg_of X G d8, ⟨gG, (xfB_ok bM).ga, (xfB_ok bM).gg, (xfB_ok bM).exC, gD, gH⟩, jH⟩⟩ (XiOk.cons ⟨⟨aV, PySem.W.mg_of X G fH, ⟨lD, (xfB_ok bW).ga, (xfB_ok bW).gg, (xfB_ok bW).exC, jV, lB⟩, lF⟩⟩ (XiOk.cons ⟨⟨aR, PySem.W.mg_of X G eY, ⟨iV, (xfB_ok bT).ga, (xfB_ok bT).gg, (xfB_ok bT).exC, iK, iU⟩, kY⟩⟩ (XiOk.cons ⟨⟨bR, PySem.W.mg_of X G mD, ⟨pH, (xfB_ok cU).ga, (xfB_ok cU).gg, (xfB_ok cU).exC, pG, pX⟩, oG⟩⟩ (XiOk.cons ⟨⟨aM, PySem.W.mg_of X G dJ, ⟨gJ, (xfB_ok bG).ga, (xfB_ok bG).gg, (xfB_ok bG).exC, gR, fZ⟩, jP⟩⟩ (XiOk.cons ⟨⟨aF, PySem.W.mg_of X G cW, ⟨dO, (xfB_ok aW).ga, (xfB_ok aW).gg, (xfB_ok aW).exC, dY, dU⟩, fQ⟩⟩ (XiOk.cons ⟨⟨bV, PySem.W.mg_of X G oX, ⟨rM, (xfB_ok dB).ga, (xfB_ok dB).gg, (xfB_ok dB).exC, rO, sG⟩, oU⟩⟩ (XiOk.cons ⟨⟨cX, PySem.W.mg_of X G aa0, ⟨aaX, (xfB_ok fL).ga, (xfB_ok fL).gg, (xfB_ok fL).exC, yQ, aaI⟩, qZ⟩⟩ (XiOk.cons ⟨⟨aQ, PySem.W.mg_of X G eO, ⟨fB, (xfB_ok bK).ga, (xfB_ok bK).gg, (xfB_ok bK).exC, fD, fG⟩, iW⟩⟩ (XiOk.cons ⟨⟨aU, PySem.W.mg_of X G fK, ⟨j7, (xfB_ok bY).ga, (xfB_ok bY).gg, (xfB_ok bY).exC, jZ, j5⟩, lK⟩⟩ (XiOk.cons ⟨⟨cA, PySem.W.mg_of X G qO, ⟨rP, (xfB_ok dG).ga, (xfB_ok dG).gg, (xfB_ok dG).exC, rJ, rK⟩, oR⟩⟩ (XiOk.cons ⟨⟨aZ, PySem.W.mg_of X G jA, ⟨kZ, (xfB_ok cG).ga, (xfB_ok cG).gg, (xfB_ok cG).exC, jW, lA⟩, lY⟩⟩ (XiOk.cons ⟨⟨aJ, PySem.W.mg_of X G dC, ⟨eV, (xfB_ok bB).ga, (xfB_ok bB).gg, (xfB_ok bB).exC, eU, eX⟩, g8⟩⟩ (XiOk.cons ⟨⟨aO, PySem.W.mg_of X G d7, ⟨fX, (xfB_ok bO).ga, (xfB_ok bO).gg, (xfB_ok bO).exC, gM, fU⟩, jO⟩⟩ (XiOk.cons ⟨⟨aG, PySem.W.mg_of X G cV, ⟨dX, (xfB_ok aX).ga, (xfB_ok aX).gg, (xfB_ok aX).exC, dW, dR⟩, fM⟩⟩ (XiOk.nil)))))))))))))))))), XiOk.cons ⟨⟨bA, PySem.W.mg_of X G jB, ⟨kJ, (xfB_ok cC).ga, (xfB_ok cC).gg, (xfB_ok cC).exC, jX, jU⟩, mG⟩⟩ (XiOk.cons ⟨⟨bZ, PySem.W.mg_of X G qN, ⟨rW, (xfB_ok dI).ga, (xfB_ok dI).gg, (xfB_ok dI).exC, sS, sO⟩, qD⟩⟩ (XiOk.cons ⟨⟨aP, PySem.W.mg_of X G dZ, ⟨gQ, (xfB_ok bQ).ga, (xfB_ok bQ).gg, (xfB_ok bQ).exC, fW, fY⟩, j6⟩⟩ (XiOk.cons ⟨⟨aN, PySem.W.mg_of X G d8, ⟨gG, (xfB_ok bM).ga, (xfB_ok bM).gg, (xfB_ok bM).exC, gD, gH⟩, jT⟩⟩ (XiOk.cons ⟨⟨aV, PySem.W.mg_of X G fH, ⟨lD, (xfB_ok bW).ga, (xfB_ok bW).gg, (xfB_ok bW).exC, jV, lB⟩, mK⟩⟩ (XiOk.cons ⟨⟨aR, PySem.W.mg_of X G eY, ⟨iV, (xfB_ok bT).ga, (xfB_ok bT).gg, (xfB_ok bT).exC, iK, iU⟩, lO⟩⟩ (XiOk.cons ⟨⟨bR, PySem.W.mg_of X G mD, ⟨pH, (xfB_ok cU).ga, (xfB_ok cU).gg, (xfB_ok cU).exC, pG, pX⟩, oW⟩⟩ (XiOk.cons ⟨⟨aM, PySem.W.mg_of X G dJ, ⟨gJ, (xfB_ok bG).ga, (xfB_ok bG).gg, (xfB_ok bG).exC, gR, fZ⟩, jY⟩⟩ (XiOk.cons ⟨⟨aF, PySem.W.mg_of X G cW, ⟨dO, (xfB_ok aW).ga, (xfB_ok aW).gg, (xfB_ok aW).exC, dY, dU⟩, gY⟩⟩ (XiOk.cons ⟨⟨bV, PySem.W.mg_of X G oX, ⟨rM, (xfB_ok dB).ga, (xfB_ok dB).gg, (xfB_ok dB).exC, rO, sG⟩, pN⟩⟩ (XiOk.cons ⟨⟨cX, PySem.W.mg_of X G aa0, ⟨aaX, (xfB_ok fL).ga, (xfB_ok fL).gg, (xfB_ok fL).exC, yQ, aaI⟩, rY⟩⟩ (XiOk.cons ⟨⟨aQ, PySem.W.mg_of X G eO, ⟨fB, (xfB_ok bK).ga, (xfB_ok bK).gg, (xfB_ok bK).exC, fD, fG⟩, jM⟩⟩ (XiOk.cons ⟨⟨aU, PySem.W.mg_of X G fK, ⟨j7, (xfB_ok bY).ga, (xfB_ok bY).gg, (xfB_ok bY).exC, jZ, j5⟩, mO⟩⟩ (XiOk.cons ⟨⟨cA, PySem.W.mg_of X G qO, ⟨rP, (xfB_ok dG).ga, (xfB_ok dG).gg, (xfB_ok dG).exC, rJ, rK⟩, pQ⟩⟩ (XiOk.cons ⟨⟨aZ, PySem.W.mg_of X G jA, ⟨kZ, (xfB_ok cG).ga, (xfB_ok cG).gg, (xfB_ok cG).exC, jW, lA⟩, mV⟩⟩ (XiOk.cons ⟨⟨aJ, PySem.W.mg_of X G dC, ⟨eV, (xfB_ok bB).ga, (xfB_ok bB).gg, (xfB_ok bB).exC, eU, eX⟩, iQ⟩⟩ (XiOk.cons ⟨⟨aO, PySem.W.mg_of X G d7, ⟨fX, (xfB_ok bO).ga, (xfB_ok bO).gg, (xfB_ok bO).exC, gM, fU⟩, j8⟩⟩ (XiOk.cons ⟨⟨aG, PySem.W.mg_of X G cV, ⟨dX, (xfB_ok aX).ga, (xfB_ok aX).gg, (xfB_ok aX).exC, dW, dR⟩, iG⟩⟩ (XiOk.nil)))))))))))))))))), XiOk.cons ⟨⟨bA, PySem.W.mg_of X G jB, ⟨kJ, (xfB_ok cC).ga, (xfB_ok cC).gg, (xfB_ok cC).exC, jX, jU⟩, mX⟩⟩ (XiOk.cons ⟨⟨bZ, PySem.W.mg_of X G qN, ⟨rW, (xfB_ok dI).ga, (xfB_ok dI).gg, (xfB_ok dI).exC, sS, sO⟩, qW⟩⟩ (XiOk.cons ⟨⟨aP, PySem.W.mg_of X G dZ, ⟨gQ, (xfB_ok bQ).ga, (xfB_ok bQ).gg, (xfB_ok bQ).exC, fW, fY⟩, lG⟩⟩ (XiOk.cons ⟨⟨aN, PySem.W.mg_of X G d8, ⟨gG, (xfB_ok bM).ga, (xfB_ok bM).gg, (xfB_ok bM).exC, gD, gH⟩, lV⟩⟩ (XiOk.cons ⟨⟨aV, PySem.W.mg_of X G fH, ⟨lD, (xfB_ok bW).ga, (xfB_ok bW).gg, (xfB_ok bW).exC, jV, lB⟩, mZ⟩⟩ (XiOk.cons ⟨⟨aR, PySem.W.mg_of X G eY, ⟨iV, (xfB_ok bT).ga, (xfB_ok bT).gg, (xfB_ok bT).exC, iK, iU⟩, mU⟩⟩ (XiOk.cons ⟨⟨bR, PySem.W.mg_of X G mD, ⟨pH, (xfB_ok cU).ga, (xfB_ok cU).gg, (xfB_ok cU).exC, pG, pX⟩, o9⟩⟩ (XiOk.cons ⟨⟨aM, PySem.W.mg_of X G dJ, ⟨gJ, (xfB_ok bG).ga, (xfB_ok bG).gg, (xfB_ok bG).exC, gR, fZ⟩, lQ⟩⟩ (XiOk.cons ⟨⟨aF, PySem.W.mg_of X G cW, ⟨dO, (xfB_ok aW).ga, (xfB_ok aW).gg, (xfB_ok aW).exC, dY, dU⟩, iY⟩⟩ (XiOk.cons ⟨⟨bV, PySem.W.mg_of X G oX, ⟨rM, (xfB_ok dB).ga, (xfB_ok dB).gg, (xfB_ok dB).exC, rO, sG⟩, qX⟩⟩ (XiOk.cons ⟨⟨cX, PySem.W.mg_of X G aa0, ⟨aaX, (xfB_ok fL).ga, (xfB_ok fL).gg, (xfB_ok fL).exC, yQ, aaI⟩, uP⟩⟩ (XiOk.cons ⟨⟨aQ, PySem.W.mg_of X G eO, ⟨fB, (xfB_ok bK).ga, (xfB_ok bK).gg, (xfB_ok bK).exC, fD, fG⟩, lC⟩⟩ (XiOk.cons ⟨⟨aU, PySem.W.mg_of X G fK, ⟨j7, (xfB_ok bY).ga, (xfB_ok bY).gg, (xfB_ok bY).exC, jZ, j5⟩, nA⟩⟩ (XiOk.cons ⟨⟨cA, PySem.W.mg_of X G qO, ⟨rP, (xfB_ok dG).ga, (xfB_ok dG).gg, (xfB_ok dG).exC, rJ, rK⟩, qR⟩⟩ (XiOk.cons ⟨⟨aZ, PySem.W.mg_of X G jA, ⟨kZ, (xfB_ok cG).ga, (xfB_ok cG).gg, (xfB_ok cG).exC, jW, lA⟩, m9⟩⟩ (XiOk.cons ⟨⟨aJ, PySem.W.mg_of X G dC, ⟨eV, (xfB_ok bB).ga, (xfB_ok bB).gg, (xfB_ok bB).exC, eU, eX⟩, jN⟩⟩ (XiOk.cons ⟨⟨aO, PySem.W.mg_of X G d7, ⟨fX, (xfB_ok bO).ga, (xfB_ok bO).gg, (xfB_ok bO).exC, gM, fU⟩, lH⟩⟩ (XiOk.cons ⟨⟨aG, PySem.W.mg_of X G cV, ⟨dX, (xfB_ok aX).ga, (xfB_ok aX).gg, (xfB_ok aX).exC, dW, dR⟩, iJ⟩⟩ (XiOk.nil)))))))))))))))))), PySem.W.mg_of X G ahS, PySem.W.mg_of X G xQ⟩
  have tb : avY K h := by
    unfold avY
    rw [tT]
    exact (fun p hp => nomatch hp)
  have cJ := jQ (mg := mg) (st := bF) (dd := []) (kd := []) acG ab5 vH jJ jL
  have ahM := jQ (mg := mg) (st := fP) (dd := []) (kd := []) aeZ adA acI jJ jL
  have apU := jQ (mg := mg) (st := pM) (dd := []) (kd := []) am4 ajF ai0 jJ jL
  have afC := jQ (mg := mg) (st := eE) (dd := []) (kd := []) ab2 aaQ zU jJ jL
  have ae6 := jQ (mg := mg) (st := d9) (dd := []) (kd := []) abY zY aaA jJ jL
  have agR := jQ (mg := mg) (st := fV) (dd := []) (kd := []) aeQ ad2 ac4 jJ jL
  have af1 := jQ (mg := mg) (st := eZ) (dd := []) (kd := []) acK abA abH jJ jL
  have an6 := jQ (mg := mg) (st := nM) (dd := []) (kd := []) akJ ag8 ahC jJ jL
  have afA := jQ (mg := mg) (st := eQ) (dd := []) (kd := []) abZ aaC yO jJ jL
  have ab9 := jQ (mg := mg) (st := cZ) (dd := []) (kd := []) vW uK uD jJ jL
  have arI := jQ (mg := mg) (st := pD) (dd := []) (kd := []) amZ aj0 akB jJ jL
  have avP := jQ (mg := mg) (st := xY) (dd := []) (kd := []) atG aqL ar3 jJ jL
  have aeE := jQ (mg := mg) (st := dN) (dd := []) (kd := []) aaS wR xG jJ jL
  have ahI := jQ (mg := mg) (st := fO) (dd := []) (kd := []) aeT acX adB jJ jL
  have aqG := jQ (mg := mg) (st := pO) (dd := []) (kd := []) anV aj1 ajG jJ jL
  have agL := jQ (mg := mg) (st := gK) (dd := []) (kd := []) aeR adL acT jJ jL
  have afL := jQ (mg := mg) (st := kE) (dd := []) (kd := []) amX ajH afS jJ jL
  have ac3 := jQ (mg := mg) (st := dH) (dd := []) (kd := []) xU vX wA jJ jL
  have afE := jQ (mg := mg) (st := eG) (dd := []) (kd := []) aa9 yR yK jJ jL
  have acB := jQ (mg := mg) (st := cY) (dd := []) (kd := []) v9 uW uB jJ jL
  have acF := ahO X G al5 (jQ (mg := mg) (st := oF) (dd := []) (kd := []) am3 aiX ai5 jJ jL)
  have cR := ahO X G ajK (jQ (mg := mg) (st := jK) (dd := []) (kd := []) akM agM ahK jJ jL)
  have aaH := ahO X G ajS (jQ (mg := mg) (st := lZ) (dd := []) (kd := []) akH ahB agW jJ jL)
  have wH := ahO X G agI (jQ (mg := mg) (st := gU) (dd := []) (kd := []) ahA afX afG jJ jL)
  have tQ := ahO X G afH (jQ (mg := mg) (st := fJ) (dd := []) (kd := []) afQ aeO aeY jJ jL)
  have aDy := ahO X G aBX (jQ (mg := mg) (st := aeS) (dd := []) (kd := []) aA3 axT ayB jJ jL)
  cases hfa.symm.trans aDy.m
  refine ⟨tb, PySem.W.fnOf "law" "law" (defArgs aeS) (defBody aeS) (defScope aeS) .none aAT azH aBb aAC auN aBh, fun s u => .of_eq rfl, fun base XB _ tB => ?_⟩
  have cQ := aoQ (P := P) (w := w) (base := base) cJ (qL X G acW) aeK
  have cP := az3 X G xQ ab1 abS abU vH
  have arD := arP (P := P) (w := w) (base := base) ahM cP cJ cQ
  have ae1 : GRaise P w K mg base "InvalidMode" 2 0 wZ := ⟨⟨_, _, _, _, _, _, _, _, _, _, mW X G jB PySem.F.excBase_ValueError PySem.F.store_ValueError acP adM adZ acS ad3 ad7 adY adT adS abF, arD, cH ahM aqM, (aEy (by decide +kernel) (by decide +kernel))⟩⟩
  have ayM := axE (P := P) (w := w) (base := base) apU cP cJ cQ
  have anC : GRaise P w K mg base "TooMany" 2 1 afF := ⟨⟨_, _, _, _, _, _, _, _, _, _, mW X G qN PySem.F.excBase_ValueError PySem.F.store_ValueError aj9 akA ajM ajY ajR akC ajB ajI ai9 ahE, ayM, cH apU ayG, (aoH (by decide +kernel) (by decide +kernel))⟩⟩
  have amQ := alY (P := P) (w := w) (base := base) afC cP cJ cQ
  have abJ : GRaise P w K mg base "InvalidMember" 2 1 tK := ⟨⟨_, _, _, _, _, _, _, _, _, _, mW X G dZ PySem.F.excBase_ValueError PySem.F.store_ValueError aaW zL yN zH aaJ zJ yL yJ yX xW, amQ, cH afC al0, (aoH (by decide +kernel) (by decide +kernel))⟩⟩
  have amB := al8 (P := P) (w := w) (base := base) ae6 cP cJ cQ
  have ab6 : GRaise P w K mg base "DuplicateName" 2 1 sW := ⟨⟨_, _, _, _, _, _, _, _, _, _, mW X G d8 PySem.F.excBase_ValueError PySem.F.store_ValueError aaZ aaG zA aaB zP aaT zG aaV aaN wY, amB, cH ae6 anU, (aoH (by decide +kernel) (by decide +kernel))⟩⟩
  have apB := ap8 (P := P) (w := w) (base := base) agR cP cJ cQ
  have ae3 : GRaise P w K mg base "InvalidName" 2 1 xO := ⟨⟨_, _, _, _, _, _, _, _, _, _, mW X G fH PySem.F.excBase_ValueError PySem.F.store_ValueError acM ac0 adD ad0 adX adJ adE ad1 ac6 abN, apB, cH agR aq0, (aoH (by decide +kernel) (by decide +kernel))⟩⟩
  have aoW := aoR (P := P) (w := w) (base := base) af1 cP cJ cQ
  have adC : GRaise P w K mg base "InvalidBrand" 2 1 vG := ⟨⟨_, _, _, _, _, _, _, _, _, _, mW X G eY PySem.F.excBase_ValueError PySem.F.store_ValueError abK abV abE abI ab4 abT abL ab0 ab7 yS, aoW, cH af1 aoG, (aoH (by decide +kernel) (by decide +kernel))⟩⟩
  have avD := avN (P := P) (w := w) (base := base) an6 cP cJ cQ
  have ajD : GRaise P w K mg base "Conforms" 2 2 ad9 := ⟨⟨_, _, _, _, _, _, _, _, _, _, mW X G mD PySem.F.excBase_ValueError PySem.F.store_ValueError ag4 ag1 agK ahL ahH agN agZ agC agV afW, avD, cH an6 avJ, (aEb (by decide +kernel) (by decide +kernel))⟩⟩
  have al1 := anT (P := P) (w := w) (base := base) afA cP cJ cQ
  have abG : GRaise P w K mg base "NotConforming" 2 2 sX := ⟨⟨_, _, _, _, _, _, _, _, _, _, mW X G dJ PySem.F.excBase_ValueError PySem.F.store_ValueError aaE yM aaD yV zQ aaU aaF aaM zX wW, al1, cH afA anB, (aEb (by decide +kernel) (by decide +kernel))⟩⟩
  have aiA := ah3 (P := P) (w := w) (base := base) ab9 cP cJ cQ
  have vU : GRaise P w K mg base "InvalidStatement" 2 1 oM := ⟨⟨_, _, _, _, _, _, _, _, _, _, mW X G cW PySem.F.excBase_ValueError PySem.F.store_ValueError uG uE uN uX t8 uR uA uM uC rR, aiA, cH ab9 ah8, (aoH (by decide +kernel) (by decide +kernel))⟩⟩
  have ax5 := ayR (P := P) (w := w) (base := base) arI cP cJ cQ
  have am7 : GRaise P w K mg base "Aborted" 2 2 afP := ⟨⟨_, _, _, _, _, _, _, _, _, _, mW X G oX PySem.F.excBase_ValueError PySem.F.store_ValueError akL ajV aiR ajW ai4 aj6 aiY ajU ajT ahN, ax5, cH arI ax6, (aEb (by decide +kernel) (by decide +kernel))⟩⟩
  have aBY := aAM (P := P) (w := w) (base := base) avP cP cJ cQ
  have auA : GRaise P w K mg base "InUse" 2 1 alA := ⟨⟨_, _, _, _, _, _, _, _, _, _, mW X G aa0 PySem.F.excBase_ValueError PySem.F.store_ValueError aqT aqA aqU apJ arS apS arY apM apR amR, aBY, cH avP aB7, (aoH (by decide +kernel) (by decide +kernel))⟩⟩
  have akP := alF (P := P) (w := w) (base := base) aeE cP cJ cQ
  have aaP : GRaise P w K mg base "InvalidCommand" 2 0 rF := ⟨⟨_, _, _, _, _, _, _, _, _, _, mW X G eO PySem.F.excBase_ValueError PySem.F.store_ValueError wV xV wX w6 xK yE wU xP xZ vL, akP, cH aeE akZ, (aEy (by decide +kernel) (by decide +kernel))⟩⟩
  have apY := aqC (P := P) (w := w) (base := base) ahI cP cJ cQ
  have ae0 : GRaise P w K mg base "InvalidText" 2 1 xJ := ⟨⟨_, _, _, _, _, _, _, _, _, _, mW X G fK PySem.F.excBase_ValueError PySem.F.store_ValueError acZ ad4 ac7 acV acL acQ acN adK adG abB, apY, cH ahI arA, (aoH (by decide +kernel) (by decide +kernel))⟩⟩
  have axJ := ayJ (P := P) (w := w) (base := base) aqG cP cJ cQ
  have amJ : GRaise P w K mg base "TooWide" 2 1 afJ := ⟨⟨_, _, _, _, _, _, _, _, _, _, mW X G qO PySem.F.excBase_ValueError PySem.F.store_ValueError ai6 aj7 ajN aiS ajE akK ajP aiU aj3 agP, axJ, cH aqG aw0, (aoH (by decide +kernel) (by decide +kernel))⟩⟩
  have apE := aqH (P := P) (w := w) (base := base) agL (qL X G ac9) aeL
  have aeM : GRaise P w K mg base "NothingLeft" 1 0 yD := ⟨⟨_, _, _, _, _, _, _, _, _, _, mW X G jA PySem.F.excBase_IndexError PySem.F.store_IndexError adP adH adF ac8 adN adW ad6 adQ ac5 abR, apE, cH agL aqF, (aEy (by decide +kernel) (by decide +kernel))⟩⟩
  have ai2 := axK (P := P) (w := w) (base := base) afL (qL X G aa8) acR
  have akF := az3 X G ahS ajZ aj2 aj8 afS
  have aiW := akD (P := P) (w := w) (base := base) ac3 akF afL ai2
  have xR : GRaise P w K mg base "UnknownVariable" 2 1 pP := ⟨⟨_, _, _, _, _, _, _, _, _, _, mW X G dC PySem.F.excBase_LookupError PySem.F.store_LookupError vN v7 vP v4 vZ vO vM vY v8 uQ, aiW, cH ac3 ai1, (aoH (by decide +kernel) (by decide +kernel))⟩⟩
  have amI := al9 (P := P) (w := w) (base := base) afE akF afL ai2
  have abX : GRaise P w K mg base "UnknownMember" 2 1 tR := ⟨⟨_, _, _, _, _, _, _, _, _, _, mW X G d7 PySem.F.excBase_LookupError PySem.F.store_LookupError zE zK aaL zW aaO aaK yP zV aaY wQ, amI, cH afE al2, (aoH (by decide +kernel) (by decide +kernel))⟩⟩
  have ah0 := ahX (P := P) (w := w) (base := base) acB akF afL ai2
  have wB : GRaise P w K mg base "UnknownInterface" 2 1 oO := ⟨⟨_, _, _, _, _, _, _, _, _, _, mW X G cV PySem.F.excBase_LookupError PySem.F.store_LookupError uI tZ uU tX tY u5 tW uY uH sH, ah0, cH acB ah9, (aoH (by decide +kernel) (by decide +kernel))⟩⟩
  have anJ := aAu (P := P) (w := w) (base := base) T acF
  have nW := axP (P := P) (w := w) (base := base) T cR
  have aiV := ayQ (P := P) (w := w) (base := base) T aaH
  have ag0 := awC (P := P) (w := w) (base := base) T wH cR nW
  have afO := auE (P := P) (w := w) (base := base) T tQ
  have aGa := aFg (P := P) (w := w) (base := base) T aDy acF anJ wH ag0 cR nW aaH aiV tQ afO ae1 anC abJ ab6 ae3 adC ajD abG vU am7 auA aaP ae0 amJ aeM xR abX wB
  exact aGa
end Law
namespace Law
open PySem PySem.Spec PyProof.Rows L2 Mn
local instance : TabList := ⟨[]⟩
local macro_rules
  | `(tactic| simp_all! [$ts,*]) => `(tactic| simp -implicitDefEqProofs only [aBA, xX, apV, aCT, aAK, aFN, aA0, aGB, azV, aCE, aEN, aDS, azC, aAW, ae4, aeC, ag9, agJ, aAA, aEt, azR, aD9, aCK, aB9, az4, azO, asZ, aAJ, aDQ, aDM, aBT, aBN, ayY, List.getElem?_cons_zero, List.getElem?_cons_succ, wF, abD, azK, ao6, azS, aCS, aCv, axW, as4, Option.map_some, ak5, as6, avC, Option.bind_some, List.length_cons, List.length_nil, aAH, auU, aAR, amL, List.set_cons_zero, List.set_cons_succ, pW, aCi, aA6, aCf, aCN, az1, ay8, ajC, anS, Bool.not_true, Bool.not_false, Bool.false_eq_true, if_false, if_true, aB5, avA, $ts,*])
/-- fields of a design -/
abbrev dsF : List Str := [Str.ofString "base", Str.ofString "wanted", Str.ofString "sources", Str.ofString "meanings", Str.ofString "forced"]
/-! ### references into a longer heap -/
/-! ### the bag of draws -/
structure Bag where
  ns : List Int
  at_ : Int
  big : Int
  st : Int
  cnt : Int
def Bag.ok (B : Bag) : Prop := 0 ≤ B.at_ ∧ 0 ≤ B.st ∧ B.st < 2147483629 ∧ B.ns.length ≤ 63
def Bag.vo (B : Bag) : VO := .lst [.lst (B.ns.map D.int), .int B.at_, .int B.big, .int B.st, .int B.cnt]

theorem ao9 {rest : VH} {B : Bag} {n : Int} (hB : B.ok) (h0 : 0 < n) (h1 : n < 1000000) :
    ∃ (d : Int) (B' : Bag), gA [.ref 0, .d (.int n)] (B.vo :: rest) = .ok (.d (.int d)) (B'.vo :: rest) ∧ 0 ≤ d ∧ d < n ∧ B'.ok := by
  obtain ⟨ns, p, g, st, cnt⟩ := B
  obtain ⟨b1, b2, b3, b4⟩ := hB
  unfold Bag.vo
  -- the first part
  have A : ∃ (p' g' st' : Int) (o : Option W), afR (yH 2 5 [.ref 0, .d (.int n)]) (.lst [.lst (ns.map D.int), .int p, .int g, .int st, .int cnt] :: rest) =
      .nx [some (.ref 0), some (.d (.int n)), none, o, none] (.lst [.lst (ns.map D.int), .int p', .int g', .int st', .int cnt] :: rest) ∧ 0 ≤ p' ∧ 0 ≤ st' ∧ st' < 2147483629 := by
    rw [aCj]
    unfold afR
    by_cases c : g = 0 ∧ p < ns.length
    · obtain ⟨rfl, hp⟩ := c
      simp only at b1
      have hv : ∃ v : Int, dIx (.lst (ns.map D.int)) (.int p) = some (.int v) := by
        rw [az8, ax8 b1 (by simpa using hp)]
        have : p.toNat < ns.length := by omega
        exact ⟨ns[p.toNat], by simp [this]⟩
      obtain ⟨v, hv⟩ := hv
      have m1 : afK (.int st) (.int 40013) = some (.int (st * 40013)) := acH (.inr (by decide))
      have m2 : afK (.int (v % 2147483549)) (.int 307) = some (.int (v % 2147483549 * 307)) := acH (.inr (by decide))
      have q1 : alC (.int v) (.int 2147483549) = some (.int (v % 2147483549)) := agG (by decide)
      have q2 : ∀ u, alC (.int u) (.int 2147483629) = some (.int (u % 2147483629)) := fun u => agG (by decide)
      by_cases hv2 : 1000000000000000000 ≤ v
      · exact ⟨p + 1, v, (st * 40013 + v % 2147483549 * 307 + 1013) % 2147483629, some (.d (.int v)), by simp [alO, hp, adV, adI, ac1, acO, zR, hv, m1, m2, q1, q2, hv2], by omega, by omega, by omega⟩
      · exact ⟨p + 1, 0, (st * 40013 + v % 2147483549 * 307 + 1013) % 2147483629, some (.d (.int v)), by simp [alO, hp, adV, adI, ac1, acO, zR, hv, m1, m2, q1, q2, hv2], by omega, by omega, by omega⟩
    · refine ⟨p, g, st, none, ?_, b1, b2, b3⟩
      by_cases hg : g = 0
      · have hp : ¬ p < ns.length := fun h => c ⟨hg, h⟩
        subst hg
        simp [alO, hp]
      · simp [alO, hg]
  obtain ⟨p', g', st', o, hA, c1, c2, c3⟩ := A
  have u1 : ∀ u, alC (.int u) (.int n) = some (.int (u % n)) := fun u => agG h0
  have u2 : ∀ u, apZ (.int u) (.int n) = some (.int (u / n)) := fun u => asY ⟨h0, by omega⟩
  have r1 : ∀ u : Int, 0 ≤ u % n ∧ u % n < n := fun u => ⟨Int.emod_nonneg _ (by omega), Int.emod_lt_of_pos _ h0⟩
  unfold gA
  rw [awG (np := 2) (by rfl)]
  unfold ai3
  rw [xX, hA, pW]
  by_cases hg : 0 < g'
  · refine ⟨g' % n, ⟨ns, p', g' / n, st', cnt⟩, ?_, (r1 _).1, (r1 _).2, c1, c2, c3, b4⟩
    simp [afV, agD, agE, agX, hg, u1, u2]
  · have m1 : afK (.int st') (.int st') = some (.int (st' * st')) := acH (.inr ⟨by omega, by omega⟩)
    have m2 : afK (.int 70001) (.int st') = some (.int (70001 * st')) := acH (.inl (by decide))
    have m3 : afK (.int 7907) (.int (cnt + 1)) = some (.int (7907 * (cnt + 1))) := acH (.inl (by decide))
    have m4 : afK (.int st') (.int 33301) = some (.int (st' * 33301)) := acH (.inr (by decide))
    have q2 : ∀ u, alC (.int u) (.int 2147483629) = some (.int (u % 2147483629)) := fun u => agG (by decide)
    have q3 : ∀ u, apZ (.int u) (.int 59) = some (.int (u / 59)) := fun u => asY (by decide)
    refine ⟨((st' * st' + 70001 * st' + 7907 * (cnt + 1) + 30011) % 2147483629 / 59 + st' * 33301 + (cnt + 1)) % n, ⟨ns, p', g', (st' * st' + 70001 * st' + 7907 * (cnt + 1) + 30011) % 2147483629, cnt + 1⟩, ?_, (r1 _).1, (r1 _).2, c1, by simp only; omega, by simp only; omega, b4⟩
    simp [afV, alG, ak0, alD, alJ, hg, u1, u2, m1, m2, m3, m4, q2, q3]
/-! ### names drawn -/
abbrev lets : Str := Str.ofString "abcdefghijklmnopqrstuvwxyz"
theorem aDR {i : Nat} (h : i < 26) : dIx (.str lets) (.int i) = some (sgn (97 + i)) := by
  have := List.all_eq_true.mp (show (List.range 26).all (fun i => decide (lets.cps.toList[i]? = some (97 + i))) = true by decide +kernel) i (List.mem_range.mpr h)
  rw [aCb, ax8 (by omega) (by have : lets.cps.toList.length = 26 := by decide +kernel
                              omega)]
  rw [Int.toNat_natCast, of_decide_eq_true this]; rfl
abbrev iD (i : Nat) : D := .int i
def yZ : List Nat := (Str.ofString "writable").cps.toList
def cWritablr : List Nat := (Str.ofString "writablr").cps.toList
/-- the k-th name: fs the first letters, p the place, l the length -/
def adU (fs : List Nat) (p k l : Nat) : List Nat := ((fs.set p ((fs[p]?.getD 0 + 11 * k) % 26)).take l).map (97 + ·)
def wJ (fs : List Nat) (p k l : Nat) : List Nat := if adU fs p k l = yZ then cWritablr else adU fs p k l
def arC : List Nat → List Nat
  | [] => []
  | c :: cs => (c - 32) :: cs
def acU (g : Bool) (fs : List Nat) (p k l : Nat) : List Nat := if g then arC (wJ fs p k l) else wJ fs p k l
theorem asM {fs : List Nat} {p k l : Nat} (hf : ∀ x ∈ fs, x < 26) : ∀ c ∈ adU fs p k l, 97 ≤ c ∧ c < 123 := by
  intro c hc
  obtain ⟨x, hx, rfl⟩ := List.mem_map.mp hc
  have : x < 26 := by
    rcases List.mem_or_eq_of_mem_set (List.mem_of_mem_take hx) with h | h
    · exact hf x h
    · rw [h]; omega
  omega
theorem amH {fs : List Nat} {p k l : Nat} (hl : l ≤ fs.length) : (adU fs p k l).length = l := by simp [adU]; omega
theorem ahP {fs : List Nat} {p k l : Nat} (hf : ∀ x ∈ fs, x < 26) : ∀ c ∈ wJ fs p k l, 97 ≤ c ∧ c < 123 := by
  unfold wJ
  split
  · have := List.all_eq_true.mp (show cWritablr.all (fun c => decide (97 ≤ c ∧ c < 123)) = true by decide +kernel)
    exact fun c hc => of_decide_eq_true (this c hc)
  · exact asM hf
theorem asN {fs : List Nat} {p k l : Nat} (hl : l ≤ fs.length) : (wJ fs p k l).length = l := by
  unfold wJ
  split
  · rename_i h
    have := congrArg List.length h
    rw [amH hl] at this
    rw [this]; decide +kernel
  · exact amH hl
theorem aBg {fs : List Nat} {p k l : Nat} : wJ fs p k l ≠ yZ := by
  unfold wJ
  split
  · decide +kernel
  · assumption
theorem aDA {c : Nat} (h : 97 ≤ c ∧ c < 123) : up1 c = c - 32 := by
  unfold up1
  rw [if_pos ⟨h.1, by omega⟩]
theorem aAe {c : Nat} (h : 97 ≤ c ∧ c < 123) : arR (.str (SX.S [c])) [] = some (.str (SX.S [c - 32])) := by
  have e : Txt.upper (SX.S [c]) = SX.S [c - 32] := by
    rw [SX.upper_S (by simp; omega)]
    simp [aDA h]
  unfold arR
  simp only [e]
  rw [if_pos ⟨by rw [SX.S_len]; simp, by rw [SX.S_len]; exact Nat.le_trans (show _ ≤ 1 by simp) (by decide), strOk_iff.mpr fun x hx => by
    have : x = c - 32 := by simpa using hx
    omega⟩]
theorem aCA (w : List Nat) : dSl (.str (SX.S w)) none (some 1) = some (.str (SX.S (w.take 1))) := by
  have h1 : HT.sIx (SX.S w).length 0 none = 0 := rfl
  have h2 : HT.sIx (SX.S w).length (SX.S w).length (some 1) = min 1 w.length := by simp [HT.sIx, SX.S_len]
  simp only [dSl, cutS, h1, h2]
  cases w <;> simp
theorem aCD (w : List Nat) : dSl (.str (SX.S w)) (some 1) none = some (.str (SX.S (w.drop 1))) := by
  have h1 : HT.sIx (SX.S w).length 0 (some 1) = min 1 w.length := by simp [HT.sIx, SX.S_len]
  have h2 : HT.sIx (SX.S w).length (SX.S w).length none = w.length := by simp [HT.sIx, SX.S_len]
  simp only [dSl, cutS, h1, h2]
  cases w <;> simp
theorem aFZ (a b : List Nat) (h : a.length + b.length ≤ 1000) : abP (.str (SX.S a)) (.str (SX.S b)) = some (.str (SX.S (a ++ b))) := by
  show (if (SX.S a).length + (SX.S b).length ≤ sizeLine then some (D.str (SX.S a ++ SX.S b)) else none) = _
  rw [if_pos (by rw [SX.S_len, SX.S_len]; exact Nat.le_trans h (by decide)), SX.S_cat]
theorem aFO (ds : List D) (l : Nat) (h : l ≤ ds.length) : dSl (.lst ds) none (some (l : Int)) = some (.lst (ds.take l)) := by
  have h1 : HT.sIx ds.length 0 none = 0 := rfl
  have h2 : HT.sIx ds.length ds.length (some (l : Int)) = l := by rw [HT.sIx_nat]; omega
  simp only [dSl, Mn.cutD, h1, h2, List.drop_zero, Nat.sub_zero]
theorem aBl {xs : List D} {m : Nat} (h : ∀ x ∈ xs, ∃ n : Nat, n < m ∧ x = iD n) : ∃ fs : List Nat, xs = fs.map iD ∧ ∀ c ∈ fs, c < m := by
  induction xs with
  | nil => exact ⟨[], rfl, fun _ h => nomatch h⟩
  | cons x xs ih =>
    obtain ⟨n, hn, rfl⟩ := h x List.mem_cons_self
    obtain ⟨cs, rfl, hc⟩ := ih fun y hy => h y (List.mem_cons_of_mem _ hy)
    refine ⟨n :: cs, rfl, fun c hc' => ?_⟩
    rcases List.mem_cons.mp hc' with rfl | h
    · exact hn
    · exact hc c h
/-- draws, as numbers -/
theorem aA7 {rest : VH} {B : Bag} {n : Nat} (hB : B.ok) (h0 : 0 < n) (h1 : n < 1000000) : ∃ (d : Nat) (B' : Bag), gA [.ref 0, .d (.int n)] (B.vo :: rest) = .ok (.d (.int d)) (B'.vo :: rest) ∧ d < n ∧ B'.ok := by
  obtain ⟨d, B', e, h2, h3, h4⟩ := ao9 (rest := rest) (n := n) hB (by omega) (by omega)
  exact ⟨d.toNat, B', by rw [e, Int.toNat_of_nonneg h2], by omega, h4⟩
abbrev aa4 (many : W) (g al : Bool) (fs : List Nat) (p k n : Nat) (a b c d : Option W) : Mn.Env := [some (.ref 0), some many, some (.d (.bl g)), some (.d (.str lets)), some (.d (iD fs.length)), some (.d (iD p)), some (.d (.lst (fs.map iD))), some (.d (.bl al)), some (.ref (n + 1)), some (.d (iD k)), a, b, c, d]
/-- one round of the names: the heap's tail t holds the found names at n, the row at its end -/
theorem au9 {B : Bag} {t : VH} {fs : List Nat} {p k n : Nat} {many : W} {g al : Bool} {found : List D} {a b c d : Option W} (hB : B.ok) (hf : ∀ x ∈ fs, x < 26) (hp : p < fs.length) (h8 : fs.length ≤ 8) (hk : k ≤ 1000)
    (ht : t[n]? = some (.lst found)) (hfd : found.length ≤ 1000) :
    ∃ (B' : Bag) (l : Nat) (row : List D) (a' b' c' : Option W), (dF qG (dF qM (dF qK (dF qJ (dF qH qI)))))
      (aa4 many g al fs p k n a b c d) (B.vo :: t) =
      .nx (aa4 many g al fs p k n a' b' c' d)
        (B'.vo :: List.set (t ++ [VO.lst row]) n (VO.lst (found ++ [D.str (SX.S (acU g fs p k l))]))) ∧ B'.ok ∧ p < l ∧ l ≤ fs.length := by
  -- how long
  have sa : ∃ (B' : Bag) (l : Nat), qG (aa4 many g al fs p k n a b c d) (B.vo :: t) =
      .nx (aa4 many g al fs p k n (some (.d (iD l))) b c d) (B'.vo :: t) ∧ B'.ok ∧ p < l ∧ l ≤ fs.length := by
    unfold qG
    cases al with
    | true => exact ⟨B, fs.length, by simp, hB, hp, Nat.le_refl _⟩
    | false =>
      obtain ⟨q, B', h1, h2, h3⟩ := aA7 (rest := t) (n := fs.length - p) hB (by omega) (by omega)
      have hs : aEF (iD fs.length) (iD p) = some (iD (fs.length - p)) := by
        show some (D.int ((fs.length : Int) - (p : Int))) = _
        rw [show ((fs.length : Int) - (p : Int)) = ((fs.length - p : Nat) : Int) by omega]
      refine ⟨B', p + 1 + q, ?_, h3, by omega, by omega⟩
      simp [hs, h1]
  obtain ⟨B1, l, sa, hB1, l1, l2⟩ := sa
  have hn : n < t.length := by
    rcases Nat.lt_or_ge n t.length with h | h
    · exact h
    · rw [List.getElem?_eq_none h] at ht; cases ht
  refine ⟨B1, l, (fs.set p ((fs[p] + 11 * k) % 26)).map iD, some (.d (iD l)), some (.ref (t.length + 1)), some (.d (.str (SX.S (wJ fs p k l)))), ?_, hB1, l1, l2⟩
  rw [xX, sa, pW]
  have v : fs[p]? = some fs[p] := List.getElem?_eq_getElem hp
  have hx : dIx (.lst (fs.map iD)) (iD p) = some (iD fs[p]) := by
    rw [az8, ax8 (by omega) (by simpa using hp)]
    simp [v]
  have hm : afK (.int 11) (iD k) = some (.int (11 * k)) := acH (.inl (by decide))
  have hmod : alC (.int (fs[p] + 11 * k)) (.int 26) = some (iD ((fs[p] + 11 * k) % 26)) := by
    rw [agG (by decide)]
    rfl
  have see1 : ∀ (B : Bag) (r : List D), see (B.vo :: (t ++ [.lst r])) (.ref (t.length + 1)) = some (.lst r) := fun B r => by simp [see]
  have seeN : ∀ (B : Bag) (r : List D), see (B.vo :: (t ++ [.lst r])) (.ref (n + 1)) = some (.lst found) := fun B r => by simp [see, List.getElem?_append_left hn, ht]
  have st : ∀ (E : Mn.Env) (B : Bag) (r : List D) (x : D), r.length = fs.length → aqI (.ref (t.length + 1)) (.d x) (some (iD p)) E (B.vo :: (t ++ [.lst r])) = .nx E (B.vo :: (t ++ [.lst (r.set p x)])) := fun E B r x hr => by
    have h0 : (B.vo :: (t ++ [.lst r]))[t.length + 1]? = some (VO.lst r) := by simp
    rw [aAD, h0, avI]
    unfold agY
    have : ixN r.length (p : Int) = some p := by unfold ixN; rw [if_pos (by omega), if_pos (by omega)]; simp
    rw [this]
    simp
  have fixed : (fs.map iD).set p (iD ((fs[p] + 11 * k) % 26)) = (fs.set p ((fs[p] + 11 * k) % 26)).map iD := by rw [List.map_set]
  have hlt : ∀ y ∈ fs.set p ((fs[p] + 11 * k) % 26), y < 26 := fun y hy => by
    rcases List.mem_or_eq_of_mem_set hy with h | h
    · exact hf y h
    · rw [h]; omega
  have cmp : ∀ (ys : List Nat) (E : Mn.Env) (vh : VH), (∀ y ∈ ys, y < 26) → E[3]? = some (some (.d (.str lets))) → E.length = 14 → acC (aeA 13) (fun _ vh => .ok true vh) aeJ E (ys.map iD) vh = .ok ((ys.map (97 + ·)).map sgn) vh := fun ys E vh hy hE hl => by
    induction ys with
    | nil => rfl
    | cons y ys ih =>
      have h3 : (E.set 13 (some (.d (iD y))))[3]? = some (some (.d (.str lets))) := by rw [List.getElem?_set_ne (by omega)]; exact hE
      have h13 : (E.set 13 (some (.d (iD y))))[13]? = some (some (.d (iD y))) := by rw [List.getElem?_set_self (by omega)]
      have hlx := aDR (hy y List.mem_cons_self)
      rw [List.map_cons, ay1 (x := sgn (97 + y)) (vh1 := vh) (vh2 := vh) rfl rfl (by simp [aeJ, h3, h13, hlx]), ih fun z hz => hy z (List.mem_cons_of_mem _ hz)]
      rfl
  have wlen := asN (p := p) (k := k) l2
  have wall := ahP (p := p) (k := k) (l := l) hf
  have join := aB6 (cs := adU fs p k l) (fun c hc => by have := asM hf c hc; omega) (by rw [amH l2]; omega)
  obtain ⟨gs, hgs⟩ : ∃ gs, gs = fs.set p ((fs[p] + 11 * k) % 26) := ⟨_, rfl⟩
  have n0 : adU fs p k l = (gs.take l).map (97 + ·) := by rw [hgs]; unfold adU; simp [v]
  have glen : gs.length = fs.length := by rw [hgs]; simp
  rw [← hgs] at hlt
  have join2 : as5 (.str (SX.S [])) [.lst ((gs.take l).map fun y => sgn (97 + y))] = some (.str (SX.S (adU fs p k l))) := by
    rw [n0] at join ⊢
    rw [← join, List.map_map]; rfl
  have sb : ∀ B : Bag, qM (aa4 many g al fs p k n (some (.d (iD l))) b c d) (B.vo :: t) = .nx (aa4 many g al fs p k n (some (.d (iD l))) (some (.ref (t.length + 1))) c d) (B.vo :: (t ++ [.lst (fs.map iD)])) := fun B => by
    unfold qM
    simp [aa4, aA2, af0]
  have sc : ∀ B : Bag, qK (aa4 many g al fs p k n (some (.d (iD l))) (some (.ref (t.length + 1))) c d) (B.vo :: (t ++ [.lst (fs.map iD)])) =
      .nx (aa4 many g al fs p k n (some (.d (iD l))) (some (.ref (t.length + 1))) c d) (B.vo :: (t ++ [.lst (gs.map iD)])) := fun B => by
    unfold qK
    have hst := fun E => st E B (fs.map iD) (iD ((fs[p] + 11 * k) % 26)) (by simp)
    rw [hgs, ← fixed]
    simp [aa4, hx, hm, hmod, hst]
  have sd : ∀ B : Bag, qJ (aa4 many g al fs p k n (some (.d (iD l))) (some (.ref (t.length + 1))) c d) (B.vo :: (t ++ [.lst (gs.map iD)])) =
      .nx (aa4 many g al fs p k n (some (.d (iD l))) (some (.ref (t.length + 1))) (some (.d (.str (SX.S (adU fs p k l))))) d) (B.vo :: (t ++ [.lst (gs.map iD)])) := fun B => by
    unfold qJ
    have hs := aFO (gs.map iD) l (by rw [List.length_map, glen]; exact l2)
    rw [← List.map_take] at hs
    have hw : lE (aa4 many g al fs p k n (some (.d (iD l))) (some (.ref (t.length + 1))) c d) [13] = aa4 many g al fs p k n (some (.d (iD l))) (some (.ref (t.length + 1))) c none := rfl
    have hc := cmp ((gs).take l) (aa4 many g al fs p k n (some (.d (iD l))) (some (.ref (t.length + 1))) c none) (B.vo :: (t ++ [.lst ((gs).map iD)])) (fun y hy => hlt y (List.mem_of_mem_take hy)) rfl rfl
    have he : (Str.ofString "") = SX.S [] := rfl
    have hlc := asW (xs := ((((gs).take l).map (97 + ·)).map sgn)) (vh := B.vo :: (t ++ [.lst ((gs).map iD)])) (by simp; omega)
    have see2 := see1 B ((gs).map iD)
    simp only [aa4] at hw hc
    simp only [apV, aE7, aAA, aeC, ag9, aAJ, azO, aFK, agJ, aAf, aCm, hw]
    simp [aa4, see2, aeP]
    simp only [List.map_map] at hc hlc
    simp only [hs, ak5, abD, auU, hc]
    rw [hlc]
    simp [he]
    rw [show (sgn ∘ fun x => 97 + x) = (fun y => sgn (97 + y)) from rfl, ← List.map_take, join2]
    simp
  have se : ∀ B : Bag, qH (aa4 many g al fs p k n (some (.d (iD l))) (some (.ref (t.length + 1))) (some (.d (.str (SX.S (adU fs p k l))))) d) (B.vo :: (t ++ [.lst (gs.map iD)])) =
      .nx (aa4 many g al fs p k n (some (.d (iD l))) (some (.ref (t.length + 1))) (some (.d (.str (SX.S (wJ fs p k l))))) d) (B.vo :: (t ++ [.lst (gs.map iD)])) := fun B => by
    unfold qH
    have e1 : Str.ofString "writable" = SX.S yZ := rfl
    have e2 : Str.ofString "writablr" = SX.S cWritablr := rfl
    have hq := apA (SX.S (adU fs p k l)) (SX.S yZ)
    rw [SX.S_beq_eq] at hq
    unfold wJ
    by_cases h : adU fs p k l = yZ
    · simp [aa4, e1, e2, apA, SX.S_beq_eq, h]
    · simp [aa4, e1, e2, apA, SX.S_beq_eq, h]
  have sf : ∀ B : Bag, qI (aa4 many g al fs p k n (some (.d (iD l))) (some (.ref (t.length + 1))) (some (.d (.str (SX.S (wJ fs p k l))))) d) (B.vo :: (t ++ [.lst (gs.map iD)])) =
      .nx (aa4 many g al fs p k n (some (.d (iD l))) (some (.ref (t.length + 1))) (some (.d (.str (SX.S (wJ fs p k l))))) d) (B.vo :: List.set (t ++ [.lst (gs.map iD)]) n (.lst (found ++ [.str (SX.S (acU g fs p k l))]))) := fun B => by
    unfold qI
    have hn2 : (B.vo :: (t ++ [.lst (gs.map iD)]))[n + 1]? = some (VO.lst found) := by simp [List.getElem?_append_left hn, ht]
    have hm := fun fa E => aAZ (g := alR) (fa := fa) (e := E) hn2
    have ga : ∀ x : D, alR found [x] = some (.non, found ++ [x]) := fun x => if_pos (Nat.lt_of_le_of_lt hfd (by decide))
    cases g with
    | false => simp [aa4, hm, hn2, ga, acU]
    | true =>
      have h1 := aCA (wJ fs p k l)
      have h2 := aCD (wJ fs p k l)
      cases hw : wJ fs p k l with
      | nil => rw [hw] at wlen; simp at wlen; omega
      | cons q qs =>
        have hu := aAe (wall q (by rw [hw]; exact List.mem_cons_self))
        rw [hw] at h1 h2 wlen
        have hadd := aFZ [q - 32] qs (by simp at wlen ⊢; omega)
        simp at h1 h2 hadd
        simp [aa4, hm, hn2, ga, acU, hw, h1, h2, hu, hadd, aeP, arC]
  rw [← hgs]
  rw [xX, sb, pW, xX, sc, pW, xX, sd, pW, xX, se, pW, sf]
abbrev ay7 (many : W) (g al : Bool) (fs : List Nat) (p n : Nat) : Mn.Env := [some (.ref 0), some many, some (.d (.bl g)), some (.d (.str lets)), some (.d (iD fs.length)), some (.d (iD p)), some (.d (.lst (fs.map iD))), some (.d (.bl al)), some (.ref (n + 1)), none, none, none, none, none]
theorem ap1 {fs : List Nat} {p n : Nat} {many : W} {g al : Bool} (hf : ∀ x ∈ fs, x < 26) (hp : p < fs.length) (h8 : fs.length ≤ 8) :
    ∀ (ks : List Nat) (k0 : Nat) (B : Bag) (t : VH) (found : List D), ks = List.range' k0 ks.length → k0 + ks.length ≤ 1000 → B.ok → t[n]? = some (.lst found) → found.length = k0 →
      ∃ (B' : Bag) (t' : VH) (ls : List Nat), aoD (aeA 9) (aBP [9, 10, 11, 12] (dF qG (dF qM (dF qK (dF qJ (dF qH qI)))))) (ks.map iD)
        (ay7 many g al fs p n) (B.vo :: t) = .nx (ay7 many g al fs p n) (B'.vo :: t') ∧
        B'.ok ∧ ls.length = ks.length ∧ (∀ l ∈ ls, p < l ∧ l ≤ fs.length) ∧ t'[n]? = some (.lst (found ++ (ks.zip ls).map fun q => .str (SX.S (acU g fs p q.1 q.2)))) ∧ t.length ≤ t'.length ∧ t'.take n = t.take n
  | [], k0, B, t, found, _, _, hB, ht, _ => ⟨B, t, [], rfl, hB, rfl, fun _ h => (nomatch h), by simpa using ht, Nat.le_refl _, rfl⟩
  | k :: ks, k0, B, t, found, hks, hz, hB, ht, hfd => by
    have hk : k = k0 ∧ ks = List.range' (k0 + 1) ks.length := by
      rw [List.length_cons, List.range'_succ] at hks
      exact ⟨(List.cons.inj hks).1, (List.cons.inj hks).2⟩
    obtain ⟨rfl, hks'⟩ := hk
    simp only [List.length_cons] at hz
    have hn : n < t.length := by
      rcases Nat.lt_or_ge n t.length with h | h
      · exact h
      · rw [List.getElem?_eq_none h] at ht; cases ht
    obtain ⟨B1, l, row, a1, b1, c1, h1, h2, h3, h4⟩ := au9 (many := many) (g := g) (al := al) (a := none) (b := none) (c := none) (d := none) (k := k) hB hf hp h8 (by omega) ht (by omega)
    have ht1 : (List.set (t ++ [VO.lst row]) n (VO.lst (found ++ [D.str (SX.S (acU g fs p k l))])))[n]? = some (.lst (found ++ [D.str (SX.S (acU g fs p k l))])) := by
      rw [List.getElem?_set_self (by simp; omega)]
    obtain ⟨B2, t2, ls, g1, g2, g3, g4, g5, g6, g7⟩ := ap1 (many := many) (g := g) (al := al) hf hp h8 ks (k + 1) B1 _ _ hks' (by omega) h2 ht1 (by simp [hfd])
    refine ⟨B2, t2, l :: ls, ?_, g2, by simp [g3], fun x hx => ?_, ?_, ?_, ?_⟩
    · simp only [aa4] at h1
      rw [List.map_cons, aBy rfl]
      simp only [ay7, List.set_cons_zero, List.set_cons_succ] at g1 ⊢
      rw [aBA, h1, ay8]
      simp only [ajC, anS, List.set_cons_zero, List.set_cons_succ]
      rw [az1]
      rw [g1]
    · rcases List.mem_cons.mp hx with rfl | hx
      · exact ⟨h3, h4⟩
      · exact g4 x hx
    · rw [g5]; simp
    · simp at g6; omega
    · rw [g7, List.take_set_of_le (Nat.le_refl _), List.take_append_of_le_length (by omega)]

/-! ### what names are good for -/
def small (c : Nat) : Prop := 97 ≤ c ∧ c < 123
/-- the name of a member, or of an interface (g) -/
def aBC (g : Bool) (z : Str) : Prop := ∃ c cs, z = SX.S (c :: cs) ∧ cs.length ≤ 7 ∧ (∀ x ∈ cs, small x) ∧ (if g then 65 ≤ c ∧ c < 91 else small c) ∧ (g = false → c :: cs ≠ yZ)
theorem avZ {fs : List Nat} {p k l : Nat} (hp : p < l) (hl : l ≤ fs.length) : (adU fs p k l)[p]? = some (97 + (fs[p]?.getD 0 + 11 * k) % 26) := by
  unfold adU
  rw [List.getElem?_map, List.getElem?_take_of_lt hp, List.getElem?_set_self (by omega)]
  rfl
theorem aGv {p : Nat} (hp : p < 8) : yZ[p]? = some (if p = 0 then 119 else if p = 1 then 114 else if p = 2 then 105 else if p = 3 then 116 else if p = 4 then 97 else if p = 5 then 98 else if p = 6 then 108 else 101) ∧ cWritablr[p]? = some (if p = 0 then 119 else if p = 1 then 114 else if p = 2 then 105 else if p = 3 then 116 else if p = 4 then 97 else if p = 5 then 98 else if p = 6 then 108 else 114) := by
  match p, hp with
  | 0, _ | 1, _ | 2, _ | 3, _ | 4, _ | 5, _ | 6, _ | 7, _ => exact ⟨by decide +kernel, by decide +kernel⟩
theorem asS {fs : List Nat} {p k k' l l' : Nat} (h8 : fs.length ≤ 8) (hp : p < l) (hl : l ≤ fs.length) (hp' : p < l') (hl' : l' ≤ fs.length) (hk : k < k') (hd : k' ≤ k + 12) : wJ fs p k l ≠ wJ fs p k' l' := by
  intro e
  have a := avZ (k := k) hp hl
  have a' := avZ (k := k') hp' hl'
  obtain ⟨w1, w2⟩ := aGv (p := p) (by omega)
  unfold wJ at e
  split at e
  · rename_i h
    rw [h, w1] at a
    have a := Option.some.inj a
    split at e
    · rename_i h'
      rw [h', w1] at a'
      have a' := Option.some.inj a'
      omega
    · rw [← e, w2] at a'
      have a' := Option.some.inj a'
      rcases (show p = 0 ∨ p = 1 ∨ p = 2 ∨ p = 3 ∨ p = 4 ∨ p = 5 ∨ p = 6 ∨ p = 7 by omega) with q | q | q | q | q | q | q | q <;> subst q <;> simp at a a' <;> omega
  · split at e
    · rename_i h'
      rw [h', w1] at a'
      rw [e, w2] at a
      have a := Option.some.inj a
      have a' := Option.some.inj a'
      have : p ≤ 7 := by omega
      rcases (show p = 0 ∨ p = 1 ∨ p = 2 ∨ p = 3 ∨ p = 4 ∨ p = 5 ∨ p = 6 ∨ p = 7 by omega) with q | q | q | q | q | q | q | q <;> subst q <;> simp at a a' <;> omega
    · rw [e, a'] at a
      have a := Option.some.inj a
      omega
theorem ayN {a b : List Nat} (ha : ∀ x ∈ a, 97 ≤ x) (hb : ∀ x ∈ b, 97 ≤ x) (e : arC a = arC b) : a = b := by
  cases a with
  | nil => cases b with
    | nil => rfl
    | cons y ys => cases e
  | cons x xs => cases b with
    | nil => cases e
    | cons y ys =>
      simp only [arC, List.cons.injEq] at e
      have h1 := ha x List.mem_cons_self
      have h2 := hb y List.mem_cons_self
      rw [e.2, show x = y by omega]
theorem aAt {g : Bool} {fs : List Nat} {p k k' l l' : Nat} (hf : ∀ x ∈ fs, x < 26) (h8 : fs.length ≤ 8) (hp : p < l) (hl : l ≤ fs.length) (hp' : p < l') (hl' : l' ≤ fs.length) (hk : k < k') (hd : k' ≤ k + 12) : acU g fs p k l ≠ acU g fs p k' l' := fun e => by
  unfold acU at e
  cases g with
  | false => exact asS h8 hp hl hp' hl' hk hd (by simpa using e)
  | true => exact asS h8 hp hl hp' hl' hk hd (ayN (fun x h => (ahP hf x h).1) (fun x h => (ahP hf x h).1) (by simpa using e))
theorem aBW {g : Bool} {fs : List Nat} {p k l : Nat} (hf : ∀ x ∈ fs, x < 26) (h8 : fs.length ≤ 8) (hp : p < l) (hl : l ≤ fs.length) : aBC g (SX.S (acU g fs p k l)) := by
  have h1 := ahP (p := p) (k := k) (l := l) hf
  have h2 := asN (p := p) (k := k) hl
  have h3 := aBg (fs := fs) (p := p) (k := k) (l := l)
  unfold acU
  cases hw : wJ fs p k l with
  | nil => rw [hw] at h2; simp at h2; omega
  | cons c cs =>
    rw [hw] at h1 h2 h3
    have hc := h1 c List.mem_cons_self
    simp at h2
    cases g with
    | false => exact ⟨c, cs, rfl, by omega, fun x hx => h1 x (List.mem_cons_of_mem _ hx), hc, fun _ => h3⟩
    | true => exact ⟨c - 32, cs, rfl, by omega, fun x hx => h1 x (List.mem_cons_of_mem _ hx), by simp; omega, fun h => nomatch h⟩
theorem aGp {a b : List Nat} (h : SX.S a = SX.S b) : a = b := by
  have := congrArg (fun z : Str => z.cps.toList) h
  simpa using this
theorem auM {k0 : Nat} : ∀ {ls : List Nat} {i a b : Nat}, ((List.range' k0 ls.length).zip ls)[i]? = some (a, b) → a = k0 + i ∧ b ∈ ls ∧ i < ls.length
  | [], i, a, b, h => by simp at h
  | l :: ls, 0, a, b, h => by
    rw [List.length_cons, List.range'_succ] at h
    simp at h
    obtain ⟨rfl, rfl⟩ := h
    exact ⟨rfl, List.mem_cons_self, by simp⟩
  | l :: ls, i + 1, a, b, h => by
    rw [List.length_cons, List.range'_succ, List.zip_cons_cons, List.getElem?_cons_succ] at h
    obtain ⟨h1, h2, h3⟩ := auM h
    exact ⟨by omega, List.mem_cons_of_mem _ h2, by simp; omega⟩
theorem av7 {g : Bool} {fs ls : List Nat} {p : Nat} (hf : ∀ x ∈ fs, x < 26) (h8 : fs.length ≤ 8) (hl : ∀ l ∈ ls, p < l ∧ l ≤ fs.length) (hm : ls.length ≤ 13) : (((List.range ls.length).zip ls).map fun q => SX.S (acU g fs p q.1 q.2)).Nodup := by
  rw [List.range_eq_range']
  refine List.pairwise_map.mpr (List.pairwise_iff_getElem.mpr fun i j hi hj hij => ?_)
  obtain ⟨a1, a2, a3⟩ := auM (List.getElem?_eq_getElem hi)
  obtain ⟨b1, b2, b3⟩ := auM (List.getElem?_eq_getElem hj)
  simp only [List.get_eq_getElem] at *
  intro e
  exact aAt hf h8 (hl _ a2).1 (hl _ a2).2 (hl _ b2).1 (hl _ b2).2 (by omega) (by omega) (aGp e)
theorem aAE {B : Bag} {rest : VH} {many : Int} {g : Bool} (hB : B.ok) (h0 : 0 ≤ many) (hm : many ≤ 100) (hr : rest.all (aBj (rest.length + 1)) = true) :
    ∃ (B' : Bag) (zs : List Str), aiO rZ [.ref 0, .d (.int many), .d (.bl g)] (B.vo :: rest) = .ok (.d (.lst (zs.map .str))) (B'.vo :: rest) ∧ B'.ok ∧ zs.length = many.toNat ∧ (∀ z ∈ zs, aBC g z) ∧ (many ≤ 13 → zs.Nodup) := by
  obtain ⟨s0, B1, a1, a2, a2', a3⟩ := ao9 (rest := rest) (n := 8) hB (by omega) (by omega)
  obtain ⟨p, B2, b1, b2, b2', b3⟩ := ao9 (rest := rest) (n := 1 + s0) a3 (by omega) (by omega)
  have hr1 := asQ (vh := B2.vo :: rest) (j := 1 + s0) ⟨by omega, by omega⟩
  obtain ⟨xs, vh2, c1, ⟨B3, rfl, c2⟩, c3, c4⟩ := auP (A := aeA 9) (ft := fun _ vh => .ok true vh) (f := aeX) (e := [some (.ref 0), some (.d (.int many)), some (.d (.bl g)), some (.d (.str lets)), some (.d (.int (1 + s0))), some (.d (.int p)), none, none, none, none, none, none, none, none])
    (fun vh => ∃ B : Bag, vh = B.vo :: rest ∧ B.ok) (fun x => ∃ n : Nat, n < 26 ∧ x = iD n) (ds := (List.range (1 + s0).toNat).map fun (i : Nat) => .int (i : Int)) (vh := B2.vo :: rest) (fun d hd vh ⟨B, e, hB⟩ => by
      subst e
      obtain ⟨k, B1, h1, h2, h3⟩ := aA7 (rest := rest) (n := 26) hB (by decide) (by decide)
      have h1' : gA [W.ref 0, W.d (D.int 26)] (B.vo :: rest) = Res.ok (W.d (D.int ↑k)) (B1.vo :: rest) := h1
      exact ⟨_, rfl, rfl, iD k, B1.vo :: rest, by simp [aeX, h1'], ⟨B1, rfl, h3⟩, k, h2, rfl⟩) ⟨B2, rfl, b3⟩
  obtain ⟨fs, rfl, hf⟩ := aBl c4
  have fl : fs.length = (1 + s0).toNat := by simpa using c3
  obtain ⟨q, B4, d1, d2, d2', d3⟩ := ao9 (rest := rest) (n := 2) c2 (by omega) (by omega)
  obtain ⟨B5, t', ls, e1, e2, e3, e4, e5, e6, e7⟩ := ap1 (fs := fs) (p := p.toNat) (n := rest.length) (many := .d (.int many)) (g := g) (al := decide (q = 0)) hf (by omega) (by omega) (List.range many.toNat) 0 B4 (rest ++ [.lst []]) [] (by rw [List.range_eq_range']; simp) (by simp; omega) d3 (by simp) rfl
  have lsl : ls.length = many.toNat := by simpa using e3
  refine ⟨B5, ((List.range ls.length).zip ls).map fun q => SX.S (acU g fs p.toNat q.1 q.2), ?_, e2, by simp [lsl], fun z hz => ?_, fun h13 => av7 hf (by omega) e4 (by omega)⟩
  rotate_left
  · obtain ⟨⟨a, b⟩, hq, rfl⟩ := List.mem_map.mp hz
    have hb := e4 b (List.of_mem_zip hq).2
    exact aBW hf (by omega) hb.1 hb.2
  have main : rZ [.ref 0, .d (.int many), .d (.bl g)] (B.vo :: rest) = .ok (.ref (rest.length + 1)) (B5.vo :: t') := by
    unfold rZ
    rw [awG (np := 3) (by rfl)]
    have e0 : yH 3 14 [W.ref 0, .d (.int many), .d (.bl g)] = [some (.ref 0), some (.d (.int many)), some (.d (.bl g)), none, none, none, none, none, none, none, none, none, none, none] := rfl
    have hr2 := asQ (vh := B4.vo :: (rest ++ [VO.lst []])) (j := many) ⟨by omega, by omega⟩
    have hlc := asW (xs := fs.map iD) (vh := B3.vo :: rest) (by simp; omega)
    have hp : (p.toNat : Int) = p := by omega
    have hs : ((fs.length : Nat) : Int) = 1 + s0 := by omega
    simp only [ay7, iD, hp, hs] at e1
    have sz : Mn.sizeOk 0 = id := by funext r; exact if_pos (Nat.zero_le _)
    rw [e0]
    simp -implicitDefEqProofs only [agT, xX, aiJ, apV, aAA, amL, List.set_cons_zero, List.set_cons_succ, pW, aiI, aAW, ae4, aeC, ag9, agJ, List.getElem?_cons_zero, List.getElem?_cons_succ, wF, abD, ao6, a1, aAH, ak5, Mn.add_int,
      aiN, b1, aiK, aAJ, asZ, hr1, ajC, anS, c1, hlc, aiQ, d1, alO, aiF, azR, as4, List.length_nil, sz, id, aiH, az4, List.length_cons, List.cons_append, hr2]
    rw [e1]
    rfl
  have htl : rest.length < t'.length := by simp at e6; omega
  have htk : t'.take rest.length = rest := by rw [e7]; simp
  unfold aiO
  rw [main]
  simp only [List.length_cons]
  have tm : anO (rest.length + 1) (B5.vo :: t') = true := by
    unfold anO
    rw [List.take_succ_cons, htk, List.all_cons, hr]; rfl
  rw [if_pos ⟨by omega, tm⟩]
  have hz : aCu (rest.length + 1) (B5.vo :: t') (.ref (rest.length + 1)) = some (.d (.lst ((((List.range ls.length).zip ls).map fun q => SX.S (acU g fs p.toNat q.1 q.2)).map .str))) := by
    simp [aCu, e5, lsl]
  rw [hz, List.take_succ_cons, htk]
  rfl
/-! ### the same, the bag -/
theorem aAS {vh : VH} {w1 w2 : W} {d : D} {z : Str} (h1 : see vh w1 = some d) (h2 : see vh w2 = some d) (hz : af3 [d] = some (.str z)) : ac2 [w1, w2] vh = .ok (.d (.bl true)) vh := by
  unfold ac2
  rw [awG (np := 2) (by rfl)]
  have e0 : yH 2 2 [w1, w2] = [some w1, some w2] := rfl
  rw [e0]
  unfold ai7 alS
  simp -implicitDefEqProofs only [aAK, aAW, aBT, aeC, ag9, agJ, List.getElem?_cons_zero, List.getElem?_cons_succ, wF, abD, as6, avC, h1, h2, Option.bind_some, Option.map_some, ak5, hz, aAH, apA, beq_self_eq_true, amL, avA]
theorem aEE {ns : List Int} (h : ns.length ≤ 63) : ∃ B : Bag, ae8 [.d (.frz (ns.map D.int))] [] = .ok (.ref 0) [B.vo] ∧ B.ok := by
  refine ⟨⟨ns, 0, 0, 60289, 0⟩, ?_, by simp only; omega, by simp only; omega, by simp only; omega, h⟩
  unfold ae8
  rw [awG (np := 1) (by rfl)]
  have e0 : yH 1 1 [W.d (.frz (ns.map D.int))] = [some (.d (.frz (ns.map D.int)))] := rfl
  rw [e0]
  unfold am9 an5
  have hs : dSl (.frz (ns.map D.int)) none (some 63) = some (.lst (ns.map D.int)) := by
    have h1 : HT.sIx (ns.map D.int).length 0 none = 0 := rfl
    have h2 : HT.sIx (ns.map D.int).length (ns.map D.int).length (some 63) = ns.length := by simp [HT.sIx]; omega
    simp only [dSl, Mn.cutD, h1, h2, List.drop_zero]
    rw [Nat.sub_zero, List.take_of_length_le (by simp)]
  simp [hs, Mn.sizeOk, sizeLine, avH, af0, Bag.vo]
/-! ### k65: the law -/
theorem aBI {i : Nat} (h : i ≤ 1000) : Fine 10 0 (.int i) := by
  have z : (List.range 1001).all (fun i => decide ((PyData.int (i : Nat)).shown.length ≤ 13 ∧ (PyData.int (i : Nat)).weight ≤ 10 ∧ (PyData.int (i : Nat)).showable = true)) = true := by decide +kernel
  have := of_decide_eq_true (List.all_eq_true.mp z i (List.mem_range.mpr (by omega)))
  exact ⟨.int i, rfl, this.2.2, Nat.le_refl _, this.2.1, decide_eq_true this.1⟩
theorem aAi {n h : Nat} {ds : List D} (f : Fine n h (.lst ds)) (hn : n ≤ 1048576) (hh : h ≤ 60) : ∃ z, af3 [.lst ds] = some (.str z) := by
  obtain ⟨p, h1, h2, h3, h4, h5⟩ := f
  refine ⟨p.shown, ?_⟩
  simp only [af3, h1]
  exact if_pos ⟨⟨h2, by omega, by omega, h5⟩, rfl⟩
def amC (a b : Str) (m : Nat) : List Mn.D :=
  [.exc "InvalidName" (xO [.str a]), .exc "DuplicateName" (sW [.str a]), .exc "InvalidMember" (tK [.int (m : Nat)]), .exc "TooMany" (afF [.int (m : Nat)]), .exc "InvalidMode" (wZ []),
   .exc "InvalidStatement" (oM [.int (m : Nat)]), .exc "NotConforming" (sX [.str a, .str b]), .exc "Conforms" (ad9 [.str a, .str b]), .exc "InvalidBrand" (vG [.str a]),
   .exc "TooWide" (afJ [.int (m : Nat)]), .exc "InvalidText" (xJ [.int (m : Nat)]), .exc "InvalidCommand" (rF []), .exc "InUse" (alA [.str a]), .exc "Aborted" (afP [.int (m : Nat), .str b]),
   .exc "UnknownInterface" (oO [.str a]), .exc "UnknownMember" (tR [.str a]), .exc "UnknownVariable" (pP [.str a]), .exc "NothingLeft" (yD [])]
def agO (a b : Str) (m : Nat) : List Mn.D :=
  [.tup [.str a], .tup [.str a], .tup [.int (m : Nat)], .tup [.int (m : Nat)], .tup [], .tup [.int (m : Nat)], .tup [.str a, .str b], .tup [.str a, .str b], .tup [.str a], .tup [.int (m : Nat)], .tup [.int (m : Nat)], .tup [],
   .tup [.str a], .tup [.int (m : Nat), .str b], .tup [.str a], .tup [.str a], .tup [.str a], .tup []]
def ar5 : Str := Str.ofString "InvalidName DuplicateName InvalidMember TooMany InvalidMode InvalidStatement NotConforming Conforms InvalidBrand TooWide InvalidText InvalidCommand InUse Aborted UnknownInterface UnknownMember UnknownVariable NothingLeft"
abbrev yI (s : W) (a b : Str) (m : Nat) (z5 z6 z7 : Option W) : Mn.Env := [some s, some (.ref 0), some (.d (.str a)), some (.d (.str b)), some (.d (.int (m : Nat))), z5, z6, z7, none, none, none]
section
variable {s : W} {a b : Str} {m : Nat} {V : VH}
theorem aDG : dF alE (dF alB (dF akR alP)) (yI s a b m none none none) V = .nx (yI s a b m (some (.d (.lst (amC a b m)))) none none) V := by rfl
theorem aEI : az7 (yI s a b m (some (.d (.lst (amC a b m)))) (some (.d (.str ar5))) none) V = .nx (yI s a b m (some (.d (.lst (amC a b m)))) (some (.d (.str ar5))) none) V := by kernel_rfl
theorem aDZ : mLc false (apL (bD 5)) (aeA 9) (fun _ vh => .ok true vh) (ay6) [9] (yI s a b m (some (.d (.lst (amC a b m)))) (some (.d (.str ar5))) (some (.d (.lst (agO a b m))))) V = .ok (.d (.lst (agO a b m))) V := by kernel_rfl
theorem aFq : aAa (yI s a b m (some (.d (.lst (amC a b m)))) (some (.d (.str ar5))) (some (.d (.lst (agO a b m))))) V = .nx (yI s a b m (some (.d (.lst (amC a b m)))) (some (.d (.str ar5))) (some (.d (.lst (agO a b m))))) V := by kernel_rfl
end
theorem aDN {a b : Str} {m : Nat} (ha : a.length ≤ 8) (hb : b.length ≤ 8) (hm : m < 1000) : ∀ d ∈ agO a b m, Fine 40 1 d := by
  have fa : Fine 10 0 (.str a) := (av8 a).mono (by omega) (Nat.le_refl _)
  have fb : Fine 10 0 (.str b) := (av8 b).mono (by omega) (Nat.le_refl _)
  have fm : Fine 10 0 (.int (m : Nat)) := (aBI (by omega))
  have t0 : Fine 40 1 (.tup []) := (aqX (n := 10) (h := 0) (ds := []) fun d hd => nomatch hd).mono (by decide) (by decide)
  have t1 : ∀ x, Fine 10 0 x → Fine 40 1 (.tup [x]) := fun x hx => (aqX (n := 10) (h := 0) (ds := [x]) fun d hd => by cases List.mem_singleton.mp hd; exact hx).mono (by show 1 * 11 ≤ 40; decide) (Nat.le_refl _)
  have t2 : ∀ x y, Fine 10 0 x → Fine 10 0 y → Fine 40 1 (.tup [x, y]) := fun x y hx hy => (aqX (n := 10) (h := 0) (ds := [x, y]) fun d hd => by
    simp only [List.mem_cons, List.not_mem_nil, or_false] at hd
    rcases hd with rfl | rfl
    · exact hx
    · exact hy).mono (by show 2 * 11 ≤ 40; decide) (Nat.le_refl _)
  intro d hd
  unfold agO at hd
  simp only [List.mem_cons, List.not_mem_nil, or_false] at hd
  rcases hd with rfl | rfl | rfl | rfl | rfl | rfl | rfl | rfl | rfl | rfl | rfl | rfl | rfl | rfl | rfl | rfl | rfl | rfl
  all_goals first | exact t0 | exact t1 _ fa | exact t1 _ fm | exact t2 _ _ fa fb | exact t2 _ _ fm fb
theorem law_true : ∀ ns : List Int, ns.length ≤ 63 → ∃ vh, f_law [.d (.frz (ns.map D.int))] [] = .ok (.d (.bl true)) vh := by
  intro ns hns
  obtain ⟨B0, hb, b1⟩ := aEE hns
  obtain ⟨s, hse⟩ : ∃ s, s = W.d (.frz (ns.map D.int)) := ⟨_, rfl⟩
  obtain ⟨B1, zs, n1, n2, n3, n4, _⟩ := aAE (rest := []) (many := 2) (g := true) b1 (by decide) (by decide) rfl
  obtain ⟨a, b, rfl⟩ : ∃ a b, zs = [a, b] := by match zs, n3 with | [a, b], _ => exact ⟨a, b, rfl⟩
  have la : ∀ z ∈ [a, b], z.length ≤ 8 := fun z hz => by
    obtain ⟨c, cs, rfl, h7, _⟩ := n4 z hz
    show (c :: cs).length ≤ 8
    simp only [List.length_cons]
    omega
  obtain ⟨m, B2, m1, m2, m3⟩ := aA7 (rest := []) (n := 999) n2 (by decide) (by decide)
  obtain ⟨z, hz⟩ := aAi (aAN (aDN (la a (by simp)) (la b (by simp)) (show m < 1000 by omega))) (by show 18 * 41 ≤ 1048576; decide) (by decide)
  have sm := aAS (vh := [B2.vo]) (w1 := .d (.lst (agO a b m))) (w2 := .d (.lst (agO a b m))) rfl rfl hz
  have m1 : gA [.ref 0, .d (.int 999)] [B1.vo] = .ok (.d (.int (m : Nat))) [B2.vo] := m1
  refine ⟨[B2.vo], ?_⟩
  unfold f_law
  rw [awG (np := 1) (by rfl)]
  have e0 : yH 1 11 [W.d (.frz (ns.map D.int))] = [some s, none, none, none, none, none, none, none, none, none, none] := by rw [hse]; rfl
  rw [e0]
  have t1 : at5 [some s, none, none, none, none, none, none, none, none, none, none] [] = .nx [some s, some (.ref 0), none, none, none, none, none, none, none, none, none] [B0.vo] := by
    rw [hse]
    unfold at5
    simp -implicitDefEqProofs only [apV, ae4, aeC, ag9, aAA, agJ, List.getElem?_cons_zero, List.getElem?_cons_succ, wF, abD, azK, hb, amL, List.set_cons_zero, List.set_cons_succ]
  have t2 : atO [some s, some (.ref 0), none, none, none, none, none, none, none, none, none] [B0.vo] = .nx [some s, some (.ref 0), some (.d (.str a)), some (.d (.str b)), none, none, none, none, none, none, none] [B1.vo] := by
    have hf : yU (sJ 3 (aiO rZ)) (aK (bD 1) (aK (mC (.int 2)) (aK (mC (.bl true)) (cI)))) (cI) [some s, some (.ref 0), none, none, none, none, none, none, none, none, none] [B0.vo] = .ok (.d (.lst [.str a, .str b])) [B1.vo] := by
      simp -implicitDefEqProofs only [ae4, aeC, ag9, aAA, agJ, List.getElem?_cons_zero, List.getElem?_cons_succ, wF, abD, azS]
      exact n1
    unfold atO aBS
    rw [hf]
    rfl
  have t3 : auK [some s, some (.ref 0), some (.d (.str a)), some (.d (.str b)), none, none, none, none, none, none, none] [B1.vo] = .nx (yI s a b m none none none) [B2.vo] := by
    unfold auK
    simp -implicitDefEqProofs only [apV, ae4, aeC, ag9, aAA, agJ, List.getElem?_cons_zero, List.getElem?_cons_succ, wF, abD, ao6, m1, amL, List.set_cons_zero, List.set_cons_succ]
  have t4 : ∀ K, dF alE (dF alB (dF akR (dF alP K))) (yI s a b m none none none) [B2.vo] = K (yI s a b m (some (.d (.lst (amC a b m)))) none none) [B2.vo] := fun K => by
    have := aDG (s := s) (a := a) (b := b) (m := m) (V := [B2.vo])
    have e : dF alE (dF alB (dF akR (dF alP K))) (yI s a b m none none none) [B2.vo] = auH (dF alE (dF alB (dF akR alP)) (yI s a b m none none none) [B2.vo]) K := by rfl
    rw [e, this, pW]
  have t5 : ∀ K, dF azW (dF azG (dF ay5 K)) (yI s a b m (some (.d (.lst (amC a b m)))) none none) [B2.vo] = K (yI s a b m (some (.d (.lst (amC a b m)))) (some (.d (.str ar5))) none) [B2.vo] := fun K => by rfl
  have t6 : ∀ K, dF azE (dF az5 K) (yI s a b m (some (.d (.lst (amC a b m)))) (some (.d (.str ar5))) none) [B2.vo] = K (yI s a b m (some (.d (.lst (amC a b m)))) (some (.d (.str ar5))) (some (.d (.lst (agO a b m))))) [B2.vo] := fun K => by rfl
  have t7 : auF (yI s a b m (some (.d (.lst (amC a b m)))) (some (.d (.str ar5))) (some (.d (.lst (agO a b m))))) [B2.vo] = .nx (yI s a b m (some (.d (.lst (amC a b m)))) (some (.d (.str ar5))) (some (.d (.lst (agO a b m))))) [B2.vo] := by
    unfold auF
    simp -implicitDefEqProofs only [aA0, azV, azC, ae4, aeC, ag9, aDZ, abD]
    simp -implicitDefEqProofs only [agJ, List.getElem?_cons_zero, List.getElem?_cons_succ, wF, abD, ao6, sm, aBN, Bool.not_true, Bool.false_eq_true, if_false, ayY, amL]
  unfold aBQ ayX
  rw [xX, t1, pW, xX, t2, pW, xX, t3, pW, t4, t5, xX, aEI, pW, t6, xX, t7, pW, xX, aFq, pW]
  rfl
end Law

open PySem PySem.W PyProof.Rows
section
local macro_rules
  | `(tactic| kernel_rfl) => `(tactic| first | (refine (show @Eq (Option (Bool × _ × _)) _ _ from ?_); exact Hd.all _ _) | kernel_rfl!)
set_option maxRecDepth 100000 in
set_option maxHeartbeats 0 in
theorem PySem.Challenge.cw_unmeant_k65_errors_made_by_hand_holds : PySem.Challenge.rw_unmeant_k65_errors_made_by_hand.Holds := by
  w_on; o_law; k_headL; (case hw => w_witness2)
  k_fill
  refine' Mn.walk_end (TL := ⟨[]⟩) (l := PySem.Challenge.rw_unmeant_k65_errors_made_by_hand) (n := 63) (k := 4) (x := "_law_script") (F := Law.f_law) rfl (by decide) rfl ⟨rfl, by decide, by decide⟩ (fun w h Y => PySem.W.kIn_of Y) ?F Law.law_true
  case F =>
    intro w mg fa h Y KX G hmg
    refine' Law.all (TL := _) _ mg KX G hmg ?no_IndexError ?no_LookupError ?no_ValueError ?no_int ?no_isinstance ?no_len ?no_list ?no_range ?no_repr ?ik1 ?ik2 ?al5 ?am3 ?aiX ?ai5 ?ajK ?akM ?agM ?ahK ?ajS ?akH ?ahB ?agW ?agI ?ahA ?afX ?afG ?afH ?afQ ?aeO ?aeY ?aBX ?aA3 ?axT ?ayB ?acW ?aeK ?ac9 ?aeL ?aa8 ?acR ?xQ ?af9 ?acG ?ab5 ?vH ?af7 ?ab1 ?abS ?abU ?jB ?adT ?aeZ ?adA ?acI ?acP ?adM ?adZ ?acS ?ad3 ?ad7 ?adY ?adS ?abF ?qN ?ajI ?am4 ?ajF ?ai0 ?aj9 ?akA ?ajM ?ajY ?ajR ?akC ?ajB ?ai9 ?ahE ?dZ ?yJ ?ab2 ?aaQ ?zU ?aaW ?zL ?yN ?zH ?aaJ ?zJ ?yL ?yX ?xW ?d8 ?aaV ?abY ?zY ?aaA ?aaZ ?aaG ?zA ?aaB ?zP ?aaT ?zG ?aaN ?wY ?fH ?ad1 ?aeQ ?ad2 ?ac4 ?acM ?ac0 ?adD ?ad0 ?adX ?adJ ?adE ?ac6 ?abN ?eY ?ab0 ?acK ?abA ?abH ?abK ?abV ?abE ?abI ?ab4 ?abT ?abL ?ab7 ?yS ?mD ?agC ?akJ ?ag8 ?ahC ?ag4 ?ag1 ?agK ?ahL ?ahH ?agN ?agZ ?agV ?afW ?dJ ?aaM ?abZ ?aaC ?yO ?aaE ?yM ?aaD ?yV ?zQ ?aaU ?aaF ?zX ?wW ?cW ?uM ?vW ?uK ?uD ?uG ?uE ?uN ?uX ?t8 ?uR ?uA ?uC ?rR ?oX ?ajU ?amZ ?aj0 ?akB ?akL ?ajV ?aiR ?ajW ?ai4 ?aj6 ?aiY ?ajT ?ahN ?aa0 ?apM ?atG ?aqL ?ar3 ?aqT ?aqA ?aqU ?apJ ?arS ?apS ?arY ?apR ?amR ?eO ?xP ?aaS ?wR ?xG ?wV ?xV ?wX ?w6 ?xK ?yE ?wU ?xZ ?vL ?fK ?adK ?aeT ?acX ?adB ?acZ ?ad4 ?ac7 ?acV ?acL ?acQ ?acN ?adG ?abB ?qO ?aiU ?anV ?aj1 ?ajG ?ai6 ?aj7 ?ajN ?aiS ?ajE ?akK ?ajP ?aj3 ?agP ?jA ?adQ ?aeR ?adL ?acT ?adP ?adH ?adF ?ac8 ?adN ?adW ?ad6 ?ac5 ?abR ?ahS ?ar0 ?amX ?ajH ?afS ?apI ?ajZ ?aj2 ?aj8 ?dC ?vY ?xU ?vX ?wA ?vN ?v7 ?vP ?v4 ?vZ ?vO ?vM ?v8 ?uQ ?d7 ?zV ?aa9 ?yR ?yK ?zE ?zK ?aaL ?zW ?aaO ?aaK ?yP ?aaY ?wQ ?cV ?uY ?v9 ?uW ?uB ?uI ?tZ ?uU ?tX ?tY ?u5 ?tW ?uH ?sH ?cC ?u6 ?kJ ?jX ?jU ?pZ ?nH ?lN ?mG ?mX ?dI ?aa7 ?ab3 ?rW ?sS ?sO ?vQ ?qT ?oZ ?qD ?qW ?bQ ?pU ?rB ?gQ ?fW ?fY ?oA ?lL ?jF ?j6 ?lG ?bM ?qU ?rA ?gG ?gD ?gH ?nQ ?lM ?jH ?jT ?lV ?bW ?u9 ?uJ ?lD ?jV ?lB ?pK ?nD ?lF ?mK ?mZ ?bT ?sE ?rN ?iV ?iK ?iU ?o5 ?mJ ?kY ?lO ?mU ?cU ?xM ?abW ?yW ?pH ?pG ?pX ?uV ?qC ?oG ?oW ?o9 ?bG ?o7 ?sV ?rC ?gJ ?gR ?fZ ?nY ?lX ?jP ?jY ?lQ ?aW ?pB ?nZ ?dO ?dY ?dU ?lU ?iT ?fQ ?gY ?iY ?dB ?ae2 ?acJ ?abQ ?rM ?rO ?sG ?vR ?rD ?oU ?pN ?qX ?fL ?ag6 ?aeU ?aaX ?yQ ?aaI ?zF ?uL ?qZ ?rY ?uP ?bK ?pF ?fB ?fD ?fG ?nJ ?j9 ?iW ?jM ?lC ?bY ?uO ?uF ?j7 ?jZ ?j5 ?pJ ?m7 ?lK ?mO ?nA ?dG ?aa6 ?abO ?rP ?rJ ?rK ?vK ?qQ ?oR ?pQ ?qR ?cG ?uZ ?kZ ?jW ?lA ?o8 ?mY ?lY ?mV ?m9 ?bB ?oV ?oY ?eV ?eU ?eX ?mF ?jG ?g8 ?iQ ?jN ?bO ?qY ?qP ?fX ?gM ?fU ?nR ?lJ ?jO ?j8 ?lH ?aX ?oH ?oJ ?dX ?dW ?dR ?lW ?iH ?fM ?iG ?iJ ?tT ?tU
    (case no_IndexError => k_is)
    (case no_LookupError => k_is)
    (case no_ValueError => k_is)
    (case no_int => k_is)
    (case no_isinstance => k_is)
    (case no_len => k_is)
    (case no_list => k_is)
    (case no_range => k_is)
    (case no_repr => k_is)
    (case ik1 => kernel_rfl)
    (case ik2 => kernel_rfl)
    (case al5 => k_is)
    (case am3 => k_is)
    (case aiX => k_is)
    (case ai5 => k_is)
    (case ajK => k_is)
    (case akM => k_is)
    (case agM => k_is)
    (case ahK => k_is)
    (case ajS => k_is)
    (case akH => k_is)
    (case ahB => k_is)
    (case agW => k_is)
    (case agI => k_is)
    (case ahA => k_is)
    (case afX => k_is)
    (case afG => k_is)
    (case afH => k_is)
    (case afQ => k_is)
    (case aeO => k_is)
    (case aeY => k_is)
    (case aBX => k_is)
    (case aA3 => k_is)
    (case axT => k_is)
    (case ayB => k_is)
    (case acW => k_is)
    (case aeK => k_is)
    (case ac9 => k_is)
    (case aeL => k_is)
    (case aa8 => k_is)
    (case acR => k_is)
    (case xQ => k_is)
    (case af9 => k_is)
    (case acG => k_is)
    (case ab5 => k_is)
    (case vH => k_is)
    (case af7 => k_is)
    (case ab1 => k_is)
    (case abS => k_is)
    (case abU => k_is)
    (case jB => k_is)
    (case adT => k_is)
    (case aeZ => k_is)
    (case adA => k_is)
    (case acI => k_is)
    (case acP => kernel_rfl)
    (case adM => kernel_rfl)
    (case adZ => k_is)
    (case acS => k_is)
    (case ad3 => k_is)
    (case ad7 => k_is)
    (case adY => k_is)
    (case adS => k_is)
    (case abF => kernel_rfl)
    (case qN => k_is)
    (case ajI => k_is)
    (case am4 => k_is)
    (case ajF => k_is)
    (case ai0 => k_is)
    (case aj9 => kernel_rfl)
    (case akA => kernel_rfl)
    (case ajM => k_is)
    (case ajY => k_is)
    (case ajR => k_is)
    (case akC => k_is)
    (case ajB => k_is)
    (case ai9 => k_is)
    (case ahE => kernel_rfl)
    (case dZ => k_is)
    (case yJ => k_is)
    (case ab2 => k_is)
    (case aaQ => k_is)
    (case zU => k_is)
    (case aaW => kernel_rfl)
    (case zL => kernel_rfl)
    (case yN => k_is)
    (case zH => k_is)
    (case aaJ => k_is)
    (case zJ => k_is)
    (case yL => k_is)
    (case yX => k_is)
    (case xW => kernel_rfl)
    (case d8 => k_is)
    (case aaV => k_is)
    (case abY => k_is)
    (case zY => k_is)
    (case aaA => k_is)
    (case aaZ => kernel_rfl)
    (case aaG => kernel_rfl)
    (case zA => k_is)
    (case aaB => k_is)
    (case zP => k_is)
    (case aaT => k_is)
    (case zG => k_is)
    (case aaN => k_is)
    (case wY => kernel_rfl)
    (case fH => k_is)
    (case ad1 => k_is)
    (case aeQ => k_is)
    (case ad2 => k_is)
    (case ac4 => k_is)
    (case acM => kernel_rfl)
    (case ac0 => kernel_rfl)
    (case adD => k_is)
    (case ad0 => k_is)
    (case adX => k_is)
    (case adJ => k_is)
    (case adE => k_is)
    (case ac6 => k_is)
    (case abN => kernel_rfl)
    (case eY => k_is)
    (case ab0 => k_is)
    (case acK => k_is)
    (case abA => k_is)
    (case abH => k_is)
    (case abK => kernel_rfl)
    (case abV => kernel_rfl)
    (case abE => k_is)
    (case abI => k_is)
    (case ab4 => k_is)
    (case abT => k_is)
    (case abL => k_is)
    (case ab7 => k_is)
    (case yS => kernel_rfl)
    (case mD => k_is)
    (case agC => k_is)
    (case akJ => k_is)
    (case ag8 => k_is)
    (case ahC => k_is)
    (case ag4 => kernel_rfl)
    (case ag1 => kernel_rfl)
    (case agK => k_is)
    (case ahL => k_is)
    (case ahH => k_is)
    (case agN => k_is)
    (case agZ => k_is)
    (case agV => k_is)
    (case afW => kernel_rfl)
    (case dJ => k_is)
    (case aaM => k_is)
    (case abZ => k_is)
    (case aaC => k_is)
    (case yO => k_is)
    (case aaE => kernel_rfl)
    (case yM => kernel_rfl)
    (case aaD => k_is)
    (case yV => k_is)
    (case zQ => k_is)
    (case aaU => k_is)
    (case aaF => k_is)
    (case zX => k_is)
    (case wW => kernel_rfl)
    (case cW => k_is)
    (case uM => k_is)
    (case vW => k_is)
    (case uK => k_is)
    (case uD => k_is)
    (case uG => kernel_rfl)
    (case uE => kernel_rfl)
    (case uN => k_is)
    (case uX => k_is)
    (case t8 => k_is)
    (case uR => k_is)
    (case uA => k_is)
    (case uC => k_is)
    (case rR => kernel_rfl)
    (case oX => k_is)
    (case ajU => k_is)
    (case amZ => k_is)
    (case aj0 => k_is)
    (case akB => k_is)
    (case akL => kernel_rfl)
    (case ajV => kernel_rfl)
    (case aiR => k_is)
    (case ajW => k_is)
    (case ai4 => k_is)
    (case aj6 => k_is)
    (case aiY => k_is)
    (case ajT => k_is)
    (case ahN => kernel_rfl)
    (case aa0 => k_is)
    (case apM => k_is)
    (case atG => k_is)
    (case aqL => k_is)
    (case ar3 => k_is)
    (case aqT => kernel_rfl)
    (case aqA => kernel_rfl)
    (case aqU => k_is)
    (case apJ => k_is)
    (case arS => k_is)
    (case apS => k_is)
    (case arY => k_is)
    (case apR => k_is)
    (case amR => kernel_rfl)
    (case eO => k_is)
    (case xP => k_is)
    (case aaS => k_is)
    (case wR => k_is)
    (case xG => k_is)
    (case wV => kernel_rfl)
    (case xV => kernel_rfl)
    (case wX => k_is)
    (case w6 => k_is)
    (case xK => k_is)
    (case yE => k_is)
    (case wU => k_is)
    (case xZ => k_is)
    (case vL => kernel_rfl)
    (case fK => k_is)
    (case adK => k_is)
    (case aeT => k_is)
    (case acX => k_is)
    (case adB => k_is)
    (case acZ => kernel_rfl)
    (case ad4 => kernel_rfl)
    (case ac7 => k_is)
    (case acV => k_is)
    (case acL => k_is)
    (case acQ => k_is)
    (case acN => k_is)
    (case adG => k_is)
    (case abB => kernel_rfl)
    (case qO => k_is)
    (case aiU => k_is)
    (case anV => k_is)
    (case aj1 => k_is)
    (case ajG => k_is)
    (case ai6 => kernel_rfl)
    (case aj7 => kernel_rfl)
    (case ajN => k_is)
    (case aiS => k_is)
    (case ajE => k_is)
    (case akK => k_is)
    (case ajP => k_is)
    (case aj3 => k_is)
    (case agP => kernel_rfl)
    (case jA => k_is)
    (case adQ => k_is)
    (case aeR => k_is)
    (case adL => k_is)
    (case acT => k_is)
    (case adP => kernel_rfl)
    (case adH => kernel_rfl)
    (case adF => k_is)
    (case ac8 => k_is)
    (case adN => k_is)
    (case adW => k_is)
    (case ad6 => k_is)
    (case ac5 => k_is)
    (case abR => kernel_rfl)
    (case ahS => k_is)
    (case ar0 => k_is)
    (case amX => k_is)
    (case ajH => k_is)
    (case afS => k_is)
    (case apI => k_is)
    (case ajZ => k_is)
    (case aj2 => k_is)
    (case aj8 => k_is)
    (case dC => k_is)
    (case vY => k_is)
    (case xU => k_is)
    (case vX => k_is)
    (case wA => k_is)
    (case vN => kernel_rfl)
    (case v7 => kernel_rfl)
    (case vP => k_is)
    (case v4 => k_is)
    (case vZ => k_is)
    (case vO => k_is)
    (case vM => k_is)
    (case v8 => k_is)
    (case uQ => kernel_rfl)
    (case d7 => k_is)
    (case zV => k_is)
    (case aa9 => k_is)
    (case yR => k_is)
    (case yK => k_is)
    (case zE => kernel_rfl)
    (case zK => kernel_rfl)
    (case aaL => k_is)
    (case zW => k_is)
    (case aaO => k_is)
    (case aaK => k_is)
    (case yP => k_is)
    (case aaY => k_is)
    (case wQ => kernel_rfl)
    (case cV => k_is)
    (case uY => k_is)
    (case v9 => k_is)
    (case uW => k_is)
    (case uB => k_is)
    (case uI => kernel_rfl)
    (case tZ => kernel_rfl)
    (case uU => k_is)
    (case tX => k_is)
    (case tY => k_is)
    (case u5 => k_is)
    (case tW => k_is)
    (case uH => k_is)
    (case sH => kernel_rfl)
    (case cC => kernel_rfl)
    (case u6 => k_is)
    (case kJ => kernel_rfl)
    (case jX => k_is)
    (case jU => k_is)
    (case pZ => kernel_rfl)
    (case nH => kernel_rfl)
    (case lN => kernel_rfl)
    (case mG => kernel_rfl)
    (case mX => kernel_rfl)
    (case dI => kernel_rfl)
    (case aa7 => k_is)
    (case ab3 => k_is)
    (case rW => kernel_rfl)
    (case sS => k_is)
    (case sO => k_is)
    (case vQ => kernel_rfl)
    (case qT => kernel_rfl)
    (case oZ => kernel_rfl)
    (case qD => kernel_rfl)
    (case qW => kernel_rfl)
    (case bQ => kernel_rfl)
    (case pU => k_is)
    (case rB => k_is)
    (case gQ => kernel_rfl)
    (case fW => k_is)
    (case fY => k_is)
    (case oA => kernel_rfl)
    (case lL => kernel_rfl)
    (case jF => kernel_rfl)
    (case j6 => kernel_rfl)
    (case lG => kernel_rfl)
    (case bM => kernel_rfl)
    (case qU => k_is)
    (case rA => k_is)
    (case gG => kernel_rfl)
    (case gD => k_is)
    (case gH => k_is)
    (case nQ => kernel_rfl)
    (case lM => kernel_rfl)
    (case jH => kernel_rfl)
    (case jT => kernel_rfl)
    (case lV => kernel_rfl)
    (case bW => kernel_rfl)
    (case u9 => k_is)
    (case uJ => k_is)
    (case lD => kernel_rfl)
    (case jV => k_is)
    (case lB => k_is)
    (case pK => kernel_rfl)
    (case nD => kernel_rfl)
    (case lF => kernel_rfl)
    (case mK => kernel_rfl)
    (case mZ => kernel_rfl)
    (case bT => kernel_rfl)
    (case sE => k_is)
    (case rN => k_is)
    (case iV => kernel_rfl)
    (case iK => k_is)
    (case iU => k_is)
    (case o5 => kernel_rfl)
    (case mJ => kernel_rfl)
    (case kY => kernel_rfl)
    (case lO => kernel_rfl)
    (case mU => kernel_rfl)
    (case cU => kernel_rfl)
    (case xM => k_is)
    (case abW => k_is)
    (case yW => k_is)
    (case pH => kernel_rfl)
    (case pG => k_is)
    (case pX => k_is)
    (case uV => kernel_rfl)
    (case qC => kernel_rfl)
    (case oG => kernel_rfl)
    (case oW => kernel_rfl)
    (case o9 => kernel_rfl)
    (case bG => kernel_rfl)
    (case o7 => k_is)
    (case sV => k_is)
    (case rC => k_is)
    (case gJ => kernel_rfl)
    (case gR => k_is)
    (case fZ => k_is)
    (case nY => kernel_rfl)
    (case lX => kernel_rfl)
    (case jP => kernel_rfl)
    (case jY => kernel_rfl)
    (case lQ => kernel_rfl)
    (case aW => kernel_rfl)
    (case pB => k_is)
    (case nZ => k_is)
    (case dO => kernel_rfl)
    (case dY => k_is)
    (case dU => k_is)
    (case lU => kernel_rfl)
    (case iT => kernel_rfl)
    (case fQ => kernel_rfl)
    (case gY => kernel_rfl)
    (case iY => kernel_rfl)
    (case dB => kernel_rfl)
    (case ae2 => k_is)
    (case acJ => k_is)
    (case abQ => k_is)
    (case rM => kernel_rfl)
    (case rO => k_is)
    (case sG => k_is)
    (case vR => kernel_rfl)
    (case rD => kernel_rfl)
    (case oU => kernel_rfl)
    (case pN => kernel_rfl)
    (case qX => kernel_rfl)
    (case fL => kernel_rfl)
    (case ag6 => k_is)
    (case aeU => k_is)
    (case aaX => kernel_rfl)
    (case yQ => k_is)
    (case aaI => k_is)
    (case zF => kernel_rfl)
    (case uL => kernel_rfl)
    (case qZ => kernel_rfl)
    (case rY => kernel_rfl)
    (case uP => kernel_rfl)
    (case bK => kernel_rfl)
    (case pF => k_is)
    (case fB => kernel_rfl)
    (case fD => k_is)
    (case fG => k_is)
    (case nJ => kernel_rfl)
    (case j9 => kernel_rfl)
    (case iW => kernel_rfl)
    (case jM => kernel_rfl)
    (case lC => kernel_rfl)
    (case bY => kernel_rfl)
    (case uO => k_is)
    (case uF => k_is)
    (case j7 => kernel_rfl)
    (case jZ => k_is)
    (case j5 => k_is)
    (case pJ => kernel_rfl)
    (case m7 => kernel_rfl)
    (case lK => kernel_rfl)
    (case mO => kernel_rfl)
    (case nA => kernel_rfl)
    (case dG => kernel_rfl)
    (case aa6 => k_is)
    (case abO => k_is)
    (case rP => kernel_rfl)
    (case rJ => k_is)
    (case rK => k_is)
    (case vK => kernel_rfl)
    (case qQ => kernel_rfl)
    (case oR => kernel_rfl)
    (case pQ => kernel_rfl)
    (case qR => kernel_rfl)
    (case cG => kernel_rfl)
    (case uZ => k_is)
    (case kZ => kernel_rfl)
    (case jW => k_is)
    (case lA => k_is)
    (case o8 => kernel_rfl)
    (case mY => kernel_rfl)
    (case lY => kernel_rfl)
    (case mV => kernel_rfl)
    (case m9 => kernel_rfl)
    (case bB => kernel_rfl)
    (case oV => k_is)
    (case oY => k_is)
    (case eV => kernel_rfl)
    (case eU => k_is)
    (case eX => k_is)
    (case mF => kernel_rfl)
    (case jG => kernel_rfl)
    (case g8 => kernel_rfl)
    (case iQ => kernel_rfl)
    (case jN => kernel_rfl)
    (case bO => kernel_rfl)
    (case qY => k_is)
    (case qP => k_is)
    (case fX => kernel_rfl)
    (case gM => k_is)
    (case fU => k_is)
    (case nR => kernel_rfl)
    (case lJ => kernel_rfl)
    (case jO => kernel_rfl)
    (case j8 => kernel_rfl)
    (case lH => kernel_rfl)
    (case aX => kernel_rfl)
    (case oH => k_is)
    (case oJ => k_is)
    (case dX => kernel_rfl)
    (case dW => k_is)
    (case dR => k_is)
    (case lW => kernel_rfl)
    (case iH => kernel_rfl)
    (case fM => kernel_rfl)
    (case iG => kernel_rfl)
    (case iJ => kernel_rfl)
    (case tT => exact rfl)
    (case tU => decide +kernel)
end
