import PyProof.Rows.All
import Wide.All
import OpenK.AllK
import Wide.FinOn
import HandS.ForMost
import HandS.Flow
import KE.KDictKeyed
import HandS.TupAny
import HandS.TupMul
import HandS.Deep
import HandS.Conv
import HandS.Style
import HandS.IsInst
import KE.LtData
import KE.DataMinMax
import KE.KTupSum
import KE.SortData
import HandS.Gcd
import HandS.Zip
import HandS.Defaults
import KE.KStateDown
import HandS.WordsExc
import HandS.Head0
import HandS.Head1
import HandS.Head2
import HandS.HeadEnd
import HandS.HeadHook1
import HandS.HeadHook2
import KE.KMathGC
import HandS.CallLocal
import PyProof.Rows.RuleDivmod
import KE.GoesEnum
import HandS.RepeatKit
import HandS.Sort
import HandS.Star
import PyProof.EqAt
import PyProof.MeetsSeq
import PyProof.Rows.SortShell
import HandS.Dict
import HandS.Iter
import PyProof.AssignAttr
import KE.SortKeyHeap
import HandS.SortKw
import HandS.Strs
import PyProof.SeqIndex
import PyProof.EqKinds
import HandS.TupSets
import HandS.SetKeys
import HandS.DictComp
import KE.KDictWalk
import HandS.Spec
import KE.KDictCopyH
import HandS.Head3
import PySem.Challenge.RW_farcall_k25_contacts_that_may_fail
set_option Elab.async false
set_option linter.all false
set_option maxRecDepth 100000
section
set_option maxHeartbeats 200000
/-! Rf: a plain interpreter of a part of Python, and the proof that the model does what it tells. Part 1: data, how they stand in the abstract heap. -/
namespace Rf
open PySem PySem.Spec PyProof.Rows L2

/-- plain data: ref is a place of the interpreter's store (an object that may change) -/
inductive D where
  | non | bl (b : Bool) | int (i : Int) | str (x : PySem.Str)
  | tup (xs : List D) | par (xs : List D) | lst (xs : List D) | scr (xs : List D) | dct (ks vs : List D)
  | ref (n : Nat) | fn (f : String)
inductive Cell where
  | lst (xs : List D) | dct (ks vs : List D) | dtn (ks vs : List D) | dtx (ks vs : List D) | dxn (ks vs : List D) | ins (C : String) (fs : List (PySem.Str × D))
abbrev Sto := List Cell
inductive Sl where
  | no | val (d : D) | own (c : Cell)
abbrev Env := List Sl

/-- what the module's names are, in a program and a world -/
structure Mg where
  f : PySem.Str → Option Value
  P : Program
  w : World
instance : CoeFun Mg fun _ => PySem.Str → Option Value := ⟨Mg.f⟩
abbrev mX (X : Cx) : Mg := ⟨X.mg, X.prog, X.w⟩

/-- a dict's key -/
def keyD : D → Option Key
  | .int i => some (.inl i)
  | .str x => some (.inr x)
  | _ => none

mutual
/-- keys of any depth -/
def nkD : D → Option NestedKey
  | .non => some .none
  | .bl b => some (.num (if b = true then 1 else 0))
  | .int i => some (.num i)
  | .str x => some (.text x)
  | .tup xs => (nksD xs).map .tup
  | _ => none
def nksD : List D → Option (List NestedKey)
  | [] => some []
  | x :: xs => (nkD x).bind fun k => (nksD xs).map fun ks => k :: ks
end
/-- a tuple as a key -/
def tkD : D → Option NestedKey
  | .tup xs => (nksD xs).bind fun ks => if (NestedKey.tup ks).depth ≤ 8 then some (.tup ks) else none
  | _ => none
/-- a dict at a whose keys are tuples (each told with the place where it stands) -/
abbrev XE := NestedKey × Addr × V
def DX (P : Program) (w : World) (h : Heap) (a : Addr) (xs : List XE) : Prop := xs.length ≤ sizeLine ∧ (a == sysModules) = false ∧ (xs.map (·.1)).Nodup ∧
  ∃ o es ep ys, h.get? a = some o ∧ o.ExactDict ∧ o.data = .dict es ep ∧ es.toList = ys.map (entryOfKey (nestedKind P w)) ∧ Paired (fun (x : XE) (y : NestedKey × Addr × Value) => x.1 = y.1 ∧ x.2.1 = y.2.1 ∧ RelV x.2.2 y.2.2) xs ys
def DXO (P : Program) (w : World) (a : Addr) (xs : List XE) : HO := .ext fun h => DX P w h a xs
section
variable (K : PySem.W.Frag) (mg : Mg)
/-- a tuple of which it is known that it has no dict -/
def TupAt (O : Addr → Prop) (H : Hp) (a : Addr) (xs : List V) : Prop :=
  ((∃ o : Obj, H a = some (.frz o (.tup xs)) ∧ o.dict = none) ∧ ¬ O a) ∨
    ∃ (o : Obj) (its : Array Value) (n : Nat), K.lookup a = some o ∧ o.cls = .type "tuple" ∧ o.dict = none ∧ o.data = .seq its n ∧ its.size ≤ sizeLine ∧ Vals xs its.toList
/-- a tuple -/
def ParAt (O : Addr → Prop) (H : Hp) (a : Addr) (xs : List V) : Prop := Rd H a (.tup xs) ∧ ¬ O a
def LstAt (O : Addr → Prop) (H : Hp) (a : Addr) (xs : List V) : Prop :=
  (Rd H a (.lst xs) ∧ ¬ O a) ∨
    ∃ (o : Obj) (its : Array Value) (n : Nat), K.lookup a = some o ∧ o.cls = .type "list" ∧ o.dict = none ∧ o.data = .seq its n ∧ its.size ≤ sizeLine ∧ Vals xs its.toList
mutual
inductive Rep (β : List Addr) (O : Addr → Prop) (H : Hp) : D → V → Prop
  | non : Rep β O H .non .non
  | bl (b : Bool) : Rep β O H (.bl b) (.bl b)
  | int (i : Int) : Rep β O H (.int i) (.int i)
  | str (x : PySem.Str) : Rep β O H (.str x) (.str x)
  | tup {a : Addr} {vs : List V} {ds : List D} : TupAt K O H a vs → Reps β O H ds vs → Rep β O H (.tup ds) (.ref a)
  | par {a : Addr} {vs : List V} {ds : List D} : ParAt O H a vs → Reps β O H ds vs → Rep β O H (.par ds) (.ref a)
  | lst {a : Addr} {vs : List V} {ds : List D} : H a = some (.lst vs) → ¬ O a → Reps β O H ds vs → Rep β O H (.lst ds) (.ref a)
  | scr {a : Addr} {vs : List V} {ds : List D} : LstAt K O H a vs → Reps β O H ds vs → Rep β O H (.scr ds) (.ref a)
  | dct {a : Addr} {kvs : List (Key × V)} {ks ds : List D} : H a = some (.dK kvs) → ¬ O a → ks.map keyD = kvs.map (fun p => some p.1) → Reps β O H ds (kvs.map (·.2)) → Rep β O H (.dct ks ds) (.ref a)
  | ref {n : Nat} {a : Addr} : β[n]? = some a → Rep β O H (.ref n) (.ref a)
  | fn {f : String} {a : Addr} : mg (PySem.Str.ofString f) = some (.ref a) → Rep β O H (.fn f) (.ref a)
inductive Reps (β : List Addr) (O : Addr → Prop) (H : Hp) : List D → List V → Prop
  | nil : Reps β O H [] []
  | cons {d : D} {v : V} {ds : List D} {vs : List V} : Rep β O H d v → Reps β O H ds vs → Reps β O H (d :: ds) (v :: vs)
end
/-- what stands at a place of the store, at an owned name -/
inductive CellOk (β : List Addr) (O : Addr → Prop) (H : Hp) : Cell → HO → Prop
  | lst {ds : List D} {vs : List V} : Reps K mg β O H ds vs → CellOk β O H (.lst ds) (.lst vs)
  | dct {ks ds : List D} {kvs : List (Key × V)} : ks.map keyD = kvs.map (fun p => some p.1) → Reps K mg β O H ds (kvs.map (·.2)) → CellOk β O H (.dct ks ds) (.dK kvs)
/-- what stands at a place of the store alone: an instance of a class of the text -/
inductive CellS (β : List Addr) (O : Addr → Prop) (H : Hp) (ap : Addr) : Cell → HO → Prop
  | pl {c : Cell} {o : HO} : CellOk K mg β O H c o → CellS β O H ap c o
  | ins {C : String} {fs : List (PySem.Str × D)} {CA dx : Addr} {vs : List (PySem.Str × V)} : mg (PySem.Str.ofString C) = some (.ref CA) → fs.map (·.1) = vs.map (·.1) → Reps K mg β O H (fs.map (·.2)) (vs.map (·.2)) → CellS β O H ap (.ins C fs) (.ins CA dx vs)
  | lk {ks ds : List D} {kvs : List (Key × V)} {od : Obj} : ks.map keyD = kvs.map (fun p => some p.1) → Reps K mg β O H ds (kvs.map (·.2)) → CellS β O H ap (.dtn ks ds) (.frz od (.dK kvs))
  | dx {ks ds : List D} {xs : List XE} : ks.map tkD = xs.map (fun x => some x.1) → Reps K mg β O H ks (xs.map fun x => .ref x.2.1) → Reps K mg β O H ds (xs.map fun x => x.2.2) → CellS β O H ap (.dtx ks ds) (DXO mg.P mg.w ap xs)
  | dxl {ks ds : List D} {xs : List XE} {od : Obj} : ks.map tkD = xs.map (fun x => some x.1) → Reps K mg β O H ks (xs.map fun x => .ref x.2.1) → Reps K mg β O H ds (xs.map fun x => x.2.2) → CellS β O H ap (.dxn ks ds) (.frz od (DXO mg.P mg.w ap xs))
end

/-- the addresses that are not plain data -/
def Oo (Z : Addr → Prop) (α : Nat → Option Addr) (β : List Addr) : Addr → Prop := fun a => Z a ∨ a ∈ β ∨ ∃ i, α i = some a

def SlotOk (K : PySem.W.Frag) (mg : Mg) (Z : Addr → Prop) (α : Nat → Option Addr) (β : List Addr) (σ : L2.St) (H : Hp) (i : Nat) : Sl → Prop
  | .no => True
  | .val d => ∃ v, σ[i]? = some (some v) ∧ Rep K mg β (Oo Z α β) H d v
  | .own c => ∃ a o, σ[i]? = some (some (.ref a)) ∧ α i = some a ∧ H a = some o ∧ CellOk K mg β (Oo Z α β) H c o

structure Rel (K : PySem.W.Frag) (mg : Mg) (Z : Addr → Prop) (α : Nat → Option Addr) (β : List Addr) (env : Env) (S : Sto) (σ : L2.St) (H : Hp) : Prop where
  len : env.length = σ.length
  slot : ∀ (i : Nat) (sl : Sl), env[i]? = some sl → SlotOk K mg Z α β σ H i sl
  sup : ∀ (i : Nat) (a : Addr), α i = some a → ∃ c, env[i]? = some (.own c)
  blen : β.length = S.length
  cell : ∀ (n : Nat) (c : Cell) (a : Addr), S[n]? = some c → β[n]? = some a → ∃ o, H a = some o ∧ CellS K mg β (Oo Z α β) H a c o
  nod : β.Nodup
  inj : ∀ i j a, α i = some a → α j = some a → i = j
  dis : ∀ i a, α i = some a → a ∉ β ∧ ¬ Z a
  disZ : ∀ a, a ∈ β → ¬ Z a
  zlive : ∀ a, Z a → H a ≠ none

/-- from (β, H) to (β', H'): W may be written -/
structure Adv (W : Addr → Prop) (β : List Addr) (H : Hp) (β' : List Addr) (H' : Hp) : Prop where
  pre : ∃ nw, β' = β ++ nw ∧ ∀ a, a ∈ nw → H a = none
  keep : ∀ a o, H a = some o → ¬ W a → H' a = some o
  live : ∀ a, H a ≠ none → H' a ≠ none
  frz : ∀ a od u, H a = some (.frz od u) → H' a = some (.frz od u)

section
variable {K : PySem.W.Frag} {mg : Mg} {Z : Addr → Prop} {α : Nat → Option Addr} {β β' β'' : List Addr} {O O' : Addr → Prop} {H H' H'' : Hp} {env : Env} {S : Sto} {σ : L2.St}

theorem TupAt.sq {a : Addr} {xs : List V} (h : TupAt K O H a xs) : SqT K H a xs := by
  rcases h with ⟨⟨o, h, _⟩, _⟩ | ⟨o, its, n, h1, h2, _, h3⟩
  · exact .inl (.inr ⟨o, h⟩)
  · exact .inr ⟨o, its, n, h1, h2, h3⟩
theorem ParAt.sq {a : Addr} {xs : List V} (h : ParAt O H a xs) : SqT K H a xs := .inl h.1
theorem LstAt.sq {a : Addr} {xs : List V} (h : LstAt K O H a xs) : SqL K H a xs := by
  rcases h with ⟨h, _⟩ | h
  · exact .inl h
  · exact .inr h
theorem TupAt.mono {a : Addr} {xs : List V} (hH : ∀ a o, H a = some o → ¬ O a → H' a = some o) (hO : ∀ a, O' a → O a ∨ H a = none) (h : TupAt K O H a xs) : TupAt K O' H' a xs := by
  rcases h with ⟨⟨o, h, d⟩, n⟩ | h
  · exact .inl ⟨⟨o, hH _ _ h n, d⟩, fun q => by rcases hO _ q with z | z; exact n z; rw [h] at z; cases z⟩
  · exact .inr h
theorem ParAt.mono {a : Addr} {xs : List V} (hH : ∀ a o, H a = some o → ¬ O a → H' a = some o) (hO : ∀ a, O' a → O a ∨ H a = none) (h : ParAt O H a xs) : ParAt O' H' a xs := by
  obtain ⟨h, n⟩ := h
  rcases h with h | ⟨o, h⟩
  · exact ⟨.inl (hH _ _ h n), fun q => by rcases hO _ q with z | z; exact n z; rw [h] at z; cases z⟩
  · exact ⟨.inr ⟨o, hH _ _ h n⟩, fun q => by rcases hO _ q with z | z; exact n z; rw [h] at z; cases z⟩
theorem LstAt.mono {a : Addr} {xs : List V} (hH : ∀ a o, H a = some o → ¬ O a → H' a = some o) (hO : ∀ a, O' a → O a ∨ H a = none) (h : LstAt K O H a xs) : LstAt K O' H' a xs := by
  rcases h with ⟨h, n⟩ | h
  · rcases h with h | ⟨o, h⟩
    · exact .inl ⟨.inl (hH _ _ h n), fun q => by rcases hO _ q with z | z; exact n z; rw [h] at z; cases z⟩
    · exact .inl ⟨.inr ⟨o, hH _ _ h n⟩, fun q => by rcases hO _ q with z | z; exact n z; rw [h] at z; cases z⟩
  · exact .inr h
section
variable (hβ : ∀ (n : Nat) (a : Addr), β[n]? = some a → β'[n]? = some a) (hH : ∀ a o, H a = some o → ¬ O a → H' a = some o) (hO : ∀ a, O' a → O a ∨ H a = none)
include hβ hH hO
mutual
theorem Rep.mono : ∀ (d : D) (v : V), Rep K mg β O H d v → Rep K mg β' O' H' d v
  | .non, _, h => by cases h; exact .non
  | .bl b, _, h => by cases h; exact .bl b
  | .int b, _, h => by cases h; exact .int b
  | .str b, _, h => by cases h; exact .str b
  | .tup ds, _, h => by
    cases h with
    | tup h1 h2 => exact .tup (h1.mono hH hO) (Reps.mono ds _ h2)
  | .par ds, _, h => by
    cases h with
    | par h1 h2 => exact .par (h1.mono hH hO) (Reps.mono ds _ h2)
  | .lst ds, _, h => by
    cases h with
    | lst h1 n h2 => exact .lst (hH _ _ h1 n) (fun q => by rcases hO _ q with z | z; exact n z; rw [h1] at z; cases z) (Reps.mono ds _ h2)
  | .scr ds, _, h => by
    cases h with
    | scr h1 h2 => exact .scr (h1.mono hH hO) (Reps.mono ds _ h2)
  | .dct ks ds, _, h => by
    cases h with
    | dct h1 n h2 h3 => exact .dct (hH _ _ h1 n) (fun q => by rcases hO _ q with z | z; exact n z; rw [h1] at z; cases z) h2 (Reps.mono ds _ h3)
  | .ref n, _, h => by
    cases h with
    | ref h => exact .ref (hβ _ _ h)
  | .fn f, _, h => by
    cases h with
    | fn h => exact .fn h
theorem Reps.mono : ∀ (ds : List D) (vs : List V), Reps K mg β O H ds vs → Reps K mg β' O' H' ds vs
  | [], _, h => by cases h; exact .nil
  | d :: ds, _, h => by
    cases h with
    | cons h1 h2 => exact .cons (Rep.mono d _ h1) (Reps.mono ds _ h2)
end
theorem CellOk.mono {c : Cell} {o : HO} (h : CellOk K mg β O H c o) : CellOk K mg β' O' H' c o := by
  cases h with
  | lst h => exact .lst (Reps.mono hβ hH hO _ _ h)
  | dct h1 h2 => exact .dct h1 (Reps.mono hβ hH hO _ _ h2)
theorem CellS.mono {ap : Addr} {c : Cell} {o : HO} (h : CellS K mg β O H ap c o) : CellS K mg β' O' H' ap c o := by
  cases h with
  | pl h => exact .pl (CellOk.mono hβ hH hO h)
  | ins h1 h2 h3 => exact .ins h1 h2 (Reps.mono hβ hH hO _ _ h3)
  | lk h1 h2 => exact .lk h1 (Reps.mono hβ hH hO _ _ h2)
  | dx h1 h2 h3 => exact .dx h1 (Reps.mono hβ hH hO _ _ h2) (Reps.mono hβ hH hO _ _ h3)
  | dxl h1 h2 h3 => exact .dxl h1 (Reps.mono hβ hH hO _ _ h2) (Reps.mono hβ hH hO _ _ h3)
end
theorem Reps.length : ∀ {ds : List D} {vs : List V}, Reps K mg β O H ds vs → ds.length = vs.length
  | [], _, h => by cases h; rfl
  | d :: ds, _, h => by
    cases h with
    | cons h1 h2 => simp [Reps.length h2]
theorem Reps.get : ∀ {ds : List D} {vs : List V} {i : Nat} {d : D}, Reps K mg β O H ds vs → ds[i]? = some d → ∃ v, vs[i]? = some v ∧ Rep K mg β O H d v
  | [], _, _, _, h, e => by simp at e
  | d :: ds, _, 0, _, h, e => by
    cases h with
    | cons h1 h2 =>
      simp at e; subst e
      exact ⟨_, rfl, h1⟩
  | d :: ds, _, i + 1, _, h, e => by
    cases h with
    | cons h1 h2 =>
      obtain ⟨v, h3, h4⟩ := Reps.get (i := i) h2 (by simpa using e)
      exact ⟨v, by simpa using h3, h4⟩
theorem Reps.append : ∀ {ds es : List D} {vs us : List V}, Reps K mg β O H ds vs → Reps K mg β O H es us → Reps K mg β O H (ds ++ es) (vs ++ us)
  | [], _, _, _, h, q => by cases h; exact q
  | d :: ds, _, _, _, h, q => by
    cases h with
    | cons h1 h2 => exact .cons h1 (Reps.append h2 q)
theorem Reps.take : ∀ (n : Nat) {ds : List D} {vs : List V}, Reps K mg β O H ds vs → Reps K mg β O H (ds.take n) (vs.take n)
  | 0, _, _, _ => .nil
  | n + 1, [], _, h => by cases h; exact .nil
  | n + 1, d :: ds, _, h => by
    cases h with
    | cons h1 h2 => exact .cons h1 (Reps.take n h2)
theorem Reps.drop : ∀ (n : Nat) {ds : List D} {vs : List V}, Reps K mg β O H ds vs → Reps K mg β O H (ds.drop n) (vs.drop n)
  | 0, _, _, h => h
  | n + 1, [], _, h => by cases h; exact .nil
  | n + 1, d :: ds, _, h => by
    cases h with
    | cons h1 h2 => exact Reps.drop n h2
theorem Reps.reverse : ∀ {ds : List D} {vs : List V}, Reps K mg β O H ds vs → Reps K mg β O H ds.reverse vs.reverse
  | [], _, h => by cases h; exact .nil
  | d :: ds, _, h => by
    cases h with
    | cons h1 h2 => simp only [List.reverse_cons]; exact Reps.append (Reps.reverse h2) (.cons h1 .nil)
theorem Reps.set : ∀ {ds : List D} {vs : List V} (i : Nat) {d : D} {v : V}, Rep K mg β O H d v → Reps K mg β O H ds vs → Reps K mg β O H (ds.set i d) (vs.set i v)
  | [], _, _, _, _, r, h => by cases h; exact .nil
  | d :: ds, _, 0, _, _, r, h => by
    cases h with
    | cons h1 h2 => exact .cons r h2
  | d :: ds, _, i + 1, _, _, r, h => by
    cases h with
    | cons h1 h2 => exact .cons h1 (Reps.set i r h2)
theorem Reps.rep {ds : List D} {vs : List V} (h : Reps K mg β O H ds vs) : ∀ k : Nat, Reps K mg β O H (List.replicate k ds).flatten (List.replicate k vs).flatten
  | 0 => .nil
  | k + 1 => by
    rw [List.replicate_succ, List.replicate_succ, List.flatten_cons, List.flatten_cons]
    exact Reps.append h (Reps.rep h k)
theorem Reps.ints : ∀ {ns : List Int} {vs : List V}, Reps K mg β O H (ns.map .int) vs → vs = ns.map V.int
  | [], _, h => by cases h; rfl
  | n :: ns, _, h => by
    cases h with
    | cons h1 h2 =>
      cases h1
      rw [Reps.ints h2]; rfl
theorem Reps.of_ints : ∀ {ns : List Int}, Reps K mg β O H (ns.map .int) (ns.map V.int)
  | [] => .nil
  | n :: ns => .cons (.int n) Reps.of_ints

/-! ### steps -/
theorem Adv.refl {W : Addr → Prop} : Adv W β H β H := ⟨⟨[], by simp, fun a h => by cases h⟩, fun _ _ h _ => h, fun _ h => h, fun _ _ _ h => h⟩
theorem Adv.fresh {W : Addr → Prop} (h : Adv W β H β' H') {a : Addr} (e : H' a = none) : H a = none := by
  cases q : H a with
  | none => rfl
  | some o => exact absurd e (h.live a (by rw [q]; exact fun z => nomatch z))
theorem Adv.nth {W : Addr → Prop} (h : Adv W β H β' H') : ∀ (n : Nat) (a : Addr), β[n]? = some a → β'[n]? = some a := fun n a e => by
  obtain ⟨nw, e1, _⟩ := h.pre
  rw [e1]
  obtain ⟨hn, _⟩ := List.getElem?_eq_some_iff.mp e
  rw [List.getElem?_append_left hn]; exact e
theorem Adv.mem {W : Addr → Prop} (h : Adv W β H β' H') {a : Addr} (e : a ∈ β') : a ∈ β ∨ H a = none := by
  obtain ⟨nw, e1, h1⟩ := h.pre
  rw [e1] at e
  rcases List.mem_append.mp e with e | e
  · exact .inl e
  · exact .inr (h1 a e)
theorem Adv.trans {W W' : Addr → Prop} (h : Adv W β H β' H') (h' : Adv W' β' H' β'' H'') (hW : ∀ a, W' a → W a ∨ H a = none) : Adv W β H β'' H'' where
  pre := by
    obtain ⟨nw, e1, h1⟩ := h.pre
    obtain ⟨nw', e2, h2⟩ := h'.pre
    refine ⟨nw ++ nw', by rw [e2, e1, List.append_assoc], fun a ha => ?_⟩
    rcases List.mem_append.mp ha with z | z
    · exact h1 a z
    · exact h.fresh (h2 a z)
  keep := fun a o e n => h'.keep a o (h.keep a o e n) fun w => by
    rcases hW a w with z | z
    · exact n z
    · rw [e] at z; cases z
  live := fun a e => h'.live a (h.live a e)
  frz := fun a od u e => h'.frz a od u (h.frz a od u e)
theorem Adv.weak {W W' : Addr → Prop} (h : Adv W β H β' H') (hW : ∀ a, W a → W' a) : Adv W' β H β' H' := ⟨h.pre, fun a o e n => h.keep a o e fun w => n (hW a w), h.live, h.frz⟩
/-- the places of the store -/
abbrev Wb (β : List Addr) : Addr → Prop := fun a => a ∈ β
theorem Adv.trb (h : Adv (Wb β) β H β' H') (h' : Adv (Wb β') β' H' β'' H'') : Adv (Wb β) β H β'' H'' := h.trans h' fun a w => h.mem w
theorem Oo.step (h : Adv (Wb β) β H β' H') : ∀ a, Oo Z α β' a → Oo Z α β a ∨ H a = none := fun a q => by
  rcases q with q | q | q
  · exact .inl (.inl q)
  · rcases h.mem q with z | z
    · exact .inl (.inr (.inl z))
    · exact .inr z
  · exact .inl (.inr (.inr q))
theorem Rep.adv {d : D} {v : V} (r : Rep K mg β (Oo Z α β) H d v) (h : Adv (Wb β) β H β' H') : Rep K mg β' (Oo Z α β') H' d v :=
  Rep.mono h.nth (fun a o e n => h.keep a o e fun w => n (.inr (.inl w))) (Oo.step h) _ _ r
theorem Reps.adv {d : List D} {v : List V} (r : Reps K mg β (Oo Z α β) H d v) (h : Adv (Wb β) β H β' H') : Reps K mg β' (Oo Z α β') H' d v :=
  Reps.mono h.nth (fun a o e n => h.keep a o e fun w => n (.inr (.inl w))) (Oo.step h) _ _ r
theorem CellOk.adv {c : Cell} {o : HO} (r : CellOk K mg β (Oo Z α β) H c o) (h : Adv (Wb β) β H β' H') : CellOk K mg β' (Oo Z α β') H' c o :=
  CellOk.mono h.nth (fun a o e n => h.keep a o e fun w => n (.inr (.inl w))) (Oo.step h) r
theorem CellS.adv {ap : Addr} {c : Cell} {o : HO} (r : CellS K mg β (Oo Z α β) H ap c o) (h : Adv (Wb β) β H β' H') : CellS K mg β' (Oo Z α β') H' ap c o :=
  CellS.mono h.nth (fun a o e n => h.keep a o e fun w => n (.inr (.inl w))) (Oo.step h) r
theorem CellS.ok {ap : Addr} {β : List Addr} {O : Addr → Prop} {H : Hp} {xs : List D} {o : HO} (h : CellS K mg β O H ap (.lst xs) o) : CellOk K mg β O H (.lst xs) o := by
  cases h with
  | pl h => exact h
theorem Adv.upd {W : Addr → Prop} {p : Addr} {o : HO} (n : H p = none) : Adv W β H β (upd H p o) :=
  ⟨⟨[], by simp, fun a h => by cases h⟩, fun a u e _ => by rw [upd_ne (ne_of_none e n)]; exact e, fun a e => by
    by_cases z : a = p
    · subst z; rw [upd_same]; exact fun q => nomatch q
    · rw [upd_ne z]; exact e, fun a od u e => by rw [upd_ne (ne_of_none e n)]; exact e⟩
/-- the heap alone has grown -/
theorem Rel.grow (R : Rel K mg Z α β env S σ H) (h : Adv (Wb β) β H β H') (hs : ∀ a o, H a = some o → H' a = some o) : Rel K mg Z α β env S σ H' where
  len := R.len
  slot := fun i sl e => by
    have q := R.slot i sl e
    cases sl with
    | no => trivial
    | val d => obtain ⟨v, e1, r⟩ := q; exact ⟨v, e1, r.adv h⟩
    | own c => obtain ⟨a, o, e1, e2, e3, r⟩ := q; exact ⟨a, o, e1, e2, hs a o e3, r.adv h⟩
  sup := R.sup
  blen := R.blen
  cell := fun n c a e1 e2 => by
    obtain ⟨o, e3, r⟩ := R.cell n c a e1 e2
    exact ⟨o, hs a o e3, r.adv h⟩
  nod := R.nod
  inj := R.inj
  dis := R.dis
  disZ := R.disZ
  zlive := fun a z => h.live a (R.zlive a z)
theorem same_upd' {p : Addr} {o : HO} (n : H p = none) : ∀ a u, H a = some u → upd H p o a = some u := fun a u e => by
  rw [upd_ne (ne_of_none e n)]; exact e
theorem Rel.nw (R : Rel K mg Z α β env S σ H) {p : Addr} {o : HO} (n : H p = none) : Rel K mg Z α β env S σ (upd H p o) :=
  R.grow (Adv.upd n) (same_upd' n)
theorem Rel.notO (R : Rel K mg Z α β env S σ H) {p : Addr} (n : H p = none) : ¬ Oo Z α β p := fun q => by
  rcases q with q | q | ⟨i, q⟩
  · exact R.zlive p q n
  · obtain ⟨k, hk, e⟩ := List.getElem_of_mem q
    have hk' : k < S.length := by rw [← R.blen]; exact hk
    obtain ⟨o, e2, _⟩ := R.cell k S[k] p (List.getElem?_eq_getElem hk') (by rw [List.getElem?_eq_getElem hk, e])
    rw [n] at e2; cases e2
  · obtain ⟨c, e⟩ := R.sup i p q
    obtain ⟨a, o, _, e2, e3, _⟩ := R.slot i _ e
    rw [q] at e2; cases e2
    rw [n] at e3; cases e3
end
/-- with one more address set apart -/
def Z1 (Z : Addr → Prop) (D : Addr) : Addr → Prop := fun a => Z a ∨ a = D
theorem Oo_z1 {Z : Addr → Prop} {α : Nat → Option Addr} {β : List Addr} {D a : Addr} : Oo (Z1 Z D) α β a ↔ Oo Z α β a ∨ a = D := by
  unfold Oo Z1
  constructor
  · rintro ((h | h) | h | h)
    · exact .inl (.inl h)
    · exact .inr h
    · exact .inl (.inr (.inl h))
    · exact .inl (.inr (.inr h))
  · rintro ((h | h | h) | h)
    · exact .inl (.inl h)
    · exact .inr (.inl h)
    · exact .inr (.inr h)
    · exact .inl (.inr h)
/-- a new object is set apart -/
theorem Rel.apart {K : PySem.W.Frag} {mg : Mg} {Z : Addr → Prop} {α : Nat → Option Addr} {β : List Addr} {H : Hp} {env : Env} {S : Sto} {σ : L2.St} (R : Rel K mg Z α β env S σ H) {D : Addr} (hD : H D = none) (o : HO) : Rel K mg (Z1 Z D) α β env S σ (upd H D o) := by
  have hO : ∀ a, Oo (Z1 Z D) α β a → Oo Z α β a ∨ H a = none := fun a q => by
    rcases Oo_z1.mp q with q | q
    · exact .inl q
    · exact .inr (by rw [q]; exact hD)
  have hs := same_upd' (H := H) (p := D) (o := o) hD
  have mv : ∀ a u, H a = some u → ¬ Oo Z α β a → upd H D o a = some u := fun a u e _ => hs a u e
  have rp : ∀ {d v}, Rep K mg β (Oo Z α β) H d v → Rep K mg β (Oo (Z1 Z D) α β) (upd H D o) d v := fun r => Rep.mono (fun _ _ e => e) mv hO _ _ r
  have cp : ∀ {c u}, CellOk K mg β (Oo Z α β) H c u → CellOk K mg β (Oo (Z1 Z D) α β) (upd H D o) c u := fun r => CellOk.mono (fun _ _ e => e) mv hO r
  have cps : ∀ {ap c u}, CellS K mg β (Oo Z α β) H ap c u → CellS K mg β (Oo (Z1 Z D) α β) (upd H D o) ap c u := fun r => CellS.mono (fun _ _ e => e) mv hO r
  refine ⟨R.len, fun i sl e => ?_, R.sup, R.blen, fun n c a e1 e2 => ?_, R.nod, R.inj, fun i a e => ⟨(R.dis i a e).1, fun z => ?_⟩, fun a ha z => ?_, fun a z => ?_⟩
  · have q := R.slot i sl e
    cases sl with
    | no => trivial
    | val d => obtain ⟨v, e1, r⟩ := q; exact ⟨v, e1, rp r⟩
    | own c => obtain ⟨a, u, e1, e2, e3, r⟩ := q; exact ⟨a, u, e1, e2, hs a u e3, cp r⟩
  · obtain ⟨u, e3, r⟩ := R.cell n c a e1 e2
    exact ⟨u, hs a u e3, cps r⟩
  · rcases z with z | z
    · exact (R.dis i a e).2 z
    · exact R.notO hD (by rw [← z]; exact .inr (.inr ⟨i, e⟩))
  · rcases z with z | z
    · exact R.disZ a ha z
    · exact R.notO hD (by rw [← z]; exact .inr (.inl ha))
  · rcases z with z | z
    · intro q
      cases e : H a with
      | none => exact R.zlive a z e
      | some u => rw [hs a u e] at q; cases q
    · rw [z, upd_same]; exact fun q => nomatch q
/-- it is set apart no more -/
theorem Rel.unapart {K : PySem.W.Frag} {mg : Mg} {Z : Addr → Prop} {α : Nat → Option Addr} {β : List Addr} {H : Hp} {env : Env} {S : Sto} {σ : L2.St} {D : Addr} (R : Rel K mg (Z1 Z D) α β env S σ H) : Rel K mg Z α β env S σ H := by
  have hO : ∀ a, Oo Z α β a → Oo (Z1 Z D) α β a ∨ H a = none := fun a q => .inl (Oo_z1.mpr (.inl q))
  have rp : ∀ {d v}, Rep K mg β (Oo (Z1 Z D) α β) H d v → Rep K mg β (Oo Z α β) H d v := fun r => Rep.mono (fun _ _ e => e) (fun _ _ e _ => e) hO _ _ r
  have cp : ∀ {c u}, CellOk K mg β (Oo (Z1 Z D) α β) H c u → CellOk K mg β (Oo Z α β) H c u := fun r => CellOk.mono (fun _ _ e => e) (fun _ _ e _ => e) hO r
  have cps : ∀ {ap c u}, CellS K mg β (Oo (Z1 Z D) α β) H ap c u → CellS K mg β (Oo Z α β) H ap c u := fun r => CellS.mono (fun _ _ e => e) (fun _ _ e _ => e) hO r
  refine ⟨R.len, fun i sl e => ?_, R.sup, R.blen, fun n c a e1 e2 => ?_, R.nod, R.inj, fun i a e => ⟨(R.dis i a e).1, fun z => (R.dis i a e).2 (.inl z)⟩, fun a ha z => R.disZ a ha (.inl z), fun a z => R.zlive a (.inl z)⟩
  · have q := R.slot i sl e
    cases sl with
    | no => trivial
    | val d => obtain ⟨v, e1, r⟩ := q; exact ⟨v, e1, rp r⟩
    | own c => obtain ⟨a, u, e1, e2, e3, r⟩ := q; exact ⟨a, u, e1, e2, e3, cp r⟩
  · obtain ⟨u, e3, r⟩ := R.cell n c a e1 e2
    exact ⟨u, e3, cps r⟩
theorem Rel.notZ1 {K : PySem.W.Frag} {mg : Mg} {Z : Addr → Prop} {α : Nat → Option Addr} {β : List Addr} {H : Hp} {env : Env} {S : Sto} {σ : L2.St} {D : Addr} (R : Rel K mg (Z1 Z D) α β env S σ H) (n : ¬ Z D) : ¬ Oo Z α β D := fun q => by
  rcases q with q | q | ⟨j, q⟩
  · exact n q
  · exact R.disZ D q (.inr rfl)
  · exact (R.dis j D q).2 (.inr rfl)
theorem CellOk.unapart {K : PySem.W.Frag} {mg : Mg} {Z : Addr → Prop} {α : Nat → Option Addr} {β : List Addr} {H : Hp} {D : Addr} {c : Cell} {o : HO} (h : CellOk K mg β (Oo (Z1 Z D) α β) H c o) : CellOk K mg β (Oo Z α β) H c o :=
  CellOk.mono (fun _ _ e => e) (fun _ _ e _ => e) (fun a q => .inl (Oo_z1.mpr (.inl q))) h
theorem CellOk.apart {K : PySem.W.Frag} {mg : Mg} {Z : Addr → Prop} {α : Nat → Option Addr} {β : List Addr} {H : Hp} {D : Addr} {c : Cell} {o u : HO} (h : CellOk K mg β (Oo Z α β) H c u) (n : H D = none) : CellOk K mg β (Oo (Z1 Z D) α β) (upd H D o) c u :=
  CellOk.mono (fun _ _ e => e) (fun a v e _ => same_upd' n a v e) (fun a q => by
    rcases Oo_z1.mp q with q | q
    · exact .inl q
    · exact .inr (by rw [q]; exact n)) h
theorem CellS.unapart {ap : Addr} {K : PySem.W.Frag} {mg : Mg} {Z : Addr → Prop} {α : Nat → Option Addr} {β : List Addr} {H : Hp} {D : Addr} {c : Cell} {o : HO} (h : CellS K mg β (Oo (Z1 Z D) α β) H ap c o) : CellS K mg β (Oo Z α β) H ap c o :=
  CellS.mono (fun _ _ e => e) (fun _ _ e _ => e) (fun a q => .inl (Oo_z1.mpr (.inl q))) h
theorem CellS.apart {ap : Addr} {K : PySem.W.Frag} {mg : Mg} {Z : Addr → Prop} {α : Nat → Option Addr} {β : List Addr} {H : Hp} {D : Addr} {c : Cell} {o u : HO} (h : CellS K mg β (Oo Z α β) H ap c u) (n : H D = none) : CellS K mg β (Oo (Z1 Z D) α β) (upd H D o) ap c u :=
  CellS.mono (fun _ _ e => e) (fun a v e _ => same_upd' n a v e) (fun a q => by
    rcases Oo_z1.mp q with q | q
    · exact .inl q
    · exact .inr (by rw [q]; exact n)) h
end Rf
end
section
set_option maxHeartbeats 2000000
/-! Rf0: rules for expressions that make tuples: the new tuple is known to have no dict. -/
namespace Rf
open PySem PySem.Spec PyProof.Rows L2
/-- a new tuple -/
def NT (H : Hp) (xs : List V) (Q : VK) : Prop := ∀ (p : Addr) (o : Obj), H p = none → o.dict = none → Q (.ref p) (upd H p (.frz o (.tup xs)))
abbrev tob (its : List Value) : Obj := { cls := .type "tuple", data := .seq its.toArray }
section
variable {X : Cx} {pins : List (Addr × Obj)} {σ : L2.St} {H : Hp} {s : Shared} {Q : VK} {es : List Expr} {t : TA} {pos : Pos}
theorem nt_laid {xs : List V} {its : List Value} (I : Inv X pins σ H s) (hz : xs.length ≤ sizeLine) (r : Vals xs its) (q : NT H xs Q) : EP X pins σ Q (.ref s.heap.objs.size) { s with heap := s.heap.push (tob its) } := by
  have g : (s.heap.push (tob its)).get? s.heap.objs.size = some (tob its) := Heap.get?_push_size _ rfl
  have J : Inv X pins σ (upd H s.heap.objs.size (.frz (tob its) (.tup xs))) { s with heap := s.heap.push (tob its) } :=
    I.laid (t' := s.toks) (fun b o e => Heap.get?_push_of_some _ e) (Nat.le_refl _) (show ObjOk X.prog X.w _ _ _ (.frz (tob its) (.tup xs)) from ⟨g, hz, its, r, _, g, rfl, 0, rfl⟩)
  exact ⟨.ref _, _, J, rfl, q _ _ (I.hok.fresh (Nat.le_refl _)) rfl⟩
/-- (e, ..) -/
def tTupN (t : TA) : TE := fun σ H Q => t σ H fun xs H1 => xs.length ≤ sizeLine ∧ NT H1 xs Q
theorem pe_tupN {x1} (h : PA X es t) : PE X (.Tuple es x1 pos) (tTupN t) := by
  constructor
  intro pins s σ H Q I hq
  exact wpAny_Tuple_spliced (thn (h.run pos pins s σ H _ I hq) fun us s1 ⟨xs, H1, I1, r, z, q⟩ => ⟨by rw [← r.length]; exact z, nt_laid I1 z r q⟩)
/-- tuple(e) -/
def rTupleN (K : PySem.W.Frag) : List V → Hp → VK → Prop := fun xs H Q => ∃ p ys, xs = [V.ref p] ∧ ((SqL K H p ys ∧ NT H ys Q) ∨ (SqT K H p ys ∧ Q (.ref p) H))
theorem cr_tupleN : CallR X (.type "tuple") (rTupleN X.K) := by
  intro pins s σ H xs us Q I r h
  obtain ⟨p, ys, rfl, h⟩ := h
  obtain rfl := Vals.ref1 r
  rcases h with ⟨hq, q⟩ | ⟨hq, q⟩
  · obtain ⟨its, rv, pl, hz⟩ := I.list hq
    have hl := rv.length
    exact call_tuple_list pl.isList (fun h' kp => nt_laid (I.kept (t' := s.toks) kp) hz rv q) (by simp only [List.size_toArray]; omega)
  · obtain ⟨its, rv, pl, hz⟩ := I.tuple hq
    exact call_tuple_same pl ⟨.ref p, H, I, rfl, q⟩
/-- t + u -/
def rCatN (K : PySem.W.Frag) : R2 := fun x y H Q => ∃ a b xs ys, x = .ref a ∧ y = .ref b ∧ SqT K H a xs ∧ SqT K H b ys ∧ xs.length + ys.length ≤ sizeLine ∧ (xs = [] → Q (.ref b) H) ∧ (xs ≠ [] → ys = [] → Q (.ref a) H) ∧ (xs ≠ [] → ys ≠ [] → NT H (xs ++ ys) Q)
theorem op_catN : OpR X (binaryOp .Add) (rCatN X.K) := by
  intro pins s σ H x y v u Q I rx ry h
  obtain ⟨a, b, xs, ys, rfl, rfl, ha, hb, hz, q0, q1, q2⟩ := h
  cases rx
  cases ry
  obtain ⟨its, r1, p1, _⟩ := I.tuple ha
  obtain ⟨its2, r2, p2, _⟩ := I.tuple hb
  by_cases hx : xs = []
  · subst hx
    cases r1
    exact cat_tup0 p1 p2 ⟨.ref b, H, I, rfl, q0 rfl⟩
  · have hi : its ≠ [] := fun e => by subst e; cases r1; exact hx rfl
    refine HT.cat_tup p1 p2 hi (fun e => ?_) (fun e => ?_) (by rw [← r1.length, ← r2.length]; exact hz)
    · subst e
      cases r2
      exact ⟨.ref a, H, I, rfl, q1 hx rfl⟩
    · have hy : ys ≠ [] := fun z => by subst z; cases r2; exact e rfl
      exact nt_laid I (by rw [List.length_append]; exact hz) (r1.append r2) (q2 hx hy)
/-- t[lo:hi] -/
def rSlN (K : PySem.W.Frag) : V → Option Int → Option Int → Hp → VK → Prop := fun x lo hi H Q => ∃ a xs, x = .ref a ∧ SqT K H a xs ∧
  (HT.sIx xs.length 0 lo = 0 ∧ HT.sIx xs.length xs.length hi = xs.length → Q (.ref a) H) ∧ (¬ (HT.sIx xs.length 0 lo = 0 ∧ HT.sIx xs.length xs.length hi = xs.length) → NT H (cutV xs lo hi) Q)
theorem sl_tupN : SlR X (rSlN X.K) := by
  intro pins s σ H x v vl vu lo hi sl Q I rx hs pl pu h
  obtain ⟨a, xs, rfl, hx, q1, q2⟩ := h
  cases rx
  obtain ⟨its, r, ht, hz⟩ := I.tuple hx
  have hl : its.toArray.size = xs.length := by rw [List.size_toArray]; exact r.length.symm
  refine ⟨"tuple", _, PyProof.Rows.slot_tuple_getitem.lookup, ht.typeIs, ?_⟩
  by_cases hw : HT.sIx xs.length 0 lo = 0 ∧ HT.sIx xs.length xs.length hi = xs.length
  · exact getItem_tuple_whole ht hs pl pu (by rw [hl]; exact hw) ⟨.ref a, H, I, rfl, q1 hw⟩
  · refine HT.getItem_tuple_cut ht hs pl pu (by rw [hl]; exact hw) ?_ (by rw [hl]; exact hz)
    rw [hl]
    exact nt_laid I (Nat.le_trans (cutV_length xs lo hi) hz) ((r.drop (HT.sIx xs.length 0 lo)).take (HT.sIx xs.length xs.length hi - HT.sIx xs.length 0 lo)) (q2 hw)
/-- tuple(range(..)) -/
def tTupRgN (te : L2.St → Hp → (Int → Int → Hp → Prop) → Prop) : TE := fun σ H Q => te σ H fun a b H1 => RgOk a b ∧ NT H1 (rgV a b) Q
theorem pe_tupRgN {e : Expr} {te : L2.St → Hp → (Int → Int → Hp → Prop) → Prop} {p : Pos} (hc : X.calm = true) (hg : Gl X "tuple") (hm : X.mg "tuple" = none) (he : PRg X e te) (na : starEach [e] X.env = (false, eval e X.env) :: starEach [] X.env := by rfl) : PE X (.Call (.Name "tuple" p) [e] [] pos) (tTupRgN te) := by
  constructor
  intro pins s σ H Q I h
  refine Call_ (ld_blt I hg hm boot_tuple (PyProof.Rows.callWith_type1 (args_cons (thn (he pins s σ H _ I h) fun x s1 ⟨r, a, b, t, u, v, H1, ex, hr, I1, ok, q⟩ => args_nil ?_) na) na))
  subst ex
  obtain ⟨b1, b2, b3, b4, b5⟩ := ok
  refine call_tuple_range (n := (b - a).toNat) (I1.ok.hd hc) hr (small_one b1 b2 b3 b4) (rangeSize_nat a b) b5 fun h' tk acc hk hi => ?_
  have J : Inv X pins σ H1 { s1 with heap := h', toks := tk } := I1.kept hk
  have g := nt_laid (its := acc.toList) J (by rw [rgV_length, sizeLine_eq]; omega) (vals_rg hi) q
  unfold tob at g
  rw [Array.toArray_toList] at g
  exact g
end
end Rf
end
section
set_option maxHeartbeats 200000
/-! Rf, part 2: expressions. A denotation gives the data and the store; rdX is its reading in the layer. -/
namespace Rf
open PySem PySem.Spec PyProof.Rows L2

abbrev DE := Env → Sto → Option (D × Sto)
abbrev DA := Env → Sto → Option (List D × Sto)
abbrev DT := Env → Sto → Option (Bool × Sto)

/-- a check that is never reckoned out -/
noncomputable def chk {α : Type} (p : Prop) (x : Option α) : Option α := @ite _ p (Classical.propDecidable p) x none
theorem chk_pos {α : Type} {p : Prop} {x : Option α} (h : p) : chk p x = x := by
  unfold chk
  exact if_pos h
theorem chk_some {α : Type} {p : Prop} {x : Option α} {y : α} (h : chk p x = some y) : p ∧ x = some y := by
  unfold chk at h
  by_cases hp : p
  · rw [if_pos hp] at h; exact ⟨hp, h⟩
  · rw [if_neg hp] at h; cases h
def cellD : Cell → D
  | .lst xs => .lst xs
  | .dct ks vs => .dct ks vs
  | _ => .non

section
variable (K : PySem.W.Frag) (mg : Mg)
def Res (Z : Addr → Prop) (α : Nat → Option Addr) (β : List Addr) (H : Hp) (b : Bool) (d : D) (v : V) : Prop :=
  Rep K mg β (Oo Z α β) H d v ∨ (b = true ∧ ∃ i a c o, α i = some a ∧ H a = some o ∧ CellOk K mg β (Oo Z α β) H c o ∧ d = cellD c ∧ v = .ref a)
def rdX (b : Bool) (t : DE) : TE := fun σ H Q => ∃ Z α β env S d S', Rel K mg Z α β env S σ H ∧ t env S = some (d, S') ∧
  ∀ v H' β', Rel K mg Z α β' env S' σ H' → Adv (Wb β) β H β' H' → Res K mg Z α β' H' b d v → Q v H'
def rdF (t : DE) : TE := fun σ H Q => ∃ Z α β env S d S', Rel K mg Z α β env S σ H ∧ t env S = some (d, S') ∧
  ∀ a o c H' β', Rel K mg (Z1 Z a) α β' env S' σ H' → Adv (Wb β) β H β' H' → H a = none → H' a = some o → d = cellD c → CellOk K mg β' (Oo (Z1 Z a) α β') H' c o → Q (.ref a) H'
def rdT (t : DT) : TT := fun σ H Q => ∃ Z α β env S k S', Rel K mg Z α β env S σ H ∧ t env S = some (k, S') ∧
  ∀ H' β', Rel K mg Z α β' env S' σ H' → Adv (Wb β) β H β' H' → Q k H'
def rdA (b : Bool) (t : DA) : TA := fun σ H Q => ∃ Z α β env S ds S', Rel K mg Z α β env S σ H ∧ t env S = some (ds, S') ∧
  ∀ vs H' β', Rel K mg Z α β' env S' σ H' → Adv (Wb β) β H β' H' → Paired (Res K mg Z α β' H' b) ds vs → Q vs H'
end
def EX (X : Cx) (b : Bool) (e : Expr) (t : DE) : Prop := PE X e (rdX X.K (mX X) b t)
def EF (X : Cx) (e : Expr) (t : DE) : Prop := PE X e (rdF X.K (mX X) t)
def TX (X : Cx) (e : Expr) (t : DT) : Prop := PT X e (rdT X.K (mX X) t)
def WX (X : Cx) (e : Expr) (t : DT) : Prop := PW X e (rdT X.K (mX X) t)
def AX (X : Cx) (b : Bool) (es : List Expr) (t : DA) : Prop := PA X es (rdA X.K (mX X) b t)

theorem PE.imp {X : Cx} {e : Expr} {t u : TE} (h : PE X e t) (hi : ∀ σ H Q, u σ H Q → t σ H Q) : PE X e u := ⟨fun p s σ H Q I q => h.run p s σ H Q I (hi σ H Q q)⟩
theorem PT.imp {X : Cx} {e : Expr} {t u : TT} (h : PT X e t) (hi : ∀ σ H Q, u σ H Q → t σ H Q) : PT X e u := ⟨fun p s σ H Q I q => h.run p s σ H Q I (hi σ H Q q)⟩
theorem PW.imp {X : Cx} {e : Expr} {t u : TT} (h : PW X e t) (hi : ∀ σ H Q, u σ H Q → t σ H Q) : PW X e u := ⟨fun w p s σ H Q I q => h.run w p s σ H Q I (hi σ H Q q)⟩
theorem PA.imp {X : Cx} {e : List Expr} {t u : TA} (h : PA X e t) (hi : ∀ σ H Q, u σ H Q → t σ H Q) : PA X e u := ⟨fun w p s σ H Q I q => h.run w p s σ H Q I (hi σ H Q q)⟩

section
variable {K : PySem.W.Frag} {mg : Mg} {Z : Addr → Prop} {α : Nat → Option Addr} {β β' β'' : List Addr} {H H' H'' : Hp} {env : Env} {S S' : Sto} {σ : L2.St} {b : Bool} {d : D} {v : V}
theorem Res.of (r : Rep K mg β (Oo Z α β) H d v) : Res K mg Z α β H b d v := .inl r
theorem Res.up (r : Res K mg Z α β H b d v) : Res K mg Z α β H true d v := by
  rcases r with r | ⟨_, r⟩
  · exact .inl r
  · exact .inr ⟨rfl, r⟩
theorem Res.rep (r : Res K mg Z α β H false d v) : Rep K mg β (Oo Z α β) H d v := by
  rcases r with r | ⟨z, _⟩
  · exact r
  · cases z
theorem Rel.own (R : Rel K mg Z α β env S σ H) {i : Nat} {a : Addr} (h : α i = some a) : a ∉ β := (R.dis i a h).1
theorem Res.adv (R : Rel K mg Z α β env S σ H) (r : Res K mg Z α β H b d v) (h : Adv (Wb β) β H β' H') : Res K mg Z α β' H' b d v := by
  rcases r with r | ⟨hb, i, a, c, o, h1, h2, h3, h4, h5⟩
  · exact .inl (r.adv h)
  · exact .inr ⟨hb, i, a, c, o, h1, h.keep a o h2 (R.own h1), h3.adv h, h4, h5⟩
theorem Paired.resAdv (R : Rel K mg Z α β env S σ H) (h : Adv (Wb β) β H β' H') : ∀ {ds : List D} {vs : List V}, Paired (Res K mg Z α β H b) ds vs → Paired (Res K mg Z α β' H' b) ds vs
  | _, _, .nil => .nil
  | _, _, .cons r t => .cons (r.adv R h) (Paired.resAdv R h t)
theorem Paired.reps : ∀ {ds : List D} {vs : List V}, Paired (Res K mg Z α β H false) ds vs → Reps K mg β (Oo Z α β) H ds vs
  | _, _, .nil => .nil
  | _, _, .cons r t => .cons r.rep (Paired.reps t)

/-! ### views of data -/
/-- the items of a tuple (true) or a list (false) -/
def seqD (S : Sto) : D → Option (Bool × List D)
  | .tup xs => some (true, xs)
  | .lst xs => some (false, xs)
  | .ref n => match S[n]? with
    | some (.lst xs) => some (false, xs)
    | _ => none
  | _ => none
theorem Res.seq (R : Rel K mg Z α β env S σ H) (r : Res K mg Z α β H b d v) {tp : Bool} {xs : List D} (h : seqD S d = some (tp, xs)) :
    ∃ a vs, v = .ref a ∧ Reps K mg β (Oo Z α β) H xs vs ∧ (if tp = true then SqT K H a vs else H a = some (.lst vs)) := by
  rcases r with r | ⟨_, i, a, c, o, h1, h2, h3, h4, h5⟩
  · cases r with
    | tup h1 h2 => cases h; exact ⟨_, _, rfl, h2, h1.sq⟩
    | lst h1 n h2 => cases h; exact ⟨_, _, rfl, h2, h1⟩
    | ref h1 =>
      rename_i n a
      simp only [seqD] at h
      split at h
      · rename_i ys e
        cases h
        obtain ⟨o, e2, c⟩ := R.cell _ _ _ e h1
        replace c := c.ok
        cases c with
        | lst c => exact ⟨_, _, rfl, c, e2⟩
      · cases h
    | _ => cases h
  · subst h4 h5
    cases h3 with
    | lst h3 => cases h; exact ⟨_, _, rfl, h3, h2⟩
    | dct _ _ => cases h
end

/-! ### names, constants -/
section
variable {X : Cx} {b : Bool} {pos : Pos}
theorem EF.ex {e : Expr} {t : DE} (h : EF X e t) : EX X b e t := PE.imp h fun σ H Q ⟨Z, α, β, env, S, d, S', R, e1, q⟩ =>
  ⟨Z, α, β, env, S, d, S', R, e1, fun a o c H' β' R' A' n1 n2 e2 co => q _ _ _ R'.unapart A' (.inl (by
    subst e2
    have n3 := R'.notZ1 fun z => R.zlive a z n1
    cases co.unapart with
    | lst h => exact .lst n2 n3 h
    | dct h1 h2 => exact .dct n2 n3 h1 h2))⟩
theorem EX.up {e : Expr} {t : DE} (h : EX X b e t) : EX X true e t := PE.imp h fun σ H Q ⟨Z, α, β, env, S, d, S', R, e1, q⟩ =>
  ⟨Z, α, β, env, S, d, S', R, e1, fun v H' β' R' A' r => q _ _ _ R' A' r.up⟩
def dVar (i : Nat) : DE := fun env S => match env[i]? with
  | some (.val d) => some (d, S)
  | _ => none
/-- a name whose object is read here and now -/
def dVarB (i : Nat) : DE := fun env S => match env[i]? with
  | some (.val d) => some (d, S)
  | some (.own c) => some (cellD c, S)
  | _ => none
theorem E.var (i : Nat) {x : PySem.Str} (hN : X.N[i]? = some x := by rfl) (hv : Vis X.env.scope x := by first | exact Or.inl rfl | exact Or.inr (Or.inl rfl) | exact Or.inr (Or.inr rfl))
    (hd : (x == ("__debug__" : PySem.Str)) = false := by decide) (hcd : (x == ("__classdict__" : PySem.Str)) = false := by decide) : EX X b (.Name x pos) (dVar i) :=
  PE.imp (pe_var hN hv hd hcd) fun σ H Q ⟨Z, α, β, env, S, d, S', R, e1, q⟩ => by
    unfold dVar at e1
    split at e1
    · rename_i d' e
      cases e1
      obtain ⟨v, e2, r⟩ := R.slot i _ e
      exact ⟨v, e2, q v H β R .refl (.inl r)⟩
    · cases e1
theorem E.varB (i : Nat) {x : PySem.Str} (hN : X.N[i]? = some x := by rfl) (hv : Vis X.env.scope x := by first | exact Or.inl rfl | exact Or.inr (Or.inl rfl) | exact Or.inr (Or.inr rfl))
    (hd : (x == ("__debug__" : PySem.Str)) = false := by decide) (hcd : (x == ("__classdict__" : PySem.Str)) = false := by decide) : EX X true (.Name x pos) (dVarB i) :=
  PE.imp (pe_var hN hv hd hcd) fun σ H Q ⟨Z, α, β, env, S, d, S', R, e1, q⟩ => by
    unfold dVarB at e1
    split at e1
    · rename_i d' e
      cases e1
      obtain ⟨v, e2, r⟩ := R.slot i _ e
      exact ⟨v, e2, q v H β R .refl (.inl r)⟩
    · rename_i c e
      cases e1
      obtain ⟨a, o, e2, e3, e4, r⟩ := R.slot i _ e
      exact ⟨_, e2, q _ H β R .refl (.inr ⟨rfl, i, a, c, o, e3, e4, r, rfl, rfl⟩)⟩
    · cases e1
def dC (d : D) : DE := fun _ S => some (d, S)
theorem E.con {e : Expr} {v : V} {d : D} (h : PE X e (tC v)) (hr : ∀ β O H, Rep X.K (mX X) β O H d v) : EX X b e (dC d) :=
  PE.imp h fun σ H Q ⟨Z, α, β, env, S, d', S', R, e1, q⟩ => by
    cases e1
    exact q v H β R .refl (.inl (hr _ _ _))
theorem E.int {i : Int} {j : Nat} : EX X b (.Constant (.int i) j pos) (dC (.int i)) := E.con pe_int fun _ _ _ => .int i
theorem E.bl {i : Bool} {j : Nat} : EX X b (.Constant (.bool i) j pos) (dC (.bl i)) := E.con pe_bl fun _ _ _ => .bl i
theorem E.non {j : Nat} : EX X b (.Constant .none j pos) (dC .non) := E.con pe_non fun _ _ _ => .non
theorem E.str {x : PySem.Str} {j : Nat} : EX X b (.Constant (.str x) j pos) (dC (.str x)) := E.con pe_str fun _ _ _ => .str x
/-- a def of the text as a value -/
theorem E.fn {f : String} {a : Addr} (hg : Gl X (PySem.Str.ofString f)) (hm : X.mg (PySem.Str.ofString f) = some (.ref a)) (hd : (PySem.Str.ofString f == ("__debug__" : PySem.Str)) = false := by decide) : EX X b (.Name (PySem.Str.ofString f) pos) (dC (.fn f)) :=
  E.con (v := .ref a) (pe_glob hg hm rfl hd) fun _ _ _ => .fn hm
end

/-! ### two operands -/
def dOp2 (f : Sto → D → D → Option D) (ta tb : DE) : DE := fun env S => (ta env S).bind fun p => (tb env p.2).bind fun q => (f q.2 p.1 q.1).map fun z => (z, q.2)
def dOp1 (f : Sto → D → Option D) (ta : DE) : DE := fun env S => (ta env S).bind fun p => (f p.2 p.1).map fun z => (z, p.2)
/-- what a rule over values gives, by data -/
def Br2 (K : PySem.W.Frag) (mg : Mg) (r : R2) (f : Sto → D → D → Option D) : Prop :=
  ∀ (Z : Addr → Prop) (α : Nat → Option Addr) (β : List Addr) (env : Env) (S : Sto) (σ : L2.St) (H : Hp), Rel K mg Z α β env S σ H → ∀ (x y : D) (v w : V) (d : D), Res K mg Z α β H true x v → Res K mg Z α β H true y w → f S x y = some d →
    ∀ Q : VK, (∀ z H', Rel K mg Z α β env S σ H' → Adv (Wb β) β H β H' → Rep K mg β (Oo Z α β) H' d z → Q z H') → r v w H Q
def Br1 (K : PySem.W.Frag) (mg : Mg) (r : V → Hp → VK → Prop) (f : Sto → D → Option D) : Prop :=
  ∀ (Z : Addr → Prop) (α : Nat → Option Addr) (β : List Addr) (env : Env) (S : Sto) (σ : L2.St) (H : Hp), Rel K mg Z α β env S σ H → ∀ (x : D) (v : V) (d : D), Res K mg Z α β H true x v → f S x = some d →
    ∀ Q : VK, (∀ z H', Rel K mg Z α β env S σ H' → Adv (Wb β) β H β H' → Rep K mg β (Oo Z α β) H' d z → Q z H') → r v H Q
section
variable {X : Cx} {b : Bool} {pos : Pos}
theorem rd_op2 {r : R2} {f : Sto → D → D → Option D} {ta tb : DE} (br : Br2 X.K (mX X) r f) (σ : L2.St) (H : Hp) (Q : VK) (h : rdX X.K (mX X) b (dOp2 f ta tb) σ H Q) :
    tOp r (rdX X.K (mX X) true ta) (rdX X.K (mX X) true tb) σ H Q := by
  obtain ⟨Z, α, β, env, S, d, S', R, e1, q⟩ := h
  unfold dOp2 at e1
  obtain ⟨⟨x, S1⟩, ex, e1⟩ := Option.bind_eq_some_iff.mp e1
  obtain ⟨⟨y, S2⟩, ey, e1⟩ := Option.bind_eq_some_iff.mp e1
  obtain ⟨z, ez, e1⟩ := Option.map_eq_some_iff.mp e1
  cases e1
  refine ⟨Z, α, β, env, S, x, S1, R, ex, fun v H1 β1 R1 A1 r1 => ?_⟩
  refine ⟨Z, α, β1, env, S1, y, S2, R1, ey, fun w H2 β2 R2 A2 r2 => ?_⟩
  exact br Z α β2 env S2 σ H2 R2 x y v w d (r1.adv R1 A2) r2 ez Q fun z H3 R3 A3 r3 => q z H3 β2 R3 ((A1.trb A2).trb A3) (.inl r3)
theorem rd_op1 {r : V → Hp → VK → Prop} {f : Sto → D → Option D} {ta : DE} (br : Br1 X.K (mX X) r f) (σ : L2.St) (H : Hp) (Q : VK) (h : rdX X.K (mX X) b (dOp1 f ta) σ H Q) :
    tUn r (rdX X.K (mX X) true ta) σ H Q := by
  obtain ⟨Z, α, β, env, S, d, S', R, e1, q⟩ := h
  unfold dOp1 at e1
  obtain ⟨⟨x, S1⟩, ex, e1⟩ := Option.bind_eq_some_iff.mp e1
  obtain ⟨z, ez, e1⟩ := Option.map_eq_some_iff.mp e1
  cases e1
  refine ⟨Z, α, β, env, S, x, S1, R, ex, fun v H1 β1 R1 A1 r1 => ?_⟩
  exact br Z α β1 env S1 σ H1 R1 x v d r1 ez Q fun z H3 R3 A3 r3 => q z H3 β1 R3 (A1.trb A3) (.inl r3)
theorem E.op2 {op : Operator} {r : R2} {f : Sto → D → D → Option D} {ea eb : Expr} {ta tb : DE} (ho : OpR X (binaryOp op) r) (br : Br2 X.K (mX X) r f) (ha : EX X true ea ta) (hb : EX X true eb tb) : EX X b (.BinOp ea op eb pos) (dOp2 f ta tb) :=
  PE.imp (pe_op ho ha hb) fun σ H Q h => rd_op2 br σ H Q h
theorem E.cmpR {op : CmpOp} {r : R2} {f : Sto → D → D → Option D} {ea eb : Expr} {ta tb : DE} (ho : OpR X (compareOp op) r) (br : Br2 X.K (mX X) r f) (ha : EX X true ea ta) (hb : EX X true eb tb) (hm : behindInMarks op eb = false) : EX X b (.Compare ea [op] [eb] pos) (dOp2 f ta tb) :=
  PE.imp (pe_cmpR ho ha hb hm) fun σ H Q h => rd_op2 br σ H Q h
theorem E.un {op : UnaryOp} {r : V → Hp → VK → Prop} {f : Sto → D → Option D} {ea : Expr} {ta : DE} (ho : UnR X (unaryOp op) r) (br : Br1 X.K (mX X) r f) (ha : EX X true ea ta) : EX X b (.UnaryOp op ea pos) (dOp1 f ta) :=
  PE.imp (pe_un ho ha) fun σ H Q h => rd_op1 br σ H Q h
theorem E.ixR {r : R2} {f : Sto → D → D → Option D} {ea eb : Expr} {ta tb : DE} (ho : IxR X r) (br : Br2 X.K (mX X) r f) (ha : EX X true ea ta) (hb : EX X true eb tb) (hs : PlainIx eb) : EX X b (.Subscript ea eb pos) (dOp2 f ta tb) :=
  PE.imp (pe_ix ho ha hb hs) fun σ H Q h => rd_op2 br σ H Q h
end
theorem Br2.or {K : PySem.W.Frag} {mg : Mg} {r r' : R2} {f f' g : Sto → D → D → Option D} (h : Br2 K mg r f) (h' : Br2 K mg r' f') (hg : ∀ S x y d, g S x y = some d → f S x y = some d ∨ f' S x y = some d) : Br2 K mg (fun x y H Q => r x y H Q ∨ r' x y H Q) g :=
  fun Z α β env S σ H R x y v w d rx ry e Q q => (hg S x y d e).elim (fun e => .inl (h Z α β env S σ H R x y v w d rx ry e Q q)) fun e => .inr (h' Z α β env S σ H R x y v w d rx ry e Q q)

/-! ### the operators -/
section
variable {K : PySem.W.Frag} {mg : Mg}
theorem Res.int {Z : Addr → Prop} {α : Nat → Option Addr} {β : List Addr} {H : Hp} {b : Bool} {i : Int} {v : V} (r : Res K mg Z α β H b (.int i) v) : v = .int i := by
  rcases r with r | ⟨_, _, _, c, _, _, _, h3, h4, _⟩
  · cases r; rfl
  · cases h3 <;> cases h4
theorem Res.str {Z : Addr → Prop} {α : Nat → Option Addr} {β : List Addr} {H : Hp} {b : Bool} {i : PySem.Str} {v : V} (r : Res K mg Z α β H b (.str i) v) : v = .str i := by
  rcases r with r | ⟨_, _, _, c, _, _, _, h3, h4, _⟩
  · cases r; rfl
  · cases h3 <;> cases h4
theorem Res.bl {Z : Addr → Prop} {α : Nat → Option Addr} {β : List Addr} {H : Hp} {b : Bool} {i : Bool} {v : V} (r : Res K mg Z α β H b (.bl i) v) : v = .bl i := by
  rcases r with r | ⟨_, _, _, c, _, _, _, h3, h4, _⟩
  · cases r; rfl
  · cases h3 <;> cases h4
theorem Res.non {Z : Addr → Prop} {α : Nat → Option Addr} {β : List Addr} {H : Hp} {b : Bool} {v : V} (r : Res K mg Z α β H b .non v) : v = .non := by
  rcases r with r | ⟨_, _, _, c, _, _, _, h3, h4, _⟩
  · cases r; rfl
  · cases h3 <;> cases h4
/-- two ints -/
def iiD (C : Int → Int → Bool) (g : Int → Int → D) : D → D → Option D
  | .int i, .int j => if C i j = true then some (g i j) else none
  | _, _ => none
theorem iiD_some {C : Int → Int → Bool} {g : Int → Int → D} {x y d : D} (h : iiD C g x y = some d) : ∃ i j, x = .int i ∧ y = .int j ∧ C i j = true ∧ d = g i j := by
  cases x <;> cases y <;> simp only [iiD] at h <;> try (cases h; done)
  split at h
  · cases h; exact ⟨_, _, rfl, rfl, by assumption, rfl⟩
  · cases h
theorem br_ii {C : Int → Int → Bool} {P : Int → Int → Prop} {g : Int → Int → D} {gv : Int → Int → V} (hP : ∀ i j, C i j = true → P i j) (hg : ∀ i j β O H, C i j = true → Rep K mg β O H (g i j) (gv i j)) :
    Br2 K mg (rI P gv) (fun _ => iiD C g) := fun Z α β env S σ H R x y v w d rx ry e Q q => by
  obtain ⟨i, j, rfl, rfl, hc, rfl⟩ := iiD_some e
  exact ⟨i, j, rx.int, ry.int, hP i j hc, q _ H R .refl (hg i j _ _ _ hc)⟩
theorem br_ii0 {g : Int → Int → D} {gv : Int → Int → V} (hg : ∀ i j β O H, Rep K mg β O H (g i j) (gv i j)) :
    Br2 K mg (rI0 gv) (fun _ => iiD (fun _ _ => true) g) := fun Z α β env S σ H R x y v w d rx ry e Q q => by
  obtain ⟨i, j, rfl, rfl, hc, rfl⟩ := iiD_some e
  exact ⟨i, j, rx.int, ry.int, q _ H R .refl (hg i j _ _ _)⟩

/-- + -/
def addD (S : Sto) (x y : D) : Option D := match x, y with
  | .int i, .int j => some (.int (i + j))
  | .str i, .str j => if i.length + j.length ≤ sizeLine then some (.str (i ++ j)) else none
  | x, y => match seqD S x, seqD S y with
    | some (true, xs), some (true, ys) => if xs.length + ys.length ≤ sizeLine then some (.tup (xs ++ ys)) else none
    | some (false, xs), some (false, ys) => if xs.length + ys.length ≤ sizeLine then some (.lst (xs ++ ys)) else none
    | _, _ => none
def rAddA (K : PySem.W.Frag) : R2 := fun x y H Q => rI0 (fun i j => .int (i + j)) x y H Q ∨ (∃ i j, x = .str i ∧ y = .str j ∧ i.length + j.length ≤ sizeLine ∧ Q (.str (i ++ j)) H) ∨ rCatN K x y H Q ∨ rCat x y H Q
theorem op_addA {X : Cx} : OpR X (binaryOp .Add) (rAddA X.K) := op_add.or (op_add_str.or (op_catN.or op_cat))
theorem Rel.tupN {Z : Addr → Prop} {α : Nat → Option Addr} {β : List Addr} {env : Env} {S : Sto} {σ : L2.St} {H : Hp} (R : Rel K mg Z α β env S σ H) {ds : List D} {vs : List V} (r : Reps K mg β (Oo Z α β) H ds vs) {p : Addr} {o : Obj} (n : H p = none) (hd : o.dict = none) :
    Rep K mg β (Oo Z α β) (upd H p (.frz o (.tup vs))) (.tup ds) (.ref p) := .tup (.inl ⟨⟨o, upd_same, hd⟩, R.notO n⟩) (r.adv (Adv.upd n))
theorem Rel.parN {Z : Addr → Prop} {α : Nat → Option Addr} {β : List Addr} {env : Env} {S : Sto} {σ : L2.St} {H : Hp} (R : Rel K mg Z α β env S σ H) {ds : List D} {vs : List V} (r : Reps K mg β (Oo Z α β) H ds vs) {p : Addr} (n : H p = none) :
    Rep K mg β (Oo Z α β) (upd H p (.tup vs)) (.par ds) (.ref p) := .par ⟨.inl upd_same, R.notO n⟩ (r.adv (Adv.upd n))
theorem Rel.lstN {Z : Addr → Prop} {α : Nat → Option Addr} {β : List Addr} {env : Env} {S : Sto} {σ : L2.St} {H : Hp} (R : Rel K mg Z α β env S σ H) {ds : List D} {vs : List V} (r : Reps K mg β (Oo Z α β) H ds vs) {p : Addr} (n : H p = none) :
    Rep K mg β (Oo Z α β) (upd H p (.lst vs)) (.lst ds) (.ref p) := .lst upd_same (R.notO n) (r.adv (Adv.upd n))
theorem Res.repT {Z : Addr → Prop} {α : Nat → Option Addr} {β : List Addr} {H : Hp} {b : Bool} {d : D} {v : V} (r : Res K mg Z α β H b d v) {S : Sto} {xs : List D} (h : seqD S d = some (true, xs)) : Rep K mg β (Oo Z α β) H (.tup xs) v := by
  rcases r with r | ⟨_, i, a, c, o, h1, h2, h3, h4, h5⟩
  · cases r with
    | tup h1 h2 => cases h; exact .tup h1 h2
    | lst h1 n h2 => cases h
    | ref h1 =>
      simp only [seqD] at h
      split at h <;> cases h
    | _ => cases h
  · subst h4
    cases h3 <;> cases h
theorem seq_tt {H : Hp} {a : Addr} {vs : List V} (h : if true = true then SqT K H a vs else H a = some (.lst vs)) : SqT K H a vs := by simpa using h
theorem seq_ff {H : Hp} {a : Addr} {vs : List V} (h : if false = true then SqT K H a vs else H a = some (.lst vs)) : H a = some (.lst vs) := by simpa using h
theorem br_add : Br2 K mg (rAddA K) addD := fun Z α β env S σ H R x y v w d rx ry e Q q => by
  unfold addD at e
  split at e
  · cases e; exact .inl ⟨_, _, rx.int, ry.int, q _ H R .refl (.int _)⟩
  · split at e
    · cases e; exact .inr (.inl ⟨_, _, rx.str, ry.str, by assumption, q _ H R .refl (.str _)⟩)
    · cases e
  · split at e
    · rename_i xs ys e1 e2
      split at e
      · rename_i hz
        cases e
        obtain ⟨a, vs, rfl, r1, h1⟩ := rx.seq R e1
        obtain ⟨a2, us, rfl, r2, h2⟩ := ry.seq R e2
        rw [r1.length, r2.length] at hz
        refine .inr (.inr (.inl ⟨a, a2, vs, us, rfl, rfl, seq_tt h1, seq_tt h2, hz, fun z => ?_, fun _ z => ?_, fun _ _ p o n hd => ?_⟩))
        · subst z; cases r1; exact q _ H R .refl (ry.repT e2)
        · subst z; cases r2; refine q _ H R .refl ?_; rw [List.append_nil]; exact rx.repT e1
        · exact q _ _ (R.nw n) (Adv.upd n) (R.tupN (r1.append r2) n hd)
      · cases e
    · rename_i xs ys e1 e2
      split at e
      · rename_i hz
        cases e
        obtain ⟨a, vs, rfl, r1, h1⟩ := rx.seq R e1
        obtain ⟨a2, us, rfl, r2, h2⟩ := ry.seq R e2
        rw [r1.length, r2.length] at hz
        exact .inr (.inr (.inr ⟨a, a2, vs, us, rfl, rfl, seq_ff h1, seq_ff h2, hz, fun p n => q _ _ (R.nw n) (Adv.upd n) (R.lstN (r1.append r2) n)⟩))
      · cases e
    · cases e

/-! ### * // % ** - -/
def subD (_ : Sto) : D → D → Option D := iiD (fun _ _ => true) fun i j => .int (i - j)
noncomputable def powD (_ : Sto) (x y : D) : Option D := match x, y with
  | .int i, .int j => chk (CPow i j) (some (.int (i ^ j.toNat)))
  | _, _ => none
def modD (_ : Sto) (x y : D) : Option D := match x, y with
  | .int i, .int j => if 0 < j then some (.int (i % j)) else if j < 0 then some (.int (i.fmod j)) else none
  | _, _ => none
noncomputable def fdivD (_ : Sto) (x y : D) : Option D := match x, y with
  | .int i, .int j => if 0 < j then chk (CDiv i j) (some (.int (i / j))) else chk (CDivN i j) (some (.int (i.fdiv j)))
  | _, _ => none
def rFdivA : R2 := fun x y H Q => rI CDiv (fun i j => .int (i / j)) x y H Q ∨ rI CDivN (fun i j => .int (i.fdiv j)) x y H Q
theorem op_fdivA {X : Cx} : OpR X (binaryOp .FloorDiv) rFdivA := op_fdiv.or op_fdivN
def rModA : R2 := fun x y H Q => rI (fun _ j => 0 < j) (fun i j => .int (i % j)) x y H Q ∨ rI (fun _ j => j ≠ 0) (fun i j => .int (i.fmod j)) x y H Q
theorem op_modA {X : Cx} : OpR X (binaryOp .Mod) rModA := op_mod.or op_modN
theorem br_sub : Br2 K mg (rI0 fun i j => .int (i - j)) subD := br_ii0 fun i j β O H => .int _
theorem br_pow : Br2 K mg (rI CPow fun i j => .int (i ^ j.toNat)) powD := fun Z α β env S σ H R x y v w d rx ry e Q q => by
  unfold powD at e
  split at e
  · obtain ⟨h, e⟩ := chk_some e
    cases e; exact ⟨_, _, rx.int, ry.int, h, q _ H R .refl (.int _)⟩
  · cases e
theorem br_mod : Br2 K mg rModA modD := fun Z α β env S σ H R x y v w d rx ry e Q q => by
  unfold modD at e
  split at e
  · split at e
    · cases e; exact .inl ⟨_, _, rx.int, ry.int, by assumption, q _ H R .refl (.int _)⟩
    · split at e
      · cases e; exact .inr ⟨_, _, rx.int, ry.int, by omega, q _ H R .refl (.int _)⟩
      · cases e
  · cases e
theorem br_fdiv : Br2 K mg rFdivA fdivD := fun Z α β env S σ H R x y v w d rx ry e Q q => by
  unfold fdivD at e
  split at e
  · split at e
    · obtain ⟨h, e⟩ := chk_some e
      cases e; exact .inl ⟨_, _, rx.int, ry.int, h, q _ H R .refl (.int _)⟩
    · obtain ⟨h, e⟩ := chk_some e
      cases e; exact .inr ⟨_, _, rx.int, ry.int, h, q _ H R .refl (.int _)⟩
  · cases e
/-- a sequence n times -/
def repL (xs : List D) (k : Int) : List D := (List.replicate k.toNat xs).flatten
def negD (_ : Sto) : D → Option D
  | .int i => some (.int (-i))
  | _ => none
theorem br_neg : Br1 K mg (rU fun i => .int (-i)) negD := fun Z α β env S σ H R x v d rx e Q q => by
  unfold negD at e
  split at e
  · cases e; exact ⟨_, rx.int, q _ H R .refl (.int _)⟩
  · cases e
end
section
variable {X : Cx} {b : Bool} {pos : Pos} {ea eb : Expr} {ta tb : DE}
abbrev dAdd := dOp2 addD
abbrev dSub := dOp2 subD
abbrev dMod := dOp2 modD
noncomputable abbrev dFdiv := dOp2 fdivD
noncomputable abbrev dPow := dOp2 powD
abbrev dNeg := dOp1 negD
theorem E.add (ha : EX X true ea ta) (hb : EX X true eb tb) : EX X b (.BinOp ea .Add eb pos) (dAdd ta tb) := E.op2 op_addA br_add ha hb
theorem E.sub (ha : EX X true ea ta) (hb : EX X true eb tb) : EX X b (.BinOp ea .Sub eb pos) (dSub ta tb) := E.op2 op_sub br_sub ha hb
theorem E.mod (ha : EX X true ea ta) (hb : EX X true eb tb) : EX X b (.BinOp ea .Mod eb pos) (dMod ta tb) := E.op2 op_modA br_mod ha hb
theorem E.fdiv (ha : EX X true ea ta) (hb : EX X true eb tb) : EX X b (.BinOp ea .FloorDiv eb pos) (dFdiv ta tb) := E.op2 op_fdivA br_fdiv ha hb
theorem E.pow (ha : EX X true ea ta) (hb : EX X true eb tb) : EX X b (.BinOp ea .Pow eb pos) (dPow ta tb) := E.op2 op_pow br_pow ha hb
theorem E.neg (ha : EX X true ea ta) : EX X b (.UnaryOp .USub ea pos) (dNeg ta) := E.un un_neg br_neg ha
end
end Rf
end
section
set_option maxHeartbeats 4000000
/-! RfA: what the layer lacked: tuple * int in all cases. -/
namespace Rf
open PySem PySem.Spec PyProof.Rows L2
theorem tuple_mul1 (l : Addr) (items : Array Value) (n : Nat) (dd : Option Addr) (sl : Array (Option Value)) (x : Int) (u : Tok) (c0 : (decide (x < -(2 ^ 63)) || decide (x ≥ 2 ^ 63)) = false) (c1 : (items.isEmpty || x == 1) = true) :
    Meets (Builtin.«tuple.__mul__» ⟨[.ref l, .int x u], []⟩) (fun _ R s => s.heap.get? l = some { cls := .type "tuple", dict := dd, data := .seq items n, slots := sl } ∧ R (.ok (.ret (Value.ref l))) s) :=
  .of_wp fun prog w A R s h => by
    obtain ⟨hp, g, d, tk, os⟩ := s
    obtain ⟨hl, h⟩ := h
    have f1 := AutoSeq1.idx_int
    wp_walk using wpAny_loadPart' hl
    repeat (first
      | (refine wpAny_ite_false (decide_eq_false (by rw [c0]; exact Bool.false_ne_true)) ?_; wp_walk using wpAny_loadPart' hl)
      | (refine wpAny_ite_true (decide_eq_true (by rw [c1])) ?_; wp_walk using wpAny_loadPart' hl))
    exact ⟨_, rfl, h⟩
theorem tuple_mul0 (l : Addr) (items : Array Value) (n : Nat) (dd : Option Addr) (sl : Array (Option Value)) (x : Int) (u : Tok) (c0 : (decide (x < -(2 ^ 63)) || decide (x ≥ 2 ^ 63)) = false) (c1 : (items.isEmpty || x == 1) = false) (c2 : (decide (x ≤ 0) || items.isEmpty) = true) :
    Meets (Builtin.«tuple.__mul__» ⟨[.ref l, .int x u], []⟩) (fun _ R s => s.heap.get? l = some { cls := .type "tuple", dict := dd, data := .seq items n, slots := sl } ∧
      R (.ok (.ret (Value.ref s.heap.objs.size))) { s with heap := s.heap.push { cls := Value.type "tuple", data := Data.seq #[] }, toks := s.toks }) :=
  .of_wp fun prog w A R s h => by
    obtain ⟨hp, g, d, tk, os⟩ := s
    obtain ⟨hl, h⟩ := h
    have f1 := AutoSeq1.idx_int
    have z0 : ¬ ((#[] : Array Value).size > sizeLine) := by simp
    wp_walk using wpAny_loadPart' hl
    repeat (first
      | (refine wpAny_ite_false (decide_eq_false (by rw [c0]; exact Bool.false_ne_true)) ?_; wp_walk using wpAny_loadPart' hl)
      | (refine wpAny_ite_false (decide_eq_false (by rw [c1]; exact Bool.false_ne_true)) ?_; wp_walk using wpAny_loadPart' hl)
      | (refine wpAny_ite_true (decide_eq_true (by rw [c2])) ?_; wp_walk using wpAny_loadPart' hl)
      | (refine wpAny_ite_false (decide_eq_false z0) ?_; wp_walk using wpAny_loadPart' hl))
    exact ⟨_, rfl, h⟩
def rRepA (K : PySem.W.Frag) : R2 := fun x y H Q => ∃ l k xs, x = .ref l ∧ y = .int k ∧ SqT K H l xs ∧ -(2 ^ 63) ≤ k ∧ k < 2 ^ 63 ∧ xs.length * k.toNat ≤ sizeLine ∧
  (xs = [] ∨ k = 1 → Q (.ref l) H) ∧ (k ≤ 0 → xs ≠ [] → NT H [] Q) ∧ (xs ≠ [] → 2 ≤ k → NT H (List.replicate k.toNat xs).flatten Q)
theorem op_repA {X : Cx} : OpR X (binaryOp .Mult) (rRepA X.K) := by
  intro pins s σ H x y v u Q I rx ry h
  obtain ⟨l, k, xs, rfl, rfl, hT, h1, h2, hz, q1, q0, q⟩ := h
  cases rx
  obtain ⟨t, rfl⟩ := ry
  obtain ⟨its, r, ⟨⟨cls, dd, data, sl⟩, ho, hc, n, hd⟩, hs⟩ := I.tuple hT
  simp only at hc hd
  subst hc hd
  have hle : its.length = xs.length := r.length.symm
  have hsz0 : its.toArray.size = xs.length := by rw [List.size_toArray, hle]
  have hem : its.toArray.isEmpty = decide (xs = []) := by
    cases its with
    | nil => cases xs with
      | nil => rfl
      | cons a b => simp at hle
    | cons a b => cases xs with
      | nil => simp at hle
      | cons a b => rfl
  have c0 : (decide (k < -(2 ^ 63)) || decide (k ≥ 2 ^ 63)) = false := by
    rw [decide_eq_false (by omega), decide_eq_false (by omega)] <;> rfl
  by_cases e1 : xs = [] ∨ k = 1
  · have c1 : (its.toArray.isEmpty || k == 1) = true := by
      rw [hem]
      rcases e1 with e1 | e1
      · rw [decide_eq_true e1, Bool.true_or]
      · rw [e1]; simp
    refine wpAny_binaryOp_repeat_ref (T := "tuple") (U := "int") (by decide) ⟨_, ho, rfl⟩ (fun s' => typeIs_int s' k t) noFill_tuple_mul F.fills_int_mul F.slot_int_rmul repeat_tuple F.slot_int_index.lookup
      (call_meets F.slot_int_rmul (typeIs_int s k t) F.entry_int_rmul (F.args_int_rmul_2 _ _) (int_rmul_tuple k t l its.toArray n dd sl)
        ⟨ho, rfl, ⟨_, ho, rfl⟩, call_meets F.slot_tuple_mul ⟨_, ho, rfl⟩ F.entry_tuple_mul (F.args_tuple_mul_2 _ _) (tuple_mul1 l its.toArray n dd sl k t c0 c1) ⟨ho, ?_⟩⟩)
    exact ⟨.ref l, H, I, rfl, q1 e1⟩
  · have hne : xs ≠ [] := fun z => e1 (.inl z)
    have hi : its.toArray.isEmpty = false := by rw [hem, decide_eq_false hne]
    have c1 : (its.toArray.isEmpty || k == 1) = false := by
      rw [hi, Bool.false_or]
      exact beq_eq_false_iff_ne.mpr fun z => e1 (.inr z)
    by_cases e0 : k ≤ 0
    · have c2 : (decide (k ≤ 0) || its.toArray.isEmpty) = true := by rw [decide_eq_true e0, Bool.true_or]
      refine wpAny_binaryOp_repeat_ref (T := "tuple") (U := "int") (by decide) ⟨_, ho, rfl⟩ (fun s' => typeIs_int s' k t) noFill_tuple_mul F.fills_int_mul F.slot_int_rmul repeat_tuple F.slot_int_index.lookup
        (call_meets F.slot_int_rmul (typeIs_int s k t) F.entry_int_rmul (F.args_int_rmul_2 _ _) (int_rmul_tuple k t l its.toArray n dd sl)
          ⟨ho, rfl, ⟨_, ho, rfl⟩, call_meets F.slot_tuple_mul ⟨_, ho, rfl⟩ F.entry_tuple_mul (F.args_tuple_mul_2 _ _) (tuple_mul0 l its.toArray n dd sl k t c0 c1 c2) ⟨ho, ?_⟩⟩)
      exact nt_laid I (Nat.zero_le _) .nil (q0 e0 hne)
    · have hk : 2 ≤ k := by
        have : k ≠ 1 := fun z => e1 (.inr z)
        omega
      have hm : ((its.toArray.size : Nat) : Int) * k ≤ ((sizeLine : Nat) : Int) := by
        rw [hsz0]
        have e : ((k.toNat : Nat) : Int) = k := Int.toNat_of_nonneg (by omega)
        calc ((xs.length : Nat) : Int) * k = ((xs.length * k.toNat : Nat) : Int) := by rw [Int.natCast_mul, e]
          _ ≤ ((sizeLine : Nat) : Int) := Int.ofNat_le.mpr hz
      have flen : (List.replicate k.toNat its).flatten.length ≤ sizeLine := by
        rw [PyProof.Rows.lm_len_rep_flat, hle, Nat.mul_comm]
        exact hz
      have c2 : (decide (k ≤ 0) || its.toArray.isEmpty) = false := by
        rw [hi, Bool.or_false]
        exact decide_eq_false e0
      have c4 : Builtin.Tuple.tupleTooMany (((its.toArray.size : Nat) : Int) * k) = false := by
        unfold Builtin.Tuple.tupleTooMany
        exact decide_eq_false (by omega)
      have c3 : ¬ ((its.toArray.size : Nat) : Int) * k > (2 ^ 63 - 1) / 8 := by
        have : ((sizeLine : Nat) : Int) ≤ (2 ^ 63 - 1) / 8 := by decide
        omega
      refine wpAny_binaryOp_repeat_ref (T := "tuple") (U := "int") (by decide) ⟨_, ho, rfl⟩ (fun s' => typeIs_int s' k t) noFill_tuple_mul F.fills_int_mul F.slot_int_rmul repeat_tuple F.slot_int_index.lookup
        (call_meets F.slot_int_rmul (typeIs_int s k t) F.entry_int_rmul (F.args_int_rmul_2 _ _) (int_rmul_tuple k t l its.toArray n dd sl)
          ⟨ho, rfl, ⟨_, ho, rfl⟩, call_meets F.slot_tuple_mul ⟨_, ho, rfl⟩ F.entry_tuple_mul (F.args_tuple_mul_2 _ _) (tuple_mulW l its.toArray n dd sl k t c0 c1 c2 c3 c4 (by rw [size_rep, List.size_toArray]; exact flen)) ⟨ho, ?_⟩⟩)
      rw [size_rep]
      exact nt_laid I (by rw [PyProof.Rows.lm_len_rep_flat, Nat.mul_comm]; exact hz) (r.rep k.toNat) (q hne hk)
end Rf
end
section
set_option maxHeartbeats 200000
/-! Rf, part 3: comparisons, items, slices, displays, tests. -/
namespace Rf
open PySem PySem.Spec PyProof.Rows L2

mutual
def pyD : D → Option PyData
  | .non => some .none
  | .bl b => some (.bool b)
  | .int i => some (.int i)
  | .str x => some (.str x)
  | .tup xs => (pyDs xs).map .tuple
  | .lst xs => (pyDs xs).map .list
  | .par _ => none
  | .scr _ => none
  | .dct _ _ => none
  | .ref _ => none
  | .fn _ => none
def pyDs : List D → Option (List PyData)
  | [] => some []
  | x :: xs => (pyD x).bind fun p => (pyDs xs).map fun ps => p :: ps
end
def pyS (S : Sto) : D → Option PyData
  | .ref n => match S[n]? with
    | some (.lst xs) => (pyDs xs).map .list
    | _ => none
  | d => pyD d
section
variable {K : PySem.W.Frag} {mg : Mg} {Z : Addr → Prop} {α : Nat → Option Addr} {β β' β'' : List Addr} {O : Addr → Prop} {H H' H'' : Hp} {env : Env} {S S' : Sto} {σ : L2.St} {b : Bool} {d : D} {v : V}
mutual
theorem Rep.dp : ∀ {d : D} {v : V} {p : PyData}, Rep K mg β O H d v → pyD d = some p → Dp K H v p
  | .non, _, _, r, h => by cases r; cases h; exact .non
  | .bl b, _, _, r, h => by cases r; cases h; exact .bl b
  | .int b, _, _, r, h => by cases r; cases h; exact .int b
  | .str b, _, _, r, h => by cases r; cases h; exact .str b
  | .tup xs, _, _, r, h => by
    cases r with
    | tup r1 r2 =>
      rw [pyD] at h
      obtain ⟨ps, e, rfl⟩ := Option.map_eq_some_iff.mp h
      exact .tup r1.sq (Reps.dp r2 e)
  | .lst xs, _, _, r, h => by
    cases r with
    | lst r1 n r2 =>
      rw [pyD] at h
      obtain ⟨ps, e, rfl⟩ := Option.map_eq_some_iff.mp h
      exact .lst (.of r1) (Reps.dp r2 e)
  | .par xs, _, _, r, h => by cases h
  | .scr xs, _, _, r, h => by cases h
  | .dct _ _, _, _, _, h => by cases h
  | .ref _, _, _, _, h => by cases h
  | .fn _, _, _, _, h => by cases h
theorem Reps.dp : ∀ {d : List D} {v : List V} {p : List PyData}, Reps K mg β O H d v → pyDs d = some p → DpAll K H v p
  | [], _, _, r, h => by cases r; cases h; exact .nil
  | x :: xs, _, _, r, h => by
    cases r with
    | cons r1 r2 =>
      rw [pyDs] at h
      obtain ⟨p, e1, h⟩ := Option.bind_eq_some_iff.mp h
      obtain ⟨ps, e2, rfl⟩ := Option.map_eq_some_iff.mp h
      exact .cons (Rep.dp r1 e1) (Reps.dp r2 e2)
end
theorem Res.dp (R : Rel K mg Z α β env S σ H) {p : PyData} (r : Res K mg Z α β H b d v) (h : pyS S d = some p) : Dp K H v p := by
  rcases r with r | ⟨_, i, a, c, o, h1, h2, h3, h4, h5⟩
  · cases d with
    | ref n =>
      cases r with
      | ref h1 =>
        simp only [pyS] at h
        split at h
        · rename_i ys e
          obtain ⟨ps, e', rfl⟩ := Option.map_eq_some_iff.mp h
          obtain ⟨o, e2, c⟩ := R.cell _ _ _ e h1
          replace c := c.ok
          cases c with
          | lst c => exact .lst (.of e2) (Reps.dp c e')
        · cases h
    | _ => exact Rep.dp r h
  · subst h4 h5
    cases h3 with
    | lst h3 =>
      have h : (pyDs _).map PyData.list = some p := h
      obtain ⟨ps, e', rfl⟩ := Option.map_eq_some_iff.mp h
      exact .lst (.of h2) (Reps.dp h3 e')
    | dct _ _ => cases h
end

/-! ### == != in, not in, < of data -/
def eqS (S : Sto) (x y : D) : Option Bool := match pyS S x, pyS S y with
  | some p, some q => if SeqAt.shaped p && SeqAt.shaped q then some (PyData.eqv p q) else none
  | _, _ => none
theorem eqS_some {S : Sto} {x y : D} {k : Bool} (h : eqS S x y = some k) : ∃ p q, pyS S x = some p ∧ pyS S y = some q ∧ SeqAt.shaped p = true ∧ SeqAt.shaped q = true ∧ k = PyData.eqv p q := by
  unfold eqS at h
  split at h
  · split at h
    · rename_i hs
      cases h
      rw [Bool.and_eq_true] at hs
      exact ⟨_, _, by assumption, by assumption, hs.1, hs.2, rfl⟩
    · cases h
  · cases h
def eqD (S : Sto) (x y : D) : Option D := (eqS S x y).map .bl
def neD (S : Sto) (x y : D) : Option D := (eqS S x y).map fun k => .bl (!k)
def inS (S : Sto) (x y : D) : Option Bool := match x, y with
  | .str i, .str j => some (!(Builtin.Str.occurrences j i 0 j.length 1).isEmpty)
  | x, y => match pyS S x, pyS S y with
    | some p, some (.list qs) => if SeqAt.shaped p && SeqAt.shaped (.list qs) then some (qs.any fun z => PyData.eqv z p) else none
    | some p, some (.tuple qs) => if SeqAt.shaped p && SeqAt.shaped (.tuple qs) then some (qs.any fun z => PyData.eqv z p) else none
    | _, _ => none
def inD (S : Sto) (x y : D) : Option D := (inS S x y).map .bl
def ninD (S : Sto) (x y : D) : Option D := (inS S x y).map fun k => .bl (!k)
def notNoneP : PyData → Bool
  | .none => false
  | _ => true
def ltS (S : Sto) (x y : D) : Option Bool := match x, y with
  | .int i, .int j => some (decide (i < j))
  | x, y => match pyS S x, pyS S y with
    | some p, some q => if PySem.W.alike p q && SeqAt.shaped p && SeqAt.shaped q && notNoneP p then some (PySem.W.dataLt p q) else none
    | _, _ => none
def ltD (S : Sto) (x y : D) : Option D := (ltS S x y).map .bl
def leD (_ : Sto) : D → D → Option D := iiD (fun _ _ => true) fun i j => .bl (decide (i ≤ j))
def gtD (_ : Sto) : D → D → Option D := iiD (fun _ _ => true) fun i j => .bl (decide (j < i))
def geD (_ : Sto) : D → D → Option D := iiD (fun _ _ => true) fun i j => .bl (decide (j ≤ i))
def isNonD : D → Bool
  | .non => true
  | _ => false
def isS (x y : D) : Option Bool := match x, y with
  | x, .non => some (isNonD x)
  | .bl i, .bl j => some (i == j)
  | _, _ => none
def isD (_ : Sto) (x y : D) : Option D := (isS x y).map .bl
def isntD (_ : Sto) (x y : D) : Option D := (isS x y).map fun k => .bl (!k)

def rLtA (K : PySem.W.Frag) : R2 := fun x y H Q => rI0 (fun i j => .bl (decide (i < j))) x y H Q ∨ (∃ d e, Dp K H x d ∧ Dp K H y e ∧ SeqAt.shaped d = true ∧ SeqAt.shaped e = true ∧ PySem.W.alike d e = true ∧ d ≠ .none ∧ Q (.bl (PySem.W.dataLt d e)) H)
def rInA (K : PySem.W.Frag) (neg : Bool) : R2 := fun x y H Q => (∃ i j, x = .str i ∧ y = .str j ∧ Q (.bl (cond neg (!(!(Builtin.Str.occurrences j i 0 j.length 1).isEmpty)) (!(Builtin.Str.occurrences j i 0 j.length 1).isEmpty))) H) ∨
  (∃ d ds, Dp K H x d ∧ Dp K H y (.list ds) ∧ SeqAt.shaped d = true ∧ SeqAt.shaped (.list ds) = true ∧ Q (.bl (cond neg (!ds.any fun z => PyData.eqv z d) (ds.any fun z => PyData.eqv z d))) H) ∨
  (∃ d ds, Dp K H x d ∧ Dp K H y (.tuple ds) ∧ SeqAt.shaped d = true ∧ SeqAt.shaped (.tuple ds) = true ∧ Q (.bl (cond neg (!ds.any fun z => PyData.eqv z d) (ds.any fun z => PyData.eqv z d))) H)
section
variable {X : Cx}
theorem op_ltAny (hu : X.A.units + 64 < cLine) : OpR X (compareOp .Lt) (fun x y H Q => ∃ d e, Dp X.K H x d ∧ Dp X.K H y e ∧ SeqAt.shaped d = true ∧ SeqAt.shaped e = true ∧ PySem.W.alike d e = true ∧ d ≠ .none ∧ Q (.bl (PySem.W.dataLt d e)) H) := by
  intro pins s σ H x y v u Q I rx ry h
  obtain ⟨d, e, hd, he, sd, se, al, hn, q⟩ := h
  obtain ⟨as, r1⟩ := Dp.reads I d x v hd rx
  obtain ⟨bs, r2⟩ := Dp.reads I e y u he ry
  exact PySem.W.rcLt_alike d e X.A s v u as bs r1 r2 al hn (SeqAt.room_of_shaped sd hu) X.prog X.w X.xe _ ⟨.bl _, H, I, rfl, q⟩
theorem op_ltA (hu : X.A.units + 64 < cLine) : OpR X (compareOp .Lt) (rLtA X.K) := op_lt.or (op_ltAny hu)
theorem room_shT {ds : List PyData} {d : PyData} {n : Nat} (h : SeqAt.shaped d = true) (hu : n + 65 < cLine) : n + 1 + min (PyData.depthAll ds) d.depth < cLine := by
  have h1 := SeqAt.depth_of_shaped h
  have h2 : min (PyData.depthAll ds) d.depth ≤ d.depth := Nat.min_le_right _ _
  omega
theorem op_inA (hu : X.A.units + 65 < cLine) : OpR X (compareOp .In) (rInA X.K false) := by
  refine OpR.or op_in_str (OpR.or (op_inD hu) ?_)
  intro pins s σ H x y v u Q I rx ry h
  obtain ⟨d, ds, hd, he, sd, se, q⟩ := h
  obtain ⟨as, r1⟩ := Dp.reads I d x v hd rx
  obtain ⟨bs, r2⟩ := Dp.reads I (.tuple ds) y u he ry
  exact SeqAt.in_tuple_reads r2 r1 (SeqAt.canLay_of_shaped se) (SeqAt.canLay_of_shaped sd) (room_shT sd hu) ⟨.bl _, H, I, rfl, q⟩
theorem op_notInA (hu : X.A.units + 65 < cLine) : OpR X (compareOp .NotIn) (rInA X.K true) := by
  refine OpR.or op_notIn_str (OpR.or (op_notInD hu) ?_)
  intro pins s σ H x y v u Q I rx ry h
  obtain ⟨d, ds, hd, he, sd, se, q⟩ := h
  obtain ⟨as, r1⟩ := Dp.reads I d x v hd rx
  obtain ⟨bs, r2⟩ := Dp.reads I (.tuple ds) y u he ry
  exact SeqAt.notIn_tuple_reads r2 r1 (SeqAt.canLay_of_shaped se) (SeqAt.canLay_of_shaped sd) (room_shT sd hu) ⟨.bl _, H, I, rfl, q⟩
def rIsA : R2 := fun x y H Q => (y = .non ∧ Q (.bl (decide (x = .non))) H) ∨ rIsB x y H Q
def rIsntA : R2 := fun x y H Q => (y = .non ∧ Q (.bl (!decide (x = .non))) H) ∨ rNotB x y H Q
theorem op_isA : OpR X (compareOp .Is) rIsA := op_isN.or op_isBl
theorem op_isntA : OpR X (compareOp .IsNot) rIsntA := op_notN.or op_notBl
end
section
variable {K : PySem.W.Frag} {mg : Mg}
theorem br_eq : Br2 K mg (rEqD K) eqD := fun Z α β env S σ H R x y v w d rx ry e Q q => by
  obtain ⟨k, e0, rfl⟩ := Option.map_eq_some_iff.mp e
  obtain ⟨p, r, e1, e2, s1, s2, rfl⟩ := eqS_some e0
  exact ⟨p, r, rx.dp R e1, ry.dp R e2, s1, s2, q _ H R .refl (.bl _)⟩
theorem br_ne : Br2 K mg (rNeD K) neD := fun Z α β env S σ H R x y v w d rx ry e Q q => by
  obtain ⟨k, e0, rfl⟩ := Option.map_eq_some_iff.mp e
  obtain ⟨p, r, e1, e2, s1, s2, rfl⟩ := eqS_some e0
  exact ⟨p, r, rx.dp R e1, ry.dp R e2, s1, s2, q _ H R .refl (.bl _)⟩
theorem br_inG (neg : Bool) : Br2 K mg (rInA K neg) (fun S x y => (inS S x y).map fun k => .bl (cond neg (!k) k)) := fun Z α β env S σ H R x y v w d rx ry e Q q => by
  obtain ⟨k, e0, rfl⟩ := Option.map_eq_some_iff.mp e
  clear e
  unfold inS at e0
  revert e0
  intro e
  split at e
  · cases e
    exact .inl ⟨_, _, rx.str, ry.str, q _ H R .refl (.bl _)⟩
  · split at e
    · split at e
      · rename_i p qs e1 e2 hs
        cases e
        rw [Bool.and_eq_true] at hs
        exact .inr (.inl ⟨p, qs, rx.dp R e1, ry.dp R e2, hs.1, hs.2, q _ H R .refl (.bl _)⟩)
      · cases e
    · split at e
      · rename_i p qs e1 e2 hs
        cases e
        rw [Bool.and_eq_true] at hs
        exact .inr (.inr ⟨p, qs, rx.dp R e1, ry.dp R e2, hs.1, hs.2, q _ H R .refl (.bl _)⟩)
      · cases e
    · cases e
theorem br_in : Br2 K mg (rInA K false) inD := br_inG false
theorem br_nin : Br2 K mg (rInA K true) ninD := br_inG true
theorem br_lt : Br2 K mg (rLtA K) ltD := fun Z α β env S σ H R x y v w d rx ry e Q q => by
  obtain ⟨k, e0, rfl⟩ := Option.map_eq_some_iff.mp e
  clear e
  unfold ltS at e0
  revert e0
  intro e
  split at e
  · cases e
    exact .inl ⟨_, _, rx.int, ry.int, q _ H R .refl (.bl _)⟩
  · split at e
    · split at e
      · rename_i p r e1 e2 hs
        cases e
        simp only [Bool.and_eq_true] at hs
        obtain ⟨⟨⟨h1, h2⟩, h3⟩, h4⟩ := hs
        exact .inr ⟨p, r, rx.dp R e1, ry.dp R e2, h2, h3, h1, (fun z => by subst z; cases h4), q _ H R .refl (.bl _)⟩
      · cases e
    · cases e
theorem br_le : Br2 K mg (rI0 fun i j => .bl (decide (i ≤ j))) leD := br_ii0 fun i j β O H => .bl _
theorem br_gt : Br2 K mg (rI0 fun i j => .bl (decide (j < i))) gtD := br_ii0 fun i j β O H => .bl _
theorem br_ge : Br2 K mg (rI0 fun i j => .bl (decide (j ≤ i))) geD := br_ii0 fun i j β O H => .bl _
theorem Res.isNon {Z : Addr → Prop} {α : Nat → Option Addr} {β : List Addr} {H : Hp} {b : Bool} {d : D} {v : V} (r : Res K mg Z α β H b d v) : decide (v = .non) = isNonD d := by
  rcases r with r | ⟨_, _, _, c, _, _, _, h3, h4, h5⟩
  · cases r <;> first | rfl | exact decide_eq_false (fun z => nomatch z)
  · subst h5; cases h3 <;> subst h4 <;> exact decide_eq_false (fun z => nomatch z)
theorem isS_some {x y : D} {k : Bool} (h : isS x y = some k) : (y = .non ∧ k = isNonD x) ∨ ∃ i j, x = .bl i ∧ y = .bl j ∧ k = (i == j) := by
  unfold isS at h
  split at h
  · cases h; exact .inl ⟨rfl, rfl⟩
  · cases h; exact .inr ⟨_, _, rfl, rfl, rfl⟩
  · cases h
theorem br_is : Br2 K mg rIsA isD := fun Z α β env S σ H R x y v w d rx ry e Q q => by
  obtain ⟨k, e0, rfl⟩ := Option.map_eq_some_iff.mp e
  rcases isS_some e0 with ⟨rfl, rfl⟩ | ⟨i, j, rfl, rfl, rfl⟩
  · refine .inl ⟨ry.non, ?_⟩
    rw [rx.isNon]
    exact q _ H R .refl (.bl _)
  · refine .inr ⟨_, _, rx.bl, ry.bl, ?_⟩
    rw [show decide (i = j) = (i == j) by cases i <;> cases j <;> rfl]
    exact q _ H R .refl (.bl _)
theorem br_isnt : Br2 K mg rIsntA isntD := fun Z α β env S σ H R x y v w d rx ry e Q q => by
  obtain ⟨k, e0, rfl⟩ := Option.map_eq_some_iff.mp e
  rcases isS_some e0 with ⟨rfl, rfl⟩ | ⟨i, j, rfl, rfl, rfl⟩
  · refine .inl ⟨ry.non, ?_⟩
    rw [rx.isNon]
    exact q _ H R .refl (.bl _)
  · refine .inr ⟨_, _, rx.bl, ry.bl, ?_⟩
    rw [show decide (i = j) = (i == j) by cases i <;> cases j <;> rfl]
    exact q _ H R .refl (.bl _)
/-! ### * -/
noncomputable def mulD (S : Sto) (x y : D) : Option D := match x, y with
  | .int i, .int j => chk (CMul i j) (some (.int (i * j)))
  | x, .int k => chk (-(2 ^ 63) ≤ k ∧ k < 2 ^ 63) (match seqD S x with
    | some (true, xs) => chk (xs.length * k.toNat ≤ sizeLine) (some (.tup (repL xs k)))
    | some (false, xs) => chk (xs.length * k.toNat ≤ sizeLine) (some (.lst (repL xs k)))
    | none => none)
  | _, _ => none
def rMulA (K : PySem.W.Frag) : R2 := fun x y H Q => rI CMul (fun i j => .int (i * j)) x y H Q ∨ rRepA K x y H Q ∨ rRep x y H Q
theorem op_mulA {X : Cx} : OpR X (binaryOp .Mult) (rMulA X.K) := op_mul.or (op_repA.or op_rep)
theorem repL_nil (k : Int) : repL [] k = [] := by
  unfold repL
  induction k.toNat with
  | zero => rfl
  | succ n ih => rw [List.replicate_succ, List.flatten_cons, ih]; rfl
theorem br_mul : Br2 K mg (rMulA K) mulD := fun Z α β env S σ H R x y v w d rx ry e Q q => by
  unfold mulD at e
  split at e
  · obtain ⟨h, e⟩ := chk_some e
    cases e; exact .inl ⟨_, _, rx.int, ry.int, h, q _ H R .refl (.int _)⟩
  · rename_i x k _
    obtain ⟨hk, e⟩ := chk_some e
    cases ry.int
    split at e
    · rename_i xs e1
      obtain ⟨hz, e⟩ := chk_some e
      cases e
      obtain ⟨a, vs, rfl, r1, h1⟩ := rx.seq R e1
      rw [r1.length] at hz
      refine .inr (.inl ⟨a, k, vs, rfl, rfl, seq_tt h1, hk.1, hk.2, hz, fun z => q _ H R .refl ?_, fun h0 hn p o n hd => q _ _ (R.nw n) (Adv.upd n) ?_, fun hn h2 p o n hd => q _ _ (R.nw n) (Adv.upd n) (R.tupN (r1.rep k.toNat) n hd)⟩)
      · rcases z with z | z
        · subst z; cases r1; rw [repL_nil]; exact rx.repT e1
        · subst z
          have e : repL xs 1 = xs := by unfold repL; simp
          rw [e]; exact rx.repT e1
      · have e : repL xs k = [] := by unfold repL; rw [Int.toNat_of_nonpos h0]; rfl
        rw [e]; exact R.tupN .nil n hd
    · rename_i xs e1
      obtain ⟨hz, e⟩ := chk_some e
      cases e
      obtain ⟨a, vs, rfl, r1, h1⟩ := rx.seq R e1
      rw [r1.length] at hz
      exact .inr (.inr ⟨a, k, vs, rfl, rfl, seq_ff h1, hk.1, hk.2, hz, fun p n => q _ _ (R.nw n) (Adv.upd n) (R.lstN (r1.rep k.toNat) n)⟩)
    · cases e
  · cases e
/-! ### items, slices -/
def ixD (S : Sto) (x y : D) : Option D := match x, y with
  | .str z, .int i => if z.length ≤ sizeLine then (atI z.cps.toList i).map fun c => .str ⟨#[c]⟩ else none
  | .scr xs, .int i => atI xs i
  | x, .int i => match seqD S x with
    | some (_, xs) => atI xs i
    | none => none
  | _, _ => none
theorem Reps.at {β : List Addr} {O : Addr → Prop} {H : Hp} {ds : List D} {vs : List V} {i : Int} {d : D} (r : Reps K mg β O H ds vs) (h : atI ds i = some d) : ∃ v, atI vs i = some v ∧ Rep K mg β O H d v := by
  unfold atI at h ⊢
  rw [← r.length]
  obtain ⟨j, e1, e2⟩ := Option.bind_eq_some_iff.mp h
  obtain ⟨v, e3, r3⟩ := r.get e2
  exact ⟨v, by rw [e1]; exact e3, r3⟩
theorem Res.scr {Z : Addr → Prop} {α : Nat → Option Addr} {β : List Addr} {H : Hp} {b : Bool} {xs : List D} {v : V} (r : Res K mg Z α β H b (.scr xs) v) : ∃ a vs, v = .ref a ∧ SqL K H a vs ∧ Reps K mg β (Oo Z α β) H xs vs := by
  rcases r with r | ⟨_, _, _, c, _, _, _, h3, h4, _⟩
  · cases r with
    | scr h1 h2 => exact ⟨_, _, rfl, h1.sq, h2⟩
  · cases h3 <;> cases h4
theorem br_ix : Br2 K mg (rIx K) ixD := fun Z α β env S σ H R x y v w d rx ry e Q q => by
  unfold ixD at e
  split at e
  · split at e
    · obtain ⟨c, e1, rfl⟩ := Option.map_eq_some_iff.mp e
      exact .inr (.inr ⟨_, _, c, rx.str, ry.int, by assumption, e1, q _ H R .refl (.str _)⟩)
    · cases e
  · obtain ⟨a, vs, rfl, h1, r1⟩ := rx.scr
    obtain ⟨z, e2, r2⟩ := r1.at e
    exact .inl ⟨a, vs, _, z, rfl, ry.int, h1, e2, q _ H R .refl r2⟩
  · split at e
    · rename_i tp xs e1
      obtain ⟨a, vs, rfl, r1, h1⟩ := rx.seq R e1
      obtain ⟨z, e2, r2⟩ := r1.at e
      cases tp with
      | true => exact .inr (.inl ⟨a, vs, _, z, rfl, ry.int, seq_tt h1, e2, q _ H R .refl r2⟩)
      | false => exact .inl ⟨a, vs, _, z, rfl, ry.int, .of (seq_ff h1), e2, q _ H R .refl r2⟩
    · cases e
  · cases e
end
section
variable {X : Cx} {b : Bool} {pos : Pos} {ea eb : Expr} {ta tb : DE}
noncomputable abbrev dMul := dOp2 mulD
abbrev dEq := dOp2 eqD
abbrev dNe := dOp2 neD
abbrev dLt := dOp2 ltD
abbrev dLe := dOp2 leD
abbrev dGt := dOp2 gtD
abbrev dGe := dOp2 geD
abbrev dIn := dOp2 inD
abbrev dNin := dOp2 ninD
abbrev dIs := dOp2 isD
abbrev dIsnt := dOp2 isntD
abbrev dIx := dOp2 ixD
theorem E.mul (ha : EX X true ea ta) (hb : EX X true eb tb) : EX X b (.BinOp ea .Mult eb pos) (dMul ta tb) := E.op2 op_mulA br_mul ha hb
theorem E.eq (hu : X.A.units + 64 < cLine) (ha : EX X true ea ta) (hb : EX X true eb tb) : EX X b (.Compare ea [.Eq] [eb] pos) (dEq ta tb) := E.cmpR (op_eqD hu) br_eq ha hb (nomark _)
theorem E.ne (hu : X.A.units + 64 < cLine) (ha : EX X true ea ta) (hb : EX X true eb tb) : EX X b (.Compare ea [.NotEq] [eb] pos) (dNe ta tb) := E.cmpR (op_neD hu) br_ne ha hb (nomark _)
theorem E.lt (hu : X.A.units + 64 < cLine) (ha : EX X true ea ta) (hb : EX X true eb tb) : EX X b (.Compare ea [.Lt] [eb] pos) (dLt ta tb) := E.cmpR (op_ltA hu) br_lt ha hb (nomark _)
theorem E.le (ha : EX X true ea ta) (hb : EX X true eb tb) : EX X b (.Compare ea [.LtE] [eb] pos) (dLe ta tb) := E.cmpR op_le br_le ha hb (nomark _)
theorem E.gt (ha : EX X true ea ta) (hb : EX X true eb tb) : EX X b (.Compare ea [.Gt] [eb] pos) (dGt ta tb) := E.cmpR op_gt br_gt ha hb (nomark _)
theorem E.ge (ha : EX X true ea ta) (hb : EX X true eb tb) : EX X b (.Compare ea [.GtE] [eb] pos) (dGe ta tb) := E.cmpR op_ge br_ge ha hb (nomark _)
theorem E.is (ha : EX X true ea ta) (hb : EX X true eb tb) : EX X b (.Compare ea [.Is] [eb] pos) (dIs ta tb) := E.cmpR op_isA br_is ha hb (nomark _)
theorem E.isnt (ha : EX X true ea ta) (hb : EX X true eb tb) : EX X b (.Compare ea [.IsNot] [eb] pos) (dIsnt ta tb) := E.cmpR op_isntA br_isnt ha hb (nomark _)
theorem E.in_ (hu : X.A.units + 65 < cLine) (ha : EX X true ea ta) (hb : EX X true eb tb) (hm : behindInMarks .In eb = false := by rfl) : EX X b (.Compare ea [.In] [eb] pos) (dIn ta tb) := E.cmpR (op_inA hu) br_in ha hb hm
theorem E.nin (hu : X.A.units + 65 < cLine) (ha : EX X true ea ta) (hb : EX X true eb tb) (hm : behindInMarks .NotIn eb = false := by rfl) : EX X b (.Compare ea [.NotIn] [eb] pos) (dNin ta tb) := E.cmpR (op_notInA hu) br_nin ha hb hm
theorem E.ix (ha : EX X true ea ta) (hb : EX X true eb tb) (hs : PlainIx eb := by intro _ _; rfl) : EX X b (.Subscript ea eb pos) (dIx ta tb) := E.ixR ix_seq br_ix ha hb hs
end
end Rf
end
section
set_option maxHeartbeats 200000
/-! Rf, part 4: arguments, displays, slices, tests, calls. -/
namespace Rf
open PySem PySem.Spec PyProof.Rows L2

section
variable {X : Cx} {b : Bool} {pos : Pos} {e ea eb : Expr} {es : List Expr} {t ta tb : DE}
/-! ### arguments, displays -/
def aNil : DA := fun _ S => some ([], S)
def aCons (t : DE) (u : DA) : DA := fun env S => (t env S).bind fun p => (u env p.2).map fun q => (p.1 :: q.1, q.2)
theorem A.nil : AX X b [] aNil := PA.imp pa_nil fun σ H Q ⟨Z, α, β, env, S, ds, S', R, e1, q⟩ => by
  cases e1
  exact q [] H β R .refl .nil
theorem A.cons {u : DA} (ha : EX X b e t) (hr : AX X b es u) (hs : starEach (e :: es) X.env = (false, eval e X.env) :: starEach es X.env := by rfl) : AX X b (e :: es) (aCons t u) :=
  PA.imp (pa_cons ha hr hs) fun σ H Q ⟨Z, α, β, env, S, ds, S', R, e1, q⟩ => by
    unfold aCons at e1
    obtain ⟨⟨x, S1⟩, ex, e1⟩ := Option.bind_eq_some_iff.mp e1
    obtain ⟨⟨xs, S2⟩, exs, e1⟩ := Option.map_eq_some_iff.mp e1
    cases e1
    exact ⟨Z, α, β, env, S, x, S1, R, ex, fun v H1 β1 R1 A1 r1 => ⟨Z, α, β1, env, S1, xs, S2, R1, exs, fun vs H2 β2 R2 A2 r2 => q _ H2 β2 R2 (A1.trb A2) (.cons (r1.adv R1 A2) r2)⟩⟩
theorem Paired.len {α β : Type} {F : α → β → Prop} : ∀ {xs : List α} {ys : List β}, Paired F xs ys → xs.length = ys.length
  | _, _, .nil => rfl
  | _, _, .cons _ t => by simp [Paired.len t]
def dTup (u : DA) : DE := fun env S => (u env S).bind fun p => if p.1.length ≤ sizeLine then some (.tup p.1, p.2) else none
def dLst (u : DA) : DE := fun env S => (u env S).bind fun p => if p.1.length ≤ sizeLine then some (.lst p.1, p.2) else none
theorem E.tup {u : DA} {x1 : Nat} (h : AX X false es u) : EX X b (.Tuple es x1 pos) (dTup u) :=
  PE.imp (pe_tupN h) fun σ H Q ⟨Z, α, β, env, S, d, S', R, e1, q⟩ => by
    unfold dTup at e1
    obtain ⟨⟨xs, S1⟩, ex, e1⟩ := Option.bind_eq_some_iff.mp e1
    split at e1
    · rename_i hz
      cases e1
      refine ⟨Z, α, β, env, S, xs, S1, R, ex, fun vs H1 β1 R1 A1 r1 => ⟨by rw [← Paired.len r1]; exact hz, fun p o n hd => ?_⟩⟩
      exact q _ _ β1 (R1.nw n) (A1.trb (Adv.upd n)) (.inl (R1.tupN (Paired.reps r1) n hd))
    · cases e1
theorem F.lst {u : DA} (h : AX X false es u) : EF X (.List es pos) (dLst u) :=
  PE.imp (pe_lst h) fun σ H Q ⟨Z, α, β, env, S, d, S', R, e1, q⟩ => by
    unfold dLst at e1
    obtain ⟨⟨xs, S1⟩, ex, e1⟩ := Option.bind_eq_some_iff.mp e1
    split at e1
    · rename_i hz
      cases e1
      refine ⟨Z, α, β, env, S, xs, S1, R, ex, fun vs H1 β1 R1 A1 r1 => ⟨by rw [← Paired.len r1]; exact hz, fun p n => ?_⟩⟩
      exact q p _ (.lst xs) _ β1 (R1.apart n _) (A1.trb (Adv.upd n)) (A1.fresh n) upd_same rfl (CellOk.apart (.lst (Paired.reps r1)) n)
    · cases e1
theorem E.lst {u : DA} (h : AX X false es u) : EX X b (.List es pos) (dLst u) := (F.lst h).ex

/-! ### slices -/
abbrev DO := Env → Sto → Option (Option Int × Sto)
def rdO (K : PySem.W.Frag) (mg : Mg) (t : DO) : TO := fun σ H Q => ∃ Z α β env S k S', Rel K mg Z α β env S σ H ∧ t env S = some (k, S') ∧
  ∀ H' β', Rel K mg Z α β' env S' σ H' → Adv (Wb β) β H β' H' → Q k H'
def OX (X : Cx) (e : Option Expr) (t : DO) : Prop := PO X e (rdO X.K (mX X) t)
def oNo : DO := fun _ S => some (none, S)
def oP (t : DE) : DO := fun env S => (t env S).bind fun p => match p.1 with
  | .int i => some (some i, p.2)
  | _ => none
theorem O.no : OX X none oNo := ⟨fun p s σ H Q I ⟨Z, α, β, env, S, d, S', R, e1, q⟩ => po_none.run p s σ H Q I (by
  cases e1
  exact q H β R .refl)⟩
theorem O.p (h : EX X true e t) : OX X (some e) (oP t) := ⟨fun p s σ H Q I ⟨Z, α, β, env, S, d, S', R, e1, q⟩ => (po_some h).run p s σ H Q I (by
  unfold oP at e1
  obtain ⟨⟨x, S1⟩, ex, e1⟩ := Option.bind_eq_some_iff.mp e1
  simp only at e1
  split at e1
  · rename_i i
    cases e1
    exact ⟨Z, α, β, env, S, _, _, R, ex, fun v H1 β1 R1 A1 r1 => ⟨i, r1.int, q H1 β1 R1 A1⟩⟩
  · cases e1)⟩
def cutD (xs : List D) (lo hi : Option Int) : List D := (xs.drop (HT.sIx xs.length 0 lo)).take (HT.sIx xs.length xs.length hi - HT.sIx xs.length 0 lo)
theorem Reps.cut {K : PySem.W.Frag} {mg : Mg} {β : List Addr} {O : Addr → Prop} {H : Hp} {ds : List D} {vs : List V} (r : Reps K mg β O H ds vs) (lo hi : Option Int) : Reps K mg β O H (cutD ds lo hi) (cutV vs lo hi) := by
  unfold cutD cutV
  rw [r.length]
  exact Reps.take _ (Reps.drop _ r)
def slD (S : Sto) (x : D) (lo hi : Option Int) : Option D := match x with
  | .scr xs => some (.lst (cutD xs lo hi))
  | x => match seqD S x with
    | some (true, xs) => some (.tup (cutD xs lo hi))
    | some (false, xs) => some (.lst (cutD xs lo hi))
    | none => none
def dSl (t : DE) (lo hi : DO) : DE := fun env S => (t env S).bind fun p => (lo env p.2).bind fun l => (hi env l.2).bind fun h => (slD h.2 p.1 l.1 h.1).map fun z => (z, h.2)
def rSlice (K : PySem.W.Frag) : V → Option Int → Option Int → Hp → VK → Prop := fun x lo hi H Q => rSlL K x lo hi H Q ∨ rSlN K x lo hi H Q
theorem sl_any : SlR X (rSlice X.K) := sl_list.or sl_tupN
theorem cutD_whole (xs : List D) (lo hi : Option Int) (h : HT.sIx xs.length 0 lo = 0 ∧ HT.sIx xs.length xs.length hi = xs.length) : cutD xs lo hi = xs := by
  unfold cutD
  rw [h.1, h.2]
  simp
theorem E.sl {lo hi : Option Expr} {p2 : Pos} {tl th : DO} (h : EX X true e t) (hl : OX X lo tl) (hh : OX X hi th) : EX X b (.Subscript e (.Slice lo hi none p2) pos) (dSl t tl th) :=
  PE.imp (pe_slice sl_any h hl hh) fun σ H Q ⟨Z, α, β, env, S, d, S', R, e1, q⟩ => by
    unfold dSl at e1
    obtain ⟨⟨x, S1⟩, ex, e1⟩ := Option.bind_eq_some_iff.mp e1
    obtain ⟨⟨l, S2⟩, el, e1⟩ := Option.bind_eq_some_iff.mp e1
    obtain ⟨⟨u, S3⟩, eu, e1⟩ := Option.bind_eq_some_iff.mp e1
    obtain ⟨z, ez, e2⟩ := Option.map_eq_some_iff.mp e1
    clear e1
    cases e2
    refine ⟨Z, α, β, env, S, x, S1, R, ex, fun v H1 β1 R1 A1 r1 => ⟨Z, α, β1, env, S1, l, S2, R1, el, fun H2 β2 R2 A2 => ⟨Z, α, β2, env, S2, u, S3, R2, eu, fun H3 β3 R3 A3 => ?_⟩⟩⟩
    have r3 := (r1.adv R1 A2).adv R2 A3
    have A := (A1.trb A2).trb A3
    replace ez : slD S3 x l u = some d := ez
    unfold slD at ez
    split at ez
    · cases ez
      obtain ⟨a, vs, rfl, h1, rr⟩ := r3.scr
      exact .inl ⟨a, vs, rfl, h1, fun p n => q _ _ β3 (R3.nw n) (A.trb (Adv.upd n)) (.inl (R3.lstN (rr.cut l u) n))⟩
    · split at ez
      · rename_i xs eq1
        cases ez
        obtain ⟨a, vs, rfl, rr, h1⟩ := r3.seq R3 eq1
        refine .inr ⟨a, vs, rfl, seq_tt h1, fun hw => q _ _ β3 R3 A (.inl ?_), fun hw p o n hd => q _ _ β3 (R3.nw n) (A.trb (Adv.upd n)) (.inl (R3.tupN (rr.cut l u) n hd))⟩
        rw [← rr.length] at hw
        rw [cutD_whole xs l u hw]
        exact r3.repT eq1
      · rename_i xs eq1
        cases ez
        obtain ⟨a, vs, rfl, rr, h1⟩ := r3.seq R3 eq1
        exact .inl ⟨a, vs, rfl, .of (seq_ff h1), fun p n => q _ _ β3 (R3.nw n) (A.trb (Adv.upd n)) (.inl (R3.lstN (rr.cut l u) n))⟩
      · cases ez

/-! ### truth -/
def truD (S : Sto) : D → Option Bool
  | .non => some false
  | .bl k => some k
  | .int i => some (i != 0)
  | .str x => if x.length ≤ sizeLine then some ((x.length : Int) != 0) else none
  | .scr xs => some (!xs.isEmpty)
  | .dct ks _ => some (!ks.isEmpty)
  | d => match seqD S d with
    | some (_, xs) => some (!xs.isEmpty)
    | none => none
theorem Reps.isEmpty {K : PySem.W.Frag} {mg : Mg} {β : List Addr} {O : Addr → Prop} {H : Hp} {ds : List D} {vs : List V} (r : Reps K mg β O H ds vs) : ds.isEmpty = vs.isEmpty := by
  cases r <;> rfl
theorem Res.tru {K : PySem.W.Frag} {mg : Mg} {Z : Addr → Prop} {α : Nat → Option Addr} {β : List Addr} {env : Env} {S : Sto} {σ : L2.St} {H : Hp} {d : D} {v : V} {k : Bool} (R : Rel K mg Z α β env S σ H) (r : Res K mg Z α β H b d v) (h : truD S d = some k) : TruV K v H k := by
  have seqc : ∀ {tp xs}, seqD S d = some (tp, xs) → k = !xs.isEmpty → TruV K v H k := fun {tp xs} e1 e2 => by
    obtain ⟨a, vs, rfl, rr, h1⟩ := r.seq R e1
    rw [rr.isEmpty] at e2
    cases tp with
    | true => exact .inr (.inl ⟨vs, seq_tt h1, e2⟩)
    | false => exact .inl ⟨vs, .of (seq_ff h1), e2⟩
  unfold truD at h
  split at h
  · cases h; cases r.non; rfl
  · cases h; cases r.bl; rfl
  · cases h; cases r.int; rfl
  · split at h
    · cases h; cases r.str; exact ⟨by assumption, rfl⟩
    · cases h
  · cases h
    obtain ⟨a, vs, rfl, h1, rr⟩ := r.scr
    exact .inl ⟨vs, h1, by rw [rr.isEmpty]⟩
  · rename_i ks ds
    cases h
    have key : ∀ {a : Addr} {kvs : List (Key × V)} , H a = some (.dK kvs) → ks.map keyD = kvs.map (fun p => some p.1) → v = .ref a → TruV K v H (!ks.isEmpty) := fun {a kvs} h1 h2 h3 => by
      subst h3
      refine .inr (.inr ⟨kvs, h1, ?_⟩)
      cases ks <;> cases kvs <;> first | rfl | simp at h2
    rcases r with r | ⟨_, i, a, c, o, h1, h2, h3, h4, h5⟩
    · cases r with
      | dct h1 n h2 h3 => exact key h1 h2 rfl
    · cases h3 with
      | lst _ => cases h4
      | dct h6 h7 => cases h4; exact key h2 h6 h5
  · split at h
    · cases h; exact seqc (by assumption) rfl
    · cases h
def dTru (t : DE) : DT := fun env S => (t env S).bind fun p => (truD p.2 p.1).map fun k => (k, p.2)
theorem T.of (h : EX X true e t) (he : ∀ whole, isTrue e X.env whole = (do let v ← whole; standAt e.pos; holding [v] (truthy v)) := by intro _; rfl) : TX X e (dTru t) :=
  PT.imp (pt_truth h he) fun σ H Q ⟨Z, α, β, env, S, d, S', R, e1, q⟩ => by
    unfold dTru at e1
    obtain ⟨⟨x, S1⟩, ex, e1⟩ := Option.bind_eq_some_iff.mp e1
    obtain ⟨k, ek, e1⟩ := Option.map_eq_some_iff.mp e1
    cases e1
    exact ⟨Z, α, β, env, S, x, S1, R, ex, fun v H1 β1 R1 A1 r1 => ⟨_, r1.tru R1 ek, q H1 β1 R1 A1⟩⟩
def blOf : D → Option Bool
  | .bl k => some k
  | _ => none
def dBl (t : DE) : DT := fun env S => (t env S).bind fun p => (blOf p.1).map fun k => (k, p.2)
theorem T.cmpR {op : CmpOp} {r : R2} {f : Sto → D → D → Option D} (ho : OpR X (compareOp op) r) (br : Br2 X.K (mX X) r f) (ha : EX X true ea ta) (hb : EX X true eb tb) (hm : behindInMarks op eb = false) : TX X (.Compare ea [op] [eb] pos) (dBl (dOp2 f ta tb)) :=
  PT.imp (pt_cmpR ho ha hb hm) fun σ H Q ⟨Z, α, β, env, S, d, S', R, e1, q⟩ => by
    unfold dBl at e1
    obtain ⟨⟨x, S1⟩, ex, e1⟩ := Option.bind_eq_some_iff.mp e1
    obtain ⟨k, ek, e1⟩ := Option.map_eq_some_iff.mp e1
    cases e1
    refine rd_op2 (b := false) br σ H _ ⟨Z, α, β, env, S, x, S1, R, ex, fun v H1 β1 R1 A1 r1 => ⟨_, ?_, q H1 β1 R1 A1⟩⟩
    cases x <;> cases ek
    exact r1.bl
theorem T.eq (hu : X.A.units + 64 < cLine) (ha : EX X true ea ta) (hb : EX X true eb tb) : TX X (.Compare ea [.Eq] [eb] pos) (dBl (dEq ta tb)) := T.cmpR (op_eqD hu) br_eq ha hb (nomark _)
theorem T.ne (hu : X.A.units + 64 < cLine) (ha : EX X true ea ta) (hb : EX X true eb tb) : TX X (.Compare ea [.NotEq] [eb] pos) (dBl (dNe ta tb)) := T.cmpR (op_neD hu) br_ne ha hb (nomark _)
theorem T.lt (hu : X.A.units + 64 < cLine) (ha : EX X true ea ta) (hb : EX X true eb tb) : TX X (.Compare ea [.Lt] [eb] pos) (dBl (dLt ta tb)) := T.cmpR (op_ltA hu) br_lt ha hb (nomark _)
theorem T.le (ha : EX X true ea ta) (hb : EX X true eb tb) : TX X (.Compare ea [.LtE] [eb] pos) (dBl (dLe ta tb)) := T.cmpR op_le br_le ha hb (nomark _)
theorem T.gt (ha : EX X true ea ta) (hb : EX X true eb tb) : TX X (.Compare ea [.Gt] [eb] pos) (dBl (dGt ta tb)) := T.cmpR op_gt br_gt ha hb (nomark _)
theorem T.ge (ha : EX X true ea ta) (hb : EX X true eb tb) : TX X (.Compare ea [.GtE] [eb] pos) (dBl (dGe ta tb)) := T.cmpR op_ge br_ge ha hb (nomark _)
theorem T.is (ha : EX X true ea ta) (hb : EX X true eb tb) : TX X (.Compare ea [.Is] [eb] pos) (dBl (dIs ta tb)) := T.cmpR op_isA br_is ha hb (nomark _)
theorem T.isnt (ha : EX X true ea ta) (hb : EX X true eb tb) : TX X (.Compare ea [.IsNot] [eb] pos) (dBl (dIsnt ta tb)) := T.cmpR op_isntA br_isnt ha hb (nomark _)
theorem T.in_ (hu : X.A.units + 65 < cLine) (ha : EX X true ea ta) (hb : EX X true eb tb) (hm : behindInMarks .In eb = false := by rfl) : TX X (.Compare ea [.In] [eb] pos) (dBl (dIn ta tb)) := T.cmpR (op_inA hu) br_in ha hb hm
theorem T.nin (hu : X.A.units + 65 < cLine) (ha : EX X true ea ta) (hb : EX X true eb tb) (hm : behindInMarks .NotIn eb = false := by rfl) : TX X (.Compare ea [.NotIn] [eb] pos) (dBl (dNin ta tb)) := T.cmpR (op_notInA hu) br_nin ha hb hm
variable {c : Expr} {tc : DT} {rest : List Expr}
def tNot' (t : DT) : DT := fun env S => (t env S).map fun p => (!p.1, p.2)
theorem T.not (h : TX X c tc) : TX X (.UnaryOp .Not c pos) (tNot' tc) :=
  PT.imp (pt_not h) fun σ H Q ⟨Z, α, β, env, S, d, S', R, e1, q⟩ => by
    unfold tNot' at e1
    obtain ⟨⟨x, S1⟩, ex, e1⟩ := Option.map_eq_some_iff.mp e1
    cases e1
    exact ⟨Z, α, β, env, S, x, S1, R, ex, fun H1 β1 R1 A1 => q H1 β1 R1 A1⟩
def tAnd' (t u : DT) : DT := fun env S => (t env S).bind fun p => if p.1 = true then u env p.2 else some (false, p.2)
def tOr' (t u : DT) : DT := fun env S => (t env S).bind fun p => if p.1 = true then some (true, p.2) else u env p.2
theorem W.and1 (h : TX X c tc) : WX X (.BoolOp .And [c] pos) tc := pw_and1 h
theorem W.or1 (h : TX X c tc) : WX X (.BoolOp .Or [c] pos) tc := pw_or1 h
theorem W.and {u : DT} (h : TX X c tc) (h2 : WX X (.BoolOp .And (ea :: rest) pos) u) : WX X (.BoolOp .And (c :: ea :: rest) pos) (tAnd' tc u) :=
  PW.imp (pw_and h h2) fun σ H Q ⟨Z, α, β, env, S, d, S', R, e1, q⟩ => by
    unfold tAnd' at e1
    obtain ⟨⟨x, S1⟩, ex, e1⟩ := Option.bind_eq_some_iff.mp e1
    refine ⟨Z, α, β, env, S, x, S1, R, ex, fun H1 β1 R1 A1 => ?_⟩
    cases x with
    | true => exact iteT ⟨Z, α, β1, env, S1, d, S', R1, by simpa using e1, fun H2 β2 R2 A2 => q H2 β2 R2 (A1.trb A2)⟩
    | false => cases e1; exact iteF (q H1 β1 R1 A1)
theorem W.or {u : DT} (h : TX X c tc) (h2 : WX X (.BoolOp .Or (ea :: rest) pos) u) : WX X (.BoolOp .Or (c :: ea :: rest) pos) (tOr' tc u) :=
  PW.imp (pw_or h h2) fun σ H Q ⟨Z, α, β, env, S, d, S', R, e1, q⟩ => by
    unfold tOr' at e1
    obtain ⟨⟨x, S1⟩, ex, e1⟩ := Option.bind_eq_some_iff.mp e1
    refine ⟨Z, α, β, env, S, x, S1, R, ex, fun H1 β1 R1 A1 => ?_⟩
    cases x with
    | false => exact iteF ⟨Z, α, β1, env, S1, d, S', R1, by simpa using e1, fun H2 β2 R2 A2 => q H2 β2 R2 (A1.trb A2)⟩
    | true => cases e1; exact iteT (q H1 β1 R1 A1)
theorem T.w (h : WX X e tc) : TX X e tc := PW.pt h
/-! ### if, and, or, not as values -/
def dIf (c : DT) (t u : DE) : DE := fun env S => (c env S).bind fun p => if p.1 = true then t env p.2 else u env p.2
theorem E.ite (hc : TX X c tc) (ha : EX X b ea ta) (hb : EX X b eb tb) : EX X b (.IfExp c ea eb pos) (dIf tc ta tb) :=
  PE.imp (pe_ifExp hc ha hb) fun σ H Q ⟨Z, α, β, env, S, d, S', R, e1, q⟩ => by
    unfold dIf at e1
    obtain ⟨⟨x, S1⟩, ex, e1⟩ := Option.bind_eq_some_iff.mp e1
    refine ⟨Z, α, β, env, S, x, S1, R, ex, fun H1 β1 R1 A1 => ?_⟩
    cases x with
    | true => exact iteT ⟨Z, α, β1, env, S1, d, S', R1, by simpa using e1, fun v H2 β2 R2 A2 r2 => q v H2 β2 R2 (A1.trb A2) r2⟩
    | false => exact iteF ⟨Z, α, β1, env, S1, d, S', R1, by simpa using e1, fun v H2 β2 R2 A2 r2 => q v H2 β2 R2 (A1.trb A2) r2⟩
def dAnd' (t u : DE) : DE := fun env S => (t env S).bind fun p => (truD p.2 p.1).bind fun k => if k = true then u env p.2 else some p
def dOr' (t u : DE) : DE := fun env S => (t env S).bind fun p => (truD p.2 p.1).bind fun k => if k = true then some p else u env p.2
theorem E.one {op : BoolOp} (h : EX X b ea ta) : EX X b (.BoolOp op [ea] pos) ta := pe_one h
theorem E.and (ha : EX X b ea ta) (hb : EX X b (.BoolOp .And (eb :: rest) pos) tb) : EX X b (.BoolOp .And (ea :: eb :: rest) pos) (dAnd' ta tb) :=
  PE.imp (pe_andT ha hb) fun σ H Q ⟨Z, α, β, env, S, d, S', R, e1, q⟩ => by
    unfold dAnd' at e1
    obtain ⟨⟨x, S1⟩, ex, e1⟩ := Option.bind_eq_some_iff.mp e1
    obtain ⟨k, ek, e1⟩ := Option.bind_eq_some_iff.mp e1
    refine ⟨Z, α, β, env, S, x, S1, R, ex, fun v H1 β1 R1 A1 r1 => ⟨k, r1.tru R1 ek, ?_⟩⟩
    cases k with
    | true => exact iteT ⟨Z, α, β1, env, S1, d, S', R1, by simpa using e1, fun v H2 β2 R2 A2 r2 => q v H2 β2 R2 (A1.trb A2) r2⟩
    | false => cases e1; exact iteF (q v H1 β1 R1 A1 r1)
theorem E.or (ha : EX X b ea ta) (hb : EX X b (.BoolOp .Or (eb :: rest) pos) tb) : EX X b (.BoolOp .Or (ea :: eb :: rest) pos) (dOr' ta tb) :=
  PE.imp (pe_orT ha hb) fun σ H Q ⟨Z, α, β, env, S, d, S', R, e1, q⟩ => by
    unfold dOr' at e1
    obtain ⟨⟨x, S1⟩, ex, e1⟩ := Option.bind_eq_some_iff.mp e1
    obtain ⟨k, ek, e1⟩ := Option.bind_eq_some_iff.mp e1
    refine ⟨Z, α, β, env, S, x, S1, R, ex, fun v H1 β1 R1 A1 r1 => ⟨k, r1.tru R1 ek, ?_⟩⟩
    cases k with
    | false => exact iteF ⟨Z, α, β1, env, S1, d, S', R1, by simpa using e1, fun v H2 β2 R2 A2 r2 => q v H2 β2 R2 (A1.trb A2) r2⟩
    | true => cases e1; exact iteT (q v H1 β1 R1 A1 r1)
def notD (S : Sto) (x : D) : Option D := (truD S x).map fun k => .bl (!k)
theorem E.not (ha : EX X true ea ta) : EX X b (.UnaryOp .Not ea pos) (dOp1 notD ta) :=
  PE.imp (pe_notT ha) fun σ H Q ⟨Z, α, β, env, S, d, S', R, e1, q⟩ => by
    unfold dOp1 at e1
    obtain ⟨⟨x, S1⟩, ex, e1⟩ := Option.bind_eq_some_iff.mp e1
    obtain ⟨z, ez, e1⟩ := Option.map_eq_some_iff.mp e1
    cases e1
    obtain ⟨k, ek, rfl⟩ := Option.map_eq_some_iff.mp ez
    exact ⟨Z, α, β, env, S, x, S1, R, ex, fun v H1 β1 R1 A1 r1 => ⟨k, r1.tru R1 ek, q _ H1 β1 R1 A1 (.inl (.bl _))⟩⟩

/-! ### built-in functions -/
def dOpA (f : Sto → List D → Option D) (u : DA) : DE := fun env S => (u env S).bind fun p => (f p.2 p.1).map fun z => (z, p.2)
end
def BrA (K : PySem.W.Frag) (mg : Mg) (r : List V → Hp → VK → Prop) (f : Sto → List D → Option D) : Prop :=
  ∀ (Z : Addr → Prop) (α : Nat → Option Addr) (β : List Addr) (env : Env) (S : Sto) (σ : L2.St) (H : Hp), Rel K mg Z α β env S σ H → ∀ (xs : List D) (vs : List V) (d : D), Paired (Res K mg Z α β H true) xs vs → f S xs = some d →
    ∀ Q : VK, (∀ z H', Rel K mg Z α β env S σ H' → Adv (Wb β) β H β H' → Rep K mg β (Oo Z α β) H' d z → Q z H') → r vs H Q
/-- what is given is new -/
def BrAF (K : PySem.W.Frag) (mg : Mg) (r : List V → Hp → VK → Prop) (f : Sto → List D → Option D) : Prop :=
  ∀ (Z : Addr → Prop) (α : Nat → Option Addr) (β : List Addr) (env : Env) (S : Sto) (σ : L2.St) (H : Hp), Rel K mg Z α β env S σ H → ∀ (xs : List D) (vs : List V) (d : D), Paired (Res K mg Z α β H true) xs vs → f S xs = some d →
    ∀ Q : VK, (∀ a o c H', Rel K mg (Z1 Z a) α β env S σ H' → Adv (Wb β) β H β H' → H a = none → H' a = some o → d = cellD c → CellOk K mg β (Oo (Z1 Z a) α β) H' c o → Q (.ref a) H') → r vs H Q
theorem CellOk.rep {K : PySem.W.Frag} {mg : Mg} {β : List Addr} {O : Addr → Prop} {H : Hp} {a : Addr} {o : HO} {c : Cell} (h : CellOk K mg β O H c o) (e : H a = some o) (n : ¬ O a) : Rep K mg β O H (cellD c) (.ref a) := by
  cases h with
  | lst h => exact .lst e n h
  | dct h1 h2 => exact .dct e n h1 h2
theorem BrAF.br {K : PySem.W.Frag} {mg : Mg} {r : List V → Hp → VK → Prop} {f : Sto → List D → Option D} (h : BrAF K mg r f) : BrA K mg r f := fun Z α β env S σ H R xs vs d rx e Q q =>
  h Z α β env S σ H R xs vs d rx e Q fun a o c H' R' A' n1 n2 e2 co => q _ H' R'.unapart A' (by subst e2; exact co.unapart.rep n2 (R'.notZ1 fun z => R.zlive a z n1))
theorem BrA.or {K : PySem.W.Frag} {mg : Mg} {r r' : List V → Hp → VK → Prop} {f f' g : Sto → List D → Option D} (h : BrA K mg r f) (h' : BrA K mg r' f') (hg : ∀ S xs d, g S xs = some d → f S xs = some d ∨ f' S xs = some d) : BrA K mg (fun xs H Q => r xs H Q ∨ r' xs H Q) g :=
  fun Z α β env S σ H R xs vs d rx e Q q => (hg S xs d e).elim (fun e => .inl (h Z α β env S σ H R xs vs d rx e Q q)) fun e => .inr (h' Z α β env S σ H R xs vs d rx e Q q)
section
variable {X : Cx} {b : Bool} {p pos : Pos} {e ea eb : Expr} {es : List Expr} {t ta tb : DE} {u : DA} {r : List V → Hp → VK → Prop} {f : Sto → List D → Option D} {x : PySem.Str}
theorem rd_cb (br : BrA X.K (mX X) r f) (σ : L2.St) (H : Hp) (Q : VK) (h : rdX X.K (mX X) b (dOpA f u) σ H Q) : tCB r (rdA X.K (mX X) true u) σ H Q := by
  obtain ⟨Z, α, β, env, S, d, S', R, e1, q⟩ := h
  unfold dOpA at e1
  obtain ⟨⟨xs, S1⟩, ex, e1⟩ := Option.bind_eq_some_iff.mp e1
  obtain ⟨z, ez, e1⟩ := Option.map_eq_some_iff.mp e1
  cases e1
  exact ⟨Z, α, β, env, S, xs, S1, R, ex, fun vs H1 β1 R1 A1 r1 => br Z α β1 env S1 σ H1 R1 xs vs d r1 ez Q fun z H3 R3 A3 r3 => q z H3 β1 R3 (A1.trb A3) (.inl r3)⟩
theorem rd_cbF (br : BrAF X.K (mX X) r f) (σ : L2.St) (H : Hp) (Q : VK) (h : rdF X.K (mX X) (dOpA f u) σ H Q) : tCB r (rdA X.K (mX X) true u) σ H Q := by
  obtain ⟨Z, α, β, env, S, d, S', R, e1, q⟩ := h
  unfold dOpA at e1
  obtain ⟨⟨xs, S1⟩, ex, e1⟩ := Option.bind_eq_some_iff.mp e1
  obtain ⟨z, ez, e1⟩ := Option.map_eq_some_iff.mp e1
  cases e1
  exact ⟨Z, α, β, env, S, xs, S1, R, ex, fun vs H1 β1 R1 A1 r1 => br Z α β1 env S1 σ H1 R1 xs vs d r1 ez Q fun a o c H3 R3 A3 n1 n2 e2 co => q a o c H3 β1 R3 (A1.trb A3) (A1.fresh n1) n2 e2 co⟩
theorem E.cb {id : String} (hc : CallR X (.builtin id) r) (br : BrA X.K (mX X) r f) (hg : Gl X x) (hm : X.mg x = none) (hv : bootBuiltins x = some (.builtin id)) (ha : AX X true (e :: es) u) (hn : x ≠ "__name__" := by decide) (hdb : (x == ("__debug__" : PySem.Str)) = false := by decide)
    (he : starEach (e :: es) X.env = (false, eval e X.env) :: starEach es X.env := by rfl) (hpl : (backTo pos (starEach es X.env)).any (·.1) = false := by rfl) : EX X b (.Call (.Name x p) (e :: es) [] pos) (dOpA f u) :=
  PE.imp (pe_callB hc hg hm hv ha hn hdb he hpl) fun σ H Q h => rd_cb br σ H Q h
theorem E.ct {T : String} (hc : CallR X (.type T) r) (br : BrA X.K (mX X) r f) (hg : Gl X x) (hm : X.mg x = none) (hv : bootBuiltins x = some (.type T)) (ha : AX X true (e :: es) u) (hn : x ≠ "__name__" := by decide) (hdb : (x == ("__debug__" : PySem.Str)) = false := by decide)
    (he : starEach (e :: es) X.env = (false, eval e X.env) :: starEach es X.env := by rfl) (hpl : (backTo pos (starEach es X.env)).any (·.1) = false := by rfl) : EX X b (.Call (.Name x p) (e :: es) [] pos) (dOpA f u) :=
  PE.imp (pe_callTy hc hg hm hv ha hn hdb he hpl) fun σ H Q h => rd_cb br σ H Q h
theorem F.cb {id : String} (hc : CallR X (.builtin id) r) (br : BrAF X.K (mX X) r f) (hg : Gl X x) (hm : X.mg x = none) (hv : bootBuiltins x = some (.builtin id)) (ha : AX X true (e :: es) u) (hn : x ≠ "__name__" := by decide) (hdb : (x == ("__debug__" : PySem.Str)) = false := by decide)
    (he : starEach (e :: es) X.env = (false, eval e X.env) :: starEach es X.env := by rfl) (hpl : (backTo pos (starEach es X.env)).any (·.1) = false := by rfl) : EF X (.Call (.Name x p) (e :: es) [] pos) (dOpA f u) :=
  PE.imp (pe_callB hc hg hm hv ha hn hdb he hpl) fun σ H Q h => rd_cbF br σ H Q h
theorem F.ct {T : String} (hc : CallR X (.type T) r) (br : BrAF X.K (mX X) r f) (hg : Gl X x) (hm : X.mg x = none) (hv : bootBuiltins x = some (.type T)) (ha : AX X true (e :: es) u) (hn : x ≠ "__name__" := by decide) (hdb : (x == ("__debug__" : PySem.Str)) = false := by decide)
    (he : starEach (e :: es) X.env = (false, eval e X.env) :: starEach es X.env := by rfl) (hpl : (backTo pos (starEach es X.env)).any (·.1) = false := by rfl) : EF X (.Call (.Name x p) (e :: es) [] pos) (dOpA f u) :=
  PE.imp (pe_callTy hc hg hm hv ha hn hdb he hpl) fun σ H Q h => rd_cbF br σ H Q h
end
end Rf
end
section
set_option maxHeartbeats 200000
/-! Rf, part 5: calls of the text's own defs; built-in functions. -/
namespace Rf
open PySem PySem.Spec PyProof.Rows L2

/-! ### own defs -/
abbrev Fn := List D → Sto → Option (D × Sto)
abbrev noα : Nat → Option Addr := fun _ => none
def spF (K : PySem.W.Frag) (mg : Mg) (φ : Fn) : Sp := fun vs H Q _ => ∃ Z β S ds d S', Rel K mg Z noα β [] S [] H ∧ Reps K mg β (Oo Z noα β) H ds vs ∧ φ ds S = some (d, S') ∧
  ∀ v H' β', Rel K mg Z noα β' [] S' [] H' → Adv (Wb β) β H β' H' → Rep K mg β' (Oo Z noα β') H' d v → Q v H'
/-- a def stands at its name and keeps to φ, by at most level k -/
def FnAt (P : Program) (w : World) (K : PySem.W.Frag) (mg : PySem.Str → Option Value) (base : Heap) (k : Nat) (x : PySem.Str) (n : Nat) (φ : Fn) : Prop :=
  ∃ (f : Addr) (fd : FuncData) (ps : List PySem.Str), mg x = some (.ref f) ∧ PySem.W.keepIn K (.ref f) = true ∧ Binds K fd ps [] ∧ ps.length = n ∧ FnOk P w K mg base CX0 k f fd ps (spF K ⟨mg, P, w⟩ φ)
def dCall (φ : Fn) (u : DA) : DE := fun env S => (u env S).bind fun p => φ p.1 p.2
section
variable {K : PySem.W.Frag} {mg : Mg} {Z : Addr → Prop} {α : Nat → Option Addr} {β β' : List Addr} {H H' : Hp} {env : Env} {S S' : Sto} {σ : L2.St}
abbrev Zc (Z : Addr → Prop) (α : Nat → Option Addr) : Addr → Prop := fun a => Z a ∨ ∃ i, α i = some a
theorem Oo_zc : Oo (Zc Z α) noα β = Oo Z α β := by
  funext a
  apply propext
  unfold Oo Zc
  constructor
  · rintro ((h | h) | h | ⟨i, h⟩)
    · exact .inl h
    · exact .inr (.inr h)
    · exact .inr (.inl h)
    · cases h
  · rintro (h | h | h)
    · exact .inl (.inl h)
    · exact .inr (.inl h)
    · exact .inl (.inr h)
theorem Rel.toCall (R : Rel K mg Z α β env S σ H) : Rel K mg (Zc Z α) noα β [] S [] H where
  len := rfl
  slot := fun i sl e => by simp at e
  sup := fun i a e => by cases e
  blen := R.blen
  cell := fun n c a e1 e2 => by rw [Oo_zc]; exact R.cell n c a e1 e2
  nod := R.nod
  inj := fun i j a e => by cases e
  dis := fun i a e => by cases e
  disZ := fun a ha z => by
    rcases z with z | ⟨i, z⟩
    · exact R.disZ a ha z
    · exact (R.dis i a z).1 ha
  zlive := fun a z => by
    rcases z with z | ⟨i, z⟩
    · exact R.zlive a z
    · intro hn
      obtain ⟨c, e⟩ := R.sup i a z
      obtain ⟨a', o, _, e2, e3, _⟩ := R.slot i _ e
      rw [z] at e2; cases e2
      rw [hn] at e3; cases e3
theorem Rel.fromCall (R : Rel K mg Z α β env S σ H) (R' : Rel K mg (Zc Z α) noα β' [] S' [] H') (h : Adv (Wb β) β H β' H') : Rel K mg Z α β' env S' σ H' where
  len := R.len
  slot := fun i sl e => by
    have q := R.slot i sl e
    cases sl with
    | no => trivial
    | val d => obtain ⟨v, e1, r⟩ := q; exact ⟨v, e1, r.adv h⟩
    | own c => obtain ⟨a, o, e1, e2, e3, r⟩ := q; exact ⟨a, o, e1, e2, h.keep a o e3 (R.own e2), r.adv h⟩
  sup := R.sup
  blen := R'.blen
  cell := fun n c a e1 e2 => by
    have q := R'.cell n c a e1 e2
    rw [Oo_zc] at q
    exact q
  nod := R'.nod
  inj := R.inj
  dis := fun i a e => ⟨fun z => R'.disZ a z (.inr ⟨i, e⟩), (R.dis i a e).2⟩
  disZ := fun a ha z => R'.disZ a ha (.inl z)
  zlive := fun a z => h.live a (R.zlive a z)
end
section
variable {X : Cx} {b : Bool} {p pos : Pos} {e : Expr} {es : List Expr} {u : DA} {x : PySem.Str} {φ : Fn} {k n : Nat}
theorem rd_call (σ : L2.St) (H : Hp) (Q : VK) (h : rdX X.K (mX X) b (dCall φ u) σ H Q) : tCall (spF X.K (mX X) φ) [] E0 (rdA X.K (mX X) false u) σ H Q := by
  obtain ⟨Z, α, β, env, S, d, S', R, e1, q⟩ := h
  unfold dCall at e1
  obtain ⟨⟨xs, S1⟩, ex, e1⟩ := Option.bind_eq_some_iff.mp e1
  refine ⟨Z, α, β, env, S, xs, S1, R, ex, fun vs H1 β1 R1 A1 r1 => ?_⟩
  show spF X.K (mX X) φ (vs ++ []) H1 Q E0
  rw [List.append_nil]
  refine ⟨Zc Z α, β1, S1, xs, d, S', R1.toCall, by rw [Oo_zc]; exact Paired.reps r1, e1, fun v H2 β2 R2 A2 r2 => ?_⟩
  rw [Oo_zc] at r2
  exact q v H2 β2 (R1.fromCall R2 A2) (A1.trb A2) (.inl r2)
theorem E.call (F : FnAt X.prog X.w X.K X.mg X.base k x n φ) (hr : Room k X.A) (hg : Gl X x) (ha : AX X false (e :: es) u) (hdb : (x == ("__debug__" : PySem.Str)) = false := by decide)
    (he : starEach (e :: es) X.env = (false, eval e X.env) :: starEach es X.env := by rfl) (hpl : (backTo pos (starEach es X.env)).any (·.1) = false := by rfl) : EX X b (.Call (.Name x p) (e :: es) [] pos) (dCall φ u) := by
  obtain ⟨f, fd, ps, h1, h2, h3, h4, F⟩ := F
  exact PE.imp (pe_call F hr hg h1 h2 h3 .nil pass0 ha hdb he hpl) fun σ H Q h => rd_call σ H Q h
theorem E.call0 (F : FnAt X.prog X.w X.K X.mg X.base k x n φ) (hr : Room k X.A) (hg : Gl X x) (hdb : (x == ("__debug__" : PySem.Str)) = false := by decide) : EX X b (.Call (.Name x p) [] [] pos) (dCall φ aNil) := by
  obtain ⟨f, fd, ps, h1, h2, h3, h4, F⟩ := F
  refine PE.imp (pe_call0 F hr hg h1 h2 h3 .nil pass0 hdb) fun σ H Q h => ?_
  obtain ⟨Z, α, β, env, S, xs, S1, R, ex, q⟩ := rd_call σ H Q h
  cases ex
  exact q [] H β R .refl .nil
end

/-! ### built-in functions -/
theorem Paired.one {α β : Type} {F : α → β → Prop} {x : α} {ys : List β} (h : Paired F [x] ys) : ∃ y, ys = [y] ∧ F x y := by
  cases h with
  | cons r t => cases t; exact ⟨_, rfl, r⟩
theorem Paired.two {α β : Type} {F : α → β → Prop} {x y : α} {ys : List β} (h : Paired F [x, y] ys) : ∃ u v, ys = [u, v] ∧ F x u ∧ F y v := by
  cases h with
  | cons r t => cases t with
    | cons r2 t => cases t; exact ⟨_, _, rfl, r, r2⟩
def lenD (S : Sto) : List D → Option D
  | [.str x] => if x.length ≤ sizeLine then some (.int x.length) else none
  | [.scr xs] => some (.int xs.length)
  | [d] => match seqD S d with
    | some (_, xs) => some (.int xs.length)
    | none => none
  | _ => none
def absD (_ : Sto) : List D → Option D
  | [.int i] => some (.int (if i < 0 then -i else i))
  | _ => none
def intD (_ : Sto) : List D → Option D
  | [.int i] => some (.int i)
  | [.bl k] => some (.int (if k then 1 else 0))
  | _ => none
def boolD (_ : Sto) : List D → Option D
  | [.int i] => some (.bl (i != 0))
  | [.bl k] => some (.bl k)
  | _ => none
def max2D (_ : Sto) : List D → Option D
  | [.int i, .int j] => some (.int (if j > i then j else i))
  | _ => none
def min2D (_ : Sto) : List D → Option D
  | [.int i, .int j] => some (.int (if j < i then j else i))
  | _ => none
def gcdD (_ : Sto) : List D → Option D
  | [.int i, .int j] => some (.int (Nat.gcd i.natAbs j.natAbs : Nat))
  | _ => none
def listD (S : Sto) : List D → Option D
  | [.scr xs] => some (.lst xs)
  | [d] => match seqD S d with
    | some (_, xs) => some (.lst xs)
    | none => none
  | _ => none
def tupleD (S : Sto) : List D → Option D
  | [.scr xs] => some (.tup xs)
  | [d] => match seqD S d with
    | some (_, xs) => some (.tup xs)
    | none => none
  | _ => none
/-- all ints -/
def intsD : List D → Option (List Int)
  | [] => some []
  | .int i :: xs => (intsD xs).map fun r => i :: r
  | _ :: _ => none
theorem intsD_map : ∀ ns : List Int, intsD (ns.map .int) = some ns
  | [] => rfl
  | n :: ns => by rw [List.map_cons, intsD, intsD_map ns]; rfl
theorem intsD_eq : ∀ {xs : List D} {ns : List Int}, intsD xs = some ns → xs = ns.map .int
  | [], ns, h => by cases h; rfl
  | x :: xs, ns, h => by
    cases x <;> rw [intsD] at h <;> try (cases h; done)
    all_goals try (intro q; cases q; done)
    obtain ⟨r, e, rfl⟩ := Option.map_eq_some_iff.mp h
    rw [List.map_cons, intsD_eq e]
def blsD : List D → Option (List Bool)
  | [] => some []
  | .bl i :: xs => (blsD xs).map fun r => i :: r
  | _ :: _ => none
theorem blsD_map : ∀ ns : List Bool, blsD (ns.map .bl) = some ns
  | [] => rfl
  | n :: ns => by rw [List.map_cons, blsD, blsD_map ns]; rfl
theorem blsD_eq : ∀ {xs : List D} {ns : List Bool}, blsD xs = some ns → xs = ns.map .bl
  | [], ns, h => by cases h; rfl
  | x :: xs, ns, h => by
    cases x <;> rw [blsD] at h <;> try (cases h; done)
    all_goals try (intro q; cases q; done)
    obtain ⟨r, e, rfl⟩ := Option.map_eq_some_iff.mp h
    rw [List.map_cons, blsD_eq e]
theorem Reps.bls {K : PySem.W.Frag} {mg : Mg} {β : List Addr} {O : Addr → Prop} {H : Hp} : ∀ {ns : List Bool} {vs : List V}, Reps K mg β O H (ns.map .bl) vs → vs = ns.map V.bl
  | [], _, h => by cases h; rfl
  | n :: ns, _, h => by
    cases h with
    | cons h1 h2 =>
      cases h1
      rw [Reps.bls h2]; rfl
def sumD (S : Sto) : List D → Option D
  | [d] => match seqD S d with
    | some (_, xs) => (intsD xs).map fun ns => .int ns.sum
    | none => none
  | _ => none
def allD (S : Sto) : List D → Option D
  | [d] => match seqD S d with
    | some (false, xs) => (blsD xs).map fun ns => .bl (ns.all id)
    | _ => none
  | _ => none
def anyD (S : Sto) : List D → Option D
  | [d] => match seqD S d with
    | some (false, xs) => (blsD xs).map fun ns => .bl (ns.any id)
    | _ => none
  | _ => none
mutual
def ofPy : PyData → D
  | .none => .non
  | .bool b => .bl b
  | .int i => .int i
  | .str x => .str x
  | .list xs => .lst (ofPys xs)
  | .tuple xs => .tup (ofPys xs)
  | .dict _ => .non
def ofPys : List PyData → List D
  | [] => []
  | x :: xs => ofPy x :: ofPys xs
end
mutual
theorem ofPy_pyD : ∀ {d : D} {p : PyData}, pyD d = some p → ofPy p = d
  | .non, _, h => by cases h; rfl
  | .bl _, _, h => by cases h; rfl
  | .int _, _, h => by cases h; rfl
  | .str _, _, h => by cases h; rfl
  | .tup xs, _, h => by
    rw [pyD] at h
    obtain ⟨ps, e, rfl⟩ := Option.map_eq_some_iff.mp h
    rw [ofPy, ofPys_pyDs e]
  | .lst xs, _, h => by
    rw [pyD] at h
    obtain ⟨ps, e, rfl⟩ := Option.map_eq_some_iff.mp h
    rw [ofPy, ofPys_pyDs e]
  | .scr _, _, h => by cases h
  | .dct _ _, _, h => by cases h
  | .ref _, _, h => by cases h
  | .fn _, _, h => by cases h
theorem ofPys_pyDs : ∀ {d : List D} {p : List PyData}, pyDs d = some p → ofPys p = d
  | [], _, h => by cases h; rfl
  | x :: xs, _, h => by
    rw [pyDs] at h
    obtain ⟨p, e1, h⟩ := Option.bind_eq_some_iff.mp h
    obtain ⟨ps, e2, rfl⟩ := Option.map_eq_some_iff.mp h
    rw [ofPys, ofPy_pyD e1, ofPys_pyDs e2]
end
def alikeB (ps : List PyData) : Bool := ps.all fun d => ps.all fun d' => PySem.W.alike d d'
theorem alikeB_ok {ps : List PyData} (h : alikeB ps = true) : PySem.W.AllAlike ps := fun d hd d' hd' => by
  unfold alikeB at h
  exact List.all_eq_true.mp (List.all_eq_true.mp h d hd) d' hd'
/-- the least, the greatest of some data (the first of these) -/
def best1 (f : PyData → List PyData → PyData) (xs : List D) : Option D := match pyDs xs with
  | some (p :: ps) => if alikeB (p :: ps) && (p :: ps).all notNoneP && SeqAt.shaped (.list (p :: ps)) then some (ofPy (f p ps)) else none
  | _ => none
def minD1 (S : Sto) : List D → Option D
  | [d] => match seqD S d with
    | some (_, xs) => best1 PySem.W.minD xs
    | none => none
  | _ => none
def maxD1 (S : Sto) : List D → Option D
  | [d] => match seqD S d with
    | some (_, xs) => best1 PySem.W.maxD xs
    | none => none
  | _ => none
def encD (d : D) : PyData := (pyD d).getD .none
def sortableB (ps : List PyData) : Bool := (ps.all fun d => match d with | .tuple (_ :: _) => true | _ => false) || (ps.all fun d => match d with | .none => false | .tuple _ => false | _ => true)
theorem sortableB_ok {ps : List PyData} (h : sortableB ps = true) : PySem.W.Sortable ps := by
  unfold sortableB at h
  rw [Bool.or_eq_true, List.all_eq_true, List.all_eq_true] at h
  rcases h with h | h
  · refine .inl fun d hd => ?_
    have q := h d hd
    split at q
    · exact ⟨_, _, rfl⟩
    · cases q
  · refine .inr fun d hd => ?_
    have q := h d hd
    split at q
    · cases q
    · cases q
    · rename_i h1 h2
      exact ⟨h1, fun xs z => h2 xs z⟩
def sortXs (xs : List D) : Option (List D) := match pyDs xs with
  | some ps => if alikeB ps && sortableB ps && SeqAt.shaped (.list ps) then some (xs.mergeSort (PySem.W.dataLe false encD)) else none
  | none => none
def sortedD (S : Sto) : List D → Option D
  | [d] => match seqD S d with
    | some (false, xs) => (sortXs xs).map .lst
    | _ => none
  | _ => none

def rLenA (K : PySem.W.Frag) : List V → Hp → VK → Prop := fun xs H Q => ∃ x n, xs = [x] ∧ LenV K x H n ∧ Q (.int n) H
def rSumT (K : PySem.W.Frag) : List V → Hp → VK → Prop := fun vs H Q => ∃ (a : Addr) (ns : List Int), vs = [V.ref a] ∧ SqT K H a (ns.map V.int) ∧ Q (.int ns.sum) H
def rSumA (K : PySem.W.Frag) : List V → Hp → VK → Prop := fun vs H Q => rSum K vs H Q ∨ rSumT K vs H Q
section
variable {X : Cx}
theorem cr_sumT (hc : X.calm = true) : CallR X (.builtin "sum") (rSumT X.K) := by
  intro pins s σ H vs us Q I r h
  obtain ⟨a, ns, rfl, hs, q⟩ := h
  obtain ⟨its, rv, ht, _⟩ := I.tuple hs
  rw [Vals.ref1 r]
  have hi := rv.ints
  obtain ⟨xs, e⟩ := hi.allInts.items
  have hn : numsOf (intItems xs).toList = ns := by rw [← e]; exact hi.numsOf
  rw [nums_intItems] at hn
  rw [e] at ht
  refine PySem.W.ktm_sumG (I.ok.hd hc) ht fun h' tk t' hk => ?_
  rw [preSum_eq, List.take_of_length_le (by simp), hn]
  exact ⟨.int _, H, I.kept fun b o eo => hk b o eo, ⟨_, rfl⟩, q⟩
theorem cr_sumA (hc : X.calm = true) : CallR X (.builtin "sum") (rSumA X.K) := (cr_sum hc).or (cr_sumT hc)
/-- min, max of data -/
def rBest (K : PySem.W.Frag) (f : PyData → List PyData → PyData) : List V → Hp → VK → Prop := fun vs H Q => ∃ (a : Addr) (xs : List V) (p : PyData) (ps : List PyData), vs = [V.ref a] ∧ (SqL K H a xs ∨ SqT K H a xs) ∧ DpAll K H xs (p :: ps) ∧ PySem.W.AlikeAll (p :: ps) ∧ SeqAt.shaped (.list (p :: ps)) = true ∧
  ∀ (i : Nat) (v : V) (q : PyData), xs[i]? = some v → (p :: ps)[i]? = some q → q = f p ps → Q v H
theorem canLayAll_get : ∀ {ps : List PyData} {i : Nat} {q : PyData}, PyData.canLayAll0 ps = true → ps[i]? = some q → q.canLay0 = true
  | [], _, _, _, h => by simp at h
  | p :: ps, 0, q, h, e => by
    simp at e; subst e
    rw [PyData.canLayAll0, Bool.and_eq_true] at h
    exact h.1
  | p :: ps, i + 1, q, h, e => by
    rw [PyData.canLayAll0, Bool.and_eq_true] at h
    exact canLayAll_get h.2 (by simpa using e)
theorem DpAll.nth {K : PySem.W.Frag} {H : Hp} : ∀ {vs : List V} {ps : List PyData} {i : Nat} {v : V}, DpAll K H vs ps → vs[i]? = some v → ∃ q, ps[i]? = some q ∧ Dp K H v q
  | [], _, _, _, _, e => by simp at e
  | v :: vs, _, 0, w, h, e => by
    cases h with
    | cons h1 h2 => simp at e; subst e; exact ⟨_, rfl, h1⟩
  | v :: vs, _, i + 1, w, h, e => by
    cases h with
    | cons h1 h2 =>
      obtain ⟨q, e2, h3⟩ := DpAll.nth (i := i) h2 (by simpa using e)
      exact ⟨q, by simpa using e2, h3⟩
theorem best_in {f : PyData → List PyData → PyData} {ps : List PyData} {p : PyData} (hf : f = PySem.W.minD ∨ f = PySem.W.maxD) : f p ps ∈ p :: ps := by
  have key : ∀ (g : PyData → PyData → Bool) (ps : List PyData) (p : PyData), ps.foldl (fun a y => if g a y = true then y else a) p ∈ p :: ps := by
    intro g ps
    induction ps with
    | nil => intro p; exact List.mem_cons_self
    | cons y ys ih =>
      intro p
      rw [List.foldl_cons]
      by_cases h : g p y = true
      · rw [if_pos h]; exact List.mem_cons_of_mem _ (ih y)
      · rw [if_neg h]
        rcases List.mem_cons.mp (ih p) with e | e
        · rw [e]; exact List.mem_cons_self
        · exact List.mem_cons_of_mem _ (List.mem_cons_of_mem _ e)
  rcases hf with rfl | rfl
  · exact key (fun a y => PySem.W.dataLt y a) ps p
  · exact key (fun a y => PySem.W.dataLt a y) ps p
theorem room_list {n : Nat} {ps : List PyData} (hu : n + 65 < cLine) (h : SeqAt.shaped (.list ps) = true) : n + 1 + PyData.depthAll ps < cLine := by
  have h1 := SeqAt.depth_of_shaped h
  rw [PyData.depth] at h1
  omega
theorem cr_best (hc : X.calm = true) (hu : X.A.units + 65 < cLine) (f : PyData → List PyData → PyData) (id : String) (hf : (f = PySem.W.minD ∧ id = "min") ∨ (f = PySem.W.maxD ∧ id = "max")) : CallR X (.builtin id) (rBest X.K f) := by
  intro pins s σ H vs us Q I r h
  obtain ⟨a, xs, p, ps, rfl, hs, hd, ha, hz, q⟩ := h
  rw [Vals.ref1 r]
  have fin : ∀ {its : List Value} {as : List Addr}, Vals xs its → ReadsAll s.heap its (p :: ps) as → ∀ (i : Nat) (v : Value) (h' : Heap) (tk : Nat) (bs : List Addr), its.toArray[i]? = some v → Reads h' v (f p ps) bs → (∀ b o, s.heap.get? b = some o → h'.get? b = some o) → EP X pins σ Q v { s with heap := h', toks := tk } := fun {its as} rv hr i v h' tk bs hi rd hk => by
    have hi' : its[i]? = some v := by simpa using hi
    have hx : ∃ x, xs[i]? = some x := by
      have hl : i < its.length := (List.getElem?_eq_some_iff.mp hi').1
      rw [← rv.length] at hl
      exact ⟨_, List.getElem?_eq_getElem hl⟩
    obtain ⟨x, ex⟩ := hx
    obtain ⟨u, eu, ru⟩ := rv.get ex
    rw [hi'] at eu; cases eu
    obtain ⟨q', eq', dq⟩ := DpAll.nth hd ex
    refine ⟨x, H, I.kept hk, ru, q i x q' ex eq' ?_⟩
    have I' := I.kept (t' := tk) hk
    obtain ⟨cs, r2⟩ := Dp.reads I' q' x v dq ru
    have hcl := SeqAt.canLay_of_shaped hz
    rw [PyData.canLay0] at hcl
    have c1 : q'.canLay0 = true := canLayAll_get hcl eq'
    obtain ⟨j, hj, ej⟩ := List.getElem_of_mem (best_in (f := f) (p := p) (ps := ps) (hf.elim (fun z => .inl z.1) fun z => .inr z.1))
    have c2 : (f p ps).canLay0 = true := canLayAll_get hcl (by rw [List.getElem?_eq_getElem hj, ej])
    rw [← SeqAt.readOf_eq c1 r2, SeqAt.readOf_eq c2 rd]
  rcases hs with hs | hs
  · obtain ⟨its, rv, hl, _⟩ := I.list hs
    obtain ⟨as, hr⟩ := Dp.readsAll I (p :: ps) xs its hd rv
    rcases hf with ⟨rfl, rfl⟩ | ⟨rfl, rfl⟩
    · exact PySem.W.min_list_data (I.ok.hd hc) hl.isList (by simpa using hr) ha (room_list hu hz) (fin rv hr)
    · exact PySem.W.max_list_data (I.ok.hd hc) hl.isList (by simpa using hr) ha (room_list hu hz) (fin rv hr)
  · obtain ⟨its, rv, hl, _⟩ := I.tuple hs
    obtain ⟨as, hr⟩ := Dp.readsAll I (p :: ps) xs its hd rv
    rcases hf with ⟨rfl, rfl⟩ | ⟨rfl, rfl⟩
    · exact PySem.W.min_tuple_data (I.ok.hd hc) hl (by simpa using hr) ha (room_list hu hz) (fin rv hr)
    · exact PySem.W.max_tuple_data (I.ok.hd hc) hl (by simpa using hr) ha (room_list hu hz) (fin rv hr)
/-- sorted of data -/
def rSortD (K : PySem.W.Frag) (mg : Mg) : List V → Hp → VK → Prop := fun vs H Q => ∃ (a : Addr) (xs : List V) (ds : List D) (ps : List PyData) (β : List Addr) (O : Addr → Prop), vs = [V.ref a] ∧ SqL K H a xs ∧ Reps K mg β O H ds xs ∧ pyDs ds = some ps ∧ alikeB ps = true ∧ sortableB ps = true ∧ SeqAt.shaped (.list ps) = true ∧
  ∀ p ys, H p = none → Reps K mg β O H (ds.mergeSort (PySem.W.dataLe false encD)) ys → Q (.ref p) (upd H p (.lst ys))
theorem pyDs_enc : ∀ {ds : List D} {ps : List PyData}, pyDs ds = some ps → ds.map encD = ps
  | [], _, h => by cases h; rfl
  | x :: xs, _, h => by
    rw [pyDs] at h
    obtain ⟨p, e1, h⟩ := Option.bind_eq_some_iff.mp h
    obtain ⟨ps, e2, rfl⟩ := Option.map_eq_some_iff.mp h
    rw [List.map_cons, pyDs_enc e2]
    unfold encD
    rw [e1]; rfl
theorem each_of {K : PySem.W.Frag} {mg : Mg} {β : List Addr} {O : Addr → Prop} {H : Hp} : ∀ {ds : List D} {vs : List V} {us : List Value}, Reps K mg β O H ds vs → Vals vs us → PySem.W.EachIs (fun u d => ∃ x, RelV x u ∧ Rep K mg β O H d x) us ds
  | [], _, _, r, v => by cases r; cases v; exact .nil
  | d :: ds, _, _, r, v => by
    cases r with
    | cons r1 r2 =>
      cases v with
      | cons v1 v2 => exact .cons ⟨_, v1, r1⟩ (each_of r2 v2)
theorem of_each {K : PySem.W.Frag} {mg : Mg} {β : List Addr} {O : Addr → Prop} {H : Hp} : ∀ {ds : List D} {us : List Value}, PySem.W.EachIs (fun u d => ∃ x, RelV x u ∧ Rep K mg β O H d x) us ds → ∃ vs, Reps K mg β O H ds vs ∧ Vals vs us
  | [], _, r => by cases r; exact ⟨[], .nil, .nil⟩
  | d :: ds, _, r => by
    cases r with
    | cons r1 r2 =>
      obtain ⟨x, a, b⟩ := r1
      obtain ⟨vs, c, d⟩ := of_each r2
      exact ⟨x :: vs, .cons b c, .cons a d⟩
theorem each_reads {h : Heap} : ∀ {ds : List D} {us : List Value} {as : List Addr}, ReadsAll h us (ds.map encD) as → PySem.W.EachIs (fun u d => ∃ as, Reads h u (encD d) as) us ds
  | [], _, _, r => by cases r; exact .nil
  | d :: ds, _, _, r => by
    rw [List.map_cons] at r
    cases r with
    | cons r1 r2 => exact .cons ⟨_, r1⟩ (each_reads r2)
theorem depth_mem : ∀ {ds : List D} {d : D}, d ∈ ds → (encD d).depth ≤ PyData.depthAll (ds.map encD)
  | [], _, h => by cases h
  | x :: xs, d, h => by
    rw [List.map_cons, PyData.depthAll]
    rcases List.mem_cons.mp h with rfl | h
    · exact Nat.le_max_left _ _
    · exact Nat.le_trans (depth_mem h) (Nat.le_max_right _ _)
theorem cr_sortD (hu : X.A.units + 67 < cLine) : CallR X (.builtin "sorted") (rSortD X.K (mX X)) := by
  intro pins s σ H vs us Q I r h
  obtain ⟨a, xs, ds, ps, β, O, rfl, hs, rp, e, ha, hk, hz, q⟩ := h
  obtain ⟨its, rv, hl, hzl⟩ := I.list hs
  rw [Vals.ref1 r]
  obtain ⟨as, hr⟩ := Dp.readsAll I ps xs its (Reps.dp rp e) rv
  have ep := pyDs_enc e
  rw [← ep] at hr ha hk hz
  have hdp := SeqAt.depth_of_shaped hz
  rw [PyData.depth] at hdp
  refine PySem.W.sorted_data (enc := encD) (R := fun u d => ∃ x, RelV x u ∧ Rep X.K (mX X) β O H d x) hl.isList (each_of rp rv) (each_reads hr) (alikeB_ok ha) (sortableB_ok hk) (by rw [rp.length]; exact hzl) (fun b hb => ?_) fun out hout ho => ?_
  · have := depth_mem hb
    omega
  · obtain ⟨ys, r1, r2⟩ := of_each ho
    obtain ⟨ep', he'⟩ := PyProof.Rows.sortedAll_at s.heap its out.toArray
    have hlen : ys.length ≤ sizeLine := by rw [r2.length, hout, rp.length]; exact hzl
    exact ⟨.ref _, upd H (s.heap.objs.size + 1) (.lst ys), I.laid (t' := s.toks) (fun _ _ => PyProof.Rows.sortedAll_old) (Nat.le_succ _) ⟨hlen, out, ep', r2, he'⟩, rfl, q _ ys (I.hok.fresh (Nat.le_succ _)) r1⟩
end
section
variable {K : PySem.W.Frag} {mg : Mg}
theorem br_len : BrA K mg (rLenA K) lenD := fun Z α β env S σ H R xs vs d rx e Q q => by
  unfold lenD at e
  split at e
  · split at e
    · cases e
      obtain ⟨v, rfl, r⟩ := Paired.one rx
      cases r.str
      exact ⟨_, _, rfl, ⟨by assumption, rfl⟩, q _ H R .refl (.int _)⟩
    · cases e
  · cases e
    obtain ⟨v, rfl, r⟩ := Paired.one rx
    obtain ⟨a, vs, rfl, h1, rr⟩ := r.scr
    exact ⟨_, _, rfl, .inl ⟨vs, h1, rr.length⟩, q _ H R .refl (.int _)⟩
  · split at e
    · rename_i tp ys e1
      cases e
      obtain ⟨v, rfl, r⟩ := Paired.one rx
      obtain ⟨a, vs, rfl, rr, h1⟩ := r.seq R e1
      refine ⟨_, _, rfl, ?_, q _ H R .refl (.int _)⟩
      cases tp with
      | true => exact .inr ⟨vs, seq_tt h1, rr.length⟩
      | false => exact .inl ⟨vs, .of (seq_ff h1), rr.length⟩
    · cases e
  · cases e
theorem br_abs : BrA K mg (fun xs H Q => ∃ i, xs = [.int i] ∧ Q (.int (if i < 0 then -i else i)) H) absD := fun Z α β env S σ H R xs vs d rx e Q q => by
  unfold absD at e
  split at e
  · cases e
    obtain ⟨v, rfl, r⟩ := Paired.one rx
    cases r.int
    exact ⟨_, rfl, q _ H R .refl (.int _)⟩
  · cases e
theorem br_int : BrA K mg (fun xs H Q => (∃ i, xs = [.int i] ∧ Q (.int i) H) ∨ ∃ k, xs = [.bl k] ∧ Q (.int (if k then 1 else 0)) H) intD := fun Z α β env S σ H R xs vs d rx e Q q => by
  unfold intD at e
  split at e
  · cases e
    obtain ⟨v, rfl, r⟩ := Paired.one rx
    cases r.int
    exact .inl ⟨_, rfl, q _ H R .refl (.int _)⟩
  · cases e
    obtain ⟨v, rfl, r⟩ := Paired.one rx
    cases r.bl
    exact .inr ⟨_, rfl, q _ H R .refl (.int _)⟩
  · cases e
theorem br_bool : BrA K mg (fun xs H Q => (∃ i, xs = [.int i] ∧ Q (.bl (i != 0)) H) ∨ ∃ k, xs = [.bl k] ∧ Q (.bl k) H) boolD := fun Z α β env S σ H R xs vs d rx e Q q => by
  unfold boolD at e
  split at e
  · cases e
    obtain ⟨v, rfl, r⟩ := Paired.one rx
    cases r.int
    exact .inl ⟨_, rfl, q _ H R .refl (.bl _)⟩
  · cases e
    obtain ⟨v, rfl, r⟩ := Paired.one rx
    cases r.bl
    exact .inr ⟨_, rfl, q _ H R .refl (.bl _)⟩
  · cases e
theorem br_max2 : BrA K mg (fun xs H Q => ∃ i j, xs = [.int i, .int j] ∧ Q (.int (if j > i then j else i)) H) max2D := fun Z α β env S σ H R xs vs d rx e Q q => by
  unfold max2D at e
  split at e
  · cases e
    obtain ⟨v, w, rfl, r, r2⟩ := Paired.two rx
    cases r.int
    cases r2.int
    exact ⟨_, _, rfl, q _ H R .refl (.int _)⟩
  · cases e
theorem br_min2 : BrA K mg (fun xs H Q => ∃ i j, xs = [.int i, .int j] ∧ Q (.int (if j < i then j else i)) H) min2D := fun Z α β env S σ H R xs vs d rx e Q q => by
  unfold min2D at e
  split at e
  · cases e
    obtain ⟨v, w, rfl, r, r2⟩ := Paired.two rx
    cases r.int
    cases r2.int
    exact ⟨_, _, rfl, q _ H R .refl (.int _)⟩
  · cases e
theorem br_gcd : BrA K mg rGcd gcdD := fun Z α β env S σ H R xs vs d rx e Q q => by
  unfold gcdD at e
  split at e
  · cases e
    obtain ⟨v, w, rfl, r, r2⟩ := Paired.two rx
    cases r.int
    cases r2.int
    exact ⟨_, _, rfl, q _ H R .refl (.int _)⟩
  · cases e
theorem br_list : BrAF K mg (fun xs H Q => ∃ p ys, xs = [.ref p] ∧ (SqL K H p ys ∨ SqT K H p ys) ∧ ∀ l, H l = none → Q (.ref l) (upd H l (.lst ys))) listD := fun Z α β env S σ H R xs vs d rx e Q q => by
  have fin : ∀ (ys : List D) (us : List V), Reps K mg β (Oo Z α β) H ys us → d = .lst ys → ∀ l, H l = none → Q (.ref l) (upd H l (.lst us)) := fun ys us r e l n =>
    q l _ (.lst ys) _ (R.apart n _) (Adv.upd n) n upd_same e (CellOk.apart (.lst r) n)
  unfold listD at e
  split at e
  · cases e
    obtain ⟨v, rfl, r⟩ := Paired.one rx
    obtain ⟨a, vs, rfl, h1, rr⟩ := r.scr
    exact ⟨a, vs, rfl, .inl h1, fin _ _ rr rfl⟩
  · split at e
    · rename_i tp ys e1
      cases e
      obtain ⟨v, rfl, r⟩ := Paired.one rx
      obtain ⟨a, vs, rfl, rr, h1⟩ := r.seq R e1
      refine ⟨a, vs, rfl, ?_, fin _ _ rr rfl⟩
      cases tp with
      | true => exact .inr (seq_tt h1)
      | false => exact .inl (.of (seq_ff h1))
    · cases e
  · cases e
theorem br_tuple : BrA K mg (rTupleN K) tupleD := fun Z α β env S σ H R xs vs d rx e Q q => by
  unfold tupleD at e
  split at e
  · cases e
    obtain ⟨v, rfl, r⟩ := Paired.one rx
    obtain ⟨a, vs, rfl, h1, rr⟩ := r.scr
    exact ⟨a, vs, rfl, .inl ⟨h1, fun l o n hd => q _ _ (R.nw n) (Adv.upd n) (R.tupN rr n hd)⟩⟩
  · split at e
    · rename_i tp ys e1
      cases e
      obtain ⟨v, rfl, r⟩ := Paired.one rx
      obtain ⟨a, vs, rfl, rr, h1⟩ := r.seq R e1
      cases tp with
      | true => exact ⟨a, vs, rfl, .inr ⟨seq_tt h1, q _ H R .refl (r.repT e1)⟩⟩
      | false => exact ⟨a, vs, rfl, .inl ⟨.of (seq_ff h1), fun l o n hd => q _ _ (R.nw n) (Adv.upd n) (R.tupN rr n hd)⟩⟩
    · cases e
  · cases e
theorem br_sum : BrA K mg (rSumA K) sumD := fun Z α β env S σ H R xs vs d rx e Q q => by
  unfold sumD at e
  split at e
  · split at e
    · rename_i tp ys e1
      obtain ⟨ns, e2, rfl⟩ := Option.map_eq_some_iff.mp e
      obtain ⟨v, rfl, r⟩ := Paired.one rx
      obtain ⟨a, vs, rfl, rr, h1⟩ := r.seq R e1
      have e3 := intsD_eq e2
      subst e3
      have e4 := rr.ints
      subst e4
      cases tp with
      | true => exact .inr ⟨a, ns, rfl, seq_tt h1, q _ H R .refl (.int _)⟩
      | false => exact .inl ⟨a, ns, rfl, .of (seq_ff h1), q _ H R .refl (.int _)⟩
    · cases e
  · cases e
theorem br_all : BrA K mg (rAll K) allD := fun Z α β env S σ H R xs vs d rx e Q q => by
  unfold allD at e
  split at e
  · split at e
    · rename_i ys e1
      obtain ⟨ns, e2, rfl⟩ := Option.map_eq_some_iff.mp e
      obtain ⟨v, rfl, r⟩ := Paired.one rx
      obtain ⟨a, vs, rfl, rr, h1⟩ := r.seq R e1
      have e3 := blsD_eq e2
      subst e3
      have e4 := rr.bls
      subst e4
      exact ⟨a, ns, rfl, .of (seq_ff h1), q _ H R .refl (.bl _)⟩
    · cases e
  · cases e
theorem br_any : BrA K mg (rAny K) anyD := fun Z α β env S σ H R xs vs d rx e Q q => by
  unfold anyD at e
  split at e
  · split at e
    · rename_i ys e1
      obtain ⟨ns, e2, rfl⟩ := Option.map_eq_some_iff.mp e
      obtain ⟨v, rfl, r⟩ := Paired.one rx
      obtain ⟨a, vs, rfl, rr, h1⟩ := r.seq R e1
      have e3 := blsD_eq e2
      subst e3
      have e4 := rr.bls
      subst e4
      exact ⟨a, ns, rfl, .of (seq_ff h1), q _ H R .refl (.bl _)⟩
    · cases e
  · cases e
theorem pyDs_nth : ∀ {ds : List D} {ps : List PyData} {i : Nat} {p : PyData}, pyDs ds = some ps → ps[i]? = some p → ∃ d, ds[i]? = some d ∧ pyD d = some p
  | [], _, _, _, h, e => by cases h; simp at e
  | x :: xs, _, i, p, h, e => by
    rw [pyDs] at h
    obtain ⟨q, e1, h⟩ := Option.bind_eq_some_iff.mp h
    obtain ⟨qs, e2, rfl⟩ := Option.map_eq_some_iff.mp h
    cases i with
    | zero => simp at e; subst e; exact ⟨x, rfl, e1⟩
    | succ i =>
      obtain ⟨d, h1, h2⟩ := pyDs_nth e2 (by simpa using e)
      exact ⟨d, by simpa using h1, h2⟩
theorem br_best (f : PyData → List PyData → PyData) : BrA K mg (rBest K f) (fun S xs => match xs with | [d] => (match seqD S d with | some (_, xs) => best1 f xs | none => none) | _ => none) := fun Z α β env S σ H R xs vs d rx e Q q => by
  simp only at e
  split at e
  · split at e
    · rename_i tp ys e1
      obtain ⟨v, rfl, r⟩ := Paired.one rx
      obtain ⟨a, vs, rfl, rr, h1⟩ := r.seq R e1
      unfold best1 at e
      split at e
      · rename_i p ps e2
        split at e
        · rename_i hc
          cases e
          simp only [Bool.and_eq_true] at hc
          refine ⟨a, vs, p, ps, rfl, ?_, Reps.dp rr e2, ⟨fun x hx y hy => alikeB_ok hc.1.1 x hx y hy, fun x hx z => ?_⟩, hc.2, fun i v z ev eq1 eq2 => ?_⟩
          · cases tp with
            | true => exact .inr (seq_tt h1)
            | false => exact .inl (.of (seq_ff h1))
          · have := List.all_eq_true.mp hc.1.2 x hx
            subst z; cases this
          · obtain ⟨d, e3, e4⟩ := pyDs_nth e2 eq1
            obtain ⟨v', e5, r5⟩ := rr.get e3
            rw [ev] at e5; cases e5
            rw [← eq2, ofPy_pyD e4] at q
            exact q _ H R .refl r5
        · cases e
      · cases e
    · cases e
  · cases e
theorem br_min1 : BrA K mg (rBest K PySem.W.minD) minD1 := br_best PySem.W.minD
theorem br_max1 : BrA K mg (rBest K PySem.W.maxD) maxD1 := br_best PySem.W.maxD
theorem br_sorted : BrAF K mg (rSortD K mg) sortedD := fun Z α β env S σ H R xs vs d rx e Q q => by
  unfold sortedD at e
  split at e
  · split at e
    · rename_i ys e1
      obtain ⟨zs, e2, rfl⟩ := Option.map_eq_some_iff.mp e
      obtain ⟨v, rfl, r⟩ := Paired.one rx
      obtain ⟨a, vs, rfl, rr, h1⟩ := r.seq R e1
      unfold sortXs at e2
      split at e2
      · split at e2
        · rename_i ps e3 hc
          cases e2
          simp only [Bool.and_eq_true] at hc
          exact ⟨a, vs, ys, ps, β, Oo Z α β, rfl, .of (seq_ff h1), rr, e3, hc.1.1, hc.1.2, hc.2, fun p us n r5 => q p _ (.lst _) _ (R.apart n _) (Adv.upd n) n upd_same rfl (CellOk.apart (.lst r5) n)⟩
        · cases e2
      · cases e2
    · cases e
  · cases e
end
end Rf
end
section
set_option maxHeartbeats 200000
/-! Rf, part 6: isinstance, targets, what is walked, comprehensions. -/
namespace Rf
open PySem PySem.Spec PyProof.Rows L2

/-! ### isinstance with built-in classes -/
def typeD (S : Sto) : D → Option String
  | .non => some "NoneType"
  | .bl _ => some "bool"
  | .int _ => some "int"
  | .str _ => some "str"
  | .scr _ => some "list"
  | .dct _ _ => some "dict"
  | .fn _ => none
  | d => match seqD S d with
    | some (true, _) => some "tuple"
    | some (false, _) => some "list"
    | none => none
/-- one of the classes -/
def isiB : List String → String → Option Bool
  | [], _ => some false
  | c :: cs, T => match kitB T c with
    | some true => some true
    | some false => isiB cs T
    | none => none
theorem isiB_kit {K : PySem.W.Frag} {T : String} : ∀ {cs : List String} {r : Bool}, isiB cs T = some r → PySem.W.kitAny K (.type T) (cs.map Value.type) = some r
  | [], _, h => by cases h; rfl
  | c :: cs, r, h => by
    rw [isiB] at h
    split at h
    · cases h
      exact kitAny_cons (b := true) (kit_ty (by assumption)) (fun z => nomatch z) fun _ => rfl
    · exact kitAny_cons (b := false) (kit_ty (by assumption)) (fun _ => isiB_kit h) fun z => nomatch z
    · cases h
def dIsi (cs : List String) (t : DE) : DE := fun env S => (t env S).bind fun p => (typeD p.2 p.1).bind fun T => (isiB cs T).map fun r => (.bl r, p.2)
section
variable {K : PySem.W.Frag} {mg : Mg} {Z : Addr → Prop} {α : Nat → Option Addr} {β β' : List Addr} {H H' : Hp} {env : Env} {S S' : Sto} {σ : L2.St} {b : Bool} {d : D} {v : V}
theorem LstAt.ty {O : Addr → Prop} {a : Addr} {xs : List V} (h : LstAt K O H a xs) : TyX K H (.ref a) (.type "list") := by
  rcases h with ⟨h | ⟨o, h⟩, _⟩ | ⟨o, its, n, h1, h2, _⟩
  · exact .base (.lst h)
  · exact .base (.frz h)
  · exact .kList h1 h2
theorem sqT_ty {a : Addr} {xs : List V} (h : SqT K H a xs) : TyX K H (.ref a) (.type "tuple") := by
  rcases h with (h | ⟨o, h⟩) | ⟨o, its, n, h1, h2, _⟩
  · exact .base (.tup h)
  · exact .fTuple h
  · exact .kTuple h1 h2
theorem Res.tyX (R : Rel K mg Z α β env S σ H) (r : Res K mg Z α β H b d v) {T : String} (h : typeD S d = some T) : TyX K H v (.type T) := by
  unfold typeD at h
  split at h
  · cases h; cases r.non; exact .base .non
  · cases h; cases r.bl; exact .base (.bl _)
  · cases h; cases r.int; exact .base (.int _)
  · cases h; cases r.str; exact .base (.str _)
  · cases h
    rcases r with r | ⟨_, _, _, c, _, _, _, h3, h4, _⟩
    · cases r with
      | scr h1 h2 => exact h1.ty
    · cases h3 <;> cases h4
  · cases h
    rcases r with r | ⟨_, _, _, c, _, _, h2, h3, h4, h5⟩
    · cases r with
      | dct h1 n h2 h3 => exact .base (.dK h1)
    · cases h3 with
      | lst _ => cases h4
      | dct _ _ => subst h5; exact .base (.dK h2)
  · cases h
  · split at h
    · cases h
      obtain ⟨a, vs, rfl, rr, h1⟩ := r.seq R (by assumption)
      exact sqT_ty (seq_tt h1)
    · cases h
      obtain ⟨a, vs, rfl, rr, h1⟩ := r.seq R (by assumption)
      exact .base (.lst (seq_ff h1))
    · cases h
end
section
variable {X : Cx} {b : Bool} {p pos : Pos} {e c : Expr} {es : List Expr} {t : DE}
/-- a built-in class's name -/
theorem pe_cls {T : String} (hg : Gl X (PySem.Str.ofString T)) (hm : X.mg (PySem.Str.ofString T) = none) (hv : bootBuiltins (PySem.Str.ofString T) = some (.type T)) (hn : PySem.Str.ofString T ≠ "__name__" := by decide) (hd : (PySem.Str.ofString T == ("__debug__" : PySem.Str)) = false := by decide) :
    PE X (.Name (PySem.Str.ofString T) pos) (tC (.ty T)) := pe_bltn hg hm hv rfl hn hd
theorem rd_isi {cs : List String} {A : TE} {Q : VK} {σ : L2.St} {H : Hp} (h : rdX X.K (mX X) b (dIsi cs t) σ H Q)
    (hA : ∀ (x : V) (T : String) (r : Bool) (H1 : Hp), TyX X.K H1 x (.type T) → isiB cs T = some r → Q (.bl r) H1 → (∀ p o, H1 p = none → Q (.bl r) (upd H1 p o) ∧ TyX X.K (upd H1 p o) x (.type T)) → A σ H1 fun y H2 => rIsi X.K [x, y] H2 Q ∨ rIsiT X.K [x, y] H2 Q) :
    rdX X.K (mX X) true t σ H fun x H1 => A σ H1 fun y H2 => rIsi X.K [x, y] H2 Q ∨ rIsiT X.K [x, y] H2 Q := by
  obtain ⟨Z, α, β, env, S, d, S', R, e1, q⟩ := h
  unfold dIsi at e1
  obtain ⟨⟨x, S1⟩, ex, e1⟩ := Option.bind_eq_some_iff.mp e1
  obtain ⟨T, eT, e1⟩ := Option.bind_eq_some_iff.mp e1
  obtain ⟨r, er, e2⟩ := Option.map_eq_some_iff.mp e1
  clear e1
  cases e2
  exact ⟨Z, α, β, env, S, x, S1, R, ex, fun v H1 β1 R1 A1 r1 => hA v T r H1 (r1.tyX R1 eT) er (q _ H1 β1 R1 A1 (.inl (.bl _))) fun p o n => ⟨q _ _ β1 (R1.nw n) (A1.trb (Adv.upd n)) (.inl (.bl _)), (r1.adv R1 (Adv.upd n)).tyX (R1.nw n) eT⟩⟩
theorem call_isiAny : CallR X (.builtin "isinstance") (fun xs H Q => rIsi X.K xs H Q ∨ rIsiT X.K xs H Q) := call_isi.or call_isiT
theorem isiB_one {T T' : String} {r : Bool} (er : isiB [T] T' = some r) : kitB T' T = some r := by
  rw [isiB] at er
  split at er
  · rename_i h; cases er; exact h
  · rename_i h; rw [isiB] at er; cases er; exact h
  · cases er
theorem E.isi {T : String} (hg : Gl X "isinstance") (hm : X.mg "isinstance" = none) (ha : EX X true e t) (hc : PE X c (tC (.ty T))) (hs1 : starEach [e, c] X.env = (false, eval e X.env) :: starEach [c] X.env := by rfl) (hs2 : starEach [c] X.env = (false, eval c X.env) :: starEach [] X.env := by rfl)
    (hpl : (backTo pos (starEach [c] X.env)).any (·.1) = false := by rfl) :
    EX X b (.Call (.Name "isinstance" p) [e, c] [] pos) (dIsi [T] t) :=
  PE.imp (pe_callB call_isiAny hg hm (by decide +kernel) (pa_cons ha (pa_cons hc pa_nil hs2) hs1) (by decide) (by decide) hs1 hpl) fun σ H Q h =>
    rd_isi (A := tC (.ty T)) h fun x T' r H1 ty er q _ => .inl ⟨x, .ty T, .type T', .type T, r, rfl, .ty T, ty, kit_ty (isiB_one er), q⟩
def tTys : List String → TA
  | [] => tNil
  | T :: Ts => tCons (tC (.ty T)) (tTys Ts)
theorem tTys_rd : ∀ (Ts : List String) (σ : L2.St) (H : Hp) (Q : List V → Hp → Prop), Q (Ts.map V.ty) H → tTys Ts σ H Q
  | [], _, _, _, h => h
  | T :: Ts, σ, H, Q, h => by
    show tTys Ts σ H fun xs H2 => Q (V.ty T :: xs) H2
    exact tTys_rd Ts σ H _ h
theorem paired_cls : ∀ Ts : List String, Paired ClsV (Ts.map V.ty) (Ts.map Value.type)
  | [] => .nil
  | T :: Ts => .cons (.ty T) (paired_cls Ts)
theorem E.isiT {Ts : List String} {k : Nat} {tpos : Pos} (hg : Gl X "isinstance") (hm : X.mg "isinstance" = none) (ha : EX X true e t) (hc : PA X es (tTys Ts)) (hz : Ts.length ≤ sizeLine := by decide) (hs1 : starEach [e, .Tuple es k tpos] X.env = (false, eval e X.env) :: starEach [.Tuple es k tpos] X.env := by rfl) :
    EX X b (.Call (.Name "isinstance" p) [e, .Tuple es k tpos] [] pos) (dIsi Ts t) :=
  PE.imp (pe_callB call_isiAny hg hm (by decide +kernel) (pa_cons ha (pa_cons (pe_tup hc) pa_nil) hs1) (by decide) (by decide) hs1) fun σ H Q h =>
    rd_isi (A := tTup (tTys Ts)) h fun x T' r H1 ty er _ q => tTys_rd Ts σ H1 _ ⟨by rw [List.length_map]; exact hz, fun pp n =>
      .inr ⟨x, pp, Ts.map V.ty, .type T', Ts.map Value.type, r, rfl, upd_same, paired_cls Ts, (q pp _ n).2, isiB_kit er, (q pp _ n).1⟩⟩
end

/-! ### targets -/
abbrev DG := D → Env → Option Env
def rdG (K : PySem.W.Frag) (mg : Mg) (ts : List Nat) (g : DG) : TG := fun v σ H Q => ∃ Z α β env S d env', Rel K mg Z α β env S σ H ∧ Rep K mg β (Oo Z α β) H d v ∧ g d env = some env' ∧
  ∀ σ' α', Rel K mg Z α' β env' S σ' H → (∀ i a, α' i = some a → α i = some a) → (∀ i a, α i = some a → i ∉ ts → α' i = some a) → (∀ vs : List Nat, (∀ i ∈ ts, i ∈ vs) → wipe σ' vs = wipe σ vs) → Q σ' H
def rdGs (K : PySem.W.Frag) (mg : Mg) (ts : List Nat) (g : List D → Env → Option Env) : TGs := fun vs σ H Q => ∃ Z α β env S ds env', Rel K mg Z α β env S σ H ∧ Reps K mg β (Oo Z α β) H ds vs ∧ g ds env = some env' ∧
  ∀ σ' α', Rel K mg Z α' β env' S σ' H → (∀ i a, α' i = some a → α i = some a) → (∀ i a, α i = some a → i ∉ ts → α' i = some a) → (∀ vs : List Nat, (∀ i ∈ ts, i ∈ vs) → wipe σ' vs = wipe σ vs) → Q σ' H
def GX (X : Cx) (tg : Expr) (ts : List Nat) (g : DG) : Prop := PG X tg (rdG X.K (mX X) ts g)
def GsX (X : Cx) (tg : List Expr) (ts : List Nat) (g : List D → Env → Option Env) : Prop := PGs X tg (rdGs X.K (mX X) ts g)
def gNm (i : Nat) : DG := fun d env => if i < env.length then some (env.set i (.val d)) else none
def gsNil : List D → Env → Option Env
  | [], env => some env
  | _, _ => none
def gsCons (g : DG) (gs : List D → Env → Option Env) : List D → Env → Option Env
  | d :: ds, env => (g d env).bind (gs ds)
  | [], _ => none
def gTp (n : Nat) (gs : List D → Env → Option Env) : DG := fun d env => match d with
  | .tup xs => if xs.length = n then gs xs env else none
  | .par xs => if xs.length = n then gs xs env else none
  | _ => none
theorem wipe_get (σ : L2.St) (j : Nat) : ∀ vs : List Nat, (wipe σ vs)[j]? = if j ∈ vs then (if j < σ.length then some none else none) else σ[j]?
  | [] => by simp [wipe]
  | v :: vs => by
    unfold wipe
    rw [List.getElem?_set, wipe_length, wipe_get σ j vs]
    by_cases h : v = j
    · subst h; simp
    · have h' : j ≠ v := fun z => h z.symm
      simp [h, h', List.mem_cons]
theorem wipe_set {σ : L2.St} {i : Nat} {x : Option V} {vs : List Nat} (h : i ∈ vs) : wipe (σ.set i x) vs = wipe σ vs := by
  apply List.ext_getElem?
  intro j
  rw [wipe_get, wipe_get, List.length_set]
  by_cases hj : j ∈ vs
  · simp [hj]
  · have : i ≠ j := fun z => hj (z ▸ h)
    simp [hj, List.getElem?_set_ne this]
section
variable {K : PySem.W.Frag} {mg : Mg} {Z : Addr → Prop} {α α' : Nat → Option Addr} {β β' : List Addr} {H H' : Hp} {env : Env} {S S' : Sto} {σ : L2.St} {b : Bool} {d : D} {v : V}
theorem Oo.sub (h : ∀ i a, α' i = some a → α i = some a) : ∀ a, Oo Z α' β a → Oo Z α β a := fun a q => by
  rcases q with q | q | ⟨i, q⟩
  · exact .inl q
  · exact .inr (.inl q)
  · exact .inr (.inr ⟨i, h i a q⟩)
theorem Rep.sub (r : Rep K mg β (Oo Z α β) H d v) (h : ∀ i a, α' i = some a → α i = some a) : Rep K mg β (Oo Z α' β) H d v := Rep.mono (fun _ _ e => e) (fun _ _ e _ => e) (fun a q => .inl (Oo.sub h a q)) _ _ r
theorem CellOk.sub {c : Cell} {o : HO} (r : CellOk K mg β (Oo Z α β) H c o) (h : ∀ i a, α' i = some a → α i = some a) : CellOk K mg β (Oo Z α' β) H c o := CellOk.mono (fun _ _ e => e) (fun _ _ e _ => e) (fun a q => .inl (Oo.sub h a q)) r
theorem CellS.sub {ap : Addr} {c : Cell} {o : HO} (r : CellS K mg β (Oo Z α β) H ap c o) (h : ∀ i a, α' i = some a → α i = some a) : CellS K mg β (Oo Z α' β) H ap c o := CellS.mono (fun _ _ e => e) (fun _ _ e _ => e) (fun a q => .inl (Oo.sub h a q)) r
/-- an address map without a place -/
def drop1 (α : Nat → Option Addr) (i : Nat) : Nat → Option Addr := fun j => if j = i then none else α j
theorem drop1_sub {i : Nat} : ∀ j a, drop1 α i j = some a → α j = some a := fun j a e => by
  unfold drop1 at e
  split at e
  · cases e
  · exact e
theorem Rel.setVal (R : Rel K mg Z α β env S σ H) {i : Nat} (hi : i < env.length) (r : Rep K mg β (Oo Z α β) H d v) : Rel K mg Z (drop1 α i) β (env.set i (.val d)) S (σ.set i (some v)) H where
  len := by rw [List.length_set, List.length_set]; exact R.len
  slot := fun j sl e => by
    rw [List.getElem?_set] at e
    by_cases h : i = j
    · subst h
      rw [if_pos rfl, if_pos hi] at e
      cases e
      exact ⟨v, by rw [List.getElem?_set_self (by rw [← R.len]; exact hi)], r.sub drop1_sub⟩
    · rw [if_neg h] at e
      have q := R.slot j sl e
      cases sl with
      | no => trivial
      | val d' => obtain ⟨w, e1, r1⟩ := q; exact ⟨w, by rw [List.getElem?_set_ne h]; exact e1, r1.sub drop1_sub⟩
      | own c =>
        obtain ⟨a, o, e1, e2, e3, r1⟩ := q
        exact ⟨a, o, by rw [List.getElem?_set_ne h]; exact e1, by unfold drop1; rw [if_neg fun z => h z.symm]; exact e2, e3, r1.sub drop1_sub⟩
  sup := fun j a e => by
    have h : i ≠ j := fun z => by unfold drop1 at e; rw [if_pos z.symm] at e; cases e
    obtain ⟨c, e1⟩ := R.sup j a (drop1_sub j a e)
    exact ⟨c, by rw [List.getElem?_set_ne h]; exact e1⟩
  blen := R.blen
  cell := fun n c a e1 e2 => by
    obtain ⟨o, e3, r1⟩ := R.cell n c a e1 e2
    exact ⟨o, e3, r1.sub drop1_sub⟩
  nod := R.nod
  inj := fun j k a e1 e2 => R.inj j k a (drop1_sub j a e1) (drop1_sub k a e2)
  dis := fun j a e => R.dis j a (drop1_sub j a e)
  disZ := R.disZ
  zlive := R.zlive
end
section
variable {X : Cx} {pos : Pos} {es : List Expr}
theorem G.nm (i : Nat) {x : PySem.Str} (hN : X.N.Nodup) (hi : X.N[i]? = some x := by rfl) (hx : Loc X.env.scope x := by first | exact Or.inl rfl | exact Or.inr rfl) (hf : X.fn x = true ∨ X.env.scope.names.lookup x = some .local := by first | exact Or.inl rfl | exact Or.inr rfl | assumption) : GX X (.Name x pos) [i] (gNm i) :=
  ⟨fun pins s σ H v u Q I r ⟨Z, α, β, env, S, d, env', R, rd, e, q⟩ => (pg_name (i := i) hN hi hx hf).run pins s σ H v u Q I r (by
    unfold gNm at e
    split at e
    · rename_i hl
      cases e
      exact q _ _ (R.setVal hl rd) drop1_sub (fun j a e hj => by unfold drop1; rw [if_neg (by simpa using hj)]; exact e) fun vs hv => wipe_set (hv i (by simp))
    · cases e)⟩
theorem Gs.nil : GsX X [] [] gsNil := ⟨fun pins s σ H v u Q I r ⟨Z, α, β, env, S, d, env', R, rd, e, q⟩ => pgs_nil.run pins s σ H v u Q I r (by
  cases rd with
  | nil => cases e; exact ⟨rfl, q _ _ R (fun _ _ h => h) (fun _ _ h _ => h) fun _ _ => rfl⟩
  | cons _ _ => cases e)⟩
theorem Gs.cons {e : Expr} {ts us : List Nat} {g : DG} {gs : List D → Env → Option Env} (h1 : GX X e ts g) (h2 : GsX X es us gs) (hs : (assignEach (e :: es) X.env).map (·.2) = assign e X.env :: (assignEach es X.env).map (·.2) := by rfl) : GsX X (e :: es) (ts ++ us) (gsCons g gs) :=
  ⟨fun pins s σ H v u Q I r ⟨Z, α, β, env, S, ds, env', R, rd, e1, q⟩ => (pgs_cons h1 h2 hs).run pins s σ H v u Q I r (by
  cases rd with
  | nil => cases e1
  | cons r1 r2 =>
    obtain ⟨env1, e2, e3⟩ := Option.bind_eq_some_iff.mp e1
    refine ⟨_, _, rfl, Z, α, β, env, S, _, env1, R, r1, e2, fun σ1 α1 R1 hs1 k1 w1 => ?_⟩
    refine ⟨Z, α1, β, env1, S, _, env', R1, Reps.mono (fun _ _ e => e) (fun _ _ e _ => e) (fun a q => .inl (Oo.sub hs1 a q)) _ _ r2, e3, fun σ2 α2 R2 hs2 k2 w2 => q σ2 α2 R2 (fun i a e => hs1 i a (hs2 i a e)) (fun i a e hi => k2 i a (k1 i a e fun z => hi (List.mem_append_left _ z)) fun z => hi (List.mem_append_right _ z)) fun vs hv => ?_⟩
    rw [w2 vs fun i hi => hv i (List.mem_append_right _ hi), w1 vs fun i hi => hv i (List.mem_append_left _ hi)])⟩
theorem G.tp {ts : List Nat} {n k : Nat} {gs : List D → Env → Option Env} (hc : X.calm = true) (h : GsX X es ts gs) (hn : (assignEach es X.env).length = n := by rfl) (hst : (assignEach es X.env).findIdx? (·.1) = none := by rfl) : GX X (.Tuple es k pos) ts (gTp n gs) :=
  ⟨fun pins s σ H v u Q I r ⟨Z, α, β, env, S, d, env', R, rd, e, q⟩ => (pg_tup hc h hn hst).run pins s σ H v u Q I r (by
    cases d <;> try (cases e; done)
    case tup xs =>
      have e : (if xs.length = n then gs xs env else none) = some env' := e
      split at e
      · cases rd with
        | tup h1 h2 => exact ⟨_, _, rfl, h1.sq, by rw [← h2.length]; assumption, Z, α, β, env, S, xs, env', R, h2, e, q⟩
      · cases e
    case par xs =>
      have e : (if xs.length = n then gs xs env else none) = some env' := e
      split at e
      · cases rd with
        | par h1 h2 => exact ⟨_, _, rfl, h1.sq, by rw [← h2.length]; assumption, Z, α, β, env, S, xs, env', R, h2, e, q⟩
      · cases e)⟩
end

/-! ### what is walked -/
/-- what must still stand: the list itself (inl), or the list of which the items are numbered (inr) -/
abbrev Gd := Option (Nat ⊕ Nat)
instance : Coe Nat (Nat ⊕ Nat) := ⟨.inl⟩
abbrev DI := Env → Sto → Option ((List D × Gd) × Sto)
/-- the list that is walked still stands -/
def gok (gd : Gd) (items : List D) (S : Sto) : Prop := match gd with
  | none => True
  | some (.inl n) => S[n]? = some (.lst items)
  | some (.inr n) => ∃ xs, S[n]? = some (.lst xs) ∧ items.length = xs.length ∧ ∀ (i : Nat) (d : D), items[i]? = some d → ∃ x, xs[i]? = some x ∧ d = .par [.int (i : Int), x]
section
variable (K : PySem.W.Frag) (mg : Mg)
structure Kp (b : Bool) (Z : Addr → Prop) (α : Nat → Option Addr) (β : List Addr) (H : Hp) (Z1 : Addr → Prop) (α1 : Nat → Option Addr) (β1 : List Addr) (H1 : Hp) : Prop where
  keep : ∀ a o, H a = some o → ¬ Oo Z α β a → H1 a = some o
  avoid : ∀ a, Oo Z1 α1 β1 a → Oo Z α β a ∨ H a = none
  nth : ∀ (n : Nat) (a : Addr), β[n]? = some a → β1[n]? = some a
  own : b = true → ∀ i a o, α i = some a → H a = some o → H1 a = some o
  frz : ∀ a od u, H a = some (.frz od u) → H1 a = some (.frz od u)
structure ItOk (b : Bool) (Z : Addr → Prop) (α : Nat → Option Addr) (β : List Addr) (H : Hp) (J : It) (items : List D) (gd : Gd) : Prop where
  go : ∀ i d Z1 α1 β1 env1 S1 σ1 H1, Rel K mg Z1 α1 β1 env1 S1 σ1 H1 → Kp b Z α β H Z1 α1 β1 H1 → gok gd items S1 → items[i]? = some d → J.go i H1 ∧
    ∀ x H2, J.yld i H1 x H2 → (∀ a o, H1 a = some o → H2 a = some o) ∧ Rel K mg Z1 α1 β1 env1 S1 σ1 H2 ∧ Adv (Wb β1) β1 H1 β1 H2 ∧ Rep K mg β1 (Oo Z1 α1 β1) H2 d x
  stop : ∀ i Z1 α1 β1 env1 S1 σ1 H1, Rel K mg Z1 α1 β1 env1 S1 σ1 H1 → Kp b Z α β H Z1 α1 β1 H1 → gok gd items S1 → items.length ≤ i → J.stop i H1
def rdI (b : Bool) (di : DI) : TI := fun σ H R => ∃ Z α β env S items gd S', Rel K mg Z α β env S σ H ∧ di env S = some ((items, gd), S') ∧
  ∀ J H' β', Rel K mg Z α β' env S' σ H' → Adv (Wb β) β H β' H' → items.length ≤ sizeLine → ItOk K mg b Z α β' H' J items gd → R J H'
end
def IX (X : Cx) (b : Bool) (tg iter : Expr) (di : DI) : Prop := PI X tg iter (rdI X.K (mX X) b di)
theorem PI.imp {X : Cx} {tg e : Expr} {t u : TI} (h : PI X tg e t) (hi : ∀ σ H Q, u σ H Q → t σ H Q) : PI X tg e u := ⟨fun p s σ H Q I q => h.run p s σ H Q I (hi σ H Q q)⟩
theorem PI.or {X : Cx} {tg e : Expr} {t u : TI} (h : PI X tg e t) (h2 : PI X tg e u) : PI X tg e (fun σ H R => t σ H R ∨ u σ H R) := ⟨fun p s σ H Q I q => q.elim (h.run p s σ H Q I) (h2.run p s σ H Q I)⟩
/-- the lengths of what stands -/
def Lens (K : PySem.W.Frag) (H : Hp) : Prop := ∀ a xs, (SqL K H a xs → xs.length ≤ sizeLine) ∧ (SqT K H a xs → xs.length ≤ sizeLine)
theorem Inv.lens {X : Cx} {pins : List (Addr × Obj)} {σ : L2.St} {H : Hp} {s : Shared} (I : Inv X pins σ H s) : Lens X.K H := fun a xs => ⟨fun h => by
  obtain ⟨_, _, _, z⟩ := I.list h
  exact z, fun h => by
  obtain ⟨_, _, _, z⟩ := I.tuple h
  exact z⟩
theorem PE.lens {X : Cx} {e : Expr} {t : TE} (h : PE X e t) : PE X e (fun σ H Q => t σ H fun v H1 => Lens X.K H1 → Q v H1) := ⟨fun p s σ H Q I q => thn (h.run p s σ H _ I q) fun u s1 ⟨v, H1, I1, r1, q1⟩ => ⟨v, H1, I1, r1, q1 (Inv.lens I1)⟩⟩
theorem PA.lens {X : Cx} {e : List Expr} {t : TA} (h : PA X e t) : PA X e (fun σ H Q => t σ H fun v H1 => Lens X.K H1 → Q v H1) := ⟨fun w p s σ H Q I q => thn (h.run w p s σ H _ I q) fun u s1 ⟨v, H1, I1, r1, q1⟩ => ⟨v, H1, I1, r1, q1 (Inv.lens I1)⟩⟩
def isTupD : D → Bool
  | .tup _ => true
  | _ => false
def gdOf : D → Gd
  | .ref n => some (.inl n)
  | _ => none
def itemsD (S : Sto) : D → Option (List D)
  | .scr xs => some xs
  | d => (seqD S d).map (·.2)
def iSeq (t : DE) : DI := fun env S => (t env S).bind fun p => (itemsD p.2 p.1).map fun xs => ((xs, gdOf p.1), p.2)
section
variable {K : PySem.W.Frag} {mg : Mg} {Z Z1 : Addr → Prop} {α α1 : Nat → Option Addr} {β β1 : List Addr} {H H1 : Hp} {env env1 : Env} {S S1 : Sto} {σ σ1 : L2.St} {b : Bool} {d : D} {v : V}
/-- a value that is walked stands the same at each turn -/
theorem Res.still (R : Rel K mg Z α β env S σ H) (r : Res K mg Z α β H b d v) {items : List D} (h : itemsD S d = some items) : ∃ a vs, v = .ref a ∧ Reps K mg β (Oo Z α β) H items vs ∧
    ((isTupD d = false ∧ SqL K H a vs ∧ ∀ Z1 α1 β1 env1 S1 σ1 H1, Rel K mg Z1 α1 β1 env1 S1 σ1 H1 → Kp b Z α β H Z1 α1 β1 H1 → gok (gdOf d) items S1 → ∃ us, SqL K H1 a us ∧ Reps K mg β1 (Oo Z1 α1 β1) H1 items us) ∨
     (isTupD d = true ∧ SqT K H a vs ∧ ∀ Z1 α1 β1 env1 S1 σ1 H1, Rel K mg Z1 α1 β1 env1 S1 σ1 H1 → Kp b Z α β H Z1 α1 β1 H1 → gok (gdOf d) items S1 → ∃ us, SqT K H1 a us ∧ Reps K mg β1 (Oo Z1 α1 β1) H1 items us)) := by
  have mv : ∀ {ds : List D} {us : List V} {Z1 α1 β1 H1}, Reps K mg β (Oo Z α β) H ds us → Kp b Z α β H Z1 α1 β1 H1 → Reps K mg β1 (Oo Z1 α1 β1) H1 ds us := fun {ds us Z1 α1 β1 H1} r k => Reps.mono k.nth k.keep k.avoid _ _ r
  rcases r with r | ⟨hb, i, a, c, o, h1, h2, h3, h4, h5⟩
  · cases r with
    | tup h1 h2 =>
      cases h
      exact ⟨_, _, rfl, h2, .inr ⟨rfl, h1.sq, fun Z1 α1 β1 env1 S1 σ1 H1 R1 k g => ⟨_, (h1.mono k.keep k.avoid).sq, mv h2 k⟩⟩⟩
    | lst h1 n h2 =>
      cases h
      exact ⟨_, _, rfl, h2, .inl ⟨rfl, .of h1, fun Z1 α1 β1 env1 S1 σ1 H1 R1 k g => ⟨_, .of (k.keep _ _ h1 n), mv h2 k⟩⟩⟩
    | scr h1 h2 =>
      cases h
      exact ⟨_, _, rfl, h2, .inl ⟨rfl, h1.sq, fun Z1 α1 β1 env1 S1 σ1 H1 R1 k g => ⟨_, (h1.mono k.keep k.avoid).sq, mv h2 k⟩⟩⟩
    | ref h1 =>
      obtain ⟨⟨tp, xs⟩, e1, e2⟩ := Option.map_eq_some_iff.mp h
      cases e2
      simp only [seqD] at e1
      split at e1
      · rename_i ys e
        cases e1
        obtain ⟨o, e2, c⟩ := R.cell _ _ _ e h1
        replace c := c.ok
        cases c with
        | lst c =>
          refine ⟨_, _, rfl, c, .inl ⟨rfl, .of e2, fun Z1 α1 β1 env1 S1 σ1 H1 R1 k g => ?_⟩⟩
          obtain ⟨o1, e3, c1⟩ := R1.cell _ _ _ g (k.nth _ _ h1)
          replace c1 := c1.ok
          cases c1 with
          | lst c1 => exact ⟨_, .of e3, c1⟩
      · cases e1
    | _ => cases h
  · subst h4 h5
    cases h3 with
    | lst h3 =>
      cases h
      exact ⟨_, _, rfl, h3, .inl ⟨rfl, .of h2, fun Z1 α1 β1 env1 S1 σ1 H1 R1 k g => ⟨_, .of (k.own hb i _ _ h1 h2), mv h3 k⟩⟩⟩
    | dct _ _ => cases h
theorem itl_ok {a : Addr} {items : List D} {gd : Gd} (h : ∀ Z1 α1 β1 env1 S1 σ1 H1, Rel K mg Z1 α1 β1 env1 S1 σ1 H1 → Kp b Z α β H Z1 α1 β1 H1 → gok gd items S1 → ∃ us, SqL K H1 a us ∧ Reps K mg β1 (Oo Z1 α1 β1) H1 items us) :
    ItOk K mg b Z α β H (Itl K a) items gd where
  go := fun i d Z1 α1 β1 env1 S1 σ1 H1 R1 k g e => by
    obtain ⟨us, h1, r1⟩ := h Z1 α1 β1 env1 S1 σ1 H1 R1 k g
    obtain ⟨x, e2, r2⟩ := r1.get e
    refine ⟨⟨us, x, h1, e2⟩, fun y H2 hy => ?_⟩
    obtain ⟨rfl, hy⟩ := hy
    have e3 := hy us h1
    rw [e2] at e3; cases e3
    exact ⟨fun _ _ e => e, R1, .refl, r2⟩
  stop := fun i Z1 α1 β1 env1 S1 σ1 H1 R1 k g hl => by
    obtain ⟨us, h1, r1⟩ := h Z1 α1 β1 env1 S1 σ1 H1 R1 k g
    exact ⟨us, h1, by rw [← r1.length]; exact hl⟩
theorem itt_ok {a : Addr} {items : List D} {gd : Gd} (h : ∀ Z1 α1 β1 env1 S1 σ1 H1, Rel K mg Z1 α1 β1 env1 S1 σ1 H1 → Kp b Z α β H Z1 α1 β1 H1 → gok gd items S1 → ∃ us, SqT K H1 a us ∧ Reps K mg β1 (Oo Z1 α1 β1) H1 items us) :
    ItOk K mg b Z α β H (Itt K a) items gd where
  go := fun i d Z1 α1 β1 env1 S1 σ1 H1 R1 k g e => by
    obtain ⟨us, h1, r1⟩ := h Z1 α1 β1 env1 S1 σ1 H1 R1 k g
    obtain ⟨x, e2, r2⟩ := r1.get e
    refine ⟨⟨us, x, h1, e2⟩, fun y H2 hy => ?_⟩
    obtain ⟨rfl, hy⟩ := hy
    have e3 := hy us h1
    rw [e2] at e3; cases e3
    exact ⟨fun _ _ e => e, R1, .refl, r2⟩
  stop := fun i Z1 α1 β1 env1 S1 σ1 H1 R1 k g hl => by
    obtain ⟨us, h1, r1⟩ := h Z1 α1 β1 env1 S1 σ1 H1 R1 k g
    exact ⟨us, h1, by rw [← r1.length]; exact hl⟩
def rngL (lo : Int) (n : Nat) : List D := (List.range n).map fun i : Nat => .int (lo + (i : Int))
theorem rngL_get {lo : Int} {n i : Nat} {d : D} (h : (rngL lo n)[i]? = some d) : i < n ∧ d = .int (lo + (i : Int)) := by
  unfold rngL at h
  rw [List.getElem?_map] at h
  obtain ⟨j, e, rfl⟩ := Option.map_eq_some_iff.mp h
  obtain ⟨e1, e2⟩ := List.getElem?_eq_some_iff.mp e
  rw [List.getElem_range] at e2
  subst e2
  exact ⟨by simpa using e1, rfl⟩
theorem rngL_len (lo : Int) (n : Nat) : (rngL lo n).length = n := by unfold rngL; simp
theorem itr_ok {lo : Int} {n : Nat} : ItOk K mg b Z α β H (Itr lo n) (rngL lo n) none where
  go := fun i d Z1 α1 β1 env1 S1 σ1 H1 R1 k g e => by
    obtain ⟨e1, e2⟩ := rngL_get e
    subst e2
    refine ⟨e1, fun y H2 hy => ?_⟩
    obtain ⟨rfl, rfl⟩ := hy
    exact ⟨fun _ _ e => e, R1, .refl, .int _⟩
  stop := fun i Z1 α1 β1 env1 S1 σ1 H1 R1 k g hl => by rw [rngL_len] at hl; exact hl
end
section
variable {X : Cx} {b : Bool} {p pos tpos : Pos} {tg e e2 : Expr} {t u : DE}
theorem I.seq (h : EX X b e t) : IX X b tg e (iSeq t) :=
  PI.imp (PI.or (pi_list (PE.lens h)) (pi_tup (PE.lens h))) fun σ H R' ⟨Z, α, β, env, S, items, gd, S', R, e1, q⟩ => by
    unfold iSeq at e1
    obtain ⟨⟨x, S1⟩, ex, e1⟩ := Option.bind_eq_some_iff.mp e1
    obtain ⟨xs, exs, e2⟩ := Option.map_eq_some_iff.mp e1
    clear e1
    cases e2
    cases hx : isTupD x with
    | true =>
      refine .inr ⟨Z, α, β, env, S, x, S1, R, ex, fun v H1 β1 R1 A1 r1 L => ?_⟩
      obtain ⟨a, vs, rfl, rr, ⟨h0, h1, h2⟩ | ⟨h0, h1, h2⟩⟩ := r1.still R1 exs
      · rw [hx] at h0; cases h0
      · exact ⟨a, rfl, ⟨vs, h1⟩, q _ H1 β1 R1 A1 (by rw [rr.length]; exact (L a vs).2 h1) (itt_ok h2)⟩
    | false =>
      refine .inl ⟨Z, α, β, env, S, x, S1, R, ex, fun v H1 β1 R1 A1 r1 L => ?_⟩
      obtain ⟨a, vs, rfl, rr, ⟨h0, h1, h2⟩ | ⟨h0, h1, h2⟩⟩ := r1.still R1 exs
      · exact ⟨a, rfl, ⟨vs, h1⟩, q _ H1 β1 R1 A1 (by rw [rr.length]; exact (L a vs).1 h1) (itl_ok h2)⟩
      · rw [hx] at h0; cases h0
noncomputable def rgA : List D → Option (List D)
  | [.int j] => chk (-(2 ^ 62) ≤ j ∧ j < 2 ^ 62 ∧ j.toNat ≤ sizeLine) (some (rngL 0 j.toNat))
  | _ => none
noncomputable def rgB : List D → Option (List D)
  | [.int i, .int j] => chk (-(2 ^ 62) ≤ i ∧ i < 2 ^ 62 ∧ -(2 ^ 62) ≤ j ∧ j < 2 ^ 62 ∧ (j - i).toNat ≤ sizeLine) (some (rngL i (j - i).toNat))
  | _ => none
noncomputable def iRng1 (t : DA) : DI := fun env S => (t env S).bind fun p => (rgA p.1).map fun xs => ((xs, none), p.2)
noncomputable def iRng2 (t : DA) : DI := fun env S => (t env S).bind fun p => (rgB p.1).map fun xs => ((xs, none), p.2)
theorem I.rng1 {a : DA} (hg : Gl X "range") (hm : X.mg "range" = none) (ha : AX X true [e] a) (hs : starEach [e] X.env = [(false, eval e X.env)] := by rfl) : IX X b tg (.Call (.Name "range" p) [e] [] pos) (iRng1 a) :=
  PI.imp (pi_range1 hg hm ha hs) fun σ H R' ⟨Z, α, β, env, S, items, gd, S', R, e1, q⟩ => by
    unfold iRng1 at e1
    obtain ⟨⟨xs, S1⟩, ex, e2⟩ := Option.bind_eq_some_iff.mp e1
    obtain ⟨its, e3, e4⟩ := Option.map_eq_some_iff.mp e2
    clear e1 e2
    cases e4
    replace e3 : rgA xs = some items := e3
    revert e3
    unfold rgA
    intro e1
    split at e1
    · rename_i j
      obtain ⟨hj, e1⟩ := chk_some e1
      · cases e1
        refine ⟨Z, α, β, env, S, _, _, R, ex, fun vs H1 β1 R1 A1 r1 => ?_⟩
        obtain ⟨v, rfl, r⟩ := Paired.one r1
        exact ⟨j, by rw [r.int], hj.1, hj.2.1, q _ H1 β1 R1 A1 (by rw [rngL_len]; exact hj.2.2) itr_ok⟩
    · cases e1
theorem I.rng2 {a : DA} (hg : Gl X "range") (hm : X.mg "range" = none) (ha : AX X true [e, e2] a) (hs : starEach [e, e2] X.env = [(false, eval e X.env), (false, eval e2 X.env)] := by rfl) (hs2 : starEach [e2] X.env = [(false, eval e2 X.env)] := by rfl) : IX X b tg (.Call (.Name "range" p) [e, e2] [] pos) (iRng2 a) :=
  PI.imp (pi_range2 hg hm ha hs hs2) fun σ H R' ⟨Z, α, β, env, S, items, gd, S', R, e1, q⟩ => by
    unfold iRng2 at e1
    obtain ⟨⟨xs, S1⟩, ex, e2⟩ := Option.bind_eq_some_iff.mp e1
    obtain ⟨its, e3, e4⟩ := Option.map_eq_some_iff.mp e2
    clear e1 e2
    cases e4
    replace e3 : rgB xs = some items := e3
    revert e3
    unfold rgB
    intro e1
    split at e1
    · rename_i i j
      obtain ⟨hj, e1⟩ := chk_some e1
      · cases e1
        refine ⟨Z, α, β, env, S, _, _, R, ex, fun vs H1 β1 R1 A1 r1 => ?_⟩
        obtain ⟨v, w, rfl, r, r2⟩ := Paired.two r1
        exact ⟨i, j, by rw [r.int, r2.int], ⟨hj.1, hj.2.1, hj.2.2.1, hj.2.2.2.1⟩, q _ H1 β1 R1 A1 (by rw [rngL_len]; exact hj.2.2.2.2) itr_ok⟩
    · cases e1
end
end Rf
end
section
set_option maxHeartbeats 200000
/-! Rf, part 7: list comprehensions. -/
namespace Rf
open PySem PySem.Spec PyProof.Rows L2

def wipeE (env : Env) : List Nat → Env
  | [] => env
  | v :: vs => (wipeE env vs).set v .no
theorem wipeE_len (env : Env) : ∀ vs : List Nat, (wipeE env vs).length = env.length
  | [] => rfl
  | v :: vs => by unfold wipeE; rw [List.length_set, wipeE_len env vs]
theorem wipeE_get (env : Env) (j : Nat) : ∀ vs : List Nat, (wipeE env vs)[j]? = if j ∈ vs then (if j < env.length then some .no else none) else env[j]?
  | [] => by simp [wipeE]
  | v :: vs => by
    unfold wipeE
    rw [List.getElem?_set, wipeE_len, wipeE_get env j vs]
    by_cases h : v = j
    · subst h; simp
    · have h' : j ≠ v := fun z => h z.symm
      simp [h, h', List.mem_cons]
open Classical in
/-- the turns of a comprehension: what is left, what is made so far -/
noncomputable def lcGo (g : DG) (tt : DT) (te : DE) (gd : Gd) (all : List D) (wenv : Env) : List D → List D → Sto → Option (D × Sto)
  | [], acc, S => if gok gd all S then some (.lst acc, S) else none
  | d :: ds, acc, S => if gok gd all S then (g d wenv).bind fun env2 => (tt env2 S).bind fun k => if k.1 = true then (te env2 k.2).bind fun y => lcGo g tt te gd all wenv ds (acc ++ [y.1]) y.2 else lcGo g tt te gd all wenv ds acc k.2 else none
noncomputable def dLc (di : DI) (vs : List Nat) (g : DG) (tt : DT) (te : DE) : DE := fun env S => (di env S).bind fun p => lcGo g tt te p.1.2 p.1.1 (wipeE env vs) p.1.1 [] p.2
section
variable {K : PySem.W.Frag} {mg : Mg} {Z Z1 : Addr → Prop} {α α1 : Nat → Option Addr} {β β1 : List Addr} {H H1 : Hp} {env env1 : Env} {S S1 : Sto} {σ σ1 : L2.St} {b : Bool} {d : D} {v : V}
def αw (α : Nat → Option Addr) (vs : List Nat) : Nat → Option Addr := fun i => if i ∈ vs then none else α i
def Zw (Z : Addr → Prop) (α : Nat → Option Addr) (vs : List Nat) : Addr → Prop := fun a => Z a ∨ ∃ i, i ∈ vs ∧ α i = some a
theorem Oo_w {vs : List Nat} : Oo (Zw Z α vs) (αw α vs) β = Oo Z α β := by
  funext a
  apply propext
  unfold Oo Zw αw
  constructor
  · rintro ((h | ⟨i, _, h⟩) | h | ⟨i, h⟩)
    · exact .inl h
    · exact .inr (.inr ⟨i, h⟩)
    · exact .inr (.inl h)
    · split at h
      · cases h
      · exact .inr (.inr ⟨i, h⟩)
  · rintro (h | h | ⟨i, h⟩)
    · exact .inl (.inl h)
    · exact .inr (.inl h)
    · by_cases hi : i ∈ vs
      · exact .inl (.inr ⟨i, hi, h⟩)
      · exact .inr (.inr ⟨i, by rw [if_neg hi]; exact h⟩)
theorem αw_some {vs : List Nat} {i : Nat} {a : Addr} (h : αw α vs i = some a) : i ∉ vs ∧ α i = some a := by
  unfold αw at h
  split at h
  · cases h
  · exact ⟨by assumption, h⟩
theorem Rel.wipe (R : Rel K mg Z α β env S σ H) (vs : List Nat) : Rel K mg (Zw Z α vs) (αw α vs) β (wipeE env vs) S (L2.wipe σ vs) H where
  len := by rw [wipeE_len, wipe_length]; exact R.len
  slot := fun i sl e => by
    rw [wipeE_get] at e
    split at e
    · split at e
      · cases e; trivial
      · cases e
    · rename_i hi
      have q := R.slot i sl e
      cases sl with
      | no => trivial
      | val d => obtain ⟨v, e1, r⟩ := q; exact ⟨v, by rw [wipe_get, if_neg hi]; exact e1, by rw [Oo_w]; exact r⟩
      | own c => obtain ⟨a, o, e1, e2, e3, r⟩ := q; exact ⟨a, o, by rw [wipe_get, if_neg hi]; exact e1, by unfold αw; rw [if_neg hi]; exact e2, e3, by rw [Oo_w]; exact r⟩
  sup := fun i a e => by
    obtain ⟨hi, e⟩ := αw_some e
    obtain ⟨c, e1⟩ := R.sup i a e
    exact ⟨c, by rw [wipeE_get, if_neg hi]; exact e1⟩
  blen := R.blen
  cell := fun n c a e1 e2 => by rw [Oo_w]; exact R.cell n c a e1 e2
  nod := R.nod
  inj := fun i j a e1 e2 => R.inj i j a (αw_some e1).2 (αw_some e2).2
  dis := fun i a e => by
    obtain ⟨hi, e⟩ := αw_some e
    refine ⟨(R.dis i a e).1, fun z => ?_⟩
    rcases z with z | ⟨j, hj, z⟩
    · exact (R.dis i a e).2 z
    · exact hi (R.inj i j a e z ▸ hj)
  disZ := fun a ha z => by
    rcases z with z | ⟨i, _, z⟩
    · exact R.disZ a ha z
    · exact (R.dis i a z).1 ha
  zlive := fun a z => by
    rcases z with z | ⟨i, _, z⟩
    · exact R.zlive a z
    · exact R.toCall.zlive a (.inr ⟨i, z⟩)
/-- back from an inner run -/
theorem Rel.join (R : Rel K mg Z α β env S σ H) (R1 : Rel K mg Z1 α1 β1 env1 S1 σ1 H1) (hO : ∀ γ, Oo Z1 α1 γ = Oo Z α γ) (A : Adv (Wb β) β H β1 H1) : Rel K mg Z α β1 env S1 σ H1 where
  len := R.len
  slot := fun i sl e => by
    have q := R.slot i sl e
    cases sl with
    | no => trivial
    | val d => obtain ⟨v, e1, r⟩ := q; exact ⟨v, e1, r.adv A⟩
    | own c => obtain ⟨a, o, e1, e2, e3, r⟩ := q; exact ⟨a, o, e1, e2, A.keep a o e3 (R.own e2), r.adv A⟩
  sup := R.sup
  blen := R1.blen
  cell := fun n c a e1 e2 => by
    have q := R1.cell n c a e1 e2
    rw [hO] at q
    exact q
  nod := R1.nod
  inj := R.inj
  dis := fun i a e => by
    refine ⟨fun z => ?_, (R.dis i a e).2⟩
    have q : Oo Z1 α1 [] a := by rw [hO]; exact .inr (.inr ⟨i, e⟩)
    rcases q with q | q | ⟨j, q⟩
    · exact R1.disZ a z q
    · cases q
    · exact (R1.dis j a q).1 z
  disZ := fun a ha z => by
    have q : Oo Z1 α1 [] a := by rw [hO]; exact .inl z
    rcases q with q | q | ⟨j, q⟩
    · exact R1.disZ a ha q
    · cases q
    · exact (R1.dis j a q).1 ha
  zlive := fun a z => A.live a (R.zlive a z)
theorem Kp.of (R : Rel K mg Z α β env S σ H) (hO : ∀ γ, Oo Z1 α1 γ = Oo Z α γ) (A : Adv (Wb β) β H β1 H1) : Kp b Z α β H Z1 α1 β1 H1 where
  keep := fun a o e n => A.keep a o e fun w => n (.inr (.inl w))
  avoid := fun a q => by
    rw [hO] at q
    exact Oo.step A a q
  nth := A.nth
  own := fun _ i a o e1 e2 => A.keep a o e2 (R.own e1)
  frz := A.frz
end
theorem wipe_wipe (σ : L2.St) (vs : List Nat) : L2.wipe (L2.wipe σ vs) vs = L2.wipe σ vs := by
  apply List.ext_getElem?
  intro j
  rw [wipe_get, wipe_length, wipe_get]
  by_cases h : j ∈ vs <;> simp [h]
section
variable {X : Cx} {b : Bool} {pos : Pos} {elt tg iter : Expr} {ifs : List Expr} {scope : Scope}
def TsX (X : Cx) (ifs : List Expr) (t : DT) : Prop := PTs X ifs (rdT X.K (mX X) t)
def tTrue : DT := fun _ S => some (true, S)
theorem PTs.imp {X : Cx} {e : List Expr} {t u : TT} (h : PTs X e t) (hi : ∀ σ H Q, u σ H Q → t σ H Q) : PTs X e u := ⟨fun p s σ H Q I q => h.run p s σ H Q I (hi σ H Q q)⟩
theorem Ts.nil : TsX X [] tTrue := PTs.imp pts_nil fun σ H Q ⟨Z, α, β, env, S, k, S', R, e1, q⟩ => by
  cases e1
  exact q H β R .refl
theorem Ts.one {c : Expr} {t : DT} (h : TX X c t) : TsX X [c] t := pts_one h
/-- an address that is set apart is written -/
theorem relUpdZ {K : PySem.W.Frag} {mg : Mg} {Z : Addr → Prop} {α : Nat → Option Addr} {β : List Addr} {H : Hp} {env : Env} {S : Sto} {σ : L2.St} (R : Rel K mg Z α β env S σ H) {D : Addr} (hD : Z D) (o : HO) : Rel K mg Z α β env S σ (upd H D o) := by
  have mv : ∀ a u, H a = some u → ¬ Oo Z α β a → upd H D o a = some u := fun a u e n => by
    rw [upd_ne fun z => n (by rw [z]; exact .inl hD)]
    exact e
  have rp : ∀ {d v}, Rep K mg β (Oo Z α β) H d v → Rep K mg β (Oo Z α β) (upd H D o) d v := fun r => Rep.mono (fun _ _ e => e) mv (fun a q => .inl q) _ _ r
  have cp : ∀ {c u}, CellOk K mg β (Oo Z α β) H c u → CellOk K mg β (Oo Z α β) (upd H D o) c u := fun r => CellOk.mono (fun _ _ e => e) mv (fun a q => .inl q) r
  have cps : ∀ {ap c u}, CellS K mg β (Oo Z α β) H ap c u → CellS K mg β (Oo Z α β) (upd H D o) ap c u := fun r => CellS.mono (fun _ _ e => e) mv (fun a q => .inl q) r
  refine ⟨R.len, fun i sl e => ?_, R.sup, R.blen, fun n c a e1 e2 => ?_, R.nod, R.inj, R.dis, R.disZ, fun a z => ?_⟩
  · have q := R.slot i sl e
    cases sl with
    | no => trivial
    | val d => obtain ⟨v, e1, r⟩ := q; exact ⟨v, e1, rp r⟩
    | own c =>
      obtain ⟨a, u, e1, e2, e3, r⟩ := q
      exact ⟨a, u, e1, e2, by rw [upd_ne fun z => (R.dis i a e2).2 (by rw [z]; exact hD)]; exact e3, cp r⟩
  · obtain ⟨u, e3, r⟩ := R.cell n c a e1 e2
    exact ⟨u, by rw [upd_ne fun z => R.disZ a (List.mem_of_getElem? e2) (by rw [z]; exact hD)]; exact e3, cps r⟩
  · by_cases h : a = D
    · rw [h, upd_same]; exact fun z => nomatch z
    · rw [upd_ne h]; exact R.zlive a z
/-- the reading of a comprehension -/
theorem rd_lc {di : DI} {vs ts : List Nat} {g : DG} {tt : DT} {te : DE} (hts : ∀ i ∈ ts, i ∈ vs) (σ : L2.St) (H : Hp) (Q : VK) (h : rdF X.K (mX X) (dLc di vs g tt te) σ H Q) :
    tLc (rdI X.K (mX X) true di) (rdG X.K (mX X) ts g) (rdT X.K (mX X) tt) (rdX X.K (mX X) false te) vs σ H Q := by
  obtain ⟨Z, α, β, env, S, d, S', R, e1, q⟩ := h
  unfold dLc at e1
  obtain ⟨⟨⟨items, gd⟩, S1⟩, ei, e1⟩ := Option.bind_eq_some_iff.mp e1
  refine ⟨Z, α, β, env, S, items, gd, S1, R, ei, fun J H1 β1 R1 A1 hz ok D hD => ?_⟩
  have hW1 : ∀ {β2 HH}, Adv (fun a => a ∈ β1 ∨ a = D) β1 H1 β2 HH → ∀ a, Wb β2 a → (a ∈ β1 ∨ a = D) ∨ H1 a = none := fun A a w => (A.mem w).elim (fun z => .inl (.inl z)) .inr
  refine ⟨fun i m HH => i + m = items.length ∧ ∃ β2 S2 acc, Rel X.K (mX X) (Z1 Z D) α β2 env S2 σ HH ∧ Adv (fun a => a ∈ β1 ∨ a = D) β1 H1 β2 HH ∧ (∃ us, HH D = some (.lst us) ∧ Reps X.K (mX X) β2 (Oo (Z1 Z D) α β2) HH acc us) ∧ acc.length ≤ i ∧
      lcGo g tt te gd items (wipeE env vs) (items.drop i) acc S2 = some (d, S'), ⟨items.length, by omega, β1, S1, [], R1.apart hD _, Adv.upd hD, ⟨[], upd_same, .nil⟩, Nat.le_refl _, e1⟩, fun i m HH hW => ?_⟩
  obtain ⟨hm, β2, S2, acc, R2, A2, ⟨us, hus, ra⟩, hl, e2⟩ := hW
  have kp : Kp true Z α β1 H1 (Z1 Z D) α β2 HH := ⟨fun a o e n => A2.keep a o e fun w => w.elim (fun z => n (.inr (.inl z))) fun z => (by rw [z, hD] at e; cases e), fun a q => (by
      rcases Oo_z1.mp q with q | q
      · rcases q with q | q | q
        · exact .inl (.inl q)
        · exact (A2.mem q).elim (fun z => .inl (.inr (.inl z))) .inr
        · exact .inl (.inr (.inr q))
      · exact .inr (by rw [q]; exact hD)), A2.nth, fun _ i a o e1 e2 => A2.keep a o e2 fun w => w.elim (fun z => R1.own e1 z) fun z => (by rw [z, hD] at e2; cases e2), A2.frz⟩
  by_cases hi : i < items.length
  · -- a turn
    have ed : items.drop i = items[i] :: items.drop (i + 1) := List.drop_eq_getElem_cons hi
    rw [ed, lcGo] at e2
    split at e2
    · rename_i hg
      obtain ⟨env2, eg, e2⟩ := Option.bind_eq_some_iff.mp e2
      obtain ⟨⟨k, S3⟩, ek, e2⟩ := Option.bind_eq_some_iff.mp e2
      obtain ⟨hgo, hy⟩ := ok.go i items[i] _ α β2 env S2 σ HH R2 kp hg (List.getElem?_eq_getElem hi)
      refine .inr ⟨hgo, fun H' => ∃ β2 S2 acc, Rel X.K (mX X) (Z1 Z D) α β2 env S2 σ H' ∧ Adv (fun a => a ∈ β1 ∨ a = D) β1 H1 β2 H' ∧ (∃ us, H' D = some (.lst us) ∧ Reps X.K (mX X) β2 (Oo (Z1 Z D) α β2) H' acc us) ∧ acc.length ≤ i + 1 ∧
          lcGo g tt te gd items (wipeE env vs) (items.drop (i + 1)) acc S2 = some (d, S'), fun H' hN => ⟨m - 1, by omega, by omega, hN⟩, fun x H2 hyx => ?_⟩
      obtain ⟨hs2, R3, A3, rx⟩ := hy x H2 hyx
      have R3w := R3.wipe vs
      refine ⟨Zw (Z1 Z D) α vs, αw α vs, β2, wipeE env vs, S2, items[i], env2, R3w, by rw [Oo_w]; exact rx, eg, fun σ' α' R4 hsub hkeep hwipe => ?_⟩
      have hα : α' = αw α vs := by
        funext j
        cases e : αw α vs j with
        | some a => exact hkeep j a e fun hj => (αw_some e).1 (hts j hj)
        | none =>
          cases e' : α' j with
          | none => rfl
          | some a => rw [hsub j a e'] at e; cases e
      subst hα
      refine ⟨by rw [hwipe vs hts]; exact wipe_wipe σ vs, Zw (Z1 Z D) α vs, αw α vs, β2, env2, S2, k, S3, R4, ek, fun H5 β5 R5 A5 => ?_⟩
      have A25 : Adv (Wb β2) β2 HH β5 H5 := A3.trb A5
      have DZ : ¬ Wb β2 D := fun z => R2.disZ D z (.inr rfl)
      cases k with
      | false =>
        exact iteF ⟨β5, S3, acc, R2.join R5 (fun γ => Oo_w) A25, A2.trans A25 (hW1 A2), ⟨us, A25.keep D _ hus DZ, ra.adv A25⟩, by omega, by simpa using e2⟩
      | true =>
        obtain ⟨⟨y, S6⟩, ey, e2⟩ := Option.bind_eq_some_iff.mp (by simpa using e2)
        refine iteT ⟨Zw (Z1 Z D) α vs, αw α vs, β5, env2, S3, y, S6, R5, ey, fun yv H6 β6 R6 A6 r6 => ?_⟩
        have A26 : Adv (Wb β2) β2 HH β6 H6 := A25.trb A6
        have hD6 : H6 D = some (.lst us) := A26.keep D _ hus DZ
        have r6' : Rep X.K (mX X) β6 (Oo (Z1 Z D) α β6) H6 y yv := by
          have := r6.rep
          rw [Oo_w] at this
          exact this
        have R6' := R2.join R6 (fun γ => Oo_w) A26
        have mv : ∀ a u, H6 a = some u → ¬ Oo (Z1 Z D) α β6 a → upd H6 D (.lst (us ++ [yv])) a = some u := fun a u e n => by
          rw [upd_ne fun z => n (by rw [z]; exact .inl (.inr rfl))]
          exact e
        refine ⟨us, hD6, by rw [← ra.length]; omega, β6, S6, acc ++ [y], relUpdZ R6' (.inr rfl) _, ?_, ⟨us ++ [yv], upd_same, ?_⟩, by simp; omega, e2⟩
        · have A16 := A2.trans A26 (hW1 A2)
          refine ⟨A16.pre, fun a o e n => ?_, fun a e => ?_, fun a od u e => by rw [upd_ne fun z => by rw [z, hD] at e; cases e]; exact A16.frz a od u e⟩
          · rw [upd_ne fun z => n (.inr z)]
            exact A16.keep a o e n
          · by_cases z : a = D
            · rw [z, upd_same]; exact fun q => nomatch q
            · rw [upd_ne z]; exact A16.live a e
        · exact Reps.append (Reps.mono (fun _ _ e => e) mv (fun a q => .inl q) _ _ (ra.adv A26)) (.cons (Rep.mono (fun _ _ e => e) mv (fun a q => .inl q) _ _ r6') .nil)
    · cases e2
  · -- the end
    have ed : items.drop i = [] := List.drop_eq_nil_of_le (by omega)
    rw [ed, lcGo] at e2
    split at e2
    · rename_i hg
      cases e2
      refine .inl ⟨ok.stop i _ α β2 env _ σ HH R2 kp hg (by omega), ?_⟩
      refine q D _ (.lst acc) HH β2 R2 (A1.trans A2 fun a w => ?_) (A1.fresh hD) hus rfl (.lst ra)
      rcases w with w | w
      · exact A1.mem w
      · exact .inr (by rw [w]; exact A1.fresh hD)
    · cases e2
theorem F.lc {di : DI} {vs ts : List Nat} {own : List (PySem.Str × Nat)} {g : DG} {tt : DT} {te : DE} (hc : X.calm = true) (hN : X.N.Nodup) (hi : IX X true tg iter di) (ok : BlkOk X.N X.env.scope scope own)
    (hg : ∀ (s : Shared) (H : Hp) (C : Addr) (cl : List (PySem.Str × Addr)) (fp : List Addr), GX (X.blk s H scope (compEnvC scope cl C X.env) fp) tg ts g)
    (ht : ∀ (s : Shared) (H : Hp) (C : Addr) (cl : List (PySem.Str × Addr)) (fp : List Addr), TsX (X.blk s H scope (compEnvC scope cl C X.env) fp) ifs tt)
    (he : ∀ (s : Shared) (H : Hp) (C : Addr) (cl : List (PySem.Str × Addr)) (fp : List Addr), EX (X.blk s H scope (compEnvC scope cl C X.env) fp) false elt te)
    (hts : ∀ i ∈ ts, i ∈ own.map (·.2) := by decide) (hs : ∀ x, foldedSetIterable iter X.env x = pure x := by intro _; rfl) (hvs : vs = own.map (·.2) := by rfl) : EF X (.ListComp elt [⟨tg, iter, ifs, 0⟩] scope pos) (dLc di vs g tt te) := by
  subst hvs
  exact PE.imp (pe_lc (wi := rdI X.K (mX X) true di) (g := rdG X.K (mX X) ts g) (tt := rdT X.K (mX X) tt) (te := rdX X.K (mX X) false te) hc hN hi ok hg ht he hs) fun σ H Q h => rd_lc hts σ H Q h
theorem E.lc {di : DI} {vs ts : List Nat} {own : List (PySem.Str × Nat)} {g : DG} {tt : DT} {te : DE} (hc : X.calm = true) (hN : X.N.Nodup) (hi : IX X true tg iter di) (ok : BlkOk X.N X.env.scope scope own)
    (hg : ∀ (s : Shared) (H : Hp) (C : Addr) (cl : List (PySem.Str × Addr)) (fp : List Addr), GX (X.blk s H scope (compEnvC scope cl C X.env) fp) tg ts g)
    (ht : ∀ (s : Shared) (H : Hp) (C : Addr) (cl : List (PySem.Str × Addr)) (fp : List Addr), TsX (X.blk s H scope (compEnvC scope cl C X.env) fp) ifs tt)
    (he : ∀ (s : Shared) (H : Hp) (C : Addr) (cl : List (PySem.Str × Addr)) (fp : List Addr), EX (X.blk s H scope (compEnvC scope cl C X.env) fp) false elt te)
    (hts : ∀ i ∈ ts, i ∈ own.map (·.2) := by decide) (hs : ∀ x, foldedSetIterable iter X.env x = pure x := by intro _; rfl) (hvs : vs = own.map (·.2) := by rfl) : EX X b (.ListComp elt [⟨tg, iter, ifs, 0⟩] scope pos) (dLc di vs g tt te) :=
  (F.lc hc hN hi ok hg ht he hts hs hvs).ex
end
end Rf
end
section
set_option maxHeartbeats 200000
/-! Rf, part 8: statements, defs. -/
namespace Rf
open PySem PySem.Spec PyProof.Rows L2

inductive Fl where
  | nx (env : Env) | rt (d : D) | bk (env : Env) | ct (env : Env)
abbrev DS := Env → Sto → Option (Fl × Sto)
abbrev Ws (α : Nat → Option Addr) (β : List Addr) : Addr → Prop := fun a => a ∈ β ∨ ∃ i, α i = some a
def OwS (α : Nat → Option Addr) (H : Hp) (α' : Nat → Option Addr) : Prop := ∀ i a, α' i = some a → (∃ j, α j = some a) ∨ H a = none
section
variable (K : PySem.W.Frag) (mg : Mg)
def PostS (E : Ends) (Z : Addr → Prop) (α : Nat → Option Addr) (β : List Addr) (H : Hp) (f : Fl) (S' : Sto) : Prop := match f with
  | .nx env' => ∀ α' β' σ' H', Rel K mg Z α' β' env' S' σ' H' → Adv (Ws α β) β H β' H' → OwS α H α' → E.nx σ' H'
  | .bk env' => ∀ α' β' σ' H', Rel K mg Z α' β' env' S' σ' H' → Adv (Ws α β) β H β' H' → OwS α H α' → E.bk σ' H'
  | .ct env' => ∀ α' β' σ' H', Rel K mg Z α' β' env' S' σ' H' → Adv (Ws α β) β H β' H' → OwS α H α' → E.ct σ' H'
  | .rt d => ∀ v α' β' env' σ' H', Rel K mg Z α' β' env' S' σ' H' → Adv (Ws α β) β H β' H' → OwS α H α' → Rep K mg β' (Oo Z noα β') H' d v → E.rt v H'
def rdS (t : DS) : TS := fun E σ H => ∃ Z α β env S f S', Rel K mg Z α β env S σ H ∧ t env S = some (f, S') ∧ PostS K mg E Z α β H f S'
end
def SX (X : Cx) (st : Stmt) (t : DS) : Prop := PS X st (rdS X.K (mX X) t)
def SsX (X : Cx) (sts : List Stmt) (t : DS) : Prop := PSs X sts (rdS X.K (mX X) t)
theorem PS.imp {X : Cx} {e : Stmt} {t u : TS} (h : PS X e t) (hi : ∀ E σ H, u E σ H → t E σ H) : PS X e u := ⟨fun p s σ H Q I q => h.run p s σ H Q I (hi Q σ H q)⟩
theorem PSs.imp {X : Cx} {e : List Stmt} {t u : TS} (h : PSs X e t) (hi : ∀ E σ H, u E σ H → t E σ H) : PSs X e u := ⟨fun p s σ H Q I q => h.run p s σ H Q I (hi Q σ H q)⟩
section
variable {K : PySem.W.Frag} {mg : Mg} {Z : Addr → Prop} {α α' α1 : Nat → Option Addr} {β β' β1 : List Addr} {H H' H1 : Hp} {env env1 : Env} {S S' S1 : Sto} {σ σ1 : L2.St} {b : Bool} {d : D} {v : V} {E E' : Ends} {f : Fl}
theorem OwS.refl : OwS α H α := fun i a e => .inl ⟨i, e⟩
theorem OwS.trans {W : Addr → Prop} (h : OwS α H α1) (A : Adv W β H β1 H1) (h2 : OwS α1 H1 α') : OwS α H α' := fun i a e => by
  rcases h2 i a e with ⟨j, z⟩ | z
  · exact h j a z
  · exact .inr (A.fresh z)
theorem AdvS.trans {β'' : List Addr} {H'' : Hp} (A : Adv (Ws α β) β H β1 H1) (ho : OwS α H α1) (A2 : Adv (Ws α1 β1) β1 H1 β'' H'') : Adv (Ws α β) β H β'' H'' := A.trans A2 fun a w => by
  rcases w with w | ⟨i, w⟩
  · exact (A.mem w).elim (fun z => .inl (.inl z)) .inr
  · exact (ho i a w).elim (fun z => .inl (.inr z)) .inr
theorem Adv.ws (A : Adv (Wb β) β H β' H') : Adv (Ws α β) β H β' H' := A.weak fun a w => .inl w
theorem PostS.mono (hn : ∀ σ H, E.nx σ H → E'.nx σ H) (hb : ∀ σ H, E.bk σ H → E'.bk σ H) (hc : ∀ σ H, E.ct σ H → E'.ct σ H) (hr : ∀ v H, E.rt v H → E'.rt v H) (h : PostS K mg E Z α β H f S') : PostS K mg E' Z α β H f S' := by
  cases f with
  | nx env => exact fun α' β' σ' H' R A O => hn _ _ (h α' β' σ' H' R A O)
  | bk env => exact fun α' β' σ' H' R A O => hb _ _ (h α' β' σ' H' R A O)
  | ct env => exact fun α' β' σ' H' R A O => hc _ _ (h α' β' σ' H' R A O)
  | rt d => exact fun v α' β' e s H' R A O r => hr _ _ (h v α' β' e s H' R A O r)
/-- a later start -/
theorem PostS.later (A : Adv (Ws α β) β H β1 H1) (ho : OwS α H α1) (h : PostS K mg E Z α β H f S') : PostS K mg E Z α1 β1 H1 f S' := by
  cases f with
  | nx env => exact fun α' β' σ' H' R A2 O => h α' β' σ' H' R (AdvS.trans A ho A2) (ho.trans A O)
  | bk env => exact fun α' β' σ' H' R A2 O => h α' β' σ' H' R (AdvS.trans A ho A2) (ho.trans A O)
  | ct env => exact fun α' β' σ' H' R A2 O => h α' β' σ' H' R (AdvS.trans A ho A2) (ho.trans A O)
  | rt d => exact fun v α' β' e s H' R A2 O r => h v α' β' e s H' R (AdvS.trans A ho A2) (ho.trans A O) r
end
section
variable {X : Cx} {b : Bool} {p pos tpos : Pos} {e tg o i' : Expr} {t u : DE} {tc : DT} {ts us : DS} {st : Stmt} {rest sa sb : List Stmt} {g : DG} {tl : List Nat}
/-! ### blocks -/
def sNil : DS := fun env S => some (.nx env, S)
def sSeq (t u : DS) : DS := fun env S => (t env S).bind fun p => match p.1 with
  | .nx env' => u env' p.2
  | f => some (f, p.2)
theorem Ss.nil : SsX X [] sNil := PSs.imp pss_nil fun E σ H ⟨Z, α, β, env, S, f, S', R, e1, q⟩ => by
  cases e1
  exact q α β σ H R .refl .refl
theorem Ss.cons (h1 : SX X st ts) (h2 : SsX X rest us) : SsX X (st :: rest) (sSeq ts us) :=
  PSs.imp (pss_cons h1 h2) fun E σ H ⟨Z, α, β, env, S, f, S', R, e1, q⟩ => by
    unfold sSeq at e1
    obtain ⟨⟨f1, S1⟩, ef, e1⟩ := Option.bind_eq_some_iff.mp e1
    refine ⟨Z, α, β, env, S, f1, S1, R, ef, ?_⟩
    cases f1 with
    | nx env1 => exact fun α1 β1 σ1 H1 R1 A1 O1 => ⟨Z, α1, β1, env1, S1, f, S', R1, e1, q.later A1 O1⟩
    | rt d => cases e1; exact q
    | bk env => cases e1; exact q
    | ct env => cases e1; exact q
theorem Ss.one (h1 : SX X st ts) : SsX X [st] ts := pss_one h1
/-! ### simple statements -/
def sPass : DS := fun env S => some (.nx env, S)
def sBrk : DS := fun env S => some (.bk env, S)
def sCnt : DS := fun env S => some (.ct env, S)
theorem S.pass : SX X (.Pass pos) sPass := PS.imp ps_pass fun E σ H ⟨Z, α, β, env, S, f, S', R, e1, q⟩ => by
  cases e1; exact q α β σ H R .refl .refl
theorem S.brk : SX X (.Break pos) sBrk := PS.imp ps_break fun E σ H ⟨Z, α, β, env, S, f, S', R, e1, q⟩ => by
  cases e1; exact q α β σ H R .refl .refl
theorem S.cnt : SX X (.Continue pos) sCnt := PS.imp ps_continue fun E σ H ⟨Z, α, β, env, S, f, S', R, e1, q⟩ => by
  cases e1; exact q α β σ H R .refl .refl
def sExpr (t : DE) : DS := fun env S => (t env S).map fun p => (.nx env, p.2)
theorem S.expr (h : EX X b e t) (hs : swapsWith e none pos.line X.env = pure false := by rfl) : SX X (.Expr e pos) (sExpr t) :=
  PS.imp (ps_expr h hs) fun E σ H ⟨Z, α, β, env, S, f, S', R, e1, q⟩ => by
    unfold sExpr at e1
    obtain ⟨⟨x, S1⟩, ex, e1⟩ := Option.map_eq_some_iff.mp e1
    cases e1
    exact ⟨Z, α, β, env, S, x, S1, R, ex, fun v H1 β1 R1 A1 r1 => q α β1 σ H1 R1 A1.ws .refl⟩
theorem S.doc {x : PySem.Str} {j : Nat} {pos' : Pos} : SX X (.Expr (.Constant (.str x) j pos) pos') sPass := PS.imp ps_doc fun E σ H ⟨Z, α, β, env, S, f, S', R, e1, q⟩ => by
  cases e1; exact q α β σ H R .refl .refl
def sRet (t : DE) : DS := fun env S => (t env S).map fun p => (.rt p.1, p.2)
theorem Rep.noα {K : PySem.W.Frag} {mg : Mg} {Z : Addr → Prop} {α : Nat → Option Addr} {β : List Addr} {H : Hp} {d : D} {v : V} (r : Rep K mg β (Oo Z α β) H d v) : Rep K mg β (Oo Z noα β) H d v := r.sub fun i a e => by cases e
/-- return e: also of a name whose list is its own -/
theorem S.ret (h : EX X true e t) : SX X (.Return (some e) pos) (sRet t) :=
  PS.imp (ps_ret h) fun E σ H ⟨Z, α, β, env, S, f, S', R, e1, q⟩ => by
    unfold sRet at e1
    obtain ⟨⟨x, S1⟩, ex, e1⟩ := Option.map_eq_some_iff.mp e1
    cases e1
    refine ⟨Z, α, β, env, S, x, S1, R, ex, fun v H1 β1 R1 A1 r1 => q v α β1 env σ H1 R1 A1.ws .refl ?_⟩
    rcases r1 with r1 | ⟨_, i, a, c, o, h1, h2, h3, h4, h5⟩
    · exact r1.noα
    · subst h4 h5
      refine CellOk.rep (h3.sub (fun i a e => by cases e)) h2 fun z => ?_
      rcases z with z | z | ⟨j, z⟩
      · exact (R1.dis i a h1).2 z
      · exact (R1.dis i a h1).1 z
      · cases z
def sRetN : DS := fun env S => some (.rt .non, S)
theorem S.retN : SX X (.Return none pos) sRetN := PS.imp ps_retN fun E σ H ⟨Z, α, β, env, S, f, S', R, e1, q⟩ => by
  cases e1; exact q _ α β env σ H R .refl .refl .non
/-! ### assignment -/
def sAsg (g : DG) (t : DE) : DS := fun env S => (t env S).bind fun p => (g p.1 env).map fun env' => (.nx env', p.2)
theorem rd_asg (E : Ends) (σ : L2.St) (H : Hp) (h : rdS X.K (mX X) (sAsg g t) E σ H) : tAsg (rdX X.K (mX X) false t) (rdG X.K (mX X) tl g) E σ H := by
  obtain ⟨Z, α, β, env, S, f, S', R, e1, q⟩ := h
  unfold sAsg at e1
  obtain ⟨⟨x, S1⟩, ex, e1⟩ := Option.bind_eq_some_iff.mp e1
  obtain ⟨env', eg, e1⟩ := Option.map_eq_some_iff.mp e1
  cases e1
  exact ⟨Z, α, β, env, S, x, S1, R, ex, fun v H1 β1 R1 A1 r1 => ⟨Z, α, β1, env, S1, x, env', R1, r1.rep, eg, fun σ2 α2 R2 hs _ _ => q α2 β1 σ2 H1 R2 A1.ws fun i a e => .inl ⟨i, hs i a e⟩⟩⟩
theorem S.asg (h : EX X false e t) (hg : GX X tg tl g) (hs : swapsWithSole [tg] e pos.line X.env = pure false := by rfl) (hw : swappedStores [tg] e X.env = pure none := by rfl)
    (h1 : (assignEach [tg] X.env).map (·.2) = [assign tg X.env] := by rfl) : SX X (.Assign [tg] e pos) (sAsg g t) := PS.imp (ps_asg h hg hs hw h1) fun E σ H h => rd_asg E σ H h
/-- x = [.. for ..] -/
theorem S.lc {i : Nat} {y : PySem.Str} {py lpos : Pos} {elt tgt iter : Expr} {ifs : List Expr} {scope : Scope} {di : DI} {vs tl : List Nat} {own : List (PySem.Str × Nat)} {g : DG} {tt : DT} {te : DE} (hc : X.calm = true) (hN : X.N.Nodup) (hy : X.N[i]? = some y) (hyl : X.env.scope.names.lookup y = some .local)
    (hsw : swapsWith (.ListComp elt [⟨tgt, iter, ifs, 0⟩] scope lpos) (some (.Name y py)) pos.line X.env = pure true) (hi : IX X true tgt iter di) (ok : BlkOk X.N X.env.scope scope own)
    (hg : ∀ (s : Shared) (H : Hp) (C : Addr) (cl : List (PySem.Str × Addr)) (fp : List Addr), GX (X.blk s H scope (compEnvC scope cl C X.env) fp) tgt tl g)
    (ht : ∀ (s : Shared) (H : Hp) (C : Addr) (cl : List (PySem.Str × Addr)) (fp : List Addr), TsX (X.blk s H scope (compEnvC scope cl C X.env) fp) ifs tt)
    (he : ∀ (s : Shared) (H : Hp) (C : Addr) (cl : List (PySem.Str × Addr)) (fp : List Addr), EX (X.blk s H scope (compEnvC scope cl C X.env) fp) false elt te)
    (hts : ∀ i ∈ tl, i ∈ own.map (·.2) := by decide) (hs : ∀ x, foldedSetIterable iter X.env x = pure x := by intro _; rfl) (hvs : vs = own.map (·.2) := by rfl) : SX X (.Assign [.Name y py] (.ListComp elt [⟨tgt, iter, ifs, 0⟩] scope lpos) pos) (sAsg (gNm i) (dLc di vs g tt te)) := by
  subst hvs
  exact PS.imp (ps_setLc (wi := rdI X.K (mX X) true di) (g := rdG X.K (mX X) tl g) (tt := rdT X.K (mX X) tt) (te := rdX X.K (mX X) false te) hc hN hy hyl hsw hi ok hg ht he hs) fun E σ H h => by
    obtain ⟨Z, α, β, env, S, f, S', R, e1, q⟩ := h
    unfold sAsg at e1
    obtain ⟨⟨x, S1⟩, ex, e1⟩ := Option.bind_eq_some_iff.mp e1
    obtain ⟨env', eg, e1⟩ := Option.map_eq_some_iff.mp e1
    cases e1
    refine rd_lc hts σ H _ ⟨Z, α, β, env, S, x, S1, R, ex, fun a o c H1 β1 R1 A1 n1 n2 e2 co => ?_⟩
    subst e2
    have n3 := R1.notZ1 fun z => R.zlive a z n1
    replace co := co.unapart
    replace R1 := R1.unapart
    unfold gNm at eg
    split at eg
    · rename_i hl
      cases eg
      exact q _ β1 _ H1 (R1.setVal hl (co.rep n2 n3)) A1.ws fun j b e => .inl ⟨j, drop1_sub j b e⟩
    · cases eg
def celD : D → Option Cell
  | .lst xs => some (.lst xs)
  | .dct ks vs => some (.dct ks vs)
  | _ => none
/-- x = e, the new object x's own -/
def sOwn (i : Nat) (t : DE) : DS := fun env S => (t env S).bind fun p => (celD p.1).bind fun c => if i < env.length then some (.nx (env.set i (.own c)), p.2) else none
def set1 (α : Nat → Option Addr) (i : Nat) (a : Addr) : Nat → Option Addr := fun j => if j = i then some a else α j
end
section
variable {K : PySem.W.Frag} {mg : Mg} {Z : Addr → Prop} {α α' α1 : Nat → Option Addr} {β β' β1 : List Addr} {H H' H1 : Hp} {env env1 : Env} {S S' S1 : Sto} {σ σ1 : L2.St} {b : Bool} {d : D} {v : V}
theorem celD_cell {c c' : Cell} (co : ∃ β O o, CellOk K mg β O H c o) (h : celD (cellD c) = some c') : c' = c := by
  obtain ⟨β, O, o, co⟩ := co
  cases co <;> (cases h; rfl)
theorem Oo_own {i : Nat} {a : Addr} : ∀ x, Oo Z (set1 α i a) β x → Oo (Z1 Z a) α β x := fun x q => by
  rcases q with q | q | ⟨j, q⟩
  · exact .inl (.inl q)
  · exact .inr (.inl q)
  · unfold set1 at q
    split at q
    · cases q; exact .inl (.inr rfl)
    · exact .inr (.inr ⟨j, q⟩)
/-- a new object comes into a name's own hands -/
theorem Rel.setOwn {i : Nat} {a : Addr} {o : HO} {c : Cell} (R : Rel K mg (Z1 Z a) α β env S σ H) (hZ : ¬ Z a) (hi : i < env.length) (e : H a = some o) (co : CellOk K mg β (Oo (Z1 Z a) α β) H c o) :
    Rel K mg Z (set1 α i a) β (env.set i (.own c)) S (σ.set i (some (.ref a))) H := by
  have n := R.notZ1 hZ
  have nj : ∀ j, α j ≠ some a := fun j z => n (.inr (.inr ⟨j, z⟩))
  have rp : ∀ {d v}, Rep K mg β (Oo (Z1 Z a) α β) H d v → Rep K mg β (Oo Z (set1 α i a) β) H d v := fun r => Rep.mono (fun _ _ e => e) (fun _ _ e _ => e) (fun x q => .inl (Oo_own x q)) _ _ r
  have cp : ∀ {d v}, CellOk K mg β (Oo (Z1 Z a) α β) H d v → CellOk K mg β (Oo Z (set1 α i a) β) H d v := fun r => CellOk.mono (fun _ _ e => e) (fun _ _ e _ => e) (fun x q => .inl (Oo_own x q)) r
  have cps : ∀ {ap d v}, CellS K mg β (Oo (Z1 Z a) α β) H ap d v → CellS K mg β (Oo Z (set1 α i a) β) H ap d v := fun r => CellS.mono (fun _ _ e => e) (fun _ _ e _ => e) (fun x q => .inl (Oo_own x q)) r
  refine ⟨by rw [List.length_set, List.length_set]; exact R.len, fun j sl e1 => ?_, fun j b e1 => ?_, R.blen, fun k c' b e1 e2 => ?_, R.nod, fun j k b e1 e2 => ?_, fun j b e1 => ?_, fun b hb z => R.disZ b hb (.inl z), fun b z => R.zlive b (.inl z)⟩
  · rw [List.getElem?_set] at e1
    by_cases h : i = j
    · subst h
      rw [if_pos rfl, if_pos hi] at e1
      cases e1
      exact ⟨a, o, List.getElem?_set_self (by rw [← R.len]; exact hi), by unfold set1; rw [if_pos rfl], e, cp co⟩
    · rw [if_neg h] at e1
      have q := R.slot j sl e1
      cases sl with
      | no => trivial
      | val d' => obtain ⟨w, e2, r1⟩ := q; exact ⟨w, by rw [List.getElem?_set_ne h]; exact e2, rp r1⟩
      | own c' =>
        obtain ⟨b, u, e2, e3, e4, r1⟩ := q
        exact ⟨b, u, by rw [List.getElem?_set_ne h]; exact e2, by unfold set1; rw [if_neg fun z => h z.symm]; exact e3, e4, cp r1⟩
  · unfold set1 at e1
    split at e1
    · rename_i h
      subst h
      exact ⟨c, List.getElem?_set_self hi⟩
    · rename_i h
      obtain ⟨c', e2⟩ := R.sup j b e1
      exact ⟨c', by rw [List.getElem?_set_ne fun z => h z.symm]; exact e2⟩
  · obtain ⟨u, e3, r1⟩ := R.cell k c' b e1 e2
    exact ⟨u, e3, cps r1⟩
  · unfold set1 at e1 e2
    split at e1 <;> split at e2
    · omega
    · cases e1; exact absurd e2 (nj _)
    · cases e2; exact absurd e1 (nj _)
    · exact R.inj j k b e1 e2
  · unfold set1 at e1
    split at e1
    · cases e1
      exact ⟨fun z => n (.inr (.inl z)), hZ⟩
    · exact ⟨(R.dis j b e1).1, fun z => (R.dis j b e1).2 (.inl z)⟩
theorem Rel.setOwnAdv {i : Nat} {a : Addr} (n1 : H a = none) : OwS α H (set1 α i a) := fun j b e => by
  unfold set1 at e
  split at e
  · cases e; exact .inr n1
  · exact .inl ⟨j, e⟩
/-- what is written stands apart from all that is told -/
theorem mv_upd {O : Addr → Prop} {a : Addr} {o : HO} (hO : O a) : ∀ x u, H x = some u → ¬ O x → upd H a o x = some u := fun x u e n => by
  rw [upd_ne fun z => n (by rw [z]; exact hO)]
  exact e
theorem Rel.updOwn (R : Rel K mg Z α β env S σ H) {i : Nat} {a : Addr} {o : HO} {c : Cell} (e : α i = some a) (co : CellOk K mg β (Oo Z α β) H c o) : Rel K mg Z α β (env.set i (.own c)) S σ (upd H a o) := by
  have hO : Oo Z α β a := .inr (.inr ⟨i, e⟩)
  have rp : ∀ {d v}, Rep K mg β (Oo Z α β) H d v → Rep K mg β (Oo Z α β) (upd H a o) d v := fun r => Rep.mono (fun _ _ e => e) (mv_upd hO) (fun x q => .inl q) _ _ r
  have cp : ∀ {d v}, CellOk K mg β (Oo Z α β) H d v → CellOk K mg β (Oo Z α β) (upd H a o) d v := fun r => CellOk.mono (fun _ _ e => e) (mv_upd hO) (fun x q => .inl q) r
  have cps : ∀ {ap d v}, CellS K mg β (Oo Z α β) H ap d v → CellS K mg β (Oo Z α β) (upd H a o) ap d v := fun r => CellS.mono (fun _ _ e => e) (mv_upd hO) (fun x q => .inl q) r
  obtain ⟨c0, e0⟩ := R.sup i a e
  have hi : i < env.length := (List.getElem?_eq_some_iff.mp e0).1
  obtain ⟨a', o', s1, s2, s3, _⟩ := R.slot i _ e0
  rw [e] at s2; cases s2
  refine ⟨by rw [List.length_set]; exact R.len, fun j sl e1 => ?_, fun j b e1 => ?_, R.blen, fun k c' b e1 e2 => ?_, R.nod, R.inj, R.dis, R.disZ, fun b z => ?_⟩
  · rw [List.getElem?_set] at e1
    by_cases h : i = j
    · subst h
      rw [if_pos rfl, if_pos hi] at e1
      cases e1
      exact ⟨a, o, s1, e, upd_same, cp co⟩
    · rw [if_neg h] at e1
      have q := R.slot j sl e1
      cases sl with
      | no => trivial
      | val d' => obtain ⟨w, e2, r1⟩ := q; exact ⟨w, e2, rp r1⟩
      | own c' =>
        obtain ⟨b, u, e2, e3, e4, r1⟩ := q
        exact ⟨b, u, e2, e3, by rw [upd_ne fun z => h (R.inj i j a e (by rw [← z]; exact e3))]; exact e4, cp r1⟩
  · by_cases h : i = j
    · subst h; exact ⟨c, List.getElem?_set_self hi⟩
    · obtain ⟨c', e2⟩ := R.sup j b e1
      exact ⟨c', by rw [List.getElem?_set_ne h]; exact e2⟩
  · obtain ⟨u, e3, r1⟩ := R.cell k c' b e1 e2
    exact ⟨u, by rw [upd_ne fun z => (R.dis i a e).1 (by rw [← z]; exact List.mem_of_getElem? e2)]; exact e3, cps r1⟩
  · rw [upd_ne fun q => (R.dis i a e).2 (by rw [← q]; exact z)]; exact R.zlive b z
theorem nodupA : ∀ {N : List Addr} (_ : N.Nodup) {i j : Nat} {x : Addr}, N[i]? = some x → N[j]? = some x → i = j
  | [], _, _, _, _, a, _ => by simp at a
  | y :: N, hN, 0, 0, x, _, _ => rfl
  | y :: N, hN, i + 1, j + 1, x, a, b => by
    have := nodupA (List.nodup_cons.mp hN).2 (i := i) (j := j) (x := x) (by simpa using a) (by simpa using b)
    omega
  | y :: N, hN, 0, j + 1, x, a, b => by
    simp at a b
    subst a
    exact absurd (List.mem_of_getElem? b) (List.nodup_cons.mp hN).1
  | y :: N, hN, i + 1, 0, x, a, b => by
    simp at a b
    subst b
    exact absurd (List.mem_of_getElem? a) (List.nodup_cons.mp hN).1
theorem Rel.updRefS (R : Rel K mg Z α β env S σ H) {n : Nat} {a : Addr} {o : HO} {c : Cell} (e : β[n]? = some a) (co : CellS K mg β (Oo Z α β) H a c o) : Rel K mg Z α β env (S.set n c) σ (upd H a o) := by
  have ha : a ∈ β := List.mem_of_getElem? e
  have hO : Oo Z α β a := .inr (.inl ha)
  have rp : ∀ {d v}, Rep K mg β (Oo Z α β) H d v → Rep K mg β (Oo Z α β) (upd H a o) d v := fun r => Rep.mono (fun _ _ e => e) (mv_upd hO) (fun x q => .inl q) _ _ r
  have cp : ∀ {d v}, CellOk K mg β (Oo Z α β) H d v → CellOk K mg β (Oo Z α β) (upd H a o) d v := fun r => CellOk.mono (fun _ _ e => e) (mv_upd hO) (fun x q => .inl q) r
  have cps : ∀ {ap d v}, CellS K mg β (Oo Z α β) H ap d v → CellS K mg β (Oo Z α β) (upd H a o) ap d v := fun r => CellS.mono (fun _ _ e => e) (mv_upd hO) (fun x q => .inl q) r
  refine ⟨R.len, fun j sl e1 => ?_, R.sup, by rw [List.length_set]; exact R.blen, fun k c' b e1 e2 => ?_, R.nod, R.inj, R.dis, R.disZ, fun b z => ?_⟩
  · have q := R.slot j sl e1
    cases sl with
    | no => trivial
    | val d' => obtain ⟨w, e2, r1⟩ := q; exact ⟨w, e2, rp r1⟩
    | own c' =>
      obtain ⟨b, u, e2, e3, e4, r1⟩ := q
      exact ⟨b, u, e2, e3, by rw [upd_ne fun z => (R.dis j b e3).1 (by rw [z]; exact ha)]; exact e4, cp r1⟩
  · rw [List.getElem?_set] at e1
    by_cases h : n = k
    · subst h
      rw [if_pos rfl] at e1
      split at e1
      · cases e1
        rw [e] at e2; cases e2
        exact ⟨o, upd_same, cps co⟩
      · cases e1
    · rw [if_neg h] at e1
      obtain ⟨u, e3, r1⟩ := R.cell k c' b e1 e2
      have hb : b ≠ a := fun z => by subst z; exact h (nodupA R.nod e e2)
      exact ⟨u, by rw [upd_ne hb]; exact e3, cps r1⟩
  · rw [upd_ne fun q => R.disZ a ha (by rw [← q]; exact z)]; exact R.zlive b z
theorem Rel.updRef (R : Rel K mg Z α β env S σ H) {n : Nat} {a : Addr} {o : HO} {c : Cell} (e : β[n]? = some a) (co : CellOk K mg β (Oo Z α β) H c o) : Rel K mg Z α β env (S.set n c) σ (upd H a o) := R.updRefS e (.pl co)
theorem adv_wr {W : Addr → Prop} {a : Addr} {o : HO} (hW : W a) (hf : ∀ od u, H a ≠ some (.frz od u)) : Adv W β H β (upd H a o) :=
  ⟨⟨[], by simp, fun a h => by cases h⟩, fun x u e n => by rw [upd_ne fun z => n (by rw [z]; exact hW)]; exact e, fun x e => by
    by_cases z : x = a
    · rw [z, upd_same]; exact fun q => nomatch q
    · rw [upd_ne z]; exact e, fun x od u e => by rw [upd_ne fun z => hf od u (by rw [← z]; exact e)]; exact e⟩
theorem nf_lst {a : Addr} {xs : List V} (e : H a = some (.lst xs)) : ∀ od u, H a ≠ some (.frz od u) := fun od u z => by rw [e] at z; cases z
theorem nf_dK {a : Addr} {xs : List (Key × V)} (e : H a = some (.dK xs)) : ∀ od u, H a ≠ some (.frz od u) := fun od u z => by rw [e] at z; cases z
theorem nf_ins {a C dx : Addr} {fs : List (PySem.Str × V)} (e : H a = some (.ins C dx fs)) : ∀ od u, H a ≠ some (.frz od u) := fun od u z => by rw [e] at z; cases z
theorem Rel.pushRefS {a : Addr} {o : HO} {c : Cell} (R : Rel K mg (Z1 Z a) α β env S σ H) (hZ : ¬ Z a) (e : H a = some o) (co : CellS K mg β (Oo (Z1 Z a) α β) H a c o) : Rel K mg Z α (β ++ [a]) env (S ++ [c]) σ H := by
  have n := R.notZ1 hZ
  have hn : ∀ (k : Nat) (b : Addr), β[k]? = some b → (β ++ [a])[k]? = some b := fun k b q => by
    rw [List.getElem?_append_left (List.getElem?_eq_some_iff.mp q).1]; exact q
  have hO : ∀ x, Oo Z α (β ++ [a]) x → Oo (Z1 Z a) α β x ∨ H x = none := fun x q => by
    rcases q with q | q | q
    · exact .inl (.inl (.inl q))
    · rcases List.mem_append.mp q with q | q
      · exact .inl (.inr (.inl q))
      · exact .inl (.inl (.inr (by simpa using q)))
    · exact .inl (.inr (.inr q))
  have rp : ∀ {d v}, Rep K mg β (Oo (Z1 Z a) α β) H d v → Rep K mg (β ++ [a]) (Oo Z α (β ++ [a])) H d v := fun r => Rep.mono hn (fun _ _ e _ => e) hO _ _ r
  have cp : ∀ {d v}, CellOk K mg β (Oo (Z1 Z a) α β) H d v → CellOk K mg (β ++ [a]) (Oo Z α (β ++ [a])) H d v := fun r => CellOk.mono hn (fun _ _ e _ => e) hO r
  have cps : ∀ {ap d v}, CellS K mg β (Oo (Z1 Z a) α β) H ap d v → CellS K mg (β ++ [a]) (Oo Z α (β ++ [a])) H ap d v := fun r => CellS.mono hn (fun _ _ e _ => e) hO r
  refine ⟨R.len, fun j sl e1 => ?_, R.sup, by rw [List.length_append, List.length_append, R.blen]; rfl, fun k c' b e1 e2 => ?_, ?_, R.inj, fun j b e1 => ?_, fun b hb z => ?_, fun b z => R.zlive b (.inl z)⟩
  · have q := R.slot j sl e1
    cases sl with
    | no => trivial
    | val d' => obtain ⟨w, e2, r1⟩ := q; exact ⟨w, e2, rp r1⟩
    | own c' => obtain ⟨b, u, e2, e3, e4, r1⟩ := q; exact ⟨b, u, e2, e3, e4, cp r1⟩
  · by_cases hk : k < S.length
    · rw [List.getElem?_append_left hk] at e1
      rw [List.getElem?_append_left (by rw [R.blen]; exact hk)] at e2
      obtain ⟨u, e3, r1⟩ := R.cell k c' b e1 e2
      exact ⟨u, e3, cps r1⟩
    · have hk' : S.length ≤ k := by omega
      rw [List.getElem?_append_right hk'] at e1
      rw [List.getElem?_append_right (by rw [R.blen]; exact hk'), R.blen] at e2
      cases hd : k - S.length with
      | zero =>
        rw [hd] at e1 e2
        simp at e1 e2
        subst e1 e2
        exact ⟨o, e, cps co⟩
      | succ m => rw [hd] at e1; simp at e1
  · rw [List.nodup_append]
    exact ⟨R.nod, by simp, fun x hx y hy => by
      have : y = a := by simpa using hy
      subst this
      exact fun z => n (by rw [← z]; exact .inr (.inl hx))⟩
  · refine ⟨fun z => ?_, fun z => (R.dis j b e1).2 (.inl z)⟩
    rcases List.mem_append.mp z with z | z
    · exact (R.dis j b e1).1 z
    · exact (R.dis j b e1).2 (.inr (by simpa using z))
  · rcases List.mem_append.mp hb with q | q
    · exact R.disZ b q (.inl z)
    · exact hZ (by have : b = a := by simpa using q
                   rw [← this]; exact z)
theorem Rel.pushRef {a : Addr} {o : HO} {c : Cell} (R : Rel K mg (Z1 Z a) α β env S σ H) (hZ : ¬ Z a) (e : H a = some o) (co : CellOk K mg β (Oo (Z1 Z a) α β) H c o) : Rel K mg Z α (β ++ [a]) env (S ++ [c]) σ H := R.pushRefS hZ e (.pl co)
end
section
variable {X : Cx} {b : Bool} {p pos tpos : Pos} {e tg o i' : Expr} {t u : DE} {tc : DT} {ts us : DS} {st : Stmt} {rest sa sb : List Stmt} {g : DG} {tl : List Nat}
/-! ### new objects: a name's own, or of the store -/
theorem rd_own {i : Nat} (E : Ends) (σ : L2.St) (H : Hp) (h : rdS X.K (mX X) (sOwn i t) E σ H) : tAsg (rdF X.K (mX X) t) (gName i) E σ H := by
  obtain ⟨Z, α, β, env, S, f, S', R, e1, q⟩ := h
  unfold sOwn at e1
  obtain ⟨⟨x, S1⟩, ex, e1⟩ := Option.bind_eq_some_iff.mp e1
  obtain ⟨c, ec, e1⟩ := Option.bind_eq_some_iff.mp e1
  split at e1
  · rename_i hi
    cases e1
    refine ⟨Z, α, β, env, S, x, S1, R, ex, fun a o c' H1 β1 R1 A1 n1 n2 e2 co => ?_⟩
    subst e2
    have ec' := celD_cell ⟨_, _, _, co⟩ ec
    subst ec'
    exact q _ β1 _ H1 (R1.setOwn (fun z => R.zlive a z n1) hi n2 co) A1.ws (Rel.setOwnAdv n1)
  · cases e1
theorem S.own {i : Nat} {x : PySem.Str} {pos' : Pos} (hN : X.N.Nodup) (h : EF X e t) (hi : X.N[i]? = some x := by rfl) (hx : Loc X.env.scope x := by first | exact Or.inl rfl | exact Or.inr rfl) (hs : swapsWith e (some (.Name x pos')) pos.line X.env = pure false := by rfl) (hf : X.fn x = true ∨ X.env.scope.names.lookup x = some .local := by first | exact .inl rfl | exact .inr rfl | assumption) :
    SX X (.Assign [.Name x pos'] e pos) (sOwn i t) := PS.imp (ps_set hN hi hx h hs hf) fun E σ H h => rd_own E σ H h
theorem S.ownLc {i : Nat} {y : PySem.Str} {py lpos : Pos} {elt tgt iter : Expr} {ifs : List Expr} {scope : Scope} {di : DI} {vs tl : List Nat} {own : List (PySem.Str × Nat)} {g : DG} {tt : DT} {te : DE} (hc : X.calm = true) (hN : X.N.Nodup) (hy : X.N[i]? = some y) (hyl : X.env.scope.names.lookup y = some .local)
    (hsw : swapsWith (.ListComp elt [⟨tgt, iter, ifs, 0⟩] scope lpos) (some (.Name y py)) pos.line X.env = pure true) (hi : IX X true tgt iter di) (ok : BlkOk X.N X.env.scope scope own)
    (hg : ∀ (s : Shared) (H : Hp) (C : Addr) (cl : List (PySem.Str × Addr)) (fp : List Addr), GX (X.blk s H scope (compEnvC scope cl C X.env) fp) tgt tl g)
    (ht : ∀ (s : Shared) (H : Hp) (C : Addr) (cl : List (PySem.Str × Addr)) (fp : List Addr), TsX (X.blk s H scope (compEnvC scope cl C X.env) fp) ifs tt)
    (he : ∀ (s : Shared) (H : Hp) (C : Addr) (cl : List (PySem.Str × Addr)) (fp : List Addr), EX (X.blk s H scope (compEnvC scope cl C X.env) fp) false elt te)
    (hts : ∀ i ∈ tl, i ∈ own.map (·.2) := by decide) (hs : ∀ x, foldedSetIterable iter X.env x = pure x := by intro _; rfl) (hvs : vs = own.map (·.2) := by rfl) : SX X (.Assign [.Name y py] (.ListComp elt [⟨tgt, iter, ifs, 0⟩] scope lpos) pos) (sOwn i (dLc di vs g tt te)) := by
  subst hvs
  exact PS.imp (ps_setLc (wi := rdI X.K (mX X) true di) (g := rdG X.K (mX X) tl g) (tt := rdT X.K (mX X) tt) (te := rdX X.K (mX X) false te) hc hN hy hyl hsw hi ok hg ht he hs) fun E σ H h => rd_lc hts σ H _ (rd_own E σ H h)
def dNew (t : DE) : DE := fun env S => (t env S).bind fun p => (celD p.1).map fun c => (.ref p.2.length, p.2 ++ [c])
theorem E.new (h : EF X e t) : EX X b e (dNew t) := PE.imp h fun σ H Q ⟨Z, α, β, env, S, d, S', R, e1, q⟩ => by
  unfold dNew at e1
  obtain ⟨⟨x, S1⟩, ex, e1⟩ := Option.bind_eq_some_iff.mp e1
  obtain ⟨c, ec, e2⟩ := Option.map_eq_some_iff.mp e1
  clear e1
  cases e2
  refine ⟨Z, α, β, env, S, x, S1, R, ex, fun a o c' H1 β1 R1 A1 n1 n2 e2 co => ?_⟩
  subst e2
  have ec' := celD_cell ⟨_, _, _, co⟩ ec
  subst ec'
  have R2 := R1.pushRef (fun z => R.zlive a z n1) n2 co
  refine q _ H1 (β1 ++ [a]) R2 ⟨?_, A1.keep, A1.live, A1.frz⟩ (.inl (.ref ?_))
  · obtain ⟨nw, e3, h3⟩ := A1.pre
    exact ⟨nw ++ [a], by rw [e3, List.append_assoc], fun x hx => by
      rcases List.mem_append.mp hx with z | z
      · exact h3 x z
      · have : x = a := by simpa using z
        rw [this]; exact n1⟩
  · rw [← R1.blen]; simp
/-! ### x.append(e), x[i] = e -/
def sAppOwn (i : Nat) (t : DE) : DS := fun env S => (t env S).bind fun p => match env[i]? with
  | some (.own (.lst xs)) => if xs.length < sizeLine then some (.nx (env.set i (.own (.lst (xs ++ [p.1])))), p.2) else none
  | _ => none
/-- a list of the store -/
def refL (S : Sto) : D → Option Nat
  | .ref n => match S[n]? with
    | some (.lst _) => some n
    | _ => none
  | _ => none
def sAppRef (o : DE) (t : DE) : DS := fun env S => (o env S).bind fun q => (refL q.2 q.1).bind fun n => (t env q.2).bind fun p => match p.2[n]? with
  | some (.lst xs) => if xs.length < sizeLine then some (.nx env, p.2.set n (.lst (xs ++ [p.1]))) else none
  | _ => none
theorem Res.refL {K : PySem.W.Frag} {mg : Mg} {Z : Addr → Prop} {α : Nat → Option Addr} {β : List Addr} {env : Env} {S : Sto} {σ : L2.St} {H : Hp} {b : Bool} {d : D} {v : V} {n : Nat} (R : Rel K mg Z α β env S σ H) (r : Res K mg Z α β H b d v) (h : refL S d = some n) :
    ∃ a xs, v = .ref a ∧ β[n]? = some a ∧ H a = some (.lst xs) := by
  cases d <;> simp only [Rf.refL] at h <;> try (cases h; done)
  split at h
  · rename_i e
    cases h
    rcases r with r | ⟨_, _, _, c, _, _, _, h3, h4, _⟩
    · cases r with
      | ref h =>
        obtain ⟨o, e3, co⟩ := R.cell _ _ _ e h
        replace co := co.ok
        cases co with
        | lst rr => exact ⟨_, _, rfl, h, e3⟩
    · cases h3 <;> cases h4
  · cases h
theorem S.appOwn (i : Nat) {x : PySem.Str} {apos : Pos} (h : EX X false e t) (hN : X.N[i]? = some x := by rfl) (hv : Vis X.env.scope x := by first | exact Or.inl rfl | exact Or.inr (Or.inl rfl) | exact Or.inr (Or.inr rfl))
    (hd : (x == ("__debug__" : PySem.Str)) = false := by decide) (hcd : (x == ("__classdict__" : PySem.Str)) = false := by decide) (h1 : starEach [e] X.env = (false, eval e X.env) :: starEach [] X.env := by rfl)
    (hbase : attributeBase (.Name x p) "append" X.env (eval (.Name x p) X.env) = eval (.Name x p) X.env := by rfl) (hfew : (((backTo tpos (starEach [e] X.env)).all fun x => !x.fst) && (backToKw tpos (keywordEach [] X.env)).all fun x => x.fst.isSome) && decide (([e].length + ([] : List Keyword).length + if ([] : List Keyword).isEmpty = true then 0 else 1) < 30) = true := by rfl) (hline : (apos.endLine == tpos.line) = true := by rfl) :
    SX X (.Expr (.Call (.Attribute (.Name x p) "append" apos) [e] [] tpos) pos) (sAppOwn i t) :=
  PS.imp (ps_expr (pe_bm PySem.F.plainAttrs_list PySem.F.slot_list_append PySem.F.type_list_append mt_append (pe_var (X := X) hN hv hd hcd) (pa_cons h pa_nil h1) (hbase := hbase) (hfew := hfew) (hline := hline) (hs := h1))) fun E σ H ⟨Z, α, β, env, S, f, S', R, e1, q⟩ => by
    unfold sAppOwn at e1
    obtain ⟨⟨y, S1⟩, ey, e1⟩ := Option.bind_eq_some_iff.mp e1
    split at e1
    · rename_i xs ei
      split at e1
      · rename_i hz
        cases e1
        obtain ⟨a, o, s1, s2, s3, co⟩ := R.slot i _ ei
        cases co with
        | lst rr =>
          refine ⟨_, s1, .inl ⟨rfl, _, .of s3⟩, Z, α, β, env, S, y, _, R, ey, fun w H1 β1 R1 A1 r1 => ?_⟩
          have s3' := A1.keep a _ s3 (R.own s2)
          refine ⟨a, _, w, rfl, rfl, s3', by rw [← rr.length]; exact hz, ?_⟩
          exact q α β1 σ _ (R1.updOwn s2 (.lst (Reps.append (rr.adv A1) (.cons r1.rep .nil)))) (AdvS.trans A1.ws .refl (adv_wr (W := Ws α β1) (Or.inr ⟨i, s2⟩) (nf_lst s3'))) .refl
      · cases e1
    · cases e1
theorem S.appRef {apos : Pos} (ho : EX X true o u) (h : EX X false e t) (h1 : starEach [e] X.env = (false, eval e X.env) :: starEach [] X.env := by rfl)
    (hbase : attributeBase o "append" X.env (eval o X.env) = eval o X.env := by rfl) (hfew : (((backTo tpos (starEach [e] X.env)).all fun x => !x.fst) && (backToKw tpos (keywordEach [] X.env)).all fun x => x.fst.isSome) && decide (([e].length + ([] : List Keyword).length + if ([] : List Keyword).isEmpty = true then 0 else 1) < 30) = true := by rfl) (hline : (apos.endLine == tpos.line) = true := by rfl) :
    SX X (.Expr (.Call (.Attribute o "append" apos) [e] [] tpos) pos) (sAppRef u t) :=
  PS.imp (ps_expr (pe_bm PySem.F.plainAttrs_list PySem.F.slot_list_append PySem.F.type_list_append mt_append ho (pa_cons h pa_nil h1) (hbase := hbase) (hfew := hfew) (hline := hline) (hs := h1))) fun E σ H ⟨Z, α, β, env, S, f, S', R, e1, q⟩ => by
    unfold sAppRef at e1
    obtain ⟨⟨ov, S1⟩, eo, e1⟩ := Option.bind_eq_some_iff.mp e1
    obtain ⟨n, en, e1⟩ := Option.bind_eq_some_iff.mp e1
    obtain ⟨⟨y, S2⟩, ey, e1⟩ := Option.bind_eq_some_iff.mp e1
    split at e1
    · rename_i xs ex
      split at e1
      · rename_i hz
        cases e1
        refine ⟨Z, α, β, env, S, ov, S1, R, eo, fun v H1 β1 R1 A1 r1 => ?_⟩
        obtain ⟨a, ys, rfl, hn, hH⟩ := r1.refL R1 en
        refine ⟨.inl ⟨rfl, _, .of hH⟩, Z, α, β1, env, S1, y, S2, R1, ey, fun w H2 β2 R2 A2 r2 => ?_⟩
        have hn2 := A2.nth _ _ hn
        obtain ⟨o2, e3, co⟩ := R2.cell _ _ _ ex hn2
        replace co := co.ok
        cases co with
        | lst rr =>
          refine ⟨a, _, w, rfl, rfl, e3, by rw [← rr.length]; exact hz, ?_⟩
          have A12 := (A1.trb A2)
          exact q α β2 σ _ (R2.updRef hn2 (.lst (Reps.append rr (.cons r2.rep .nil)))) (AdvS.trans A12.ws .refl (adv_wr (W := Ws α β2) (Or.inl (List.mem_of_getElem? hn2)) (nf_lst e3))) .refl
      · cases e1
    · cases e1
/-! ### x[i] = e -/
def sSetOwn (i : Nat) (ti : DE) (t : DE) : DS := fun env S => (t env S).bind fun p => (ti env p.2).bind fun q => match env[i]?, q.1 with
  | some (.own (.lst xs)), .int k => (ixN xs.length k).map fun j => (.nx (env.set i (.own (.lst (xs.set j p.1)))), q.2)
  | _, _ => none
def sSetRef (o : DE) (ti : DE) (t : DE) : DS := fun env S => (t env S).bind fun p => (o env p.2).bind fun r => (ti env r.2).bind fun q => match r.1, q.1 with
  | .ref n, .int k => (match q.2[n]? with
    | some (.lst xs) => (ixN xs.length k).map fun j => (.nx env, q.2.set n (.lst (xs.set j p.1)))
    | _ => none)
  | _, _ => none
theorem S.setOwn (i : Nat) {x : PySem.Str} {xpos spos : Pos} (hi : EX X true i' u) (h : EX X false e t) (hN : X.N[i]? = some x := by rfl) (hv : Vis X.env.scope x := by first | exact Or.inl rfl | exact Or.inr (Or.inl rfl) | exact Or.inr (Or.inr rfl))
    (hd : (x == ("__debug__" : PySem.Str)) = false := by decide) (hcd : (x == ("__classdict__" : PySem.Str)) = false := by decide)
    (ha : ∀ v, assign (.Subscript (.Name x xpos) i' spos) X.env v = (do
      let ov ← holding [v] (eval (.Name x xpos) X.env)
      let iv ← holding [v, ov] (eval i' X.env)
      standAt spos
      holding [v, ov, iv] (setItem ov iv v)
      release [v, ov, iv] []) := by intro _; rfl)
    (hs : swapsWithSole [.Subscript (.Name x xpos) i' spos] e pos.line X.env = pure false := by rfl) (hw : swappedStores [.Subscript (.Name x xpos) i' spos] e X.env = pure none := by rfl)
    (h1 : (assignEach [.Subscript (.Name x xpos) i' spos] X.env).map (·.2) = [assign (.Subscript (.Name x xpos) i' spos) X.env] := by rfl) : SX X (.Assign [.Subscript (.Name x xpos) i' spos] e pos) (sSetOwn i u t) :=
  PS.imp (ps_asg h (pg_sub (pe_var (X := X) hN hv hd hcd) hi set_list ha) hs hw h1) fun E σ H ⟨Z, α, β, env, S, f, S', R, e1, q⟩ => by
    unfold sSetOwn at e1
    obtain ⟨⟨y, S1⟩, ey, e1⟩ := Option.bind_eq_some_iff.mp e1
    obtain ⟨⟨k, S2⟩, ek, e1⟩ := Option.bind_eq_some_iff.mp e1
    split at e1
    · rename_i xs k' ei ek'
      obtain ⟨j, ej, e2⟩ := Option.map_eq_some_iff.mp e1
      clear e1
      cases e2
      refine ⟨Z, α, β, env, S, y, S1, R, ey, fun w H1 β1 R1 A1 r1 => ?_⟩
      obtain ⟨a, o, s1, s2, s3, co⟩ := R1.slot i _ ei
      refine ⟨_, s1, Z, α, β1, env, S1, k, S2, R1, ek, fun kv H2 β2 R2 A2 r2 => ?_⟩
      cases co with
      | lst rr =>
        have s3' := A2.keep a _ s3 (R1.own s2)
        simp only at ek'
        subst ek'
        refine ⟨a, _, k', j, rfl, r2.int, s3', by rw [← rr.length]; exact ej, ?_⟩
        exact q α β2 σ _ (R2.updOwn s2 (.lst (Reps.set j (r1.rep.adv A2) (rr.adv A2)))) (AdvS.trans (A1.trb A2).ws .refl (adv_wr (W := Ws α β2) (Or.inr ⟨i, s2⟩) (nf_lst s3'))) .refl
    · cases e1
theorem S.setRef {spos : Pos} {v' : DE} (ho : EX X true o v') (hi : EX X true i' u) (h : EX X false e t)
    (ha : ∀ v, assign (.Subscript o i' spos) X.env v = (do
      let ov ← holding [v] (eval o X.env)
      let iv ← holding [v, ov] (eval i' X.env)
      standAt spos
      holding [v, ov, iv] (setItem ov iv v)
      release [v, ov, iv] []) := by intro _; rfl)
    (hs : swapsWithSole [.Subscript o i' spos] e pos.line X.env = pure false := by rfl) (hw : swappedStores [.Subscript o i' spos] e X.env = pure none := by rfl)
    (h1 : (assignEach [.Subscript o i' spos] X.env).map (·.2) = [assign (.Subscript o i' spos) X.env] := by rfl) : SX X (.Assign [.Subscript o i' spos] e pos) (sSetRef v' u t) :=
  PS.imp (ps_asg h (pg_sub ho hi set_list ha) hs hw h1) fun E σ H ⟨Z, α, β, env, S, f, S', R, e1, q⟩ => by
    unfold sSetRef at e1
    obtain ⟨⟨y, S1⟩, ey, e1⟩ := Option.bind_eq_some_iff.mp e1
    obtain ⟨⟨r, S2⟩, er, e1⟩ := Option.bind_eq_some_iff.mp e1
    obtain ⟨⟨k, S3⟩, ek, e1⟩ := Option.bind_eq_some_iff.mp e1
    split at e1
    · rename_i n k' er' ek'
      split at e1
      · rename_i xs ex
        obtain ⟨j, ej, e2⟩ := Option.map_eq_some_iff.mp e1
        clear e1
        cases e2
        simp only at er' ek' ex
        subst er' ek'
        refine ⟨Z, α, β, env, S, y, S1, R, ey, fun w H1 β1 R1 A1 r1 => ⟨Z, α, β1, env, S1, _, S2, R1, er, fun ov H2 β2 R2 A2 r2 => ⟨Z, α, β2, env, S2, _, S3, R2, ek, fun kv H3 β3 R3 A3 r3 => ?_⟩⟩⟩
        have rn : ∃ a, ov = .ref a ∧ β2[n]? = some a := by
          rcases r2 with r1 | ⟨_, _, _, c, _, _, _, h3, h4, _⟩
          · cases r1 with
            | ref h => exact ⟨_, rfl, h⟩
          · cases h3 <;> cases h4
        obtain ⟨a, rfl, hn⟩ := rn
        have hn3 := A3.nth _ _ hn
        obtain ⟨o2, e3, co⟩ := R3.cell _ _ _ ex hn3
        replace co := co.ok
        cases co with
        | lst rr =>
          refine ⟨a, _, k', j, rfl, r3.int, e3, by rw [← rr.length]; exact ej, ?_⟩
          have A13 := (A1.trb A2).trb A3
          exact q α β3 σ _ (R3.updRef hn3 (.lst (Reps.set j (r1.rep.adv (A2.trb A3)) rr))) (AdvS.trans A13.ws .refl (adv_wr (W := Ws α β3) (Or.inl (List.mem_of_getElem? hn3)) (nf_lst e3))) .refl
      · cases e1
    · cases e1
/-! ### a, b = x, y -/
theorem rd_par2 {i j : Nat} {ua : DA} (E : Ends) (σ : L2.St) (H : Hp) (h : rdS X.K (mX X) (sAsg (gTp 2 (gsCons (gNm i) (gsCons (gNm j) gsNil))) (dTup ua)) E σ H) : tPar i j (rdA X.K (mX X) false ua) E σ H := by
  obtain ⟨Z, α, β, env, S, f, S', R, e1, q⟩ := h
  unfold sAsg dTup at e1
  obtain ⟨⟨x, S1⟩, ex, e1⟩ := Option.bind_eq_some_iff.mp e1
  obtain ⟨⟨xs, S2⟩, ea, ex⟩ := Option.bind_eq_some_iff.mp ex
  obtain ⟨env', eg, e2⟩ := Option.map_eq_some_iff.mp e1
  clear e1
  split at ex
  · cases ex
    cases e2
    refine ⟨Z, α, β, env, S, xs, _, R, ea, fun vs H1 β1 R1 A1 r1 => ?_⟩
    have eg : (if xs.length = 2 then gsCons (gNm i) (gsCons (gNm j) gsNil) xs env else none) = some env' := eg
    split at eg
    · rename_i hl
      obtain ⟨d1, d2, rfl⟩ : ∃ d1 d2, xs = [d1, d2] := by
        match xs, hl with
        | [a, b], _ => exact ⟨a, b, rfl⟩
      obtain ⟨v, w, rfl, r2, r3⟩ := Paired.two r1
      obtain ⟨env1, g1, eg⟩ := Option.bind_eq_some_iff.mp eg
      obtain ⟨env2, g2, eg⟩ := Option.bind_eq_some_iff.mp eg
      cases eg
      unfold gNm at g1 g2
      split at g1
      · rename_i h1
        cases g1
        split at g2
        · rename_i h2
          cases g2
          have R3 := R1.setVal h1 r2.rep
          have R4 := R3.setVal h2 (r3.rep.sub drop1_sub)
          exact ⟨v, w, rfl, q _ β1 _ H1 R4 A1.ws fun k a e => .inl ⟨k, drop1_sub k a (drop1_sub k a e)⟩⟩
        · cases g2
      · cases g1
    · cases eg
  · cases ex
theorem Paired.three {α β : Type} {F : α → β → Prop} {x y z : α} {ys : List β} (h : Paired F [x, y, z] ys) : ∃ u v w, ys = [u, v, w] ∧ F x u ∧ F y v ∧ F z w := by
  cases h with
  | cons r t => cases t with
    | cons r2 t => cases t with
      | cons r3 t => cases t; exact ⟨_, _, _, rfl, r, r2, r3⟩
theorem rd_par3 {i j l : Nat} {ua : DA} (E : Ends) (σ : L2.St) (H : Hp) (h : rdS X.K (mX X) (sAsg (gTp 3 (gsCons (gNm i) (gsCons (gNm j) (gsCons (gNm l) gsNil)))) (dTup ua)) E σ H) : tPar3 i j l (rdA X.K (mX X) false ua) E σ H := by
  obtain ⟨Z, α, β, env, S, f, S', R, e1, q⟩ := h
  unfold sAsg dTup at e1
  obtain ⟨⟨x, S1⟩, ex, e1⟩ := Option.bind_eq_some_iff.mp e1
  obtain ⟨⟨xs, S2⟩, ea, ex⟩ := Option.bind_eq_some_iff.mp ex
  obtain ⟨env', eg, e2⟩ := Option.map_eq_some_iff.mp e1
  clear e1
  split at ex
  · cases ex
    cases e2
    refine ⟨Z, α, β, env, S, xs, _, R, ea, fun vs H1 β1 R1 A1 r1 => ?_⟩
    have eg : (if xs.length = 3 then gsCons (gNm i) (gsCons (gNm j) (gsCons (gNm l) gsNil)) xs env else none) = some env' := eg
    split at eg
    · rename_i hl
      obtain ⟨d1, d2, d3, rfl⟩ : ∃ d1 d2 d3, xs = [d1, d2, d3] := by
        match xs, hl with
        | [a, b, c], _ => exact ⟨a, b, c, rfl⟩
      obtain ⟨v, w, y, rfl, r2, r3, r4⟩ := Paired.three r1
      obtain ⟨env1, g1, eg⟩ := Option.bind_eq_some_iff.mp eg
      obtain ⟨env2, g2, eg⟩ := Option.bind_eq_some_iff.mp eg
      obtain ⟨env3, g3, eg⟩ := Option.bind_eq_some_iff.mp eg
      cases eg
      unfold gNm at g1 g2 g3
      split at g1
      · rename_i h1
        cases g1
        split at g2
        · rename_i h2
          cases g2
          split at g3
          · rename_i h3
            cases g3
            have R3 := R1.setVal h1 r2.rep
            have R4 := R3.setVal h2 (r3.rep.sub drop1_sub)
            have R5 := R4.setVal h3 ((r4.rep.sub drop1_sub).sub drop1_sub)
            exact ⟨v, w, y, rfl, q _ β1 _ H1 R5 A1.ws fun k a e => .inl ⟨k, drop1_sub k a (drop1_sub k a (drop1_sub k a e))⟩⟩
          · cases g3
        · cases g2
      · cases g1
    · cases eg
  · cases ex
theorem S.par2 {i j : Nat} {x y : PySem.Str} {a b' : Expr} {ua : DA} {px py pt pt2 : Pos} {kt k2 : Nat} (hN : X.N.Nodup) (ha : AX X false [a, b'] ua) (hc : X.calm = true := by rfl) (hi : X.N[i]? = some x := by rfl) (hj : X.N[j]? = some y := by rfl) (hij : i ≠ j := by decide)
    (hx : X.env.scope.names.lookup x = some .local := by rfl) (hy : X.env.scope.names.lookup y = some .local := by rfl)
    (hw : swappedStores [.Tuple [.Name x px, .Name y py] kt pt] (.Tuple [a, b'] k2 pt2) X.env = pure (some [x, y]) := by rfl)
    (hs : swapsWithSole [.Tuple [.Name x px, .Name y py] kt pt] (.Tuple [a, b'] k2 pt2) pos.line X.env = pure false := by rfl) :
    SX X (.Assign [.Tuple [.Name x px, .Name y py] kt pt] (.Tuple [a, b'] k2 pt2) pos) (sAsg (gTp 2 (gsCons (gNm i) (gsCons (gNm j) gsNil))) (dTup ua)) :=
  PS.imp (ps_par hc hN hi hj hij hx hy ha hw hs) fun E σ H h => rd_par2 E σ H h
theorem S.par3 {i j l : Nat} {x y z : PySem.Str} {a b' c' : Expr} {ua : DA} {px py pz pt pt2 : Pos} {kt k2 : Nat} (hN : X.N.Nodup) (ha : AX X false [a, b', c'] ua) (hc : X.calm = true := by rfl) (hi : X.N[i]? = some x := by rfl) (hj : X.N[j]? = some y := by rfl) (hl : X.N[l]? = some z := by rfl) (hij : i ≠ j := by decide) (hil : i ≠ l := by decide) (hjl : j ≠ l := by decide)
    (hx : X.env.scope.names.lookup x = some .local := by rfl) (hy : X.env.scope.names.lookup y = some .local := by rfl) (hz : X.env.scope.names.lookup z = some .local := by rfl)
    (hw : swappedStores [.Tuple [.Name x px, .Name y py, .Name z pz] kt pt] (.Tuple [a, b', c'] k2 pt2) X.env = pure (some [x, y, z]) := by rfl)
    (hs : swapsWithSole [.Tuple [.Name x px, .Name y py, .Name z pz] kt pt] (.Tuple [a, b', c'] k2 pt2) pos.line X.env = pure false := by rfl) :
    SX X (.Assign [.Tuple [.Name x px, .Name y py, .Name z pz] kt pt] (.Tuple [a, b', c'] k2 pt2) pos) (sAsg (gTp 3 (gsCons (gNm i) (gsCons (gNm j) (gsCons (gNm l) gsNil)))) (dTup ua)) :=
  PS.imp (ps_par3 hc hN hi hj hl hij hil hjl hx hy hz ha hw hs) fun E σ H h => rd_par3 E σ H h
/-! ### if, while, for -/
def sIf (c : DT) (a b : DS) : DS := fun env S => (c env S).bind fun p => if p.1 = true then a env p.2 else b env p.2
theorem S.ite (hc : TX X e tc) (ha : SsX X sa ts) (hb : SsX X sb us) : SX X (.If e sa sb pos) (sIf tc ts us) :=
  PS.imp (ps_if hc ha hb) fun E σ H ⟨Z, α, β, env, S, f, S', R, e1, q⟩ => by
    unfold sIf at e1
    obtain ⟨⟨k, S1⟩, ek, e1⟩ := Option.bind_eq_some_iff.mp e1
    refine ⟨Z, α, β, env, S, k, S1, R, ek, fun H1 β1 R1 A1 => ?_⟩
    cases k with
    | true => exact iteT ⟨Z, α, β1, env, S1, f, S', R1, by simpa using e1, q.later A1.ws .refl⟩
    | false => exact iteF ⟨Z, α, β1, env, S1, f, S', R1, by simpa using e1, q.later A1.ws .refl⟩
def whGo (tc : DT) (tb : DS) : Nat → DS
  | 0, _, _ => none
  | n + 1, env, S => (tc env S).bind fun k => if k.1 = true then (tb env k.2).bind fun p => match p.1 with
      | .nx env' => whGo tc tb n env' p.2
      | .ct env' => whGo tc tb n env' p.2
      | .bk env' => some (.nx env', p.2)
      | .rt d => some (.rt d, p.2)
    else some (.nx env, k.2)
theorem whGo_succ (tc : DT) (tb : DS) : ∀ (n : Nat) (env : Env) (S : Sto) (r : Fl × Sto), whGo tc tb n env S = some r → whGo tc tb (n + 1) env S = some r
  | 0, _, _, _, h => by cases h
  | n + 1, env, S, r, h => by
    rw [whGo] at h ⊢
    obtain ⟨⟨k, S1⟩, ek, h⟩ := Option.bind_eq_some_iff.mp h
    rw [ek]
    show (if k = true then _ else _) = some r
    replace h : (if k = true then _ else _) = some r := h
    cases k with
    | false => exact h
    | true =>
      rw [if_pos rfl] at h ⊢
      obtain ⟨⟨f, S2⟩, ef, h⟩ := Option.bind_eq_some_iff.mp h
      rw [ef]
      cases f with
      | nx env' => exact whGo_succ tc tb n env' S2 r h
      | ct env' => exact whGo_succ tc tb n env' S2 r h
      | bk env' => exact h
      | rt d => exact h
theorem whGo_mono (tc : DT) (tb : DS) {n m : Nat} (hl : n ≤ m) {env : Env} {S : Sto} {r : Fl × Sto} (h : whGo tc tb n env S = some r) : whGo tc tb m env S = some r := by
  induction hl with
  | refl => exact h
  | step _ ih => exact whGo_succ tc tb _ env S r ih
open Classical in
noncomputable def sWhile (tc : DT) (tb : DS) : DS := fun env S => if h : ∃ n r, whGo tc tb n env S = some r then some h.choose_spec.choose else none
theorem sWhile_eq {tc : DT} {tb : DS} {n : Nat} {env : Env} {S : Sto} {r : Fl × Sto} (h : whGo tc tb n env S = some r) : sWhile tc tb env S = some r := by
  have hx : ∃ n r, whGo tc tb n env S = some r := ⟨n, r, h⟩
  unfold sWhile
  rw [dif_pos hx]
  have h1 := hx.choose_spec.choose_spec
  have h2 := whGo_mono tc tb (Nat.le_max_left n hx.choose) h
  have h3 := whGo_mono tc tb (Nat.le_max_right n hx.choose) h1
  rw [h2] at h3
  exact h3.symm
theorem sWhile_some {tc : DT} {tb : DS} {env : Env} {S : Sto} {r : Fl × Sto} (h : sWhile tc tb env S = some r) : ∃ n, whGo tc tb n env S = some r := by
  unfold sWhile at h
  split at h
  · rename_i hx
    cases h
    exact ⟨_, hx.choose_spec.choose_spec⟩
  · cases h
theorem S.while_ (hp : PassesOwn (model X.prog X.w) X.A X.env X.xe) (hc : TX X e tc) (hb : SsX X sa ts) : SX X (.While e sa [] pos) (sWhile tc ts) :=
  PS.imp (ps_while hp hc hb) fun E σ H ⟨Z, α, β, env, S, f, S', R, e1, q⟩ => by
    obtain ⟨n, e1⟩ := sWhile_some e1
    refine ⟨fun m σ H => ∃ α1 β1 env1 S1, Rel X.K (mX X) Z α1 β1 env1 S1 σ H ∧ whGo tc ts m env1 S1 = some (f, S') ∧ PostS X.K (mX X) E Z α1 β1 H f S', ⟨n, α, β, env, S, R, e1, q⟩, fun m σ1 H1 hW => ?_⟩
    obtain ⟨α1, β1, env1, S1, R1, e2, q1⟩ := hW
    cases m with
    | zero => cases e2
    | succ m =>
      rw [whGo] at e2
      obtain ⟨⟨k, S2⟩, ek, e2⟩ := Option.bind_eq_some_iff.mp e2
      refine ⟨Z, α1, β1, env1, S1, k, S2, R1, ek, fun H2 β2 R2 A2 => ?_⟩
      have q2 : PostS X.K (mX X) E Z α1 β2 H2 f S' := q1.later A2.ws .refl
      replace e2 : (if k = true then _ else _) = some (f, S') := e2
      cases k with
      | false =>
        rw [if_neg Bool.false_ne_true] at e2
        cases e2
        exact iteF (q2 α1 β2 σ1 H2 R2 .refl .refl)
      | true =>
        rw [if_pos rfl] at e2
        obtain ⟨⟨f2, S3⟩, ef, e2⟩ := Option.bind_eq_some_iff.mp e2
        refine iteT ⟨fun σ' H' => ∃ α3 β3 env3 S3, Rel X.K (mX X) Z α3 β3 env3 S3 σ' H' ∧ whGo tc ts m env3 S3 = some (f, S') ∧ PostS X.K (mX X) E Z α3 β3 H' f S', fun σ' H' hN => ⟨m, Nat.lt_succ_self m, hN⟩, Z, α1, β2, env1, S2, f2, S3, R2, ef, ?_⟩
        cases f2 with
        | nx env3 => exact fun α3 β3 σ3 H3 R3 A3 O3 => ⟨α3, β3, env3, S3, R3, e2, q2.later A3 O3⟩
        | ct env3 => exact fun α3 β3 σ3 H3 R3 A3 O3 => ⟨α3, β3, env3, S3, R3, e2, q2.later A3 O3⟩
        | bk env3 => cases e2; exact q2
        | rt d => cases e2; exact q2
open Classical in
noncomputable def forGo (g : DG) (tb : DS) (gd : Gd) (all : List D) : List D → DS
  | [], env, S => if gok gd all S then some (.nx env, S) else none
  | d :: ds, env, S => if gok gd all S then (g d env).bind fun env1 => (tb env1 S).bind fun p => match p.1 with
      | .nx env' => forGo g tb gd all ds env' p.2
      | .ct env' => forGo g tb gd all ds env' p.2
      | .bk env' => some (.nx env', p.2)
      | .rt d => some (.rt d, p.2)
    else none
noncomputable def sFor (g : DG) (di : DI) (tb : DS) : DS := fun env S => (di env S).bind fun p => forGo g tb p.1.2 p.1.1 p.1.1 env p.2
theorem S.for_ {di : DI} (hp : PassesOwn (model X.prog X.w) X.A X.env X.xe) (hcalm : X.calm = true) (hi : IX X false tg e di) (hg : GX X tg tl g) (hb : SsX X sa ts) (hs : ∀ x, foldedSetIterable e X.env x = pure x := by intro _; rfl) : SX X (.For tg e sa [] pos) (sFor g di ts) :=
  PS.imp (ps_for hp hcalm hi hg hb hs) fun E σ H ⟨Z, α, β, env, S, f, S', R, e1, q⟩ => by
    unfold sFor at e1
    obtain ⟨⟨⟨items, gd⟩, S1⟩, ei, e1⟩ := Option.bind_eq_some_iff.mp e1
    refine ⟨Z, α, β, env, S, items, gd, S1, R, ei, fun J H1 β1 R1 A1 hz ok => ?_⟩
    refine ⟨fun i m σ2 H2 => i + m = items.length ∧ ∃ α2 β2 env2 S2, Rel X.K (mX X) Z α2 β2 env2 S2 σ2 H2 ∧ Adv (Ws α β1) β1 H1 β2 H2 ∧ OwS α H1 α2 ∧ forGo g ts gd items (items.drop i) env2 S2 = some (f, S') ∧ PostS X.K (mX X) E Z α2 β2 H2 f S',
      ⟨items.length, by omega, α, β1, env, S1, R1, .refl, .refl, e1, q.later A1.ws .refl⟩, fun i m σ2 H2 hW => ?_⟩
    obtain ⟨hm, α2, β2, env2, S2, R2, A2, O2, e2, q2⟩ := hW
    have kp : Kp false Z α β1 H1 Z α2 β2 H2 := ⟨fun a o e n => A2.keep a o e fun w => n (w.elim (fun z => .inr (.inl z)) fun z => .inr (.inr z)), fun a z => by
      rcases z with z | z | ⟨j, z⟩
      · exact .inl (.inl z)
      · exact (A2.mem z).elim (fun y => .inl (.inr (.inl y))) .inr
      · exact (O2 j a z).elim (fun y => .inl (.inr (.inr y))) .inr, A2.nth, (fun z => nomatch z), A2.frz⟩
    by_cases hi : i < items.length
    · have ed : items.drop i = items[i] :: items.drop (i + 1) := List.drop_eq_getElem_cons hi
      rw [ed, forGo] at e2
      split at e2
      · rename_i hgk
        obtain ⟨env3, eg, e2⟩ := Option.bind_eq_some_iff.mp e2
        obtain ⟨⟨f3, S3⟩, ef, e2⟩ := Option.bind_eq_some_iff.mp e2
        obtain ⟨hgo, hy⟩ := ok.go i items[i] Z α2 β2 env2 S2 σ2 H2 R2 kp hgk (List.getElem?_eq_getElem hi)
        refine .inr ⟨hgo, fun σ' H' => ∃ α2 β2 env2 S2, Rel X.K (mX X) Z α2 β2 env2 S2 σ' H' ∧ Adv (Ws α β1) β1 H1 β2 H' ∧ OwS α H1 α2 ∧ forGo g ts gd items (items.drop (i + 1)) env2 S2 = some (f, S') ∧ PostS X.K (mX X) E Z α2 β2 H' f S', fun σ' H' hN => ⟨m - 1, by omega, by omega, hN⟩, fun x H3 hyx => ?_⟩
        obtain ⟨hs3, R3, A3, rx⟩ := hy x H3 hyx
        refine ⟨Z, α2, β2, env2, S2, items[i], env3, R3, rx, eg, fun σ4 α4 R4 hsub _ _ => ?_⟩
        have O4 : OwS α2 H3 α4 := fun j a z => .inl ⟨j, hsub j a z⟩
        have q4 : PostS X.K (mX X) E Z α4 β2 H3 f S' := q2.later A3.ws (fun j a z => .inl ⟨j, hsub j a z⟩)
        refine ⟨Z, α4, β2, env3, S2, f3, S3, R4, ef, ?_⟩
        have A24 : Adv (Ws α β1) β1 H1 β2 H3 := AdvS.trans A2 O2 A3.ws
        have O24 : OwS α H1 α4 := O2.trans A2 (fun j a z => .inl ⟨j, hsub j a z⟩)
        cases f3 with
        | nx env5 => exact fun α5 β5 σ5 H5 R5 A5 O5 => ⟨α5, β5, env5, S3, R5, AdvS.trans A24 O24 A5, O24.trans A24 O5, e2, q4.later A5 O5⟩
        | ct env5 => exact fun α5 β5 σ5 H5 R5 A5 O5 => ⟨α5, β5, env5, S3, R5, AdvS.trans A24 O24 A5, O24.trans A24 O5, e2, q4.later A5 O5⟩
        | bk env5 => cases e2; exact q4
        | rt d => cases e2; exact q4
      · cases e2
    · have ed : items.drop i = [] := List.drop_eq_nil_of_le (by omega)
      rw [ed, forGo] at e2
      split at e2
      · rename_i hgk
        cases e2
        exact .inl ⟨ok.stop i Z α2 β2 env2 _ σ2 H2 R2 kp hgk (by omega), q2 α2 β2 σ2 H2 R2 .refl .refl⟩
      · cases e2
end

/-! ### defs -/
def startE (N : Nat) (ds : List D) : Env := ds.map .val ++ List.replicate (N - ds.length) .no
def runF (N k : Nat) (t : DS) : Fn := fun ds S => if ds.length = k then match t (startE N ds) S with
    | some (.rt d, S') => some (d, S')
    | some (.nx _, S') => some (.non, S')
    | _ => none
  else none
theorem start_len {N : List PySem.Str} {vs : List V} (h : vs.length ≤ N.length) : (L2.start N vs).length = N.length := by
  unfold L2.start
  rw [List.length_append, List.length_map, List.length_replicate]
  omega
theorem Rel.start {K : PySem.W.Frag} {mg : Mg} {Z : Addr → Prop} {β : List Addr} {S : Sto} {H : Hp} {N : List PySem.Str} {ds : List D} {vs : List V} (R : Rel K mg Z noα β [] S [] H) (r : Reps K mg β (Oo Z noα β) H ds vs) : Rel K mg Z noα β (startE N.length ds) S (L2.start N vs) H where
  len := by
    unfold startE L2.start
    simp [r.length]
  slot := fun i sl e => by
    unfold startE at e
    by_cases h : i < ds.length
    · rw [List.getElem?_append_left (by simpa using h), List.getElem?_map] at e
      obtain ⟨d, e1, rfl⟩ := Option.map_eq_some_iff.mp e
      obtain ⟨v, e2, r2⟩ := r.get e1
      refine ⟨v, ?_, r2⟩
      unfold L2.start
      rw [List.getElem?_append_left (by rw [List.length_map, ← r.length]; exact h), List.getElem?_map, e2]
      rfl
    · rw [List.getElem?_append_right (by simpa using h)] at e
      have := List.getElem?_replicate (a := Sl.no) (n := N.length - ds.length) (i := i - (ds.map Sl.val).length)
      rw [this] at e
      split at e
      · cases e; trivial
      · cases e
  sup := fun i a e => by cases e
  blen := R.blen
  cell := R.cell
  nod := R.nod
  inj := R.inj
  dis := R.dis
  disZ := R.disZ
  zlive := R.zlive
theorem Rel.atEnd {K : PySem.W.Frag} {mg : Mg} {Z : Addr → Prop} {α : Nat → Option Addr} {β : List Addr} {env : Env} {S : Sto} {σ : L2.St} {H : Hp} (R : Rel K mg Z α β env S σ H) : Rel K mg Z noα β [] S [] H where
  len := rfl
  slot := fun i sl e => by simp at e
  sup := fun i a e => by cases e
  blen := R.blen
  cell := fun n c a e1 e2 => by
    obtain ⟨o, e3, r⟩ := R.cell n c a e1 e2
    exact ⟨o, e3, r.sub fun i a e => by cases e⟩
  nod := R.nod
  inj := fun i j a e => by cases e
  dis := fun i a e => by cases e
  disZ := R.disZ
  zlive := R.zlive
section
variable {P : Program} {w : World} {K : PySem.W.Frag} {mg : Mg} {base : Heap}
theorem rd_fn {N : List PySem.Str} {k : Nat} {t : DS} {vs : List V} {H : Hp} {Q : VK} {E : XK} (hk : k ≤ N.length) (h : spF K mg (runF N.length k t) vs H Q E) :
    rdS K mg t { nx := fun _ H' => Q .non H', rt := Q } (L2.start N vs) H := by
  obtain ⟨Z, β, S, ds, d, S', R, r, e1, q⟩ := h
  unfold runF at e1
  have hl := r.length
  split at e1
  · rename_i hd
    split at e1
    · rename_i d' S1 e2
      cases e1
      refine ⟨Z, noα, β, _, S, _, S', R.start r, e2, fun v α' β' env' σ' H' R' A O rp => q v H' β' R'.atEnd ?_ rp⟩
      exact A.weak fun a w => w.elim id fun ⟨i, z⟩ => by cases z
    · rename_i env1 S1 e2
      cases e1
      refine ⟨Z, noα, β, _, S, _, S', R.start r, e2, fun α' β' σ' H' R' A O => q _ H' β' R'.atEnd ?_ .non⟩
      exact A.weak fun a w => w.elim id fun ⟨i, z⟩ => by cases z
    · cases e1
  · cases e1
theorem spF_len {n k : Nat} {t : DS} {vs : List V} {H : Hp} {Q : VK} {E : XK} (h : spF K mg (runF n k t) vs H Q E) : vs.length = k := by
  obtain ⟨Z, β, S, ds, d, S', R, r, e1, q⟩ := h
  unfold runF at e1
  split at e1
  · rename_i hd
    rw [← r.length]; exact hd
  · cases e1
end
end Rf
end
section
set_option maxHeartbeats 200000
/-! Rf, part 9: defs at their names; the law's end. -/
namespace Rf
open PySem PySem.Spec PyProof.Rows L2

/-- what the head tells, over the heap behind the top -/
structure Txt (fa : List He.Fa) (fn : List He.DefD) (K : PySem.W.Frag) (h : Heap) (mg : PySem.Str → Option Value) : Prop where
  kin : K.In h
  ns : h.Ns mainGlobals mg
  says : He.SaysD fa fn K
section
variable {P : Program} {w : World} {K : PySem.W.Frag} {mg : PySem.Str → Option Value} {M : Mg} {base h : Heap} {fa : List He.Fa} {fn : List He.DefD}
theorem Txt.free (T : Txt fa fn K h mg) (i : Nat) {x : PySem.Str} (e : fa[i]? = some (.free x) := by rfl) : mg x = none := He.free_ok T.kin T.ns (T.says.fact i e)
theorem Txt.glo (T : Txt fa fn K h mg) (i : Nat) {x : PySem.Str} (e : fa[i]? = some (.glo x) := by rfl) : mg x = some (.ref (He.ga K x)) := He.glo_ok T.kin T.ns (T.says.fact i e)
/-- a def of the text keeps to what its body's statements give -/
theorem fnAt (T : Txt fa fn K h mg) (i j : Nat) {x : PySem.Str} {st : Stmt} {N ps : List PySem.Str} {k : Nat} {t : DS} (S : FnScope N ps (defScope st))
    (hd : fn[i]? = some ⟨(x, none), x, x, defArgs st, defBody st, defScope st, [], []⟩) (hg : fa[j]? = some (.glo x))
    (hb : ∀ (kV doc pm : Value) (an : Option Addr) (cdv ct : Value) (us : List Value), us.length = ps.length → bindArgs (PySem.W.fnOf x x (defArgs st) (defBody st) (defScope st) .none kV doc pm an cdv ct) ⟨us, []⟩ = pure (ps.zip us))
    (hk : ps.length ≤ N.length)
    (body : ∀ (cdv : Value) (f : Addr) (A : Around) (outer : List PySem.Env) (s : Shared) (H : Hp) (E : XK), Room k (A.deeper (envOfC x (defScope st) s.heap.objs.size f cdv)) → SsX (cxOf CX0 P w K mg base N x (defScope st) f cdv A outer s H E).nox (defBody st) t) : FnAt P w K mg base (k + 1) x ps.length (runF N.length ps.length t) := by
  obtain ⟨fd, F⟩ := T.says.def_ i hd
  refine ⟨He.ga K x, fd, ps, T.glo j hg, F.kp, FunD.bindsN F hb, rfl, F.ok S (fun vs H Q E q => spF_len q) fun cdv A outer s H vs Q E hr q => ⟨_, (body cdv (He.ga K x) A outer s H E hr).nox, rd_fn hk q⟩⟩
theorem fnAt0 (T : Txt fa fn K h mg) (i j : Nat) {x : PySem.Str} {st : Stmt} {ps : List PySem.Str}
    (hd : fn[i]? = some ⟨(x, none), x, x, defArgs st, defBody st, defScope st, [], []⟩) (hg : fa[j]? = some (.glo x))
    (hb : ∀ (kV doc pm : Value) (an : Option Addr) (cdv ct : Value) (us : List Value), us.length = ps.length → bindArgs (PySem.W.fnOf x x (defArgs st) (defBody st) (defScope st) .none kV doc pm an cdv ct) ⟨us, []⟩ = pure (ps.zip us)) : FnAt P w K mg base 0 x ps.length (fun _ _ => none) := by
  obtain ⟨fd, F⟩ := T.says.def_ i hd
  refine ⟨He.ga K x, fd, ps, T.glo j hg, F.kp, FunD.bindsN F hb, rfl, ⟨fun vs H Q E q => ?_, fun A outer s H args us vs Q E hr he hbt hv q => ?_⟩⟩
  · obtain ⟨Z, β, S, ds, d, S', R, r, e1, q⟩ := q
    cases e1
  · obtain ⟨Z, β, S, ds, d, S', R, r, e1, q⟩ := q
    cases e1
theorem FnAt.mono {j k n : Nat} {x : PySem.Str} {φ : Fn} (F : FnAt P w K mg base j x n φ) (hl : j ≤ k) : FnAt P w K mg base k x n φ := by
  obtain ⟨f, fd, ps, h1, h2, h3, h4, F⟩ := F
  exact ⟨f, fd, ps, h1, h2, h3, h4, F.mono hl⟩
theorem u65 {A : Around} {k : Nat} (hr : Room k A) : A.units + 65 < cLine := by have := hr.un; omega
theorem u67 {A : Around} {k : Nat} (hr : Room k A) : A.units + 67 < cLine := by have := hr.un; omega
theorem relNil {H : Hp} : Rel K M (fun _ => False) noα [] [] [] [] H where
  len := rfl
  slot := fun i sl e => by cases e
  sup := fun i a e => by cases e
  blen := rfl
  cell := fun n c a e _ => by cases e
  nod := List.nodup_nil
  inj := fun i j a e => by cases e
  dis := fun i a e => by cases e
  disZ := fun a h => by cases h
  zlive := fun a (z : False) => z.elim
/-- the law's promise from what its meaning gives -/
theorem law_sp {φ : Fn} (hφ : ∀ ns : List Int, ns.length ≤ 63 → ∃ S, φ [.scr (ns.map .int)] [] = some (.bl true, S)) {H : Hp} {a : Addr} {ns : List Int} (hl : ns.length ≤ 63) (hS : SqL K H a (ns.map V.int)) :
    spF K M φ [.ref a] H (fun v _ => v = .bl true) fun _ _ _ => False := by
  obtain ⟨S, e⟩ := hφ ns hl
  refine ⟨fun _ => False, [], [], [.scr (ns.map .int)], .bl true, S, relNil, .cons (.scr ?_ Reps.of_ints) .nil, e, fun v H' β' R' A' r => by cases r; rfl⟩
  rcases hS with h | h
  · exact .inl ⟨h, fun z => by
      rcases z with z | z | ⟨i, z⟩
      · exact z
      · cases z
      · cases z⟩
  · exact .inr h
end
end Rf
end
section
set_option maxHeartbeats 200000
/-! Rf, part B: zip, enumerate, two comparisons in a row. -/
namespace Rf
open PySem PySem.Spec PyProof.Rows L2

section
variable {K : PySem.W.Frag} {mg : Mg} {Z Z1 : Addr → Prop} {α α1 : Nat → Option Addr} {β β1 : List Addr} {H H1 : Hp} {env env1 : Env} {S S1 : Sto} {σ σ1 : L2.St} {b : Bool} {d : D} {v : V}
theorem yld_tup {x y : V} {d e : D} {T : Addr} (R1 : Rel K mg Z1 α1 β1 env1 S1 σ1 H1) (n : H1 T = none) (rx : Rep K mg β1 (Oo Z1 α1 β1) H1 d x) (ry : Rep K mg β1 (Oo Z1 α1 β1) H1 e y) :
    (∀ a o, H1 a = some o → upd H1 T (.tup [x, y]) a = some o) ∧ Rel K mg Z1 α1 β1 env1 S1 σ1 (upd H1 T (.tup [x, y])) ∧ Adv (Wb β1) β1 H1 β1 (upd H1 T (.tup [x, y])) ∧ Rep K mg β1 (Oo Z1 α1 β1) (upd H1 T (.tup [x, y])) (.par [d, e]) (.ref T) :=
  ⟨same_upd' n, R1.nw n, Adv.upd n, R1.parN (.cons rx (.cons ry .nil)) n⟩
def pairs (xs ys : List D) : List D := List.zipWith (fun x y => .par [x, y]) xs ys
theorem pairs_get {xs ys : List D} {i : Nat} {d : D} (h : (pairs xs ys)[i]? = some d) : ∃ x y, xs[i]? = some x ∧ ys[i]? = some y ∧ d = .par [x, y] := by
  unfold pairs at h
  rw [List.getElem?_zipWith] at h
  split at h
  · rename_i x y e1 e2
    cases h
    exact ⟨x, y, e1, e2, rfl⟩
  · cases h
theorem pairs_len (xs ys : List D) : (pairs xs ys).length = min xs.length ys.length := by unfold pairs; simp
/-- what stands through a walk, whatever is done -/
def StillL (K : PySem.W.Frag) (mg : Mg) (b : Bool) (Z : Addr → Prop) (α : Nat → Option Addr) (β : List Addr) (H : Hp) (a : Addr) (items : List D) : Prop :=
  ∀ Z1 α1 β1 env1 S1 σ1 H1, Rel K mg Z1 α1 β1 env1 S1 σ1 H1 → Kp b Z α β H Z1 α1 β1 H1 → ∃ us, SqL K H1 a us ∧ Reps K mg β1 (Oo Z1 α1 β1) H1 items us
def StillT (K : PySem.W.Frag) (mg : Mg) (b : Bool) (Z : Addr → Prop) (α : Nat → Option Addr) (β : List Addr) (H : Hp) (a : Addr) (items : List D) : Prop :=
  ∀ Z1 α1 β1 env1 S1 σ1 H1, Rel K mg Z1 α1 β1 env1 S1 σ1 H1 → Kp b Z α β H Z1 α1 β1 H1 → ∃ us, SqT K H1 a us ∧ Reps K mg β1 (Oo Z1 α1 β1) H1 items us
theorem itz_ok {a c : Addr} {xs ys : List D} (h1 : StillL K mg b Z α β H a xs) (h2 : StillL K mg b Z α β H c ys) : ItOk K mg b Z α β H (Itz K a c) (pairs xs ys) none where
  go := fun i d Z1 α1 β1 env1 S1 σ1 H1 R1 k g e => by
    obtain ⟨x, y, e1, e2, rfl⟩ := pairs_get e
    obtain ⟨us, q1, r1⟩ := h1 _ _ _ _ _ _ _ R1 k
    obtain ⟨ws, q2, r2⟩ := h2 _ _ _ _ _ _ _ R1 k
    obtain ⟨u, f1, s1⟩ := r1.get e1
    obtain ⟨w, f2, s2⟩ := r2.get e2
    refine ⟨⟨us, ws, u, w, q1, q2, f1, f2⟩, fun z H2 hy => ?_⟩
    obtain ⟨T, u', w', rfl, n, rfl, g1, g2⟩ := hy
    have e3 := g1 us q1
    have e4 := g2 ws q2
    rw [f1] at e3; cases e3
    rw [f2] at e4; cases e4
    exact yld_tup R1 n s1 s2
  stop := fun i Z1 α1 β1 env1 S1 σ1 H1 R1 k g hl => by
    obtain ⟨us, q1, r1⟩ := h1 _ _ _ _ _ _ _ R1 k
    obtain ⟨ws, q2, r2⟩ := h2 _ _ _ _ _ _ _ R1 k
    rw [pairs_len] at hl
    have l1 := r1.length
    have l2 := r2.length
    exact ⟨us, ws, q1, q2, by omega⟩
theorem itzT_ok {a c : Addr} {xs ys : List D} (h1 : StillT K mg b Z α β H a xs) (h2 : StillT K mg b Z α β H c ys) : ItOk K mg b Z α β H (RZ.ItzT K a c) (pairs xs ys) none where
  go := fun i d Z1 α1 β1 env1 S1 σ1 H1 R1 k g e => by
    obtain ⟨x, y, e1, e2, rfl⟩ := pairs_get e
    obtain ⟨us, q1, r1⟩ := h1 _ _ _ _ _ _ _ R1 k
    obtain ⟨ws, q2, r2⟩ := h2 _ _ _ _ _ _ _ R1 k
    obtain ⟨u, f1, s1⟩ := r1.get e1
    obtain ⟨w, f2, s2⟩ := r2.get e2
    refine ⟨⟨us, ws, u, w, q1, q2, f1, f2⟩, fun z H2 hy => ?_⟩
    obtain ⟨T, u', w', rfl, n, rfl, g1, g2⟩ := hy
    have e3 := g1 us q1
    have e4 := g2 ws q2
    rw [f1] at e3; cases e3
    rw [f2] at e4; cases e4
    exact yld_tup R1 n s1 s2
  stop := fun i Z1 α1 β1 env1 S1 σ1 H1 R1 k g hl => by
    obtain ⟨us, q1, r1⟩ := h1 _ _ _ _ _ _ _ R1 k
    obtain ⟨ws, q2, r2⟩ := h2 _ _ _ _ _ _ _ R1 k
    rw [pairs_len] at hl
    have l1 := r1.length
    have l2 := r2.length
    exact ⟨us, ws, q1, q2, by omega⟩
def nums (xs : List D) : List D := pairs (rngL 0 xs.length) xs
theorem ite_ok {a : Addr} {xs : List D} (h1 : StillL K mg b Z α β H a xs) : ItOk K mg b Z α β H (Ite K a) (nums xs) none where
  go := fun i d Z1 α1 β1 env1 S1 σ1 H1 R1 k g e => by
    obtain ⟨x, y, e1, e2, rfl⟩ := pairs_get e
    obtain ⟨us, q1, r1⟩ := h1 _ _ _ _ _ _ _ R1 k
    obtain ⟨u, f1, s1⟩ := r1.get e2
    obtain ⟨_, rfl⟩ := rngL_get e1
    refine ⟨⟨us, u, q1, f1⟩, fun z H2 hy => ?_⟩
    obtain ⟨T, u', rfl, n, rfl, g1⟩ := hy
    have e3 := g1 us q1
    rw [f1] at e3; cases e3
    have := yld_tup (d := .int ((i : Nat) : Int)) R1 n (.int _) s1
    rw [show (0 : Int) + (i : Int) = (i : Int) by omega]
    exact this
  stop := fun i Z1 α1 β1 env1 S1 σ1 H1 R1 k g hl => by
    obtain ⟨us, q1, r1⟩ := h1 _ _ _ _ _ _ _ R1 k
    unfold nums at hl
    rw [pairs_len, rngL_len] at hl
    have l1 := r1.length
    exact ⟨us, q1, by omega⟩
end
/-! ### zip -/
/-- two that are alike: tuples, or lists that no one changes -/
def zipD (S : Sto) : List D → Option (List D)
  | [.tup xs, .tup ys] => some (pairs xs ys)
  | [x, y] => if isTupD x = false ∧ isTupD y = false ∧ gdOf x = none ∧ gdOf y = none then (itemsD S x).bind fun xs => (itemsD S y).map fun ys => pairs xs ys else none
  | _ => none
def iZip (t : DA) : DI := fun env S => (t env S).bind fun p => (zipD p.2 p.1).map fun xs => ((xs, none), p.2)
def enumD (S : Sto) (x : D) : Option (List D) := if isTupD x = false ∧ gdOf x = none then (itemsD S x).map nums else none
def iEnum (t : DE) : DI := fun env S => (t env S).bind fun p => (enumD p.2 p.1).map fun xs => ((xs, none), p.2)
section
variable {X : Cx} {b : Bool} {p pos tpos : Pos} {e e2 : Expr} {t u : DE} {elts : List Expr} {kk : Nat}
theorem I.zip {a : DA} (hg : Gl X "zip") (hm : X.mg "zip" = none) (ha : AX X b [e, e2] a) (hs : starEach [e, e2] X.env = (false, eval e X.env) :: starEach [e2] X.env := by rfl) (hpl : (backTo pos (starEach [e2] X.env)).any (·.1) = false := by rfl) :
    IX X b (.Tuple elts kk tpos) (.Call (.Name "zip" p) [e, e2] [] pos) (iZip a) :=
  PI.imp (RZ.pi_zipA hg hm (PA.lens ha) hs hpl) fun σ H R' ⟨Z, α, β, env, S, items, gd, S', R, e1, q⟩ => by
    unfold iZip at e1
    obtain ⟨⟨xs, S1⟩, ex, e2⟩ := Option.bind_eq_some_iff.mp e1
    obtain ⟨its, e3, e4⟩ := Option.map_eq_some_iff.mp e2
    clear e1 e2
    cases e4
    replace e3 : zipD S1 xs = some items := e3
    refine ⟨Z, α, β, env, S, xs, S1, R, ex, fun vs H1 β1 R1 A1 r1 L => ?_⟩
    unfold zipD at e3
    split at e3
    · rename_i xs ys
      cases e3
      obtain ⟨v, w, rfl, r, r2⟩ := Paired.two r1
      obtain ⟨a, vs, rfl, rr, ⟨h0, h1, h2⟩ | ⟨h0, h1, h2⟩⟩ := r.still R1 (items := xs) rfl
      · cases h0
      · obtain ⟨c, ws, rfl, rr', ⟨k0, k1, k2⟩ | ⟨k0, k1, k2⟩⟩ := r2.still R1 (items := ys) rfl
        · cases k0
        · refine ⟨a, c, vs, ws, rfl, .inr ⟨h1, k1, q _ H1 β1 R1 A1 ?_ (itzT_ok (fun Z1 α1 β1 env1 S1 σ1 H1 R k => h2 Z1 α1 β1 env1 S1 σ1 H1 R k trivial) (fun Z1 α1 β1 env1 S1 σ1 H1 R k => k2 Z1 α1 β1 env1 S1 σ1 H1 R k trivial))⟩⟩
          have l1 := (L a vs).2 h1
          have l2 := rr.length
          rw [pairs_len]
          omega
    · rename_i x y _
      split at e3
      · rename_i hk
        obtain ⟨xs, e4, e5⟩ := Option.bind_eq_some_iff.mp e3
        obtain ⟨ys, e6, e7⟩ := Option.map_eq_some_iff.mp e5
        clear e3 e5
        subst e7
        obtain ⟨v, w, rfl, r, r2⟩ := Paired.two r1
        obtain ⟨a, vs, rfl, rr, ⟨h0, h1, h2⟩ | ⟨h0, h1, h2⟩⟩ := r.still R1 e4
        · obtain ⟨c, ws, rfl, rr', ⟨k0, k1, k2⟩ | ⟨k0, k1, k2⟩⟩ := r2.still R1 e6
          · refine ⟨a, c, vs, ws, rfl, .inl ⟨h1, k1, q _ H1 β1 R1 A1 ?_ (itz_ok (fun Z1 α1 β1 env1 S1 σ1 H1 R k => h2 Z1 α1 β1 env1 S1 σ1 H1 R k (by rw [hk.2.2.1]; trivial)) (fun Z1 α1 β1 env1 S1 σ1 H1 R k => k2 Z1 α1 β1 env1 S1 σ1 H1 R k (by rw [hk.2.2.2]; trivial)))⟩⟩
            have l1 := (L a vs).1 h1
            have l2 := rr.length
            rw [pairs_len]
            omega
          · rw [hk.2.1] at k0; cases k0
        · rw [hk.1] at h0; cases h0
      · cases e3
    · cases e3
theorem I.enum (hg : Gl X "enumerate") (hm : X.mg "enumerate" = none) (h : EX X b e t) (hs : starEach [e] X.env = [(false, eval e X.env)] := by rfl) :
    IX X b (.Tuple elts kk tpos) (.Call (.Name "enumerate" p) [e] [] pos) (iEnum t) :=
  PI.imp (pi_enum hg hm (PA.lens (A.cons h A.nil hs)) hs) fun σ H R' ⟨Z, α, β, env, S, items, gd, S', R, e1, q⟩ => by
    unfold iEnum at e1
    obtain ⟨⟨x, S1⟩, ex, e2⟩ := Option.bind_eq_some_iff.mp e1
    obtain ⟨its, e3, e4⟩ := Option.map_eq_some_iff.mp e2
    clear e1 e2
    cases e4
    replace e3 : enumD S1 x = some items := e3
    refine ⟨Z, α, β, env, S, [x], S1, R, ?_, fun vs H1 β1 R1 A1 r1 L => ?_⟩
    · show (t env S).bind _ = _
      rw [ex]
      rfl
    unfold enumD at e3
    split at e3
    · rename_i hk
      obtain ⟨xs, e4, e5⟩ := Option.map_eq_some_iff.mp e3
      subst e5
      obtain ⟨v, rfl, r⟩ := Paired.one r1
      obtain ⟨a, vs, rfl, rr, ⟨h0, h1, h2⟩ | ⟨h0, h1, h2⟩⟩ := r.still R1 e4
      · refine ⟨a, vs, rfl, h1, q _ H1 β1 R1 A1 ?_ (ite_ok (fun Z1 α1 β1 env1 S1 σ1 H1 R k => h2 Z1 α1 β1 env1 S1 σ1 H1 R k (by rw [hk.2]; trivial)))⟩
        have l1 := (L a vs).1 h1
        have l2 := rr.length
        unfold nums
        rw [pairs_len, rngL_len]
        omega
      · rw [hk.1] at h0; cases h0
    · cases e3
end
/-! ### a < b < c -/
/-- two comparisons in a row: the middle once -/
def dChain (f f' : Sto → D → D → Option D) (ta tb tc : DE) : DE := fun env S => (ta env S).bind fun p => (tb env p.2).bind fun q => (f q.2 p.1 q.1).bind fun z => (blOf z).bind fun k =>
  if k = true then (tc env q.2).bind fun w => (f' w.2 q.1 w.1).map fun z => (z, w.2) else some (.bl false, q.2)
section
variable {X : Cx} {b : Bool} {pos : Pos} {ea eb ec : Expr} {ta tb tc : DE}
theorem rd_chain {r r' : R2} {f f' : Sto → D → D → Option D} (br : Br2 X.K (mX X) r f) (br' : Br2 X.K (mX X) r' f') (σ : L2.St) (H : Hp) (Q : VK) (h : rdX X.K (mX X) b (dChain f f' ta tb tc) σ H Q) :
    tChain r r' (rdX X.K (mX X) true ta) (rdX X.K (mX X) true tb) (rdX X.K (mX X) true tc) σ H Q := by
  obtain ⟨Z, α, β, env, S, d, S', R, e1, q⟩ := h
  unfold dChain at e1
  obtain ⟨⟨x, S1⟩, ex, e1⟩ := Option.bind_eq_some_iff.mp e1
  obtain ⟨⟨y, S2⟩, ey, e1⟩ := Option.bind_eq_some_iff.mp e1
  obtain ⟨z, ez, e2⟩ := Option.bind_eq_some_iff.mp e1
  obtain ⟨k, ek, e3⟩ := Option.bind_eq_some_iff.mp e2
  clear e1 e2
  replace e3 : (if k = true then (tc env S2).bind fun w => (f' w.2 y w.1).map fun z => (z, w.2) else some (.bl false, S2)) = some (d, S') := e3
  refine ⟨Z, α, β, env, S, x, S1, R, ex, fun v H1 β1 R1 A1 r1 => ?_⟩
  refine ⟨Z, α, β1, env, S1, y, S2, R1, ey, fun w H2 β2 R2 A2 r2 => ?_⟩
  refine br Z α β2 env S2 σ H2 R2 x y v w z (r1.adv R1 A2) r2 ez _ fun z' H3 R3 A3 r3 => ?_
  cases z <;> cases ek
  cases r3
  refine ⟨k, rfl, ?_⟩
  cases k with
  | false =>
    rw [if_neg (by decide)] at e3 ⊢
    cases e3
    exact q _ H3 β2 R3 ((A1.trb A2).trb A3) (.inl (.bl false))
  | true =>
    rw [if_pos rfl] at e3 ⊢
    obtain ⟨⟨u, S3⟩, eu, e4⟩ := Option.bind_eq_some_iff.mp e3
    obtain ⟨z, ez', e5⟩ := Option.map_eq_some_iff.mp e4
    cases e5
    refine ⟨Z, α, β2, env, S2, u, S3, R3, eu, fun v4 H4 β4 R4 A4 r4 => ?_⟩
    exact br' Z α β4 env S3 σ H4 R4 y u w v4 d ((r2.adv R2 A3).adv R3 A4) r4 ez' Q fun z H5 R5 A5 r5 => q z H5 β4 R5 ((((A1.trb A2).trb A3).trb A4).trb A5) (.inl r5)
theorem E.chain {op op' : CmpOp} {r r' : R2} {f f' : Sto → D → D → Option D} (ho : OpR X (compareOp op) r) (br : Br2 X.K (mX X) r f) (ho' : OpR X (compareOp op') r') (br' : Br2 X.K (mX X) r' f') (ha : EX X true ea ta) (hb : EX X true eb tb) (hc : EX X true ec tc)
    (hm : lastMarks [op, op'] [eb, ec] = false := by with_unfolding_all rfl) : EX X b (.Compare ea [op, op'] [eb, ec] pos) (dChain f f' ta tb tc) :=
  PE.imp (pe_chain ho ho' ha hb hc hm) fun σ H Q h => rd_chain br br' σ H Q h
theorem T.chain {op op' : CmpOp} {r r' : R2} {f f' : Sto → D → D → Option D} (ho : OpR X (compareOp op) r) (br : Br2 X.K (mX X) r f) (ho' : OpR X (compareOp op') r') (br' : Br2 X.K (mX X) r' f') (ha : EX X true ea ta) (hb : EX X true eb tb) (hc : EX X true ec tc)
    (hm : lastMarks [op, op'] [eb, ec] = false := by with_unfolding_all rfl) : TX X (.Compare ea [op, op'] [eb, ec] pos) (dBl (dChain f f' ta tb tc)) :=
  PT.imp (pt_chain ho ho' ha hb hc hm) fun σ H Q ⟨Z, α, β, env, S, d, S', R, e1, q⟩ => by
    unfold dBl at e1
    obtain ⟨⟨x, S1⟩, ex, e1⟩ := Option.bind_eq_some_iff.mp e1
    obtain ⟨k, ek, e1⟩ := Option.map_eq_some_iff.mp e1
    cases e1
    refine rd_chain (b := false) br br' σ H _ ⟨Z, α, β, env, S, x, S1, R, ex, fun v H1 β1 R1 A1 r1 => ⟨_, ?_, q H1 β1 R1 A1⟩⟩
    cases x <;> cases ek
    exact r1.bl
end
end Rf
end
section
set_option maxHeartbeats 200000
/-! Rf, part C: functions that a module brings; calls of a function that a name holds. -/
namespace Rf
open PySem PySem.Spec PyProof.Rows L2

/-! ### what the head tells of names for built-in functions -/
def bfOk (K : PySem.W.Frag) (x : PySem.Str) (id : String) : Bool := decide (PySem.W.nsIn K mainGlobals x = some (some (.builtin id)))
/-- a name, the built-in function's id -/
abbrev Bf : Type := PySem.Str × String
abbrev AlF : Type := He.AlD × Bool
def obsF (fa : List He.Fa) (fn : List He.DefD) (bf : List Bf) (K : PySem.W.Frag) : AlF := (He.obsD fa fn K, bf.all fun p => bfOk K p.1 p.2)
def obsFG (n : Nat) (fa : List He.Fa) (fn : List He.DefD) (bf : List Bf) (g : Addr → Option Obj) : AlF := obsF fa fn bf (He.frG g (He.asD g n))
def valF (fn : List He.DefD) : AlF := (He.valD fn, true)
def SaysF (fa : List He.Fa) (fn : List He.DefD) (bf : List Bf) (K : PySem.W.Frag) : Prop := He.SaysD fa fn K ∧ (bf.all fun p => bfOk K p.1 p.2) = true
theorem saysF_of {fa : List He.Fa} {fn : List He.DefD} {bf : List Bf} {K : PySem.W.Frag} (e : obsF fa fn bf K = valF fn) : SaysF fa fn bf K :=
  ⟨congrArg (fun z : AlF => z.1) e, congrArg (fun z : AlF => z.2) e⟩
def hookF (n : Nat) (fa : List He.Fa) (fn : List He.DefD) (bf : List Bf) : PySem.W.Hook where
  α := AlF
  obs := fun s => obsFG n fa fn bf s.heap.get?
  val := fun _ => valF fn
  says := fun _ h => ∃ K : PySem.W.Frag, K.In h ∧ SaysF fa fn bf K
  of := fun _ _ e => ⟨_, He.frG_in, saysF_of e⟩
  keeps := fun _ _ _ ⟨K, hK, c⟩ k => ⟨K, PySem.W.Frag.In.keeps hK k, c⟩
theorem obsFG_eq {n : Nat} {fa : List He.Fa} {fn : List He.DefD} {bf : List Bf} {g : Addr → Option Obj} {s : Shared} (h : ∀ a, g a = s.heap.get? a) : obsFG n fa fn bf g = (hookF n fa fn bf).obs s := by
  have e : g = s.heap.get? := funext h
  rw [e] <;> rfl
structure TxF (fa : List He.Fa) (fn : List He.DefD) (bf : List Bf) (K : PySem.W.Frag) (h : Heap) (mg : PySem.Str → Option Value) : Prop where
  t : Txt fa fn K h mg
  b : (bf.all fun p => bfOk K p.1 p.2) = true
section
variable {K : PySem.W.Frag} {mg : PySem.Str → Option Value} {h : Heap} {fa : List He.Fa} {fn : List He.DefD} {bf : List Bf}
theorem TxF.free (T : TxF fa fn bf K h mg) (i : Nat) {x : PySem.Str} (e : fa[i]? = some (.free x) := by rfl) : mg x = none := T.t.free i e
theorem TxF.glo (T : TxF fa fn bf K h mg) (i : Nat) {x : PySem.Str} (e : fa[i]? = some (.glo x) := by rfl) : mg x = some (.ref (He.ga K x)) := T.t.glo i e
theorem TxF.bfn (T : TxF fa fn bf K h mg) (i : Nat) {x : PySem.Str} {id : String} (e : bf[i]? = some (x, id) := by rfl) : mg x = some (.builtin id) := by
  have := List.all_eq_true.mp T.b (x, id) (List.mem_of_getElem? e)
  exact PySem.W.mg_of T.t.kin T.t.ns (of_decide_eq_true this)
end
section
variable {X : Cx} {b : Bool} {p pos : Pos} {e : Expr} {es : List Expr} {u : DA} {r : List V → Hp → VK → Prop} {f : Sto → List D → Option D} {x : PySem.Str} {φ : Fn} {k n i : Nat}
theorem E.bf {id : String} (hc : CallR X (.builtin id) r) (br : BrA X.K (mX X) r f) (hg : Gl X x) (hm : X.mg x = some (.builtin id)) (ha : AX X true (e :: es) u) (hdb : (x == ("__debug__" : PySem.Str)) = false := by decide)
    (he : starEach (e :: es) X.env = (false, eval e X.env) :: starEach es X.env := by rfl) (hpl : (backTo pos (starEach es X.env)).any (·.1) = false := by rfl) : EX X b (.Call (.Name x p) (e :: es) [] pos) (dOpA f u) :=
  PE.imp (pe_callBfun hc hg hm ha hdb he hpl) fun σ H Q h => rd_cb br σ H Q h
/-! ### lcm -/
noncomputable def lcmD (_ : Sto) : List D → Option D
  | [.int i, .int j] => chk (i.natAbs < 2 ^ 64 ∧ j.natAbs < 2 ^ 64) (some (.int (Nat.lcm i.natAbs j.natAbs : Nat)))
  | _ => none
def rLcm : List V → Hp → VK → Prop := fun vs H Q => ∃ a b : Int, vs = [.int a, .int b] ∧ (a.natAbs < 2 ^ 64 ∧ b.natAbs < 2 ^ 64) ∧ Q (.int ((Nat.lcm a.natAbs b.natAbs : Nat) : Int)) H
theorem cr_lcm : CallR X (.builtin "math.lcm") rLcm := by
  intro pins s σ H vs us Q I r h
  obtain ⟨a, b, rfl, ⟨h1, h2⟩, q⟩ := h
  obtain ⟨t, u, rfl⟩ := Vals.int2 r
  exact PySem.W.mc_lcm h1 h2 fun _ => ⟨.int _, H, I.tok _, ⟨_, rfl⟩, q⟩
theorem br_lcm {K : PySem.W.Frag} {mg : Mg} : BrA K mg rLcm lcmD := fun Z α β env S σ H R xs vs d rx e Q q => by
  unfold lcmD at e
  split at e
  · obtain ⟨hc, e⟩ := chk_some e
    cases e
    obtain ⟨v, w, rfl, r, r2⟩ := Paired.two rx
    cases r.int
    cases r2.int
    exact ⟨_, _, rfl, hc, q _ H R .refl (.int _)⟩
  · cases e
/-! ### a name that holds a function -/
abbrev FnTab := String → Option Fn
def dCallV (T : FnTab) (i : Nat) (u : DA) : DE := fun env S => match env[i]? with
  | some (.val (.fn f)) => (T f).bind fun φ => (u env S).bind fun p => φ p.1 p.2
  | _ => none
theorem PE.ex {X : Cx} {e : Expr} {ι : Type} {t : ι → TE} (h : ∀ i, PE X e (t i)) : PE X e (fun σ H Q => ∃ i, t i σ H Q) := ⟨fun p s σ H Q I ⟨i, q⟩ => (h i).run p s σ H Q I q⟩
theorem E.callv (T : FnTab) (i : Nat) (hT : ∀ f φ, T f = some φ → ∃ n, FnAt X.prog X.w X.K X.mg X.base k (PySem.Str.ofString f) n φ) (hr : Room k X.A) (ha : AX X false (e :: es) u)
    (hN : X.N[i]? = some x := by rfl) (hv : Vis X.env.scope x := by first | exact Or.inl rfl | exact Or.inr (Or.inl rfl) | exact Or.inr (Or.inr rfl)) (hdb : (x == ("__debug__" : PySem.Str)) = false := by decide) (hcd : (x == ("__classdict__" : PySem.Str)) = false := by decide)
    (he : starEach (e :: es) X.env = (false, eval e X.env) :: starEach es X.env := by rfl) (hpl : (backTo pos (starEach es X.env)).any (·.1) = false := by rfl) : EX X b (.Call (.Name x p) (e :: es) [] pos) (dCallV T i u) := by
  have each : ∀ q : { q : Addr × Fn // ∃ f : String, T f = some q.2 ∧ X.mg (PySem.Str.ofString f) = some (.ref q.1) }, PE X (.Call (.Name x p) (e :: es) [] pos) (tCallL i q.1.1 (spF X.K (mX X) q.1.2) [] E0 (rdA X.K (mX X) false u)) := by
    rintro ⟨⟨a, φ⟩, f, h1, h2⟩
    obtain ⟨n, a', fd, ps, g1, g2, g3, g4, F⟩ := hT f φ h1
    have g5 : X.mg (PySem.Str.ofString f) = some (.ref a') := g1
    rw [g5] at h2
    cases h2
    exact pe_callL F hr hN hv g2 g3 .nil pass0 ha hdb hcd he hpl
  refine PE.imp (PE.ex each) fun σ H Q ⟨Z, α, β, env, S, d, S', R, e1, q⟩ => ?_
  unfold dCallV at e1
  split at e1
  · rename_i f hf
    obtain ⟨φ, h1, e2⟩ := Option.bind_eq_some_iff.mp e1
    obtain ⟨v, h2, h3⟩ := R.slot i _ hf
    cases h3
    rename_i a h3
    refine ⟨⟨(a, φ), f, h1, h3⟩, h2, ?_⟩
    exact rd_call (φ := φ) (u := u) σ H Q ⟨Z, α, β, env, S, d, S', R, e2, q⟩
  · cases e1
end
end Rf
end
section
set_option maxHeartbeats 200000
/-! Rf, part D: lcm of three; ranges with a step. -/
namespace Rf
open PySem PySem.Spec PySem.W PyProof.Rows L2

theorem run_lcm3 (a : Int) (t : Tok) (b : Int) (u : Tok) (c : Int) (v : Tok) (hc0 : ¬(max 1 a.natAbs).log2 / 30 + 1 > 450) (hc1 : ¬(max a.natAbs b.natAbs).log2 / 30 + 1 > 450) (hc2 : ¬(max (Nat.lcm a.natAbs b.natAbs) c.natAbs).log2 / 30 + 1 > 450) (hsz : (((((Nat.lcm 1 a.natAbs).lcm b.natAbs).lcm c.natAbs : Nat) : Int)).natAbs.log2 < bitsLine) :
    Gives (Builtin.«math.lcm» ⟨[.int a t, .int b u, .int c v], []⟩) (.int ((((Nat.lcm 1 a.natAbs).lcm b.natAbs).lcm c.natAbs : Nat) : Int)) :=
  .of_wp fun M A E s Q h => by
    obtain ⟨hp, g, d, tk, os⟩ := s
    wp_walk
    all_goals (try (refine wpAny_ite_false (decide_eq_false (Nat.not_le.mpr hsz)) ?_; wp_walk))
    exact ⟨_, rfl, h⟩
theorem args_lcm3 (a b c : Value) : argsOk "math.lcm" ⟨[a, b, c], []⟩ := by unfold argsOk; kernel_rfl
theorem log_le {n : Nat} (h : n < 2 ^ 64) : n.log2 ≤ 63 := by
  by_cases h0 : n = 0
  · subst h0
    rw [Nat.log2_zero]
    exact Nat.zero_le _
  · exact Nat.le_of_lt_succ ((Nat.log2_lt h0).mpr h)
noncomputable def lcmD3 (_ : Sto) : List D → Option D
  | [.int i, .int j, .int k] => chk (i.natAbs < 2 ^ 20 ∧ j.natAbs < 2 ^ 20 ∧ k.natAbs < 2 ^ 20) (some (.int (Nat.lcm (Nat.lcm i.natAbs j.natAbs) k.natAbs : Nat)))
  | _ => none
def rLcm3 : List V → Hp → VK → Prop := fun vs H Q => ∃ a b c : Int, vs = [.int a, .int b, .int c] ∧ (a.natAbs < 2 ^ 20 ∧ b.natAbs < 2 ^ 20 ∧ c.natAbs < 2 ^ 20) ∧ Q (.int ((Nat.lcm (Nat.lcm a.natAbs b.natAbs) c.natAbs : Nat) : Int)) H
theorem lcm_mul (m n : Nat) : m.lcm n ≤ m * n := by
  unfold Nat.lcm
  exact Nat.div_le_self _ _
section
variable {X : Cx}
theorem cr_lcm3 : CallR X (.builtin "math.lcm") rLcm3 := by
  intro pins s σ H vs us Q I r h
  obtain ⟨a, b, c, rfl, ⟨h1, h2, h3⟩, q⟩ := h
  cases r with
  | cons r rr =>
    cases rr with
    | cons r2 rr =>
      cases rr with
      | cons r3 rr =>
        cases rr
        obtain ⟨t, rfl⟩ := r
        obtain ⟨u, rfl⟩ := r2
        obtain ⟨v, rfl⟩ := r3
        have l1 : a.natAbs.lcm b.natAbs < 2 ^ 40 := Nat.lt_of_le_of_lt (lcm_mul _ _) (by
          have : a.natAbs * b.natAbs ≤ 2 ^ 20 * b.natAbs := Nat.mul_le_mul_right _ (by omega)
          have : 2 ^ 20 * b.natAbs < 2 ^ 20 * 2 ^ 20 := Nat.mul_lt_mul_of_pos_left h2 (by decide)
          omega)
        have l2 : (a.natAbs.lcm b.natAbs).lcm c.natAbs < 2 ^ 64 := Nat.lt_of_le_of_lt (lcm_mul _ _) (by
          have : a.natAbs.lcm b.natAbs * c.natAbs ≤ 2 ^ 40 * c.natAbs := Nat.mul_le_mul_right _ (by omega)
          have : 2 ^ 40 * c.natAbs < 2 ^ 40 * 2 ^ 20 := Nat.mul_lt_mul_of_pos_left h3 (by decide)
          omega)
        have e1 : Nat.lcm 1 a.natAbs = a.natAbs := by simp [Nat.lcm]
        have g1 : (max 1 a.natAbs).log2 ≤ 63 := log_le (by omega)
        have g2 : (max a.natAbs b.natAbs).log2 ≤ 63 := log_le (by omega)
        have g3 : (max (a.natAbs.lcm b.natAbs) c.natAbs).log2 ≤ 63 := log_le (by omega)
        have g4 : ((a.natAbs.lcm b.natAbs).lcm c.natAbs).log2 ≤ 63 := log_le l2
        have g := run_lcm3 a t b u c v (by omega) (by omega) (by omega) (by
          rw [e1, Int.natAbs_natCast]
          exact Nat.lt_of_le_of_lt g4 (by decide))
        rw [e1] at g
        exact call_function_meets PySem.W.MGF.kind_lcm PySem.W.MGF.plain_lcm PySem.W.MGF.entry_lcm (args_lcm3 _ _ _) g.meets ⟨.int _, H, I.tok _, ⟨_, rfl⟩, q⟩
theorem br_lcm3 {K : PySem.W.Frag} {mg : Mg} : BrA K mg rLcm3 lcmD3 := fun Z α β env S σ H R xs vs d rx e Q q => by
  unfold lcmD3 at e
  split at e
  · obtain ⟨hc, e⟩ := chk_some e
    cases e
    obtain ⟨v, w, z, rfl, r, r2, r3⟩ := Paired.three rx
    cases r.int
    cases r2.int
    cases r3.int
    exact ⟨_, _, _, rfl, hc, q _ H R .refl (.int _)⟩
  · cases e
end
end Rf
end
section
set_option maxHeartbeats 200000
/-! Rf, part E: divmod. -/
namespace Rf
open PySem PySem.Spec PySem.W PyProof.Rows L2

noncomputable def divmodD (_ : Sto) : List D → Option D
  | [.int i, .int j] => chk (0 < j ∧ j < 1073741824) (some (.par [.int (i / j), .int (i % j)]))
  | _ => none
def rDivmod : List V → Hp → VK → Prop := fun vs H Q => ∃ a b : Int, vs = [.int a, .int b] ∧ (0 < b ∧ b < 1073741824) ∧ ∀ p, H p = none → Q (.ref p) (upd H p (.tup [.int (a / b), .int (a % b)]))
section
variable {X : Cx}
theorem cr_divmod : CallR X (.builtin "divmod") rDivmod := by
  intro pins s σ H vs us Q I r h
  obtain ⟨a, b, rfl, ⟨h1, h2⟩, q⟩ := h
  obtain ⟨t, u, rfl⟩ := Vals.int2 r
  have e1 : a.fdiv b = a / b := Int.fdiv_eq_ediv_of_nonneg a (by omega)
  have e2 : a.fmod b = a % b := Int.fmod_eq_emod_of_nonneg a (by omega)
  refine divmod_int (by omega) ?_ (.inl (PyProof.noPylong_small (by omega)))
  rw [e1, e2]
  refine ⟨.ref s.heap.objs.size, _, I.laid (t' := s.toks + 1 + 1) (fun b o e => Heap.get?_push_of_some _ e) (Nat.le_refl _) (show ObjOk X.prog X.w _ _ _ (.tup [.int (a / b), .int (a % b)]) from ⟨by show 2 ≤ sizeLine; decide, [.int (a / b) s.toks, .int (a % b) (s.toks + 1)], .cons ⟨_, rfl⟩ (.cons ⟨_, rfl⟩ .nil), IsTup.new _ _⟩), rfl, q _ (I.hok.fresh (Nat.le_refl _))⟩
theorem br_divmod {K : PySem.W.Frag} {mg : Mg} : BrA K mg rDivmod divmodD := fun Z α β env S σ H R xs vs d rx e Q q => by
  unfold divmodD at e
  split at e
  · obtain ⟨hc, e⟩ := chk_some e
    cases e
    obtain ⟨v, w, rfl, r, r2⟩ := Paired.two rx
    cases r.int
    cases r2.int
    exact ⟨_, _, rfl, hc, fun p n => q _ _ (R.nw n) (Adv.upd n) (R.parN (.cons (.int _) (.cons (.int _) .nil)) n)⟩
  · cases e
end
end Rf
end
section
set_option maxHeartbeats 200000
/-! Rf, part F: constants of the module; a text sign by sign; further checks of the head. -/
namespace Rf
open PySem PySem.Spec PyProof.Rows L2

/-! ### further checks of what the module holds -/
abbrev Ck : Type := PySem.W.Frag → Bool
abbrev AlG : Type := AlF × Bool
def obsG (fa : List He.Fa) (fn : List He.DefD) (bf : List Bf) (ck : List Ck) (K : PySem.W.Frag) : AlG := (obsF fa fn bf K, ck.all fun c => c K)
def obsGG (n : Nat) (fa : List He.Fa) (fn : List He.DefD) (bf : List Bf) (ck : List Ck) (g : Addr → Option Obj) : AlG := obsG fa fn bf ck (He.frG g (He.asD g n))
def valG (fn : List He.DefD) : AlG := (valF fn, true)
def SaysG (fa : List He.Fa) (fn : List He.DefD) (bf : List Bf) (ck : List Ck) (K : PySem.W.Frag) : Prop := SaysF fa fn bf K ∧ (ck.all fun c => c K) = true
theorem saysG_of {fa : List He.Fa} {fn : List He.DefD} {bf : List Bf} {ck : List Ck} {K : PySem.W.Frag} (e : obsG fa fn bf ck K = valG fn) : SaysG fa fn bf ck K :=
  ⟨saysF_of (congrArg (fun z : AlG => z.1) e), congrArg (fun z : AlG => z.2) e⟩
def hookG (n : Nat) (fa : List He.Fa) (fn : List He.DefD) (bf : List Bf) (ck : List Ck) : PySem.W.Hook where
  α := AlG
  obs := fun s => obsGG n fa fn bf ck s.heap.get?
  val := fun _ => valG fn
  says := fun _ h => ∃ K : PySem.W.Frag, K.In h ∧ SaysG fa fn bf ck K
  of := fun _ _ e => ⟨_, He.frG_in, saysG_of e⟩
  keeps := fun _ _ _ ⟨K, hK, c⟩ k => ⟨K, PySem.W.Frag.In.keeps hK k, c⟩
theorem obsGG_eq {n : Nat} {fa : List He.Fa} {fn : List He.DefD} {bf : List Bf} {ck : List Ck} {g : Addr → Option Obj} {s : Shared} (h : ∀ a, g a = s.heap.get? a) : obsGG n fa fn bf ck g = (hookG n fa fn bf ck).obs s := by
  have e : g = s.heap.get? := funext h
  rw [e] <;> rfl
structure TxG (fa : List He.Fa) (fn : List He.DefD) (bf : List Bf) (ck : List Ck) (K : PySem.W.Frag) (h : Heap) (mg : PySem.Str → Option Value) : Prop where
  f : TxF fa fn bf K h mg
  c : (ck.all fun c => c K) = true
section
variable {K : PySem.W.Frag} {M : Mg} {mg : PySem.Str → Option Value} {h : Heap} {fa : List He.Fa} {fn : List He.DefD} {bf : List Bf} {cs : List Ck}
theorem TxG.t (T : TxG fa fn bf cs K h mg) : Txt fa fn K h mg := T.f.t
theorem TxG.free (T : TxG fa fn bf cs K h mg) (i : Nat) {x : PySem.Str} (e : fa[i]? = some (.free x) := by rfl) : mg x = none := T.f.free i e
theorem TxG.glo (T : TxG fa fn bf cs K h mg) (i : Nat) {x : PySem.Str} (e : fa[i]? = some (.glo x) := by rfl) : mg x = some (.ref (He.ga K x)) := T.f.glo i e
theorem TxG.bfn (T : TxG fa fn bf cs K h mg) (i : Nat) {x : PySem.Str} {id : String} (e : bf[i]? = some (x, id) := by rfl) : mg x = some (.builtin id) := T.f.bfn i e
theorem TxG.ck (T : TxG fa fn bf cs K h mg) (i : Nat) {c : Ck} (e : cs[i]? = some c := by rfl) : c K = true := List.all_eq_true.mp T.c c (List.mem_of_getElem? e)
theorem TxG.int (T : TxG fa fn bf cs K h mg) (i : Nat) {x : PySem.Str} {n : Int} (e : fa[i]? = some (.int x n) := by rfl) : ∃ t, mg x = some (.int n t) := He.int_ok T.t.kin T.t.ns (T.t.says.fact i e)
theorem TxG.str (T : TxG fa fn bf cs K h mg) (i : Nat) {x z : PySem.Str} (e : fa[i]? = some (.str x z) := by rfl) : ∃ t, mg x = some (.str z t) := He.str_ok T.t.kin T.t.ns (T.t.says.fact i e)
/-! ### constants -/
def valIs : D → Value → Bool
  | .int i, .int j _ => decide (j = i)
  | .str x, .str y _ => decide (y = x)
  | _, _ => false
def valsAre : List D → List Value → Bool
  | [], [] => true
  | d :: ds, v :: vs => valIs d v && valsAre ds vs
  | _, _ => false
def vOf : D → V
  | .int i => .int i
  | .str x => .str x
  | _ => .non
theorem valIs_ok {d : D} {v : Value} (h : valIs d v = true) : RelV (vOf d) v ∧ ∀ β O H, Rep K M β O H d (vOf d) := by
  unfold valIs at h
  split at h
  · have := of_decide_eq_true h
    subst this
    exact ⟨⟨_, rfl⟩, fun _ _ _ => .int _⟩
  · have := of_decide_eq_true h
    subst this
    exact ⟨⟨_, rfl⟩, fun _ _ _ => .str _⟩
  · cases h
theorem valsAre_ok : ∀ {ds : List D} {vs : List Value}, valsAre ds vs = true → Vals (ds.map vOf) vs ∧ ∀ β O H, Reps K M β O H ds (ds.map vOf)
  | [], [], _ => ⟨.nil, fun _ _ _ => .nil⟩
  | d :: ds, v :: vs, h => by
    obtain ⟨h1, h2⟩ := Bool.and_eq_true_iff.mp h
    obtain ⟨a1, a2⟩ := valIs_ok (K := K) (M := M) h1
    obtain ⟨b1, b2⟩ := valsAre_ok (ds := ds) (vs := vs) h2
    exact ⟨.cons a1 b1, fun β O H => .cons (a2 β O H) (b2 β O H)⟩
  | [], _ :: _, h => by cases h
  | _ :: _, [], h => by cases h
/-- a name for a written tuple -/
def ckTup (x : PySem.Str) (ds : List D) : Ck := fun K => match PySem.W.nsIn K mainGlobals x with
  | some (some (.ref a)) => (match K.lookup a with
    | some ⟨c, none, .seq its _, _⟩ => decide (c = .type "tuple") && (decide (its.size ≤ 1000) && valsAre ds its.toList)
    | _ => false)
  | _ => false
theorem TxG.tup (T : TxG fa fn bf cs K h mg) (i : Nat) {x : PySem.Str} {ds : List D} (e : cs[i]? = some (ckTup x ds) := by rfl) : ∃ a, mg x = some (.ref a) ∧ ∀ (M : Mg) β O H, Rep K M β O H (.tup ds) (.ref a) := by
  have c := T.ck i e
  unfold ckTup at c
  split at c
  · rename_i a ha
    split at c
    · rename_i cl its n osl hl
      obtain ⟨c1, c2⟩ := Bool.and_eq_true_iff.mp c
      obtain ⟨c2, c3⟩ := Bool.and_eq_true_iff.mp c2
      have c1 := of_decide_eq_true c1
      have c2 := of_decide_eq_true c2
      refine ⟨a, PySem.W.mg_of T.t.kin T.t.ns ha, fun M β O H => ?_⟩
      obtain ⟨v1, v2⟩ := valsAre_ok (K := K) (M := M) c3
      exact .tup (.inr ⟨_, its, n, hl, c1, rfl, rfl, Nat.le_trans c2 (by rw [sizeLine_eq]; decide), v1⟩) (v2 β O H)
    · cases c
  · cases c
end
section
variable {X : Cx} {b : Bool} {p pos tpos : Pos} {tg e e2 e3 ea eb : Expr} {t u ta tb : DE} {x : PySem.Str}
theorem E.gint {i : Int} (hg : Gl X x) (hm : ∃ t, X.mg x = some (.int i t)) (hd : (x == ("__debug__" : PySem.Str)) = false := by decide) : EX X b (.Name x pos) (dC (.int i)) := by
  obtain ⟨t, hm⟩ := hm
  exact E.con (v := .int i) (pe_glob hg hm ⟨_, rfl⟩ hd) fun _ _ _ => .int i
theorem E.gstr {z : PySem.Str} (hg : Gl X x) (hm : ∃ t, X.mg x = some (.str z t)) (hd : (x == ("__debug__" : PySem.Str)) = false := by decide) : EX X b (.Name x pos) (dC (.str z)) := by
  obtain ⟨t, hm⟩ := hm
  exact E.con (v := .str z) (pe_glob hg hm ⟨_, rfl⟩ hd) fun _ _ _ => .str z
theorem E.gtup {ds : List D} (hg : Gl X x) (hm : ∃ a, X.mg x = some (.ref a) ∧ ∀ (M : Mg) β O H, Rep X.K M β O H (.tup ds) (.ref a)) (hd : (x == ("__debug__" : PySem.Str)) = false := by decide) : EX X b (.Name x pos) (dC (.tup ds)) := by
  obtain ⟨a, hm, hr⟩ := hm
  exact E.con (v := .ref a) (pe_glob hg hm rfl hd) (hr _)
/-! ### a text sign by sign -/
def signs (x : PySem.Str) : List D := x.cps.toList.map fun c => .str ⟨#[c]⟩
def iStrs (t : DE) : DI := fun env S => (t env S).bind fun p => match p.1 with
  | .str x => if x.cps.size ≤ sizeLine then some ((signs x, none), p.2) else none
  | _ => none
theorem its_ok {K : PySem.W.Frag} {mg : Mg} {Z : Addr → Prop} {α : Nat → Option Addr} {β : List Addr} {H : Hp} {x : PySem.Str} : ItOk K mg b Z α β H (Its x) (signs x) none where
  go := fun i d Z1 α1 β1 env1 S1 σ1 H1 R1 k g e => by
    unfold signs at e
    rw [List.getElem?_map] at e
    obtain ⟨c, e1, rfl⟩ := Option.map_eq_some_iff.mp e
    have e2 : x.cps[i]? = some c := by rw [← e1]; simp
    refine ⟨(Array.getElem?_eq_some_iff.mp e2).1, fun y H2 hy => ?_⟩
    obtain ⟨rfl, c', e3, rfl⟩ := hy
    rw [e2] at e3
    cases e3
    exact ⟨fun _ _ e => e, R1, .refl, .str _⟩
  stop := fun i Z1 α1 β1 env1 S1 σ1 H1 R1 k g hl => by
    show x.cps.size ≤ i
    unfold signs at hl
    simpa using hl
theorem I.strs (h : EX X b e t) : IX X b tg e (iStrs t) :=
  PI.imp (pi_str h) fun σ H R' ⟨Z, α, β, env, S, items, gd, S', R, e1, q⟩ => by
    unfold iStrs at e1
    obtain ⟨⟨y, S1⟩, ey, e1⟩ := Option.bind_eq_some_iff.mp e1
    simp only at e1
    split at e1
    · rename_i x
      split at e1
      · rename_i hz
        cases e1
        refine ⟨Z, α, β, env, S, _, _, R, ey, fun v H1 β1 R1 A1 r1 => ⟨x, ?_, q _ H1 β1 R1 A1 (by unfold signs; simpa using hz) its_ok⟩⟩
        rcases r1 with r | ⟨_, _, _, c, _, _, _, h3, h4, _⟩
        · cases r; rfl
        · cases h3 <;> cases h4
      · cases e1
    · cases e1
/-! ### range with a step of -1 -/
def dwnL (lo : Int) (n : Nat) : List D := (List.range n).map fun i : Nat => .int (lo + (i : Int) * (-1))
noncomputable def rgC : List D → Option (List D)
  | [.int i, .int j, .int c] => if c = -1 then chk (-(2 ^ 62) ≤ i ∧ i < 2 ^ 62 ∧ -(2 ^ 62) ≤ j ∧ j < 2 ^ 62 ∧ (i - j).toNat ≤ sizeLine) (some (dwnL i (i - j).toNat)) else none
  | _ => none
noncomputable def iRng3 (t : DA) : DI := fun env S => (t env S).bind fun p => (rgC p.1).map fun xs => ((xs, none), p.2)
theorem dwnL_len (lo : Int) (n : Nat) : (dwnL lo n).length = n := by unfold dwnL; simp
theorem itd_ok {K : PySem.W.Frag} {mg : Mg} {Z : Addr → Prop} {α : Nat → Option Addr} {β : List Addr} {H : Hp} {lo : Int} {n : Nat} : ItOk K mg b Z α β H (Itc lo (-1) n) (dwnL lo n) none where
  go := fun i d Z1 α1 β1 env1 S1 σ1 H1 R1 k g e => by
    unfold dwnL at e
    rw [List.getElem?_map] at e
    obtain ⟨j, e1, rfl⟩ := Option.map_eq_some_iff.mp e
    obtain ⟨e2, e3⟩ := List.getElem?_eq_some_iff.mp e1
    rw [List.getElem_range] at e3
    subst e3
    refine ⟨show i < n by simpa using e2, fun y H2 hy => ?_⟩
    obtain ⟨rfl, rfl⟩ := hy
    exact ⟨fun _ _ e => e, R1, .refl, .int _⟩
  stop := fun i Z1 α1 β1 env1 S1 σ1 H1 R1 k g hl => by rw [dwnL_len] at hl; exact hl
theorem I.rng3 {a : DA} (hg : Gl X "range") (hm : X.mg "range" = none) (ha : AX X true [e, e2, e3] a) (hs : starEach [e, e2, e3] X.env = (false, eval e X.env) :: starEach [e2, e3] X.env := by rfl) (hpl : (backTo pos (starEach [e2, e3] X.env)).any (·.1) = false := by rfl) : IX X b tg (.Call (.Name "range" p) [e, e2, e3] [] pos) (iRng3 a) :=
  PI.imp (pi_range3 hg hm ha hs hpl) fun σ H R' ⟨Z, α, β, env, S, items, gd, S', R, e1, q⟩ => by
    unfold iRng3 at e1
    obtain ⟨⟨xs, S1⟩, ex, e2⟩ := Option.bind_eq_some_iff.mp e1
    obtain ⟨its, e3, e4⟩ := Option.map_eq_some_iff.mp e2
    clear e1 e2
    cases e4
    replace e3 : rgC xs = some items := e3
    revert e3
    unfold rgC
    intro e1
    split at e1
    · rename_i i j c
      split at e1
      · rename_i hc
        subst hc
        obtain ⟨hj, e1⟩ := chk_some e1
        cases e1
        refine ⟨Z, α, β, env, S, _, _, R, ex, fun vs H1 β1 R1 A1 r1 => ?_⟩
        obtain ⟨v, w, z, rfl, r, r2, r3⟩ := Paired.three r1
        exact ⟨i, j, -1, (i - j).toNat, by rw [r.int, r2.int, r3.int], RgC.neg hj.1 hj.2.1 hj.2.2.1 hj.2.2.2.1, q _ H1 β1 R1 A1 (by rw [dwnL_len]; exact hj.2.2.2.2) itd_ok⟩
      · cases e1
    · cases e1
/-! ### new lists -/
def dCel (t : DE) : DE := fun env S => (t env S).bind fun p => match p.1 with
  | .lst _ => some p
  | _ => none
theorem F.sl {lo hi : Option Expr} {p2 : Pos} {tl th : DO} (h : EX X true e t) (hl : OX X lo tl) (hh : OX X hi th) : EF X (.Subscript e (.Slice lo hi none p2) pos) (dCel (dSl t tl th)) :=
  PE.imp (pe_slice sl_list h hl hh) fun σ H Q ⟨Z, α, β, env, S, d, S', R, e1, q⟩ => by
    unfold dCel dSl at e1
    obtain ⟨⟨y, Sy⟩, ey, e1b⟩ := Option.bind_eq_some_iff.mp e1
    obtain ⟨⟨x, S1⟩, ex, ey2⟩ := Option.bind_eq_some_iff.mp ey
    obtain ⟨⟨l, S2⟩, el, ey3⟩ := Option.bind_eq_some_iff.mp ey2
    obtain ⟨⟨u, S3⟩, eu, ey4⟩ := Option.bind_eq_some_iff.mp ey3
    obtain ⟨z, ez, e2⟩ := Option.map_eq_some_iff.mp ey4
    clear e1 ey ey2 ey3 ey4
    obtain ⟨e2, e4⟩ := Prod.mk.inj e2
    subst e2 e4
    have e1 := e1b; clear e1b
    simp only at e1
    split at e1
    · rename_i zs
      obtain ⟨e5, e6⟩ := Prod.mk.inj (Option.some.inj e1)
      subst e5 e6
      refine ⟨Z, α, β, env, S, x, S1, R, ex, fun v H1 β1 R1 A1 r1 => ⟨Z, α, β1, env, S1, l, S2, R1, el, fun H2 β2 R2 A2 => ⟨Z, α, β2, env, S2, u, S3, R2, eu, fun H3 β3 R3 A3 => ?_⟩⟩⟩
      have r3 := (r1.adv R1 A2).adv R2 A3
      have A := (A1.trb A2).trb A3
      replace ez : slD S3 x l u = some (.lst zs) := ez
      unfold slD at ez
      split at ez
      · cases ez
        obtain ⟨a, vs, rfl, h1, rr⟩ := r3.scr
        exact ⟨a, vs, rfl, h1, fun p n => q p _ (.lst _) _ β3 (R3.apart n _) (A.trb (Adv.upd n)) (A.fresh n) upd_same rfl (CellOk.apart (.lst (rr.cut l u)) n)⟩
      · split at ez
        · cases ez
        · rename_i xs eq1
          cases ez
          obtain ⟨a, vs, rfl, rr, h1⟩ := r3.seq R3 eq1
          exact ⟨a, vs, rfl, .of (seq_ff h1), fun p n => q p _ (.lst _) _ β3 (R3.apart n _) (A.trb (Adv.upd n)) (A.fresh n) upd_same rfl (CellOk.apart (.lst (rr.cut l u)) n)⟩
        · cases ez
    · cases e1
/-- x[::-1] of a list -/
def revD (S : Sto) (x : D) : Option D := match x with
  | .scr xs => some (.lst xs.reverse)
  | x => match seqD S x with
    | some (false, xs) => some (.lst xs.reverse)
    | _ => none
theorem F.revL {k : Nat} {p1 p2 p3 : Pos} (h : EX X true e t) : EF X (.Subscript e (.Slice none none (some (.UnaryOp .USub (.Constant (.int 1) k p1) p2)) p3) pos) (dOp1 revD t) :=
  PE.imp (pe_revL h) fun σ H Q ⟨Z, α, β, env, S, d, S', R, e1, q⟩ => by
    unfold dOp1 at e1
    obtain ⟨⟨x, S1⟩, ex, e1⟩ := Option.bind_eq_some_iff.mp e1
    obtain ⟨z, ez, e2⟩ := Option.map_eq_some_iff.mp e1
    obtain ⟨e2, e4⟩ := Prod.mk.inj e2
    subst e2 e4
    refine ⟨Z, α, β, env, S, x, _, R, ex, fun v H1 β1 R1 A1 r1 => ?_⟩
    replace ez : revD S1 x = some z := ez
    unfold revD at ez
    split at ez
    · cases ez
      obtain ⟨a, vs, rfl, h1, rr⟩ := r1.scr
      exact ⟨a, vs, rfl, h1, fun p n => q p _ (.lst _) _ β1 (R1.apart n _) (A1.trb (Adv.upd n)) (A1.fresh n) upd_same rfl (CellOk.apart (.lst rr.reverse) n)⟩
    · split at ez
      · rename_i xs eq1
        cases ez
        obtain ⟨a, vs, rfl, rr, h1⟩ := r1.seq R1 eq1
        exact ⟨a, vs, rfl, .of (seq_ff h1), fun p n => q p _ (.lst _) _ β1 (R1.apart n _) (A1.trb (Adv.upd n)) (A1.fresh n) upd_same rfl (CellOk.apart (.lst rr.reverse) n)⟩
      · cases ez
/-- xs + ys, xs * k: a new list -/
def catL (S : Sto) (x y : D) : Option D := match seqD S x, seqD S y with
  | some (false, xs), some (false, ys) => if xs.length + ys.length ≤ sizeLine then some (.lst (xs ++ ys)) else none
  | _, _ => none
noncomputable def mulL (S : Sto) (x y : D) : Option D := match seqD S x, y with
  | some (false, xs), .int k => chk (-(2 ^ 63) ≤ k ∧ k < 2 ^ 63 ∧ xs.length * k.toNat ≤ sizeLine) (some (.lst (repL xs k)))
  | _, _ => none
theorem F.cat (ha : EX X true ea ta) (hb : EX X true eb tb) : EF X (.BinOp ea .Add eb pos) (dOp2 catL ta tb) :=
  PE.imp (pe_op op_cat ha hb) fun σ H Q ⟨Z, α, β, env, S, d, S', R, e1, q⟩ => by
    unfold dOp2 at e1
    obtain ⟨⟨x, S1⟩, ex, e1⟩ := Option.bind_eq_some_iff.mp e1
    obtain ⟨⟨y, S2⟩, ey, e1⟩ := Option.bind_eq_some_iff.mp e1
    obtain ⟨z, ez, e2⟩ := Option.map_eq_some_iff.mp e1
    obtain ⟨e2, e4⟩ := Prod.mk.inj e2
    subst e2 e4
    refine ⟨Z, α, β, env, S, x, S1, R, ex, fun v H1 β1 R1 A1 r1 => ⟨Z, α, β1, env, S1, y, _, R1, ey, fun w H2 β2 R2 A2 r2 => ?_⟩⟩
    have r1 := r1.adv R1 A2
    have A := A1.trb A2
    replace ez : catL S2 x y = some z := ez
    unfold catL at ez
    split at ez
    · rename_i xs ys eq1 eq2
      split at ez
      · rename_i hz
        cases ez
        obtain ⟨a, vs, rfl, rr, h1⟩ := r1.seq R2 eq1
        obtain ⟨c, us, rfl, rr2, h2⟩ := r2.seq R2 eq2
        refine ⟨a, c, vs, us, rfl, rfl, seq_ff h1, seq_ff h2, by rw [← rr.length, ← rr2.length]; exact hz, fun p n => ?_⟩
        exact q p _ (.lst _) _ β2 (R2.apart n _) (A.trb (Adv.upd n)) (A.fresh n) upd_same rfl (CellOk.apart (.lst (Reps.append rr rr2)) n)
      · cases ez
    · cases ez
theorem F.rep (ha : EX X true ea ta) (hb : EX X true eb tb) : EF X (.BinOp ea .Mult eb pos) (dOp2 mulL ta tb) :=
  PE.imp (pe_op op_rep ha hb) fun σ H Q ⟨Z, α, β, env, S, d, S', R, e1, q⟩ => by
    unfold dOp2 at e1
    obtain ⟨⟨x, S1⟩, ex, e1b⟩ := Option.bind_eq_some_iff.mp e1
    obtain ⟨⟨y, S2⟩, ey, e1c⟩ := Option.bind_eq_some_iff.mp e1b
    obtain ⟨z, ez, e2⟩ := Option.map_eq_some_iff.mp e1c
    clear e1 e1b e1c
    obtain ⟨e2, e4⟩ := Prod.mk.inj e2
    subst e2 e4
    refine ⟨Z, α, β, env, S, x, S1, R, ex, fun v H1 β1 R1 A1 r1 => ⟨Z, α, β1, env, S1, y, _, R1, ey, fun w H2 β2 R2 A2 r2 => ?_⟩⟩
    have r1 := r1.adv R1 A2
    have A := A1.trb A2
    replace ez : mulL S2 x y = some z := ez
    unfold mulL at ez
    split at ez
    · rename_i xs k eq1
      obtain ⟨hc, ez⟩ := chk_some ez
      cases ez
      obtain ⟨a, vs, rfl, rr, h1⟩ := r1.seq R2 eq1
      refine ⟨a, k, vs, rfl, r2.int, seq_ff h1, hc.1, hc.2.1, by rw [← rr.length]; exact hc.2.2, fun p n => ?_⟩
      exact q p _ (.lst _) _ β2 (R2.apart n _) (A.trb (Adv.upd n)) (A.fresh n) upd_same rfl (CellOk.apart (.lst (rr.rep k.toNat)) n)
    · cases ez
end
end Rf
end
section
set_option maxHeartbeats 2000000
/-! Rf, part G: enumerate over a tuple. -/
namespace RfG
open PySem PySem.Spec PyProof.Rows L2
/-- enumerate's making over whatever begins an iterator -/
theorem meets1 {v : Value} {ob : Obj} {G : Heap → Prop} (B : Begins v ob G) :
    Meets (Builtin.«enumerate.__new__» ⟨[.type "enumerate", v], []⟩) (fun _ R s => G s.heap ∧
      R (.ok (.ret (.ref (s.heap.push ob).objs.size))) { s with heap := (s.heap.push ob).push { cls := .type "enumerate", data := .fields #[.none, .bool false, .ref s.heap.objs.size, rawInt 0, .none, .none] } }) :=
  .of_wp fun pr wd Ar Rr sh ⟨g1, g2⟩ => by
    obtain ⟨hp, gl, dd, tk, os⟩ := sh
    have hsub := sub_enumerate
    have it1 : ∀ {A1 : Around} {E1 : Value → Shared → Prop} {Q1 : Value → Shared → Prop}, Q1 (.ref hp.objs.size) ⟨hp.push ob, gl, dd, tk, os⟩ → wpAny (model pr wd) A1 (pyIter v) Q1 E1 ⟨hp, gl, dd, tk, os⟩ :=
      fun z => B.iter pr wd _ _ ⟨hp, gl, dd, tk, os⟩ _ g1 z
    wp_walk using it1
    refine wpAny_stack_any fun st => wpAny_pure ?_
    split
    · rename_i c _ _ _ _ _
      cases (c == Value.type "enumerate") <;> (wp_walk using it1; exact ⟨_, rfl, g2⟩)
    · wp_walk using it1
      exact ⟨_, rfl, g2⟩
theorem begin1 {prog : Program} {w : World} {A : Around} {E : Value → Shared → Prop} {s : Shared} {v : Value} {ob : Obj} {G : Heap → Prop} {Q : Value → Shared → Prop} (B : Begins v ob G) (g : G s.heap)
    (hQ : ∀ h', IsEnum h' (s.heap.objs.size + 1) s.heap.objs.size 0 .none → h'.get? s.heap.objs.size = some ob → (∀ b o, s.heap.get? b = some o → h'.get? b = some o) → Q (.ref (s.heap.objs.size + 1)) { s with heap := h' }) :
    wpAny (model prog w) A (call (.type "enumerate") [v]) Q E s := by
  refine callType_new F.called_enumerate (by decide) (F.typeCall_enumerate_1 _) (F.newCall_enumerate_1 _) (fun obj => F.args_object_init_2 obj _) F.entry_enumerate_new (meets1 B) ⟨g, ?_⟩
  have sz : (s.heap.push ob).objs.size = s.heap.objs.size + 1 := Heap.size_push ..
  show _ ∧ _
  rw [sz]
  have top := Heap.get?_push_size (s.heap.push ob) (o := { cls := .type "enumerate", data := .fields #[.none, .bool false, .ref s.heap.objs.size, rawInt 0, .none, .none] }) rfl
  rw [sz] at top
  exact ⟨⟨_, top, rfl⟩, hQ _ top (Heap.get?_push_of_some _ (Heap.get?_push_size _ B.free)) fun b o x => Heap.get?_push_of_some _ (Heap.get?_push_of_some _ x)⟩
/-- a tuple as it stands at each turn, numbered -/
def IteT (K : PySem.W.Frag) (a : Addr) : It :=
  ⟨fun i H => ∃ (xs : List V) (x : V), SqT K H a xs ∧ xs[i]? = some x, fun i H v H' => ∃ T x, v = .ref T ∧ H T = none ∧ H' = upd H T (.tup [.int (i : Nat), x]) ∧ ∀ xs, SqT K H a xs → xs[i]? = some x, fun i H => ∃ xs : List V, SqT K H a xs ∧ xs.length ≤ i⟩
theorem turn {P : Program} {w : World} {K : PySem.W.Frag} {elts : List Expr} {kk : Nat} {tpos : Pos} (a e it : Addr) :
    Turn P w K (.Tuple elts kk tpos) (IteT K a) [e, it] e (fun i h => (∃ old, IsEnum h e it ((i : Nat) : Int) old) ∧ h.IsTupleIter it a i ∧ e ≠ it ∧ a ≠ it ∧ a ≠ e) where
  mem := by simp
  obj := fun i h ⟨⟨old, he⟩, ⟨o, ho, hc, hd⟩, _⟩ b hb => by
    rcases (show b = e ∨ b = it by simpa using hb) with z | z
    · subst z; exact ⟨_, he, fun v q => nomatch q⟩
    · subst z; exact ⟨o, ho, fun v q => by rw [hd] at q; cases q⟩
  keep := fun i h h' ⟨⟨old, he⟩, hi, hne⟩ k => ⟨⟨old, k e (by simp) _ he⟩, hi.at fun o q => k it (by simp) o q, hne⟩
  item := by
    intro X hP hw hK hc i pins s σ H E I hf ⟨⟨old, he⟩, hit, n1, n2, n3⟩ ⟨xs, x, hq, hx⟩
    subst hP hw hK
    obtain ⟨its, rv, p, hz⟩ := I.tuple hq
    obtain ⟨u, hu, ru⟩ := rv.get hx
    have hil : i < its.toArray.size := by
      have := (List.getElem?_eq_some_iff.mp hu).1
      simpa using this
    have le : e < s.heap.objs.size := Heap.lt_size he
    have li : it < s.heap.objs.size := by obtain ⟨_, q, _⟩ := hit; exact Heap.lt_size q
    have ef : e ∉ [it, a] := by simp; exact ⟨n1, fun z => n3 z.symm⟩
    refine wpAny_pyNext_enum_itemD (Draws.tuple (A := X.A.in1) (I.ok.hd hc) it a n2 its.toArray) he ⟨hit, p⟩ hil n1 ef fun y h' tk hy ho ⟨hit', _⟩ hT hsz hk => ?_
    have hyu : y = u := by
      have : its[i]? = some y := by simpa using hy
      rw [hu] at this
      cases this
      rfl
    subst hyu
    refine ⟨_, rfl, wpAny_letOwnedTupleGo_enum (s := { s with heap := h', toks := tk + 1 }) ho fun h2 he2 sb => ?_⟩
    have hT2 : h2.get? s.heap.objs.size = some { cls := .type "tuple", data := .seq #[.int i tk, y] } := (sb.2 _ (Nat.ne_of_gt le)).trans hT
    have new : ObjOk X.prog X.w (upd H s.heap.objs.size (.tup [.int (i : Nat), x])) h2 s.heap.objs.size (.tup [.int (i : Nat), x]) :=
      ⟨by show 2 ≤ sizeLine; decide, [.int i tk, y], .cons ⟨_, rfl⟩ (.cons ru .nil), ⟨_, hT2, rfl, _, rfl⟩⟩
    have I1 : Inv X pins σ (upd H s.heap.objs.size (.tup [.int (i : Nat), x])) { s with heap := h2, toks := tk + 1 } :=
      I.turnedNew (ch := [e, it]) (fun b ob hb q => by
        have m1 : b ≠ e := fun z => hb (by simp [z])
        have m2 : b ≠ it := fun z => hb (by simp [z])
        exact (sb.2 b m1).trans (hk b ob m1 m2 q)) hf (Nat.le_refl _) new
    refine ⟨.ref s.heap.objs.size, _, I1, rfl, ⟨_, x, rfl, I.hok.fresh (Nat.le_refl _), rfl, fun ys hys => by rw [I.tuple_inj hys hq]; exact hx⟩, ⟨⟨y, ?_⟩, hit'.at fun o q => (sb.2 it (Ne.symm n1)).trans q, n1, n2, n3⟩, fun b hb => ?_⟩
    · rw [show ((i + 1 : Nat) : Int) = (i : Int) + 1 by omega]
      exact he2
    · have lb : b < s.heap.objs.size := by
        rcases (show b = e ∨ b = it by simpa using hb) with z | z
        · subst z; exact le
        · subst z; exact li
      rw [upd_ne (Nat.ne_of_lt lb)]
      exact (hf b hb).1
  done := by
    intro X hP hw hK hc i pins s σ H E I hf ⟨⟨old, he⟩, hit, n1, n2, n3⟩ ⟨xs, hq, hx⟩
    subst hP hw hK
    obtain ⟨its, rv, p, hz⟩ := I.tuple hq
    obtain ⟨f0, f1, f2, f3, f4, f5⟩ := hf it (by simp)
    have hl := rv.length
    have D : Draws X.prog X.w X.A.in1 it [it, a] i (fun _ _ => False) (fun j h => j = i ∧ h.IsTupleIter it a j ∧ h.IsTuple a its.toArray) :=
      { live := fun j h st => let ⟨o, ho, _⟩ := st.2.1; ⟨o, ho⟩
        frame := fun j h h' st k => ⟨st.1, st.2.1.at fun o q => k it (by simp) o q, st.2.2.at fun o q => k a (by simp) o q⟩
        item := fun j sh Q1 E1 hj st _ => absurd st.1 (Nat.ne_of_lt hj)
        done := fun sh Q1 E1 st k => wpAny_nextOf_tuple_end (A := X.A.in1) (I.ok.hd hc) st.2.1 st.2.2 (by simp; omega) k }
    exact wpAny_pyNext_enum_endD D he ⟨rfl, hit, p⟩ fun h' eb => ⟨rfl, I.turned (t' := s.toks) (fun b o hb q => eb b o hb q) f0 f1 f3 f4 f5⟩
  self := fun A i s Q E ⟨⟨_, he⟩, _⟩ h => wpAny_pyIter_enum he h
/-- enumerate over a list, over a tuple -/
def iEnumA (K : PySem.W.Frag) (ta : TA) : TI := fun σ H R => ta σ H fun vs H1 => ∃ a xs, vs = [.ref a] ∧ SqT K H1 a xs ∧ R (IteT K a) H1
theorem pi_enumT {X : Cx} {e : Expr} {ta : TA} {p pos tpos : Pos} {elts : List Expr} {kk : Nat} (hg : Gl X "enumerate") (hm : X.mg "enumerate" = none) (ha : PA X [e] ta) (hs : starEach [e] X.env = [(false, eval e X.env)] := by rfl) :
    PI X (.Tuple elts kk tpos) (.Call (.Name "enumerate" p) [e] [] pos) (iEnumA X.K ta) := by
  refine ⟨fun pins s σ H R I h => ?_⟩
  refine Call_ (ld_blt I hg hm boot_enumerate (PyProof.Rows.callWith_type1 (thn (ha.run pos pins s σ H _ I h) fun us s1 ⟨vs, H1, I1, r1, a, xs, ev, hq, q⟩ => ?_) hs rfl))
  subst ev
  match r1 with
  | .cons r .nil =>
    cases r
    obtain ⟨its, rv, p', hz⟩ := I1.tuple hq
    have la : a < s1.heap.objs.size := by obtain ⟨_, q, _⟩ := p'; exact Heap.lt_size q
    refine begin1 (begins_tuple a its.toArray) p' fun h' he hit hk => wpAny_pyIter_enum he ?_
    have I2 : Inv X pins σ H1 { s1 with heap := h' } := I1.kept (t' := s1.toks) hk
    refine ⟨s1.heap.objs.size + 1, [s1.heap.objs.size + 1, s1.heap.objs.size], _, _, H1, rfl, I2, turn a (s1.heap.objs.size + 1) s1.heap.objs.size, ⟨⟨.none, he⟩, ⟨_, hit, rfl, rfl⟩, Nat.succ_ne_self _, Nat.ne_of_lt la, Nat.ne_of_lt (Nat.lt_succ_of_lt la)⟩, fun b hb => ?_, q⟩
    have hle : s1.heap.objs.size ≤ b := by
      rcases (show b = s1.heap.objs.size + 1 ∨ b = s1.heap.objs.size by simpa using hb) with z | z
      · subst z; exact Nat.le_add_right _ _
      · subst z; exact Nat.le_refl _
    exact I1.fpOk hle (I1.hok.fresh hle)
end RfG
namespace Rf
open PySem PySem.Spec PyProof.Rows L2
theorem iteT_ok {K : PySem.W.Frag} {mg : Mg} {Z : Addr → Prop} {α : Nat → Option Addr} {β : List Addr} {H : Hp} {b : Bool} {a : Addr} {xs : List D} (h1 : StillT K mg b Z α β H a xs) : ItOk K mg b Z α β H (RfG.IteT K a) (nums xs) none where
  go := fun i d Z1 α1 β1 env1 S1 σ1 H1 R1 k g e => by
    obtain ⟨x, y, e1, e2, rfl⟩ := pairs_get e
    obtain ⟨us, q1, r1⟩ := h1 _ _ _ _ _ _ _ R1 k
    obtain ⟨u, f1, s1⟩ := r1.get e2
    obtain ⟨_, rfl⟩ := rngL_get e1
    refine ⟨⟨us, u, q1, f1⟩, fun z H2 hy => ?_⟩
    obtain ⟨T, u', rfl, n, rfl, g1⟩ := hy
    have e3 := g1 us q1
    rw [f1] at e3; cases e3
    have := yld_tup (d := .int ((i : Nat) : Int)) R1 n (.int _) s1
    rw [show (0 : Int) + (i : Int) = (i : Int) by omega]
    exact this
  stop := fun i Z1 α1 β1 env1 S1 σ1 H1 R1 k g hl => by
    obtain ⟨us, q1, r1⟩ := h1 _ _ _ _ _ _ _ R1 k
    unfold nums at hl
    rw [pairs_len, rngL_len] at hl
    have l1 := r1.length
    exact ⟨us, q1, by omega⟩
/-- enumerate over a tuple or a list -/
def enumA (S : Sto) : D → Option (List D)
  | .tup xs => some (nums xs)
  | x => enumD S x
def iEnumA (t : DE) : DI := fun env S => (t env S).bind fun p => (enumA p.2 p.1).map fun xs => ((xs, none), p.2)
section
variable {X : Cx} {b : Bool} {p pos tpos : Pos} {e : Expr} {t : DE} {elts : List Expr} {kk : Nat}
theorem I.enumT (hg : Gl X "enumerate") (hm : X.mg "enumerate" = none) (h : EX X b e t) (hs : starEach [e] X.env = [(false, eval e X.env)] := by rfl) :
    IX X b (.Tuple elts kk tpos) (.Call (.Name "enumerate" p) [e] [] pos) (fun env S => (t env S).bind fun p => match p.1 with
      | .tup xs => some ((nums xs, none), p.2)
      | _ => none) :=
  PI.imp (RfG.pi_enumT hg hm (PA.lens (A.cons h A.nil hs)) hs) fun σ H R' ⟨Z, α, β, env, S, items, gd, S', R, e1, q⟩ => by
    obtain ⟨⟨x, S1⟩, ex, e2⟩ := Option.bind_eq_some_iff.mp e1
    clear e1
    simp only at e2
    split at e2
    · rename_i xs
      cases e2
      refine ⟨Z, α, β, env, S, [.tup xs], S', R, ?_, fun vs H1 β1 R1 A1 r1 L => ?_⟩
      · show (t env S).bind _ = _
        rw [ex]
        rfl
      obtain ⟨v, rfl, r⟩ := Paired.one r1
      obtain ⟨a, vs, rfl, rr, ⟨h0, h1, h2⟩ | ⟨h0, h1, h2⟩⟩ := r.still R1 (items := xs) rfl
      · cases h0
      · refine ⟨a, vs, rfl, h1, q _ H1 β1 R1 A1 ?_ (iteT_ok (fun Z1 α1 β1 env1 S1 σ1 H1 R k => h2 Z1 α1 β1 env1 S1 σ1 H1 R k trivial))⟩
        have l1 := (L a vs).2 h1
        have l2 := rr.length
        unfold nums
        rw [pairs_len, rngL_len]
        omega
    · cases e2
theorem I.enumA (hg : Gl X "enumerate") (hm : X.mg "enumerate" = none) (h : EX X b e t) (hs : starEach [e] X.env = [(false, eval e X.env)] := by rfl) :
    IX X b (.Tuple elts kk tpos) (.Call (.Name "enumerate" p) [e] [] pos) (iEnumA t) :=
  PI.imp (PI.or (I.enum hg hm h hs) (I.enumT hg hm h hs)) fun σ H R' ⟨Z, α, β, env, S, items, gd, S', R, e1, q⟩ => by
    unfold iEnumA at e1
    obtain ⟨⟨x, S1⟩, ex, e2⟩ := Option.bind_eq_some_iff.mp e1
    obtain ⟨its, e3, e4⟩ := Option.map_eq_some_iff.mp e2
    clear e1 e2
    cases e4
    replace e3 : Rf.enumA S1 x = some items := e3
    unfold Rf.enumA at e3
    split at e3
    · cases e3
      refine .inr ⟨Z, α, β, env, S, _, _, _, R, ?_, q⟩
      show Option.bind (t env S) _ = _
      rw [ex]
      rfl
    · refine .inl ⟨Z, α, β, env, S, _, _, _, R, ?_, q⟩
      show Option.bind (t env S) _ = _
      rw [ex]
      show Option.map _ (enumD S1 x) = _
      rw [e3]
      rfl
end
end Rf
end
section
set_option maxHeartbeats 4000000
/-! Rf, part H: itertools.combinations of whole numbers. -/
namespace RfH
open PySem PySem.Spec PyProof.Rows L2
open Sem (wp)
theorem mro_c : mroOf (.type "itertools.combinations") = pure [.type "itertools.combinations", .type "object"] := by rw [mroOf_type]; kernel_rfl
theorem sub_c : isSubtype (.type "itertools.combinations") (.type "itertools.combinations") = pure true := by rw [isSubtype_type]; kernel_rfl
theorem look_new : typeLookup (.type "itertools.combinations") "__new__" = pure (some (.builtin "itertools.combinations.__new__")) := by rw [typeLookup_type, builtinLookup_eq_fast]; kernel_rfl
theorem slot_init : Slot "itertools.combinations" "__init__" "object.__init__" :=
  .of (owner := "object") (n := "__init__") (by rw [typeLookup_type, builtinLookup_eq_fast]; kernel_rfl) (by decide +kernel) (by decide +kernel) (by decide +kernel) (by first | exact .inl (by decide +kernel) | exact .inr (by decide +kernel)) (by rw [isSubtype_type]; kernel_rfl)
theorem slot_iter : Slot "itertools.combinations" "__iter__" "itertools.combinations.__iter__" :=
  .of (owner := "itertools.combinations") (n := "__iter__") (by rw [typeLookup_type, builtinLookup_eq_fast]; kernel_rfl) (by decide +kernel) (by decide +kernel) (by decide +kernel) (by first | exact .inl (by decide +kernel) | exact .inr (by decide +kernel)) sub_c
theorem slot_next : Slot "itertools.combinations" "__next__" "itertools.combinations.__next__" :=
  .of (owner := "itertools.combinations") (n := "__next__") (by rw [typeLookup_type, builtinLookup_eq_fast]; kernel_rfl) (by decide +kernel) (by decide +kernel) (by decide +kernel) (by first | exact .inl (by decide +kernel) | exact .inr (by decide +kernel)) sub_c
theorem called_c : TypeCalled "itertools.combinations" "itertools.combinations.__new__" "object.__init__" :=
  ⟨by decide +kernel, by decide +kernel, ⟨_, _, mro_c⟩, madeBy_type mro_c look_new (by decide +kernel), by decide +kernel, sub_c, slot_init⟩
theorem tc_c (a b : Value) : checkTypeCall "itertools.combinations" ⟨[a, b], []⟩ = pure () := by kernel_rfl
theorem nc_c (a b : Value) : checkBuiltinCall "itertools.combinations.__new__" ⟨[.type "itertools.combinations", a, b], []⟩ = pure () := by kernel_rfl
theorem en_new : entryFor table "itertools.combinations.__new__" = some Builtin.«itertools.combinations.__new__» := entryFor_of_tree (by kernel_rfl)
theorem en_next : entryFor table "itertools.combinations.__next__" = some Builtin.«itertools.combinations.__next__» := entryFor_of_tree (by kernel_rfl)
theorem en_iter : entryFor table "itertools.combinations.__iter__" = some Builtin.«dict_keyiterator.__iter__» :=
  entryFor_alias (id' := "dict_keyiterator.__iter__") (by kernel_rfl) (by first | rfl | decide +kernel | (unfold String.splitOn; simp +decide [String.splitOnAux])) (by decide +kernel) (by kernel_rfl)
theorem own_c : Manifest.owners.lookup (String.ofList ("itertools.combinations".toList.reverse).reverse) = some Manifest.sig_itertools_combinations := by kernel_rfl
theorem ar_iter (a : Value) : argsOk "itertools.combinations.__iter__" ⟨[a], []⟩ := by
  unfold argsOk; rw [signature?_of (id := "itertools.combinations.__iter__") (n := "__iter__".toList.reverse) (o := "itertools.combinations".toList.reverse) (by kernel_rfl) own_c]; kernel_rfl
theorem ar_next (a : Value) : argsOk "itertools.combinations.__next__" ⟨[a], []⟩ := by
  unfold argsOk; rw [signature?_of (id := "itertools.combinations.__next__") (n := "__next__".toList.reverse) (o := "itertools.combinations".toList.reverse) (by kernel_rfl) own_c]; kernel_rfl
theorem nodict_c : typeHasDict (.type "itertools.combinations") = false := by decide +kernel
/-! ### what it holds -/
def fl (P : Addr) (st : Int) (old : Value) (idx : List Nat) : List Value := .ref P :: rawInt st :: old :: idx.map fun n : Nat => rawInt n
abbrev IsC (h : Heap) (it P : Addr) (st : Int) (old : Value) (idx : List Nat) : Prop := h.get? it = some { cls := .type "itertools.combinations", dict := none, data := .fields (fl P st old idx).toArray, slots := #[] }
/-- the next choice -/
def nxt (n : Nat) (idx : List Nat) : Option (List Nat) :=
  let r := idx.length
  match (List.range r).reverse.find? fun i => idx.getD i 0 != i + n - r with
  | none => none
  | some i => some (idx.take i ++ (List.range (r - i)).map (idx.getD i 0 + 1 + ·))
theorem back (idx : List Nat) : (idx.map fun n : Nat => rawInt n).map (fun | .int n _ => n.toNat | _ => 0) = idx := by
  rw [List.map_map]
  induction idx with
  | nil => rfl
  | cons a l ih => rw [List.map_cons, ih]; rfl
section
variable {prog : Program} {w : World} {A : Around} {E : Value → Shared → Prop} {s : Shared}
theorem nums_c {it P : Addr} {st : Int} {old : Value} {idx : List Nat} {Q : List Nat → Shared → Prop} (hc : IsC s.heap it P st old idx) (h : Q idx s) : wpAny (model prog w) A (Builtin.Itertools.itNumbersFrom (.ref it) 3) Q E s := by
  show wpAny _ _ (load it >>= _) _ _ s
  refine wpAny_bind (wpAny_load hc ?_)
  refine wpAny_pure ?_
  have e : (((fl P st old idx).toArray.toList.drop 3).map fun | .int n _ => n.toNat | _ => 0) = idx := back idx
  exact e.symm ▸ h
/-- what is handed out: a new tuple -/
theorem hand {it P : Addr} {st : Int} {old : Value} {idx : List Nat} {o : Obj} {items : Array Value} {n : Nat} {Q : Value → Shared → Prop} (hc : IsC s.heap it P st old idx) (hp : s.heap.get? P = some o) (hd : o.data = .seq items n) (hz : idx.length ≤ 1000)
    (hQ : ∀ h', IsC h' it P st (.ref s.heap.objs.size) idx → h'.get? s.heap.objs.size = some { cls := .type "tuple", data := .seq (idx.map fun i => items.getD i .none).toArray } → (∀ b o, b ≠ it → s.heap.get? b = some o → h'.get? b = some o) → Q (.ref s.heap.objs.size) { s with heap := h' }) :
    wpAny (model prog w) A (do
      let result ← (do
        let items ← Builtin.Itertools.itPoolItems (.ref P)
        newTuple (idx.map fun i => items.getD i .none))
      let before ← field (.ref it) 2
      setField (.ref it) 2 result
      letGo [before] [result]
      ret result) (fun fin s' => ∃ v, fin = .done (.ret v) ∧ Q v s') E s := by
  have lt : it < s.heap.objs.size := Heap.lt_size hc
  refine wpAny_bind ?_
  refine wpAny_bind ?_
  show wpAny _ _ (seqItems? (.ref P) >>= _) _ _ s
  refine wpAny_bind (wpAny_seqItems hp hd ?_)
  refine wpAny_pure ?_
  refine wpAny_newTuple ?_ (by rw [List.length_map, sizeLine_eq]; omega)
  have hc2 : IsC (s.heap.push { cls := .type "tuple", data := .seq (idx.map fun i => items.getD i .none).toArray }) it P st old idx := Heap.get?_push_of_some _ hc
  refine wpAny_bind (wpAny_field hc2 rfl (x := old) rfl ?_)
  refine wpAny_bind (wpAny_setField_rec hc2 (by simp [fl]) fun h3 hc3 sb => ?_)
  have hc3 : IsC h3 it P st (.ref s.heap.objs.size) idx := by
    have e : (fl P st old idx).toArray.setIfInBounds 2 (.ref s.heap.objs.size) = (fl P st (.ref s.heap.objs.size) idx).toArray := by
      apply Array.toList_inj.mp
      simp [fl]
    rw [e] at hc3
    exact hc3
  refine wpAny_bind (wpAny_letGo (wpAny_pure ⟨_, rfl, hQ h3 hc3 ?_ fun b o hb q => ?_⟩))
  · exact (sb.2 _ (Nat.ne_of_gt lt)).trans (Heap.get?_push_size _ rfl)
  · exact (sb.2 _ hb).trans (Heap.get?_push_of_some _ q)
/-- what a turn gives, by the state: 0 begun, 1 going on -/
def step (n : Nat) (st : Int) (idx : List Nat) : Option (List Nat) := if st = 0 then some idx else if st = 1 then nxt n idx else none
theorem next_item {it P : Addr} {st : Int} {old : Value} {idx idx' : List Nat} {o : Obj} {items : Array Value} {n : Nat} {Q : Option Value → Shared → Prop} (hc : IsC s.heap it P st old idx) (hp : s.heap.get? P = some o) (hd : o.data = .seq items n) (hne : P ≠ it)
    (hs : step items.size st idx = some idx') (hz : idx'.length ≤ 1000)
    (hQ : ∀ h', IsC h' it P 1 (.ref s.heap.objs.size) idx' → h'.get? s.heap.objs.size = some { cls := .type "tuple", data := .seq (idx'.map fun i => items.getD i .none).toArray } → (∀ b o, b ≠ it → s.heap.get? b = some o → h'.get? b = some o) → Q (some (.ref s.heap.objs.size)) { s with heap := h' }) :
    wpAny (model prog w) A (pyNext (.ref it)) Q E s := by
  have hT : s.TypeIs (.ref it) "itertools.combinations" := ⟨_, hc, rfl⟩
  unfold pyNext
  refine wpAny_bind (wpAny_attempt (wpAny_callSpecial?_slot (name := Str.ofString "__next__") hT slot_next (wpAny_call_entry slot_next hT en_next ?_ (ar_next _))))
  show wpAny _ _ (field (.ref it) 0 >>= _) _ _ s
  refine wpAny_bind (wpAny_field hc rfl (x := .ref P) rfl ?_)
  show wpAny _ _ (Builtin.Itertools.itNumbersFrom (.ref it) 3 >>= _) _ _ s
  refine wpAny_bind (nums_c hc ?_)
  show wpAny _ _ (Builtin.Itertools.itIntField (.ref it) 1 >>= _) _ _ s
  refine wpAny_bind ?_
  show wpAny _ _ (field (.ref it) 1 >>= _) _ _ s
  refine wpAny_bind (wpAny_field hc rfl (x := rawInt st) rfl ?_)
  refine wpAny_pure ?_
  unfold step at hs
  by_cases h0 : st = 0
  · subst h0
    rw [if_pos rfl] at hs
    cases hs
    show wpAny _ _ (setField (.ref it) 1 (rawInt 1) >>= _) _ _ s
    refine wpAny_bind (wpAny_setField_rec hc (by simp [fl]) fun h1 hc1 sb => ?_)
    have hc1 : IsC h1 it P 1 old idx := by
      have e : (fl P 0 old idx).toArray.setIfInBounds 1 (rawInt 1) = (fl P 1 old idx).toArray := by
        apply Array.toList_inj.mp
        simp [fl]
      rw [e] at hc1
      exact hc1
    have hsz : h1.objs.size = s.heap.objs.size := sb.1
    refine hand (s := { s with heap := h1 }) hc1 ((sb.2 _ hne).trans hp) hd hz fun h2 k1 k2 k3 => wpAny_pure ?_
    have hsz' : (Shared.heap { s with heap := h1 }).objs.size = s.heap.objs.size := hsz
    rw [hsz'] at k1 k2 ⊢
    exact hQ h2 k1 k2 fun b o hb q => k3 b o hb ((sb.2 _ hb).trans q)
  · rw [if_neg h0] at hs
    split at hs
    · rename_i h1
      subst h1
      show wpAny _ _ (Builtin.Itertools.itPoolItems (.ref P) >>= _) _ _ s
      refine wpAny_bind ?_
      show wpAny _ _ (seqItems? (.ref P) >>= _) _ _ s
      refine wpAny_bind (wpAny_seqItems hp hd ?_)
      refine wpAny_pure ?_
      have hl : ((fl P 1 old idx).toArray.extract 0 3 ++ (idx'.map fun n : Nat => rawInt n).toArray) = (fl P 1 old idx').toArray := by
        apply Array.toList_inj.mp
        simp [fl]
      show wpAny _ _ (match nxt items.size idx with | some next => _ | none => _) _ _ s
      rw [hs]
      show wpAny _ _ (updateFields it (fun fs => fs.extract 0 3 ++ (idx'.map fun n : Nat => rawInt n).toArray) >>= _) _ _ s
      refine wpAny_bind (wpAny_updateFields hc rfl ?_ (by rw [hl, List.size_toArray]; simp only [fl, List.length_cons, List.length_map]; rw [sizeLine_eq]; omega))
      have hc1 : IsC (s.heap.update it (Obj.mapFields fun fs => fs.extract 0 3 ++ (idx'.map fun n : Nat => rawInt n).toArray)) it P 1 old idx' := by
        have := Heap.get?_update_self (Obj.mapFields fun fs => fs.extract 0 3 ++ (idx'.map fun n : Nat => rawInt n).toArray) hc rfl
        unfold IsC
        rw [← hl]
        exact this
      have sb : Heap.SameBut it s.heap (s.heap.update it (Obj.mapFields fun fs => fs.extract 0 3 ++ (idx'.map fun n : Nat => rawInt n).toArray)) := Heap.SameBut.update ..
      generalize s.heap.update it (Obj.mapFields fun fs => fs.extract 0 3 ++ (idx'.map fun n : Nat => rawInt n).toArray) = h1 at hc1 sb
      refine hand (s := { s with heap := h1 }) hc1 ((sb.2 _ hne).trans hp) hd hz fun h2 k1 k2 k3 => wpAny_pure ?_
      have hsz' : (Shared.heap { s with heap := h1 }).objs.size = s.heap.objs.size := sb.1
      rw [hsz'] at k1 k2 ⊢
      exact hQ h2 k1 k2 fun b o hb q => k3 b o hb ((sb.2 _ hb).trans q)
    · cases hs
theorem next_end {it P : Addr} {st : Int} {old : Value} {idx : List Nat} {o : Obj} {items : Array Value} {n : Nat} {Q : Option Value → Shared → Prop} (hh : A.handled = none) (hc : IsC s.heap it P st old idx) (hp : s.heap.get? P = some o) (hd : o.data = .seq items n) (hst : st = 1 ∨ st = 2)
    (hs : step items.size st idx = none) (hQ : ∀ h', Heap.ExtBut it s.heap h' → Q none { s with heap := h' }) :
    wpAny (model prog w) A (pyNext (.ref it)) Q E s := by
  have hT : s.TypeIs (.ref it) "itertools.combinations" := ⟨_, hc, rfl⟩
  unfold pyNext
  refine wpAny_bind (wpAny_attempt (wpAny_callSpecial?_slot (name := Str.ofString "__next__") hT slot_next (wpAny_call_entry slot_next hT en_next ?_ (ar_next _))))
  show wpAny _ _ (field (.ref it) 0 >>= _) _ _ s
  refine wpAny_bind (wpAny_field hc rfl (x := .ref P) rfl ?_)
  show wpAny _ _ (Builtin.Itertools.itNumbersFrom (.ref it) 3 >>= _) _ _ s
  refine wpAny_bind (nums_c hc ?_)
  show wpAny _ _ (Builtin.Itertools.itIntField (.ref it) 1 >>= _) _ _ s
  refine wpAny_bind ?_
  show wpAny _ _ (field (.ref it) 1 >>= _) _ _ s
  refine wpAny_bind (wpAny_field hc rfl (x := rawInt st) rfl ?_)
  refine wpAny_pure ?_
  have stop : ∀ {h1 : Heap}, Heap.ExtBut it s.heap h1 → wpAny (model prog w) A.in1 (Builtin.Itertools.itStop : Sem Fin) (fun fin s' => False) (fun e s' => ∃ h', Heap.ExtBut it s.heap h' ∧ (∃ a o, e = .ref a ∧ h'.get? a = some o ∧ o.cls = .type "StopIteration") ∧ s' = { s with heap := h' }) { s with heap := h1 } := by
    intro h1 hx
    show wpAny _ _ (newExc (.type "StopIteration") [] >>= _) _ _ _
    refine wpAny_bind ?_
    simp only [newExc, newTuple]
    refine wpAny_bind (wpAny_newObj_type ?_ (by size_fits))
    refine wpAny_bind (m := firstArgMember _ _) (wpAny_of_eq (a := Value.none) (by first | rfl | (simp only [firstArgMember]; rfl)) ?_)
    refine wpAny_newObj_type ?_ (by size_fits)
    simp only [raiseNew]
    refine wpAny_bind (wpAny_handled ?_)
    first | rw [show A.in1.handled = none from hh] | rw [hh]
    refine wpAny_bind (wpAny_pure (wpAny_throw ?_))
    exact ⟨_, (hx.push _).push _, ⟨_, _, rfl, Heap.get?_push_size _ rfl, rfl⟩, rfl⟩
  unfold step at hs
  rcases hst with h1 | h1
  · subst h1
    rw [if_neg (by decide), if_pos rfl] at hs
    show wpAny _ _ (Builtin.Itertools.itPoolItems (.ref P) >>= _) _ _ s
    refine wpAny_bind ?_
    show wpAny _ _ (seqItems? (.ref P) >>= _) _ _ s
    refine wpAny_bind (wpAny_seqItems hp hd ?_)
    refine wpAny_pure ?_
    show wpAny _ _ (match nxt items.size idx with | some next => _ | none => _) _ _ s
    rw [hs]
    show wpAny _ _ (setField (.ref it) 1 (rawInt 2) >>= _) _ _ s
    refine wpAny_bind (wpAny_setField_rec hc (by simp [fl]) fun h1 hc1 sb => ?_)
    refine wpAny_mono (stop sb.extBut) (fun _ _ h => h.elim) fun e s' ⟨h', hx, ⟨a, o, e1, ho, hco⟩, e2⟩ => ?_
    subst e1 e2
    refine wpAny_bind (wpAny_isInstance (T := "StopIteration") (b := true) ⟨o, ho, hco⟩ isSubtype_stop ?_)
    exact wpAny_pure (hQ _ hx)
  · subst h1
    refine wpAny_bind (wpAny_rule ?_)
    refine wpAny_mono (stop (Heap.ExtBut.refl it s.heap)) (fun _ _ h => h.elim) fun e s' ⟨h', hx, ⟨a, o, e1, ho, hco⟩, e2⟩ => ?_
    subst e1 e2
    refine wpAny_bind (wpAny_isInstance (T := "StopIteration") (b := true) ⟨o, ho, hco⟩ isSubtype_stop ?_)
    exact wpAny_pure (hQ _ hx)
end
/-! ### it is made -/
/-- collect(v), where G stands, gives items of which I tells -/
structure Coll (v : Value) (G : Heap → Prop) (I : List Value → Prop) : Prop where
  run : ∀ (prog : Program) (w : World) (A : Around) (E : Value → Shared → Prop) (s : Shared) (Q : List Value → Shared → Prop), A.handled = none → G s.heap → (∀ h' tk us, (∀ b o, s.heap.get? b = some o → h'.get? b = some o) → I us → Q us { s with heap := h', toks := tk }) → wpAny (model prog w) A (collect v) Q E s
abbrev tupO (us : List Value) : Obj := { cls := .type "tuple", data := .seq us.toArray }
abbrev recO (P : Addr) (st : Int) (idx : List Nat) : Obj := { cls := .type "itertools.combinations", data := .fields (fl P st .none idx).toArray }
theorem meets_new {v : Value} {r m : Nat} {t : Tok} {G : Heap → Prop} {I : List Value → Prop} (C : Coll v G I) (hI : ∀ us, I us → us.length = m) (hr : r ≤ 1000) (hm : m ≤ 1000) :
    Meets (Builtin.«itertools.combinations.__new__» ⟨[.type "itertools.combinations", v, .int (r : Int) t], []⟩) (fun A R s => A.handled = none ∧ G s.heap ∧ ∀ (h' : Heap) (tk : Nat) (us : List Value), (∀ b o, s.heap.get? b = some o → h'.get? b = some o) → I us →
      R (.ok (.ret (.ref (h'.push (tupO us)).objs.size))) { s with heap := (h'.push (tupO us)).push (recO h'.objs.size (if r > m then 2 else 0) (List.range r)), toks := tk }) :=
  .of_wp fun prog w A R s ⟨g0, g1, g2⟩ => by
    obtain ⟨hp, g, d, tk, os⟩ := s
    have hsub := sub_c
    have hd := nodict_c
    have q1 : ∀ {E1 : Value → Shared → Prop} {Q1 : List Value → Shared → Prop}, (∀ (h' : Heap) (tk' : Nat) (us : List Value), (∀ b o, hp.get? b = some o → h'.get? b = some o) → I us → Q1 us ⟨h', g, d, tk', os⟩) → wpAny (model prog w) A.in1 (collect v) Q1 E1 ⟨hp, g, d, tk, os⟩ :=
      fun z => C.run prog w A.in1 _ ⟨hp, g, d, tk, os⟩ _ g0 g1 z
    have es : ("itertools." ++ "combinations" : String) = "itertools.combinations" := by decide +kernel
    wp_walk using q1
    rw [es]
    wp_walk using q1
    have n1 : ¬ ((decide ((r : Int) < -2 ^ 63) || decide ((r : Int) ≥ 2 ^ 63)) = true) := by
      simp
      omega
    rw [if_neg n1]
    refine wpAny_pure ?_
    refine wpAny_bind (q1 fun h' tk' us hk hu => ?_)
    have n2 : ¬ ((r : Int) < 0) := by omega
    have n3 : ¬ (Builtin.Itertools.itTooMany (r : Int) = true) := by
      unfold Builtin.Itertools.itTooMany
      simp
      omega
    have lu := hI us hu
    show wpAny _ _ (if (r : Int) < 0 then _ else (if Builtin.Itertools.itTooMany (r : Int) = true then _ else (newTuple us >>= _))) _ _ _
    rw [if_neg n2, if_neg n3]
    refine wpAny_bind (wpAny_newTuple ?_ (by rw [lu, sizeLine_eq]; omega))
    refine wpAny_pure ?_
    show wpAny _ _ (Builtin.Itertools.itNewRecord (.type "itertools.combinations") _ >>= _) _ _ _
    refine wpAny_bind ?_
    unfold Builtin.Itertools.itNewRecord
    rw [nodict_c, if_pos (by rfl), Int.toNat_natCast, lu]
    refine wpAny_newObj_type ?_ (by
      show (Array.size _) ≤ _
      rw [List.size_toArray]
      simp only [List.length_append, List.length_cons, List.length_nil, List.length_map, List.length_range]
      rw [sizeLine_eq]
      omega)
    refine wpAny_pure ⟨_, rfl, ?_⟩
    exact g2 h' tk' us hk hu
end RfH
end
section
set_option maxHeartbeats 4000000
/-! Rf, part I: itertools.combinations walked. -/
namespace RfH
open PySem PySem.Spec PyProof.Rows L2
section
variable {prog : Program} {w : World} {A : Around} {E : Value → Shared → Prop} {s : Shared}
theorem begin_c {v : Value} {r m : Nat} {t : Tok} {G : Heap → Prop} {I : List Value → Prop} {Q : Value → Shared → Prop} (C : Coll v G I) (hI : ∀ us, I us → us.length = m) (hr : r ≤ 1000) (hm : m ≤ 1000) (hh : A.handled = none) (g : G s.heap)
    (hQ : ∀ (h1 h2 : Heap) (tk : Nat) (us : List Value), (∀ b o, s.heap.get? b = some o → h1.get? b = some o) → I us → (∀ b o, h1.get? b = some o → h2.get? b = some o) → h2.get? h1.objs.size = some (tupO us) → IsC h2 (h1.objs.size + 1) h1.objs.size (if r > m then 2 else 0) .none (List.range r) → Q (.ref (h1.objs.size + 1)) { s with heap := h2, toks := tk }) :
    wpAny (model prog w) A (call (.type "itertools.combinations") [v, .int (r : Int) t]) Q E s := by
  refine callType_new called_c (by decide +kernel) (tc_c _ _) (nc_c _ _) (fun obj => F.args_object_init_3 obj _ _) en_new (meets_new C hI hr hm) ⟨hh, g, fun h' tk us hk hu => ?_⟩
  have sz : (h'.push (tupO us)).objs.size = h'.objs.size + 1 := Heap.size_push ..
  have top := Heap.get?_push_size (h'.push (tupO us)) (o := recO h'.objs.size (if r > m then 2 else 0) (List.range r)) rfl
  rw [sz] at top
  show _ ∧ _
  rw [sz]
  exact ⟨⟨_, top, rfl⟩, hQ h' _ tk us hk hu (fun b o q => Heap.get?_push_of_some _ (Heap.get?_push_of_some _ q)) (Heap.get?_push_of_some _ (Heap.get?_push_size _ rfl)) top⟩
theorem iter_c {it P : Addr} {st : Int} {old : Value} {idx : List Nat} {Q : Value → Shared → Prop} (hc : IsC s.heap it P st old idx) (h : Q (.ref it) s) : wpAny (model prog w) A (pyIter (.ref it)) Q E s := by
  have hT : s.TypeIs (.ref it) "itertools.combinations" := ⟨_, hc, rfl⟩
  refine wpAny_pyIter_slot hT slot_iter (wpAny_call_entry slot_iter hT en_iter ?_ (ar_iter _))
  show wpAny _ _ (ret (.ref it)) _ _ s
  exact wpAny_pure ⟨_, rfl, "itertools.combinations", _, hT, slot_next.lookup, h⟩
end
/-- all choices of r of m, in order -/
structure Chain (m r : Nat) (cs : List (List Nat)) : Prop where
  none_ : m < r → cs = []
  first : r ≤ m → cs[0]? = some (List.range r)
  next : ∀ i c, cs[i]? = some c → nxt m c = cs[i + 1]?
  len : ∀ c ∈ cs, c.length ≤ 1000 ∧ ∀ j ∈ c, j < m
/-- the choices of whole numbers, each a new tuple -/
def ItC (ns : List Int) (cs : List (List Nat)) : It :=
  ⟨fun i _ => i < cs.length, fun i H v H' => ∃ T c o, v = .ref T ∧ H T = none ∧ cs[i]? = some c ∧ o.dict = none ∧ H' = upd H T (.frz o (.tup (c.map fun j => .int (ns.getD j 0)))), fun i _ => cs.length ≤ i⟩
def tnC (ns : List Int) (cs : List (List Nat)) (r : Nat) (it P : Addr) (i : Nat) (h : Heap) : Prop :=
  ∃ st old idx us, IsC h it P st old idx ∧ h.get? P = some (tupO us) ∧ P ≠ it ∧ Vals (ns.map V.int) us ∧ ((ns.length < r ∧ st = 2) ∨ (r ≤ ns.length ∧ ((i = 0 ∧ st = 0 ∧ idx = List.range r) ∨ (0 < i ∧ st = 1 ∧ cs[i - 1]? = some idx))))
theorem pick_vals {ns : List Int} {us : List Value} (rv : Vals (ns.map V.int) us) : ∀ c : List Nat, (∀ j ∈ c, j < ns.length) → Vals (c.map fun j => V.int (ns.getD j 0)) (c.map fun i => us.toArray.getD i .none)
  | [], _ => .nil
  | j :: c, h => by
    have hj := h j (by simp)
    obtain ⟨u, hu, ru⟩ := rv.get (i := j) (x := V.int ns[j]) (by simp [hj])
    refine .cons ?_ (pick_vals rv c fun k hk => h k (by simp [hk]))
    have e1 : ns.getD j 0 = ns[j] := by simp [List.getD, hj]
    have e2 : us.toArray.getD j .none = u := by
      have hl := (List.getElem?_eq_some_iff.mp hu).1
      simp [Array.getD, hl]
      rw [List.getElem?_eq_getElem hl] at hu
      exact Option.some.inj hu
    show L2.RelV (V.int (ns.getD j 0)) (us.toArray.getD j .none)
    rw [e1, e2]
    exact ru
theorem turnC {P' : Program} {w : World} {K : PySem.W.Frag} {tg : Expr} {ns : List Int} {cs : List (List Nat)} {r : Nat} (ch : Chain ns.length r cs) (it P : Addr) : Turn P' w K tg (ItC ns cs) [it, P] it (tnC ns cs r it P) where
  mem := by simp
  obj := fun i h ⟨st, old, idx, us, hc, hp, _⟩ b hb => by
    rcases (show b = it ∨ b = P by simpa using hb) with z | z
    · subst z; exact ⟨_, hc, fun v q => nomatch q⟩
    · subst z; exact ⟨_, hp, fun v q => nomatch q⟩
  keep := fun i h h' ⟨st, old, idx, us, hc, hp, q⟩ k => ⟨st, old, idx, us, k it (by simp) _ hc, k P (by simp) _ hp, q⟩
  item := by
    intro X hP hw hK hc0 i pins s σ H E I hf ⟨st, old, idx, us, hc, hp, hne, rv, hst⟩ hg
    subst hP hw hK
    have hg : i < cs.length := hg
    have hci : cs[i]? = some cs[i] := List.getElem?_eq_getElem hg
    generalize cs[i] = c at hci
    obtain ⟨l1, l2⟩ := ch.len c (List.mem_of_getElem? hci)
    have hsz : us.toArray.size = ns.length := by
      have := rv.length
      rw [List.length_map] at this
      rw [List.size_toArray]
      exact this.symm
    have hs : step us.toArray.size st idx = some c := by
      unfold step
      rw [hsz]
      rcases hst with ⟨h1, _⟩ | ⟨h1, ⟨h2, h3, h4⟩ | ⟨h2, h3, h4⟩⟩
      · rw [ch.none_ h1] at hg
        cases hg
      · subst h2 h3 h4
        rw [if_pos rfl, ← ch.first h1, hci]
      · subst h3
        rw [if_neg (by decide), if_pos rfl, ch.next _ _ h4, show i - 1 + 1 = i by omega, hci]
    have hr : r ≤ ns.length := by
      rcases Nat.lt_or_ge ns.length r with z | z
      · rw [ch.none_ z] at hg
        cases hg
      · exact z
    have li : it < s.heap.objs.size := Heap.lt_size hc
    have lp : P < s.heap.objs.size := Heap.lt_size hp
    refine next_item hc hp rfl hne hs l1 fun h' hc' hT hk => ?_
    have I1 : Inv X pins σ (upd H s.heap.objs.size (.frz _ (.tup (c.map fun j => .int (ns.getD j 0))))) { s with heap := h' } :=
      have new : ObjOk X.prog X.w _ h' s.heap.objs.size (.frz _ (.tup (c.map fun j => .int (ns.getD j 0)))) :=
        ⟨hT, by rw [List.length_map, sizeLine_eq]; omega, _, pick_vals rv c l2, ⟨_, hT, rfl, _, rfl⟩⟩
      I.turnedNew (t' := s.toks) (ch := [it]) (fun b ob hb q => hk b ob (by simpa using hb) q) (fun b hb => hf b (by simp at hb; simp [hb])) (Nat.le_refl _) new
    refine ⟨_, rfl, go_of (s := { s with heap := h' }) hc' rfl rfl (by decide) ⟨.ref s.heap.objs.size, _, I1, rfl, ⟨_, c, _, rfl, I.hok.fresh (Nat.le_refl _), hci, rfl, rfl⟩, ⟨1, _, c, us, hc', hk P _ hne hp, hne, rv, .inr ⟨hr, .inr ⟨Nat.succ_pos _, rfl, by rw [show i + 1 - 1 = i by omega]; exact hci⟩⟩⟩, fun b hb => ?_⟩⟩
    have lb : b < s.heap.objs.size := by
      rcases (show b = it ∨ b = P by simpa using hb) with z | z
      · subst z; exact li
      · subst z; exact lp
    rw [upd_ne (Nat.ne_of_lt lb)]
    exact (hf b hb).1
  done := by
    intro X hP hw hK hc0 i pins s σ H E I hf ⟨st, old, idx, us, hc, hp, hne, rv, hst⟩ hg
    subst hP hw hK
    have hg : cs.length ≤ i := hg
    have hsz : us.toArray.size = ns.length := by
      have := rv.length
      rw [List.length_map] at this
      rw [List.size_toArray]
      exact this.symm
    obtain ⟨f0, f1, f2, f3, f4, f5⟩ := hf it (by simp)
    have hs : (st = 1 ∨ st = 2) ∧ step us.toArray.size st idx = none := by
      unfold step
      rw [hsz]
      rcases hst with ⟨h1, h2⟩ | ⟨h1, ⟨h2, h3, h4⟩ | ⟨h2, h3, h4⟩⟩
      · subst h2
        exact ⟨.inr rfl, by rw [if_neg (by decide), if_neg (by decide)]⟩
      · have := ch.first h1
        rw [List.getElem?_eq_none (by omega)] at this
        cases this
      · subst h3
        refine ⟨.inl rfl, ?_⟩
        rw [if_neg (by decide), if_pos rfl, ch.next _ _ h4, show i - 1 + 1 = i by omega]
        exact List.getElem?_eq_none hg
    exact next_end (I.ok.hd hc0) hc hp rfl hs.1 hs.2 fun h' eb => ⟨rfl, I.turned (t' := s.toks) (fun b o hb q => eb b o hb q) f0 f1 f3 f4 f5⟩
  self := fun A i s Q E ⟨st, old, idx, us, hc, _⟩ h => iter_c hc h
/-! ### the rule -/
theorem coll_rng {a : Addr} {lo hi : Int} {t u v : Tok} (b : RgOk lo hi) : Coll (.ref a) (fun h => IsRange h a lo hi 1 t u v) (fun us => Vals (((List.range (hi - lo).toNat).map fun i : Nat => lo + (i : Int)).map V.int) us) where
  run := fun prog w A E s Q hh hr hQ => by
    obtain ⟨b1, b2, b3, b4, b5⟩ := b
    refine collect_range hh hr (small_one b1 b2 b3 b4) (rangeSize_nat lo hi) b5 fun h' tk acc hk hi' => hQ h' tk _ hk ?_
    have := vals_rg hi'
    unfold rgV at this
    rw [List.map_map]
    exact this
theorem coll_seq {a : Addr} {ns : List Int} {us : List Value} {T : String} (hT : T = "list" ∨ T = "tuple") (rv : Vals (ns.map V.int) us) (hl : ns.length ≤ 1000) : Coll (.ref a) (fun h => ∃ o n, h.get? a = some o ∧ o.cls = .type T ∧ o.data = .seq us.toArray n) (fun ws => Vals (ns.map V.int) ws) where
  run := fun prog w A E s Q hh ⟨o, n, ho, hc, hd⟩ hQ => by
    refine wpAny_collect_seq (it := a) hT ho hc hd (fun h' hk => hQ h' s.toks _ hk (by simpa using rv)) ?_
    have := rv.length
    rw [List.length_map] at this
    rw [List.size_toArray, sizeLine_eq]
    omega
/-- of a range, of a list of whole numbers -/
def iComb (K : PySem.W.Frag) (ta : TA) : TI := fun σ H R => ta σ H fun vs H1 => ∃ (a : Addr) (r : Nat) (ns : List Int) (cs : List (List Nat)), vs = [.ref a, .int (r : Int)] ∧ r ≤ 1000 ∧ ns.length ≤ 1000 ∧ Chain ns.length r cs ∧
  ((∃ lo hi, H1 a = some (.rng lo hi) ∧ RgOk lo hi ∧ ns = (List.range (hi - lo).toNat).map fun i : Nat => lo + (i : Int)) ∨ SqL K H1 a (ns.map V.int) ∨ SqT K H1 a (ns.map V.int)) ∧ R (ItC ns cs) H1
theorem pi_comb {X : Cx} {tg e e2 : Expr} {ta : TA} {x : Str} {p pos : Pos} (hc : X.calm = true) (hg : Gl X x) (hm : X.mg x = some (.type "itertools.combinations")) (ha : PA X [e, e2] ta) (hdb : (x == ("__debug__" : Str)) = false := by decide)
    (hs : starEach [e, e2] X.env = (false, eval e X.env) :: starEach [e2] X.env := by rfl) (hpl : (backTo pos (starEach [e2] X.env)).any (·.1) = false := by rfl) :
    PI X tg (.Call (.Name x p) [e, e2] [] pos) (iComb X.K ta) := by
  refine ⟨fun pins s σ H R I h => ?_⟩
  refine Call_ (ld_glob I hg hm (PyProof.Rows.callWith_type1 (thn (ha.run pos pins s σ H _ I h) fun us s1 ⟨vs, H1, I1, r1, a, r, ns, cs, ev, hr, hl, ch, hsrc, q⟩ => ?_) hs hpl) hdb)
  subst ev
  obtain ⟨u1, u2, rfl, ra, rr⟩ := vals2 r1
  obtain rfl : u1 = .ref a := ra
  obtain ⟨t, rfl⟩ := rr
  have fin : ∀ {G : Heap → Prop}, Coll (.ref a) G (fun ws => Vals (ns.map V.int) ws) → G s1.heap → wpAny (model X.prog X.w) X.A (call (.type "itertools.combinations") [.ref a, .int (r : Int) t]) (fun v s1 => wpAny (model X.prog X.w) X.A (pyIter v) (PIE X pins σ tg R) X.xe s1) X.xe s1 := by
    intro G C g
    refine begin_c (m := ns.length) C (fun us h => by have := h.length; rw [List.length_map] at this; exact this.symm) hr hl (I1.ok.hd hc) g fun h1 h2 tk us k1 hu k2 hP hC => ?_
    have I2 : Inv X pins σ H1 { s1 with heap := h1 } := I1.kept (t' := s1.toks) k1
    have I3 : Inv X pins σ H1 { s1 with heap := h2, toks := tk } := I2.kept (t' := tk) k2
    refine iter_c (s := { s1 with heap := h2, toks := tk }) hC ?_
    have hne : (h1.objs.size : Nat) ≠ h1.objs.size + 1 := Nat.ne_of_lt (Nat.lt_succ_self _)
    refine ⟨h1.objs.size + 1, [h1.objs.size + 1, h1.objs.size], _, _, H1, rfl, I3, turnC ch (h1.objs.size + 1) h1.objs.size, ⟨_, _, _, us, hC, hP, hne, hu, ?_⟩, fun b hb => ?_, q⟩
    · by_cases hz : ns.length < r
      · exact .inl ⟨hz, by rw [if_pos hz]⟩
      · exact .inr ⟨by omega, .inl ⟨rfl, by rw [if_neg hz], rfl⟩⟩
    · have hle : h1.objs.size ≤ b := by
        rcases (show b = h1.objs.size + 1 ∨ b = h1.objs.size by simpa using hb) with z | z
        · subst z; exact Nat.le_add_right _ _
        · subst z; exact Nat.le_refl _
      exact I2.fpOk hle (I2.hok.fresh hle)
  rcases hsrc with ⟨lo, hi, h1, h2, h3⟩ | h1 | h1
  · obtain ⟨t1, t2, t3, ho⟩ := I1.hok _ _ h1
    subst h3
    exact fin (coll_rng (t := t1) (u := t2) (v := t3) h2) ho
  · obtain ⟨its, rv, pl, hz⟩ := I1.list h1
    obtain ⟨o, ho, hco, n, hd⟩ := pl.isList
    exact fin (coll_seq (.inl rfl) rv hl) ⟨o, n, ho, hco, hd⟩
  · obtain ⟨its, rv, pl, hz⟩ := I1.tuple h1
    obtain ⟨o, ho, hco, n, hd⟩ := pl
    exact fin (coll_seq (.inr rfl) rv hl) ⟨o, n, ho, hco, hd⟩
end RfH

namespace Rf
open PySem PySem.Spec PyProof.Rows L2
open RfH (nxt Chain ItC)
/-- the choices, one after the other -/
def goC (m : Nat) : Nat → List Nat → Option (List (List Nat))
  | 0, _ => none
  | k + 1, idx => match nxt m idx with
    | none => some [idx]
    | some idx' => (goC m k idx').map (idx :: ·)
def cmb (m r : Nat) : Option (List (List Nat)) := if m < r then some [] else goC m 2000 (List.range r)
def cmbOk (m : Nat) (cs : List (List Nat)) : Bool := decide (cs.length ≤ 100000) && cs.all fun c => decide (c.length ≤ 1000) && c.all fun j => decide (j < m)
theorem goC_chain {m : Nat} : ∀ (k : Nat) (idx : List Nat) (cs : List (List Nat)), goC m k idx = some cs → cs[0]? = some idx ∧ ∀ i c, cs[i]? = some c → nxt m c = cs[i + 1]?
  | 0, _, _, h => by cases h
  | k + 1, idx, cs, h => by
    unfold goC at h
    cases hn : nxt m idx with
    | none =>
      rw [hn] at h
      cases h
      refine ⟨rfl, fun i c hc => ?_⟩
      cases i with
      | zero => cases hc; rw [hn]; rfl
      | succ i => simp at hc
    | some idx' =>
      rw [hn] at h
      obtain ⟨cs', h1, rfl⟩ := Option.map_eq_some_iff.mp h
      obtain ⟨h2, h3⟩ := goC_chain k idx' cs' h1
      refine ⟨rfl, fun i c hc => ?_⟩
      cases i with
      | zero =>
        cases hc
        rw [hn]
        exact h2.symm
      | succ i => exact h3 i c hc
theorem cmb_chain {m r : Nat} {cs : List (List Nat)} (h : cmb m r = some cs) (ok : cmbOk m cs = true) : Chain m r cs ∧ cs.length ≤ 100000 := by
  obtain ⟨o1, o2⟩ := Bool.and_eq_true_iff.mp ok
  have o1 := of_decide_eq_true o1
  rw [List.all_eq_true] at o2
  have len : ∀ c ∈ cs, c.length ≤ 1000 ∧ ∀ j ∈ c, j < m := fun c hc => by
    obtain ⟨k1, k2⟩ := Bool.and_eq_true_iff.mp (o2 c hc)
    rw [List.all_eq_true] at k2
    exact ⟨of_decide_eq_true k1, fun j hj => of_decide_eq_true (k2 j hj)⟩
  refine ⟨?_, o1⟩
  unfold cmb at h
  split at h
  · rename_i hm
    cases h
    exact ⟨fun _ => rfl, fun z => by omega, fun i c hc => by simp at hc, len⟩
  · rename_i hm
    obtain ⟨h2, h3⟩ := goC_chain _ _ _ h
    exact ⟨fun z => absurd z hm, fun _ => h2, h3, len⟩
def combL (ns : List Int) (cs : List (List Nat)) : List D := cs.map fun c => .tup (c.map fun j => .int (ns.getD j 0))
/-- whole numbers, all of a row -/
def intsOf : List D → Option (List Int)
  | [] => some []
  | .int i :: ds => (intsOf ds).map (i :: ·)
  | _ => none
theorem intsOf_eq : ∀ {ds : List D} {ns : List Int}, intsOf ds = some ns → ds = ns.map .int
  | [], ns, h => by cases h; rfl
  | .int i :: ds, ns, h => by
    obtain ⟨ms, h1, rfl⟩ := Option.map_eq_some_iff.mp (show (intsOf ds).map (i :: ·) = some ns from h)
    rw [intsOf_eq h1]
    rfl
  | .non :: _, _, h => by cases h
  | .bl _ :: _, _, h => by cases h
  | .str _ :: _, _, h => by cases h
  | .tup _ :: _, _, h => by cases h
  | .lst _ :: _, _, h => by cases h
  | .scr _ :: _, _, h => by cases h
  | .dct _ _ :: _, _, h => by cases h
  | .ref _ :: _, _, h => by cases h
  | .fn _ :: _, _, h => by cases h
def combD (ns : List Int) (r : Int) : Option (List D) := if 0 ≤ r ∧ r ≤ 1000 ∧ ns.length ≤ 1000 then (cmb ns.length r.toNat).bind fun cs => if cmbOk ns.length cs = true then some (combL ns cs) else none else none
/-- range(n) as numbers -/
def rgI (n : Int) : List Int := (List.range n.toNat).map fun i : Nat => (i : Int)
def iCombR (tn tr : DA) : DI := fun env S => (tn env S).bind fun p => (tr env p.2).bind fun q => match p.1, q.1 with
  | [.int n], [.int r] => if 0 ≤ n ∧ n ≤ 1000 then (combD (rgI n) r).map fun xs => ((xs, none), q.2) else none
  | _, _ => none
def iCombL (t : DA) : DI := fun env S => (t env S).bind fun p => match p.1 with
  | [x, .int r] => (seqD p.2 x).bind fun y => (intsOf y.2).bind fun ns => (combD ns r).map fun xs => ((xs, none), p.2)
  | _ => none
theorem itC_ok {K : PySem.W.Frag} {mg : Mg} {Z : Addr → Prop} {α : Nat → Option Addr} {β : List Addr} {H : Hp} {b : Bool} {ns : List Int} {cs : List (List Nat)} : ItOk K mg b Z α β H (ItC ns cs) (combL ns cs) none where
  go := fun i d Z1 α1 β1 env1 S1 σ1 H1 R1 k g e => by
    unfold combL at e
    rw [List.getElem?_map] at e
    obtain ⟨c, e1, rfl⟩ := Option.map_eq_some_iff.mp e
    refine ⟨(List.getElem?_eq_some_iff.mp e1).1, fun z H2 hy => ?_⟩
    obtain ⟨T, c', o, rfl, n, e2, hd, rfl⟩ := hy
    rw [e1] at e2
    cases e2
    have rp : Reps K mg β1 (Oo Z1 α1 β1) H1 (c.map fun j => .int (ns.getD j 0)) (c.map fun j => V.int (ns.getD j 0)) := by
      have := Reps.of_ints (K := K) (mg := mg) (β := β1) (O := Oo Z1 α1 β1) (H := H1) (ns := c.map fun j => ns.getD j 0)
      rw [List.map_map, List.map_map] at this
      exact this
    exact ⟨same_upd' n, R1.nw n, Adv.upd n, R1.tupN rp n hd⟩
  stop := fun i Z1 α1 β1 env1 S1 σ1 H1 R1 k g hl => by
    unfold combL at hl
    rw [List.length_map] at hl
    exact hl
theorem combD_some {ns : List Int} {r : Int} {xs : List D} (h : combD ns r = some xs) : ∃ (k : Nat) (cs : List (List Nat)), r = (k : Int) ∧ k ≤ 1000 ∧ ns.length ≤ 1000 ∧ Chain ns.length k cs ∧ xs = combL ns cs ∧ xs.length ≤ 100000 := by
  unfold combD at h
  split at h
  · rename_i hc
    obtain ⟨cs, h1, h2⟩ := Option.bind_eq_some_iff.mp h
    split at h2
    · rename_i ok
      cases h2
      obtain ⟨k1, k2⟩ := cmb_chain h1 ok
      exact ⟨r.toNat, cs, by omega, by omega, hc.2.2, k1, rfl, by unfold combL; rw [List.length_map]; exact k2⟩
    · cases h2
  · cases h
section
variable {X : Cx} {b : Bool} {p pos pos2 : Pos} {tg e e2 en : Expr} {x : PySem.Str}
theorem cr_range1 : CallR X (.type "range") (fun vs H Q => ∃ i, vs = [V.int i] ∧ ∀ p, H p = none → Q (.ref p) (upd H p (.rng 0 i))) := by
  intro pins s σ H vs us Q I r h
  obtain ⟨i, rfl, q⟩ := h
  match r with
  | .cons ri .nil =>
    obtain ⟨t, rfl⟩ := ri
    exact call_range_1 ⟨.ref s.heap.objs.size, upd H s.heap.objs.size (.rng 0 i), I.laid (t' := s.toks + 1 + 1) (fun b o e => Heap.get?_push_of_some _ e) (Nat.le_refl _) ⟨s.toks, t, s.toks + 1, Heap.get?_push_size _ rfl⟩, rfl, q _ (I.hok.fresh (Nat.le_refl _))⟩
theorem I.combR {tn tr : DA} {pr p2 : Pos} (hc : X.calm = true) (hg : Gl X x) (hm : X.mg x = some (.type "itertools.combinations")) (hgr : Gl X "range") (hmr : X.mg "range" = none) (hn : AX X true [en] tn) (hr : AX X true [e2] tr) (hdb : (x == ("__debug__" : PySem.Str)) = false := by decide)
    (hs0 : starEach [en] X.env = (false, eval en X.env) :: starEach [] X.env := by rfl) (hs1 : starEach [.Call (.Name "range" pr) [en] [] p2, e2] X.env = (false, eval (.Call (.Name "range" pr) [en] [] p2) X.env) :: starEach [e2] X.env := by rfl) (hpl : (backTo pos (starEach [e2] X.env)).any (·.1) = false := by rfl) :
    IX X b tg (.Call (.Name x p) [.Call (.Name "range" pr) [en] [] p2, e2] [] pos) (iCombR tn tr) :=
  PI.imp (RfH.pi_comb hc hg hm (pa_cons (pe_callTy cr_range1 hgr hmr boot_range hn (he := hs0)) hr hs1) hdb hs1 hpl) fun σ H R' ⟨Z, α, β, env, S, items, gd, S', R, e1, q⟩ => by
    unfold iCombR at e1
    obtain ⟨⟨xs, S1⟩, ex, e1b⟩ := Option.bind_eq_some_iff.mp e1
    obtain ⟨⟨ys, S2⟩, ey, e1c⟩ := Option.bind_eq_some_iff.mp e1b
    clear e1 e1b
    simp only at e1c
    split at e1c
    · rename_i n r
      split at e1c
      · rename_i hn1
        obtain ⟨its, e3, e4⟩ := Option.map_eq_some_iff.mp e1c
        cases e4
        obtain ⟨k, cs, rfl, hk, hl, ch, rfl, hz⟩ := combD_some e3
        refine ⟨Z, α, β, env, S, _, _, R, ex, fun vs H1 β1 R1 A1 r1 => ?_⟩
        obtain ⟨v, rfl, rv⟩ := Paired.one r1
        refine ⟨n, by rw [rv.int], fun a na => ⟨Z, α, β1, env, S1, _, _, R1.nw na, ey, fun ws H2 β2 R2 A2 r2 => ?_⟩⟩
        obtain ⟨v2, rfl, rv2⟩ := Paired.one r2
        have ha : H2 a = some (.rng 0 n) := A2.keep a _ upd_same fun z => R1.notO na (.inr (.inl z))
        refine ⟨a, k, rgI n, cs, by rw [rv2.int], hk, hl, ch, .inl ⟨0, n, ha, ?_, ?_⟩, q _ H2 β2 R2 ((A1.trb (Adv.upd na)).trb A2) (by rw [sizeLine_eq]; omega) itC_ok⟩
        · have : (rgI n).length = n.toNat := by unfold rgI; simp
          exact RgOk.of_le (by omega) (by omega) (by omega) hn1.1
        · unfold rgI
          rw [Int.sub_zero]
          apply List.map_congr_left
          intro i _
          omega
      · cases e1c
    · cases e1c
theorem I.combL {t : DA} (hc : X.calm = true) (hg : Gl X x) (hm : X.mg x = some (.type "itertools.combinations")) (h : AX X b [e, e2] t) (hdb : (x == ("__debug__" : PySem.Str)) = false := by decide)
    (hs1 : starEach [e, e2] X.env = (false, eval e X.env) :: starEach [e2] X.env := by rfl) (hpl : (backTo pos (starEach [e2] X.env)).any (·.1) = false := by rfl) : IX X b tg (.Call (.Name x p) [e, e2] [] pos) (iCombL t) :=
  PI.imp (RfH.pi_comb hc hg hm h hdb hs1 hpl) fun σ H R' ⟨Z, α, β, env, S, items, gd, S', R, e1, q⟩ => by
    unfold iCombL at e1
    obtain ⟨⟨xs, S1⟩, ex, e1b⟩ := Option.bind_eq_some_iff.mp e1
    clear e1
    simp only at e1b
    split at e1b
    · rename_i d r
      obtain ⟨⟨tp, ys⟩, e2, e1c⟩ := Option.bind_eq_some_iff.mp e1b
      obtain ⟨ns, e3, e1d⟩ := Option.bind_eq_some_iff.mp e1c
      obtain ⟨its, e4, e5⟩ := Option.map_eq_some_iff.mp e1d
      clear e1b e1c e1d
      cases e5
      obtain ⟨k, cs, rfl, hk, hl, ch, rfl, hz⟩ := combD_some e4
      have e3 : intsOf ys = some ns := e3
      have ey := intsOf_eq e3
      subst ey
      refine ⟨Z, α, β, env, S, _, _, R, ex, fun vs H1 β1 R1 A1 r1 => ?_⟩
      obtain ⟨v, w, rfl, rv, rw2⟩ := Paired.two r1
      obtain ⟨a, us, rfl, rr, hh⟩ := rv.seq R1 e2
      have eu := rr.ints
      subst eu
      refine ⟨a, k, ns, cs, by rw [rw2.int], hk, hl, ch, .inr ?_, q _ H1 β1 R1 A1 (by rw [sizeLine_eq]; omega) itC_ok⟩
      cases tp with
      | true => exact .inr (seq_tt hh)
      | false => exact .inl (.of (seq_ff hh))
    · cases e1b
end
/-- a name for a built-in class -/
def ckTy (x : PySem.Str) (T : String) : Ck := fun K => match PySem.W.nsIn K mainGlobals x with
  | some (some (.type U)) => decide (U = T)
  | _ => false
theorem TxG.ty {K : PySem.W.Frag} {mg : PySem.Str → Option Value} {h : Heap} {fa : List He.Fa} {fn : List He.DefD} {bf : List Bf} {cs : List Ck} (T : TxG fa fn bf cs K h mg) (i : Nat) {x : PySem.Str} {N : String} (e : cs[i]? = some (ckTy x N) := by rfl) : mg x = some (.type N) := by
  have c := T.ck i e
  unfold ckTy at c
  split at c
  · rename_i U hU
    have c := of_decide_eq_true c
    subst c
    exact PySem.W.mg_of T.t.kin T.t.ns hU
  · cases c
end Rf
end
section
set_option maxHeartbeats 2000000
/-! Rf, part J: list(range(..)). -/
namespace Rf
open PySem PySem.Spec PyProof.Rows L2
section
variable {X : Cx} {b : Bool} {p pos pr p2 : Pos} {e en em : Expr} {t tn tm : DE}
noncomputable def lrD (i j : Int) : Option D := chk (-(2 ^ 62) ≤ i ∧ i < 2 ^ 62 ∧ -(2 ^ 62) ≤ j ∧ j < 2 ^ 62 ∧ (j - i).toNat ≤ 2 ^ 24) (some (.lst (rngL i (j - i).toNat)))
noncomputable def lr1 (_ : Sto) : D → Option D
  | .int j => lrD 0 j
  | _ => none
noncomputable def lr2 (_ : Sto) (x y : D) : Option D := match x, y with
  | .int i, .int j => lrD i j
  | _, _ => none
theorem reps_rng {K : PySem.W.Frag} {mg : Mg} {β : List Addr} {O : Addr → Prop} {H : Hp} (i j : Int) : Reps K mg β O H (rngL i (j - i).toNat) (rgV i j) := by
  have := Reps.of_ints (K := K) (mg := mg) (β := β) (O := O) (H := H) (ns := (List.range (j - i).toNat).map fun k : Nat => i + (k : Int))
  rw [List.map_map, List.map_map] at this
  exact this
theorem F.lrng1 (hc : X.calm = true) (hgl : Gl X "list") (hml : X.mg "list" = none) (hgr : Gl X "range") (hmr : X.mg "range" = none) (hn : EX X true en tn)
    (na : starEach [en] X.env = (false, eval en X.env) :: starEach [] X.env := by rfl) (nb : starEach [.Call (.Name "range" pr) [en] [] p2] X.env = (false, eval (.Call (.Name "range" pr) [en] [] p2) X.env) :: starEach [] X.env := by rfl) :
    EF X (.Call (.Name "list" p) [.Call (.Name "range" pr) [en] [] p2] [] pos) (dOp1 lr1 tn) :=
  PE.imp (pe_listRg hc hgl hml (prg_1 hgr hmr hn na) nb) fun σ H Q ⟨Z, α, β, env, S, d, S', R, e1, q⟩ => by
    unfold dOp1 at e1
    obtain ⟨⟨x, S1⟩, ex, e1b⟩ := Option.bind_eq_some_iff.mp e1
    obtain ⟨z, ez, e2⟩ := Option.map_eq_some_iff.mp e1b
    clear e1 e1b
    obtain ⟨e2, e4⟩ := Prod.mk.inj e2
    subst e2 e4
    refine ⟨Z, α, β, env, S, x, _, R, ex, fun v H1 β1 R1 A1 r1 => ?_⟩
    replace ez : lr1 S1 x = some z := ez
    unfold lr1 at ez
    split at ez
    · rename_i j
      obtain ⟨hk, ez⟩ := chk_some ez
      cases ez
      exact ⟨j, r1.int, hk, fun a n => q a _ (.lst _) _ β1 (R1.apart n _) (A1.trb (Adv.upd n)) (A1.fresh n) upd_same rfl (CellOk.apart (.lst (reps_rng 0 j)) n)⟩
    · cases ez
theorem F.lrng2 (hc : X.calm = true) (hgl : Gl X "list") (hml : X.mg "list" = none) (hgr : Gl X "range") (hmr : X.mg "range" = none) (hn : EX X true en tn) (hm : EX X true em tm)
    (na : starEach [en, em] X.env = (false, eval en X.env) :: starEach [em] X.env := by rfl) (nc : starEach [em] X.env = (false, eval em X.env) :: starEach [] X.env := by rfl) (hp : (backTo p2 (starEach [em] X.env)).any (·.1) = false := by rfl)
    (nb : starEach [.Call (.Name "range" pr) [en, em] [] p2] X.env = (false, eval (.Call (.Name "range" pr) [en, em] [] p2) X.env) :: starEach [] X.env := by rfl) :
    EF X (.Call (.Name "list" p) [.Call (.Name "range" pr) [en, em] [] p2] [] pos) (dOp2 lr2 tn tm) :=
  PE.imp (pe_listRg hc hgl hml (prg_2 hgr hmr hn hm na nc hp) nb) fun σ H Q ⟨Z, α, β, env, S, d, S', R, e1, q⟩ => by
    unfold dOp2 at e1
    obtain ⟨⟨x, S1⟩, ex, e1b⟩ := Option.bind_eq_some_iff.mp e1
    obtain ⟨⟨y, S2⟩, ey, e1c⟩ := Option.bind_eq_some_iff.mp e1b
    obtain ⟨z, ez, e2⟩ := Option.map_eq_some_iff.mp e1c
    clear e1 e1b e1c
    obtain ⟨e2, e4⟩ := Prod.mk.inj e2
    subst e2 e4
    refine ⟨Z, α, β, env, S, x, S1, R, ex, fun v H1 β1 R1 A1 r1 => ⟨Z, α, β1, env, S1, y, _, R1, ey, fun w H2 β2 R2 A2 r2 => ?_⟩⟩
    have A := A1.trb A2
    replace ez : lr2 S2 x y = some z := ez
    unfold lr2 at ez
    split at ez
    · rename_i i j
      obtain ⟨hk, ez⟩ := chk_some ez
      cases ez
      exact ⟨i, j, r1.int, r2.int, hk, fun a n => q a _ (.lst _) _ β2 (R2.apart n _) (A.trb (Adv.upd n)) (A.fresh n) upd_same rfl (CellOk.apart (.lst (reps_rng i j)) n)⟩
    · cases ez
noncomputable def trD (i j : Int) : Option D := chk (-(2 ^ 62) ≤ i ∧ i < 2 ^ 62 ∧ -(2 ^ 62) ≤ j ∧ j < 2 ^ 62 ∧ (j - i).toNat ≤ 2 ^ 24) (some (.tup (rngL i (j - i).toNat)))
noncomputable def tr1 (_ : Sto) : D → Option D
  | .int j => trD 0 j
  | _ => none
noncomputable def tr2 (_ : Sto) (x y : D) : Option D := match x, y with
  | .int i, .int j => trD i j
  | _, _ => none
theorem E.trng1 (hc : X.calm = true) (hgl : Gl X "tuple") (hml : X.mg "tuple" = none) (hgr : Gl X "range") (hmr : X.mg "range" = none) (hn : EX X true en tn)
    (na : starEach [en] X.env = (false, eval en X.env) :: starEach [] X.env := by rfl) (nb : starEach [.Call (.Name "range" pr) [en] [] p2] X.env = (false, eval (.Call (.Name "range" pr) [en] [] p2) X.env) :: starEach [] X.env := by rfl) :
    EX X b (.Call (.Name "tuple" p) [.Call (.Name "range" pr) [en] [] p2] [] pos) (dOp1 tr1 tn) :=
  PE.imp (pe_tupRgN hc hgl hml (prg_1 hgr hmr hn na) nb) fun σ H Q ⟨Z, α, β, env, S, d, S', R, e1, q⟩ => by
    unfold dOp1 at e1
    obtain ⟨⟨x, S1⟩, ex, e1b⟩ := Option.bind_eq_some_iff.mp e1
    obtain ⟨z, ez, e2⟩ := Option.map_eq_some_iff.mp e1b
    clear e1 e1b
    obtain ⟨e2, e4⟩ := Prod.mk.inj e2
    subst e2 e4
    refine ⟨Z, α, β, env, S, x, _, R, ex, fun v H1 β1 R1 A1 r1 => ?_⟩
    replace ez : tr1 S1 x = some z := ez
    unfold tr1 at ez
    split at ez
    · rename_i j
      obtain ⟨hk, ez⟩ := chk_some ez
      cases ez
      exact ⟨j, r1.int, hk, fun a o n hd => q _ _ β1 (R1.nw n) (A1.trb (Adv.upd n)) (.inl (R1.tupN (reps_rng 0 j) n hd))⟩
    · cases ez
theorem E.trng2 (hc : X.calm = true) (hgl : Gl X "tuple") (hml : X.mg "tuple" = none) (hgr : Gl X "range") (hmr : X.mg "range" = none) (hn : EX X true en tn) (hm : EX X true em tm)
    (na : starEach [en, em] X.env = (false, eval en X.env) :: starEach [em] X.env := by rfl) (nc : starEach [em] X.env = (false, eval em X.env) :: starEach [] X.env := by rfl) (hp : (backTo p2 (starEach [em] X.env)).any (·.1) = false := by rfl)
    (nb : starEach [.Call (.Name "range" pr) [en, em] [] p2] X.env = (false, eval (.Call (.Name "range" pr) [en, em] [] p2) X.env) :: starEach [] X.env := by rfl) :
    EX X b (.Call (.Name "tuple" p) [.Call (.Name "range" pr) [en, em] [] p2] [] pos) (dOp2 tr2 tn tm) :=
  PE.imp (pe_tupRgN hc hgl hml (prg_2 hgr hmr hn hm na nc hp) nb) fun σ H Q ⟨Z, α, β, env, S, d, S', R, e1, q⟩ => by
    unfold dOp2 at e1
    obtain ⟨⟨x, S1⟩, ex, e1b⟩ := Option.bind_eq_some_iff.mp e1
    obtain ⟨⟨y, S2⟩, ey, e1c⟩ := Option.bind_eq_some_iff.mp e1b
    obtain ⟨z, ez, e2⟩ := Option.map_eq_some_iff.mp e1c
    clear e1 e1b e1c
    obtain ⟨e2, e4⟩ := Prod.mk.inj e2
    subst e2 e4
    refine ⟨Z, α, β, env, S, x, S1, R, ex, fun v H1 β1 R1 A1 r1 => ⟨Z, α, β1, env, S1, y, _, R1, ey, fun w H2 β2 R2 A2 r2 => ?_⟩⟩
    have A := A1.trb A2
    replace ez : tr2 S2 x y = some z := ez
    unfold tr2 at ez
    split at ez
    · rename_i i j
      obtain ⟨hk, ez⟩ := chk_some ez
      cases ez
      exact ⟨i, j, r1.int, r2.int, hk, fun a o n hd => q _ _ β2 (R2.nw n) (A.trb (Adv.upd n)) (.inl (R2.tupN (reps_rng i j) n hd))⟩
    · cases ez
end
end Rf
end
section
set_option maxHeartbeats 2000000
/-! Rf, part K: list(range(a, b, -1)). -/
namespace Rf
open PySem PySem.Spec PyProof.Rows L2
section
variable {X : Cx} {b : Bool} {p pos pr p2 : Pos} {e1 e2 e3 : Expr} {ta : TA}
def dnV (a : Int) (n : Nat) : List V := (List.range n).map fun i : Nat => V.int (a + (i : Int) * (-1))
theorem vals_dn {a : Int} {n : Nat} {acc : Array Value} (h : ItemsOf (fun i v => ∃ t, v = .int (a + i * (-1)) t) acc n) : Vals (dnV a n) acc.toList := by
  have e : acc.toList.length = n := by rw [Array.length_toList]; exact h.1
  unfold dnV
  rw [← e]
  refine vals_of_get acc.toList _ fun j u hj => ?_
  obtain ⟨t, rfl⟩ := h.2 j u (by rw [← hj, Array.getElem?_toList])
  exact ⟨t, rfl⟩
def tLstDn (ta : TA) : TE := fun σ H Q => ta σ H fun vs H1 => ∃ i j : Int, vs = [.int i, .int j, .int (-1)] ∧ -(2 ^ 62) ≤ i ∧ i < 2 ^ 62 ∧ -(2 ^ 62) ≤ j ∧ j < 2 ^ 62 ∧ (i - j).toNat ≤ 2 ^ 24 ∧ ∀ q, H1 q = none → Q (.ref q) (upd H1 q (.lst (dnV i (i - j).toNat)))
theorem pe_listDn (hc : X.calm = true) (hgl : Gl X "list") (hml : X.mg "list" = none) (hg : Gl X "range") (hm : X.mg "range" = none) (ha : PA X [e1, e2, e3] ta)
    (hs : starEach [e1, e2, e3] X.env = (false, eval e1 X.env) :: starEach [e2, e3] X.env := by rfl) (hpl : (backTo p2 (starEach [e2, e3] X.env)).any (·.1) = false := by rfl)
    (na : starEach [.Call (.Name "range" pr) [e1, e2, e3] [] p2] X.env = (false, eval (.Call (.Name "range" pr) [e1, e2, e3] [] p2) X.env) :: starEach [] X.env := by rfl) :
    PE X (.Call (.Name "list" p) [.Call (.Name "range" pr) [e1, e2, e3] [] p2] [] pos) (tLstDn ta) := by
  refine ⟨fun pins s σ H Q I h => ?_⟩
  refine Call_ (ld_blt I hgl hml boot_list (PyProof.Rows.callWith_type1 (args_cons (thn (Q := fun x s' => ∃ r i j t u v H', x = .ref r ∧ IsRange s'.heap r i j (-1) t u v ∧ Inv X pins σ H' s' ∧ (-(2 ^ 62) ≤ i ∧ i < 2 ^ 62 ∧ -(2 ^ 62) ≤ j ∧ j < 2 ^ 62 ∧ (i - j).toNat ≤ 2 ^ 24 ∧ ∀ q, H' q = none → Q (.ref q) (upd H' q (.lst (dnV i (i - j).toNat))))) ?_ fun x s1 ⟨r, i, j, t, u, v, H1, ex, hr, I1, ok, q⟩ => args_nil ?_) na) na))
  · refine Call_ (ld_blt I hg hm boot_range (PyProof.Rows.callWith_type1 (thn (ha.run p2 pins s σ H _ I h) fun us s1 ⟨vs, H1, I1, r1, q1⟩ => ?_) hs hpl))
    obtain ⟨i, j, e, q⟩ := q1
    subst e
    cases r1 with
    | cons r rr =>
      cases rr with
      | cons r' rr =>
        cases rr with
        | cons r'' rr =>
          cases rr
          obtain ⟨t, rfl⟩ := r
          obtain ⟨t', rfl⟩ := r'
          obtain ⟨t'', rfl⟩ := r''
          exact call_range_3 (by decide) ⟨_, i, j, t, t', t'', H1, rfl, IsRange.new .., I1.kept (t' := s1.toks) fun b o e => Heap.get?_push_of_some _ e, q⟩ (.inl (PyProof.noPylong_small (by decide)))
  · subst ex
    obtain ⟨b2, b3, b4, b5, q⟩ := q
    refine call_list_range (n := (i - j).toNat) (I1.ok.hd hc) hr (PySem.W.small_down ok b2 b3 b4) (PySem.W.rangeSize_downNat i j) b5 fun h' tk acc c' hk e' hi => ?_
    refine ⟨.ref s1.heap.objs.size, upd H1 s1.heap.objs.size (.lst (dnV i (i - j).toNat)), I1.laid hk (Nat.le_refl _) (show ObjOk X.prog X.w _ _ _ (.lst (dnV i (i - j).toNat)) from ⟨?_, acc.toList, c', vals_dn hi, ?_⟩), rfl, q _ (I1.hok.fresh (Nat.le_refl _))⟩
    · unfold dnV; rw [List.length_map, List.length_range, sizeLine_eq]; omega
    · rw [Array.toArray_toList]; exact e'
theorem reps_dn {K : PySem.W.Frag} {mg : Mg} {β : List Addr} {O : Addr → Prop} {H : Hp} (i : Int) (n : Nat) : Reps K mg β O H (dwnL i n) (dnV i n) := by
  have := Reps.of_ints (K := K) (mg := mg) (β := β) (O := O) (H := H) (ns := (List.range n).map fun k : Nat => i + (k : Int) * (-1))
  rw [List.map_map, List.map_map] at this
  exact this
noncomputable def lr3 (_ : Sto) (xs : List D) : Option D := match xs with
  | [.int i, .int j, .int c] => if c = -1 then chk (-(2 ^ 62) ≤ i ∧ i < 2 ^ 62 ∧ -(2 ^ 62) ≤ j ∧ j < 2 ^ 62 ∧ (i - j).toNat ≤ 2 ^ 24) (some (.lst (dwnL i (i - j).toNat))) else none
  | _ => none
theorem F.lrng3 {a : DA} (hc : X.calm = true) (hgl : Gl X "list") (hml : X.mg "list" = none) (hgr : Gl X "range") (hmr : X.mg "range" = none) (ha : AX X true [e1, e2, e3] a)
    (hs : starEach [e1, e2, e3] X.env = (false, eval e1 X.env) :: starEach [e2, e3] X.env := by rfl) (hpl : (backTo p2 (starEach [e2, e3] X.env)).any (·.1) = false := by rfl)
    (na : starEach [.Call (.Name "range" pr) [e1, e2, e3] [] p2] X.env = (false, eval (.Call (.Name "range" pr) [e1, e2, e3] [] p2) X.env) :: starEach [] X.env := by rfl) :
    EF X (.Call (.Name "list" p) [.Call (.Name "range" pr) [e1, e2, e3] [] p2] [] pos) (dOpA lr3 a) :=
  PE.imp (pe_listDn hc hgl hml hgr hmr ha hs hpl na) fun σ H Q ⟨Z, α, β, env, S, d, S', R, e1, q⟩ => by
    unfold dOpA at e1
    obtain ⟨⟨xs, S1⟩, ex, e1b⟩ := Option.bind_eq_some_iff.mp e1
    obtain ⟨z, ez, e2⟩ := Option.map_eq_some_iff.mp e1b
    clear e1 e1b
    obtain ⟨e2, e4⟩ := Prod.mk.inj e2
    subst e2 e4
    refine ⟨Z, α, β, env, S, xs, _, R, ex, fun vs H1 β1 R1 A1 r1 => ?_⟩
    replace ez : lr3 S1 xs = some z := ez
    unfold lr3 at ez
    split at ez
    · rename_i i j c
      split at ez
      · rename_i hc
        subst hc
        obtain ⟨hk, ez⟩ := chk_some ez
        cases ez
        obtain ⟨v, w, x, rfl, r, r2, r3⟩ := Paired.three r1
        exact ⟨i, j, by rw [r.int, r2.int, r3.int], hk.1, hk.2.1, hk.2.2.1, hk.2.2.2.1, hk.2.2.2.2, fun a n => q a _ (.lst _) _ β1 (R1.apart n _) (A1.trb (Adv.upd n)) (A1.fresh n) upd_same rfl (CellOk.apart (.lst (reps_dn i _)) n)⟩
      · cases ez
    · cases ez
end
end Rf
end
section
set_option maxHeartbeats 2000000
/-! Rf, part L: a < b < c < d. -/
namespace Rf
open PySem PySem.Spec PyProof.Rows L2
section
variable {X : Cx} {pos : Pos} {a b c e : Expr} {ta tb tc te : TE}
def tChain3 (r1 r2 r3 : R2) (ta tb tc te : TE) : TE := fun σ H Q => ta σ H fun x H1 => tb σ H1 fun y H2 => r1 x y H2 fun z H3 => ∃ k, z = .bl k ∧
  (if k = true then tc σ H3 fun w H4 => r2 y w H4 fun z2 H5 => ∃ k2, z2 = .bl k2 ∧ (if k2 = true then te σ H5 fun v H6 => r3 w v H6 Q else Q (.bl false) H5) else Q (.bl false) H3)
theorem pt_chain3 {o1 o2 o3 : CmpOp} {r1 r2 r3 : R2} (h1 : OpR X (compareOp o1) r1) (h2 : OpR X (compareOp o2) r2) (h3 : OpR X (compareOp o3) r3) (ha : PE X a ta) (hb : PE X b tb) (hc : PE X c tc) (he : PE X e te)
    (hm : lastMarks [o1, o2, o3] [b, c, e] = false := by with_unfolding_all rfl) : PT X (.Compare a [o1, o2, o3] [b, c, e] pos) (tTest (tChain3 r1 r2 r3 ta tb tc te)) := by
  refine ⟨fun pins s σ H Q I h => ?_⟩
  refine isTrue_chain (thn (ha.run pins s σ H _ I h) fun v s1 ⟨x, H1, I1, q1, p1⟩ => test_link (thn (hb.run pins s1 σ H1 _ I1 p1) fun u s2 ⟨y, H2, I2, q2, p2⟩ =>
    thn (h1 pins s2 σ H2 x y v u _ I2 q1 q2 p2) fun d s3 ⟨z, H3, I3, q3, k, ek, p3⟩ => ?_)) hm
  subst ek
  cases q3
  refine wpAny_truthy_bool ?_
  cases k with
  | false =>
    obtain ⟨k', e', q'⟩ := p3
    cases e'
    exact ite_ff ⟨H3, I3, q'⟩
  | true =>
    refine ite_tt (test_link (thn (hc.run pins s3 σ H3 _ I3 p3) fun w s4 ⟨y4, H4, I4, q4, p4⟩ => thn (h2 pins s4 σ H4 y y4 u w _ I4 q2 q4 p4) fun d5 s5 ⟨z5, H5, I5, q5, k5, ek5, p5⟩ => ?_))
    subst ek5
    cases q5
    refine wpAny_truthy_bool ?_
    cases k5 with
    | false =>
      obtain ⟨k', e', q'⟩ := p5
      cases e'
      exact ite_ff ⟨H5, I5, q'⟩
    | true =>
      refine ite_tt (test_last (thn (he.run pins s5 σ H5 _ I5 p5) fun w' s6 ⟨z6, H6, I6, q6, p6⟩ => thn (h3 pins s6 σ H6 y4 z6 w w' _ I6 q4 q6 p6) fun d' s7 ⟨z7, H7, I7, q7, k7, e7, p7⟩ => ?_))
      subst e7
      cases q7
      exact wpAny_truthy_bool ⟨H7, I7, p7⟩
end
def dChain3 (f1 f2 f3 : Sto → D → D → Option D) (ta tb tc te : DE) : DE := fun env S => (ta env S).bind fun p => (tb env p.2).bind fun q => (f1 q.2 p.1 q.1).bind fun z => (blOf z).bind fun k =>
  if k = true then (tc env q.2).bind fun r => (f2 r.2 q.1 r.1).bind fun z2 => (blOf z2).bind fun k2 => if k2 = true then (te env r.2).bind fun w => (f3 w.2 r.1 w.1).map fun z => (z, w.2) else some (.bl false, r.2) else some (.bl false, q.2)
section
variable {X : Cx} {b : Bool} {pos : Pos} {ea eb ec ee : Expr} {ta tb tc te : DE}
theorem rd_chain3 {r1 r2 r3 : R2} {f1 f2 f3 : Sto → D → D → Option D} (b1 : Br2 X.K (mX X) r1 f1) (b2 : Br2 X.K (mX X) r2 f2) (b3 : Br2 X.K (mX X) r3 f3) (σ : L2.St) (H : Hp) (Q : VK) (h : rdX X.K (mX X) b (dChain3 f1 f2 f3 ta tb tc te) σ H Q) :
    tChain3 r1 r2 r3 (rdX X.K (mX X) true ta) (rdX X.K (mX X) true tb) (rdX X.K (mX X) true tc) (rdX X.K (mX X) true te) σ H Q := by
  obtain ⟨Z, α, β, env, S, d, S', R, e1, q⟩ := h
  unfold dChain3 at e1
  obtain ⟨⟨x, S1⟩, ex, e1⟩ := Option.bind_eq_some_iff.mp e1
  obtain ⟨⟨y, S2⟩, ey, e1⟩ := Option.bind_eq_some_iff.mp e1
  obtain ⟨z, ez, e2⟩ := Option.bind_eq_some_iff.mp e1
  obtain ⟨k, ek, e3⟩ := Option.bind_eq_some_iff.mp e2
  clear e1 e2
  replace e3 : (if k = true then (tc env S2).bind fun r => (f2 r.2 y r.1).bind fun z2 => (blOf z2).bind fun k2 => if k2 = true then (te env r.2).bind fun w => (f3 w.2 r.1 w.1).map fun z => (z, w.2) else some (.bl false, r.2) else some (.bl false, S2)) = some (d, S') := e3
  refine ⟨Z, α, β, env, S, x, S1, R, ex, fun v H1 β1 R1 A1 r1 => ?_⟩
  refine ⟨Z, α, β1, env, S1, y, S2, R1, ey, fun w H2 β2 R2 A2 r2 => ?_⟩
  refine b1 Z α β2 env S2 σ H2 R2 x y v w z (r1.adv R1 A2) r2 ez _ fun z' H3 R3 A3 r3 => ?_
  cases z <;> cases ek
  cases r3
  refine ⟨k, rfl, ?_⟩
  cases k with
  | false =>
    rw [if_neg (by decide)] at e3 ⊢
    cases e3
    exact q _ H3 β2 R3 ((A1.trb A2).trb A3) (.inl (.bl false))
  | true =>
    rw [if_pos rfl] at e3 ⊢
    obtain ⟨⟨u, S3⟩, eu, e4⟩ := Option.bind_eq_some_iff.mp e3
    obtain ⟨z2, ez2, e5⟩ := Option.bind_eq_some_iff.mp e4
    obtain ⟨k2, ek2, e6⟩ := Option.bind_eq_some_iff.mp e5
    clear e3 e4 e5
    replace e6 : (if k2 = true then (te env S3).bind fun w => (f3 w.2 u w.1).map fun z => (z, w.2) else some (.bl false, S3)) = some (d, S') := e6
    refine ⟨Z, α, β2, env, S2, u, S3, R3, eu, fun v4 H4 β4 R4 A4 r4 => ?_⟩
    refine b2 Z α β4 env S3 σ H4 R4 y u w v4 z2 ((r2.adv R2 A3).adv R3 A4) r4 ez2 _ fun z' H5 R5 A5 r5 => ?_
    cases z2 <;> cases ek2
    cases r5
    refine ⟨k2, rfl, ?_⟩
    cases k2 with
    | false =>
      rw [if_neg (by decide)] at e6 ⊢
      cases e6
      exact q _ H5 β4 R5 ((((A1.trb A2).trb A3).trb A4).trb A5) (.inl (.bl false))
    | true =>
      rw [if_pos rfl] at e6 ⊢
      obtain ⟨⟨t, S4⟩, et, e7⟩ := Option.bind_eq_some_iff.mp e6
      obtain ⟨z3, ez3, e8⟩ := Option.map_eq_some_iff.mp e7
      cases e8
      refine ⟨Z, α, β4, env, S3, t, S4, R5, et, fun v6 H6 β6 R6 A6 r6 => ?_⟩
      exact b3 Z α β6 env S4 σ H6 R6 u t v4 v6 d ((r4.adv R4 A5).adv R5 A6) r6 ez3 Q fun z H7 R7 A7 r7 => q z H7 β6 R7 ((((((A1.trb A2).trb A3).trb A4).trb A5).trb A6).trb A7) (.inl r7)
theorem T.chain3 {o1 o2 o3 : CmpOp} {r1 r2 r3 : R2} {f1 f2 f3 : Sto → D → D → Option D} (h1 : OpR X (compareOp o1) r1) (b1 : Br2 X.K (mX X) r1 f1) (h2 : OpR X (compareOp o2) r2) (b2 : Br2 X.K (mX X) r2 f2) (h3 : OpR X (compareOp o3) r3) (b3 : Br2 X.K (mX X) r3 f3) (ha : EX X true ea ta) (hb : EX X true eb tb) (hc : EX X true ec tc) (he : EX X true ee te)
    (hm : lastMarks [o1, o2, o3] [eb, ec, ee] = false := by with_unfolding_all rfl) : TX X (.Compare ea [o1, o2, o3] [eb, ec, ee] pos) (dBl (dChain3 f1 f2 f3 ta tb tc te)) :=
  PT.imp (pt_chain3 h1 h2 h3 ha hb hc he hm) fun σ H Q ⟨Z, α, β, env, S, d, S', R, e1, q⟩ => by
    unfold dBl at e1
    obtain ⟨⟨x, S1⟩, ex, e1⟩ := Option.bind_eq_some_iff.mp e1
    obtain ⟨k, ek, e1⟩ := Option.map_eq_some_iff.mp e1
    cases e1
    refine rd_chain3 (b := false) b1 b2 b3 σ H _ ⟨Z, α, β, env, S, x, S1, R, ex, fun v H1 β1 R1 A1 r1 => ⟨_, ?_, q H1 β1 R1 A1⟩⟩
    cases x <;> cases ek
    exact r1.bl
end
end Rf
end
section
set_option maxHeartbeats 2000000
/-! Rf, part M: f(*t). -/
namespace Rf
open PySem PySem.Spec PyProof.Rows L2
section
variable {X : Cx} {b : Bool} {k n : Nat} {x : PySem.Str} {φ : Fn} {e : Expr} {t : DE} {p sp_ pos : Pos}
theorem pe_callStar {CX : CXT} {f : Addr} {fd : FuncData} {ps : List PySem.Str} {sp : L2.Sp} {E : XK} {te : TE} {dvs : List V} {ds : List Value} (F : FnOk X.prog X.w X.K (mX X) X.base CX k f fd ps sp) (hr : Room k X.A) (hg : Gl X x) (hm : X.mg x = some (.ref f)) (hk : PySem.W.keepIn X.K (.ref f) = true) (hb : Binds X.K fd ps ds) (hd : Vals dvs ds) (hx : Passes CX X E)
    (he : PE X e te) (hdb : (x == ("__debug__" : PySem.Str)) = false := by decide) (hst : starEach [.Starred e sp_] X.env = [(true, eval e X.env)] := by rfl) :
    PE X (.Call (.Name x p) [.Starred e sp_] [] pos) (fun σ H Q => te σ H fun y H1 => ∃ a xs, y = V.ref a ∧ (SqT X.K H1 a xs ∨ SqL X.K H1 a xs) ∧ sp (xs ++ dvs) H1 Q E) := by
  refine ⟨fun pins s σ H Q I h => ?_⟩
  refine wpAny_Call_Name_kw (ld_glob I hg hm ?_ hdb)
  refine PySem.W.callWith_S (h₀ := X.base) I.ok.mod.kin hk (thn (he.run pins s σ H _ I h) fun v s1 ⟨y, H1, I1, ry, a, xs, ey, hxs, q⟩ => ?_) hst
  subst ey
  obtain rfl : v = Value.ref a := ry
  exact StX.star_any I1 hxs fun us s2 I2 rv => ⟨I2.kIn, run_fn F hr hb hd hx I2 rv q⟩
def dCallS (φ : Fn) (t : DE) : DE := fun env S => (t env S).bind fun p => match p.1 with
  | .tup xs => φ xs p.2
  | _ => none
theorem E.callS (F : FnAt X.prog X.w X.K X.mg X.base k x n φ) (hr : Room k X.A) (hg : Gl X x) (ha : EX X false e t) (hdb : (x == ("__debug__" : PySem.Str)) = false := by decide)
    (hst : starEach [.Starred e sp_] X.env = [(true, eval e X.env)] := by rfl) : EX X b (.Call (.Name x p) [.Starred e sp_] [] pos) (dCallS φ t) := by
  obtain ⟨f, fd, ps, h1, h2, h3, h4, F⟩ := F
  refine PE.imp (pe_callStar F hr hg h1 h2 h3 .nil pass0 ha hdb hst) fun σ H Q h => ?_
  obtain ⟨Z, α, β, env, S, d, S', R, e1, q⟩ := h
  unfold dCallS at e1
  obtain ⟨⟨x, S1⟩, ex, e1⟩ := Option.bind_eq_some_iff.mp e1
  refine ⟨Z, α, β, env, S, x, S1, R, ex, fun v H1 β1 R1 A1 r1 => ?_⟩
  simp only at e1
  split at e1
  · rename_i xs
    rcases r1 with r1 | ⟨r1, _⟩
    · cases r1 with
      | tup ht hv =>
        rename_i a vs
        refine ⟨a, vs, rfl, .inl ht.sq, ?_⟩
        rw [List.append_nil]
        refine ⟨Zc Z α, β1, S1, xs, d, S', R1.toCall, by rw [Oo_zc]; exact hv, e1, fun v H2 β2 R2 A2 r2 => ?_⟩
        rw [Oo_zc] at r2
        exact q v H2 β2 (R1.fromCall R2 A2) (A1.trb A2) (.inl r2)
    · cases r1
  · cases e1
end
end Rf
end
section
set_option maxHeartbeats 2000000
/-! Rf, part N: a display of texts, looked up at once. -/
namespace Rf
open PySem PySem.Spec PyProof.Rows L2
abbrev Tab := List (PySem.Str × PySem.Str)
def tabK (tab : Tab) : List (Key × V) := tab.map fun kv => (.inr kv.1, V.str kv.2)
def tabM (tab : Tab) : List (Key × V) := mergeK [] (tabK tab)
def tabAt (tab : Tab) (x : PySem.Str) : Option PySem.Str := match valV (tabM tab) (.inr x) with
  | some (.str y) => some y
  | _ => none
def dTab (tab : Tab) (t : DE) : DE := fun env S => (t env S).bind fun p => match p.1 with
  | .str x => (tabAt tab x).map fun y => (.str y, p.2)
  | _ => none
section
variable {X : Cx} {b : Bool} {i : Expr} {t : DE} {pos pos' : Pos}
def tabT (tab : Tab) : List (TE × TE) := tab.map fun kv => (tC (.str kv.1), tC (.str kv.2))
theorem pairs_tab : ∀ (tab : Tab) (σ : L2.St) (H : Hp) (Q : List (V × V) → Hp → Prop), Q (tab.map fun kv => (V.str kv.1, V.str kv.2)) H → tPairs (tabT tab) σ H Q
  | [], _, _, _, h => h
  | kv :: tab, σ, H, Q, h => pairs_tab tab σ H (fun ps H3 => Q ((V.str kv.1, V.str kv.2) :: ps) H3) h
theorem pps_tab (X : Cx) (pos : Pos) {k v : PySem.Str} {jk jv : Nat} {pk pv : Pos} {ks : List (Option Expr)} {vs : List Expr} {tab : Tab} (h : PPs X pos ks vs (tabT tab)) : PPs X pos (some (.Constant (.str k) jk pk) :: ks) (.Constant (.str v) jv pv :: vs) (tabT ((k, v) :: tab)) :=
  pps_cons pe_str pe_str h
theorem E.tab {keys : List (Option Expr)} {values : List Expr} (tab : Tab) (h : PPs X pos keys values (tabT tab)) (hall : keys.all (·.isSome) = true) (hl : keys.length = values.length) (h0 : keys ≠ []) (h15 : keys.length ≤ 15) (ht : tab.length ≤ 15) (hu : X.A.units + 1 < cLine) (hi : EX X true i t) (hs : NoSl i) :
    EX X b (.Subscript (.Dict keys values pos) i pos') (dTab tab t) :=
  PE.imp (pe_dget hu (pe_disp h hall hl h0 h15) hi hs) fun σ H Q ⟨Z, α, β, env, S, d, S', R, e1, q⟩ => by
    unfold dTab at e1
    obtain ⟨⟨x, S1⟩, ex, e2⟩ := Option.bind_eq_some_iff.mp e1
    clear e1
    simp only at e2
    split at e2
    · rename_i x
      obtain ⟨y, ey, e3⟩ := Option.map_eq_some_iff.mp e2
      cases e3
      intro p n
      refine pairs_tab tab σ _ _ ⟨upd_same, tabK tab, ?_, ?_, ?_⟩
      · unfold tabK
        rw [List.map_map]
        rfl
      · unfold tabK
        rw [List.length_map]
        exact ht
      · rw [upd_upd]
        have R1 : Rel X.K (mX X) Z α β env S σ (upd H p (.dK (tabM tab))) := R.nw n
        refine ⟨Z, α, β, env, S, _, _, R1, ex, fun v H2 β2 R2 A2 r2 => ?_⟩
        have hv : v = .str x := by
          rcases r2 with r2 | ⟨_, _, _, c, _, _, _, _, z, _⟩
          · cases r2; rfl
          · cases c <;> cases z
        subst hv
        have hp : H2 p = some (.dK (tabM tab)) := by
          refine A2.keep p _ upd_same fun z => ?_
          have z : p ∈ β := z
          obtain ⟨m, hm⟩ := List.getElem?_of_mem z
          have hl : m < S.length := by rw [← R.blen]; exact (List.getElem?_eq_some_iff.mp hm).1
          obtain ⟨o, ho, _⟩ := R.cell m _ p (List.getElem?_eq_getElem hl) hm
          rw [n] at ho
          cases ho
        have hval : valV (tabM tab) (.inr x) = some (.str y) := by
          unfold tabAt at ey
          split at ey
          · rename_i e
            cases ey
            exact e
          · cases ey
        refine ⟨p, .str y, rfl, ?_, ?_⟩
        · have := DGet.k (k := (.inr x : Key)) hp
          rw [hval] at this
          exact this
        · exact q _ H2 β2 R2 ((Adv.upd n).trb A2) (.inl (.str y))
    · cases e2
end
end Rf
end
section
set_option maxHeartbeats 2000000
/-! Rf, part O: l.index(x) of a list. -/
namespace Rf
open PySem PySem.Spec PyProof.Rows L2
section
variable {X : Cx} {b : Bool} {o e : Expr} {to te : TE} {apos pos : Pos} {t u : DE}
theorem pe_lindex (hu : X.A.units + 65 < cLine) (ho : PE X o to) (he : PE X e te)
    (hs : starEach [e] X.env = [(false, eval e X.env)] := by rfl) (hbase : attributeBase o "index" X.env (eval o X.env) = eval o X.env := by rfl) (hline : (apos.endLine == pos.line) = true := by rfl) :
    PE X (.Call (.Attribute o "index" apos) [e] [] pos) (fun σ H Q => to σ H fun x H1 => (∃ a xs, x = .ref a ∧ SqL X.K H1 a xs) ∧ te σ H1 fun y H2 => rIndexD X.K x [y] H2 Q) := by
  refine ⟨fun pins s σ H Q I h => ?_⟩
  refine PySem.Call_method1 hbase hs hline (thn (ho.run pins s σ H _ I h) fun v s1 ⟨x, H1, I1, r1, q1⟩ => ?_)
  obtain ⟨⟨a, xs, rfl, hq⟩, q1⟩ := q1
  obtain rfl : v = .ref a := r1
  obtain ⟨its, rv, pl, hz⟩ := I1.list hq
  refine ⟨"list", _, F.plainAttrs_list, F.slot_list_index, F.type_list_index, pl.isList.typeIs, ?_, Calls.callWith_builtin rfl (Calls.evalArgs_plain (Calls.spliced_cons ?_))⟩
  · intro b q
    cases q
    obtain ⟨ob, n, h1, h2, h3, h4⟩ := pl
    exact ⟨ob, h1, h3⟩
  exact thn (he.run pins s1 σ H1 _ I1 q1) fun u s2 ⟨y, H2, I2, r2, q2⟩ => Calls.spliced_nil (mt_indexD hu pins s2 σ H2 (.ref a) [y] (.ref a) [u] Q I2 rfl (.cons r2 .nil) q2)
end
/-- the first place of an equal one -/
def idxP (d : PyData) : List PyData → Nat → Option Nat
  | [], _ => none
  | z :: zs, j => if PyData.eqv z d = true then some j else idxP d zs (j + 1)
theorem idxP_spec {d : PyData} : ∀ (zs : List PyData) (j k : Nat), idxP d zs j = some k → ∃ m z, k = j + m ∧ zs[m]? = some z ∧ PyData.eqv z d = true ∧ ∀ (i : Nat) (z' : PyData), i < m → zs[i]? = some z' → PyData.eqv z' d = false
  | [], _, _, h => by cases h
  | z :: zs, j, k, h => by
    unfold idxP at h
    split at h
    · rename_i hz
      cases h
      exact ⟨0, z, rfl, rfl, hz, fun i z' hi _ => by omega⟩
    · rename_i hz
      obtain ⟨m, z2, h1, h2, h3, h4⟩ := idxP_spec zs (j + 1) k h
      refine ⟨m + 1, z2, by omega, h2, h3, fun i z' hi e => ?_⟩
      cases i with
      | zero =>
        cases e
        simpa using hz
      | succ i => exact h4 i z' (by omega) e
def idxD (S : Sto) (x y : D) : Option D := match x with
  | .lst xs => match pyS S (.lst xs), pyS S y with
    | some (.list ds), some d => if SeqAt.shaped (.list ds) && SeqAt.shaped d then (idxP d ds 0).map fun (j : Nat) => D.int (j : Int) else none
    | _, _ => none
  | _ => none
section
variable {X : Cx} {b : Bool} {eo e : Expr} {to t : DE} {apos pos : Pos}
theorem E.lindex (hu : X.A.units + 65 < cLine) (ho : EX X true eo to) (he : EX X true e t)
    (hs : starEach [e] X.env = [(false, eval e X.env)] := by rfl) (hbase : attributeBase eo "index" X.env (eval eo X.env) = eval eo X.env := by rfl) (hline : (apos.endLine == pos.line) = true := by rfl) :
    EX X b (.Call (.Attribute eo "index" apos) [e] [] pos) (dOp2 idxD to t) :=
  PE.imp (pe_lindex hu ho he hs hbase hline) fun σ H Q ⟨Z, α, β, env, S, d, S', R, e1, q⟩ => by
    unfold dOp2 at e1
    obtain ⟨⟨x, S1⟩, ex, e1b⟩ := Option.bind_eq_some_iff.mp e1
    obtain ⟨⟨y, S2⟩, ey, e1c⟩ := Option.bind_eq_some_iff.mp e1b
    obtain ⟨z, ez, e2⟩ := Option.map_eq_some_iff.mp e1c
    clear e1 e1b e1c
    obtain ⟨e2, e4⟩ := Prod.mk.inj e2
    subst e2 e4
    replace ez : idxD S2 x y = some z := ez
    unfold idxD at ez
    split at ez
    · rename_i xs
      refine ⟨Z, α, β, env, S, .lst xs, S1, R, ex, fun v H1 β1 R1 A1 r1 => ⟨?_, ?_⟩⟩
      · obtain ⟨a, vs, rfl, rr, ⟨h0, h1, h2⟩ | ⟨h0, h1, h2⟩⟩ := r1.still R1 (items := xs) rfl
        · exact ⟨a, vs, rfl, h1⟩
        · cases h0
      · refine ⟨Z, α, β1, env, S1, y, _, R1, ey, fun w H2 β2 R2 A2 r2 => ?_⟩
        split at ez
        · rename_i ds dd hds hdd
          split at ez
          · rename_i hsh
            rw [Bool.and_eq_true] at hsh
            obtain ⟨k, hk, ez2⟩ := Option.map_eq_some_iff.mp ez
            cases ez2
            obtain ⟨m, zz, h1, h2, h3, h4⟩ := idxP_spec ds 0 k hk
            have hk0 : k = m := by omega
            subst hk0
            have p1 := Res.dp R2 (r1.adv R1 A2) hds
            have p2 := Res.dp R2 r2 hdd
            obtain ⟨a, ea⟩ : ∃ a, v = V.ref a := by
              obtain ⟨a, vs, e, _⟩ := r1.still R1 (items := xs) rfl
              exact ⟨a, e⟩
            subst ea
            exact ⟨a, w, dd, ds, k, zz, rfl, rfl, p1, p2, hsh.1, hsh.2, h2, h3, h4, q _ H2 β2 R2 (A1.trb A2) (.inl (.int _))⟩
          · cases ez
        · cases ez
    · cases ez
end
end Rf
end
section
set_option maxHeartbeats 2000000
/-! Rf, part P: min(x, y), max(x, y) of data. -/
namespace Rf
open PySem PySem.Spec PyProof.Rows L2
section
variable {prog : Program} {w : World} {A : Around} {E : Value → Shared → Prop} {s : Shared} {u1 u2 : Value} {p1 p2 : PyData} {c1 c2 : List Addr} {Q : Value → Shared → Prop}
/-- both arguments in the tuple that min walks -/
theorem two_end {f : PyData → PyData → Bool} {h' : Heap} {v : Value} (r1 : Reads s.heap u1 p1 c1) (r2 : Reads s.heap u2 p2 c2) (k : ∀ c ob, s.heap.get? c = some ob → h'.get? c = some ob)
    (hv : (#[u1, u2] : Array Value)[argBest (fun i j => f ([p1, p2].getD i .none) ([p1, p2].getD j .none)) 1]? = some v) :
    (v = u1 ∧ f p2 p1 = false) ∨ (v = u2 ∧ f p2 p1 = true) := by
  cases hf : f p2 p1 with
  | true =>
    have e : argBest (fun i j => f ([p1, p2].getD i .none) ([p1, p2].getD j .none)) 1 = 1 := by simp [argBest, hf]
    rw [e] at hv
    exact .inr ⟨by simpa using hv.symm, rfl⟩
  | false =>
    have e : argBest (fun i j => f ([p1, p2].getD i .none) ([p1, p2].getD j .none)) 1 = 0 := by simp [argBest, hf]
    rw [e] at hv
    exact .inl ⟨by simpa using hv.symm, rfl⟩
theorem pair_room (hu : A.units + 65 < cLine) (hz : SeqAt.shaped (.list [p1, p2]) = true) : A.in1.units + PyData.depthAll [p1, p2] < cLine := by
  have h1 := SeqAt.depth_of_shaped hz
  rw [PyData.depth] at h1
  show A.units + 1 + _ < _
  omega
theorem min_both (hh : A.handled = none) (r1 : Reads s.heap u1 p1 c1) (r2 : Reads s.heap u2 p2 c2) (ha : PySem.W.AlikeAll [p1, p2]) (hz : SeqAt.shaped (.list [p1, p2]) = true) (hu : A.units + 65 < cLine)
    (h : ∀ v h' tk, (∀ c ob, s.heap.get? c = some ob → h'.get? c = some ob) → ((v = u1 ∧ PySem.W.dataLt p2 p1 = false) ∨ (v = u2 ∧ PySem.W.dataLt p2 p1 = true)) → Q v { s with heap := h', toks := tk }) :
    wpAny (model prog w) A (call (.builtin "min") [u1, u2]) Q E s := by
  have nm : (toString "min" ++ toString ".loop" : String) = "min.loop" := by decide
  refine call_function_tree F.kind_min F.plain_min F.entry_min (F.args_min2 u1 u2) ?_
  show wpAny _ _ (Builtin.Builtins.bindParams "min" ["key", "default"] 0 ⟨[], []⟩ >>= _) _ _ _
  refine wpAny_bind (wpAny_of_eq (by rfl : Builtin.Builtins.bindParams "min" ["key", "default"] 0 ⟨[], []⟩ = pure [none, none]) ?_)
  show wpAny _ _ (newTuple [u1, u2] >>= _) _ _ _
  refine wpAny_bind (wpAny_newObj_type ?_)
  have ht : (s.heap.push { cls := .type "tuple", data := .seq #[u1, u2] }).IsTuple s.heap.objs.size #[u1, u2] := ⟨_, Heap.get?_push_size _ rfl, rfl, 0, rfl⟩
  have kp : ∀ c ob, s.heap.get? c = some ob → (s.heap.push { cls := .type "tuple", data := .seq #[u1, u2] }).get? c = some ob := fun c ob e => Heap.get?_push_of_some _ e
  have hr : ReadsAll (s.heap.push { cls := .type "tuple", data := .seq #[u1, u2] }) (#[u1, u2] : Array Value).toList [p1, p2] (c1 ++ (c2 ++ [])) := .cons (PySem.W.reads_keeps kp r1) (.cons (PySem.W.reads_keeps kp r2) .nil)
  refine wpAny_bind (PySem.W.iter_tupleW (A := A.in1) (s := { s with heap := s.heap.push { cls := .type "tuple", data := .seq #[u1, u2] } }) hh ht fun t e W st hfp hw hk => ?_)
  refine wpAny_bind (wpAny_newObj_type ?_)
  have nf : t.heap.objs.size ∉ _ := fun hm => Nat.lt_irrefl _ (hfp _ hm)
  rw [nm]
  refine wpAny_pure ⟨plainId_quiet F.plain_min_loop _, codeAny_min_loop_firstH W _ hw _ (PySem.W.cmpIn_lt (A := A.in1) (s := { s with heap := s.heap.push { cls := .type "tuple", data := .seq #[u1, u2] } }) hr ha (pair_room hu hz)) t.heap.objs.size nf (fresh_in hk) _ (by simp) (fun c ob q => Heap.get?_push_of_some _ (hk c ob q)) (W.frame 0 t _ t.toks st (Nat.le_refl _) fun c _ ob q => Heap.get?_push_of_some _ q) (Heap.get?_push_size _ rfl) fun v s' hv hm => ?_⟩
  have m := Moved.drop_new (tk := t.toks) hm (Nat.le_refl _)
  obtain ⟨h', tk, rfl, hk'⟩ := PySem.W.moved_old e rfl m
  exact h v h' tk (fun c ob q => hk' c ob (kp c ob q)) (two_end (f := PySem.W.dataLt) (h' := h') r1 r2 (fun c ob q => hk' c ob (kp c ob q)) hv)
theorem max_both (hh : A.handled = none) (r1 : Reads s.heap u1 p1 c1) (r2 : Reads s.heap u2 p2 c2) (ha : PySem.W.AlikeAll [p1, p2]) (hz : SeqAt.shaped (.list [p1, p2]) = true) (hu : A.units + 65 < cLine)
    (h : ∀ v h' tk, (∀ c ob, s.heap.get? c = some ob → h'.get? c = some ob) → ((v = u1 ∧ PySem.W.dataLt p1 p2 = false) ∨ (v = u2 ∧ PySem.W.dataLt p1 p2 = true)) → Q v { s with heap := h', toks := tk }) :
    wpAny (model prog w) A (call (.builtin "max") [u1, u2]) Q E s := by
  have nm : (toString "max" ++ toString ".loop" : String) = "max.loop" := by decide
  refine call_function_tree F.kind_max F.plain_max F.entry_max (F.args_max2 u1 u2) ?_
  show wpAny _ _ (Builtin.Builtins.bindParams "max" ["key", "default"] 0 ⟨[], []⟩ >>= _) _ _ _
  refine wpAny_bind (wpAny_of_eq (by rfl : Builtin.Builtins.bindParams "max" ["key", "default"] 0 ⟨[], []⟩ = pure [none, none]) ?_)
  show wpAny _ _ (newTuple [u1, u2] >>= _) _ _ _
  refine wpAny_bind (wpAny_newObj_type ?_)
  have ht : (s.heap.push { cls := .type "tuple", data := .seq #[u1, u2] }).IsTuple s.heap.objs.size #[u1, u2] := ⟨_, Heap.get?_push_size _ rfl, rfl, 0, rfl⟩
  have kp : ∀ c ob, s.heap.get? c = some ob → (s.heap.push { cls := .type "tuple", data := .seq #[u1, u2] }).get? c = some ob := fun c ob e => Heap.get?_push_of_some _ e
  have hr : ReadsAll (s.heap.push { cls := .type "tuple", data := .seq #[u1, u2] }) (#[u1, u2] : Array Value).toList [p1, p2] (c1 ++ (c2 ++ [])) := .cons (PySem.W.reads_keeps kp r1) (.cons (PySem.W.reads_keeps kp r2) .nil)
  refine wpAny_bind (PySem.W.iter_tupleW (A := A.in1) (s := { s with heap := s.heap.push { cls := .type "tuple", data := .seq #[u1, u2] } }) hh ht fun t e W st hfp hw hk => ?_)
  refine wpAny_bind (wpAny_newObj_type ?_)
  have nf : t.heap.objs.size ∉ _ := fun hm => Nat.lt_irrefl _ (hfp _ hm)
  rw [nm]
  refine wpAny_pure ⟨plainId_quiet F.plain_max_loop _, codeAny_max_loop_firstH W _ hw _ (PySem.W.cmpIn_gt (A := A.in1) (s := { s with heap := s.heap.push { cls := .type "tuple", data := .seq #[u1, u2] } }) hr ha (pair_room hu hz)) t.heap.objs.size nf (fresh_in hk) _ (by simp) (fun c ob q => Heap.get?_push_of_some _ (hk c ob q)) (W.frame 0 t _ t.toks st (Nat.le_refl _) fun c _ ob q => Heap.get?_push_of_some _ q) (Heap.get?_push_size _ rfl) fun v s' hv hm => ?_⟩
  have m := Moved.drop_new (tk := t.toks) hm (Nat.le_refl _)
  obtain ⟨h', tk, rfl, hk'⟩ := PySem.W.moved_old e rfl m
  exact h v h' tk (fun c ob q => hk' c ob (kp c ob q)) (two_end (f := fun a b => PySem.W.dataLt b a) (h' := h') r1 r2 (fun c ob q => hk' c ob (kp c ob q)) hv)
end
/-- the better of two data: the second one where f holds of (second, first) -/
def rTwo (K : PySem.W.Frag) (f : PyData → PyData → Bool) : List V → Hp → VK → Prop := fun vs H Q => ∃ x1 x2 p1 p2, vs = [x1, x2] ∧ Dp K H x1 p1 ∧ Dp K H x2 p2 ∧ PySem.W.AlikeAll [p1, p2] ∧ SeqAt.shaped (.list [p1, p2]) = true ∧ Q (if f p2 p1 = true then x2 else x1) H
section
variable {X : Cx}
theorem cr_min2D (hc : X.calm = true) (hu : X.A.units + 65 < cLine) : CallR X (.builtin "min") (rTwo X.K PySem.W.dataLt) := by
  intro pins s σ H vs us Q I r h
  obtain ⟨x1, x2, p1, p2, rfl, d1, d2, ha, hz, q⟩ := h
  obtain ⟨u1, u2, rfl, e1, e2⟩ := vals2 r
  obtain ⟨c1, r1⟩ := Dp.reads I p1 x1 u1 d1 e1
  obtain ⟨c2, r2⟩ := Dp.reads I p2 x2 u2 d2 e2
  refine min_both (I.ok.hd hc) r1 r2 ha hz hu fun v h' tk k hv => ?_
  rcases hv with ⟨rfl, hf⟩ | ⟨rfl, hf⟩
  · rw [hf] at q
    exact ⟨x1, H, I.kept k, e1, q⟩
  · rw [hf] at q
    exact ⟨x2, H, I.kept k, e2, q⟩
theorem cr_max2D (hc : X.calm = true) (hu : X.A.units + 65 < cLine) : CallR X (.builtin "max") (rTwo X.K fun a b => PySem.W.dataLt b a) := by
  intro pins s σ H vs us Q I r h
  obtain ⟨x1, x2, p1, p2, rfl, d1, d2, ha, hz, q⟩ := h
  obtain ⟨u1, u2, rfl, e1, e2⟩ := vals2 r
  obtain ⟨c1, r1⟩ := Dp.reads I p1 x1 u1 d1 e1
  obtain ⟨c2, r2⟩ := Dp.reads I p2 x2 u2 d2 e2
  refine max_both (I.ok.hd hc) r1 r2 ha hz hu fun v h' tk k hv => ?_
  rcases hv with ⟨rfl, hf⟩ | ⟨rfl, hf⟩
  · have hf' : (fun a b => PySem.W.dataLt b a) p2 p1 = false := hf
    rw [hf'] at q
    exact ⟨x1, H, I.kept k, e1, q⟩
  · have hf' : (fun a b => PySem.W.dataLt b a) p2 p1 = true := hf
    rw [hf'] at q
    exact ⟨x2, H, I.kept k, e2, q⟩
end
/-- no list, no dict (these may be a name's own) -/
def hardD : D → Bool
  | .lst _ => false
  | .dct _ _ => false
  | _ => true
theorem Res.hard {K : PySem.W.Frag} {mg : Mg} {Z : Addr → Prop} {α : Nat → Option Addr} {β : List Addr} {H : Hp} {b : Bool} {d : D} {v : V} (r : Res K mg Z α β H b d v) (h : hardD d = true) : Rep K mg β (Oo Z α β) H d v := by
  rcases r with r | ⟨_, i, a, c, o, _, _, co, rfl, _⟩
  · exact r
  · cases co <;> cases h
/-- the better of two -/
def two2 (f : PyData → PyData → Bool) (x y : D) : Option D := match pyD x, pyD y with
  | some p, some q => if alikeB [p, q] && [p, q].all notNoneP && SeqAt.shaped (.list [p, q]) && (hardD x && hardD y) then some (if f q p = true then y else x) else none
  | _, _ => none
def min2Q (_ : Sto) : List D → Option D
  | [x, y] => two2 PySem.W.dataLt x y
  | _ => none
def max2Q (_ : Sto) : List D → Option D
  | [x, y] => two2 (fun a b => PySem.W.dataLt b a) x y
  | _ => none
section
variable {K : PySem.W.Frag} {mg : Mg}
theorem br_two (f : PyData → PyData → Bool) : BrA K mg (rTwo K f) (fun _ xs => match xs with | [x, y] => two2 f x y | _ => none) := fun Z α β env S σ H R xs vs d rx e Q q => by
  simp only at e
  split at e
  · rename_i x y
    unfold two2 at e
    split at e
    · rename_i p r e1 e2
      split at e
      · rename_i hc
        cases e
        simp only [Bool.and_eq_true] at hc
        obtain ⟨v, z, rfl, h1, h2⟩ := Paired.two rx
        have s1 : pyS S x = some p := by cases x <;> first | exact e1 | cases e1
        have s2 : pyS S y = some r := by cases y <;> first | exact e2 | cases e2
        refine ⟨v, z, p, r, rfl, h1.dp R s1, h2.dp R s2, ⟨fun a ha b hb => alikeB_ok hc.1.1.1 a ha b hb, fun a ha hn => ?_⟩, hc.1.2, ?_⟩
        · have := List.all_eq_true.mp hc.1.1.2 a ha
          subst hn; cases this
        · split
          · rename_i hf
            rw [if_pos hf] at q
            exact q z H R .refl (h2.hard hc.2.2)
          · rename_i hf
            rw [if_neg hf] at q
            exact q v H R .refl (h1.hard hc.2.1)
      · cases e
    · cases e
  · cases e
theorem br_min2Q : BrA K mg (rTwo K PySem.W.dataLt) min2Q := fun Z α β env S σ H R xs vs d rx e Q q => br_two PySem.W.dataLt Z α β env S σ H R xs vs d rx (by
  unfold min2Q at e
  exact e) Q q
theorem br_max2Q : BrA K mg (rTwo K fun a b => PySem.W.dataLt b a) max2Q := fun Z α β env S σ H R xs vs d rx e Q q => br_two (fun a b => PySem.W.dataLt b a) Z α β env S σ H R xs vs d rx (by
  unfold max2Q at e
  exact e) Q q
end
end Rf
end
section
set_option maxHeartbeats 2000000
/-! Rf, part Q: defs of which the guards of repr are known to be none: called, stood at their names, the law's end. -/
namespace Rf
open PySem PySem.Spec PyProof.Rows L2
/-- room, and no object is being shown -/
structure RoomG (k : Nat) (A : Around) : Prop where
  rm : Room k A
  gd : A.guards = some []
theorem RoomG.mono {j k : Nat} {A : Around} (r : RoomG k A) (h : j ≤ k) : RoomG j A := ⟨r.rm.mono h, r.gd⟩
theorem RoomG.units {k : Nat} {A : Around} (r : RoomG k A) : A.units + 64 < cLine := r.rm.units
theorem RoomG.un {k : Nat} {A : Around} (r : RoomG k A) : A.units + 16 * k + 200 < cLine := r.rm.un
theorem RoomG.deeper {k : Nat} {A : Around} (r : RoomG (k + 1) A) (env : PySem.Env) : RoomG k (A.deeper env) := ⟨r.rm.deeper env, r.gd⟩
/-- a def's promise where the guards are none -/
structure FnOkG (P : Program) (w : World) (K : PySem.W.Frag) (mg : PySem.Str → Option Value) (base : Heap) (k : Nat) (f : Addr) (fd : FuncData) (ps : List PySem.Str) (sp : Sp) : Prop where
  size : ∀ vs H Q E, sp vs H Q E → vs.length = ps.length
  go : ∀ (A : Around) (outer : List PySem.Env) (s : Shared) (H : Hp) (args : Args) (us : List Value) (vs : List V) (Q : VK) (E : XK), RoomG k A → Env0 P w K mg base A outer s H →
    BindsTo s fd args (ps.zip us) → Vals vs us → sp vs H Q E → codeAny (model P w) A (.call (.ref f) args) (CR CX0 outer P w H s Q E) s
theorem FnOkG.up {P : Program} {w : World} {K : PySem.W.Frag} {mg : PySem.Str → Option Value} {base : Heap} {j k : Nat} {f : Addr} {fd : FuncData} {ps : List PySem.Str} {sp : Sp} (F : FnOkG P w K mg base j f fd ps sp) (h : j ≤ k) : FnOkG P w K mg base k f fd ps sp :=
  ⟨F.size, fun A outer s H args us vs Q E r => F.go A outer s H args us vs Q E (r.mono h)⟩
section
variable {X : Cx} {k : Nat} {f : Addr} {fd : FuncData} {ps : List PySem.Str} {sp : Sp} {x : PySem.Str} {p pos : Pos} {e : Expr} {es : List Expr} {t : TA}
theorem FnOkG.runs (F : FnOkG X.prog X.w X.K X.mg X.base k f fd ps sp) (r : RoomG k X.A) (hb : Binds X.K fd ps []) {pins : List (Addr × Obj)} {σ : L2.St} {H : Hp} {s : Shared} {Q : VK} {us : List Value} {vs : List V}
    (I : Inv X pins σ H s) (rv : Vals vs us) (h : sp vs H Q E0) : wpAny (model X.prog X.w) X.A (call (.ref f) us) (EP X pins σ Q) X.xe s := by
  have l0 := F.size vs H Q E0 h
  have l1 : (us ++ []).length = ps.length := by rw [List.append_nil, ← rv.length]; exact l0
  have bd := hb s us I.kIn l1
  rw [List.append_nil] at bd
  refine wpAny_call (codeAny_mono (F.go X.A X.stack s H ⟨us, []⟩ us vs Q E0 r I.env0 bd rv h) fun o t ho => ?_)
  match o, ho with
  | .error z, ho => exact pass0 pins σ H s z t I ho
  | .ok (.ret _), ho => exact I.after ho
theorem pe_callG (F : FnOkG X.prog X.w X.K X.mg X.base k f fd ps sp) (r : RoomG k X.A) (hg : Gl X x) (hm : X.mg x = some (.ref f)) (hk : PySem.W.keepIn X.K (.ref f) = true) (hb : Binds X.K fd ps [])
    (ha : PA X (e :: es) t) (hdb : (x == ("__debug__" : PySem.Str)) = false) (he : starEach (e :: es) X.env = (false, eval e X.env) :: starEach es X.env) (hpl : (backTo pos (starEach es X.env)).any (·.1) = false) :
    PE X (.Call (.Name x p) (e :: es) [] pos) (tCall sp [] E0 t) := by
  constructor
  intro pins s σ H Q I h
  refine wpAny_Call_Name_kw (ld_glob I hg hm ?_ hdb)
  have step := thn (ha.run pos pins s σ H _ I h) (Q' := fun us s1 => X.K.In s1.heap ∧ wpAny (model X.prog X.w) X.A (call (.ref f) us) (EP X pins σ Q) X.xe s1) fun us s1 ⟨vs, H1, I1, rv, q⟩ => ⟨I1.kIn, F.runs r hb I1 rv (by have z : sp (vs ++ []) H1 Q E0 := q; rw [List.append_nil] at z; exact z)⟩
  exact PySem.W.callWith_K (h₀ := X.base) I.ok.mod.kin hk step he hpl
theorem pe_call0G (F : FnOkG X.prog X.w X.K X.mg X.base k f fd ps sp) (r : RoomG k X.A) (hg : Gl X x) (hm : X.mg x = some (.ref f)) (hk : PySem.W.keepIn X.K (.ref f) = true) (hb : Binds X.K fd ps [])
    (hdb : (x == ("__debug__" : PySem.Str)) = false) : PE X (.Call (.Name x p) [] [] pos) (tCall sp [] E0 tNil) := by
  constructor
  intro pins s σ H Q I h
  refine wpAny_Call_Name_kw (ld_glob I hg hm ?_ hdb)
  exact PySem.W.callWith_K0 I.kIn hk (F.runs (us := []) r hb I .nil h)
end
section
variable {P : Program} {w : World} {K : PySem.W.Frag} {mg : PySem.Str → Option Value} {base : Heap}
/-- from a def's body -/
theorem okG_of {x qual : PySem.Str} {params : Arguments} {body : List Stmt} {scope : Scope} {dvs : List V} {kws : List (PySem.Str × V)} {f : Addr} {fd : FuncData} {N ps : List PySem.Str} {k : Nat} {sp : Sp}
    (F : FunD K x qual params body scope dvs kws f fd) (S : FnScope N ps scope) (size : ∀ vs H Q E, sp vs H Q E → vs.length = ps.length)
    (hbody : ∀ (cdv : Value) (A : Around) (outer : List PySem.Env) (s : Shared) (H : Hp) (vs : List V) (Q : VK) (E : XK), RoomG k (A.deeper (envOfC qual scope s.heap.objs.size f cdv)) → sp vs H Q E →
      ∃ t, PSs (cxOf CX0 P w K mg base N qual scope f cdv A outer s H E) body t ∧ t { nx := fun _ H' => Q .non H', rt := Q } (start N vs) H) : FnOkG P w K mg base (k + 1) f fd ps sp := by
  obtain ⟨oc, od, dV, kV, doc, pm, an, cdv, ct, osl, rfl, there, code, _, _⟩ := F.ex
  refine ⟨size, fun A outer s H args us vs Q E r e0 bd rv hsp => ?_⟩
  have kin : K.In s.heap := e0.mod.kin.keeps fun a o q => (e0.bs a o q).1
  have lim : s.heap.NoLimit := e0.mod.nolimit.keeps fun a o q => (e0.bs a o q).1
  have own : ∀ z ∈ ps.zip us, scope.names.lookup z.1 = some .local ∨ (scope.names.lookup z.1 = some .cell ∧ ((cellsFrom (s.heap.objs.size + 1) scope.names []).lookup z.1).isSome = true) := by
    intro z hz
    obtain ⟨n, v⟩ := z
    exact (S.par n (List.of_mem_zip hz).1).elim .inl fun q => .inr ⟨q, PySem.W.cellsFrom_some _ _ _ (.inl q)⟩
  refine codeAny_call_function r.rm.depth (kin _ _ there) rfl S.co S.gen rfl (PySem.W.codeRec_of kin code) (bd _ _ _ _ ?_)
  refine wpAny_newFunctionEnv_cells S.kind own fun env eq s1 inc => ?_
  cases eq
  refine ⟨lim.keeps inc.toInCall.keep, codeAny_func ?_⟩
  obtain ⟨t, walk, q⟩ := hbody cdv A outer s H vs Q E (r.deeper _) hsp
  have I : Inv (cxOf CX0 P w K mg base N qual scope f cdv A outer s H E) [] (start N vs) H s1 := inv_start S r.rm.hd e0 (size _ _ _ _ hsp) rv inc
  refine wpAny_mono (walk.run [] s1 (start N vs) H _ I q) (fun fl s' post => ?_) fun _ _ z => z
  match fl, post with
  | .ret _, ⟨v, _, H', J, rr, qq⟩ => exact ⟨v, H', J.os, J.bare, J.base, J.hok, rr, qq⟩
  | .next, ⟨_, H', J, qq⟩ => exact ⟨.non, H', J.os, J.bare, J.base, J.hok, rfl, qq⟩
  | .brk, ⟨_, _, _, z⟩ => exact z.elim
  | .cont, ⟨_, _, _, z⟩ => exact z.elim
/-- THE HEAD with guards: the law's promise at the heap behind the top -/
theorem law_callG {mb : PySem.Str → Option Value} {k : Nat} {fa a : Addr} {fd : FuncData} {x : PySem.Str} {sp : Sp} {s1 : Shared} {us : List Value} {ns : List Int}
    (kin : K.In s1.heap) (hg : s1.heap.Ns mainGlobals mg) (hb : s1.heap.Ns builtinsNs mb) (boot : ∀ y : PySem.Str, y ≠ "__name__" → mb y = bootBuiltins y) (lim : s1.heap.NoLimit) (still : s1.gens = #[])
    (at_ : s1.heap.get? a = some { cls := .type "list", data := .seq us.toArray }) (hi : IntsAre us ns) (small : ns.length ≤ sizeLine) (r : Room k callerA)
    (F : ∀ base : Heap, K.In base → base.Ns mainGlobals mg → FnOkG P w K mg base k fa fd [x] sp) (bind : ∀ (s : Shared) (u : Value), BindsTo s fd ⟨[u], []⟩ [(x, u)])
    (promise : ∀ H : Hp, Only H → SqL K H a (ns.map V.int) → sp [.ref a] H (fun v _ => v = .bl true) fun _ _ _ => False) :
    codeAny (model P w) callerA (.call (.ref fa) ⟨[.ref a], []⟩) (fun o s' => o = .ok (.ret (.bool true)) ∧ OldK s1.heap s'.heap ∧ s'.os = s1.os ∧ AllBare s'.gens) s1 := by
  have vals := vals_ints hi
  -- H tracks nothing but the script at a
  have main : ∀ H : Hp, Only H → SqL K H a (ns.map V.int) → HOk P w H s1.heap → (∀ b u, H b = some u → b = a) → (∀ u, H a = some u → K.lookup a = none) →
      codeAny (model P w) callerA (.call (.ref fa) ⟨[.ref a], []⟩) (fun o s' => o = .ok (.ret (.bool true)) ∧ OldK s1.heap s'.heap ∧ s'.os = s1.os ∧ AllBare s'.gens) s1 := by
    intro H only seq ok just noK
    have hidden : ∀ {b : Addr} {o : Obj}, s1.heap.get? b = some o → (∀ u, H b = some u → False) → (hidT s1.heap H).get? b = some o := fun {b o} e n => hidT_get e (by
      cases q : H b with
      | none => rfl
      | some u => exact (n u q).elim)
    have names : ∀ {b : Addr} {m : PySem.Str → Option Value}, s1.heap.Ns b m → (hidT s1.heap H).Ns b m := fun {b m} ⟨o, es, ep, e, d, more⟩ => ⟨o, es, ep, hidden e (fun u q => by
      cases just b u q
      rw [at_] at e
      cases e
      cases (show Data.seq us.toArray _ = Data.dict es ep from d)), d, more⟩
    have kin2 : K.In (hidT s1.heap H) := fun b o e => hidden (kin b o e) fun u q => by
      cases just b u q
      rw [noK u q] at e
      cases e
    have modl : Mod K mg (hidT s1.heap H) := ⟨kin2, names hg, ⟨mb, names hb, boot⟩, by
      obtain ⟨mc, l1, l2⟩ := lim
      exact ⟨mc, names l1, l2⟩⟩
    have entry : Env0 P w K mg (hidT s1.heap H) callerA [] s1 H := {
      frames := rfl
      mod := modl
      bs := fun _ _ e => of_hidT e
      bsz := Nat.le_of_eq (hidT_size _ _)
      funs := trivial
      frf := fun b z => absurd (show b ∈ ([] : List Addr) from z) List.not_mem_nil
      hok := ok
      bare := .of_eq still }
    have run := (F _ kin2 (names hg)).go callerA [] s1 H ⟨[.ref a], []⟩ [.ref a] [.ref a] _ _ ⟨r, rfl⟩ entry (bind s1 (.ref a)) (.cons rfl .nil) (promise H only seq)
    refine codeAny_mono run fun o s' post => ?_
    match o, post with
    | .ok (.ret u), ⟨v, H', os, bare, un, ok', rv, (q : v = .bl true)⟩ =>
      subst q
      cases (show u = Value.bool true from rv)
      refine ⟨rfl, OldK.of_keep fun b ob e => ?_, os, bare⟩
      rcases only b with z | ⟨ob2, xs, z⟩
      · exact un.keep b ob e z (fun m => absurd (show b ∈ ([] : List Addr) from m) List.not_mem_nil) List.not_mem_nil
      · have e1 := (ok b _ z).1
        have e2 := (ok' b _ (un.frzs b ob2 _ z)).1
        rw [e] at e1
        cases e1
        exact e2
  cases hk : K.lookup a with
  | some o =>
    have e := kin a o hk
    rw [at_] at e
    cases e
    have len : us.toArray.size ≤ sizeLine := by have := hi.length; rw [List.size_toArray]; omega
    exact main (fun _ => none) (fun _ => .inl rfl) (.inr ⟨_, us.toArray, _, hk, rfl, rfl, rfl, len, by simpa using vals⟩) (fun b u (z : (none : Option HO) = some u) => by cases z) (fun b u (z : (none : Option HO) = some u) => by cases z) fun u (z : (none : Option HO) = some u) => by cases z
  | none =>
    let H0 : Hp := fun b => if b = a then some (.frz { cls := .type "list", data := .seq us.toArray } (.lst (ns.map V.int))) else none
    have ha : H0 a = some (.frz { cls := .type "list", data := .seq us.toArray } (.lst (ns.map V.int))) := if_pos rfl
    have hn : ∀ b, b ≠ a → H0 b = none := fun b z => if_neg z
    have js : ∀ b u, H0 b = some u → b = a := fun b u z => Classical.byContradiction fun c => by rw [hn b c] at z; cases z
    refine main H0 (fun b => ?_) (.inl (.inr ⟨_, ha⟩)) (fun b u z => ?_) js fun _ _ => hk
    · by_cases c : b = a
      · exact .inr ⟨_, _, by rw [c]; exact ha⟩
      · exact .inl (hn b c)
    · cases js b u z
      rw [ha] at z
      cases z
      exact ⟨at_, by rw [List.length_map]; exact small, us, _, vals, at_⟩
end
/-- a law over a head by facts, its defs with guards -/
theorem walk_ofG {l : PySem.W.OpenLaw} {n k : Nat} {q : Program} {loose : List PySem.Str} {XP : (PySem.Str → Option Value) → Heap → Prop} {YP : World → Heap → Prop} {d : DefRec} {x : PySem.Str}
    (most : l.most = some n) (small : n ≤ sizeLine) (plain : d.params.defaults = []) (r : Room k callerA)
    (F : ∀ (w : World) (mg : PySem.Str → Option Value) (fa : Addr) (h : Heap), YP w h → h.Ns mainGlobals mg → mg d.name = some (.ref fa) →
      ∃ (K : PySem.W.Frag) (fd : FuncData) (sp : Sp), K.In h ∧ (∀ (s : Shared) (u : Value), BindsTo s fd ⟨[u], []⟩ [(x, u)]) ∧
        (∀ (H : Hp) (a : Addr) (ns : List Int), ns.length ≤ n → Only H → SqL K H a (ns.map V.int) → sp [.ref a] H (fun v _ => v = .bl true) fun _ _ _ => False) ∧
        ∀ base : Heap, K.In base → base.Ns mainGlobals mg → FnOkG l.prog w K mg base k fa fd [x] sp) :
    PySem.W.WalkO q loose XP YP l.row.toRowW d [] (fun f vs => PySem.call f vs) :=
  Att.attach_call most plain fun w _ s1 mg _ fa _ _ _ _ a us ns G Y _ _ _ hm at_ nums short still => by
    obtain ⟨K, fd, sp, kin, bind, promise, ok⟩ := F w mg fa _ Y G.T.g hm
    exact law_callG kin G.T.g G.T.b G.T.builtins G.T.nolimit still at_ nums (Nat.le_trans short small) r ok bind fun H only seq => promise H a ns short only seq
/-! ### defs at their names -/
def FnAtG (P : Program) (w : World) (K : PySem.W.Frag) (mg : PySem.Str → Option Value) (base : Heap) (k : Nat) (x : PySem.Str) (n : Nat) (φ : Fn) : Prop :=
  ∃ (f : Addr) (fd : FuncData) (ps : List PySem.Str), mg x = some (.ref f) ∧ PySem.W.keepIn K (.ref f) = true ∧ Binds K fd ps [] ∧ ps.length = n ∧ FnOkG P w K mg base k f fd ps (spF K ⟨mg, P, w⟩ φ)
section
variable {X : Cx} {b : Bool} {p pos : Pos} {e : Expr} {es : List Expr} {u : DA} {x : PySem.Str} {φ : Fn} {k n : Nat}
theorem E.callG (F : FnAtG X.prog X.w X.K X.mg X.base k x n φ) (r : RoomG k X.A) (hg : Gl X x) (ha : AX X false (e :: es) u) (hdb : (x == ("__debug__" : PySem.Str)) = false := by decide)
    (he : starEach (e :: es) X.env = (false, eval e X.env) :: starEach es X.env := by rfl) (hpl : (backTo pos (starEach es X.env)).any (·.1) = false := by rfl) : EX X b (.Call (.Name x p) (e :: es) [] pos) (dCall φ u) := by
  obtain ⟨f, fd, ps, h1, h2, h3, h4, F⟩ := F
  exact PE.imp (pe_callG F r hg h1 h2 h3 ha hdb he hpl) fun σ H Q h => rd_call σ H Q h
theorem E.call0G (F : FnAtG X.prog X.w X.K X.mg X.base k x n φ) (r : RoomG k X.A) (hg : Gl X x) (hdb : (x == ("__debug__" : PySem.Str)) = false := by decide) : EX X b (.Call (.Name x p) [] [] pos) (dCall φ aNil) := by
  obtain ⟨f, fd, ps, h1, h2, h3, h4, F⟩ := F
  refine PE.imp (pe_call0G F r hg h1 h2 h3 hdb) fun σ H Q h => ?_
  obtain ⟨Z, α, β, env, S, xs, S1, R, ex, q⟩ := rd_call σ H Q h
  cases ex
  exact q [] H β R .refl .nil
end
section
variable {P : Program} {w : World} {K : PySem.W.Frag} {mg : PySem.Str → Option Value} {base h : Heap} {fa : List He.Fa} {fn : List He.DefD}
theorem fnAtG (T : Txt fa fn K h mg) (i j : Nat) {x : PySem.Str} {st : Stmt} {N ps : List PySem.Str} {k : Nat} {t : DS} (S : FnScope N ps (defScope st))
    (hd : fn[i]? = some ⟨(x, none), x, x, defArgs st, defBody st, defScope st, [], []⟩) (hg : fa[j]? = some (.glo x))
    (hb : ∀ (kV doc pm : Value) (an : Option Addr) (cdv ct : Value) (us : List Value), us.length = ps.length → bindArgs (PySem.W.fnOf x x (defArgs st) (defBody st) (defScope st) .none kV doc pm an cdv ct) ⟨us, []⟩ = pure (ps.zip us))
    (hk : ps.length ≤ N.length)
    (body : ∀ (cdv : Value) (f : Addr) (A : Around) (outer : List PySem.Env) (s : Shared) (H : Hp) (E : XK), RoomG k (A.deeper (envOfC x (defScope st) s.heap.objs.size f cdv)) → SsX (cxOf CX0 P w K mg base N x (defScope st) f cdv A outer s H E).nox (defBody st) t) : FnAtG P w K mg base (k + 1) x ps.length (runF N.length ps.length t) := by
  obtain ⟨fd, F⟩ := T.says.def_ i hd
  refine ⟨He.ga K x, fd, ps, T.glo j hg, F.kp, FunD.bindsN F hb, rfl, okG_of F S (fun vs H Q E q => spF_len q) fun cdv A outer s H vs Q E r q => ⟨_, (body cdv (He.ga K x) A outer s H E r).nox, rd_fn hk q⟩⟩
theorem fnAt0G (T : Txt fa fn K h mg) (i j : Nat) {x : PySem.Str} {st : Stmt} {ps : List PySem.Str}
    (hd : fn[i]? = some ⟨(x, none), x, x, defArgs st, defBody st, defScope st, [], []⟩) (hg : fa[j]? = some (.glo x))
    (hb : ∀ (kV doc pm : Value) (an : Option Addr) (cdv ct : Value) (us : List Value), us.length = ps.length → bindArgs (PySem.W.fnOf x x (defArgs st) (defBody st) (defScope st) .none kV doc pm an cdv ct) ⟨us, []⟩ = pure (ps.zip us)) : FnAtG P w K mg base 0 x ps.length (fun _ _ => none) := by
  obtain ⟨fd, F⟩ := T.says.def_ i hd
  refine ⟨He.ga K x, fd, ps, T.glo j hg, F.kp, FunD.bindsN F hb, rfl, ⟨fun vs H Q E q => ?_, fun A outer s H args us vs Q E r he hbt hv q => ?_⟩⟩
  · obtain ⟨Z, β, S, ds, d, S', R, r, e1, q⟩ := q
    cases e1
  · obtain ⟨Z, β, S, ds, d, S', R, r, e1, q⟩ := q
    cases e1
theorem FnAtG.mono {j k n : Nat} {x : PySem.Str} {φ : Fn} (F : FnAtG P w K mg base j x n φ) (hl : j ≤ k) : FnAtG P w K mg base k x n φ := by
  obtain ⟨f, fd, ps, h1, h2, h3, h4, F⟩ := F
  exact ⟨f, fd, ps, h1, h2, h3, h4, F.up hl⟩
theorem u65G {A : Around} {k : Nat} (r : RoomG k A) : A.units + 65 < cLine := u65 r.rm
theorem u67G {A : Around} {k : Nat} (r : RoomG k A) : A.units + 67 < cLine := u67 r.rm
end
/-! ### repr -/
def rRepr (K : PySem.W.Frag) : List V → Hp → VK → Prop := fun vs H Q => ∃ v d, vs = [v] ∧ Dp K H v d ∧ d.showable = true ∧ d.hasDict = false ∧ SeqAt.shaped d = true ∧ d.shown.length ≤ sizeLine ∧ Q (.str d.shown) H
theorem cr_repr {X : Cx} (hu : X.A.units + 70 < cLine) (gd : X.A.guards = some []) : CallR X (.builtin "repr") (rRepr X.K) := by
  intro pins s σ H vs us Q I r h
  obtain ⟨v, d, rfl, hd, hs, hn, hz, hl, q⟩ := h
  obtain ⟨u, rfl, ru⟩ := vals1 r
  obtain ⟨as, rd⟩ := Dp.reads I d v u hd ru
  have dep := SeqAt.depth_of_shaped hz
  cases rd with
  | none => exact PySem.P.repr_of_none ⟨.str _, H, I.kept (fun _ _ e => e), ⟨_, rfl⟩, q⟩
  | bool b => exact PySem.P.repr_of_bool ⟨.str _, H, I.kept (fun _ _ e => e), ⟨_, rfl⟩, q⟩
  | int i t => exact PySem.P.repr_of_int (by simpa [PyData.showable] using hs) ⟨.str _, H, I.kept (fun _ _ e => e), ⟨_, rfl⟩, q⟩
  | str x t => exact PySem.P.repr_of_str ⟨.str _, H, I.kept (fun _ _ e => e), ⟨_, rfl⟩, q⟩ hl
  | list h1 h2 h3 h4 => exact repr_of_reads' (.list h1 h2 h3 h4) hs (PyData.noDict_hsm hn) gd (by omega) (fun _ _ e => e) (fun h' u tk k => ⟨.str _, H, I.kept k, ⟨_, rfl⟩, q⟩) hl
  | tuple h1 h2 h3 h4 => exact repr_of_reads' (.tuple h1 h2 h3 h4) hs (PyData.noDict_hsm hn) gd (by omega) (fun _ _ e => e) (fun h' u tk k => ⟨.str _, H, I.kept k, ⟨_, rfl⟩, q⟩) hl
  | dict h1 h2 h3 h4 h5 => cases hn
/-- repr(x) -/
noncomputable def reprD (S : Sto) : List D → Option D
  | [x] => match pyS S x with
    | some p => chk (p.showable = true ∧ p.hasDict = false ∧ SeqAt.shaped p = true ∧ p.shown.length ≤ sizeLine) (some (.str p.shown))
    | none => none
  | _ => none
theorem br_repr {K : PySem.W.Frag} {mg : Mg} : BrA K mg (rRepr K) reprD := fun Z α β env S σ H R xs vs d rx e Q q => by
  unfold reprD at e
  split at e
  · split at e
    · rename_i p hp
      obtain ⟨⟨h1, h2, h3, h4⟩, e⟩ := chk_some e
      cases e
      obtain ⟨v, rfl, r⟩ := Paired.one rx
      exact ⟨v, p, rfl, r.dp R hp, h1, h2, h3, h4, q _ H R .refl (.str _)⟩
    · cases e
  · cases e
end Rf
end
section
set_option maxHeartbeats 2000000
/-! Rf, part R: remove, pop and extend on lists of the store. -/
namespace Rf
open PySem PySem.Spec PyProof.Rows L2 MeetsSeq SeqAt
/-! ### list.remove where what is alike is told at the state -/
theorem rem_goAt (l : Addr) (ys : Array Value) (c : Nat) (x : Value) (φ : Value → Bool) (j : Nat) (hj : j < ys.size) (hit : φ ys[j] = true) (hz : ys.size ≤ sizeLine) (k : Nat) :
    ∀ i : Nat, j - i = k → i ≤ j → (∀ (m : Nat) (hm : m < ys.size), i ≤ m → m < j → φ ys[m] = false) →
      Meets (Builtin.«list.remove.loop» ⟨[.ref l, x, rawInt i], []⟩) fun A R s => s.heap.get? l = some { cls := .type "list", dict := none, data := .seq ys c, slots := #[] } ∧ (∀ y, y ∈ ys → EqAt A.in1 s y x (φ y)) ∧
        R (.ok (.ret .none)) { s with heap := s.heap.update l (Obj.mapSeq fun zs => zs.eraseIdxIfInBounds j) } := by
  induction k with
  | zero =>
    intro i hk hle hno prog w A R s hh
    obtain ⟨hp, g, d, tk, os⟩ := s
    obtain ⟨hl, he, hh⟩ := hh
    obtain rfl : i = j := by omega
    wp_walk using wpAny_loadPart' hl
    rw [show ys[((i : Nat) : Int).toNat]? = some ys[i] by simp [hj]]
    refine wpAny_bind (he _ (Array.getElem_mem hj) prog w _ _ ?_)
    rw [hit]
    have hz2 : (ys.eraseIdxIfInBounds i).size ≤ sizeLine + 1 := Nat.le_trans (size_erased ys _) (Nat.le_succ_of_le hz)
    wp_walk using (wpAny_updateSeq hl rfl (hz := hz) (_hz' := hz2)), wpAny_loadPart' hl
    simpa using hh
  | succ k ih =>
    intro i hk hle hno prog w A R s hh
    obtain ⟨hp, g, d, tk, os⟩ := s
    obtain ⟨hl, he, hh⟩ := hh
    have lt : i < ys.size := by omega
    wp_walk using wpAny_loadPart' hl
    rw [show ys[((i : Nat) : Int).toNat]? = some ys[i] by simp [lt]]
    refine wpAny_bind (he _ (Array.getElem_mem lt) prog w _ _ ?_)
    rw [hno i lt (Nat.le_refl _) (by omega)]
    wp_walk
    rw [show ((i : Int) + 1) = ((i + 1 : Nat) : Int) by push_cast; rfl]
    refine ⟨plainId_quiet plain_remove_loop _, codeAny_builtin entry_remove_loop ?_⟩
    rw [Around.under_plainId plain_remove_loop _]
    exact ih (i + 1) (by omega) (by omega) (fun m hm a b => hno m hm (by omega) b) prog w A R _ ⟨hl, he, hh⟩
theorem rem_At (l : Addr) (ys : Array Value) (c : Nat) (x : Value) (φ : Value → Bool) (j : Nat) (hj : j < ys.size) (hit : φ ys[j] = true) (hno : ∀ (m : Nat) (hm : m < ys.size), m < j → φ ys[m] = false) (hz : ys.size ≤ sizeLine) :
    Meets (Builtin.«list.remove» ⟨[.ref l, x], []⟩) fun A R s => s.heap.get? l = some { cls := .type "list", dict := none, data := .seq ys c, slots := #[] } ∧ (∀ y, y ∈ ys → EqAt A.in1 s y x (φ y)) ∧
      R (.ok (.ret .none)) { s with heap := s.heap.update l (Obj.mapSeq fun zs => zs.eraseIdxIfInBounds j) } := by
  intro prog w A R s hh
  obtain ⟨hp, g, d, tk, os⟩ := s
  obtain ⟨hl, he, hh⟩ := hh
  wp_walk using wpAny_loadPart' hl
  refine ⟨plainId_quiet plain_remove_loop _, codeAny_builtin entry_remove_loop ?_⟩
  rw [Around.under_plainId plain_remove_loop _]
  exact rem_goAt l ys c x φ j hj hit hz _ 0 rfl (Nat.zero_le _) (fun m hm _ b => hno m hm b) prog w A R _ ⟨hl, he, hh⟩
/-! ### remove, pop, extend by rules -/
def rRemD (K : PySem.W.Frag) : V → List V → Hp → VK → Prop := fun x vs H Q => ∃ (a : Addr) (y : V) (xs : List V) (d : PyData) (ds : List PyData) (j : Nat) (z : PyData), x = .ref a ∧ vs = [y] ∧ H a = some (.lst xs) ∧ DpAll K H xs ds ∧ Dp K H y d ∧
  SeqAt.shaped (.list ds) = true ∧ SeqAt.shaped d = true ∧ ds[j]? = some z ∧ PyData.eqv z d = true ∧ (∀ (m : Nat) (z' : PyData), m < j → ds[m]? = some z' → PyData.eqv z' d = false) ∧ Q .non (upd H a (.lst (xs.eraseIdx j)))
theorem mt_remD {X : Cx} (hu : X.A.units + 65 < cLine) : MtM X "list.remove" (rRemD X.K) := by
  intro pins s σ H x vs v us Q I rx rv h
  obtain ⟨a, y, xs, d, ds, j, z, rfl, rfl, hH, hxs, hy, sl, sd, hz, hzj, hno, q⟩ := h
  cases rx
  obtain ⟨uy, rfl, ry⟩ := rv.one
  obtain ⟨bs, r1⟩ := Dp.reads I d y uy hy ry
  have lay : PyData.canLayAll0 ds = true := SeqAt.canLay_of_shaped sl
  have room : X.A.units + 1 + min (PyData.depthAll ds) d.depth < cLine := room_in_shaped sd hu
  obtain ⟨hsz, its, n, rr, hl, ho⟩ := I.lstM hH
  obtain ⟨as, h4⟩ := Dp.readsAll I ds _ its hxs rr
  have hn : its.length = ds.length := SeqAt.ReadsAll.length ds its as h4
  have hmap : its.map (SeqAt.readOf s.heap) = ds := SeqAt.readsAll_map ds its as lay h4
  obtain ⟨hjd, _⟩ := List.getElem?_eq_some_iff.mp hz
  have hj : j < its.toArray.size := by simp; omega
  have told : ∀ (m : Nat) (hm : m < its.toArray.size) (z' : PyData), ds[m]? = some z' → SeqAt.readOf s.heap its.toArray[m] = z' := by
    intro m hm z' hz'
    have hml : m < its.length := by simpa using hm
    rw [← hmap, List.getElem?_map, List.getElem?_eq_getElem hml] at hz'
    simpa using hz'
  refine call_meets PySem.F.slot_list_remove ⟨_, ho, rfl⟩ PySem.F.entry_list_remove (PySem.F.args_list_remove_2 _ _)
    (rem_At a its.toArray n uy (fun u => PyData.eqv (SeqAt.readOf s.heap u) d) j hj ?_ ?_ (by simp; omega)) ⟨ho, SeqAt.items_eqAt (vs := its.toArray) (show ReadsAll s.heap its.toArray.toList ds as from h4) r1 lay (SeqAt.canLay_of_shaped sd) room, ?_⟩
  · show PyData.eqv (SeqAt.readOf s.heap its.toArray[j]) d = true
    rw [told j hj z hz]
    exact hzj
  · intro m hm hmj
    have hmd : m < ds.length := by omega
    have hz' : ds[m]? = some ds[m] := List.getElem?_eq_getElem hmd
    show PyData.eqv (SeqAt.readOf s.heap its.toArray[m]) d = false
    rw [told m hm _ hz']
    exact hno m _ hmj hz'
  · refine ⟨.non, _, I.lset (its' := its.eraseIdx j) (t' := s.toks) hH ho ?_ (rr.eraseIdx j) ?_, rfl, q⟩
    · show its.toArray.eraseIdxIfInBounds j = (its.eraseIdx j).toArray
      rw [List.eraseIdxIfInBounds_toArray]
    · have : (xs.eraseIdx j).length ≤ xs.length := List.length_eraseIdx_le _ _
      omega
section
variable {K : PySem.W.Frag} {mg : Mg} {β : List Addr} {O : Addr → Prop} {H : Hp}
theorem Reps.eraseIdx : ∀ {ds : List D} {vs : List V} (j : Nat), Reps K mg β O H ds vs → Reps K mg β O H (ds.eraseIdx j) (vs.eraseIdx j)
  | [], _, _, h => by cases h; exact .nil
  | d :: ds, _, 0, h => by
    cases h with
    | cons h1 h2 => exact h2
  | d :: ds, _, j + 1, h => by
    cases h with
    | cons h1 h2 => exact .cons h1 (Reps.eraseIdx j h2)
theorem Reps.dropLast : ∀ {ds : List D} {vs : List V}, Reps K mg β O H ds vs → Reps K mg β O H ds.dropLast vs.dropLast
  | [], _, h => by cases h; exact .nil
  | [d], _, h => by
    cases h with
    | cons h1 h2 => cases h2; exact .nil
  | d :: e :: ds, _, h => by
    cases h with
    | cons h1 h2 =>
      cases h2 with
      | cons h3 h4 => exact .cons h1 (Reps.dropLast (.cons h3 h4))
end
/-- o.remove(e), o a list of the store -/
noncomputable def sRemRef (o : DE) (t : DE) : DS := fun env S => (o env S).bind fun q => (refL q.2 q.1).bind fun n => (t env q.2).bind fun p => match p.2[n]? with
  | some (.lst xs) => (match pyDs xs, pyS p.2 p.1 with
    | some ds, some d => if SeqAt.shaped (.list ds) && SeqAt.shaped d then (idxP d ds 0).map fun (j : Nat) => (.nx env, p.2.set n (.lst (xs.eraseIdx j))) else none
    | _, _ => none)
  | _ => none
/-- o.pop(), o a list of the store -/
def dPopRef (o : DE) : DE := fun env S => (o env S).bind fun q => (refL q.2 q.1).bind fun n => match q.2[n]? with
  | some (.lst xs) => (xs[xs.length - 1]?).map fun y => (y, q.2.set n (.lst xs.dropLast))
  | _ => none
/-- o.extend(e), o a list of the store -/
def sExtRef (o : DE) (t : DE) : DS := fun env S => (o env S).bind fun q => (refL q.2 q.1).bind fun n => (t env q.2).bind fun p => match p.2[n]?, p.1 with
  | some (.lst xs), .lst zs => if xs.length + zs.length ≤ sizeLine then some (.nx env, p.2.set n (.lst (xs ++ zs))) else none
  | _, _ => none
section
variable {X : Cx} {b : Bool} {o e : Expr} {u t : DE} {apos tpos pos : Pos}
theorem S.remRef (hu : X.A.units + 65 < cLine) (ho : EX X true o u) (h : EX X true e t) (h1 : starEach [e] X.env = (false, eval e X.env) :: starEach [] X.env := by rfl)
    (hbase : attributeBase o "remove" X.env (eval o X.env) = eval o X.env := by rfl) (hfew : (((backTo tpos (starEach [e] X.env)).all fun x => !x.fst) && (backToKw tpos (keywordEach [] X.env)).all fun x => x.fst.isSome) && decide (([e].length + ([] : List Keyword).length + if ([] : List Keyword).isEmpty = true then 0 else 1) < 30) = true := by rfl) (hline : (apos.endLine == tpos.line) = true := by rfl) :
    SX X (.Expr (.Call (.Attribute o "remove" apos) [e] [] tpos) pos) (sRemRef u t) :=
  PS.imp (ps_expr (pe_bm PySem.F.plainAttrs_list PySem.F.slot_list_remove PySem.F.type_list_remove (mt_remD hu) ho (pa_cons h pa_nil h1) (hbase := hbase) (hfew := hfew) (hline := hline) (hs := h1))) fun E σ H ⟨Z, α, β, env, S, f, S', R, e1, q⟩ => by
    unfold sRemRef at e1
    obtain ⟨⟨ov, S1⟩, eo, e1⟩ := Option.bind_eq_some_iff.mp e1
    obtain ⟨n, en, e1⟩ := Option.bind_eq_some_iff.mp e1
    obtain ⟨⟨y, S2⟩, ey, e1⟩ := Option.bind_eq_some_iff.mp e1
    split at e1
    · rename_i xs ex
      split at e1
      · rename_i ds d hds hd
        split at e1
        · rename_i hsh
          rw [Bool.and_eq_true] at hsh
          obtain ⟨k, hk, e2⟩ := Option.map_eq_some_iff.mp e1
          cases e2
          obtain ⟨m, zz, h1, h2, h3, h4⟩ := idxP_spec ds 0 k hk
          have hk0 : k = m := by omega
          subst hk0
          refine ⟨Z, α, β, env, S, ov, S1, R, eo, fun v H1 β1 R1 A1 r1 => ?_⟩
          obtain ⟨a, ys, rfl, hn, hH⟩ := r1.refL R1 en
          refine ⟨.inl ⟨rfl, _, .of hH⟩, Z, α, β1, env, S1, y, S2, R1, ey, fun w H2 β2 R2 A2 r2 => ?_⟩
          have hn2 := A2.nth _ _ hn
          obtain ⟨o2, e3, co⟩ := R2.cell _ _ _ ex hn2
          replace co := co.ok
          cases co with
          | lst rr =>
            have p2 := Res.dp R2 r2 hd
            refine ⟨a, w, _, d, ds, k, zz, rfl, rfl, e3, Reps.dp rr hds, p2, hsh.1, hsh.2, h2, h3, h4, ?_⟩
            have A12 := (A1.trb A2)
            exact q α β2 σ _ (R2.updRef hn2 (.lst (rr.eraseIdx k))) (AdvS.trans A12.ws .refl (adv_wr (W := Ws α β2) (Or.inl (List.mem_of_getElem? hn2)) (nf_lst e3))) .refl
        · cases e1
      · cases e1
    · cases e1
theorem S.extRef (ho : EX X true o u) (h : EX X true e t) (h1 : starEach [e] X.env = (false, eval e X.env) :: starEach [] X.env := by rfl)
    (hbase : attributeBase o "extend" X.env (eval o X.env) = eval o X.env := by rfl) (hfew : (((backTo tpos (starEach [e] X.env)).all fun x => !x.fst) && (backToKw tpos (keywordEach [] X.env)).all fun x => x.fst.isSome) && decide (([e].length + ([] : List Keyword).length + if ([] : List Keyword).isEmpty = true then 0 else 1) < 30) = true := by rfl) (hline : (apos.endLine == tpos.line) = true := by rfl) :
    SX X (.Expr (.Call (.Attribute o "extend" apos) [e] [] tpos) pos) (sExtRef u t) :=
  PS.imp (ps_expr (pe_bm PySem.F.plainAttrs_list PySem.F.slot_list_extend PySem.F.type_list_extend mt_extend ho (pa_cons h pa_nil h1) (hbase := hbase) (hfew := hfew) (hline := hline) (hs := h1))) fun E σ H ⟨Z, α, β, env, S, f, S', R, e1, q⟩ => by
    unfold sExtRef at e1
    obtain ⟨⟨ov, S1⟩, eo, e1⟩ := Option.bind_eq_some_iff.mp e1
    obtain ⟨n, en, e1⟩ := Option.bind_eq_some_iff.mp e1
    obtain ⟨⟨y, S2⟩, ey, e1⟩ := Option.bind_eq_some_iff.mp e1
    split at e1
    · rename_i xs zs ex ez
      split at e1
      · rename_i hz
        cases e1
        cases ez
        refine ⟨Z, α, β, env, S, ov, S1, R, eo, fun v H1 β1 R1 A1 r1 => ?_⟩
        obtain ⟨a, ys, rfl, hn, hH⟩ := r1.refL R1 en
        refine ⟨.inl ⟨rfl, _, .of hH⟩, Z, α, β1, env, S1, _, S2, R1, ey, fun w H2 β2 R2 A2 r2 => ?_⟩
        have hn2 := A2.nth _ _ hn
        obtain ⟨o2, e3, co⟩ := R2.cell _ _ _ ex hn2
        replace co := co.ok
        have hw : ∃ c vs, w = .ref c ∧ H2 c = some (.lst vs) ∧ Reps X.K (mX X) β2 (Oo Z α β2) H2 zs vs := by
          rcases r2 with r2 | ⟨_, i, c, cc, oo, g1, g2, g3, g4, g5⟩
          · cases r2 with
            | lst g1 g2 g3 => exact ⟨_, _, rfl, g1, g3⟩
          · cases g3 with
            | lst g6 => cases g4; exact ⟨_, _, g5, g2, g6⟩
            | dct g6 g7 => cases g4
        obtain ⟨c, vs, rfl, hc, rz⟩ := hw
        cases co with
        | lst rr =>
          refine ⟨a, c, _, _, rfl, rfl, e3, hc, by rw [← rr.length, ← rz.length]; exact hz, ?_⟩
          have A12 := (A1.trb A2)
          exact q α β2 σ _ (R2.updRef hn2 (.lst (Reps.append rr rz))) (AdvS.trans A12.ws .refl (adv_wr (W := Ws α β2) (Or.inl (List.mem_of_getElem? hn2)) (nf_lst e3))) .refl
      · cases e1
    · cases e1
theorem E.popRef (ho : EX X true o u) (hbase : attributeBase o "pop" X.env (eval o X.env) = eval o X.env := by rfl) (hline : (apos.endLine == pos.line) = true := by rfl) :
    EX X b (.Call (.Attribute o "pop" apos) [] [] pos) (dPopRef u) :=
  PE.imp (pe_bm0 PySem.F.plainAttrs_list PySem.F.slot_list_pop PySem.F.type_list_pop mt_pop ho (hbase := hbase) (hline := hline)) fun σ H Q ⟨Z, α, β, env, S, d, S', R, e1, q⟩ => by
    unfold dPopRef at e1
    obtain ⟨⟨ov, S1⟩, eo, e1⟩ := Option.bind_eq_some_iff.mp e1
    obtain ⟨n, en, e1⟩ := Option.bind_eq_some_iff.mp e1
    split at e1
    · rename_i xs ex
      obtain ⟨y, ey, e2⟩ := Option.map_eq_some_iff.mp e1
      cases e2
      refine ⟨Z, α, β, env, S, ov, S1, R, eo, fun v H1 β1 R1 A1 r1 => ?_⟩
      obtain ⟨a, ys, rfl, hn, hH⟩ := r1.refL R1 en
      refine ⟨.inl ⟨rfl, _, .of hH⟩, ?_⟩
      obtain ⟨o2, e3, co⟩ := R1.cell _ _ _ ex hn
      replace co := co.ok
      cases co with
      | @lst _ vs rr =>
        obtain ⟨w, hw, rw_⟩ := rr.get ey
        have A := adv_wr (W := Wb β1) (β := β1) (H := H1) (o := .lst vs.dropLast) (List.mem_of_getElem? hn) (nf_lst e3)
        exact ⟨a, _, w, rfl, rfl, e3, by rw [← rr.length]; exact hw, q _ _ β1 (R1.updRef hn (.lst rr.dropLast)) (A1.trb A) (.inl (rw_.adv A))⟩
    · cases e1
end
end Rf
end
section
set_option maxHeartbeats 2000000
/-! Rf, part S: enumerate over a list of the store. -/
namespace Rf
open PySem PySem.Spec PyProof.Rows L2
section
variable {K : PySem.W.Frag} {mg : Mg} {Z : Addr → Prop} {α : Nat → Option Addr} {β : List Addr} {H : Hp} {b : Bool}
theorem nums_at {xs : List D} {i : Nat} {d : D} (h : (nums xs)[i]? = some d) : ∃ x, xs[i]? = some x ∧ d = .par [.int (i : Int), x] := by
  unfold nums at h
  obtain ⟨x, y, e1, e2, rfl⟩ := pairs_get h
  obtain ⟨_, rfl⟩ := rngL_get e1
  exact ⟨y, e2, by rw [show (0 : Int) + (i : Int) = (i : Int) by omega]⟩
theorem nums_length (xs : List D) : (nums xs).length = xs.length := by
  unfold nums
  rw [pairs_len, rngL_len]
  omega
theorem gok_num {n : Nat} {xs : List D} {S : Sto} (h : S[n]? = some (.lst xs)) : gok (some (.inr n)) (nums xs) S := ⟨xs, h, nums_length xs, fun i d e => nums_at e⟩
theorem iteG_ok {a : Addr} {n : Nat} {xs : List D} (h : β[n]? = some a) : ItOk K mg b Z α β H (Ite K a) (nums xs) (some (.inr n)) where
  go := fun i d Z1 α1 β1 env1 S1 σ1 H1 R1 k g e => by
    obtain ⟨ys, h1, h2, h3⟩ := g
    obtain ⟨o, e1, c1⟩ := R1.cell _ _ _ h1 (k.nth _ _ h)
    replace c1 := c1.ok
    cases c1 with
    | lst rr =>
      obtain ⟨x, e2, rfl⟩ := h3 i d e
      obtain ⟨u, f1, s1⟩ := rr.get e2
      refine ⟨⟨_, u, .of e1, f1⟩, fun z H2 hy => ?_⟩
      obtain ⟨T, u', rfl, n, rfl, g1⟩ := hy
      have e3 := g1 _ (.of e1)
      rw [f1] at e3
      cases e3
      exact yld_tup (d := .int ((i : Nat) : Int)) R1 n (.int _) s1
  stop := fun i Z1 α1 β1 env1 S1 σ1 H1 R1 k g hl => by
    obtain ⟨ys, h1, h2, h3⟩ := g
    obtain ⟨o, e1, c1⟩ := R1.cell _ _ _ h1 (k.nth _ _ h)
    replace c1 := c1.ok
    cases c1 with
    | lst rr =>
      have l1 := rr.length
      exact ⟨_, .of e1, by omega⟩
end
/-- enumerate over a list of the store -/
def iEnumR (t : DE) : DI := fun env S => (t env S).bind fun p => match p.1 with
  | .ref n => (match p.2[n]? with
    | some (.lst xs) => some ((nums xs, some (.inr n)), p.2)
    | _ => none)
  | _ => none
section
variable {X : Cx} {b : Bool} {p pos tpos : Pos} {e : Expr} {t : DE} {elts : List Expr} {kk : Nat}
theorem I.enumR (hg : Gl X "enumerate") (hm : X.mg "enumerate" = none) (h : EX X b e t) (hs : starEach [e] X.env = [(false, eval e X.env)] := by rfl) :
    IX X b (.Tuple elts kk tpos) (.Call (.Name "enumerate" p) [e] [] pos) (iEnumR t) :=
  PI.imp (pi_enum hg hm (PA.lens (A.cons h A.nil hs)) hs) fun σ H R' ⟨Z, α, β, env, S, items, gd, S', R, e1, q⟩ => by
    unfold iEnumR at e1
    obtain ⟨⟨x, S1⟩, ex, e2⟩ := Option.bind_eq_some_iff.mp e1
    simp only at e2
    clear e1
    split at e2
    · rename_i n
      split at e2
      · rename_i xs en
        cases e2
        refine ⟨Z, α, β, env, S, [.ref n], S', R, ?_, fun vs H1 β1 R1 A1 r1 L => ?_⟩
        · show (t env S).bind _ = _
          rw [ex]
          rfl
        obtain ⟨v, rfl, r⟩ := Paired.one r1
        obtain ⟨a, ys, rfl, hn, hH⟩ := r.refL R1 (show refL S' (.ref n) = some n by show (match S'[n]? with | some (.lst _) => some n | _ => none) = _; rw [en])
        obtain ⟨o, e3, c⟩ := R1.cell _ _ _ en hn
        replace c := c.ok
        cases c with
        | lst rr =>
          have hq : SqL X.K H1 a _ := .of e3
          refine ⟨a, _, rfl, hq, q _ H1 β1 R1 A1 ?_ (iteG_ok hn)⟩
          have l1 := (L a _).1 hq
          have l2 := rr.length
          rw [nums_length]
          omega
      · cases e2
    · cases e2
end
end Rf
end
section
set_option maxHeartbeats 2000000
/-! Rf, part T: instances of the text's classes: fields, methods, making. -/
namespace Rf
open PySem PySem.Spec PyProof.Rows L2
/-! ### fields -/
def putD (f : PySem.Str) (d : D) : List (PySem.Str × D) → List (PySem.Str × D)
  | [] => [(f, d)]
  | (g, x) :: r => if g = f then (g, d) :: r else (g, x) :: putD f d r
section
variable {K : PySem.W.Frag} {mg : Mg} {β : List Addr} {O : Addr → Prop} {H : Hp}
theorem flds_look {f : PySem.Str} : ∀ {fs : List (PySem.Str × D)} {vs : List (PySem.Str × V)} {d : D}, fs.map (·.1) = vs.map (·.1) → Reps K mg β O H (fs.map (·.2)) (vs.map (·.2)) → fs.lookup f = some d → ∃ v, vs.lookup f = some v ∧ Rep K mg β O H d v
  | [], _, _, _, _, e => by cases e
  | (g, x) :: fs, [], _, h, _, _ => by cases h
  | (g, x) :: fs, (g', y) :: vs, d, h, r, e => by
    obtain ⟨h1, h2⟩ := List.cons.inj h
    obtain rfl : g = g' := h1
    cases r with
    | cons r1 r2 =>
      rw [List.lookup_cons] at e ⊢
      by_cases hb : (f == g) = true
      · simp only [hb] at e ⊢
        cases e
        exact ⟨y, rfl, r1⟩
      · simp only [Bool.not_eq_true] at hb
        simp only [hb] at e ⊢
        exact flds_look h2 r2 e
theorem flds_none {f : PySem.Str} : ∀ {fs : List (PySem.Str × D)} {vs : List (PySem.Str × V)}, fs.map (·.1) = vs.map (·.1) → fs.lookup f = none → vs.lookup f = none
  | [], [], _, _ => rfl
  | [], _ :: _, h, _ => by cases h
  | _ :: _, [], h, _ => by cases h
  | (g, x) :: fs, (g', y) :: vs, h, e => by
    obtain ⟨h1, h2⟩ := List.cons.inj h
    obtain rfl : g = g' := h1
    rw [List.lookup_cons] at e ⊢
    by_cases hb : (f == g) = true
    · simp only [hb] at e
      cases e
    · simp only [Bool.not_eq_true] at hb
      simp only [hb] at e ⊢
      exact flds_none h2 e
theorem flds_put {f : PySem.Str} {d : D} {v : V} (rd : Rep K mg β O H d v) : ∀ {fs : List (PySem.Str × D)} {vs : List (PySem.Str × V)}, fs.map (·.1) = vs.map (·.1) → Reps K mg β O H (fs.map (·.2)) (vs.map (·.2)) →
    (putD f d fs).map (·.1) = (putF f v vs).map (·.1) ∧ Reps K mg β O H ((putD f d fs).map (·.2)) ((putF f v vs).map (·.2))
  | [], [], _, _ => ⟨rfl, .cons rd .nil⟩
  | [], _ :: _, h, _ => by cases h
  | _ :: _, [], h, _ => by cases h
  | (g, x) :: fs, (g', y) :: vs, h, r => by
    obtain ⟨h1, h2⟩ := List.cons.inj h
    obtain rfl : g = g' := h1
    cases r with
    | cons r1 r2 =>
      unfold putD putF
      by_cases hg : g = f
      · rw [if_pos hg, if_pos hg]
        exact ⟨by simp only [List.map_cons]; rw [h2], .cons rd r2⟩
      · rw [if_neg hg, if_neg hg]
        obtain ⟨k1, k2⟩ := flds_put rd h2 r2
        exact ⟨by simp only [List.map_cons]; rw [k1], .cons r1 k2⟩
theorem Res.ref {Z : Addr → Prop} {α : Nat → Option Addr} {b : Bool} {n : Nat} {v : V} (r : Res K mg Z α β H b (.ref n) v) : ∃ a, v = .ref a ∧ β[n]? = some a := by
  rcases r with r | ⟨_, i, a, c, o, h1, h2, h3, h4, h5⟩
  · cases r with
    | ref h => exact ⟨_, rfl, h⟩
  · cases c <;> cases h3 <;> cases h4
end
/-- the instance of C at a place of the store -/
def insAt (C : String) (S : Sto) : D → Option (Nat × List (PySem.Str × D))
  | .ref n => (match S[n]? with
    | some (.ins C' fs) => if C' = C then some (n, fs) else none
    | _ => none)
  | _ => none
theorem insAt_some {C : String} {S : Sto} {d : D} {n : Nat} {fs : List (PySem.Str × D)} (h : insAt C S d = some (n, fs)) : d = .ref n ∧ S[n]? = some (.ins C fs) := by
  unfold insAt at h
  split at h
  · split at h
    · rename_i C' fs' e
      split at h
      · rename_i hc
        subst hc
        cases h
        exact ⟨rfl, e⟩
      · cases h
    · cases h
  · cases h
section
variable {K : PySem.W.Frag} {mg : Mg} {Z : Addr → Prop} {α : Nat → Option Addr} {β : List Addr} {H : Hp} {env : Env} {S : Sto} {σ : L2.St} {b : Bool}
theorem ins_of {C : String} {d : D} {n : Nat} {v : V} {fs : List (PySem.Str × D)} {CA : Addr} (R : Rel K mg Z α β env S σ H) (r : Res K mg Z α β H b d v) (h : insAt C S d = some (n, fs)) (hm : mg (PySem.Str.ofString C) = some (.ref CA)) :
    ∃ a dx vs, v = .ref a ∧ β[n]? = some a ∧ H a = some (.ins CA dx vs) ∧ fs.map (·.1) = vs.map (·.1) ∧ Reps K mg β (Oo Z α β) H (fs.map (·.2)) (vs.map (·.2)) := by
  obtain ⟨rfl, e⟩ := insAt_some h
  obtain ⟨a, rfl, hn⟩ := r.ref
  obtain ⟨o, e2, c⟩ := R.cell _ _ _ e hn
  cases c with
  | pl c => cases c
  | ins h1 h2 h3 =>
    rw [hm] at h1
    cases h1
    exact ⟨a, _, _, rfl, hn, e2, h2, h3⟩
end
/-- o.f -/
def dFld (C : String) (f : PySem.Str) (t : DE) : DE := fun env S => (t env S).bind fun p => (insAt C p.2 p.1).bind fun q => (q.2.lookup f).map fun d => (d, p.2)
/-- o.f = e -/
def sFldD (C : String) (f : PySem.Str) (o t : DE) : DS := fun env S => (t env S).bind fun p => (o env p.2).bind fun q => (insAt C q.2 q.1).bind fun z => if z.2.length < 1000 then some (.nx env, q.2.set z.1 (.ins C (putD f p.1 z.2))) else none
/-- o.m(..) -/
def dMeth (C : String) (m : PySem.Str) (φ : Fn) (o : DE) (u : DA) : DE := fun env S => (o env S).bind fun p => (insAt C p.2 p.1).bind fun z => if z.2.lookup m = none then (u env p.2).bind fun q => φ (p.1 :: q.1) q.2 else none
/-- C(..) -/
def dMake (C : String) (dd : List D) (φ : Fn) (u : DA) : DE := fun env S => (u env S).bind fun p => match φ (.ref p.2.length :: (p.1 ++ dd)) (p.2 ++ [.ins C []]) with
  | some (.non, S') => some (.ref p.2.length, S')
  | _ => none
section
variable {X : Cx} {b : Bool} {o e : Expr} {es : List Expr} {u t : DE} {ua : DA} {C : String} {f m : PySem.Str} {pos apos p : Pos} {φ : Fn} {k n : Nat}
theorem E.fld (hm : X.mg (PySem.Str.ofString C) = some (.ref (He.ga X.K (PySem.Str.ofString C)))) (hc : Cls X.K (He.ga X.K (PySem.Str.ofString C))) (hn : NoAttr X.K (He.ga X.K (PySem.Str.ofString C)) f) (ho : EX X true o u)
    (hb : attributeBase o f X.env (eval o X.env) = eval o X.env := by rfl) : EX X b (.Attribute o f pos) (dFld C f u) :=
  PE.imp (pe_fld ho hb) fun σ H Q ⟨Z, α, β, env, S, d, S', R, e1, q⟩ => by
    unfold dFld at e1
    obtain ⟨⟨ov, S1⟩, eo, e1⟩ := Option.bind_eq_some_iff.mp e1
    obtain ⟨⟨n, fs⟩, ei, e1⟩ := Option.bind_eq_some_iff.mp e1
    obtain ⟨d', el, e2⟩ := Option.map_eq_some_iff.mp e1
    cases e2
    refine ⟨Z, α, β, env, S, ov, S1, R, eo, fun v H1 β1 R1 A1 r1 => ?_⟩
    obtain ⟨a, dx, vs, rfl, hn1, hH, k1, k2⟩ := ins_of R1 r1 ei hm
    obtain ⟨v, l1, l2⟩ := flds_look k1 k2 el
    exact ⟨a, _, dx, vs, v, rfl, hH, hc, hn, l1, q v H1 β1 R1 A1 (.inl l2)⟩
theorem S.fld {pos' : Pos} (hm : X.mg (PySem.Str.ofString C) = some (.ref (He.ga X.K (PySem.Str.ofString C)))) (hc : Cls X.K (He.ga X.K (PySem.Str.ofString C))) (hn : NoAttr X.K (He.ga X.K (PySem.Str.ofString C)) f) (ho : EX X true o u) (h : EX X false e t)
    (hs : swapsWith e (some (.Attribute o f pos')) pos.line X.env = pure false := by rfl) : SX X (.Assign [.Attribute o f pos'] e pos) (sFldD C f u t) :=
  PS.imp (ps_fld ho h hs) fun E σ H ⟨Z, α, β, env, S, fl, S', R, e1, q⟩ => by
    unfold sFldD at e1
    obtain ⟨⟨y, S1⟩, ey, e1⟩ := Option.bind_eq_some_iff.mp e1
    obtain ⟨⟨ov, S2⟩, eo, e1⟩ := Option.bind_eq_some_iff.mp e1
    obtain ⟨⟨n, fs⟩, ei, e1⟩ := Option.bind_eq_some_iff.mp e1
    split at e1
    · rename_i hz
      cases e1
      refine ⟨Z, α, β, env, S, y, S1, R, ey, fun w H1 β1 R1 A1 r1 => ⟨Z, α, β1, env, S1, ov, S2, R1, eo, fun v H2 β2 R2 A2 r2 => ?_⟩⟩
      obtain ⟨a, dx, vs, rfl, hn2, hH, k1, k2⟩ := ins_of R2 r2 ei hm
      obtain ⟨p1, p2⟩ := flds_put (f := f) (r1.rep.adv A2) k1 k2
      have hl : vs.length < 1000 := by
        have := congrArg List.length k1
        rw [List.length_map, List.length_map] at this
        rw [← this]
        exact hz
      refine ⟨a, _, dx, vs, rfl, hH, hc, hn, hl, ?_⟩
      exact q α β2 σ _ (R2.updRefS hn2 (.ins hm p1 p2)) (AdvS.trans (A1.trb A2).ws .refl (adv_wr (W := Ws α β2) (Or.inl (List.mem_of_getElem? hn2)) (nf_ins hH))) .refl
    · cases e1
/-- a method stands at its class and keeps to φ -/
def MethAt (P : Program) (w : World) (K : PySem.W.Frag) (mg : PySem.Str → Option Value) (base : Heap) (k : Nat) (C : String) (m : PySem.Str) (n : Nat) (φ : Fn) : Prop :=
  ∃ (f : Addr) (fd : FuncData) (ps : List PySem.Str), mg (PySem.Str.ofString C) = some (.ref (He.ga K (PySem.Str.ofString C))) ∧ Cls K (He.ga K (PySem.Str.ofString C)) ∧ Meth K (He.ga K (PySem.Str.ofString C)) m f ∧ Binds K fd ps [] ∧ ps.length = n ∧ FnOk P w K mg base CX0 k f fd ps (spF K ⟨mg, P, w⟩ φ)
theorem rd_meth {CA : Addr} (hm : X.mg (PySem.Str.ofString C) = some (.ref CA)) (σ : L2.St) (H : Hp) (Q : VK) (h : rdX X.K (mX X) b (dMeth C m φ u ua) σ H Q) : tMeth CA m (spF X.K (mX X) φ) [] E0 (rdX X.K (mX X) true u) (rdA X.K (mX X) false ua) σ H Q := by
  obtain ⟨Z, α, β, env, S, d, S', R, e1, q⟩ := h
  unfold dMeth at e1
  obtain ⟨⟨ov, S1⟩, eo, e1⟩ := Option.bind_eq_some_iff.mp e1
  obtain ⟨⟨n, fs⟩, ei, e1⟩ := Option.bind_eq_some_iff.mp e1
  split at e1
  · rename_i hl
    obtain ⟨⟨xs, S2⟩, ex, e1⟩ := Option.bind_eq_some_iff.mp e1
    refine ⟨Z, α, β, env, S, ov, S1, R, eo, fun v H1 β1 R1 A1 r1 => ?_⟩
    obtain ⟨a, dx, vs, rfl, hn1, hH, k1, k2⟩ := ins_of R1 r1 ei hm
    refine ⟨a, dx, vs, rfl, hH, flds_none k1 hl, Z, α, β1, env, S1, xs, S2, R1, ex, fun us H2 β2 R2 A2 r2 => ?_⟩
    show spF X.K (mX X) φ (.ref a :: (us ++ [])) H2 Q E0
    rw [List.append_nil]
    obtain ⟨rfl, _⟩ := insAt_some ei
    refine ⟨Zc Z α, β2, S2, .ref n :: xs, d, S', R2.toCall, .cons (.ref (A2.nth _ _ hn1)) (by rw [Oo_zc]; exact Paired.reps r2), e1, fun v H3 β3 R3 A3 r3 => ?_⟩
    rw [Oo_zc] at r3
    exact q v H3 β3 (R2.fromCall R3 A3) ((A1.trb A2).trb A3) (.inl r3)
  · cases e1
theorem E.meth (F : MethAt X.prog X.w X.K X.mg X.base k C m n φ) (hr : Room k X.A) {pl : Sem Bool} (ho : EX X true o u) (ha : AX X false (e :: es) ua)
    (hst : starEach (e :: es) X.env = (false, eval e X.env) :: starEach es X.env := by rfl) (hpl : (backTo pos (starEach es X.env)).any (·.1) = false := by rfl)
    (ht : eval (.Call (.Attribute o m apos) (e :: es) [] pos) X.env = (do
      let ov ← eval o X.env
      standAt apos.atName
      let (f, first) ← holding [ov] (getMethod ov m pl)
      callWith pos f first (backTo pos (starEach (e :: es) X.env)) (backToKw pos (keywordEach [] X.env))) := by rfl) : EX X b (.Call (.Attribute o m apos) (e :: es) [] pos) (dMeth C m φ u ua) := by
  obtain ⟨f, fd, ps, h1, h2, h3, h4, h5, F⟩ := F
  exact PE.imp (pe_meth (pl := pl) ho h2 h3 F hr h4 .nil pass0 ha hst hpl ht) fun σ H Q h => rd_meth h1 σ H Q h
theorem E.meth0 (F : MethAt X.prog X.w X.K X.mg X.base k C m n φ) (hr : Room k X.A) {pl : Sem Bool} (ho : EX X true o u)
    (ht : eval (.Call (.Attribute o m apos) [] [] pos) X.env = (do
      let ov ← eval o X.env
      standAt apos.atName
      let (f, first) ← holding [ov] (getMethod ov m pl)
      callWith pos f first (backTo pos (starEach [] X.env)) (backToKw pos (keywordEach [] X.env))) := by rfl) : EX X b (.Call (.Attribute o m apos) [] [] pos) (dMeth C m φ u aNil) := by
  obtain ⟨f, fd, ps, h1, h2, h3, h4, h5, F⟩ := F
  refine PE.imp (pe_meth0 (pl := pl) ho h2 h3 F hr h4 .nil pass0 ht) fun σ H Q h => ?_
  obtain ⟨Z, α, β, env, S, ov, S1, R, eo, q⟩ := rd_meth h1 σ H Q h
  refine ⟨Z, α, β, env, S, ov, S1, R, eo, fun v H1 β1 R1 A1 r1 => ?_⟩
  obtain ⟨a, dx, vs, e1, e2, e3, q2⟩ := q v H1 β1 R1 A1 r1
  refine ⟨a, dx, vs, e1, e2, e3, ?_⟩
  obtain ⟨Z2, α2, β2, env2, T, xs, T1, R2, ex, q3⟩ := q2
  cases ex
  exact q3 [] H1 β2 R2 .refl .nil
/-- a class is made by its __init__, which keeps to φ; dd: the defaults that fill up -/
def MkAt (P : Program) (w : World) (K : PySem.W.Frag) (mg : PySem.Str → Option Value) (base : Heap) (k : Nat) (C : String) (dd : List D) (φ : Fn) : Prop :=
  ∃ (f : Addr) (fd : FuncData) (ps : List PySem.Str) (ds : List Value) (dvs : List V), mg (PySem.Str.ofString C) = some (.ref (He.ga K (PySem.Str.ofString C))) ∧ Mk K (He.ga K (PySem.Str.ofString C)) f ∧
    (∀ β O H, Reps K ⟨mg, P, w⟩ β O H dd dvs) ∧ Vals dvs ds ∧ Binds K fd ps ds ∧ FnOk P w K mg base CX0 k f fd ps (spF K ⟨mg, P, w⟩ φ)
theorem rd_make {CA : Addr} {dd : List D} {dvs : List V} (hm : X.mg (PySem.Str.ofString C) = some (.ref CA)) (hd : ∀ β O H, Reps X.K (mX X) β O H dd dvs) (σ : L2.St) (H : Hp) (Q : VK) (h : rdX X.K (mX X) b (dMake C dd φ ua) σ H Q) : tMake CA (spF X.K (mX X) φ) dvs E0 (rdA X.K (mX X) false ua) σ H Q := by
  obtain ⟨Z, α, β, env, S, d, S', R, e1, q⟩ := h
  unfold dMake at e1
  obtain ⟨⟨xs, S1⟩, ex, e1⟩ := Option.bind_eq_some_iff.mp e1
  simp only at e1
  split at e1
  · rename_i S2 eφ
    cases e1
    refine ⟨Z, α, β, env, S, xs, S1, R, ex, fun vs H1 β1 R1 A1 r1 x dx nx ndx nex => ?_⟩
    have n2 : upd H1 dx (.own x) x = none := by rw [upd_ne (fun z => nex z.symm)]; exact nx
    have R2 := (R1.nw (o := .own x) ndx).apart n2 (.ins CA dx [])
    have R3 := R2.pushRefS (c := .ins C []) (fun z => R1.zlive x z nx) upd_same (.ins hm rfl .nil)
    have A2 : Adv (Wb β1) β1 H1 (β1 ++ [x]) (upd (upd H1 dx (.own x)) x (.ins CA dx [])) := by
      have a1 : Adv (Wb β1) β1 H1 β1 (upd H1 dx (.own x)) := Adv.upd ndx
      have a2 : Adv (Wb β1) β1 (upd H1 dx (.own x)) β1 (upd (upd H1 dx (.own x)) x (.ins CA dx [])) := Adv.upd n2
      have a3 := a1.trb a2
      exact ⟨⟨[x], rfl, fun y hy => by rw [List.mem_singleton.mp hy]; exact nx⟩, a3.keep, a3.live, a3.frz⟩
    have hx : (β1 ++ [x])[S1.length]? = some x := by
      rw [← R1.blen, List.getElem?_append_right (Nat.le_refl _)]
      simp
    refine ⟨Zc Z α, β1 ++ [x], S1 ++ [.ins C []], .ref S1.length :: (xs ++ dd), .non, S', R3.toCall, .cons (.ref hx) (Reps.append (by rw [Oo_zc]; exact (Paired.reps r1).adv A2) (hd _ _ _)), eφ, fun v H3 β3 R4 A3 r3 => ?_⟩
    cases r3
    exact ⟨rfl, q (.ref x) H3 β3 (R3.fromCall R4 A3) ((A1.trb A2).trb A3) (.inl (.ref (A3.nth _ _ hx)))⟩
  · cases e1
theorem E.make {dd : List D} {x : PySem.Str} (F : MkAt X.prog X.w X.K X.mg X.base k C dd φ) (hr : Room (k + 1) X.A) (hg : Gl X x) (ha : AX X false (e :: es) ua) (hx : x = PySem.Str.ofString C := by rfl) (hdb : (x == ("__debug__" : PySem.Str)) = false := by decide)
    (he : starEach (e :: es) X.env = (false, eval e X.env) :: starEach es X.env := by rfl) (hpl : (backTo pos (starEach es X.env)).any (·.1) = false := by rfl) : EX X b (.Call (.Name x p) (e :: es) [] pos) (dMake C dd φ ua) := by
  subst hx
  obtain ⟨f, fd, ps, ds, dvs, h1, h2, h3, h4, h5, F⟩ := F
  exact PE.imp (pe_make h2 F hr hg h1 h5 h4 pass0 ha hdb he hpl) fun σ H Q h => rd_make h1 h3 σ H Q h
theorem E.make0 {dd : List D} {x : PySem.Str} (F : MkAt X.prog X.w X.K X.mg X.base k C dd φ) (hr : Room (k + 1) X.A) (hg : Gl X x) (hx : x = PySem.Str.ofString C := by rfl) (hdb : (x == ("__debug__" : PySem.Str)) = false := by decide) : EX X b (.Call (.Name x p) [] [] pos) (dMake C dd φ aNil) := by
  subst hx
  obtain ⟨f, fd, ps, ds, dvs, h1, h2, h3, h4, h5, F⟩ := F
  refine PE.imp (pe_make0 h2 F hr hg h1 h5 h4 pass0 hdb) fun σ H Q h => ?_
  obtain ⟨Z, α, β, env, S, xs, S1, R, ex, q⟩ := rd_make h1 h3 σ H Q h
  cases ex
  exact q [] H β R .refl .nil
end
end Rf
end
section
set_option maxHeartbeats 2000000
/-! Rf, part U: methods and makers of the text, at their classes. -/
namespace Rf
open PySem PySem.Spec PyProof.Rows L2
/-- the j-th statement of a class's body -/
def clsStmt (st : Stmt) (j : Nat) : Stmt := match st with
  | .ClassDef _ _ _ body _ _ _ _ _ _ _ => body.getD j st
  | _ => st
theorem u70G {A : Around} {k : Nat} (r : RoomG k A) : A.units + 70 < cLine := by have := r.rm.un; omega
/-! ### two texts -/
def eqT (_ : Sto) (x y : D) : Option D := match x, y with
  | .str a, .str b => some (.bl (a == b))
  | _, _ => none
theorem Res.strV {K : PySem.W.Frag} {mg : Mg} {Z : Addr → Prop} {α : Nat → Option Addr} {β : List Addr} {H : Hp} {b : Bool} {a : PySem.Str} {v : V} (r : Res K mg Z α β H b (.str a) v) : v = .str a := by
  rcases r with r | ⟨_, i, c, cc, o, h1, h2, h3, h4, h5⟩
  · cases r; rfl
  · cases h3 <;> cases h4
theorem br_eqT {K : PySem.W.Frag} {mg : Mg} : Br2 K mg rEq eqT := fun Z α β env S σ H R x y v w d rx ry e Q q => by
  unfold eqT at e
  split at e
  · rename_i a b
    cases e
    obtain rfl := rx.strV
    obtain rfl := ry.strV
    refine ⟨rfl, ?_⟩
    rw [dec_str]
    exact q _ H R .refl (.bl _)
  · cases e
def dEqT (ta tb : DE) : DE := dOp2 eqT ta tb
theorem E.eqT {X : Cx} {b : Bool} {ea eb : Expr} {ta tb : DE} {pos : Pos} (ha : EX X true ea ta) (hb : EX X true eb tb) : EX X b (.Compare ea [.Eq] [eb] pos) (dEqT ta tb) := E.cmpR op_eq br_eqT ha hb (nomark _)
/-- the tuple at an address of the head -/
def ckTupAt (p : PySem.W.Frag → Addr) (ds : List D) : Ck := fun K => match K.lookup (p K) with
  | some ⟨.type c, none, .seq its _, _⟩ => decide (c = "tuple") && (decide (its.size ≤ sizeLine) && valsAre ds its.toList)
  | _ => false
theorem ckTupAt_ok {K : PySem.W.Frag} {mg : Mg} {p : PySem.W.Frag → Addr} {ds : List D} (h : ckTupAt p ds K = true) (β : List Addr) (O : Addr → Prop) (H : Hp) : Rep K mg β O H (.tup ds) (.ref (p K)) := by
  unfold ckTupAt at h
  split at h
  · rename_i c its n sl e
    rw [Bool.and_eq_true, Bool.and_eq_true, decide_eq_true_eq, decide_eq_true_eq] at h
    obtain ⟨h1, h2, h3⟩ := h
    obtain ⟨k1, k2⟩ := valsAre_ok h3
    exact .tup (.inr ⟨_, its, n, e, by rw [h1], rfl, rfl, h2, k1⟩) (k2 β O H)
  · cases h
section
variable {P : Program} {w : World} {K : PySem.W.Frag} {mg : PySem.Str → Option Value} {base h : Heap} {fa : List He.Fa} {fn : List He.DefD}
theorem Txt.cls (T : Txt fa fn K h mg) (i : Nat) {x : PySem.Str} (e : fa[i]? = some (.cls x) := by rfl) : Cls K (He.ga K x) := He.cls_ok (T.says.fact i e)
theorem Txt.noat (T : Txt fa fn K h mg) (i : Nat) {x f : PySem.Str} (e : fa[i]? = some (.noat x f) := by rfl) : NoAttr K (He.ga K x) f := He.noat_ok (T.says.fact i e)
theorem methAt (T : Txt fa fn K h mg) (i jg jc jm : Nat) {C : String} {m qual : PySem.Str} {st : Stmt} {N ps : List PySem.Str} {k : Nat} {t : DS} (S : FnScope N ps (defScope st))
    (hd : fn[i]? = some ⟨(PySem.Str.ofString C, some m), m, qual, defArgs st, defBody st, defScope st, [], []⟩) (hg : fa[jg]? = some (.glo (PySem.Str.ofString C))) (hc : fa[jc]? = some (.cls (PySem.Str.ofString C))) (hm : fa[jm]? = some (.meth (PySem.Str.ofString C) m))
    (hb : ∀ (kV doc pm : Value) (an : Option Addr) (cdv ct : Value) (us : List Value), us.length = ps.length → bindArgs (PySem.W.fnOf m qual (defArgs st) (defBody st) (defScope st) .none kV doc pm an cdv ct) ⟨us, []⟩ = pure (ps.zip us))
    (hk : ps.length ≤ N.length)
    (body : ∀ (cdv : Value) (f : Addr) (A : Around) (outer : List PySem.Env) (s : Shared) (H : Hp) (E : XK), Room k (A.deeper (envOfC qual (defScope st) s.heap.objs.size f cdv)) → SsX (cxOf CX0 P w K mg base N qual (defScope st) f cdv A outer s H E).nox (defBody st) t) : MethAt P w K mg base (k + 1) C m ps.length (runF N.length ps.length t) := by
  obtain ⟨fd, F⟩ := T.says.def_ i hd
  exact ⟨_, fd, ps, T.glo jg hg, T.cls jc hc, He.meth_ok (T.says.fact jm hm), FunD.bindsN F hb, rfl, F.ok S (fun vs H Q E q => spF_len q) fun cdv A outer s H vs Q E hr q => ⟨_, (body cdv _ A outer s H E hr).nox, rd_fn hk q⟩⟩
theorem MethAt.mono {j k n : Nat} {C : String} {m : PySem.Str} {φ : Fn} (F : MethAt P w K mg base j C m n φ) (hl : j ≤ k) : MethAt P w K mg base k C m n φ := by
  obtain ⟨f, fd, ps, h1, h2, h3, h4, h5, F⟩ := F
  exact ⟨f, fd, ps, h1, h2, h3, h4, h5, F.mono hl⟩
/-- a maker, its __init__ without defaults -/
theorem mkAt (T : Txt fa fn K h mg) (i jg jk : Nat) {C : String} {qual : PySem.Str} {st : Stmt} {N ps : List PySem.Str} {k : Nat} {t : DS} (S : FnScope N ps (defScope st))
    (hd : fn[i]? = some ⟨(PySem.Str.ofString C, some ("__init__" : PySem.Str)), ("__init__" : PySem.Str), qual, defArgs st, defBody st, defScope st, [], []⟩) (hg : fa[jg]? = some (.glo (PySem.Str.ofString C))) (hm : fa[jk]? = some (.mkr (PySem.Str.ofString C)))
    (hb : ∀ (kV doc pm : Value) (an : Option Addr) (cdv ct : Value) (us : List Value), us.length = ps.length → bindArgs (PySem.W.fnOf ("__init__" : PySem.Str) qual (defArgs st) (defBody st) (defScope st) .none kV doc pm an cdv ct) ⟨us, []⟩ = pure (ps.zip us))
    (hk : ps.length ≤ N.length)
    (body : ∀ (cdv : Value) (f : Addr) (A : Around) (outer : List PySem.Env) (s : Shared) (H : Hp) (E : XK), Room k (A.deeper (envOfC qual (defScope st) s.heap.objs.size f cdv)) → SsX (cxOf CX0 P w K mg base N qual (defScope st) f cdv A outer s H E).nox (defBody st) t) : MkAt P w K mg base (k + 1) C [] (runF N.length ps.length t) := by
  obtain ⟨fd, F⟩ := T.says.def_ i hd
  exact ⟨_, fd, ps, [], [], T.glo jg hg, He.mkr_ok (T.says.fact jk hm), fun _ _ _ => .nil, .nil, FunD.bindsN F hb, F.ok S (fun vs H Q E q => spF_len q) fun cdv A outer s H vs Q E hr q => ⟨_, (body cdv _ A outer s H E hr).nox, rd_fn hk q⟩⟩
/-- .. with defaults dfl, of which the call lets all behind the first j fill up -/
theorem mkAtD (T : Txt fa fn K h mg) (i jg jk : Nat) {C : String} {qual : PySem.Str} {st : Stmt} {N ps : List PySem.Str} {k : Nat} {t : DS} {dfl : List He.Dv} {dd : List D} (S : FnScope N ps (defScope st)) (n j : Nat) (hn : n + (dfl.length - j) = ps.length) (h0 : dfl ≠ [])
    (hd : fn[i]? = some ⟨(PySem.Str.ofString C, some ("__init__" : PySem.Str)), ("__init__" : PySem.Str), qual, defArgs st, defBody st, defScope st, dfl, []⟩) (hg : fa[jg]? = some (.glo (PySem.Str.ofString C))) (hm : fa[jk]? = some (.mkr (PySem.Str.ofString C)))
    (hdd : ∀ β O H, Reps K ⟨mg, P, w⟩ β O H dd ((dfl.drop j).map (He.Dv.v K)))
    (hb : ∀ (T : Addr) (kV doc pm : Value) (an : Option Addr) (cdv ct : Value) (us its : List Value), us.length = n → its.length = dfl.length →
      ∃ k, bindArgs (PySem.W.fnOf ("__init__" : PySem.Str) qual (defArgs st) (defBody st) (defScope st) (.ref T) kV doc pm an cdv ct) ⟨us, []⟩ = seqItems? (.ref T) >>= k ∧ k (some its.toArray) = pure (ps.zip (us ++ its.drop j)))
    (hk : ps.length ≤ N.length)
    (body : ∀ (cdv : Value) (f : Addr) (A : Around) (outer : List PySem.Env) (s : Shared) (H : Hp) (E : XK), Room k (A.deeper (envOfC qual (defScope st) s.heap.objs.size f cdv)) → SsX (cxOf CX0 P w K mg base N qual (defScope st) f cdv A outer s H E).nox (defBody st) t) : MkAt P w K mg base (k + 1) C dd (runF N.length ps.length t) := by
  obtain ⟨fd, F⟩ := T.says.def_ i hd
  have F : FunD K ("__init__" : PySem.Str) qual (defArgs st) (defBody st) (defScope st) (dfl.map (He.Dv.v K)) [] _ fd := F
  obtain ⟨ds, h1, h2⟩ := F.binds1 (ps := ps) n j (fun z => h0 (List.map_eq_nil_iff.mp z)) (by rw [List.length_map]; exact hn) (by rw [List.length_map]; exact hb)
  exact ⟨_, fd, ps, ds, _, T.glo jg hg, He.mkr_ok (T.says.fact jk hm), hdd, by rw [← List.map_drop] at h1; exact h1, h2, F.ok S (fun vs H Q E q => spF_len q) fun cdv A outer s H vs Q E hr q => ⟨_, (body cdv _ A outer s H E hr).nox, rd_fn hk q⟩⟩
theorem MkAt.mono {j k : Nat} {C : String} {dd : List D} {φ : Fn} (F : MkAt P w K mg base j C dd φ) (hl : j ≤ k) : MkAt P w K mg base k C dd φ := by
  obtain ⟨f, fd, ps, ds, dvs, h1, h2, h3, h4, h5, F⟩ := F
  exact ⟨f, fd, ps, ds, dvs, h1, h2, h3, h4, h5, F.mono hl⟩
end
end Rf
end
section
set_option maxHeartbeats 2000000
/-! Rf, part V: sorted of a tuple. -/
namespace RfV
open PySem PySem.W PyProof.Rows Srt
section
variable {prog : Program} {w : World} {A : Around} {E : Value → Shared → Prop} {s : Shared}
/-- the items of a tuple, taken into a new list -/
theorem gatherT {l : Addr} {us : List Value} {R : List Value → Shared → Prop} (ht : s.heap.IsTuple l us.toArray) (hz : us.length ≤ sizeLine)
    (hR : R us { s with heap := (s.heap.push (seqObj "list" #[] 0)).update s.heap.objs.size (Obj.mapSeq fun xs => xs ++ us.toArray) }) : wpAny (model prog w) A (collect (.ref l)) R E s := by
  obtain ⟨ob, go, cl, k, dt⟩ := ht
  have go2 : (s.heap.push (seqObj "list" #[] 0)).get? l = some ob := Heap.get?_push_of_some _ go
  have gn : (s.heap.push (seqObj "list" #[] 0)).get? s.heap.objs.size = some (seqObj "list" #[] 0) := Heap.get?_push_size _ rfl
  unfold collect
  refine wpAny_bind (wpAny_runValue (codeAny_builtin entry_proto_collect' ?_))
  show wpAny _ _ (do again (.builtin "list.__iadd__" ⟨[← newList [], .ref l], []⟩)) _ _ s
  refine wpAny_bind (wpAny_newList (wpAny_pure ⟨Code.quiet_builtin _ (by decide +kernel), codeAny_builtin entry_list_iadd' ?_⟩))
  show wpAny _ _ (Builtin.List.listExtendWith (.ref s.heap.objs.size) (.ref l) (.ref s.heap.objs.size)) _ _ { s with heap := s.heap.push (seqObj "list" #[] 0) }
  unfold Builtin.List.listExtendWith
  refine wpAny_bind (wpAny_typeOf (T := "tuple") ⟨ob, go2, cl⟩ ?_)
  rw [if_pos (by rw [show (Value.type "tuple" == Value.type "tuple") = true from rfl]; simp)]
  refine wpAny_bind (listItems_at go2 dt ?_)
  refine wpAny_bind (listItems_at (xs := #[]) (n := 0) gn rfl ?_)
  rw [if_neg (by simp)]
  refine wpAny_bind (listUpdate_at (xs := #[]) (n := 0) gn rfl ?_ (Nat.zero_le _) ?sz)
  case sz =>
    show (#[] ++ us.toArray).size ≤ sizeLine + 1
    simp only [Array.size_append, List.size_toArray, List.length_nil]
    omega
  refine wpAny_pure ?_
  show wpAny (model prog w) A (do
      let o ← load s.heap.objs.size
      match o.data with
      | .seq xs _ => pure xs.toList
      | _ => unsupported "internal:collect") R E { s with heap := (s.heap.push (seqObj "list" #[] 0)).update s.heap.objs.size (Obj.mapSeq fun xs => xs ++ us.toArray) }
  refine wpAny_bind (wpAny_load (get?_update_seq gn _) ?_)
  show wpAny _ _ (pure ((#[] : Array Value) ++ us.toArray).toList) R E _
  rw [show ((#[] : Array Value) ++ us.toArray).toList = us by simp]
  exact wpAny_pure hR
/-- sorted(t) of a tuple: the library's list.sort on a new list -/
theorem sortedT {γ : Type} {enc : γ → PyData} {F : Value → γ → Prop} {l : Addr} {us : List Value} {gs : List γ} {R : Value → Shared → Prop} (ht : s.heap.IsTuple l us.toArray) (hF : EachIs F us gs) (hr : EachIs (fun v b => ∃ as, Reads s.heap v (enc b) as) us gs)
    (hal : AllAlike (gs.map enc)) (hk : Sortable (gs.map enc)) (hz : gs.length ≤ sizeLine) (hu : ∀ b, b ∈ gs → A.units + 2 + (enc b).depth < cLine)
    (hR : ∀ out, out.length = gs.length → EachIs F out (gs.mergeSort (dataLe false enc)) → R (.ref (s.heap.objs.size + 1)) { s with heap := sortedAll s.heap us (List.toArray out) }) :
    wpAny (model prog w) A (call (.builtin "sorted") [.ref l]) R E s := by
  have hzu : us.length ≤ sizeLine := by rw [hF.length]; exact hz
  have hr2 : EachIs (fun v b => ∃ as, Reads (sortingHeap (copyHeap s.heap us) (s.heap.objs.size + 1) us) v (enc b) as) us gs := hr.mono fun _ _ ⟨as, q⟩ => ⟨as, PyProof.Rows.Reads.keeps (fun _ _ => sorting_copy_old) q⟩
  refine call_function_entry_kw kind_sorted plain_sorted entry_sorted (args_sorted1 _) ?_
  unfold Builtin.«sorted»
  refine wpAny_bind (m := checkCount "sorted" 1 1 _) (wpAny_pure ?_)
  refine wpAny_bind (gatherT ht hzu ?_)
  refine wpAny_bind (wpAny_newList ?_ hzu)
  have sz : ((s.heap.push (seqObj "list" #[] 0)).update s.heap.objs.size (Obj.mapSeq (· ++ us.toArray))).objs.size = s.heap.objs.size + 1 := by rw [Heap.size_update, size_push']
  show wpAny _ _ _ _ _ { s with heap := copyHeap s.heap us }
  rw [sz]
  refine wpAny_bind (wpAny_holding (wpAny_call_entry_kw slot_list_sort ⟨_, copyHeap_at s.heap us, rfl⟩ entry_list_sort ?main (args_list_sort _)))
  case main =>
    refine list_sort_vals (s := { s with heap := copyHeap s.heap us }) (copyHeap_at s.heap us) (SortsAt.data (s := { s with heap := sortingHeap (copyHeap s.heap us) (s.heap.objs.size + 1) us }) (each_map (R := fun v d => ∃ as, Reads (sortingHeap (copyHeap s.heap us) (s.heap.objs.size + 1) us) v d as) enc hr2) hal hk (bound_map hu)) hzu ?_
    exact ⟨_, rfl, wpAny_pure ⟨_, rfl, hR _ (by rw [sortVals_length false rfl]; exact hF.length) (sortVals_data false hF hr2 hal)⟩⟩
end
end RfV

namespace Rf
open PySem PySem.Spec PyProof.Rows L2
def rSortT (K : PySem.W.Frag) (mg : Mg) : List V → Hp → VK → Prop := fun vs H Q => ∃ (a : Addr) (xs : List V) (ds : List D) (ps : List PyData) (β : List Addr) (O : Addr → Prop), vs = [V.ref a] ∧ SqT K H a xs ∧ Reps K mg β O H ds xs ∧ pyDs ds = some ps ∧ alikeB ps = true ∧ sortableB ps = true ∧ SeqAt.shaped (.list ps) = true ∧
  ∀ p ys, H p = none → Reps K mg β O H (ds.mergeSort (PySem.W.dataLe false encD)) ys → Q (.ref p) (upd H p (.lst ys))
theorem cr_sortT {X : Cx} (hu : X.A.units + 67 < cLine) : CallR X (.builtin "sorted") (rSortT X.K (mX X)) := by
  intro pins s σ H vs us Q I r h
  obtain ⟨a, xs, ds, ps, β, O, rfl, hs, rp, e, ha, hk, hz, q⟩ := h
  obtain ⟨its, rv, hl, hzl⟩ := I.tuple hs
  rw [Vals.ref1 r]
  obtain ⟨as, hr⟩ := Dp.readsAll I ps xs its (Reps.dp rp e) rv
  have ep := pyDs_enc e
  rw [← ep] at hr ha hk hz
  have hdp := SeqAt.depth_of_shaped hz
  rw [PyData.depth] at hdp
  refine RfV.sortedT (enc := encD) (F := fun u d => ∃ x, RelV x u ∧ Rep X.K (mX X) β O H d x) hl (each_of rp rv) (each_reads hr) (alikeB_ok ha) (sortableB_ok hk) (by rw [rp.length]; exact hzl) (fun b hb => ?_) fun out hout ho => ?_
  · have := depth_mem hb
    omega
  · obtain ⟨ys, r1, r2⟩ := of_each ho
    obtain ⟨ep', he'⟩ := PyProof.Rows.sortedAll_at s.heap its out.toArray
    have hlen : ys.length ≤ sizeLine := by rw [r2.length, hout, rp.length]; exact hzl
    exact ⟨.ref _, upd H (s.heap.objs.size + 1) (.lst ys), I.laid (t' := s.toks) (fun _ _ => PyProof.Rows.sortedAll_old) (Nat.le_succ _) ⟨hlen, out, ep', r2, he'⟩, rfl, q _ ys (I.hok.fresh (Nat.le_succ _)) r1⟩
/-- sorted of a list or a tuple -/
def sortedA (S : Sto) : List D → Option D
  | [d] => match seqD S d with
    | some (_, xs) => (sortXs xs).map .lst
    | none => none
  | _ => none
theorem cr_sortA {X : Cx} (hu : X.A.units + 67 < cLine) : CallR X (.builtin "sorted") (fun vs H Q => rSortD X.K (mX X) vs H Q ∨ rSortT X.K (mX X) vs H Q) := by
  intro pins s σ H vs us Q I r h
  rcases h with h | h
  · exact cr_sortD hu pins s σ H vs us Q I r h
  · exact cr_sortT hu pins s σ H vs us Q I r h
theorem br_sortA {K : PySem.W.Frag} {mg : Mg} : BrAF K mg (fun vs H Q => rSortD K mg vs H Q ∨ rSortT K mg vs H Q) sortedA := fun Z α β env S σ H R xs vs d rx e Q q => by
  unfold sortedA at e
  split at e
  · split at e
    · rename_i tp ys e1
      obtain ⟨zs, e2, rfl⟩ := Option.map_eq_some_iff.mp e
      obtain ⟨v, rfl, r⟩ := Paired.one rx
      obtain ⟨a, vs, rfl, rr, h1⟩ := r.seq R e1
      unfold sortXs at e2
      split at e2
      · split at e2
        · rename_i ps e3 hc
          cases e2
          simp only [Bool.and_eq_true] at hc
          cases tp with
          | false => exact .inl ⟨a, vs, ys, ps, β, Oo Z α β, rfl, .of (seq_ff h1), rr, e3, hc.1.1, hc.1.2, hc.2, fun p us n r5 => q p _ (.lst _) _ (R.apart n _) (Adv.upd n) n upd_same rfl (CellOk.apart (.lst r5) n)⟩
          | true => exact .inr ⟨a, vs, ys, ps, β, Oo Z α β, rfl, seq_tt h1, rr, e3, hc.1.1, hc.1.2, hc.2, fun p us n r5 => q p _ (.lst _) _ (R.apart n _) (Adv.upd n) n upd_same rfl (CellOk.apart (.lst r5) n)⟩
        · cases e2
      · cases e2
    · cases e
  · cases e
end Rf
end
section
set_option maxHeartbeats 2000000
/-! Rf, part W: dicts of the store with numbers or texts as keys. -/
namespace Rf
open PySem PySem.Spec PyProof.Rows L2
/-- what stands at a key -/
def lookK (k : Key) : List D → List D → Option D
  | x :: ks, d :: ds => if keyD x = some k then some d else lookK k ks ds
  | _, _ => none
/-- the values behind a change -/
def replK (k : Key) (e : D) : List D → List D → List D
  | x :: ks, d :: ds => (if keyD x = some k then e else d) :: replK k e ks ds
  | _, ds => ds
def hasK (k : Key) (ks : List D) : Bool := ks.any fun x => decide (keyD x = some k)
/-- the keys and the values behind d[x] = e -/
def putKD (x : D) (k : Key) (e : D) (ks ds : List D) : List D × List D := if hasK k ks = true then (ks, replK k e ks ds) else (ks ++ [x], ds ++ [e])
def dictAt (S : Sto) : D → Option (List D × List D)
  | .ref n => (match S[n]? with
    | some (.dct ks ds) => some (ks, ds)
    | some (.dtn ks ds) => some (ks, ds)
    | _ => none)
  | .dct ks ds => some (ks, ds)
  | _ => none
section
variable {K : PySem.W.Frag} {mg : Mg} {Z : Addr → Prop} {α : Nat → Option Addr} {β : List Addr} {O : Addr → Prop} {H : Hp} {env : Env} {S : Sto} {σ : L2.St} {b : Bool}
theorem key_rep {y : D} {k : Key} {v : V} (h : keyD y = some k) (r : Res K mg Z α β H b y v) : v = kV k := by
  cases y with
  | int i =>
    cases h
    rcases r with r | ⟨_, i, c, cc, o, h1, h2, h3, h4, h5⟩
    · cases r; rfl
    · cases h3 <;> cases h4
  | str x =>
    cases h
    exact r.strV
  | _ => cases h
theorem rep_key {y : D} {k : Key} (h : keyD y = some k) : Rep K mg β O H y (kV k) := by
  cases y with
  | int i => cases h; exact .int i
  | str x => cases h; exact .str x
  | _ => cases h
theorem look_rep {k : Key} : ∀ {ks ds : List D} {kvs : List (Key × V)}, ks.map keyD = kvs.map (fun p => some p.1) → Reps K mg β O H ds (kvs.map (·.2)) →
    (∀ d, lookK k ks ds = some d → ∃ v, valV kvs k = some v ∧ Rep K mg β O H d v) ∧ (lookK k ks ds = none → valV kvs k = none)
  | [], ds, [], _, r => by
    cases r
    exact ⟨fun d h => by (unfold lookK at h; cases h), fun _ => valV_nil⟩
  | [], _, _ :: _, h, _ => by cases h
  | _ :: _, _, [], h, _ => by cases h
  | x :: ks, ds, p :: kvs, h, r => by
    obtain ⟨h1, h2⟩ := List.cons.inj h
    cases r with
    | cons r1 r2 =>
      obtain ⟨i1, i2⟩ := look_rep (k := k) h2 r2
      have h1 : keyD x = some p.1 := h1
      unfold lookK
      by_cases q : p.1 = k
      · rw [if_pos (by rw [h1, q]), valV_pos q]
        exact ⟨fun d e => by cases e; exact ⟨_, rfl, r1⟩, fun e => nomatch e⟩
      · rw [if_neg (by rw [h1]; exact fun z => q (Option.some.inj z)), valV_neg q]
        exact ⟨i1, i2⟩
theorem has_any {k : Key} : ∀ {ks : List D} {kvs : List (Key × V)}, ks.map keyD = kvs.map (fun p => some p.1) → hasK k ks = kvs.any fun kv => decide (kv.1 = k)
  | [], [], _ => rfl
  | [], _ :: _, h => by cases h
  | _ :: _, [], h => by cases h
  | x :: ks, p :: kvs, h => by
    obtain ⟨h1, h2⟩ := List.cons.inj h
    have h1 : keyD x = some p.1 := h1
    have ih := has_any (k := k) h2
    unfold hasK at ih ⊢
    rw [List.any_cons, List.any_cons, ih, h1]
    congr 1
    simp
theorem repl_rep {k : Key} {e : D} {v : V} (re : Rep K mg β O H e v) : ∀ {ks ds : List D} {kvs : List (Key × V)}, ks.map keyD = kvs.map (fun p => some p.1) → Reps K mg β O H ds (kvs.map (·.2)) →
    ks.map keyD = (kvs.map fun kv => if kv.1 = k then (kv.1, v) else kv).map (fun p => some p.1) ∧ Reps K mg β O H (replK k e ks ds) ((kvs.map fun kv => if kv.1 = k then (kv.1, v) else kv).map (·.2))
  | [], ds, [], _, r => by
    cases r
    exact ⟨rfl, .nil⟩
  | [], _, _ :: _, h, _ => by cases h
  | _ :: _, _, [], h, _ => by cases h
  | x :: ks, ds, p :: kvs, h, r => by
    obtain ⟨h1, h2⟩ := List.cons.inj h
    have h1 : keyD x = some p.1 := h1
    cases r with
    | cons r1 r2 =>
      obtain ⟨i1, i2⟩ := repl_rep (k := k) re h2 r2
      unfold replK
      by_cases q : p.1 = k
      · rw [if_pos (by rw [h1, q])]
        simp only [List.map_cons, if_pos q]
        exact ⟨by rw [i1, h1], .cons re i2⟩
      · rw [if_neg (by rw [h1]; exact fun z => q (Option.some.inj z))]
        simp only [List.map_cons, if_neg q]
        exact ⟨by rw [i1, h1], .cons r1 i2⟩
theorem put_rep {x : D} {k : Key} {e : D} {v : V} {ks ds : List D} {kvs : List (Key × V)} (hx : keyD x = some k) (re : Rep K mg β O H e v) (h : ks.map keyD = kvs.map (fun p => some p.1)) (r : Reps K mg β O H ds (kvs.map (·.2))) :
    (putKD x k e ks ds).1.map keyD = (putK kvs k v).map (fun p => some p.1) ∧ Reps K mg β O H (putKD x k e ks ds).2 ((putK kvs k v).map (·.2)) := by
  unfold putKD putK
  rw [has_any h]
  split
  · exact repl_rep re h r
  · refine ⟨?_, ?_⟩
    · simp only [List.map_append, List.map_cons, List.map_nil, h, hx]
    · rw [List.map_append]
      exact Reps.append r (.cons re .nil)
theorem dict_of {d : D} {v : V} {ks ds : List D} (R : Rel K mg Z α β env S σ H) (r : Res K mg Z α β H b d v) (h : dictAt S d = some (ks, ds)) :
    ∃ a kvs, v = .ref a ∧ Rd H a (.dK kvs) ∧ ks.map keyD = kvs.map (fun p => some p.1) ∧ Reps K mg β (Oo Z α β) H ds (kvs.map (·.2)) := by
  cases d with
  | ref n =>
    obtain ⟨a, rfl, hn⟩ := r.ref
    simp only [dictAt] at h
    split at h
    · rename_i ks' ds' e
      cases h
      obtain ⟨o, e2, c⟩ := R.cell _ _ _ e hn
      cases c with
      | pl c =>
        cases c with
        | dct h1 h2 => exact ⟨a, _, rfl, .inl e2, h1, h2⟩
    · rename_i ks' ds' e
      cases h
      obtain ⟨o, e2, c⟩ := R.cell _ _ _ e hn
      cases c with
      | pl c => cases c
      | lk h1 h2 => exact ⟨a, _, rfl, .inr ⟨_, e2⟩, h1, h2⟩
    · cases h
  | dct ks' ds' =>
    cases h
    rcases r with r | ⟨_, i, c, cc, o, h1, h2, h3, h4, h5⟩
    · cases r with
      | dct h1 n h2 h3 => exact ⟨_, _, rfl, .inl h1, h2, h3⟩
    · cases h3 with
      | lst _ => cases h4
      | dct k1 k2 =>
        cases h4
        exact ⟨c, _, h5, .inl h2, k1, k2⟩
  | _ => cases h
end
/-- d[i] -/
def dGetK (o i : DE) : DE := fun env S => (o env S).bind fun p => (i env p.2).bind fun q => (dictAt q.2 p.1).bind fun z => (keyD q.1).bind fun k => (lookK k z.1 z.2).map fun d => (d, q.2)
/-- i in d, i not in d -/
def dInK (neg : Bool) (i o : DE) : DE := fun env S => (i env S).bind fun p => (o env p.2).bind fun q => (dictAt q.2 q.1).bind fun z => (keyD p.1).map fun k => (.bl (cond neg (!hasK k z.1) (hasK k z.1)), q.2)
/-- d.get(i, e) -/
def dGet2 (o i e : DE) : DE := fun env S => (o env S).bind fun p => (dictAt p.2 p.1).bind fun _ => (i env p.2).bind fun q => (e env q.2).bind fun r => (dictAt r.2 p.1).bind fun z => (keyD q.1).map fun k => ((lookK k z.1 z.2).getD r.1, r.2)
/-- d.get(i) -/
def dGet1 (o i : DE) : DE := fun env S => (o env S).bind fun p => (dictAt p.2 p.1).bind fun _ => (i env p.2).bind fun q => (dictAt q.2 p.1).bind fun z => (keyD q.1).map fun k => ((lookK k z.1 z.2).getD .non, q.2)
/-- d[i] = e, d of the store -/
def sPutK (o i t : DE) : DS := fun env S => (t env S).bind fun p => (o env p.2).bind fun q => (i env q.2).bind fun r => (keyD r.1).bind fun k => match q.1 with
  | .ref n => (match r.2[n]? with
    | some (.dct ks ds) => if ks.length < sizeLine then some (.nx env, r.2.set n (.dct (putKD r.1 k p.1 ks ds).1 (putKD r.1 k p.1 ks ds).2)) else none
    | _ => none)
  | _ => none
theorem isSome_look {k : Key} : ∀ {ks ds : List D}, ks.length = ds.length → (lookK k ks ds).isSome = hasK k ks
  | [], [], _ => rfl
  | [], _ :: _, h => by cases h
  | _ :: _, [], h => by cases h
  | x :: ks, d :: ds, h => by
    have ih := isSome_look (k := k) (ks := ks) (ds := ds) (Nat.succ.inj h)
    unfold hasK at ih ⊢
    unfold lookK
    rw [List.any_cons]
    by_cases q : keyD x = some k
    · rw [if_pos q]
      simp [q]
    · rw [if_neg q, ih]
      simp [q]
section
variable {X : Cx} {b : Bool} {eo ei ee : Expr} {o i t : DE} {pos apos pos' : Pos}
theorem E.getK (hu : X.A.units + 1 < cLine) (ho : EX X true eo o) (hi : EX X true ei i) (hs : NoSl ei := by exact fun _ _ => rfl) : EX X b (.Subscript eo ei pos) (dGetK o i) :=
  PE.imp (pe_dget hu ho hi hs) fun σ H Q ⟨Z, α, β, env, S, d, S', R, e1, q⟩ => by
    unfold dGetK at e1
    obtain ⟨⟨ov, S1⟩, eo, e1⟩ := Option.bind_eq_some_iff.mp e1
    obtain ⟨⟨iv, S2⟩, ei, e1⟩ := Option.bind_eq_some_iff.mp e1
    obtain ⟨⟨ks, ds⟩, ed, e1⟩ := Option.bind_eq_some_iff.mp e1
    obtain ⟨k, ek, e1⟩ := Option.bind_eq_some_iff.mp e1
    obtain ⟨d', el, e2⟩ := Option.map_eq_some_iff.mp e1
    cases e2
    refine ⟨Z, α, β, env, S, ov, S1, R, eo, fun v H1 β1 R1 A1 r1 => ⟨Z, α, β1, env, S1, iv, S2, R1, ei, fun w H2 β2 R2 A2 r2 => ?_⟩⟩
    obtain ⟨a, kvs, rfl, hH, k1, k2⟩ := dict_of R2 (r1.adv R1 A2) ed
    obtain ⟨u, l1, l2⟩ := (look_rep (k := k) k1 k2).1 _ el
    exact ⟨a, u, rfl, .inl ⟨kvs, k, hH, key_rep ek r2, l1.symm⟩, q u H2 β2 R2 (A1.trb A2) (.inl l2)⟩
theorem E.inK (hu : X.A.units + 1 < cLine) (hi : EX X true ei i) (ho : EX X true eo o) (hm : behindInMarks .In eo = false := by rfl) : EX X b (.Compare ei [.In] [eo] pos) (dInK false i o) :=
  PE.imp (pe_cmp (pc_din hu hi ho) hm) fun σ H Q ⟨Z, α, β, env, S, d, S', R, e1, q⟩ => by
    unfold dInK at e1
    obtain ⟨⟨iv, S1⟩, ei, e1⟩ := Option.bind_eq_some_iff.mp e1
    obtain ⟨⟨ov, S2⟩, eo, e1⟩ := Option.bind_eq_some_iff.mp e1
    obtain ⟨⟨ks, ds⟩, ed, e1⟩ := Option.bind_eq_some_iff.mp e1
    obtain ⟨k, ek, e2⟩ := Option.map_eq_some_iff.mp e1
    cases e2
    refine ⟨Z, α, β, env, S, iv, S1, R, ei, fun v H1 β1 R1 A1 r1 => ⟨Z, α, β1, env, S1, ov, S2, R1, eo, fun w H2 β2 R2 A2 r2 => ?_⟩⟩
    obtain ⟨a, kvs, rfl, hH, k1, k2⟩ := dict_of R2 r2 ed
    refine ⟨a, valV kvs k, rfl, .inl ⟨kvs, k, hH, key_rep ek (r1.adv R1 A2), rfl⟩, ?_⟩
    rw [← valV_any, ← has_any k1]
    exact q _ H2 β2 R2 (A1.trb A2) (.inl (.bl _))
theorem E.ninK (hu : X.A.units + 1 < cLine) (hi : EX X true ei i) (ho : EX X true eo o) (hm : behindInMarks .NotIn eo = false := by rfl) : EX X b (.Compare ei [.NotIn] [eo] pos) (dInK true i o) :=
  PE.imp (pe_cmp (pc_dnotin hu hi ho) hm) fun σ H Q ⟨Z, α, β, env, S, d, S', R, e1, q⟩ => by
    unfold dInK at e1
    obtain ⟨⟨iv, S1⟩, ei, e1⟩ := Option.bind_eq_some_iff.mp e1
    obtain ⟨⟨ov, S2⟩, eo, e1⟩ := Option.bind_eq_some_iff.mp e1
    obtain ⟨⟨ks, ds⟩, ed, e1⟩ := Option.bind_eq_some_iff.mp e1
    obtain ⟨k, ek, e2⟩ := Option.map_eq_some_iff.mp e1
    cases e2
    refine ⟨Z, α, β, env, S, iv, S1, R, ei, fun v H1 β1 R1 A1 r1 => ⟨Z, α, β1, env, S1, ov, S2, R1, eo, fun w H2 β2 R2 A2 r2 => ?_⟩⟩
    obtain ⟨a, kvs, rfl, hH, k1, k2⟩ := dict_of R2 r2 ed
    refine ⟨a, valV kvs k, rfl, .inl ⟨kvs, k, hH, key_rep ek (r1.adv R1 A2), rfl⟩, ?_⟩
    rw [← valV_any, ← has_any k1]
    exact q _ H2 β2 R2 (A1.trb A2) (.inl (.bl _))
theorem T.inK (hu : X.A.units + 1 < cLine) (hi : EX X true ei i) (ho : EX X true eo o) (hm : behindInMarks .In eo = false := by rfl) : EX X true (.Compare ei [.In] [eo] pos) (dInK false i o) := E.inK hu hi ho hm
theorem getD_rep {K : PySem.W.Frag} {mg : Mg} {β : List Addr} {O : Addr → Prop} {H : Hp} {k : Key} {ks ds : List D} {kvs : List (Key × V)} {e : D} {v : V} (k1 : ks.map keyD = kvs.map (fun p => some p.1)) (k2 : Reps K mg β O H ds (kvs.map (·.2))) (re : Rep K mg β O H e v) : Rep K mg β O H ((lookK k ks ds).getD e) ((valV kvs k).getD v) := by
  obtain ⟨l1, l2⟩ := look_rep (k := k) k1 k2
  cases h : lookK k ks ds with
  | none => rw [l2 h]; exact re
  | some d =>
    obtain ⟨u, h1, h2⟩ := l1 d h
    rw [h1]
    exact h2
theorem isD_of {K : PySem.W.Frag} {mg : Mg} {Z : Addr → Prop} {α : Nat → Option Addr} {β : List Addr} {H : Hp} {env : Env} {S : Sto} {σ : L2.St} {b : Bool} {d : D} {v : V} {z : List D × List D} (R : Rel K mg Z α β env S σ H) (r : Res K mg Z α β H b d v) (h : dictAt S d = some z) : ∃ a, v = .ref a ∧ IsD H a := by
  obtain ⟨a, kvs, e, hH, _⟩ := dict_of (ks := z.1) (ds := z.2) R r h
  exact ⟨a, e, .inl ⟨kvs, hH⟩⟩
theorem E.get2 (hu : X.A.units + 1 < cLine) (ho : EX X true eo o) (hi : EX X true ei i) (he : EX X false ee t) (m : M2 X eo "get" apos ei ee pos := by exact ⟨rfl, rfl, rfl, rfl⟩) : EX X b (.Call (.Attribute eo "get" apos) [ei, ee] [] pos) (dGet2 o i t) :=
  PE.imp (pe_dget2 hu ho hi he m) fun σ H Q ⟨Z, α, β, env, S, d, S', R, e1, q⟩ => by
    unfold dGet2 at e1
    obtain ⟨⟨ov, S1⟩, eo, e1⟩ := Option.bind_eq_some_iff.mp e1
    obtain ⟨z0, ed0, e1⟩ := Option.bind_eq_some_iff.mp e1
    obtain ⟨⟨iv, S2⟩, ei, e1⟩ := Option.bind_eq_some_iff.mp e1
    obtain ⟨⟨xv, S3⟩, ex, e1⟩ := Option.bind_eq_some_iff.mp e1
    obtain ⟨⟨ks, ds⟩, ed, e1⟩ := Option.bind_eq_some_iff.mp e1
    obtain ⟨k, ek, e2⟩ := Option.map_eq_some_iff.mp e1
    cases e2
    refine ⟨Z, α, β, env, S, ov, S1, R, eo, fun v H1 β1 R1 A1 r1 => ?_⟩
    obtain ⟨a, rfl, hd⟩ := isD_of R1 r1 ed0
    refine ⟨a, rfl, hd, Z, α, β1, env, S1, iv, S2, R1, ei, fun w H2 β2 R2 A2 r2 => ⟨Z, α, β2, env, S2, xv, S3, R2, ex, fun u H3 β3 R3 A3 r3 => ?_⟩⟩
    obtain ⟨a', kvs, ea, hH, k1, k2⟩ := dict_of R3 ((r1.adv R1 A2).adv R2 A3) ed
    cases ea
    exact ⟨valV kvs k, .inl ⟨kvs, k, hH, key_rep ek (r2.adv R2 A3), rfl⟩, q _ H3 β3 R3 ((A1.trb A2).trb A3) (.inl (getD_rep k1 k2 r3.rep))⟩
theorem E.get1 (hu : X.A.units + 1 < cLine) (ho : EX X true eo o) (hi : EX X true ei i) (m : M1 X eo "get" apos ei pos := by exact ⟨rfl, rfl, rfl, rfl⟩) : EX X b (.Call (.Attribute eo "get" apos) [ei] [] pos) (dGet1 o i) :=
  PE.imp (pe_dget1 hu ho hi m) fun σ H Q ⟨Z, α, β, env, S, d, S', R, e1, q⟩ => by
    unfold dGet1 at e1
    obtain ⟨⟨ov, S1⟩, eo, e1⟩ := Option.bind_eq_some_iff.mp e1
    obtain ⟨z0, ed0, e1⟩ := Option.bind_eq_some_iff.mp e1
    obtain ⟨⟨iv, S2⟩, ei, e1⟩ := Option.bind_eq_some_iff.mp e1
    obtain ⟨⟨ks, ds⟩, ed, e1⟩ := Option.bind_eq_some_iff.mp e1
    obtain ⟨k, ek, e2⟩ := Option.map_eq_some_iff.mp e1
    cases e2
    refine ⟨Z, α, β, env, S, ov, S1, R, eo, fun v H1 β1 R1 A1 r1 => ?_⟩
    obtain ⟨a, rfl, hd⟩ := isD_of R1 r1 ed0
    refine ⟨a, rfl, hd, Z, α, β1, env, S1, iv, S2, R1, ei, fun w H2 β2 R2 A2 r2 => ?_⟩
    obtain ⟨a', kvs, ea, hH, k1, k2⟩ := dict_of R2 (r1.adv R1 A2) ed
    cases ea
    exact ⟨valV kvs k, .inl ⟨kvs, k, hH, key_rep ek r2, rfl⟩, q _ H2 β2 R2 (A1.trb A2) (.inl (getD_rep k1 k2 .non))⟩
theorem S.putK (hu : X.A.units + 1 < cLine) (ho : EX X true eo o) (hi : EX X true ei i) (h : EX X false ee t) (hs : swapsWith ee (some (.Subscript eo ei pos')) pos.line X.env = pure false := by rfl) : SX X (.Assign [.Subscript eo ei pos'] ee pos) (sPutK o i t) :=
  PS.imp (ps_dput hu ho hi h hs) fun E σ H ⟨Z, α, β, env, S, fl, S', R, e1, q⟩ => by
    unfold sPutK at e1
    obtain ⟨⟨y, S1⟩, ey, e1⟩ := Option.bind_eq_some_iff.mp e1
    obtain ⟨⟨ov, S2⟩, eo, e1⟩ := Option.bind_eq_some_iff.mp e1
    obtain ⟨⟨iv, S3⟩, ei, e1⟩ := Option.bind_eq_some_iff.mp e1
    obtain ⟨k, ek, e1⟩ := Option.bind_eq_some_iff.mp e1
    simp only at e1
    split at e1
    · rename_i n
      split at e1
      · rename_i ks ds en
        split at e1
        · rename_i hz
          cases e1
          refine ⟨Z, α, β, env, S, y, S1, R, ey, fun w H1 β1 R1 A1 r1 => ⟨Z, α, β1, env, S1, _, S2, R1, eo, fun v H2 β2 R2 A2 r2 => ⟨Z, α, β2, env, S2, iv, S3, R2, ei, fun u H3 β3 R3 A3 r3 => ?_⟩⟩⟩
          obtain ⟨a, rfl, hn⟩ := r2.ref
          have hn3 := A3.nth _ _ hn
          obtain ⟨ob, e3, co⟩ := R3.cell _ _ _ en hn3
          cases co with
          | pl co =>
            cases co with
            | dct k1 k2 =>
              have A13 := (A1.trb A2).trb A3
              obtain ⟨p1, p2⟩ := put_rep (x := iv) ek (r1.rep.adv (A2.trb A3)) k1 k2
              have hl := congrArg List.length k1
              rw [List.length_map, List.length_map] at hl
              exact ⟨a, _, rfl, .inl ⟨_, k, e3, key_rep ek r3, by rw [← hl]; exact hz, rfl⟩, q α β3 σ _ (R3.updRef hn3 (.dct p1 p2)) (AdvS.trans A13.ws .refl (adv_wr (W := Ws α β3) (Or.inl (List.mem_of_getElem? hn3)) (nf_dK e3))) .refl⟩
        · cases e1
      · cases e1
    · cases e1
/-- {} -/
def dDct : DE := fun _ S => some (.dct [] [], S)
theorem F.dct : EF X (.Dict [] [] pos) dDct :=
  PE.imp pe_dnewK fun σ H Q ⟨Z, α, β, env, S, d, S', R, e1, q⟩ => by
    cases e1
    exact fun p hp => q p _ (.dct [] []) _ β (R.apart hp _) (Adv.upd hp) hp upd_same rfl (.dct rfl .nil)
end
end Rf
end
section
set_option maxHeartbeats 2000000
/-! Rf, part X: a dict of the store is walked (it is locked the while). -/
namespace Rf
open PySem PySem.Spec PyProof.Rows L2
section
variable {K : PySem.W.Frag} {mg : Mg} {Z : Addr → Prop} {α : Nat → Option Addr} {β β' : List Addr} {H H' : Hp} {env : Env} {S : Sto} {σ : L2.St} {b : Bool} {a : Addr} {od : Obj}
theorem keys_at {ks : List D} {kvs : List (Key × V)} (h : ks.map keyD = kvs.map (fun p => some p.1)) {i : Nat} {d : D} (e : ks[i]? = some d) : ∃ k v, kvs[i]? = some (k, v) ∧ keyD d = some k := by
  have h1 : (ks.map keyD)[i]? = some (keyD d) := by rw [List.getElem?_map, e]; rfl
  rw [h, List.getElem?_map] at h1
  obtain ⟨p, e1, e2⟩ := Option.map_eq_some_iff.mp h1
  exact ⟨p.1, p.2, e1, e2.symm⟩
theorem keys_len {ks : List D} {kvs : List (Key × V)} (h : ks.map keyD = kvs.map (fun p => some p.1)) : ks.length = kvs.length := by
  have := congrArg List.length h
  rwa [List.length_map, List.length_map] at this
theorem itk_ok {ks : List D} {kvs : List (Key × V)} (hH : H a = some (.frz od (.dK kvs))) (h : ks.map keyD = kvs.map (fun p => some p.1)) : ItOk K mg b Z α β H (Itk a od kvs) ks none where
  go := fun i d Z1 α1 β1 env1 S1 σ1 H1 R1 k g e => by
    obtain ⟨kk, v, e1, e2⟩ := keys_at h e
    refine ⟨⟨k.frz _ _ _ hH, (List.getElem?_eq_some_iff.mp e1).1⟩, fun x H2 hy => ?_⟩
    obtain ⟨rfl, k2, v2, e3, rfl⟩ := hy
    rw [e1] at e3
    cases e3
    exact ⟨fun _ _ e => e, R1, .refl, rep_key e2⟩
  stop := fun i Z1 α1 β1 env1 S1 σ1 H1 R1 k g hl => ⟨k.frz _ _ _ hH, by rw [← keys_len h]; exact hl⟩
theorem itv_ok {ks ds : List D} {kvs : List (Key × V)} (hH : H a = some (.frz od (.dK kvs))) (h : ks.map keyD = kvs.map (fun p => some p.1)) (r : Reps K mg β (Oo Z α β) H ds (kvs.map (·.2))) : ItOk K mg b Z α β H (Itd a od kvs) ds none where
  go := fun i d Z1 α1 β1 env1 S1 σ1 H1 R1 k g e => by
    have r1 : Reps K mg β1 (Oo Z1 α1 β1) H1 ds (kvs.map (·.2)) := Reps.mono k.nth k.keep k.avoid _ _ r
    obtain ⟨v, e1, e2⟩ := r1.get e
    rw [List.getElem?_map] at e1
    obtain ⟨p, e3, rfl⟩ := Option.map_eq_some_iff.mp e1
    refine ⟨⟨k.frz _ _ _ hH, (List.getElem?_eq_some_iff.mp e3).1⟩, fun x H2 hy => ?_⟩
    obtain ⟨rfl, k2, e4⟩ := hy
    rw [e3] at e4
    cases e4
    exact ⟨fun _ _ e => e, R1, .refl, e2⟩
  stop := fun i Z1 α1 β1 env1 S1 σ1 H1 R1 k g hl => ⟨k.frz _ _ _ hH, by have := r.length; rw [List.length_map] at this; omega⟩
theorem iti_ok {ks ds : List D} {kvs : List (Key × V)} (hH : H a = some (.frz od (.dK kvs))) (h : ks.map keyD = kvs.map (fun p => some p.1)) (r : Reps K mg β (Oo Z α β) H ds (kvs.map (·.2))) : ItOk K mg b Z α β H (Iti a od kvs) (pairs ks ds) none where
  go := fun i d Z1 α1 β1 env1 S1 σ1 H1 R1 k g e => by
    have r1 : Reps K mg β1 (Oo Z1 α1 β1) H1 ds (kvs.map (·.2)) := Reps.mono k.nth k.keep k.avoid _ _ r
    obtain ⟨x, y, x1, y1, rfl⟩ := pairs_get e
    obtain ⟨kk, v, e1, e2⟩ := keys_at h x1
    obtain ⟨u, f1, f2⟩ := r1.get y1
    rw [List.getElem?_map, e1] at f1
    cases f1
    refine ⟨⟨k.frz _ _ _ hH, (List.getElem?_eq_some_iff.mp e1).1⟩, fun x H2 hy => ?_⟩
    obtain ⟨T, k2, v2, e3, rfl, n, rfl⟩ := hy
    rw [e1] at e3
    cases e3
    exact yld_tup R1 n (rep_key e2) f2
  stop := fun i Z1 α1 β1 env1 S1 σ1 H1 R1 k g hl => ⟨k.frz _ _ _ hH, by
    have l1 := r.length
    have l2 := keys_len h
    rw [pairs_len] at hl
    rw [List.length_map] at l1
    omega⟩
theorem adv_unlock {W : Addr → Prop} {kvs : List (Key × V)} (A : Adv W β (upd H a (.frz od (.dK kvs))) β' H') (hW : W a) (e : H a = some (.dK kvs)) : Adv W β H β' (upd H' a (.dK kvs)) where
  pre := by
    obtain ⟨nw, e1, h1⟩ := A.pre
    refine ⟨nw, e1, fun x hx => ?_⟩
    have h2 := h1 x hx
    by_cases z : x = a
    · rw [z, upd_same] at h2
      cases h2
    · rw [upd_ne z] at h2
      exact h2
  keep := fun x o e1 n => by
    have z : x ≠ a := fun z => n (by rw [z]; exact hW)
    rw [upd_ne z]
    exact A.keep x o (by rw [upd_ne z]; exact e1) n
  live := fun x e1 => by
    by_cases z : x = a
    · rw [z, upd_same]
      exact fun q => nomatch q
    · rw [upd_ne z]
      exact A.live x (by rw [upd_ne z]; exact e1)
  frz := fun x o u e1 => by
    have z : x ≠ a := fun z => by rw [z, e] at e1; cases e1
    rw [upd_ne z]
    exact A.frz x o u (by rw [upd_ne z]; exact e1)
end
theorem u1 {A : Around} {k : Nat} (r : Room k A) : A.units + 1 < cLine := by have := r.un; omega
theorem u1G {A : Around} {k : Nat} (r : RoomG k A) : A.units + 1 < cLine := by have := r.rm.un; omega
/-- the lengths of dicts -/
def LensK (H : Hp) : Prop := ∀ a kvs, Rd H a (.dK kvs) → kvs.length ≤ sizeLine
theorem PE.lensK {X : Cx} {e : Expr} {t : TE} (h : PE X e t) : PE X e (fun σ H Q => t σ H fun v H1 => LensK H1 → Q v H1) := ⟨fun p s σ H Q I q => thn (h.run p s σ H _ I q) fun u s1 ⟨v, H1, I1, r1, q1⟩ => ⟨v, H1, I1, r1, q1 fun a kvs e => (dk_rd I1.hok e).1⟩⟩
/-- the keys, the values, the pairs of a locked dict -/
def iDict (f : List D → List D → List D) (t : DE) : DI := fun env S => (t env S).bind fun p => match p.1 with
  | .ref n => (match p.2[n]? with
    | some (.dtn ks ds) => some ((f ks ds, none), p.2)
    | _ => none)
  | _ => none
def fKeys (ks _ : List D) : List D := ks
def fVals (_ ds : List D) : List D := ds
section
variable {X : Cx} {b : Bool} {tg e : Expr} {t : DE} {apos cpos tpos : Pos} {elts : List Expr} {kk : Nat}
theorem locked_at {K : PySem.W.Frag} {mg : Mg} {Z : Addr → Prop} {α : Nat → Option Addr} {β : List Addr} {H : Hp} {env : Env} {S : Sto} {σ : L2.St} {n : Nat} {v : V} {ks ds : List D} (R : Rel K mg Z α β env S σ H) (r : Res K mg Z α β H b (.ref n) v) (h : S[n]? = some (.dtn ks ds)) :
    ∃ a od kvs, v = .ref a ∧ H a = some (.frz od (.dK kvs)) ∧ ks.map keyD = kvs.map (fun p => some p.1) ∧ Reps K mg β (Oo Z α β) H ds (kvs.map (·.2)) := by
  obtain ⟨a, rfl, hn⟩ := r.ref
  obtain ⟨o, e2, c⟩ := R.cell _ _ _ h hn
  cases c with
  | pl c => cases c
  | lk h1 h2 => exact ⟨a, _, _, rfl, e2, h1, h2⟩
theorem I.keysL (h : EX X b e t) : IX X b tg e (iDict fKeys t) :=
  PI.imp (pi_keys (PE.lensK h)) fun σ H R' ⟨Z, α, β, env, S, items, gd, S', R, e1, q⟩ => by
    unfold iDict at e1
    obtain ⟨⟨x, S1⟩, ex, e2⟩ := Option.bind_eq_some_iff.mp e1
    simp only at e2
    split at e2
    · split at e2
      · rename_i n ks ds en
        cases e2
        refine ⟨Z, α, β, env, S, _, S', R, ex, fun v H1 β1 R1 A1 r1 L => ?_⟩
        obtain ⟨a, od, kvs, rfl, hH, k1, k2⟩ := locked_at R1 r1 en
        exact ⟨a, od, rfl, .inl ⟨kvs, hH, q _ H1 β1 R1 A1 (by show ks.length ≤ _; rw [keys_len k1]; exact L a kvs (.inr ⟨od, hH⟩)) (itk_ok hH k1)⟩⟩
      · cases e2
    · cases e2
theorem I.valsL (h : EX X b e t) (hbase : attributeBase e "values" X.env (eval e X.env) = eval e X.env := by rfl) (hline : (apos.endLine == cpos.line) = true := by rfl) : IX X b tg (.Call (.Attribute e "values" apos) [] [] cpos) (iDict fVals t) :=
  PI.imp (pi_values (PE.lensK h) hbase hline) fun σ H R' ⟨Z, α, β, env, S, items, gd, S', R, e1, q⟩ => by
    unfold iDict at e1
    obtain ⟨⟨x, S1⟩, ex, e2⟩ := Option.bind_eq_some_iff.mp e1
    simp only at e2
    split at e2
    · split at e2
      · rename_i n ks ds en
        cases e2
        refine ⟨Z, α, β, env, S, _, S', R, ex, fun v H1 β1 R1 A1 r1 L => ?_⟩
        obtain ⟨a, od, kvs, rfl, hH, k1, k2⟩ := locked_at R1 r1 en
        have l1 := k2.length
        rw [List.length_map] at l1
        exact ⟨a, od, kvs, rfl, hH, q _ H1 β1 R1 A1 (by show ds.length ≤ _; rw [l1]; exact L a kvs (.inr ⟨od, hH⟩)) (itv_ok hH k1 k2)⟩
      · cases e2
    · cases e2
theorem I.itemsL (h : EX X b e t) (hbase : attributeBase e "items" X.env (eval e X.env) = eval e X.env := by rfl) (hline : (apos.endLine == cpos.line) = true := by rfl) : IX X b (.Tuple elts kk tpos) (.Call (.Attribute e "items" apos) [] [] cpos) (iDict pairs t) :=
  PI.imp (pi_items (PE.lensK h) hbase hline) fun σ H R' ⟨Z, α, β, env, S, items, gd, S', R, e1, q⟩ => by
    unfold iDict at e1
    obtain ⟨⟨x, S1⟩, ex, e2⟩ := Option.bind_eq_some_iff.mp e1
    simp only at e2
    split at e2
    · split at e2
      · rename_i n ks ds en
        cases e2
        refine ⟨Z, α, β, env, S, _, S', R, ex, fun v H1 β1 R1 A1 r1 L => ?_⟩
        obtain ⟨a, od, kvs, rfl, hH, k1, k2⟩ := locked_at R1 r1 en
        have l1 := k2.length
        rw [List.length_map] at l1
        exact ⟨a, od, kvs, rfl, hH, q _ H1 β1 R1 A1 (by rw [pairs_len, l1]; have := L a kvs (.inr ⟨od, hH⟩); omega) (iti_ok hH k1 k2)⟩
      · cases e2
    · cases e2
/-- the statement runs while the dict that td tells is locked -/
def sLock (td : DE) (t : DS) : DS := fun env S => (td env S).bind fun p => match p.1 with
  | .ref n => (match S[n]? with
    | some (.dct ks ds) => (t env (S.set n (.dtn ks ds))).bind fun r => match r.2[n]? with
      | some (.dtn ks' ds') => some (r.1, r.2.set n (.dct ks' ds'))
      | _ => none
    | _ => none)
  | _ => none
theorem S.lock {st : Stmt} {t : DS} (td : DE) (h : SX X st t) : SX X st (sLock td t) :=
  PS.imp (ps_lock h) fun E σ H ⟨Z, α, β, env, S, f, S', R, e1, q⟩ => by
    unfold sLock at e1
    obtain ⟨⟨ov, S0⟩, eo, e1⟩ := Option.bind_eq_some_iff.mp e1
    simp only at e1
    split at e1
    · rename_i n
      split at e1
      · rename_i ks ds en
        obtain ⟨⟨f1, S1⟩, ef, e1⟩ := Option.bind_eq_some_iff.mp e1
        simp only at e1
        split at e1
        · rename_i ks' ds' en'
          cases e1
          obtain ⟨a, hn⟩ : ∃ a, β[n]? = some a := by
            have l := (List.getElem?_eq_some_iff.mp en).1
            rw [← R.blen] at l
            exact ⟨_, List.getElem?_eq_getElem l⟩
          obtain ⟨o, e2, c⟩ := R.cell _ _ _ en hn
          cases c with
          | pl c =>
            cases c with
            | @dct _ _ kvs k1 k2 =>
              have ha : a ∈ β := List.mem_of_getElem? hn
              refine ⟨a, _, e2, trivial, fun od => ⟨Z, α, β, env, S.set n (.dtn ks ds), f, S1, R.updRefS hn (.lk k1 k2), ef, ?_⟩⟩
              -- behind: the lock is opened
              have opn : ∀ {env' : Env} {σ' : L2.St} {α' : Nat → Option Addr} {β' : List Addr} {H' : Hp}, Rel X.K (mX X) Z α' β' env' S1 σ' H' → Adv (Ws α β) β (upd H a (.frz od (.dK kvs))) β' H' → OwS α (upd H a (.frz od (.dK kvs))) α' →
                  H' a = some (.frz od (.dK kvs)) ∧ a ∈ β' ∧ Rel X.K (mX X) Z α' β' env' (S1.set n (.dct ks' ds')) σ' (upd H' a (.dK kvs)) ∧ Adv (Ws α β) β H β' (upd H' a (.dK kvs)) ∧ OwS α H α' := fun {env' σ' α' β' H'} R' A O => by
                have hf := A.frz a od _ upd_same
                have hn' := A.nth _ _ hn
                obtain ⟨o', e3, c'⟩ := R'.cell _ _ _ en' hn'
                rw [hf] at e3
                cases e3
                cases c' with
                | pl c' => cases c'
                | lk k1' k2' =>
                  refine ⟨hf, List.mem_of_getElem? hn', R'.updRefS hn' (.pl (.dct k1' k2')), adv_unlock A (.inl ha) e2, fun i x e => ?_⟩
                  rcases O i x e with z | z
                  · exact .inl z
                  · by_cases y : x = a
                    · rw [y, upd_same] at z
                      cases z
                    · rw [upd_ne y] at z
                      exact .inr z
              cases f with
              | nx env' => exact fun α' β' σ' H' R' A O => let ⟨p1, _, p2, p3, p4⟩ := opn R' A O; ⟨p1, q α' β' σ' _ p2 p3 p4⟩
              | bk env' => exact fun α' β' σ' H' R' A O => let ⟨p1, _, p2, p3, p4⟩ := opn R' A O; ⟨p1, q α' β' σ' _ p2 p3 p4⟩
              | ct env' => exact fun α' β' σ' H' R' A O => let ⟨p1, _, p2, p3, p4⟩ := opn R' A O; ⟨p1, q α' β' σ' _ p2 p3 p4⟩
              | rt d => exact fun v α' β' env' σ' H' R' A O r => let ⟨p1, p5, p2, p3, p4⟩ := opn R' A O; ⟨p1, q v α' β' env' σ' _ p2 p3 p4 (Rep.mono (fun _ _ e => e) (mv_upd (.inr (.inl p5))) (fun x z => .inl z) _ _ r)⟩
        · cases e1
      · cases e1
    · cases e1
/-- .. the expression -/
def dLock (td t : DE) : DE := fun env S => (td env S).bind fun p => match p.1 with
  | .ref n => (match S[n]? with
    | some (.dct ks ds) => (t env (S.set n (.dtn ks ds))).bind fun r => match r.2[n]? with
      | some (.dtn ks' ds') => some (r.1, r.2.set n (.dct ks' ds'))
      | _ => none
    | _ => none)
  | _ => none
theorem E.lock {t : DE} (td : DE) (h : EX X false e t) : EX X b e (dLock td t) :=
  PE.imp (pe_lock h) fun σ H Q ⟨Z, α, β, env, S, d, S', R, e1, q⟩ => by
    unfold dLock at e1
    obtain ⟨⟨ov, S0⟩, eo, e1⟩ := Option.bind_eq_some_iff.mp e1
    simp only at e1
    split at e1
    · rename_i n
      split at e1
      · rename_i ks ds en
        obtain ⟨⟨d1, S1⟩, ef, e1⟩ := Option.bind_eq_some_iff.mp e1
        simp only at e1
        split at e1
        · rename_i ks' ds' en'
          cases e1
          obtain ⟨a, hn⟩ : ∃ a, β[n]? = some a := by
            have l := (List.getElem?_eq_some_iff.mp en).1
            rw [← R.blen] at l
            exact ⟨_, List.getElem?_eq_getElem l⟩
          obtain ⟨o, e2, c⟩ := R.cell _ _ _ en hn
          cases c with
          | pl c =>
            cases c with
            | @dct _ _ kvs k1 k2 =>
              have ha : a ∈ β := List.mem_of_getElem? hn
              refine ⟨a, _, e2, trivial, fun od => ⟨Z, α, β, env, S.set n (.dtn ks ds), _, S1, R.updRefS hn (.lk k1 k2), ef, fun v H' β' R' A r => ?_⟩⟩
              have hf := A.frz a od _ upd_same
              have hn' := A.nth _ _ hn
              obtain ⟨o', e3, c'⟩ := R'.cell _ _ _ en' hn'
              rw [hf] at e3
              cases e3
              cases c' with
              | pl c' => cases c'
              | lk k1' k2' => exact ⟨hf, q v _ β' (R'.updRefS hn' (.pl (.dct k1' k2'))) (adv_unlock A ha e2) (.inl (Rep.mono (fun _ _ e => e) (mv_upd (.inr (.inl (List.mem_of_getElem? hn')))) (fun x z => .inl z) _ _ r.rep))⟩
        · cases e1
      · cases e1
    · cases e1
end
end Rf
end
section
set_option maxHeartbeats 2000000
/-! Rf, part Y: targets that change the store: attributes, tuples of them. -/
namespace Rf
open PySem PySem.Spec PyProof.Rows L2
abbrev DGS := D → Env → Sto → Option (Env × Sto)
abbrev DGSs := List D → Env → Sto → Option (Env × Sto)
def rdGS (K : PySem.W.Frag) (mg : Mg) (g : DGS) : TG := fun v σ H Q => ∃ Z α β env S d env' S', Rel K mg Z α β env S σ H ∧ Rep K mg β (Oo Z α β) H d v ∧ g d env S = some (env', S') ∧
  ∀ σ' H' α' β', Rel K mg Z α' β' env' S' σ' H' → Adv (Ws α β) β H β' H' → OwS α H α' → Q σ' H'
def rdGSs (K : PySem.W.Frag) (mg : Mg) (g : DGSs) : TGs := fun vs σ H Q => ∃ Z α β env S ds env' S', Rel K mg Z α β env S σ H ∧ Reps K mg β (Oo Z α β) H ds vs ∧ g ds env S = some (env', S') ∧
  ∀ σ' H' α' β', Rel K mg Z α' β' env' S' σ' H' → Adv (Ws α β) β H β' H' → OwS α H α' → Q σ' H'
def GSX (X : Cx) (tg : Expr) (g : DGS) : Prop := PG X tg (rdGS X.K (mX X) g)
def GSsX (X : Cx) (tg : List Expr) (g : DGSs) : Prop := PGs X tg (rdGSs X.K (mX X) g)
/-- o.f as a target -/
def gsFld (C : String) (f : PySem.Str) (o : DE) : DGS := fun d env S => (o env S).bind fun q => (insAt C q.2 q.1).bind fun z => if z.2.length < 1000 then some (env, q.2.set z.1 (.ins C (putD f d z.2))) else none
def gssNil : DGSs
  | [], env, S => some (env, S)
  | _, _, _ => none
def gssCons (g : DGS) (gs : DGSs) : DGSs
  | d :: ds, env, S => (g d env S).bind fun p => gs ds p.1 p.2
  | [], _, _ => none
def gsTup (n : Nat) (gs : DGSs) : DGS := fun d env S => match d with
  | .tup xs => if xs.length = n then gs xs env S else none
  | _ => none
/-- target = e -/
def sAsgS (g : DGS) (t : DE) : DS := fun env S => (t env S).bind fun p => (g p.1 env p.2).map fun q => (.nx q.1, q.2)
/-- data stays where the owned names are left alone -/
theorem Reps.advS {K : PySem.W.Frag} {mg : Mg} {Z : Addr → Prop} {α α' : Nat → Option Addr} {β β' : List Addr} {H H' : Hp} {ds : List D} {vs : List V} (r : Reps K mg β (Oo Z α β) H ds vs) (A : Adv (Ws α β) β H β' H') (O : OwS α H α') : Reps K mg β' (Oo Z α' β') H' ds vs :=
  Reps.mono A.nth (fun a o e n => A.keep a o e fun w => n (w.elim (fun z => .inr (.inl z)) fun z => .inr (.inr z))) (fun a q => by
    rcases q with q | q | ⟨i, q⟩
    · exact .inl (.inl q)
    · exact (A.mem q).elim (fun z => .inl (.inr (.inl z))) .inr
    · exact (O i a q).elim (fun z => .inl (.inr (.inr z))) .inr) _ _ r
section
variable {X : Cx} {o e tg : Expr} {es : List Expr} {u t : DE} {C : String} {f : PySem.Str} {pos : Pos} {g : DGS} {gs : DGSs}
theorem GS.fld (hm : X.mg (PySem.Str.ofString C) = some (.ref (He.ga X.K (PySem.Str.ofString C)))) (hc : Cls X.K (He.ga X.K (PySem.Str.ofString C))) (hn : NoAttr X.K (He.ga X.K (PySem.Str.ofString C)) f) (ho : EX X true o u) : GSX X (.Attribute o f pos) (gsFld C f u) := by
  refine ⟨fun pins s σ H v w Q I r ⟨Z, α, β, env, S, d, env', S', R, rd, e1, q⟩ => ?_⟩
  unfold gsFld at e1
  obtain ⟨⟨ov, S1⟩, eo, e1⟩ := Option.bind_eq_some_iff.mp e1
  obtain ⟨⟨n, fs⟩, ei, e1⟩ := Option.bind_eq_some_iff.mp e1
  split at e1
  · rename_i hz
    cases e1
    rw [assign_Attribute]
    refine wpAny_bind (wpAny_holding (thn (ho.run pins s σ H (fun x H1 => ∃ a dx vs, x = .ref a ∧ H1 a = some (.ins (He.ga X.K (PySem.Str.ofString C)) dx vs) ∧ vs.length < 1000 ∧ Q σ (upd H1 a (.ins (He.ga X.K (PySem.Str.ofString C)) dx (putF f v vs)))) I ⟨Z, α, β, env, S, ov, S1, R, eo, fun x H1 β1 R1 A1 r1 => ?_⟩) fun ov2 s1 ⟨x, H1, I1, rx, a, dx, vs, ex, hH, hl, q2⟩ => ?_))
    · obtain ⟨a, dx, vs, rfl, hn1, hH, k1, k2⟩ := ins_of R1 r1 ei hm
      obtain ⟨p1, p2⟩ := flds_put (f := f) (rd.adv A1) k1 k2
      have hl : vs.length < 1000 := by
        have := congrArg List.length k1
        rw [List.length_map, List.length_map] at this
        rw [← this]
        exact hz
      exact ⟨a, dx, vs, rfl, hH, hl, q σ _ α β1 (R1.updRefS hn1 (.ins hm p1 p2)) (AdvS.trans A1.ws .refl (adv_wr (W := Ws α β1) (Or.inl (List.mem_of_getElem? hn1)) (nf_ins hH))) .refl⟩
    · subst ex
      obtain rfl : ov2 = Value.ref a := rx
      refine wpAny_bind (wpAny_standAt (wpAny_bind (wpAny_holding (setattr_ok I1 hH hc hn hl r fun s3 I3 => ?_))))
      exact wpAny_release ⟨σ, _, I3, q2⟩
  · cases e1
theorem GS.ofG {tl : List Nat} {g0 : DG} (h : GX X tg tl g0) : GSX X tg fun d env S => (g0 d env).map fun env' => (env', S) :=
  ⟨fun pins s σ H v w Q I r ⟨Z, α, β, env, S, d, env', S', R, rd, e1, q⟩ => h.run pins s σ H v w Q I r (by
    obtain ⟨en, e2, e3⟩ := Option.map_eq_some_iff.mp e1
    cases e3
    exact ⟨Z, α, β, env, S, d, env', R, rd, e2, fun σ' α' R' h1 h2 h3 => q σ' H α' β R' .refl fun i a e => .inl ⟨i, h1 i a e⟩⟩)⟩
theorem GSs.nil : GSsX X [] gssNil :=
  ⟨fun pins s σ H v w Q I r ⟨Z, α, β, env, S, ds, env', S', R, rd, e1, q⟩ => pgs_nil.run pins s σ H v w Q I r (by
    cases rd with
    | nil => cases e1; exact ⟨rfl, q σ H α β R .refl .refl⟩
    | cons _ _ => cases e1)⟩
theorem GSs.cons (h1 : GSX X e g) (h2 : GSsX X es gs) (hs : (assignEach (e :: es) X.env).map (·.2) = assign e X.env :: (assignEach es X.env).map (·.2) := by rfl) : GSsX X (e :: es) (gssCons g gs) :=
  ⟨fun pins s σ H v w Q I r ⟨Z, α, β, env, S, ds, env', S', R, rd, e1, q⟩ => (pgs_cons h1 h2 hs).run pins s σ H v w Q I r (by
    cases rd with
    | nil => cases e1
    | cons r1 r2 =>
      obtain ⟨⟨en, S1⟩, e2, e3⟩ := Option.bind_eq_some_iff.mp e1
      exact ⟨_, _, rfl, Z, α, β, env, S, _, en, S1, R, r1, e2, fun σ1 H1 α1 β1 R1 A1 O1 => ⟨Z, α1, β1, en, S1, _, env', S', R1, r2.advS A1 O1, e3, fun σ2 H2 α2 β2 R2 A2 O2 => q σ2 H2 α2 β2 R2 (AdvS.trans A1 O1 A2) (O1.trans A1 O2)⟩⟩)⟩
theorem GS.tup {n k : Nat} (hc : X.calm = true) (h : GSsX X es gs) (hn : (assignEach es X.env).length = n := by rfl) (hst : (assignEach es X.env).findIdx? (·.1) = none := by rfl) : GSX X (.Tuple es k pos) (gsTup n gs) :=
  ⟨fun pins s σ H v w Q I r ⟨Z, α, β, env, S, d, env', S', R, rd, e1, q⟩ => (pg_tup hc h hn hst).run pins s σ H v w Q I r (by
    cases d <;> try (cases e1; done)
    rename_i xs
    have e1 : (if xs.length = n then gs xs env S else none) = some (env', S') := e1
    split at e1
    · cases rd with
      | tup h1 h2 => exact ⟨_, _, rfl, h1.sq, by rw [← h2.length]; assumption, Z, α, β, env, S, xs, env', S', R, h2, e1, q⟩
    · cases e1)⟩
theorem S.asgS (h : EX X false e t) (hg : GSX X tg g) (hs : swapsWithSole [tg] e pos.line X.env = pure false := by rfl) (hw : swappedStores [tg] e X.env = pure none := by rfl)
    (h1 : (assignEach [tg] X.env).map (·.2) = [assign tg X.env] := by rfl) : SX X (.Assign [tg] e pos) (sAsgS g t) :=
  PS.imp (ps_asg h hg hs hw h1) fun E σ H ⟨Z, α, β, env, S, fl, S', R, e1, q⟩ => by
    unfold sAsgS at e1
    obtain ⟨⟨x, S1⟩, ex, e1⟩ := Option.bind_eq_some_iff.mp e1
    obtain ⟨⟨en, S2⟩, eg, e2⟩ := Option.map_eq_some_iff.mp e1
    cases e2
    exact ⟨Z, α, β, env, S, x, S1, R, ex, fun v H1 β1 R1 A1 r1 => ⟨Z, α, β1, env, S1, x, en, S2, R1, r1.rep, eg, fun σ2 H2 α2 β2 R2 A2 O2 => q α2 β2 σ2 H2 R2 (AdvS.trans (α1 := α) (Adv.ws A1) (OwS.refl (α := α) (H := H)) A2) (OwS.trans (α1 := α) (OwS.refl (α := α) (H := H)) A1 O2)⟩⟩
end
end Rf
end
section
set_option maxHeartbeats 2000000
/-! Rf, part Z: sorted by a key that is an own def. -/
namespace RfZ
open PySem PySem.W PySem.Calls PyProof.Rows
section
variable {prog : Program} {w : World} {A : Around} {E : Value → Shared → Prop} {s : Shared} {a kS : Addr} {vs : List Value} {kz : List PyData} {P : PySem.Fin → Shared → Prop}
/-- the keys are taken one by one; J: what is true behind the first ones -/
theorem keysJ {f : Value} {e1 : Nat} (J : List Value → Shared → Prop) (hka : kS ≠ a) (hlen : kz.length = vs.length) (hZ : vs.length ≤ sizeLine) (hal : AllAlike kz) (hsk : Sortable kz) (hu : ∀ d, d ∈ kz → A.units + d.depth < cLine)
    (turn : ∀ (i : Nat) (v : Value), vs[i]? = some v → ∀ (ks : List Value) (s' : Shared) (e : Nat), ks.length = i → J ks s' → s'.heap.get? kS = some (seqObj "list" ks.toArray e) → s'.heap.get? a = some (seqObj "list" #[] e1) →
      wpAny (model prog w) A (call f [v]) (fun u s2 => s2.heap.get? kS = some (seqObj "list" ks.toArray e) ∧ s2.heap.get? a = some (seqObj "list" #[] e1) ∧ J (ks ++ [u]) { s2 with heap := s2.heap.update kS (Obj.mapSeq (·.push u)) }) (fun _ _ => False) s')
    (start : J [] s) (nk : s.heap.get? kS = some (seqObj "list" #[] 0)) (na : s.heap.get? a = some (seqObj "list" #[] e1))
    (rd : ∀ ks s', J ks s' → ks.length = vs.length → EachIs (fun v k => ∃ as, Reads s'.heap v k as) ks kz)
    (h : ∀ ks s' h' tk out c, J ks s' → ks.length = vs.length → (∀ b o, b ≠ a → b ≠ kS → s'.heap.get? b = some o → h'.get? b = some o) → h'.get? a = some (seqObj "list" (List.toArray out) c) → KeyedOut false kz vs out → P (.done (.ret .none)) { s' with heap := h', toks := tk }) :
    wpAny (model prog w) A (ksk_rest a f false vs.toArray e1 (.ref kS)) P E s := by
  unfold ksk_rest
  refine wpAny_bind (wpAny_rule ?_)
  first
    | rw [List.forIn_toArray]
    | (rw [← Array.forIn_toList]; simp only [List.toList_toArray])
    | rw [← Array.forIn_toList]
  refine wpAny_bind (ksk_fold (fun i s' => ∃ (ks : List Value) (e : Nat), ks.length = i ∧ J ks s' ∧ s'.heap.get? kS = some (seqObj "list" ks.toArray e) ∧ s'.heap.get? a = some (seqObj "list" #[] e1)) vs 0 s
    ⟨[], 0, rfl, start, nk, na⟩ ?step ?done)
  case step =>
    rintro j x s' hx ⟨ks, e, hl, hj, nk', na'⟩
    have hjv : j < vs.length := (List.getElem?_eq_some_iff.mp hx).1
    refine wpAny_bind (wpAny_attempt (wpAny_mono (turn j x hx ks s' e (by omega) hj nk' na') (fun u s2 q => ?_) fun _ _ hF => hF.elim))
    obtain ⟨nk2, na2, q⟩ := q
    try dsimp only
    have s1 := Heap.SameBut.update s2.heap kS (Obj.mapSeq (·.push u))
    obtain ⟨c2, hc2⟩ : ∃ c2, (s2.heap.update kS (Obj.mapSeq (·.push u))).get? kS = some (seqObj "list" (ks.toArray.push u) c2) := ⟨_, get?_update_seq nk2 (·.push u)⟩
    have hz : ks.toArray.size ≤ vs.length := by rw [List.size_toArray]; omega
    refine wpAny_bind (listUpdate_at nk2 rfl ?_ (Nat.le_trans hz hZ) (Nat.le_trans (Nat.le_of_eq (Array.size_push ..)) (Nat.succ_le_succ (Nat.le_trans hz hZ))))
    have ea : ks.toArray.push u = (ks ++ [u]).toArray := by simp
    exact wpAny_pure ⟨rfl, ks ++ [u], c2, by rw [List.length_append, hl]; simp, q, by rw [← ea]; exact hc2, (s1.2 a hka.symm).trans na2⟩
  case done =>
    rintro s' ⟨ks, e, hl, hj, nk', na'⟩
    have hkl : ks.length = vs.length := by omega
    have hk := rd ks s' hj hkl
    try dsimp only
    refine wpAny_bind (listItems_at nk' rfl ?_)
    have kp : KeepsBut a (hideAll s'.heap [kS]) s'.heap := fun b o _ q => of_hideAll [kS] q
    have hS : SortsAt prog w A s' (dataKind s'.heap kz) ks.toArray.toList := by
      rw [List.toList_toArray]
      exact SortsAt.data hk hal hsk hu
    refine keyH_end (κ := dataKind s'.heap kz) (h₁ := hideAll s'.heap [kS]) (b := false) kp (hideAll_none [kS] (.head _)) nk' na' hka hS (by rw [List.size_toArray]; exact hkl) hZ fun h3 tk3 c k3 n3 => ?_
    rw [List.toList_toArray] at n3
    exact h ks s' h3 tk3 _ c hj hkl (fun b o h1 h2 q => k3 b o h1 (hideAll_get [kS] q fun z => h2 (by simpa using z))) n3 ⟨s'.heap, ks, hal, rfl, hk⟩
theorem treeJ {f : Value} {n : Nat} (J : List Value → Shared → Prop) (ho : s.heap.get? a = some (seqObj "list" vs.toArray n)) (hlen : kz.length = vs.length) (hZ : vs.length ≤ sizeLine) (hal : AllAlike kz) (hsk : Sortable kz) (hu : ∀ d, d ∈ kz → A.units + d.depth < cLine)
    (turn : ∀ (e1 : Nat) (i : Nat) (v : Value), vs[i]? = some v → ∀ (ks : List Value) (s' : Shared) (e : Nat), ks.length = i → J ks s' → s'.heap.get? (s.heap.objs.size + 1) = some (seqObj "list" ks.toArray e) → s'.heap.get? a = some (seqObj "list" #[] e1) →
      wpAny (model prog w) A (call f [v]) (fun u s2 => s2.heap.get? (s.heap.objs.size + 1) = some (seqObj "list" ks.toArray e) ∧ s2.heap.get? a = some (seqObj "list" #[] e1) ∧ J (ks ++ [u]) { s2 with heap := s2.heap.update (s.heap.objs.size + 1) (Obj.mapSeq (·.push u)) }) (fun _ _ => False) s')
    (start : J [] { s with heap := sortingHeap s.heap a vs })
    (rd : ∀ ks s', J ks s' → ks.length = vs.length → EachIs (fun v k => ∃ as, Reads s'.heap v k as) ks kz)
    (h : ∀ ks s' h' tk out c, J ks s' → ks.length = vs.length → (∀ b o, b ≠ a → b ≠ s.heap.objs.size + 1 → s'.heap.get? b = some o → h'.get? b = some o) → h'.get? a = some (seqObj "list" (List.toArray out) c) → KeyedOut false kz vs out → P (.done (.ret .none)) { s' with heap := h', toks := tk }) :
    wpAny (model prog w) A (ksk_tree a f false) P E s := by
  have ha : a < s.heap.objs.size := Heap.lt_size ho
  obtain ⟨e1, ho1⟩ : ∃ e1, (s.heap.update a (Obj.mapSeq fun _ => (#[] : Array Value))).get? a = some (seqObj "list" #[] e1) := ⟨_, get?_update_seq ho fun _ => #[]⟩
  have hkS : ((s.heap.update a (Obj.mapSeq fun _ => (#[] : Array Value))).push (seqObj "tuple" vs.toArray 0)).objs.size = s.heap.objs.size + 1 := by rw [size_push', Heap.size_update]
  unfold ksk_tree
  refine wpAny_bind (listItems_at ho rfl ?_)
  refine wpAny_bind (listUpdate_at ho rfl ?_ (by rw [List.size_toArray]; exact hZ) (Nat.zero_le _))
  refine wpAny_bind (seqEpoch_at ho1 rfl ?_)
  refine wpAny_bind (wpAny_newTuple ?_ (by show vs.length ≤ _; exact hZ))
  refine wpAny_bind (wpAny_newList ?_ (Nat.zero_le _))
  refine wpAny_holding ?_
  have g := keysJ (E := E) (P := P) (f := f) (a := a) (A := A) (prog := prog) (w := w) (e1 := e1) (s := { s with heap := sortingHeap s.heap a vs }) (kS := s.heap.objs.size + 1) J (Nat.ne_of_gt (Nat.lt_succ_of_lt ha)) hlen hZ hal hsk hu (turn e1) start
    (by unfold sortingHeap; rw [← hkS]; exact Heap.get?_push_size _ rfl) (by unfold sortingHeap; exact Heap.get?_push_of_some _ (Heap.get?_push_of_some _ ho1)) rd h
  unfold sortingHeap at g
  rw [← hkS] at g
  exact g
end
end RfZ

namespace Rf
open PySem PySem.Spec PyProof.Rows L2
section
variable {fs ex : List Addr} {H H1 : Hp} {h h1 h2 : Heap} {P : Program} {w : World} {a : Addr}
theorem Un.but {C : Addr → Prop} (u : Un fs ex H H1 h h1) (k : ∀ b o, ¬ C b → h1.get? b = some o → h2.get? b = some o) (hc : ∀ b o, h.get? b = some o → ¬ C b) : Un fs ex H H1 h h2 where
  keep := fun b o q n hb hx => k b o (hc b o q) (u.keep b o q n hb hx)
  slot := fun b o q n hb hx => by
    obtain ⟨sl, e⟩ := u.slot b o q n hb hx
    exact ⟨sl, k b _ (hc b o q) e⟩
  free := u.free
  there := fun b o q hx => by
    obtain ⟨o', e⟩ := u.there b o q hx
    exact ⟨o', k b _ (hc b o q) e⟩
  tups := u.tups
  frzs := u.frzs
  tbls := u.tbls
theorem HOk.but {C : Addr → Prop} (x : HOk P w H h) (k : ∀ b o, ¬ C b → h.get? b = some o → h2.get? b = some o) (hc : ∀ b, C b → H b = none) : HOk P w H h2 := fun b o e =>
  (x b o e).stay (fun c u hcb q => k c u (fun z => by
    rcases hcb with r | r
    · rw [r] at z; rw [hc b z] at e; cases e
    · rw [hc c z] at r; cases r) q) (fun _ q => q) fun _ _ q => q
/-- an untracked object is tracked from here on -/
theorem HOk.take (x : HOk P w H h) (n : H a = none) {o : HO} (new : ObjOk P w (upd H a o) h a o) : HOk P w (upd H a o) h := fun b u e => by
  by_cases hb : b = a
  · subst hb
    rw [upd_same] at e
    cases e
    exact new
  · rw [upd_ne hb] at e
    exact (x b u e).stay (fun c v _ q => q) (fun c q => by rw [upd_ne (ne_of_none q n)]; exact q) fun c xs q => by rw [upd_ne (ne_of_none q n)]; exact q
theorem Un.take (u : Un fs ex H H1 h h1) (n : H1 a = none) (f : h.get? a = none) {o : HO} : Un fs ex H (upd H1 a o) h h1 where
  keep := u.keep
  slot := u.slot
  free := fun b ob q m hx => by rw [upd_ne (fun z => by rw [z, f] at q; cases q)]; exact u.free b ob q m hx
  there := u.there
  tups := fun b xs q => by
    have e := u.tups b xs q
    rw [upd_ne (ne_of_none e n)]
    exact e
  frzs := fun b ob v q => by
    have e := u.frzs b ob v q
    rw [upd_ne (ne_of_none e n)]
    exact e
  tbls := fun b ps q => by
    obtain ⟨more, e⟩ := u.tbls b ps q
    exact ⟨more, by rw [upd_ne (ne_of_none e n)]; exact e⟩
end
/-- the keys of things, one by one -/
def goK (φ : Fn) : List D → Sto → Option (List D × Sto)
  | [], S => some ([], S)
  | d :: ds, S => (φ [d] S).bind fun p => (goK φ ds p.2).map fun q => (p.1 :: q.1, q.2)
theorem goK_len {φ : Fn} : ∀ {ds : List D} {S : Sto} {ks : List D} {S' : Sto}, goK φ ds S = some (ks, S') → ks.length = ds.length
  | [], S, ks, S', e => by cases e; rfl
  | d :: ds, S, ks, S', e => by
    rw [goK] at e
    obtain ⟨⟨x, S1⟩, e1, e⟩ := Option.bind_eq_some_iff.mp e
    obtain ⟨⟨r, S2⟩, e2, e⟩ := Option.map_eq_some_iff.mp e
    cases e
    rw [List.length_cons, List.length_cons, goK_len e2]
/-- things sorted by their keys -/
def sortK (xs ks : List D) : List D := ((xs.zip ks).mergeSort (PySem.W.dataLe false fun p : D × D => encD p.2)).map (·.1)
def okK (ks : List D) : Bool := match pyDs ks with
  | some ps => alikeB ps && sortableB ps && SeqAt.shaped (.list ps)
  | none => false
def keyD1 (φ : Fn) (S : Sto) : List D → Option (D × Sto)
  | [d] => match seqD S d with
    | some (false, xs) => (goK φ xs S).bind fun q => if okK q.1 = true then some (.lst (sortK xs q.1), q.2) else none
    | _ => none
  | _ => none
/-- sorted(e, key=f) -/
def dSortK (φ : Fn) (u : DA) : DE := fun env S => (u env S).bind fun p => keyD1 φ p.2 p.1
def rSortK (K : PySem.W.Frag) (mg : Mg) (φ : Fn) (f : Addr) : List V → List V → Hp → VK → Prop := fun vs zs H Q => ∃ (a : Addr) (xs : List V) (ds kds : List D) (β : List Addr) (Z : Addr → Prop) (S S' : Sto),
  vs = [V.ref a] ∧ zs = [V.ref f] ∧ SqL K H a xs ∧ Rel K mg Z noα β [] S [] H ∧ Reps K mg β (Oo Z noα β) H ds xs ∧ goK φ ds S = some (kds, S') ∧ okK kds = true ∧
  ∀ p H' β' ys, Rel K mg Z noα β' [] S' [] H' → Adv (Wb β) β H β' H' → H p = none → H' p = none → Reps K mg β' (Oo Z noα β') H' (sortK ds kds) ys → Q (.ref p) (upd H' p (.lst ys))
theorem each_zip {F : Value → D → Prop} : ∀ {us : List Value} {ds ks : List D}, PySem.W.EachIs F us ds → ks.length = ds.length → PySem.W.EachIs (fun u (p : D × D) => F u p.1) us (ds.zip ks)
  | [], [], [], .nil, _ => .nil
  | _ :: _, _ :: _, k :: ks, .cons h t, e => .cons h (each_zip t (Nat.succ.inj e))
  | _ :: _, _ :: _, [], .cons h t, e => nomatch e
theorem zip_snd : ∀ {ds ks : List D}, ks.length = ds.length → ((ds.zip ks).map fun p => encD p.2) = ks.map encD
  | [], [], _ => rfl
  | _ :: _, [], e => nomatch e
  | [], _ :: _, e => nomatch e
  | d :: ds, k :: ks, e => by
    rw [List.zip_cons_cons, List.map_cons, List.map_cons, zip_snd (Nat.succ.inj e)]
theorem each_fst {F : Value → D → Prop} : ∀ {us : List Value} {ps : List (D × D)}, PySem.W.EachIs (fun u (p : D × D) => F u p.1) us ps → PySem.W.EachIs F us (ps.map (·.1))
  | _, _, .nil => .nil
  | _, _, .cons h t => .cons h (each_fst t)
theorem sortK_len {ds ks : List D} (h : ks.length = ds.length) : (sortK ds ks).length = ds.length := by
  unfold sortK
  rw [List.length_map, List.length_mergeSort, List.length_zip, h, Nat.min_self]
theorem cr_sortK {X : Cx} {φ : Fn} {f : Addr} {fd : FuncData} {ps : List PySem.Str} (hb : Binds X.K fd ps []) (un : X.A.units + 200 < cLine) (len : ∀ vs H Q, spF X.K (mX X) φ vs H Q E0 → vs.length = ps.length)
    (go : ∀ (s : Shared) (H : Hp) (us : List Value) (vs : List V) (Q : VK), Env0 X.prog X.w X.K X.mg X.base X.A.in1.in1 X.stack s H → BindsTo s fd ⟨us, []⟩ (ps.zip us) → Vals vs us → spF X.K (mX X) φ vs H Q E0 →
      codeAny (model X.prog X.w) X.A.in1.in1 (.call (.ref f) ⟨us, []⟩) (CR CX0 X.stack X.prog X.w H s Q E0) s) :
    CallRK X (.builtin "sorted") [Str.ofString "key"] (rSortK X.K (mX X) φ f) := by
  intro pins s σ H vs zs us ws Q I rv rz h
  obtain ⟨a, xs, ds, kds, β, Z, S, S', rfl, rfl, hs, R0, rp, eg, ok, q⟩ := h
  obtain rfl := Vals.ref1 rv
  obtain rfl := Vals.ref1 rz
  obtain ⟨its, rvi, hl, hzl⟩ := I.list hs
  have hzi : its.length ≤ sizeLine := by rw [← rvi.length]; exact hzl
  unfold okK at ok
  cases ek : pyDs kds with
  | none => rw [ek] at ok; cases ok
  | some qs =>
  rw [ek] at ok
  simp only [Bool.and_eq_true] at ok
  obtain ⟨⟨ha, hk⟩, hz⟩ := ok
  have ep := pyDs_enc ek
  rw [← ep] at ha hk hz
  have hdp := SeqAt.depth_of_shaped hz
  rw [PyData.depth] at hdp
  have hlk : kds.length = ds.length := goK_len eg
  have hli : ds.length = its.length := by rw [rp.length, rvi.length]
  have hun := un
  have fresh1 : s.heap.get? (s.heap.objs.size + 1) = none := Heap.get?_none_of_le (Nat.le_succ _)
  have csz : (PySem.W.copyHeap s.heap its).objs.size = s.heap.objs.size + 2 := by
    unfold PySem.W.copyHeap
    rw [size_push', Heap.size_update, size_push']
  have fresh3 : s.heap.get? (s.heap.objs.size + 2 + 1) = none := Heap.get?_none_of_le (by omega)
  have keep0 : ∀ b o, s.heap.get? b = some o → (PySem.W.sortingHeap (PySem.W.copyHeap s.heap its) (s.heap.objs.size + 1) its).get? b = some o := fun b o e =>
    PySem.W.sortingHeap_old (Nat.ne_of_lt (Nat.lt_succ_of_lt (Heap.lt_size e))) (PySem.W.copyHeap_old e)
  refine PySem.W.sorted_of_sort hl.isList hzi (PyProof.Rows.ksk_s1 _ _) (fun _ => PyProof.Rows.ksk_l1 _ _) fun E' => ?_
  show wpAny _ _ (Builtin.«list.sort» ⟨[.ref (s.heap.objs.size + 1)], [(Str.ofString "key", .ref f)]⟩) _ _ _
  rw [PyProof.Rows.ksk_t1]
  have nfr : ∀ b, s.heap.get? b = none → b ∉ frs X.stack := fun b e hb => by
    obtain ⟨_, o, e2, _⟩ := I.stack.mem hb
    rw [e] at e2
    cases e2
  refine RfZ.treeJ (s := { s with heap := PySem.W.copyHeap s.heap its }) (kz := kds.map encD) (fun ks s' => ∃ H' S1 β1 kvs kd1 kd2, s'.os = s.os ∧ AllBare s'.gens ∧ Un (frs X.stack) [] H H' s.heap s'.heap ∧ HOk X.prog X.w H' s'.heap ∧
      H' (s.heap.objs.size + 1) = none ∧ H' (s.heap.objs.size + 2 + 1) = none ∧ Rel X.K (mX X) Z noα β1 [] S1 [] H' ∧ Adv (Wb β) β H β1 H' ∧ Reps X.K (mX X) β1 (Oo Z noα β1) H' kd1 kvs ∧ Vals kvs ks ∧ goK φ (ds.drop ks.length) S1 = some (kd2, S') ∧ kd1 ++ kd2 = kds)
    (PySem.W.copyHeap_at s.heap its) (by rw [List.length_map]; omega) hzi (alikeB_ok ha) (sortableB_ok hk) (fun d hd => ?_) ?_ ?_ ?_ ?_
  · obtain ⟨d', hd', rfl⟩ := List.mem_map.mp hd
    have := depth_mem hd'
    show X.A.units + 1 + 1 + _ < _
    omega
  · intro e1 i v hv ks s' e hi ⟨H', S1, β1, kvs, kd1, kd2, os, bare, un, hok, f1, f2, R, A, r1, r3, eg', ec⟩ nk na
    rw [csz] at nk ⊢
    have hil : i < its.length := (List.getElem?_eq_some_iff.mp hv).1
    have hid : i < ds.length := by omega
    obtain ⟨x, hx, rx⟩ := Reps.get rp (List.getElem?_eq_getElem hid)
    obtain ⟨u, hu, ru⟩ := Vals.get rvi hx
    rw [hv] at hu
    cases hu
    rw [hi, List.drop_eq_getElem_cons hid, goK] at eg'
    obtain ⟨⟨kd, S2⟩, ek1, eg'⟩ := Option.bind_eq_some_iff.mp eg'
    obtain ⟨⟨kr, S3⟩, ek2, eg'⟩ := Option.map_eq_some_iff.mp eg'
    cases eg'
    have I' : Inv X pins σ H' s' := I.call' os un hok bare (fun b z => absurd z (by simp))
    have sp : spF X.K (mX X) φ [x] H' (fun v2 H2 => ∃ β2, Rel X.K (mX X) Z noα β2 [] S2 [] H2 ∧ Adv (Wb β1) β1 H' β2 H2 ∧ Rep X.K (mX X) β2 (Oo Z noα β2) H2 kd v2) E0 :=
      ⟨Z, β1, S1, [ds[i]], kd, S2, R, .cons (rx.adv A) .nil, ek1, fun v2 H2 β2 R2 A2 q2 => ⟨β2, R2, A2, q2⟩⟩
    have bd := hb s' [v] I'.kIn (by have := len _ _ _ sp; simpa using this)
    rw [List.append_nil] at bd
    refine wpAny_call (codeAny_mono (go s' H' [v] [x] _ I'.env0.in1.in1 bd (.cons ru .nil) sp) fun o t ho => ?_)
    match o, ho with
    | .error z, ho => exact ho.elim
    | .ok (.ret u), ho =>
      obtain ⟨v2, H2, os2, bare2, un2, hok2, ru2, β2, R2, A2, q2⟩ := ho
      have n1 := un2.keep _ _ nk f2 (nfr _ fresh3) (by simp)
      have n2 := un2.keep _ _ na f1 (nfr _ fresh1) (by simp)
      have g1 := un2.free _ _ na f1 (by simp)
      have g2 := un2.free _ _ nk f2 (by simp)
      have sb := Heap.SameBut.update t.heap (s.heap.objs.size + 2 + 1) (Obj.mapSeq (·.push u))
      have kb : ∀ b o, ¬ (b = s.heap.objs.size + 2 + 1) → t.heap.get? b = some o → (t.heap.update (s.heap.objs.size + 2 + 1) (Obj.mapSeq (·.push u))).get? b = some o := fun b o hb e => (sb.2 b hb).trans e
      refine ⟨n1, n2, H2, S2, β2, kvs ++ [v2], kd1 ++ [kd], kr, os2.trans os, bare2, Un.but (un.trans un2) kb (fun b o e z => by rw [z, fresh3] at e; cases e), HOk.but hok2 kb (fun b z => by rw [z]; exact g2), g1, g2, R2, A.trb A2, (r1.adv A2).append (.cons q2 .nil), r3.append (.cons ru2 .nil), ?_, ?_⟩
      · rw [List.length_append, List.length_singleton, hi]
        exact ek2
      · rw [List.append_assoc]
        exact ec
  · exact ⟨H, S, β, [], [], kds, rfl, I.bare, Un.kept keep0, HOk.kept I.hok keep0, I.hok.fresh (Nat.le_succ _), I.hok.fresh (by omega), R0, .refl, .nil, .nil, eg, rfl⟩
  · intro ks s' ⟨H', S1, β1, kvs, kd1, kd2, os, bare, un, hok, f1, f2, R, A, r1, r3, eg', ec⟩ hkl
    rw [List.drop_of_length_le (by omega)] at eg'
    cases eg'
    rw [List.append_nil] at ec
    subst ec
    have I' : Inv X pins σ H' s' := I.call' os un hok bare (fun b z => absurd z (by simp))
    obtain ⟨as, hr⟩ := Dp.readsAll I' qs kvs ks (Reps.dp r1 ek) r3
    rw [← ep] at hr
    exact PySem.W.each_map encD (R := fun v d => ∃ as, Reads s'.heap v d as) (each_reads hr)
  · intro ks s' h' tk out c ⟨H', S1, β1, kvs, kd1, kd2, os, bare, un, hok, f1, f2, R, A, r1, r3, eg', ec⟩ hkl kp ha' ko
    rw [csz] at kp
    rw [List.drop_of_length_le (by omega)] at eg'
    cases eg'
    have hR : PySem.W.EachIs (fun u (p : D × D) => ∃ x, RelV x u ∧ Rep X.K (mX X) β1 (Oo Z noα β1) H' p.1 x) its (ds.zip kds) := each_zip (each_of (rp.adv A) rvi) hlk
    rw [← zip_snd hlk] at ko
    have hout := PySem.W.keyedOut_each (rev := false) (fun p : D × D => encD p.2) ko hR
    have ho2 : PySem.W.EachIs (fun u d => ∃ x, RelV x u ∧ Rep X.K (mX X) β1 (Oo Z noα β1) H' d x) out (sortK ds kds) := each_fst hout
    obtain ⟨ys, y1, y2⟩ := of_each ho2
    have hlen : ys.length ≤ sizeLine := by
      rw [← y1.length, sortK_len hlk]
      omega
    have kb : ∀ b o, ¬ (b = s.heap.objs.size + 1 ∨ b = s.heap.objs.size + 2 + 1) → s'.heap.get? b = some o → h'.get? b = some o := fun b o hb e => kp b o (fun z => hb (.inl z)) (fun z => hb (.inr z)) e
    have un2 := Un.take (o := .lst ys) (Un.but un kb fun b o e z => by
      rcases z with z | z
      · rw [z, fresh1] at e; cases e
      · rw [z, fresh3] at e; cases e) f1 fresh1
    have hok2 := HOk.take (o := .lst ys) (HOk.but hok kb fun b z => by
      rcases z with z | z
      · rw [z]; exact f1
      · rw [z]; exact f2) f1 ⟨hlen, out, c, y2, ha'⟩
    refine ⟨rfl, .ref _, upd H' (s.heap.objs.size + 1) (.lst ys), ?_, rfl, q _ H' β1 ys R A (I.hok.fresh (Nat.le_succ _)) f1 y1⟩
    exact I.call' (s' := { s' with heap := h', toks := tk }) os un2 hok2 bare fun b z => absurd z (by simp)
section
variable {X : Cx} {e : Expr} {u : DA} {φ : Fn} {f : Addr} {x g : PySem.Str} {p p2 pos kpos : Pos} {k n : Nat}
theorem rd_sortK (σ : L2.St) (H : Hp) (Q : VK) (h : rdF X.K (mX X) (dSortK φ u) σ H Q) : tCKw (rSortK X.K (mX X) φ f) (rdA X.K (mX X) true u) (tCons (tC (.ref f)) tNil) σ H Q := by
  obtain ⟨Z, α, β, env, S, d, S', R, e1, q⟩ := h
  unfold dSortK at e1
  obtain ⟨⟨xs, S1⟩, ex, e1⟩ := Option.bind_eq_some_iff.mp e1
  refine ⟨Z, α, β, env, S, xs, S1, R, ex, fun vs H1 β1 R1 A1 rx => ?_⟩
  show rSortK X.K (mX X) φ f vs [V.ref f] H1 Q
  have e1 : keyD1 φ S1 xs = some (d, S') := e1
  unfold keyD1 at e1
  split at e1
  · split at e1
    · rename_i ys e2
      obtain ⟨⟨kds, S2⟩, eg, e1⟩ := Option.bind_eq_some_iff.mp e1
      split at e1
      · rename_i ok
        cases e1
        obtain ⟨v, rfl, r⟩ := Paired.one rx
        obtain ⟨a, ws, rfl, rr, h1⟩ := r.seq R1 e2
        refine ⟨a, ws, ys, kds, β1, Zc Z α, S1, _, rfl, rfl, .of (seq_ff h1), R1.toCall, by rw [Oo_zc]; exact rr, eg, ok, fun p H2 β2 zs R2 A2 n1 n2 r2 => ?_⟩
        rw [Oo_zc] at r2
        exact q p (.lst zs) (.lst (sortK ys kds)) _ β2 ((R1.fromCall R2 A2).apart n2 _) ((A1.trb A2).trb (Adv.upd n2)) (A1.fresh n1) upd_same rfl (CellOk.apart (.lst r2) n2)
      · cases e1
    · cases e1
  · cases e1
theorem F.sortKG (F : FnAtG X.prog X.w X.K X.mg X.base k g n φ) (r : RoomG (k + 2) X.A) (hg : Gl X x) (hm : X.mg x = none) (hv : bootBuiltins x = some (.builtin "sorted")) (hf : Gl X g) (ha : AX X true [e] u)
    (hn : x ≠ "__name__" := by decide) (hdb : (x == ("__debug__" : PySem.Str)) = false := by decide) (hdg : (g == ("__debug__" : PySem.Str)) = false := by decide)
    (he : backTo pos (starEach [e] X.env) = (false, eval e X.env) :: backTo pos (starEach [] X.env) := by rfl) (hpl : (backTo pos (starEach [e] X.env)).any (·.1) = false := by rfl)
    (hall : (backToKw pos (keywordEach [⟨some ("key" : PySem.Str), .Name g p2, kpos⟩] X.env)).all (·.1.isSome) = true := by rfl) (hnone : (backToKw pos (keywordEach [⟨some ("key" : PySem.Str), .Name g p2, kpos⟩] X.env)).any (·.1.isNone) = false := by rfl)
    (hks : (backToKw pos (keywordEach [⟨some ("key" : PySem.Str), .Name g p2, kpos⟩] X.env)).filterMap (·.1) = [Str.ofString "key"] := by rfl) : EF X (.Call (.Name x p) [e] [⟨some ("key" : PySem.Str), .Name g p2, kpos⟩] pos) (dSortK φ u) := by
  obtain ⟨f, fd, ps, h1, h2, h3, h4, F⟩ := F
  exact PE.imp (pe_callBK (cr_sortK h3 (by have := r.rm.un; omega) (fun vs H Q => F.size vs H Q E0) (fun s H us vs Q => F.go X.A.in1.in1 X.stack s H ⟨us, []⟩ us vs Q E0 ⟨r.rm.in1.in1, r.gd⟩)) hg hm hv ha (pk_cons (pe_glob (v := .ref f) hf h1 rfl hdg) pk_nil) hn hdb he hpl hall hnone hks) fun σ H Q h => rd_sortK σ H Q h
theorem F.sortK (F : FnAt X.prog X.w X.K X.mg X.base k g n φ) (r : Room (k + 2) X.A) (hg : Gl X x) (hm : X.mg x = none) (hv : bootBuiltins x = some (.builtin "sorted")) (hf : Gl X g) (ha : AX X true [e] u)
    (hn : x ≠ "__name__" := by decide) (hdb : (x == ("__debug__" : PySem.Str)) = false := by decide) (hdg : (g == ("__debug__" : PySem.Str)) = false := by decide)
    (he : backTo pos (starEach [e] X.env) = (false, eval e X.env) :: backTo pos (starEach [] X.env) := by rfl) (hpl : (backTo pos (starEach [e] X.env)).any (·.1) = false := by rfl)
    (hall : (backToKw pos (keywordEach [⟨some ("key" : PySem.Str), .Name g p2, kpos⟩] X.env)).all (·.1.isSome) = true := by rfl) (hnone : (backToKw pos (keywordEach [⟨some ("key" : PySem.Str), .Name g p2, kpos⟩] X.env)).any (·.1.isNone) = false := by rfl)
    (hks : (backToKw pos (keywordEach [⟨some ("key" : PySem.Str), .Name g p2, kpos⟩] X.env)).filterMap (·.1) = [Str.ofString "key"] := by rfl) : EF X (.Call (.Name x p) [e] [⟨some ("key" : PySem.Str), .Name g p2, kpos⟩] pos) (dSortK φ u) := by
  obtain ⟨f, fd, ps, h1, h2, h3, h4, F⟩ := F
  exact PE.imp (pe_callBK (cr_sortK h3 (by have := r.un; omega) (fun vs H Q => F.len vs H Q E0) (fun s H us vs Q => F.run X.A.in1.in1 X.stack s H ⟨us, []⟩ us vs Q E0 r.in1.in1)) hg hm hv ha (pk_cons (pe_glob (v := .ref f) hf h1 rfl hdg) pk_nil) hn hdb he hpl hall hnone hks) fun σ H Q h => rd_sortK σ H Q h
end
/-- x = [.. for ..], the new list in the store -/
theorem S.lcNew {X : Cx} {pos : Pos} {i : Nat} {y : PySem.Str} {py lpos : Pos} {elt tgt iter : Expr} {ifs : List Expr} {scope : Scope} {di : DI} {vs tl : List Nat} {own : List (PySem.Str × Nat)} {g : DG} {tt : DT} {te : DE} (hc : X.calm = true) (hN : X.N.Nodup) (hy : X.N[i]? = some y) (hyl : X.env.scope.names.lookup y = some .local)
    (hsw : swapsWith (.ListComp elt [⟨tgt, iter, ifs, 0⟩] scope lpos) (some (.Name y py)) pos.line X.env = pure true) (hi : IX X true tgt iter di) (ok : BlkOk X.N X.env.scope scope own)
    (hg : ∀ (s : Shared) (H : Hp) (C : Addr) (cl : List (PySem.Str × Addr)) (fp : List Addr), GX (X.blk s H scope (compEnvC scope cl C X.env) fp) tgt tl g)
    (ht : ∀ (s : Shared) (H : Hp) (C : Addr) (cl : List (PySem.Str × Addr)) (fp : List Addr), TsX (X.blk s H scope (compEnvC scope cl C X.env) fp) ifs tt)
    (he : ∀ (s : Shared) (H : Hp) (C : Addr) (cl : List (PySem.Str × Addr)) (fp : List Addr), EX (X.blk s H scope (compEnvC scope cl C X.env) fp) false elt te)
    (hts : ∀ i ∈ tl, i ∈ own.map (·.2) := by decide) (hs : ∀ x, foldedSetIterable iter X.env x = pure x := by intro _; rfl) (hvs : vs = own.map (·.2) := by rfl) : SX X (.Assign [.Name y py] (.ListComp elt [⟨tgt, iter, ifs, 0⟩] scope lpos) pos) (sAsg (gNm i) (dNew (dLc di vs g tt te))) := by
  subst hvs
  exact PS.imp (ps_setLc (wi := rdI X.K (mX X) true di) (g := rdG X.K (mX X) tl g) (tt := rdT X.K (mX X) tt) (te := rdX X.K (mX X) false te) hc hN hy hyl hsw hi ok hg ht he hs) fun E σ H h => by
    obtain ⟨Z, α, β, env, S, f, S', R, e1, q⟩ := h
    unfold sAsg dNew at e1
    obtain ⟨⟨x0, S0⟩, ex0, e1⟩ := Option.bind_eq_some_iff.mp e1
    obtain ⟨⟨x, S1⟩, ex, e0⟩ := Option.bind_eq_some_iff.mp ex0
    obtain ⟨c, ec, e2⟩ := Option.map_eq_some_iff.mp e0
    cases e2
    obtain ⟨env', eg, e1⟩ := Option.map_eq_some_iff.mp e1
    cases e1
    refine rd_lc hts σ H _ ⟨Z, α, β, env, S, x, S1, R, ex, fun a o c' H1 β1 R1 A1 n1 n2 e2 co => ?_⟩
    subst e2
    have ec' := celD_cell ⟨_, _, _, co⟩ ec
    subst ec'
    have R2 := R1.pushRef (fun z => R.zlive a z n1) n2 co
    have hb : (β1 ++ [a])[S1.length]? = some a := by
      rw [← R1.blen, List.getElem?_append_right (Nat.le_refl _)]
      simp
    have A2 : Adv (Wb β) β H (β1 ++ [a]) H1 := ⟨by
      obtain ⟨nw, e3, h3⟩ := A1.pre
      refine ⟨nw ++ [a], by rw [e3, List.append_assoc], fun b hb => ?_⟩
      rcases List.mem_append.mp hb with z | z
      · exact h3 b z
      · have := List.mem_singleton.mp z
        rw [this]
        exact n1, A1.keep, A1.live, A1.frz⟩
    unfold gNm at eg
    split at eg
    · rename_i hl
      cases eg
      exact q _ (β1 ++ [a]) _ H1 (R2.setVal hl (.ref hb)) A2.ws fun j b e => .inl ⟨j, drop1_sub j b e⟩
    · cases eg
end Rf
end
section
set_option maxHeartbeats 2000000
/-! RgA: t.index(k) of a tuple of whole numbers. -/
namespace Rf
open PySem PySem.Spec PyProof.Rows L2
def rTix (K : PySem.W.Frag) : V → List V → Hp → VK → Prop := fun x xs H Q => ∃ (p : Addr) (ns : List Int) (k : Int), x = .ref p ∧ xs = [.int k] ∧ SqT K H p (ns.map V.int) ∧ k ∈ ns ∧ Q (.int (ns.idxOf k : Nat)) H
section
variable {X : Cx} {b : Bool} {o e : Expr} {to te : TE} {apos pos : Pos} {t u : DE}
theorem mt_tix : MtR X "tuple.index" (rTix X.K) := by
  intro pins s σ H x xs v us Q I rx rs h
  obtain ⟨p, ns, k, rfl, rfl, hq, hk, q⟩ := h
  obtain rfl : v = .ref p := rx
  obtain ⟨u, rfl, t, rfl⟩ := vals1 rs
  obtain ⟨its, r, pl, hz⟩ := I.tuple hq
  have hl : ns.length = its.length := by rw [← r.length, List.length_map]
  refine SeqAt.call_tuple_index (vs := its) (ks := ns) (k := k) pl ⟨hl.symm, fun j h1 h2 => ?_⟩ hk ⟨.int (ns.idxOf k : Nat), H, I.tok _, ⟨_, rfl⟩, q⟩
  obtain ⟨w, hw, t', hw'⟩ := r.get (i := j) (x := .int ns[j]) (by simp [h2])
  rw [List.getElem?_eq_getElem h1] at hw
  rw [Option.some.inj hw, hw']
  have := SeqAt.EqAt.int_int (A := X.A.in1) (s := s) ns[j] t' k t
  rw [show (ns[j] == k) = decide (ns[j] = k) by by_cases h : ns[j] = k <;> simp [h]] at this
  exact this
theorem pe_tix (ho : PE X o to) (he : PE X e te)
    (hs : starEach [e] X.env = [(false, eval e X.env)] := by rfl) (hbase : attributeBase o "index" X.env (eval o X.env) = eval o X.env := by rfl) (hline : (apos.endLine == pos.line) = true := by rfl) :
    PE X (.Call (.Attribute o "index" apos) [e] [] pos) (fun σ H Q => to σ H fun x H1 => (∃ a O xs, x = .ref a ∧ TupAt X.K O H1 a xs) ∧ te σ H1 fun y H2 => rTix X.K x [y] H2 Q) := by
  constructor
  intro pins s σ H Q I h
  refine PySem.Call_method1 hbase hs hline (thn (ho.run pins s σ H _ I h) fun v s1 ⟨x, H1, I1, r1, ⟨a, O, xs, ex, hq⟩, q1⟩ => ?_)
  subst ex
  obtain rfl : v = .ref a := r1
  obtain ⟨its, rv, pl, hz⟩ := I1.tuple hq.sq
  refine ⟨"tuple", _, F.plainAttrs_tuple, F.slot_tuple_index, F.type_tuple_index, pl.typeIs, ?_, Calls.callWith_builtin rfl (Calls.evalArgs_plain (Calls.spliced_cons ?_))⟩
  · intro z q
    cases q
    rcases hq with ⟨⟨o, h, hd⟩, _⟩ | ⟨o, its', n, h1, h2, h3, _⟩
    · exact ⟨o, (I1.hok _ _ h).1, hd⟩
    · exact ⟨o, I1.kIn a o h1, h3⟩
  exact thn (he.run pins s1 σ H1 _ I1 q1) fun u s2 ⟨y, H2, I2, r2, q2⟩ => Calls.spliced_nil (mt_tix pins s2 σ H2 (.ref a) [y] (.ref a) [u] Q I2 rfl (.cons r2 .nil) q2)
end
/-- the first place of a whole number in a tuple -/
def idxT (_ : Sto) (x y : D) : Option D := match x, y with
  | .tup xs, .int k => (intsD xs).bind fun ns => if k ∈ ns then some (.int (ns.idxOf k : Nat)) else none
  | _, _ => none
section
variable {X : Cx} {b : Bool} {eo e : Expr} {to t : DE} {apos pos : Pos}
theorem E.tindex (ho : EX X true eo to) (he : EX X true e t)
    (hs : starEach [e] X.env = [(false, eval e X.env)] := by rfl) (hbase : attributeBase eo "index" X.env (eval eo X.env) = eval eo X.env := by rfl) (hline : (apos.endLine == pos.line) = true := by rfl) :
    EX X b (.Call (.Attribute eo "index" apos) [e] [] pos) (dOp2 idxT to t) :=
  PE.imp (pe_tix ho he hs hbase hline) fun σ H Q ⟨Z, α, β, env, S, d, S', R, e1, q⟩ => by
    unfold dOp2 at e1
    obtain ⟨⟨x, S1⟩, ex, e1b⟩ := Option.bind_eq_some_iff.mp e1
    obtain ⟨⟨y, S2⟩, ey, e1c⟩ := Option.bind_eq_some_iff.mp e1b
    obtain ⟨z, ez, e2⟩ := Option.map_eq_some_iff.mp e1c
    clear e1 e1b e1c
    obtain ⟨e2, e4⟩ := Prod.mk.inj e2
    subst e2 e4
    replace ez : idxT S2 x y = some z := ez
    unfold idxT at ez
    split at ez
    · rename_i xs k
      obtain ⟨ns, en, ez2⟩ := Option.bind_eq_some_iff.mp ez
      split at ez2
      · rename_i hk
        cases ez2
        have ex2 := intsD_eq en
        subst ex2
        have get : ∀ {β : List Addr} {H : Hp} {v : V}, Res X.K (mX X) Z α β H true (.tup (ns.map .int)) v → ∃ a, v = .ref a ∧ TupAt X.K (Oo Z α β) H a (ns.map V.int) := by
          intro β H v r
          rcases r with r | ⟨_, i, a, c, o, h1, h2, h3, h4, h5⟩
          · cases r with
            | tup h1 h2 => have := h2.ints; subst this; exact ⟨_, rfl, h1⟩
          · cases h3 <;> cases h4
        refine ⟨Z, α, β, env, S, .tup (ns.map .int), S1, R, ex, fun v H1 β1 R1 A1 r1 => ⟨?_, ?_⟩⟩
        · obtain ⟨a, rfl, h⟩ := get r1
          exact ⟨a, _, _, rfl, h⟩
        · refine ⟨Z, α, β1, env, S1, .int k, _, R1, ey, fun w H2 β2 R2 A2 r2 => ?_⟩
          obtain ⟨a, rfl, h⟩ := get (r1.adv R1 A2)
          exact ⟨a, ns, k, rfl, by rw [r2.int], h.sq, hk, q _ H2 β2 R2 (A1.trb A2) (.inl (.int _))⟩
      · cases ez2
    · cases ez
end
end Rf
end
section
set_option maxHeartbeats 3200000
/-! RgB: set(xs) of a list or a tuple, whatever is put in; sets of numbers and texts. -/
namespace RgB
open PySem PySem.Spec PyProof.Rows L2
abbrev so0 (w : World) : Obj := { cls := .type "set", dict := none, data := .set #[] 0 (.fresh 0 0 (!w.params.followText "set-order")) }
section
variable {P : Program} {w : World} {A : Around} {E : Value → Shared → Prop} {s : Shared}
/-- the loop that puts in what is walked; J i: the set has got the first i -/
theorem fill {I : Addr} {fp wr : List Addr} {G : Array GenState → Array GenState → Prop} {n : Nat} {Pv : Nat → Value → Prop} {St : Nat → Shared → Prop} {R : Result → Shared → Prop} (W : WalksS P w A.in1 I fp wr G n Pv St) (T : Addr) (nT : T ∉ fp) (J : Nat → Heap → Prop)
    (kp : ∀ i h h', J i h → (∀ b o, h.get? b = some o → b ∉ wr → h'.get? b = some o) → J i h')
    (ad : ∀ (i : Nat) (v : Value) (s : Shared) (E' : Value → Shared → Prop) (Q : Bool → Shared → Prop), i < n → Pv i v → J i s.heap → (∀ b h' tk, s.toks ≤ tk → Heap.SameBut T s.heap h' → J (i + 1) h' → Q b { s with heap := h', toks := tk }) → wpAny (model P w) A.in1 (setAdd T v) Q E' s) :
    ∀ (d i : Nat) (s : Shared), n - i = d → i ≤ n → St i s → J i s.heap → (∀ s', Moved (T :: wr) G s s' → J n s'.heap → R (.ok (.ret .none)) s') → codeAny (model P w) A (.builtin "set.update.loop" ⟨[.ref T, .ref I], []⟩) R s := by
  have sub1 : ∀ b ∈ wr, b ∈ T :: wr := fun b z => List.mem_cons_of_mem _ z
  intro d
  induction d with
  | zero =>
    intro i s e1 e2 st j q
    obtain rfl : i = n := by omega
    refine codeAny_builtin F.entry_set_update_loop ?_; rw [Around.under_plainId F.plain_set_update_loop _]
    change wpAny _ A.in1 (pyNext (.ref I) >>= _) _ _ s
    refine wpAny_bind (W.done s _ _ st fun s' mv => ?_); change wpAny _ A.in1 (ret Value.none) _ _ s'
    exact wpAny_pure (q s' (mv.mono sub1) (kp _ _ _ j fun b o z nb => mv.heap b o nb z))
  | succ d ih =>
    intro i s e1 e2 st j q
    have lt : i < n := by omega
    refine codeAny_builtin F.entry_set_update_loop ?_; rw [Around.under_plainId F.plain_set_update_loop _]
    change wpAny _ A.in1 (pyNext (.ref I) >>= _) _ _ s
    refine wpAny_bind (W.item i s _ _ lt st fun v s' pv st' mv => ?_); change wpAny _ A.in1 (holding [v] (setAdd T v) >>= _) _ _ s'
    refine wpAny_bind (wpAny_holding (ad i v s' _ _ lt pv (kp _ _ _ j fun b o z nb => mv.heap b o nb z) fun b h' tk tl sb j' => ?_))
    have ne : ∀ b, b ∈ fp → b ≠ T := fun b hb z => nT (z ▸ hb)
    refine wpAny_pure ⟨plainId_quiet F.plain_set_update_loop _, ih (i + 1) _ (by omega) lt (W.frame _ s' _ _ st' tl fun b hb o z => (sb.2 b (ne b hb)).trans z) j' fun s2 mv2 j2 => ?_⟩
    refine q s2 (Moved.trans W.gtrans ((mv.mono sub1).then_heap tl fun b o hb z => ?_) mv2) j2
    exact (sb.2 b (fun z => hb (z ▸ List.mem_cons_self))).trans z

/-- what a new set is, empty -/
abbrev hp0 (w : World) (s : Shared) : Heap := s.heap.push (so0 w)
theorem sub_t1 : isSubtype (.type "tuple") (.type "set") = pure false := by rw [isSubtype_type]; kernel_rfl
theorem sub_t2 : isSubtype (.type "tuple") (.type "frozenset") = pure false := by rw [isSubtype_type]; kernel_rfl
/-- the things of a list or a tuple are put into a new set, J tells of -/
theorem call_set {l : Addr} {us : Array Value} {tp : Bool} {Q : Value → Shared → Prop} (J : Nat → Heap → Prop) (hh : A.handled = none) (hl : if tp = true then s.heap.IsTuple l us else s.heap.IsList l us)
    (kp : ∀ i h h', J i h → (∀ b o, h.get? b = some o → b ≠ s.heap.objs.size + 1 → h'.get? b = some o) → J i h')
    (j0 : ∀ h, h.get? s.heap.objs.size = some (so0 w) → (∀ b o, s.heap.get? b = some o → h.get? b = some o) → J 0 h)
    (ad : ∀ (i : Nat) (v : Value) (s1 : Shared) (E' : Value → Shared → Prop) (Q : Bool → Shared → Prop), i < us.size → us[i]? = some v → J i s1.heap → (∀ b h' tk, s1.toks ≤ tk → Heap.SameBut s.heap.objs.size s1.heap h' → J (i + 1) h' → Q b { s1 with heap := h', toks := tk }) → wpAny (model P w) A.in1.in1.in1 (setAdd s.heap.objs.size v) Q E' s1)
    (fin : ∀ (h' : Heap) (tk : Nat), J us.size h' → (∀ b o, s.heap.get? b = some o → h'.get? b = some o) → Q (.ref s.heap.objs.size) { s with heap := h', toks := tk }) :
    wpAny (model P w) A (call (.type "set") [.ref l]) Q E s := by
  obtain ⟨c, tl, hmro⟩ := F.called_set.mro
  have z1 := F.called_set.made
  have z2 := F.called_set.sub
  refine wpAny_call (codeAny_of_tree ?_); change wpAny _ _ (callAny (.type "set") _) _ _ _
  refine wpAny_pure ⟨Code.quiet_builtin _ (by decide +kernel), codeAny_builtin F.entry_type_call ?_⟩; rw [Around.under_plain (weight_type_call_type "set" [.ref l] []) rfl]
  have z3 := F.called_set.notType
  have z4 := F.called_set.canCreate
  have z5 := F.typeCall_set_1 (.ref l)
  repeat (any_goals (first | assumption | wp_step))
  refine codeAny_mono (code_set_led1 (.ref l) (E := E) (Q₁ := fun ob s1 => ob = .ref s.heap.objs.size ∧ s1 = { s with heap := hp0 w s }) ⟨rfl, rfl⟩) fun r s1 hr => ?_
  cases r with
  | error e => exact hr
  | ok fl =>
    cases fl with
    | ret ob =>
      obtain ⟨rfl, rfl⟩ := hr
      have g0 : (hp0 w s).get? s.heap.objs.size = some (so0 w) := Heap.get?_push_size _ rfl
      have ty : Shared.TypeIs { s with heap := hp0 w s } (.ref s.heap.objs.size) "set" := ⟨_, g0, rfl⟩
      have z6 := F.called_set.init.lookup
      have z7 := F.called_set.init.bind (.ref s.heap.objs.size)
      repeat (any_goals (first | assumption | wp_step))
      refine codeAny_mono (codeAny_call_builtin (R := wants (fun r s2 => r = .none ∧ ∃ h' tk, s2 = { s with heap := h', toks := tk } ∧ J us.size h' ∧ (∀ b o, s.heap.get? b = some o → h'.get? b = some o)) E) F.called_set.init.plain F.entry_set_init (check_set_init_1 ty ?_)) fun r2 s2 hr2 => ?_
      · have sz : (hp0 w s).objs.size = s.heap.objs.size + 1 := Heap.size_push ..
        have ls : l < s.heap.objs.size := by cases tp <;> (obtain ⟨o, ho, _⟩ := hl; exact Heap.lt_size ho)
        have h3 : A.in1.in1.in1.handled = none := by simp [hh]
        have ni : l ≠ (hp0 w s).objs.size := by rw [sz]; exact Nat.ne_of_lt (Nat.lt_succ_of_lt ls)
        have nT : s.heap.objs.size ∉ [(hp0 w s).objs.size, l] := fun z => by
          rcases List.mem_cons.mp z with z | z
          · rw [sz] at z; exact Nat.ne_of_lt (Nat.lt_succ_self _) z
          · exact Nat.ne_of_gt ls (List.mem_singleton.mp z)
        have goR : ∀ (it : Obj) (St : Nat → Shared → Prop), (∀ v, it.data ≠ .cell v) → it.isFreed = false → WalksS P w A.in1.in1.in1 (hp0 w s).objs.size [(hp0 w s).objs.size, l] [(hp0 w s).objs.size] (fun a b => b = a) us.size (fun i v => us[i]? = some v) St → St 0 { s with heap := (hp0 w s).push it } → codeAny (model P w) A.in1.in1 (.builtin "set.update.loop" ⟨[.ref s.heap.objs.size, .ref (hp0 w s).objs.size], []⟩) (fun r s' => r = .ok (.ret .none) ∧ ∃ h' tk, s' = { s with heap := h', toks := tk } ∧ J us.size h' ∧ ∀ b o, s.heap.get? b = some o → h'.get? b = some o) { s with heap := (hp0 w s).push it } := by
          intro it St _ fr W st
          refine fill W s.heap.objs.size nT J (fun i h h' j k => kp i h h' j fun b o z nb => k b o z (by rw [sz]; simp [nb])) (fun i v s1 E' Q' lt pv j q => ad i v s1 E' Q' lt pv j q) _ 0 _ rfl (Nat.zero_le _) st (j0 _ (Heap.get?_push_of_some _ g0) fun b o z => Heap.get?_push_of_some _ (Heap.get?_push_of_some _ z)) fun s' mv j => ?_
          obtain ⟨h', g2, d2, t2, o2⟩ := s'
          have e1 : g2 = s.gens := mv.gens
          have e2 : d2 = s.drawn := mv.drawn
          have e3 : o2 = s.os := mv.os
          subst e1 e2 e3
          refine ⟨rfl, h', t2, rfl, j, fun b o z => ?_⟩
          have lb : b < s.heap.objs.size := Heap.lt_size z
          refine mv.heap b o (fun z => ?_) (Heap.get?_push_of_some _ (Heap.get?_push_of_some _ z))
          rcases List.mem_cons.mp z with z | z
          · exact Nat.ne_of_lt lb z
          · rw [List.mem_singleton.mp z, sz] at lb
            exact Nat.lt_irrefl _ (Nat.lt_of_succ_lt lb)
        cases tp with
        | false =>
          have hl : s.heap.IsList l us := by simpa using hl
          obtain ⟨⟨c1, c2, c3, c4⟩, y1, y2, nl, y3⟩ := id hl
          simp only at y2 y3; subst y2 y3
          have y4 : (hp0 w s).get? l = some { cls := .type "list", dict := c2, data := .seq us nl, slots := c4 } := Heap.get?_push_of_some _ y1
          have x1 := F.sub_list_set; have x2 := F.sub_list_frozenset
          have x3 : (Value.type "list" == Value.type "dict") = false := by decide
          have hl1 : (hp0 w s).IsList l us := ⟨_, y4, rfl, nl, rfl⟩
          unfold Builtin.«set.__init__» noKeywords Builtin.Frozenset.updateFrom; generalize hPI : pyIter = PI
          wp_walk
          subst hPI
          refine wpAny_pyIter_list hl1 (wpAny_bind (wpAny_runValue ?_))
          refine codeAny_mono (goR _ _ (fun v z => nomatch z) rfl (Walks.list h3 _ l ni us).toS ⟨⟨_, Heap.get?_push_size _ rfl, rfl, rfl⟩, hl1.push _⟩) fun r s' hr => ?_
          obtain ⟨rfl, h', tk, rfl, j, k⟩ := hr
          change wpAny _ _ _ _ _ _
          refine wpAny_pure ?_
          change wpAny _ _ (ret Value.none) _ _ _
          exact wpAny_pure ⟨rfl, h', tk, rfl, j, k⟩
        | true =>
          have hl : s.heap.IsTuple l us := by simpa using hl
          obtain ⟨⟨c1, c2, c3, c4⟩, y1, y2, nl, y3⟩ := id hl
          simp only at y2 y3; subst y2 y3
          have y4 : (hp0 w s).get? l = some { cls := .type "tuple", dict := c2, data := .seq us nl, slots := c4 } := Heap.get?_push_of_some _ y1
          have x1 := sub_t1; have x2 := sub_t2
          have x3 : (Value.type "tuple" == Value.type "dict") = false := by decide
          have hl1 : (hp0 w s).IsTuple l us := ⟨_, y4, rfl, nl, rfl⟩
          unfold Builtin.«set.__init__» noKeywords Builtin.Frozenset.updateFrom; generalize hPI : pyIter = PI
          wp_walk
          subst hPI
          refine wpAny_pyIter_tuple hl1 (wpAny_bind (wpAny_runValue ?_))
          refine codeAny_mono (goR _ _ (fun v z => nomatch z) rfl (Walks.tuple h3 _ l ni us).toS ⟨⟨_, Heap.get?_push_size _ rfl, rfl, rfl⟩, hl1.push _⟩) fun r s' hr => ?_
          obtain ⟨rfl, h', tk, rfl, j, k⟩ := hr
          change wpAny _ _ _ _ _ _
          refine wpAny_pure ?_
          change wpAny _ _ (ret Value.none) _ _ _
          exact wpAny_pure ⟨rfl, h', tk, rfl, j, k⟩
      · cases r2 with
        | error e => exact hr2
        | ok f2 =>
          cases f2 with
          | ret r =>
            obtain ⟨rfl, h', tk, rfl, j, k⟩ := hr2
            repeat (any_goals (first | assumption | wp_step))
            exact fin _ _ j k
          | _ => exact hr2.elim
    | _ => exact hr.elim
end
end RgB
end
section
set_option maxHeartbeats 1600000
/-! RgC: sets of whole numbers and texts: what stands there, what is put in. -/
namespace RgC
open PySem PySem.Spec PyProof.Rows L2
open PySem.W (EachIs)
theorem each_perm {α β : Type} {R : α → β → Prop} {xs xs' : List α} (p : xs'.Perm xs) : ∀ {ys : List β}, EachIs R xs ys → ∃ ys', EachIs R xs' ys' ∧ ys'.Perm ys := by
  induction p with
  | nil => intro ys h; exact ⟨ys, h, .refl _⟩
  | cons a _ ih =>
    intro ys h
    cases h with
    | cons h t =>
      obtain ⟨zs, h1, h2⟩ := ih t
      exact ⟨_, .cons h h1, h2.cons _⟩
  | swap a b l =>
    intro ys h
    cases h with
    | cons h t =>
      cases t with
      | cons h' t => exact ⟨_, .cons h' (.cons h t), .swap _ _ _⟩
  | trans _ _ ih1 ih2 =>
    intro ys h
    obtain ⟨z1, h1, h2⟩ := ih2 h
    obtain ⟨z2, h3, h4⟩ := ih1 h1
    exact ⟨z2, h3, h4.trans h2⟩
theorem each_in {α β : Type} {R : α → β → Prop} : ∀ {xs : List α} {ys : List β}, EachIs R xs ys → ∀ x ∈ xs, ∃ y ∈ ys, R x y
  | _, _, .nil, x, h => by cases h
  | _, _, .cons h t, x, hx => by
    rcases List.mem_cons.mp hx with z | z
    · exact ⟨_, by simp, z ▸ h⟩
    · obtain ⟨y, h1, h2⟩ := each_in t x z
      exact ⟨y, by simp [h1], h2⟩
theorem each_of_in {α β : Type} {R : α → β → Prop} : ∀ {xs : List α} {ys : List β}, EachIs R xs ys → ∀ y ∈ ys, ∃ x ∈ xs, R x y
  | _, _, .nil, x, h => by cases h
  | _, _, .cons h t, x, hx => by
    rcases List.mem_cons.mp hx with z | z
    · exact ⟨_, by simp, z ▸ h⟩
    · obtain ⟨y, h1, h2⟩ := each_of_in t x z
      exact ⟨y, by simp [h1], h2⟩
/-- an entry holds a key -/
def En (P : Program) (w : World) (e : Int × Value) (k : Key) : Prop := ((mixKind P w).is k e.2 = true ∧ e.1 = (mixKind P w).hash k) ∧ e.2.scannable = true
/-- what stands at a: a set that holds just the keys ks, each once -/
def SetG (P : Program) (w : World) (h : Heap) (a : Addr) (ks : List Key) : Prop := ∃ o es ep t, h.get? a = some o ∧ o.ExactSet ∧ o.data = .set es ep t ∧ EachIs (En P w) es.toList ks ∧ ks.Nodup ∧ es.size < scanBound ∧ t.fits es.size = true ∧ Ris t.place.toList ∧
  (w.params.followText "set-order" = true ∨ t.led = true)
section
variable {P : Program} {w : World} {A : Around} {E : Value → Shared → Prop} {s : Shared} {a : Addr} {ks : List Key}
theorem SetG.at {h h' : Heap} (R : SetG P w h a ks) (k : ∀ o, h.get? a = some o → h'.get? a = some o) : SetG P w h' a ks := by
  obtain ⟨o, es, ep, t, ho, r⟩ := R
  exact ⟨o, es, ep, t, k o ho, r⟩
theorem fresh {h : Heap} (ho : h.get? a = some (RgB.so0 w)) : SetG P w h a [] := ⟨_, #[], 0, _, ho, ⟨rfl, rfl, rfl⟩, rfl, .nil, List.nodup_nil, (by decide), (by rfl), List.Pairwise.nil, by
  show _ ∨ (!w.params.followText "set-order") = true
  cases w.params.followText "set-order"
  · exact .inr rfl
  · exact .inl rfl⟩
theorem elems {es : List (Int × Value)} (h : EachIs (En P w) es ks) : ElemsOf (mixKind P w) es := fun e he => by
  obtain ⟨k, _, h1, h2⟩ := each_in h e he
  exact ⟨⟨k, h1⟩, h2⟩
/-- behind what is laid anew -/
theorem tail {gw : Bool → Sem Unit} (hg : ∀ (b : Bool) (s₁ : Shared) (Q' : Unit → Shared → Prop), Q' () s₁ → wpAny (model P w) A (gw b) Q' E s₁) {o : Obj} {es : Array (Int × Value)} {ep : Nat} {t : SetTable} (ho : s.heap.get? a = some o) (hx : o.ExactSet) (hd : o.data = .set es ep t)
    {es1 : Array (Int × Value)} {t1 : SetTable} (en : EachIs (En P w) es1.toList ks) (nd : ks.Nodup) (sz : es1.size < scanBound) (ft : t1.fits es1.size = true) (ri : Ris t1.place.toList) (ld : w.params.followText "set-order" = true ∨ t1.led = true) {dm : Bool} {R : Option Bool → Shared → Prop}
    (q : ∀ h' ks', Heap.SameBut a s.heap h' → SetG P w h' a ks' → ks'.Perm ks → R (some true) { s with heap := h' }) :
    wpAny (model P w) A (do storeSet a es1 t1; if (!dm && t1.tooFull) = true then do { gw (relayAll t1 es1 (SetTable.grown es1.size)).2.2; storeSet a (relayAll t1 es1 (SetTable.grown es1.size)).1 (relayAll t1 es1 (SetTable.grown es1.size)).2.1; pure (some true) } else pure (some true)) R E s := by
  refine wpAny_bind (wpAny_storeSet_of ho hd ?_ (fits_of_scanBound sz))
  have g1 := store_at (es' := es1) (t' := t1) ho hd
  have b1 := Heap.SameBut.update s.heap a (Obj.putSet es1 t1)
  split
  · have p1 := relayAll_perm t1 es1 (SetTable.grown es1.size)
    have p2 := relayAll_fits t1 es1 (SetTable.grown es1.size)
    have p3 := relayAll_ris t1 es1 (SetTable.grown es1.size)
    have p4 := relayAll_led t1 es1 (SetTable.grown es1.size)
    generalize relayAll t1 es1 (SetTable.grown es1.size) = Z at p1 p2 p3 p4 ⊢
    obtain ⟨es2, t2, gv⟩ := Z; dsimp only at p1 p2 p3 p4 ⊢
    have z2 : es2.size = es1.size := by rw [← Array.length_toList, p1.length_eq, Array.length_toList]
    refine wpAny_bind (hg _ _ _ (wpAny_bind (wpAny_storeSet_of g1 rfl ?_ (fits_of_scanBound (by rw [z2]; exact sz)))))
    obtain ⟨ks2, e2, e3⟩ := each_perm p1 en
    exact wpAny_pure (q _ ks2 (b1.trans (Heap.SameBut.update _ a _)) ⟨_, es2, _, t2, store_at (es' := es2) (t' := t2) g1 rfl, hx, rfl, e2, e3.nodup_iff.mpr nd, by rw [z2]; exact sz, p2, p3, ld.imp id fun z => by rw [p4]; exact z⟩ e3)
  · exact wpAny_pure (q _ ks b1 ⟨_, es1, _, t1, g1, hx, rfl, en, nd, sz, ft, ri, ld⟩ (.refl _))
/-- a key is put in -/
theorem add {k : Key} {v : Value} {Q : Bool → Shared → Prop} (R : SetG P w s.heap a ks) (hk : (mixKind P w).is k v = true) (hs : v.scannable = true) (room : ks.length + 1 < scanBound)
    (q : ∀ b h' ks', Heap.SameBut a s.heap h' → SetG P w h' a ks' → (k ∈ ks → ks' = ks) → (k ∉ ks → ks'.Perm (k :: ks)) → Q b { s with heap := h', toks := s.toks + 1 }) : wpAny (model P w) A (setAdd a v) Q E s := by
  obtain ⟨o, es, ep, t, ho, hx, hd, en, nd, sz, ft, ri, ld⟩ := id R
  have hl : es.size = ks.length := by rw [← en.length, Array.length_toList]
  unfold setAdd; refine wpAny_holding (wpAny_bind ((mixKind P w).pyHash hk ?_)); unfold setAddHashed setAddHashedIn
  have el : ElemsOf (mixKind P w) es.toList := elems en
  refine wpAny_holding (wpAny_bind (wpAny_setState_of (s := { s with toks := s.toks + 1 }) ho hd ft ?_)); dsimp only
  rw [byScan_of hs sz el]; simp only [↓reduceIte]; unfold setAddByScan
  refine wpAny_bind (wpAny_bind (wpAny_rule (wpAny_bind (wpAny_setScan_of (s := { s with toks := s.toks + 1 }) hk ho hd ft el ?_))))
  cases hf : List.findIdx? (fun e => (mixKind P w).is k e.2) es.toList with
  | some j =>
    obtain ⟨hj, pj, _⟩ := List.findIdx?_eq_some_iff_getElem.mp hf
    obtain ⟨k2, hk2, ⟨e1, _⟩, _⟩ := each_in en _ (List.getElem_mem hj)
    have : k = k2 := (mixKind P w).inj _ _ _ pj e1
    subst this
    dsimp only
    exact wpAny_pure (wpAny_pure (q _ s.heap ks (Heap.SameBut.refl a s.heap) R (fun _ => rfl) fun z => absurd hk2 z))
  | none =>
    have nk : k ∉ ks := fun z => by
      obtain ⟨e, he, ⟨e1, _⟩, _⟩ := each_of_in en k z
      have c := List.findIdx?_eq_none_iff.mp hf e he
      rw [e1] at c; cases c
    dsimp only
    have gw : ∀ (b : Bool) {s₁ : Shared} {Q' : Unit → Shared → Prop}, Q' () s₁ → wpAny (model P w) A (match b with | true => rule "set.scan.the-table-gave-way" | false => pure ()) Q' E s₁ := fun b s₁ Q' z => by cases b <;> first | exact wpAny_pure z | exact wpAny_rule z
    have p1 := layNew_perm t es ((mixKind P w).hash k) v
    have p2 := layNew_fits t es ((mixKind P w).hash k) v
    have p3 := layNew_ris t es ((mixKind P w).hash k) v ri
    have p4 := layNew_led t es ((mixKind P w).hash k) v
    generalize layNew t es ((mixKind P w).hash k) v = Z at p1 p2 p3 p4 ⊢
    obtain ⟨es1, t1, dm, gv⟩ := Z; dsimp only at p1 p2 p3 p4 ⊢
    rw [Array.toList_push] at p1
    have pc : es1.toList.Perm (((mixKind P w).hash k, v) :: es.toList) := p1.trans (List.perm_append_singleton _ _)
    obtain ⟨ks1, en1, pk⟩ := each_perm pc (.cons (show En P w ((mixKind P w).hash k, v) k from ⟨⟨hk, rfl⟩, hs⟩) en)
    have nd1 : ks1.Nodup := pk.nodup_iff.mpr (List.nodup_cons.mpr ⟨nk, nd⟩)
    have sz1 : es1.size < scanBound := by rw [← Array.length_toList, pc.length_eq, List.length_cons, Array.length_toList, hl]; exact room
    have ld1 : w.params.followText "set-order" = true ∨ t1.led = true := ld.imp id fun z => by rw [p4]; exact z
    have fin : ∀ h' ks', Heap.SameBut a s.heap h' → SetG P w h' a ks' → ks'.Perm ks1 → Q true { s with heap := h', toks := s.toks + 1 } := fun h' ks' sb r p => q true h' ks' sb r (fun z => absurd z nk) fun _ => p.trans pk
    refine wpAny_bind (gw _ ?_)
    split
    · refine wpAny_bind ?_
      rw [hashByValue_scannable 8 hs]
      refine wpAny_pure (tail (s := { s with toks := s.toks + 1 }) ?_ ho hx hd en1 nd1 sz1 ?_ ?_ ?_ fun h' ks' sb r p => ?_)
      · intro b s₁ Q' z; cases b <;> first | exact wpAny_pure z | exact wpAny_rule z
      · first | (split <;> first | exact p2 | exact SetTable.fits_plain_off p2) | exact p2
      · first | (split <;> exact p3) | exact p3
      · first | (split <;> exact ld1) | exact ld1
      · dsimp only; exact wpAny_pure (fin h' ks' sb r p)
    · refine wpAny_bind (wpAny_pure ?_)
      simp only [↓reduceIte]
      refine tail (s := { s with toks := s.toks + 1 }) ?_ ho hx hd en1 nd1 sz1 p2 p3 ld1 fun h' ks' sb r p => ?_
      · intro b s₁ Q' z; cases b <;> first | exact wpAny_pure z | exact wpAny_rule z
      · dsimp only; exact wpAny_pure (fin h' ks' sb r p)
end
end RgC
end
section
set_option maxHeartbeats 1600000
/-! RgD: sorted(set(xs)): numbers and texts. -/
namespace RgC
open PySem PySem.Spec PyProof.Rows L2
open PySem.W (EachIs SortsAt Sortable AllAlike dataLe list_sort_vals sortVals_data sortVals_length sortVals sortingHeap sortingHeap_old each_map dataKind)
theorem each_mono {α β : Type} {R S : α → β → Prop} (h : ∀ a b, R a b → S a b) : ∀ {xs : List α} {ys : List β}, EachIs R xs ys → EachIs S xs ys
  | _, _, .nil => .nil
  | _, _, .cons q t => .cons (h _ _ q) (each_mono h t)
section
variable {P : Program} {w : World} {A : Around} {E : Value → Shared → Prop} {s : Shared} {a : Addr}
/-- sorted of a set, whatever it holds -/
theorem sortedS {γ : Type} {enc : γ → PyData} {F : Value → γ → Prop} {es : Array (Int × Value)} {ep : Nat} {t : SetTable} {gs : List γ} {R : Value → Shared → Prop} (hh : A.handled = none) (ha : SetAt s.heap a es ep t) (ft : t.fits es.size = true) (sz : es.size < scanBound) (ri : Ris t.place.toList)
    (ld : w.params.followText "set-order" = true ∨ t.led = true) (hF : EachIs (fun v g => F v g ∧ ∃ as, Reads s.heap v (enc g) as) (es.toList.map (·.2)) gs) (hal : AllAlike (gs.map enc)) (hk : Sortable (gs.map enc)) (hu : ∀ b, b ∈ gs → A.units + 2 + (enc b).depth < cLine)
    (q : ∀ (s' : Shared) (p : Addr) (out : List Value) (c : Nat) (gs' : List γ), (∀ b o, s.heap.get? b = some o → s'.heap.get? b = some o) → s'.gens = s.gens → s'.os = s.os → s.heap.objs.size ≤ p → s'.heap.get? p = some (seqObj "list" (List.toArray out) c) → gs'.Perm gs → EachIs F out (gs'.mergeSort (dataLe false enc)) → R (.ref p) s') :
    wpAny (model P w) A (call (.builtin "sorted") [.ref a]) R E s := by
  have hlen : gs.length = es.size := by rw [← hF.length, List.length_map, Array.length_toList]
  refine Calls.call_function_entry kind_sorted plain_sorted entry_sorted (args_sorted1 _) ?_; unfold Builtin.«sorted»
  refine wpAny_bind (m := checkCount "sorted" 1 1 _) (wpAny_pure (wpAny_bind (collect_set (A := A.in1) hh ha ft sz ri ld fun s1 vs k1 hz g1 o1 pm => ?_)))
  obtain ⟨gs', e1, e2⟩ := each_perm pm hF
  have lv : vs.length ≤ sizeLine := by rw [e1.length, e2.length_eq, hlen]; exact fits_of_scanBound sz
  refine wpAny_bind (wpAny_newList ?_ lv)
  have gl : (s1.heap.push (seqObj "list" vs.toArray 0)).get? s1.heap.objs.size = some (seqObj "list" vs.toArray 0) := Heap.get?_push_size _ rfl
  have old : ∀ b o, s.heap.get? b = some o → (sortingHeap (s1.heap.push (seqObj "list" vs.toArray 0)) s1.heap.objs.size vs).get? b = some o := fun b o z => by
    have z1 := k1 b o z
    exact sortingHeap_old (Nat.ne_of_lt (Heap.lt_size z1)) (Heap.get?_push_of_some _ z1)
  have e3 : EachIs (fun v g => ∃ as, Reads (sortingHeap (s1.heap.push (seqObj "list" vs.toArray 0)) s1.heap.objs.size vs) v (enc g) as) vs gs' := each_mono (fun v g ⟨_, as, z⟩ => ⟨as, PyProof.Rows.Reads.keeps old z⟩) e1
  have hal' : AllAlike (gs'.map enc) := fun d hd d' hd' => hal d ((e2.map enc).mem_iff.mp hd) d' ((e2.map enc).mem_iff.mp hd')
  have hk' : Sortable (gs'.map enc) := by
    rcases hk with z | z
    · exact .inl fun d hd => z d ((e2.map enc).mem_iff.mp hd)
    · exact .inr fun d hd => z d ((e2.map enc).mem_iff.mp hd)
  refine wpAny_bind (wpAny_holding (wpAny_call_entry slot_list_sort ⟨_, gl, rfl⟩ entry_list_sort ?main (args_list_sort _)))
  case main =>
    refine list_sort_vals (s := { s1 with heap := s1.heap.push (seqObj "list" vs.toArray 0) }) gl (SortsAt.data (s := { s1 with heap := sortingHeap (s1.heap.push (seqObj "list" vs.toArray 0)) s1.heap.objs.size vs }) (each_map (R := fun v d => ∃ as, Reads (sortingHeap (s1.heap.push (seqObj "list" vs.toArray 0)) s1.heap.objs.size vs) v d as) enc e3) hal' hk' fun d hd => ?_) lv ?_
    · obtain ⟨b, hb, rfl⟩ := List.mem_map.mp hd
      exact hu b (e2.mem_iff.mp hb)
    · obtain ⟨c, hc⟩ := sortedHeap_at (vs := vs) (out := (sortVals (dataKind (sortingHeap (s1.heap.push (seqObj "list" vs.toArray 0)) s1.heap.objs.size vs) (gs'.map enc)) false vs vs).toArray) gl
      refine ⟨_, rfl, wpAny_pure ⟨_, rfl, q _ s1.heap.objs.size _ c gs' (fun b u z => ?_) g1 o1 hz hc e2 (sortVals_data false (each_mono (fun _ _ h => h.1) e1) e3 hal')⟩⟩
      have z1 := k1 b u z
      have lt := Heap.lt_size z1
      rw [show (sortedHeap (s1.heap.push (seqObj "list" vs.toArray 0)) s1.heap.objs.size vs _).get? b = (s1.heap.push (seqObj "list" vs.toArray 0)).get? b from sortedHeap_old (Nat.ne_of_lt lt) (by rw [size_push']; exact Nat.lt_succ_of_lt lt)]
      exact Heap.get?_push_of_some _ z1
end
end RgC
end
section
set_option maxHeartbeats 1600000
/-! RgE: sorted(set(xs)) as a rule. -/
namespace RgC
open PySem PySem.Spec PyProof.Rows L2 Rf
open PySem.W (EachIs SortsAt Sortable AllAlike dataLe)
def encK : Key → PyData
  | .inl i => .int i
  | .inr x => .str x
def kD : Key → D
  | .inl i => .int i
  | .inr x => .str x
def sortKs (ks : List Key) : List Key := ks.mergeSort (dataLe false encK)
theorem dle_def (a b : Key) : dataLe false encK a b = !lexLt itemOrd (PySem.W.keyToks (encK b)) (PySem.W.keyToks (encK a)) := rfl
theorem dle_tot (a b : Key) : (dataLe false encK a b || dataLe false encK b a) = true := by
  rw [dle_def, dle_def]
  cases h : lexLt itemOrd (PySem.W.keyToks (encK b)) (PySem.W.keyToks (encK a)) with
  | false => rfl
  | true =>
    cases h2 : lexLt itemOrd (PySem.W.keyToks (encK a)) (PySem.W.keyToks (encK b)) with
    | false => rfl
    | true =>
      have := lex_trans _ _ _ h h2
      rw [lex_irrefl] at this
      cases this
theorem dle_tr (a b c : Key) (h1 : dataLe false encK a b = true) (h2 : dataLe false encK b c = true) : dataLe false encK a c = true := by
  rw [dle_def] at *
  cases h : lexLt itemOrd (PySem.W.keyToks (encK c)) (PySem.W.keyToks (encK a)) with
  | false => rfl
  | true =>
    rcases lex_negTrans _ (PySem.W.keyToks (encK b)) _ h with z | z
    · rw [z] at h2; cases h2
    · rw [z] at h1; cases h1
/-- of one kind -/
def kindK : Key → Bool
  | .inl _ => true
  | .inr _ => false
def oneK (ks : List Key) : Bool := ks.all kindK || ks.all fun k => !kindK k
theorem dle_anti {a b : Key} (hk : kindK a = kindK b) (h1 : dataLe false encK a b = true) (h2 : dataLe false encK b a = true) : a = b := by
  cases a with
  | inl i =>
    cases b with
    | inl j =>
      have e1 := congrFun (congrFun (PySem.W.dataLe_int fun i : Int => i) i) j
      have e2 := congrFun (congrFun (PySem.W.dataLe_int fun i : Int => i) j) i
      have e1 : dataLe false encK (.inl i) (.inl j) = decide (i ≤ j) := e1
      have e2 : dataLe false encK (.inl j) (.inl i) = decide (j ≤ i) := e2
      rw [e1] at h1
      rw [e2] at h2
      have h1 := of_decide_eq_true h1
      have h2 := of_decide_eq_true h2
      rw [show i = j by omega]
    | inr y => cases hk
  | inr x =>
    cases b with
    | inl j => cases hk
    | inr y =>
      have e1 := congrFun (congrFun (PySem.W.dataLe_str fun i : Str => i) x) y
      have e2 := congrFun (congrFun (PySem.W.dataLe_str fun i : Str => i) y) x
      have e1 : dataLe false encK (.inr x) (.inr y) = decide (x.cps.toList ≤ y.cps.toList) := e1
      have e2 : dataLe false encK (.inr y) (.inr x) = decide (y.cps.toList ≤ x.cps.toList) := e2
      rw [e1] at h1
      rw [e2] at h2
      have h3 : x.cps.toList = y.cps.toList := List.le_antisymm (of_decide_eq_true h1) (of_decide_eq_true h2)
      have : x = y := by
        cases x; cases y
        simp only at h3
        rw [Array.toList_inj.mp h3]
      rw [this]
theorem oneK_mem {ks : List Key} (h : oneK ks = true) {a b : Key} (ha : a ∈ ks) (hb : b ∈ ks) : kindK a = kindK b := by
  unfold oneK at h
  rw [Bool.or_eq_true, List.all_eq_true, List.all_eq_true] at h
  rcases h with h | h
  · rw [h a ha, h b hb]
  · have h1 := h a ha
    have h2 := h b hb
    rw [Bool.not_eq_true'] at h1 h2
    rw [h1, h2]
theorem sort_same {xs ys : List Key} (h : oneK xs = true) (p : xs.Perm ys) : sortKs xs = sortKs ys := by
  refine List.Perm.eq_of_pairwise (le := fun a b => dataLe false encK a b = true) (fun a b ha hb h1 h2 => ?_) (List.pairwise_mergeSort dle_tr dle_tot xs) (List.pairwise_mergeSort dle_tr dle_tot ys) ((List.mergeSort_perm _ _).trans (p.trans (List.mergeSort_perm _ _).symm))
  exact dle_anti (oneK_mem h ((List.mergeSort_perm _ _).mem_iff.mp ha) (p.mem_iff.mpr ((List.mergeSort_perm _ _).mem_iff.mp hb))) h1 h2
open Classical in
/-- each once -/
noncomputable def dedK : List Key → List Key
  | [] => []
  | k :: ks => if k ∈ ks then dedK ks else k :: dedK ks
theorem dedK_mem {k : Key} : ∀ {ks : List Key}, k ∈ dedK ks ↔ k ∈ ks
  | [] => Iff.rfl
  | x :: ks => by
    by_cases h : x ∈ ks
    · rw [dedK, if_pos h, dedK_mem, List.mem_cons]
      exact ⟨.inr, fun z => z.elim (fun e => e ▸ h) id⟩
    · rw [dedK, if_neg h, List.mem_cons, List.mem_cons, dedK_mem]
theorem dedK_nodup : ∀ (ks : List Key), (dedK ks).Nodup
  | [] => List.nodup_nil
  | x :: ks => by
    by_cases h : x ∈ ks
    · rw [dedK, if_pos h]
      exact dedK_nodup ks
    · rw [dedK, if_neg h]
      exact List.nodup_cons.mpr ⟨fun z => h (dedK_mem.mp z), dedK_nodup ks⟩
theorem alike_kind {a b : Key} (h : kindK a = kindK b) : PySem.W.alike (encK a) (encK b) = true := by
  cases a <;> cases b <;> first | rfl | cases h
/-! ### rules -/
/-- the set that stands at a -/
def SetGO (P : Program) (w : World) (a : Addr) (ks : List Key) : HO := .ext fun h => SetG P w h a ks
theorem setGO_new {w : World} {P : Program} {H : Hp} {h : Heap} {a : Addr} {ks : List Key} (R : SetG P w h a ks) : ObjOk P w H h a (SetGO P w a ks) := by
  have ⟨o, _, _, _, ho, _⟩ := R
  exact ⟨R, ⟨o, ho⟩, fun h1 h2 p k => SetG.at p k⟩
section
variable {X : Cx}
theorem setGO_get {pins : List (Addr × Obj)} {σ : L2.St} {H : Hp} {s : Shared} {a : Addr} {ks : List Key} (I : Inv X pins σ H s) (ha : H a = some (SetGO X.prog X.w a ks)) : SetG X.prog X.w s.heap a ks := (I.hok a _ ha).1
/-- set(xs) -/
def rSetG (K : PySem.W.Frag) (P : Program) (w : World) : List V → Hp → VK → Prop := fun xs H Q => ∃ (l : Addr) (ks : List Key) (tp : Bool), xs = [.ref l] ∧ (if tp = true then SqT K H l (ks.map kV) else SqL K H l (ks.map kV)) ∧ ks.length + 1 < scanBound ∧
  ∀ p ks', H p = none → ks'.Nodup → (∀ k, k ∈ ks' ↔ k ∈ ks) → Q (.ref p) (upd H p (SetGO P w p ks'))
theorem cr_setG (hc : X.calm = true) : CallR X (.type "set") (rSetG X.K X.prog X.w) := by
  intro pins s σ H xs us Q I r h
  obtain ⟨l, ks, tp, rfl, hl, room, q⟩ := h
  rw [Vals.ref1 r]
  obtain ⟨its, rv, hi⟩ : ∃ its : List Value, Vals (ks.map kV) its ∧ (if tp = true then s.heap.IsTuple l its.toArray else s.heap.IsList l its.toArray) := by
    cases tp with
    | true =>
      obtain ⟨its, rv, p, _⟩ := I.tuple (by simpa using hl)
      exact ⟨its, rv, by rw [if_pos rfl]; exact p⟩
    | false =>
      obtain ⟨its, rv, p, _⟩ := I.list (by simpa using hl)
      exact ⟨its, rv, by rw [if_neg (by simp)]; exact p.isList⟩
  have len : its.length = ks.length := by rw [← rv.length, List.length_map]
  refine RgB.call_set (us := its.toArray) (fun i h => ∃ ks', SetG X.prog X.w h s.heap.objs.size ks' ∧ (∀ k, k ∈ ks' ↔ k ∈ ks.take i) ∧ ks'.length ≤ i) (I.ok.hd hc) hi ?_ ?_ ?_ ?_
  · rintro i h h' ⟨ks', a1, a2, a3⟩ k
    exact ⟨ks', a1.at fun o z => k _ o z (Nat.ne_of_lt (Nat.lt_succ_self _)), a2, a3⟩
  · intro h g _
    exact ⟨[], fresh g, fun k => by simp, Nat.le_refl _⟩
  · rintro i v s1 E' Q' lt hv ⟨ks', a1, a2, a3⟩ q'
    have hi2 : i < ks.length := by rw [← len]; simpa using lt
    obtain ⟨u, hu, ru⟩ := rv.get (i := i) (x := kV ks[i]) (by rw [List.getElem?_map, List.getElem?_eq_getElem hi2]; rfl)
    have e : u = v := by
      have : its[i]? = some v := by simpa using hv
      rw [hu] at this
      exact Option.some.inj this
    subst e
    refine add (k := ks[i]) a1 (kV_is ru) (key_scan ru) (by omega) fun b h' ks2 sb r2 m1 m2 => q' b h' (s1.toks + 1) (Nat.le_succ _) sb ⟨ks2, r2, fun k => ?_, ?_⟩
    · rw [List.take_add_one, List.getElem?_eq_getElem hi2]
      simp only [Option.toList_some, List.mem_append, List.mem_singleton]
      by_cases hm : ks[i] ∈ ks'
      · rw [m1 hm, a2 k]
        exact ⟨.inl, fun z => z.elim id fun e => e ▸ (a2 _).mp hm⟩
      · rw [(m2 hm).mem_iff, List.mem_cons, a2 k]
        exact Or.comm
    · by_cases hm : ks[i] ∈ ks'
      · rw [m1 hm]; omega
      · rw [(m2 hm).length_eq, List.length_cons]; omega
  · rintro h' tk ⟨ks', a1, a2, a3⟩ k
    have e : ks.take its.toArray.size = ks := List.take_of_length_le (by simp [len])
    rw [e] at a2
    have nd : ks'.Nodup := a1.choose_spec.choose_spec.choose_spec.choose_spec.2.2.2.2.1
    exact ⟨.ref _, upd H s.heap.objs.size (SetGO X.prog X.w s.heap.objs.size ks'), I.laid (t' := tk) k (Nat.le_refl _) (setGO_new a1), rfl, q _ ks' (I.hok.fresh (Nat.le_refl _)) nd a2⟩
/-- sorted(s) -/
def rSortG (P : Program) (w : World) : List V → Hp → VK → Prop := fun vs H Q => ∃ (a : Addr) (ks : List Key), vs = [V.ref a] ∧ H a = some (SetGO P w a ks) ∧ oneK ks = true ∧ ∀ p ks', H p = none → ks'.Perm ks → Q (.ref p) (upd H p (.lst ((sortKs ks').map kV)))
theorem cr_sortG (hc : X.calm = true) (hu : X.A.units + 67 < cLine) : CallR X (.builtin "sorted") (rSortG X.prog X.w) := by
  intro pins s σ H vs us Q I r h
  obtain ⟨a, ks, rfl, ha, one, q⟩ := h
  obtain ⟨o, es, ep, t, ho, hx, hd, en, nd, sz, ft, ri, ld⟩ := setGO_get I ha
  rw [Vals.ref1 r]
  have en2 : EachIs (fun v k => RelV (kV k) v ∧ ∃ as, Reads s.heap v (encK k) as) (es.toList.map (·.2)) ks := by
    have key : ∀ {l : List (Int × Value)} {ks : List Key}, EachIs (En X.prog X.w) l ks → EachIs (fun v k => RelV (kV k) v ∧ ∃ as, Reads s.heap v (encK k) as) (l.map (·.2)) ks := by
      intro l
      induction l with
      | nil => intro ks h; cases h; exact .nil
      | cons e l ih =>
        intro ks h
        cases h with
        | cons h t =>
          refine .cons ?_ (ih t)
          rcases keyIs_shape h.1.1 with ⟨i, t, e1, e2⟩ | ⟨x, t, e1, e2⟩
          · rw [e1]
            show L2.RelV _ e.2 ∧ ∃ as, Reads s.heap e.2 _ as
            rw [e2]
            exact ⟨⟨t, rfl⟩, _, .int _ _⟩
          · rw [e1]
            show L2.RelV _ e.2 ∧ ∃ as, Reads s.heap e.2 _ as
            rw [e2]
            exact ⟨⟨t, rfl⟩, _, .str _ _⟩
    exact key en
  refine sortedS (enc := encK) (F := fun v k => RelV (kV k) v) (I.ok.hd hc) ⟨o, ho, hx.1, hd⟩ ft sz ri ld en2 (fun d hd d' hd' => ?_) (.inr fun d hd => ?_) (fun b _ => ?_) fun s' p out c ks' k g o' hp hg pm ho' => ?_
  · obtain ⟨x, hx, rfl⟩ := List.mem_map.mp hd
    obtain ⟨y, hy, rfl⟩ := List.mem_map.mp hd'
    exact alike_kind (oneK_mem one hx hy)
  · obtain ⟨x, hx, rfl⟩ := List.mem_map.mp hd
    cases x
    · exact ⟨(fun z => nomatch z), fun xs z => nomatch z⟩
    · exact ⟨(fun z => nomatch z), fun xs z => nomatch z⟩
  · have : (encK b).depth ≤ 1 := by cases b <;> simp [encK, PyData.depth]
    omega
  · have vo : ∀ {out : List Value} {zs : List Key}, EachIs (fun v k => RelV (kV k) v) out zs → Vals (zs.map kV) out := by
      intro out
      induction out with
      | nil => intro zs h; cases h; exact .nil
      | cons v out ih =>
        intro zs h
        cases h with
        | cons h t => exact .cons h (ih t)
    have hlen : ((sortKs ks').map kV).length ≤ sizeLine := by
      show ((ks'.mergeSort (dataLe false encK)).map kV).length ≤ _
      rw [List.length_map, (List.mergeSort_perm _ _).length_eq, pm.length_eq, ← en.length, Array.length_toList]
      exact fits_of_scanBound sz
    have hn : H p = none := I.hok.fresh hp
    have J : Inv X pins σ (upd H p (.lst ((sortKs ks').map kV))) { s with heap := s'.heap, gens := s'.gens, drawn := s'.drawn, toks := s'.toks } :=
      I.call (ch := []) (Un.laid k hp hn) (I.hok.laid k hp ⟨hlen, out, c, vo ho', hg⟩) (by rw [g]; exact I.bare) (fun _ z => nomatch z)
    have e : s' = { s with heap := s'.heap, gens := s'.gens, drawn := s'.drawn, toks := s'.toks } := by
      cases s'; cases s; cases o'; rfl
    rw [e]
    exact ⟨.ref p, _, J, rfl, q p ks' hn pm⟩
end
end RgC
namespace Rf
open PySem PySem.Spec PyProof.Rows L2 RgC
/-- numbers and texts, all of a row -/
def keysD : List D → Option (List Key)
  | [] => some []
  | d :: ds => (keyD d).bind fun k => (keysD ds).map (k :: ·)
/-- sorted(set(xs)) -/
noncomputable def ssetL (xs : List D) : Option (List D) := (keysD xs).bind fun ks => if oneK ks && decide (ks.length ≤ 4000) then some ((sortKs (dedK ks)).map kD) else none
noncomputable def ssetD (S : Sto) : List D → Option D
  | [d] => match seqD S d with
    | some (_, xs) => (ssetL xs).map .lst
    | none => none
  | _ => none
theorem keysD_map : ∀ {ds : List D} {ks : List Key}, keysD ds = some ks → ds = ks.map kD
  | [], ks, h => by cases h; rfl
  | d :: ds, ks, h => by
    obtain ⟨k, e1, h⟩ := Option.bind_eq_some_iff.mp (show (keyD d).bind _ = some ks from h)
    obtain ⟨ks', e2, rfl⟩ := Option.map_eq_some_iff.mp h
    rw [List.map_cons, keysD_map e2]
    congr 1
    cases d <;> cases e1 <;> rfl
theorem reps_kV {K : PySem.W.Frag} {mg : Mg} {β : List Addr} {O : Addr → Prop} {H : Hp} : ∀ {ks : List Key} {vs : List V}, Reps K mg β O H (ks.map kD) vs → vs = ks.map kV
  | [], _, h => by cases h; rfl
  | k :: ks, _, h => by
    cases h with
    | cons h t =>
      rw [reps_kV t]
      cases k <;> cases h <;> rfl
theorem reps_of_kV {K : PySem.W.Frag} {mg : Mg} {β : List Addr} {O : Addr → Prop} {H : Hp} : ∀ (ks : List Key), Reps K mg β O H (ks.map kD) (ks.map kV)
  | [] => .nil
  | k :: ks => .cons (by cases k <;> first | exact .int _ | exact .str _) (reps_of_kV ks)
def rSS (K : PySem.W.Frag) (P : Program) (w : World) : List V → Hp → VK → Prop := fun xs H Q => rSetG K P w xs H fun v H1 => rSortG P w [v] H1 Q
theorem oneK_sub {xs ys : List Key} (h : oneK ys = true) (s : ∀ k ∈ xs, k ∈ ys) : oneK xs = true := by
  unfold oneK at *
  rw [Bool.or_eq_true, List.all_eq_true, List.all_eq_true] at *
  exact h.imp (fun z k hk => z k (s k hk)) fun z k hk => z k (s k hk)
theorem br_sset {K : PySem.W.Frag} {mg : Mg} {P : Program} {w : World} : BrAF K mg (rSS K P w) ssetD := fun Z α β env S σ H R xs vs d rx e Q q => by
  unfold ssetD at e
  split at e
  · split at e
    · rename_i tp ys e1
      obtain ⟨zs, e2, rfl⟩ := Option.map_eq_some_iff.mp e
      obtain ⟨ks, e3, e4⟩ := Option.bind_eq_some_iff.mp (show (keysD ys).bind _ = some zs from e2)
      split at e4
      · rename_i hc
        cases e4
        rw [Bool.and_eq_true, decide_eq_true_eq] at hc
        obtain ⟨v, rfl, r⟩ := Paired.one rx
        obtain ⟨a, vs, rfl, rr, h1⟩ := r.seq R e1
        have ey := keysD_map e3
        subst ey
        have ev := reps_kV rr
        subst ev
        refine ⟨a, ks, tp, rfl, ?_, by have : scanBound = 4096 := rfl; omega, fun p ks' n nd hm => ⟨p, ks', rfl, upd_same, oneK_sub hc.1 fun k hk => (hm k).mp hk, fun p2 ks2 n2 pm => ?_⟩⟩
        · cases tp with
          | true => simpa using seq_tt h1
          | false => simpa using SqL.of (seq_ff h1)
        · have es : sortKs ks2 = sortKs (dedK ks) := by
            have o2 : oneK ks2 = true := oneK_sub hc.1 fun k hk => (hm k).mp (pm.mem_iff.mp hk)
            refine sort_same o2 ((List.perm_ext_iff_of_nodup (pm.nodup_iff.mpr nd) (dedK_nodup ks)).mpr fun k => ?_)
            rw [pm.mem_iff, hm k, dedK_mem]
          rw [es]
          have R1 := R.nw (o := SetGO P w p ks') n
          have A1 : Adv (Wb β) β H β (upd H p (SetGO P w p ks')) := Adv.upd n
          exact q p2 _ (.lst _) _ (R1.apart n2 _) (A1.trb (Adv.upd n2)) (A1.fresh n2) upd_same rfl (CellOk.apart (.lst (reps_of_kV _)) n2)
      · cases e4
    · cases e
  · cases e
section
variable {X : Cx} {p p2 pos pos2 : Pos} {e : Expr} {u : DA}
/-- sorted(set(e)) -/
theorem F.sset (hc : X.calm = true) (hu : X.A.units + 67 < cLine) (hg : Gl X "sorted") (hm : X.mg "sorted" = none) (hg2 : Gl X "set") (hm2 : X.mg "set" = none) (ha : AX X true [e] u)
    (he : starEach [e] X.env = (false, eval e X.env) :: starEach [] X.env := by rfl) (hpl : (backTo pos2 (starEach [] X.env)).any (·.1) = false := by rfl)
    (he2 : starEach [.Call (.Name "set" p2) [e] [] pos2] X.env = (false, eval (.Call (.Name "set" p2) [e] [] pos2) X.env) :: starEach [] X.env := by rfl) (hpl2 : (backTo pos (starEach [] X.env)).any (·.1) = false := by rfl) :
    EF X (.Call (.Name "sorted" p) [.Call (.Name "set" p2) [e] [] pos2] [] pos) (dOpA ssetD u) :=
  PE.imp (pe_callB (cr_sortG hc hu) hg hm (by decide +kernel) (pa_cons (pe_callTy (cr_setG hc) hg2 hm2 (by decide +kernel) ha (by decide) (by decide) he hpl) pa_nil) (by decide) (by decide) he2 hpl2) fun σ H Q h => rd_cbF br_sset σ H Q h
end
end Rf
end
section
set_option maxHeartbeats 2000000
/-! Rg, part F: comprehensions of dicts, the greatest key. -/
namespace Rf
open PySem PySem.Spec PyProof.Rows L2
open Classical in
/-- the turns of a comprehension of a dict -/
noncomputable def dcGo (g : DG) (tt : DT) (tk tv : DE) (gd : Gd) (all : List D) (wenv : Env) : List D → List D → List D → Sto → Option (D × Sto)
  | [], ks, vs, S => if gok gd all S then some (.dct ks vs, S) else none
  | d :: ds, ks, vs, S => if gok gd all S then (g d wenv).bind fun env2 => (tt env2 S).bind fun k => if k.1 = true then (tk env2 k.2).bind fun y => (tv env2 y.2).bind fun z => (keyD y.1).bind fun kk => dcGo g tt tk tv gd all wenv ds (putKD y.1 kk z.1 ks vs).1 (putKD y.1 kk z.1 ks vs).2 z.2 else dcGo g tt tk tv gd all wenv ds ks vs k.2 else none
noncomputable def dDc (di : DI) (vs : List Nat) (g : DG) (tt : DT) (tk tv : DE) : DE := fun env S => (di env S).bind fun p => dcGo g tt tk tv p.1.2 p.1.1 (wipeE env vs) p.1.1 [] [] p.2
theorem putKD_len {x : D} {k : Key} {e : D} {ks ds : List D} : (putKD x k e ks ds).1.length ≤ ks.length + 1 := by
  unfold putKD
  split <;> simp
section
variable {X : Cx} {tg iter kx vx : Expr} {ifs : List Expr} {scope : Scope} {pos : Pos} {b : Bool}
theorem rd_dc {di : DI} {vs ts : List Nat} {g : DG} {tt : DT} {tk tv : DE} (hts : ∀ i ∈ ts, i ∈ vs) (σ : L2.St) (H : Hp) (Q : VK) (h : rdF X.K (mX X) (dDc di vs g tt tk tv) σ H Q) :
    tDc (rdI X.K (mX X) true di) (rdG X.K (mX X) ts g) (rdT X.K (mX X) tt) (rdX X.K (mX X) false tk) (rdX X.K (mX X) false tv) vs σ H Q := by
  obtain ⟨Z, α, β, env, S, d, S', R, e1, q⟩ := h
  unfold dDc at e1
  obtain ⟨⟨⟨items, gd⟩, S1⟩, ei, e1⟩ := Option.bind_eq_some_iff.mp e1
  refine ⟨Z, α, β, env, S, items, gd, S1, R, ei, fun J H1 β1 R1 A1 hz ok D hD => ?_⟩
  have hW1 : ∀ {β2 HH}, Adv (fun a => a ∈ β1 ∨ a = D) β1 H1 β2 HH → ∀ a, Wb β2 a → (a ∈ β1 ∨ a = D) ∨ H1 a = none := fun A a w => (A.mem w).elim (fun z => .inl (.inl z)) .inr
  refine ⟨fun i m HH => i + m = items.length ∧ ∃ β2 S2 ks ds, Rel X.K (mX X) (Z1 Z D) α β2 env S2 σ HH ∧ Adv (fun a => a ∈ β1 ∨ a = D) β1 H1 β2 HH ∧ (∃ us, HH D = some (.dK us) ∧ ks.map keyD = us.map (fun p => some p.1) ∧ Reps X.K (mX X) β2 (Oo (Z1 Z D) α β2) HH ds (us.map (·.2))) ∧ ks.length ≤ i ∧
      dcGo g tt tk tv gd items (wipeE env vs) (items.drop i) ks ds S2 = some (d, S'), ⟨items.length, by omega, β1, S1, [], [], R1.apart hD _, Adv.upd hD, ⟨[], upd_same, rfl, .nil⟩, Nat.le_refl _, e1⟩, fun i m HH hW => ?_⟩
  obtain ⟨hm, β2, S2, ks, ds, R2, A2, ⟨us, hus, kk1, ra⟩, hl, e2⟩ := hW
  have kp : Kp true Z α β1 H1 (Z1 Z D) α β2 HH := ⟨fun a o e n => A2.keep a o e fun w => w.elim (fun z => n (.inr (.inl z))) fun z => (by rw [z, hD] at e; cases e), fun a q => (by
      rcases Oo_z1.mp q with q | q
      · rcases q with q | q | q
        · exact .inl (.inl q)
        · exact (A2.mem q).elim (fun z => .inl (.inr (.inl z))) .inr
        · exact .inl (.inr (.inr q))
      · exact .inr (by rw [q]; exact hD)), A2.nth, fun _ i a o e1 e2 => A2.keep a o e2 fun w => w.elim (fun z => R1.own e1 z) fun z => (by rw [z, hD] at e2; cases e2), A2.frz⟩
  by_cases hi : i < items.length
  · -- a turn
    have ed : items.drop i = items[i] :: items.drop (i + 1) := List.drop_eq_getElem_cons hi
    rw [ed, dcGo] at e2
    split at e2
    · rename_i hg
      obtain ⟨env2, eg, e2⟩ := Option.bind_eq_some_iff.mp e2
      obtain ⟨⟨k, S3⟩, ek, e2⟩ := Option.bind_eq_some_iff.mp e2
      obtain ⟨hgo, hy⟩ := ok.go i items[i] _ α β2 env S2 σ HH R2 kp hg (List.getElem?_eq_getElem hi)
      refine .inr ⟨hgo, fun H' => ∃ β2 S2 ks ds, Rel X.K (mX X) (Z1 Z D) α β2 env S2 σ H' ∧ Adv (fun a => a ∈ β1 ∨ a = D) β1 H1 β2 H' ∧ (∃ us, H' D = some (.dK us) ∧ ks.map keyD = us.map (fun p => some p.1) ∧ Reps X.K (mX X) β2 (Oo (Z1 Z D) α β2) H' ds (us.map (·.2))) ∧ ks.length ≤ i + 1 ∧
          dcGo g tt tk tv gd items (wipeE env vs) (items.drop (i + 1)) ks ds S2 = some (d, S'), fun H' hN => ⟨m - 1, by omega, by omega, hN⟩, fun x H2 hyx => ?_⟩
      obtain ⟨hs2, R3, A3, rx⟩ := hy x H2 hyx
      have R3w := R3.wipe vs
      refine ⟨Zw (Z1 Z D) α vs, αw α vs, β2, wipeE env vs, S2, items[i], env2, R3w, by rw [Oo_w]; exact rx, eg, fun σ' α' R4 hsub hkeep hwipe => ?_⟩
      have hα : α' = αw α vs := by
        funext j
        cases e : αw α vs j with
        | some a => exact hkeep j a e fun hj => (αw_some e).1 (hts j hj)
        | none =>
          cases e' : α' j with
          | none => rfl
          | some a => rw [hsub j a e'] at e; cases e
      subst hα
      refine ⟨by rw [hwipe vs hts]; exact wipe_wipe σ vs, Zw (Z1 Z D) α vs, αw α vs, β2, env2, S2, k, S3, R4, ek, fun H5 β5 R5 A5 => ?_⟩
      have A25 : Adv (Wb β2) β2 HH β5 H5 := A3.trb A5
      have DZ : ¬ Wb β2 D := fun z => R2.disZ D z (.inr rfl)
      cases k with
      | false =>
        exact iteF ⟨β5, S3, ks, ds, R2.join R5 (fun γ => Oo_w) A25, A2.trans A25 (hW1 A2), ⟨us, A25.keep D _ hus DZ, kk1, ra.adv A25⟩, by omega, by simpa using e2⟩
      | true =>
        obtain ⟨⟨y, S6⟩, ey, e2⟩ := Option.bind_eq_some_iff.mp (by simpa using e2)
        obtain ⟨⟨z, S7⟩, ez, e2⟩ := Option.bind_eq_some_iff.mp e2
        obtain ⟨kk, ekk, e2⟩ := Option.bind_eq_some_iff.mp e2
        refine iteT ⟨Zw (Z1 Z D) α vs, αw α vs, β5, env2, S3, y, S6, R5, ey, fun yv H6 β6 R6 A6 r6 => ⟨Zw (Z1 Z D) α vs, αw α vs, β6, env2, S6, z, S7, R6, ez, fun zv H7 β7 R7 A7 r7 => ?_⟩⟩
        have A27 : Adv (Wb β2) β2 HH β7 H7 := (A25.trb A6).trb A7
        have hD7 : H7 D = some (.dK us) := A27.keep D _ hus DZ
        have r7' : Rep X.K (mX X) β7 (Oo (Z1 Z D) α β7) H7 z zv := by
          have := r7.rep
          rw [Oo_w] at this
          exact this
        have R7' := R2.join R7 (fun γ => Oo_w) A27
        have mv : ∀ a u, H7 a = some u → ¬ Oo (Z1 Z D) α β7 a → upd H7 D (.dK (putK us kk zv)) a = some u := fun a u e n => by
          rw [upd_ne fun z => n (by rw [z]; exact .inl (.inr rfl))]
          exact e
        have hlen := congrArg List.length kk1
        rw [List.length_map, List.length_map] at hlen
        obtain ⟨p1, p2⟩ := put_rep (x := y) ekk r7' kk1 (ra.adv A27)
        refine ⟨us, kk, key_rep ekk r6, hD7, by rw [← hlen]; omega, β7, S7, _, _, relUpdZ R7' (.inr rfl) _, ?_, ⟨putK us kk zv, upd_same, p1, ?_⟩, by have := putKD_len (x := y) (k := kk) (e := z) (ks := ks) (ds := ds); omega, e2⟩
        · have A17 := A2.trans A27 (hW1 A2)
          refine ⟨A17.pre, fun a o e n => ?_, fun a e => ?_, fun a od u e => by rw [upd_ne fun z => by rw [z, hD] at e; cases e]; exact A17.frz a od u e⟩
          · rw [upd_ne fun z => n (.inr z)]
            exact A17.keep a o e n
          · by_cases z : a = D
            · rw [z, upd_same]; exact fun q => nomatch q
            · rw [upd_ne z]; exact A17.live a e
        · exact Reps.mono (fun _ _ e => e) mv (fun a q => .inl q) _ _ p2
    · cases e2
  · -- the end
    have ed : items.drop i = [] := List.drop_eq_nil_of_le (by omega)
    rw [ed, dcGo] at e2
    split at e2
    · rename_i hg
      cases e2
      refine .inl ⟨ok.stop i _ α β2 env _ σ HH R2 kp hg (by omega), ?_⟩
      refine q D _ (.dct ks ds) HH β2 R2 (A1.trans A2 fun a w => ?_) (A1.fresh hD) hus rfl (.dct kk1 ra)
      rcases w with w | w
      · exact A1.mem w
      · exact .inr (by rw [w]; exact A1.fresh hD)
    · cases e2
theorem F.dc {di : DI} {vs ts : List Nat} {own : List (PySem.Str × Nat)} {g : DG} {tt : DT} {tk tv : DE} (hc : X.calm = true) (hN : X.N.Nodup) (hi : IX X true tg iter di) (ok : BlkOk X.N X.env.scope scope own)
    (hg : ∀ (s : Shared) (H : Hp) (C : Addr) (cl : List (PySem.Str × Addr)) (fp : List Addr), GX (X.blk s H scope (compEnvC scope cl C X.env) fp) tg ts g)
    (ht : ∀ (s : Shared) (H : Hp) (C : Addr) (cl : List (PySem.Str × Addr)) (fp : List Addr), TsX (X.blk s H scope (compEnvC scope cl C X.env) fp) ifs tt)
    (hk : ∀ (s : Shared) (H : Hp) (C : Addr) (cl : List (PySem.Str × Addr)) (fp : List Addr), EX (X.blk s H scope (compEnvC scope cl C X.env) fp) false kx tk)
    (he : ∀ (s : Shared) (H : Hp) (C : Addr) (cl : List (PySem.Str × Addr)) (fp : List Addr), EX (X.blk s H scope (compEnvC scope cl C X.env) fp) false vx tv)
    (hts : ∀ i ∈ ts, i ∈ own.map (·.2) := by decide) (hs : ∀ x, foldedSetIterable iter X.env x = pure x := by intro _; rfl) (hvs : vs = own.map (·.2) := by rfl) : EF X (.DictComp kx vx [⟨tg, iter, ifs, 0⟩] scope pos) (dDc di vs g tt tk tv) := by
  subst hvs
  exact PE.imp (pe_dc (wi := rdI X.K (mX X) true di) (g := rdG X.K (mX X) ts g) (tt := rdT X.K (mX X) tt) (tk := rdX X.K (mX X) false tk) (tv := rdX X.K (mX X) false tv) hc hN hi ok hg ht hk he hs) fun σ H Q h => rd_dc hts σ H Q h
/-- name = {..} on one line, the name a local -/
theorem ps_setDc {i : Nat} {y : PySem.Str} {py : Pos} {own : List (PySem.Str × Nat)} {spos : Pos} {wi : TI} {g : TG} {tt : TT} {tk tv : TE} (hc : X.calm = true) (hN : X.N.Nodup) (hy : X.N[i]? = some y) (hyl : X.env.scope.names.lookup y = some .local)
    (hsw : swapsWith (.DictComp kx vx [⟨tg, iter, ifs, 0⟩] scope pos) (some (.Name y py)) spos.line X.env = pure true) (hi : PI X tg iter wi) (ok : BlkOk X.N X.env.scope scope own)
    (hg : ∀ (s : Shared) (H : Hp) (C : Addr) (cl : List (PySem.Str × Addr)) (fp : List Addr), PG (X.blk s H scope (compEnvC scope cl C X.env) fp) tg g) (ht : ∀ (s : Shared) (H : Hp) (C : Addr) (cl : List (PySem.Str × Addr)) (fp : List Addr), PTs (X.blk s H scope (compEnvC scope cl C X.env) fp) ifs tt)
    (hk : ∀ (s : Shared) (H : Hp) (C : Addr) (cl : List (PySem.Str × Addr)) (fp : List Addr), PE (X.blk s H scope (compEnvC scope cl C X.env) fp) kx tk)
    (he : ∀ (s : Shared) (H : Hp) (C : Addr) (cl : List (PySem.Str × Addr)) (fp : List Addr), PE (X.blk s H scope (compEnvC scope cl C X.env) fp) vx tv) (hs : ∀ x, foldedSetIterable iter X.env x = pure x := by intro _; rfl) :
    PS X (.Assign [.Name y py] (.DictComp kx vx [⟨tg, iter, ifs, 0⟩] scope pos) spos) (tAsg (tDc wi g tt tk tv (own.map (·.2))) (gName i)) := by
  refine ⟨fun pins s σ H D I h => ?_⟩
  rw [exec_Assign_Name_used _ _ _ _ hsw]
  refine wpAny_bind (wpAny_standAt (wpAny_bind ?_))
  show wpAny _ X.A (do let _ ← comprehension (.DictComp kx vx [⟨tg, iter, ifs, 0⟩] scope pos) scope X.env (firstIterPos [⟨tg, iter, ifs, 0⟩] pos) newDict false (eval iter X.env) (some (assign (.Name y py) X.env))) _ _ s
  have h : tDc wi g tt tk tv (own.map (·.2)) σ H (fun x H1 => gName i x σ H1 D.nx) := h
  refine wpAny_bind (thn (dc_core (Qf := fun _ s' => SP X pins D .next s') hc hN I hi ok hg ht hk he hs h fun L C s' m H' I' q hn f => ?_) fun _ s' hq => wpAny_pure (wpAny_pure hq))
  show wpAny _ _ (assign (.Name y py) X.env (.ref L)) _ _ _
  refine wpAny_assign_Name (store_ok2 (v := V.ref L) I' hN hy (.inl hyl) rfl (fun s2 I2 ⟨a, sb, ha⟩ => ?_) (.inr hyl))
  obtain ⟨f0, f1, f2, f3, f4, f5⟩ := f
  have haC : C ≠ a := by
    rcases ha with z | z
    · rw [z]; exact f1
    · exact fun e => f4 y a z e.symm
  refine ⟨m, hn.sameBut sb haC, fun h3 sb3 => ?_⟩
  exact ⟨_, H', I2.turned (t' := s2.toks) (fun b o hb e => (sb3.2 b hb).trans e) f0 f1 f3 f4 f5, q⟩
theorem sw_trueD {gs : List Comprehension} {py : Pos} {y : PySem.Str} {l : Nat} {env : PySem.Env} (hk : env.scope.kind = .function) (hy : env.scope.names.lookup y = some .local) (hl : (py.line == pos.line) = true)
    (ha : (scope.names.any fun (n, k) => n == y && (k == .local || k == .cell)) = false) : swapsWith (.DictComp kx vx gs scope pos) (some (.Name y py)) l env = pure true := by
  have ky : env.kindOf y = some .local := hy
  have hb : env.blockKind = .function := by unfold PySem.Env.blockKind; rw [hk]; rfl
  unfold swapsWith
  simp only [hb, ky, ha, Expr.pos, hl]
  rfl
/-- x = {.. for ..}, the new dict in the store -/
theorem S.dcNew {spos : Pos} {i : Nat} {y : PySem.Str} {py : Pos} {di : DI} {vs tl : List Nat} {own : List (PySem.Str × Nat)} {g : DG} {tt : DT} {tk tv : DE} (hc : X.calm = true) (hN : X.N.Nodup) (hy : X.N[i]? = some y) (hyl : X.env.scope.names.lookup y = some .local)
    (hsw : swapsWith (.DictComp kx vx [⟨tg, iter, ifs, 0⟩] scope pos) (some (.Name y py)) spos.line X.env = pure true) (hi : IX X true tg iter di) (ok : BlkOk X.N X.env.scope scope own)
    (hg : ∀ (s : Shared) (H : Hp) (C : Addr) (cl : List (PySem.Str × Addr)) (fp : List Addr), GX (X.blk s H scope (compEnvC scope cl C X.env) fp) tg tl g)
    (ht : ∀ (s : Shared) (H : Hp) (C : Addr) (cl : List (PySem.Str × Addr)) (fp : List Addr), TsX (X.blk s H scope (compEnvC scope cl C X.env) fp) ifs tt)
    (hk : ∀ (s : Shared) (H : Hp) (C : Addr) (cl : List (PySem.Str × Addr)) (fp : List Addr), EX (X.blk s H scope (compEnvC scope cl C X.env) fp) false kx tk)
    (he : ∀ (s : Shared) (H : Hp) (C : Addr) (cl : List (PySem.Str × Addr)) (fp : List Addr), EX (X.blk s H scope (compEnvC scope cl C X.env) fp) false vx tv)
    (hts : ∀ i ∈ tl, i ∈ own.map (·.2) := by decide) (hs : ∀ x, foldedSetIterable iter X.env x = pure x := by intro _; rfl) (hvs : vs = own.map (·.2) := by rfl) : SX X (.Assign [.Name y py] (.DictComp kx vx [⟨tg, iter, ifs, 0⟩] scope pos) spos) (sAsg (gNm i) (dNew (dDc di vs g tt tk tv))) := by
  subst hvs
  exact PS.imp (ps_setDc (wi := rdI X.K (mX X) true di) (g := rdG X.K (mX X) tl g) (tt := rdT X.K (mX X) tt) (tk := rdX X.K (mX X) false tk) (tv := rdX X.K (mX X) false tv) hc hN hy hyl hsw hi ok hg ht hk he hs) fun E σ H h => by
    obtain ⟨Z, α, β, env, S, f, S', R, e1, q⟩ := h
    unfold sAsg dNew at e1
    obtain ⟨⟨x0, S0⟩, ex0, e1⟩ := Option.bind_eq_some_iff.mp e1
    obtain ⟨⟨x, S1⟩, ex, e0⟩ := Option.bind_eq_some_iff.mp ex0
    obtain ⟨c, ec, e2⟩ := Option.map_eq_some_iff.mp e0
    cases e2
    obtain ⟨env', eg, e1⟩ := Option.map_eq_some_iff.mp e1
    cases e1
    refine rd_dc hts σ H _ ⟨Z, α, β, env, S, x, S1, R, ex, fun a o c' H1 β1 R1 A1 n1 n2 e2 co => ?_⟩
    subst e2
    have ec' := celD_cell ⟨_, _, _, co⟩ ec
    subst ec'
    have R2 := R1.pushRef (fun z => R.zlive a z n1) n2 co
    have hb : (β1 ++ [a])[S1.length]? = some a := by
      rw [← R1.blen, List.getElem?_append_right (Nat.le_refl _)]
      simp
    have A2 : Adv (Wb β) β H (β1 ++ [a]) H1 := ⟨by
      obtain ⟨nw, e3, h3⟩ := A1.pre
      refine ⟨nw ++ [a], by rw [e3, List.append_assoc], fun b hb => ?_⟩
      rcases List.mem_append.mp hb with z | z
      · exact h3 b z
      · have := List.mem_singleton.mp z
        rw [this]
        exact n1, A1.keep, A1.live, A1.frz⟩
    unfold gNm at eg
    split at eg
    · rename_i hl
      cases eg
      exact q _ (β1 ++ [a]) _ H1 (R2.setVal hl (.ref hb)) A2.ws fun j b e => .inl ⟨j, drop1_sub j b e⟩
    · cases eg
end
/-! ### displays -/
def dPs : List (DE × DE) → Env → Sto → Option (List (D × D) × Sto)
  | [], _, S => some ([], S)
  | p :: ps, env, S => (p.1 env S).bind fun x => (p.2 env x.2).bind fun y => (dPs ps env y.2).map fun r => ((x.1, y.1) :: r.1, r.2)
def putAll : List (D × D) → List D → List D → Option (List D × List D)
  | [], ks, ds => some (ks, ds)
  | p :: ps, ks, ds => (keyD p.1).bind fun k => putAll ps (putKD p.1 k p.2 ks ds).1 (putKD p.1 k p.2 ks ds).2
def dDisp (ps : List (DE × DE)) : DE := fun env S => (dPs ps env S).bind fun q => (putAll q.1 [] []).map fun z => (.dct z.1 z.2, q.2)
def PXs (X : Cx) (pos : Pos) (keys : List (Option Expr)) (values : List Expr) (ps : List (DE × DE)) : Prop := PPs X pos keys values (ps.map fun p => (rdX X.K (mX X) false p.1, rdX X.K (mX X) false p.2))
theorem Ps.nil {X : Cx} {pos : Pos} : PXs X pos [] [] [] := pps_nil
theorem Ps.cons {X : Cx} {pos : Pos} {k v : Expr} {ks : List (Option Expr)} {vs : List Expr} {tk tv : DE} {ps : List (DE × DE)} (hk : EX X false k tk) (hv : EX X false v tv) (hr : PXs X pos ks vs ps) : PXs X pos (some k :: ks) (v :: vs) ((tk, tv) :: ps) := pps_cons hk hv hr
abbrev RP (K : PySem.W.Frag) (mg : Mg) (β : List Addr) (O : Addr → Prop) (H : Hp) : List (D × D) → List (V × V) → Prop := Paired fun d v => Rep K mg β O H d.1 v.1 ∧ Rep K mg β O H d.2 v.2
theorem dPs_ok {K : PySem.W.Frag} {mg : Mg} {Z : Addr → Prop} {α : Nat → Option Addr} {env : Env} {σ : L2.St} : ∀ {ps : List (DE × DE)} {β : List Addr} {S S' : Sto} {H : Hp} {xs : List (D × D)} {Q : List (V × V) → Hp → Prop}, Rel K mg Z α β env S σ H → dPs ps env S = some (xs, S') →
    (∀ H' β' vs, Rel K mg Z α β' env S' σ H' → Adv (Wb β) β H β' H' → RP K mg β' (Oo Z α β') H' xs vs → Q vs H') → tPairs (ps.map fun p => (rdX K mg false p.1, rdX K mg false p.2)) σ H Q
  | [], β, S, S', H, xs, Q, R, e, q => by
    cases e
    exact q H β [] R .refl .nil
  | p :: ps, β, S, S', H, xs, Q, R, e, q => by
    unfold dPs at e
    obtain ⟨⟨x, S1⟩, ex, e⟩ := Option.bind_eq_some_iff.mp e
    obtain ⟨⟨y, S2⟩, ey, e⟩ := Option.bind_eq_some_iff.mp e
    obtain ⟨⟨r, S3⟩, er, e⟩ := Option.map_eq_some_iff.mp e
    cases e
    refine ⟨Z, α, β, env, S, x, S1, R, ex, fun v H1 β1 R1 A1 r1 => ⟨Z, α, β1, env, S1, y, S2, R1, ey, fun u H2 β2 R2 A2 r2 => dPs_ok R2 er fun H3 β3 vs R3 A3 r3 => ?_⟩⟩
    exact q H3 β3 _ R3 ((A1.trb A2).trb A3) (.cons ⟨r1.rep.adv (A2.trb A3), r2.rep.adv A3⟩ r3)
theorem repKV {K : PySem.W.Frag} {mg : Mg} {β : List Addr} {O : Addr → Prop} {H : Hp} {y : D} {k : Key} {v : V} (h : keyD y = some k) (r : Rep K mg β O H y v) : v = kV k := by
  cases y with
  | int i => cases h; cases r; rfl
  | str x => cases h; cases r; rfl
  | _ => cases h
theorem putAll_ok {K : PySem.W.Frag} {mg : Mg} {β : List Addr} {O : Addr → Prop} {H : Hp} : ∀ {xs : List (D × D)} {vs : List (V × V)} {ks ds ks' ds' : List D} {us : List (Key × V)}, RP K mg β O H xs vs → ks.map keyD = us.map (fun p => some p.1) → Reps K mg β O H ds (us.map (·.2)) → putAll xs ks ds = some (ks', ds') →
    ∃ kvs : List (Key × V), vs = kvs.map (fun kv => (kV kv.1, kv.2)) ∧ ks'.map keyD = (mergeK us kvs).map (fun p => some p.1) ∧ Reps K mg β O H ds' ((mergeK us kvs).map (·.2))
  | [], _, ks, ds, ks', ds', us, r, h1, h2, e => by
    cases r
    cases e
    exact ⟨[], rfl, h1, h2⟩
  | p :: xs, _, ks, ds, ks', ds', us, r, h1, h2, e => by
    cases r with
    | cons r1 r2 =>
      rename_i v vs
      obtain ⟨ra, rb⟩ := r1
      unfold putAll at e
      obtain ⟨k, ek, e⟩ := Option.bind_eq_some_iff.mp e
      obtain ⟨p1, p2⟩ := put_rep (x := p.1) ek rb h1 h2
      obtain ⟨kvs, g1, g2, g3⟩ := putAll_ok r2 p1 p2 e
      refine ⟨(k, v.2) :: kvs, ?_, g2, g3⟩
      have : v.1 = kV k := repKV ek ra
      rw [g1, List.map_cons, ← this]
theorem F.disp {X : Cx} {pos : Pos} {keys : List (Option Expr)} {values : List Expr} {ps : List (DE × DE)} (h : PXs X pos keys values ps) (hall : keys.all (·.isSome) = true := by rfl) (hl : keys.length = values.length := by rfl) (h0 : keys ≠ [] := by exact fun z => nomatch z) (h15 : keys.length ≤ 15 := by decide) (hp : ps.length ≤ 15 := by decide) : EF X (.Dict keys values pos) (dDisp ps) :=
  PE.imp (pe_disp h hall hl h0 h15) fun σ H Q ⟨Z, α, β, env, S, d, S', R, e1, q⟩ => by
    unfold dDisp at e1
    obtain ⟨⟨xs, S1⟩, ex, e1⟩ := Option.bind_eq_some_iff.mp e1
    obtain ⟨⟨ks, ds⟩, ez, e1⟩ := Option.map_eq_some_iff.mp e1
    cases e1
    intro p hp0
    have A0 : Adv (Wb β) β H β (upd H p (.dK [])) := Adv.upd hp0
    refine dPs_ok (R.apart hp0 (.dK [])) ex fun H2 β2 vs R2 A2 r2 => ?_
    have np : ¬ Wb β p := fun z => R.notO hp0 (.inr (.inl z))
    have e2 : H2 p = some (.dK []) := A2.keep p _ upd_same np
    obtain ⟨kvs, g1, g2, g3⟩ := putAll_ok (us := []) r2 rfl .nil ez
    have mv : ∀ a u, H2 a = some u → ¬ Oo (Z1 Z p) α β2 a → upd H2 p (.dK (mergeK [] kvs)) a = some u := fun a u e n => by
      rw [upd_ne fun z => n (by rw [z]; exact .inl (.inr rfl))]
      exact e
    have hlen : kvs.length ≤ 15 := by
      have h1 := Paired.len r2
      rw [g1, List.length_map] at h1
      have h2 : xs.length = ps.length := dPs_len ex
      omega
    refine ⟨e2, kvs, g1, hlen, ?_⟩
    refine q p _ (.dct ks ds) _ β2 (relUpdZ R2 (.inr rfl) _) ⟨?_, fun a o e n => ?_, fun a e => ?_, fun a od u e => ?_⟩ hp0 upd_same rfl (.dct g2 (Reps.mono (fun _ _ e => e) mv (fun a q => .inl q) _ _ g3))
    · exact (A0.trb A2).pre
    · rw [upd_ne fun z => by rw [z, hp0] at e; cases e]
      exact (A0.trb A2).keep a o e n
    · by_cases z : a = p
      · rw [z, upd_same]; exact fun q => nomatch q
      · rw [upd_ne z]; exact (A0.trb A2).live a e
    · rw [upd_ne fun z => by rw [z, hp0] at e; cases e]
      exact (A0.trb A2).frz a od u e
where
  dPs_len : ∀ {ps : List (DE × DE)} {env : Env} {S S' : Sto} {xs : List (D × D)}, dPs ps env S = some (xs, S') → xs.length = ps.length
  | [], _, _, _, _, e => by cases e; rfl
  | p :: ps, env, S, S', xs, e => by
    unfold dPs at e
    obtain ⟨⟨x, S1⟩, ex, e⟩ := Option.bind_eq_some_iff.mp e
    obtain ⟨⟨y, S2⟩, ey, e⟩ := Option.bind_eq_some_iff.mp e
    obtain ⟨⟨r, S3⟩, er, e⟩ := Option.map_eq_some_iff.mp e
    cases e
    simp [dPs_len er]
end Rf
end
section
set_option maxHeartbeats 2000000
/-! Rg, part G: max(d, default=e) of a dict whose keys are whole numbers. -/
namespace Rf
open PySem PySem.Spec PyProof.Rows L2
def rMaxK : List V → List V → Hp → VK → Prop := fun xs zs H Q => ∃ (a : Addr) (kvs : List (Key × V)) (ns : List Int) (z : V), xs = [.ref a] ∧ zs = [z] ∧ Rd H a (.dK kvs) ∧ kvs.map (·.1) = ns.map Sum.inl ∧ Q (match ns.max? with | some m => V.int m | none => z) H
theorem vals_one {x : V} {us : List Value} (r : Vals [x] us) : ∃ u, us = [u] ∧ RelV x u := by
  cases r with
  | cons r1 r2 => cases r2; exact ⟨_, rfl, r1⟩
section
variable {X : Cx}
theorem cr_maxK (hc : X.calm = true) : CallRK X (.builtin "max") [Str.ofString "default"] rMaxK := by
  intro pins s σ H xs zs us ws Q I rx rz h
  obtain ⟨a, kvs, ns, z, rfl, rfl, hd, hns, q⟩ := h
  rw [Vals.ref1 rx]
  obtain ⟨wz, rfl, rz2⟩ := vals_one rz
  obtain ⟨sz, ha, vs, KV1, D⟩ := dk_rd I.hok hd
  obtain ⟨es, ep, raw, hes, hkey⟩ := PySem.Heap.DictOf.raw D
  have hlt : a < s.heap.objs.size := by obtain ⟨o, e, _⟩ := raw; exact Heap.lt_size e
  have hne : a ≠ s.heap.objs.size := Nat.ne_of_lt hlt
  have hvn : vs.length = kvs.length := by rw [KV1.length]
  have hkn : kvs.length = ns.length := by
    have e := congrArg List.length hns
    rwa [List.length_map, List.length_map] at e
  have hk1 : ∀ (i : Nat) (hi : i < es.size), ∃ t, es[i].key = .int (ns.getD i 0) t := fun i hi => by
    have h1 : i < vs.length := by omega
    have h2 : i < kvs.length := by omega
    have h3 : i < ns.length := by omega
    have e1 := (hkey i hi vs[i].1 vs[i].2 (List.getElem?_eq_getElem h1)).1
    have e2 : vs[i].1 = kvs[i].1 := by
      have z := KV1.keys
      have z2 := congrArg (fun l => l[i]?) z
      simp only [List.getElem?_map, List.getElem?_eq_getElem h1, List.getElem?_eq_getElem h2, Option.map_some] at z2
      exact (Option.some.inj z2).symm
    have e3 : kvs[i].1 = Sum.inl (ns.getD i 0) := by
      have z : (kvs.map Prod.fst)[i]? = (ns.map Sum.inl)[i]? := by rw [hns]
      rw [List.getElem?_map, List.getElem?_map, List.getElem?_eq_getElem h2, List.getElem?_eq_getElem h3] at z
      rw [List.getD_eq_getElem?_getD, List.getElem?_eq_getElem h3]
      exact Option.some.inj z
    rw [e2, e3] at e1
    rcases keyIs_shape (show keyIs (Sum.inl (ns.getD i 0)) es[i].key = true from e1) with ⟨j, t, e4, e5⟩ | ⟨y, t, e4, e5⟩
    · cases e4
      exact ⟨t, e5⟩
    · cases e4
  show wpAny _ _ (call (.builtin "max") [.ref a] [(Str.ofString "default", wz)]) _ _ s
  refine call_max_walkD (PySem.wpAny_pyIter_dict_raw ha raw ?_)
  have W := (Walks.rawKeys (prog := X.prog) (w := X.w) (A := X.A.in1) (I.ok.hd hc) s.heap.objs.size a hne es ep).toS
  have kp0 : ∀ b o, s.heap.get? b = some o → (s.heap.push { cls := .type "dict_keyiterator", data := .fields #[.ref a, .int 0 0, .int es.size 0, .int ep 0] }).get? b = some o := fun b o e => Heap.get?_push_of_some _ e
  have mvd : ∀ {s' : Shared}, Moved [s.heap.objs.size] (fun a b => b = a) { s with heap := s.heap.push { cls := .type "dict_keyiterator", data := .fields #[.ref a, .int 0 0, .int es.size 0, .int ep 0] } } s' → ∃ h' tk, s' = { s with heap := h', toks := tk } ∧ ∀ b o, s.heap.get? b = some o → h'.get? b = some o := fun m => PySem.W.moved_old rfl rfl m
  refine ⟨s.heap.objs.size, _, _, _, es.size, _, _, s.heap, fun i j => decide (ns.getD i 0 > ns.getD j 0), rfl, W, ⟨⟨_, Heap.get?_push_size _ rfl, rfl, rfl⟩, raw.at fun o e => kp0 _ _ e⟩, fun b hb => ?_, fun b o e hb => ?_, kp0, fun hz s' m => ?_, fun hp => ⟨fun i j vi vj s1 Q1 E1 _ h1 h2 q1 => ?_, fun v s' hP m => ?_⟩⟩
  · show b < (s.heap.push _).objs.size
    rw [Heap.size_push]
    rcases List.mem_cons.mp hb with rfl | hb
    · exact Nat.lt_succ_self _
    · rw [List.mem_singleton.mp hb]
      exact Nat.lt_succ_of_lt hlt
  · exact absurd (Heap.lt_size e) ((List.mem_singleton.mp hb) ▸ Nat.lt_irrefl _)
  · obtain ⟨h', tk, rfl, hk'⟩ := mvd m
    have : ns = [] := List.length_eq_zero_iff.mp (by omega)
    subst this
    exact ⟨z, H, I.kept hk', rz2, q⟩
  · obtain ⟨hi, rfl⟩ := h1
    obtain ⟨hj, rfl⟩ := h2
    exact CmpOf.ints_gt (prog := X.prog) (w := X.w) (A := X.A.in1) (P := fun i v => ∃ t, v = .int (ns.getD i 0) t) (fun i => ns.getD i 0) (fun i v z => z) i j _ _ s1 Q1 E1 (hk1 i hi) (hk1 j hj) q1
  · obtain ⟨h', tk, rfl, hk'⟩ := mvd m
    obtain ⟨hi, rfl⟩ := hP
    obtain ⟨t, ht⟩ := hk1 _ hi
    obtain ⟨m1, m2⟩ := argBest_gt (fun i => ns.getD i 0) (es.size - 1)
    have hmx : ns.max? = some (ns.getD (argBest (fun i j => decide (ns.getD i 0 > ns.getD j 0)) (es.size - 1)) 0) := by
      rw [List.max?_eq_some_iff]
      refine ⟨PySem.getD_mem (by omega), fun y hy => ?_⟩
      obtain ⟨j, hj, e⟩ := List.mem_iff_getElem.mp hy
      have z := m2 j (by omega)
      have e3 : ns.getD j 0 = y := by rw [List.getD_eq_getElem?_getD, List.getElem?_eq_getElem hj, ← e] <;> rfl
      rw [e3] at z
      exact z
    rw [hmx] at q
    exact ⟨V.int _, H, I.kept hk', ⟨t, ht⟩, q⟩
end
def keysI : List D → Option (List Int)
  | [] => some []
  | .int i :: ds => (keysI ds).map (i :: ·)
  | _ => none
theorem keysI_ok : ∀ {ks : List D} {ns : List Int} {kvs : List (Key × V)}, keysI ks = some ns → ks.map keyD = kvs.map (fun p => some p.1) → kvs.map (·.1) = ns.map Sum.inl
  | [], _, [], h, _ => by cases h; rfl
  | [], _, _ :: _, _, h => by cases h
  | .int i :: ds, ns, p :: kvs, h, e => by
    unfold keysI at h
    obtain ⟨ns', h1, h2⟩ := Option.map_eq_some_iff.mp h
    subst h2
    obtain ⟨e1, e2⟩ := List.cons.inj e
    have e1 : some (Sum.inl i) = some p.1 := e1
    rw [List.map_cons, List.map_cons, keysI_ok h1 e2, ← Option.some.inj e1]
  | .int i :: ds, _, [], _, e => by cases e
/-- max(o, default=e) -/
def dMaxK (o t : DE) : DE := fun env S => (o env S).bind fun p => (t env p.2).bind fun q => (dictAt q.2 p.1).bind fun z => (keysI z.1).map fun ns => (match ns.max? with | some m => D.int m | none => q.1, q.2)
section
variable {X : Cx} {b : Bool} {e e2 : Expr} {x : PySem.Str} {p pos kpos : Pos} {o t : DE}
theorem E.maxK (hc : X.calm = true) (hg : Gl X x) (hm : X.mg x = none) (hv : bootBuiltins x = some (.builtin "max")) (ha : EX X true e o) (hd : EX X false e2 t)
    (hn : x ≠ "__name__" := by decide) (hdb : (x == ("__debug__" : PySem.Str)) = false := by decide)
    (hs : starEach [e] X.env = (false, eval e X.env) :: starEach [] X.env := by rfl)
    (he : backTo pos (starEach [e] X.env) = (false, eval e X.env) :: backTo pos (starEach [] X.env) := by rfl) (hpl : (backTo pos (starEach [e] X.env)).any (·.1) = false := by rfl)
    (hall : (backToKw pos (keywordEach [⟨some ("default" : PySem.Str), e2, kpos⟩] X.env)).all (·.1.isSome) = true := by rfl) (hnone : (backToKw pos (keywordEach [⟨some ("default" : PySem.Str), e2, kpos⟩] X.env)).any (·.1.isNone) = false := by rfl)
    (hks : (backToKw pos (keywordEach [⟨some ("default" : PySem.Str), e2, kpos⟩] X.env)).filterMap (·.1) = [Str.ofString "default"] := by rfl) : EX X b (.Call (.Name x p) [e] [⟨some ("default" : PySem.Str), e2, kpos⟩] pos) (dMaxK o t) :=
  PE.imp (pe_callBK (cr_maxK hc) hg hm hv (pa_cons ha pa_nil hs) (pk_cons hd pk_nil) hn hdb he hpl hall hnone hks) fun σ H Q ⟨Z, α, β, env, S, d, S', R, e1, q⟩ => by
    unfold dMaxK at e1
    obtain ⟨⟨ov, S1⟩, eo, e1⟩ := Option.bind_eq_some_iff.mp e1
    obtain ⟨⟨tv, S2⟩, et, e1⟩ := Option.bind_eq_some_iff.mp e1
    obtain ⟨⟨ks, ds⟩, ed, e1⟩ := Option.bind_eq_some_iff.mp e1
    obtain ⟨ns, en, e2⟩ := Option.map_eq_some_iff.mp e1
    cases e2
    refine ⟨Z, α, β, env, S, ov, S1, R, eo, fun v H1 β1 R1 A1 r1 => ⟨Z, α, β1, env, S1, tv, S2, R1, et, fun u H2 β2 R2 A2 r2 => ?_⟩⟩
    obtain ⟨a, kvs, rfl, hH, k1, k2⟩ := dict_of R2 (r1.adv R1 A2) ed
    refine ⟨a, kvs, ns, u, rfl, rfl, hH, keysI_ok en k1, ?_⟩
    cases hx : ns.max? with
    | some m => rw [hx] at q; exact q _ H2 β2 R2 (A1.trb A2) (.inl (.int m))
    | none => rw [hx] at q; exact q _ H2 β2 R2 (A1.trb A2) (.inl r2.rep)
theorem T.dinK {ei eo : Expr} {i o : DE} (hu : X.A.units + 1 < cLine) (hi : EX X true ei i) (ho : EX X true eo o) (hm : behindInMarks .In eo = false := by rfl) : TX X (.Compare ei [.In] [eo] pos) (dBl (dInK false i o)) :=
  PT.imp (pt_cmp (pc_din hu hi ho) hm) fun σ H Q ⟨Z, α, β, env, S, d, S', R, e1, q⟩ => by
    unfold dBl at e1
    obtain ⟨⟨x, S0⟩, ex, e1⟩ := Option.bind_eq_some_iff.mp e1
    obtain ⟨kb, ekb, e1⟩ := Option.map_eq_some_iff.mp e1
    cases e1
    unfold dInK at ex
    obtain ⟨⟨iv, S1⟩, ei, e1⟩ := Option.bind_eq_some_iff.mp ex
    obtain ⟨⟨ov, S2⟩, eo, e1⟩ := Option.bind_eq_some_iff.mp e1
    obtain ⟨⟨ks, ds⟩, ed, e1⟩ := Option.bind_eq_some_iff.mp e1
    obtain ⟨k, ek, e2⟩ := Option.map_eq_some_iff.mp e1
    cases e2
    cases ekb
    refine ⟨Z, α, β, env, S, iv, S1, R, ei, fun v H1 β1 R1 A1 r1 => ⟨Z, α, β1, env, S1, ov, S2, R1, eo, fun w H2 β2 R2 A2 r2 => ?_⟩⟩
    obtain ⟨a, kvs, rfl, hH, k1, k2⟩ := dict_of R2 r2 ed
    refine ⟨a, valV kvs k, rfl, .inl ⟨kvs, k, hH, key_rep ek (r1.adv R1 A2), rfl⟩, ?_⟩
    rw [← valV_any, ← has_any k1]
    exact ⟨_, rfl, q H2 β2 R2 (A1.trb A2)⟩
theorem T.dninK {ei eo : Expr} {i o : DE} (hu : X.A.units + 1 < cLine) (hi : EX X true ei i) (ho : EX X true eo o) (hm : behindInMarks .NotIn eo = false := by rfl) : TX X (.Compare ei [.NotIn] [eo] pos) (dBl (dInK true i o)) :=
  PT.imp (pt_cmp (pc_dnotin hu hi ho) hm) fun σ H Q ⟨Z, α, β, env, S, d, S', R, e1, q⟩ => by
    unfold dBl at e1
    obtain ⟨⟨x, S0⟩, ex, e1⟩ := Option.bind_eq_some_iff.mp e1
    obtain ⟨kb, ekb, e1⟩ := Option.map_eq_some_iff.mp e1
    cases e1
    unfold dInK at ex
    obtain ⟨⟨iv, S1⟩, ei, e1⟩ := Option.bind_eq_some_iff.mp ex
    obtain ⟨⟨ov, S2⟩, eo, e1⟩ := Option.bind_eq_some_iff.mp e1
    obtain ⟨⟨ks, ds⟩, ed, e1⟩ := Option.bind_eq_some_iff.mp e1
    obtain ⟨k, ek, e2⟩ := Option.map_eq_some_iff.mp e1
    cases e2
    cases ekb
    refine ⟨Z, α, β, env, S, iv, S1, R, ei, fun v H1 β1 R1 A1 r1 => ⟨Z, α, β1, env, S1, ov, S2, R1, eo, fun w H2 β2 R2 A2 r2 => ?_⟩⟩
    obtain ⟨a, kvs, rfl, hH, k1, k2⟩ := dict_of R2 r2 ed
    refine ⟨a, valV kvs k, rfl, .inl ⟨kvs, k, hH, key_rep ek (r1.adv R1 A2), rfl⟩, ?_⟩
    rw [← valV_any, ← has_any k1]
    exact ⟨_, rfl, q H2 β2 R2 (A1.trb A2)⟩
end
end Rf
end
section
set_option maxHeartbeats 200000
/-! Rs: how a denotation is reckoned: one equation a construct, for simp. -/
namespace Rf
open PySem PySem.Spec PyProof.Rows L2

/-! a bind whose rest stands still: what is tagged by a later argument, simp leaves alone -/
structure Tg {α : Type} (f : α) : Type where
def _root_.Option.bnd {α β : Type} (x : Option α) (f : α → Option β) (_t : Tg f := ⟨⟩) : Option β := x.bind f
def _root_.Option.mpp {α β : Type} (x : Option α) (f : α → β) (_t : Tg f := ⟨⟩) : Option β := x.map f
@[simp] theorem bnd_some {α β : Type} (a : α) (f : α → Option β) (t : Tg f) : (some a).bnd f t = f a := (rfl)
@[simp] theorem bnd_none {α β : Type} (f : α → Option β) (t : Tg f) : (none : Option α).bnd f t = none := (rfl)
@[simp] theorem mpp_some {α β : Type} (a : α) (f : α → β) (t : Tg f) : (some a).mpp f t = some (f a) := (rfl)
@[simp] theorem mpp_none {α β : Type} (f : α → β) (t : Tg f) : (none : Option α).mpp f t = none := (rfl)
/-! ### names -/
@[simp] theorem dVar_0 (d : D) (e : Env) (S : Sto) : dVar 0 (.val d :: e) S = some (d, S) := (rfl)
@[simp] theorem dVar_s (i : Nat) (s : Sl) (e : Env) (S : Sto) : dVar (i + 1) (s :: e) S = dVar i e S := by
  unfold dVar; rw [List.getElem?_cons_succ]
@[simp] theorem dVarB_0 (d : D) (e : Env) (S : Sto) : dVarB 0 (.val d :: e) S = some (d, S) := (rfl)
@[simp] theorem dVarB_0o (c : Cell) (e : Env) (S : Sto) : dVarB 0 (.own c :: e) S = some (cellD c, S) := (rfl)
@[simp] theorem dVarB_s (i : Nat) (s : Sl) (e : Env) (S : Sto) : dVarB (i + 1) (s :: e) S = dVarB i e S := by
  unfold dVarB; rw [List.getElem?_cons_succ]
@[simp] theorem cellD_lst (xs : List D) : cellD (.lst xs) = .lst xs := (rfl)
@[simp] theorem cellD_dct (ks xs : List D) : cellD (.dct ks xs) = .dct ks xs := (rfl)
@[simp] theorem celD_lst (xs : List D) : celD (.lst xs) = some (.lst xs) := (rfl)
@[simp] theorem celD_dct (ks xs : List D) : celD (.dct ks xs) = some (.dct ks xs) := (rfl)
@[simp] theorem dC_eq (d : D) (e : Env) (S : Sto) : dC d e S = some (d, S) := (rfl)
/-- a name's slot is set -/
def setSl : Nat → Sl → Env → Option Env
  | _, _, [] => none
  | 0, x, _ :: e => some (x :: e)
  | i + 1, x, s :: e => (setSl i x e).map fun e => s :: e
theorem setSl_eq : ∀ (i : Nat) (x : Sl) (e : Env), setSl i x e = if i < e.length then some (e.set i x) else none
  | i, x, [] => by cases i <;> rfl
  | 0, x, s :: e => rfl
  | i + 1, x, s :: e => by
    rw [setSl, setSl_eq i x e, List.length_cons, List.set_cons_succ]
    by_cases h : i < e.length
    · rw [if_pos h, if_pos (by omega)]; rfl
    · rw [if_neg h, if_neg (by omega)]; rfl
@[simp] theorem setSl_0 (x s : Sl) (e : Env) : setSl 0 x (s :: e) = some (x :: e) := (rfl)
@[simp] theorem setSl_s (i : Nat) (x s : Sl) (e : Env) : setSl (i + 1) x (s :: e) = (setSl i x e).mpp fun e => s :: e := (rfl)
@[simp] theorem gNm_eq (i : Nat) (d : D) (e : Env) : gNm i d e = setSl i (.val d) e := by rw [setSl_eq]; rfl
@[simp] theorem gsNil_eq (e : Env) : gsNil [] e = some e := (rfl)
@[simp] theorem gsCons_eq (g : DG) (gs : List D → Env → Option Env) (d : D) (ds : List D) (e : Env) : gsCons g gs (d :: ds) e = (g d e).bnd (gs ds) := (rfl)
@[simp] theorem gTp_eq (n : Nat) (gs : List D → Env → Option Env) (xs : List D) (e : Env) : gTp n gs (.tup xs) e = if xs.length = n then gs xs e else none := (rfl)
@[simp] theorem gTp_par (n : Nat) (gs : List D → Env → Option Env) (xs : List D) (e : Env) : gTp n gs (.par xs) e = if xs.length = n then gs xs e else none := (rfl)
/-! ### operators -/
@[simp] theorem dOp2_eq (f : Sto → D → D → Option D) (ta tb : DE) (e : Env) (S : Sto) : dOp2 f ta tb e S = (ta e S).bnd fun p => (tb e p.2).bnd fun q => (f q.2 p.1 q.1).mpp fun z => (z, q.2) := (rfl)
@[simp] theorem dOp1_eq (f : Sto → D → Option D) (ta : DE) (e : Env) (S : Sto) : dOp1 f ta e S = (ta e S).bnd fun p => (f p.2 p.1).mpp fun z => (z, p.2) := (rfl)
@[simp] theorem dOpA_eq (f : Sto → List D → Option D) (u : DA) (e : Env) (S : Sto) : dOpA f u e S = (u e S).bnd fun p => (f p.2 p.1).mpp fun z => (z, p.2) := (rfl)
@[simp] theorem aNil_eq (e : Env) (S : Sto) : aNil e S = some ([], S) := (rfl)
@[simp] theorem aCons_eq (t : DE) (u : DA) (e : Env) (S : Sto) : aCons t u e S = (t e S).bnd fun p => (u e p.2).mpp fun q => (p.1 :: q.1, q.2) := (rfl)
@[simp] theorem dTup_eq (u : DA) (e : Env) (S : Sto) : dTup u e S = (u e S).bnd fun p => if p.1.length ≤ sizeLine then some (.tup p.1, p.2) else none := (rfl)
@[simp] theorem dLst_eq (u : DA) (e : Env) (S : Sto) : dLst u e S = (u e S).bnd fun p => if p.1.length ≤ sizeLine then some (.lst p.1, p.2) else none := (rfl)
@[simp] theorem dNew_eq (t : DE) (e : Env) (S : Sto) : dNew t e S = (t e S).bnd fun p => (celD p.1).mpp fun c => (.ref p.2.length, p.2 ++ [c]) := (rfl)
@[simp] theorem dCall_eq (φ : Fn) (u : DA) (e : Env) (S : Sto) : dCall φ u e S = (u e S).bnd fun p => φ p.1 p.2 := (rfl)
@[simp] theorem dIf_eq (c : DT) (t u : DE) (e : Env) (S : Sto) : dIf c t u e S = (c e S).bnd fun p => if p.1 = true then t e p.2 else u e p.2 := (rfl)
@[simp] theorem dAnd_eq (t u : DE) (e : Env) (S : Sto) : dAnd' t u e S = (t e S).bnd fun p => (truD p.2 p.1).bnd fun k => if k = true then u e p.2 else some p := (rfl)
@[simp] theorem dOr_eq (t u : DE) (e : Env) (S : Sto) : dOr' t u e S = (t e S).bnd fun p => (truD p.2 p.1).bnd fun k => if k = true then some p else u e p.2 := (rfl)
@[simp] theorem dTru_eq (t : DE) (e : Env) (S : Sto) : dTru t e S = (t e S).bnd fun p => (truD p.2 p.1).mpp fun k => (k, p.2) := (rfl)
@[simp] theorem dBl_eq (t : DE) (e : Env) (S : Sto) : dBl t e S = (t e S).bnd fun p => (blOf p.1).mpp fun k => (k, p.2) := (rfl)
@[simp] theorem blOf_bl (k : Bool) : blOf (.bl k) = some k := (rfl)
@[simp] theorem tNot_eq (t : DT) (e : Env) (S : Sto) : tNot' t e S = (t e S).mpp fun p => (!p.1, p.2) := (rfl)
@[simp] theorem tAnd_eq (t u : DT) (e : Env) (S : Sto) : tAnd' t u e S = (t e S).bnd fun p => if p.1 = true then u e p.2 else some (false, p.2) := (rfl)
@[simp] theorem tOr_eq (t u : DT) (e : Env) (S : Sto) : tOr' t u e S = (t e S).bnd fun p => if p.1 = true then some (true, p.2) else u e p.2 := (rfl)
@[simp] theorem tTrue_eq (e : Env) (S : Sto) : tTrue e S = some (true, S) := (rfl)
@[simp] theorem dIsi_eq (cs : List String) (t : DE) (e : Env) (S : Sto) : dIsi cs t e S = (t e S).bnd fun p => (typeD p.2 p.1).bnd fun T => (isiB cs T).mpp fun r => (.bl r, p.2) := (rfl)
@[simp] theorem oNo_eq (e : Env) (S : Sto) : oNo e S = some (none, S) := (rfl)
def intOf : D → Option Int
  | .int i => some i
  | _ => none
@[simp] theorem intOf_int (i : Int) : intOf (.int i) = some i := (rfl)
@[simp] theorem oP_eq (t : DE) (e : Env) (S : Sto) : oP t e S = (t e S).bnd fun p => (intOf p.1).mpp fun i => (some i, p.2) := by
  unfold oP
  congr 1
  funext p
  obtain ⟨d, S'⟩ := p
  cases d <;> rfl
@[simp] theorem dSl_eq (t : DE) (lo hi : DO) (e : Env) (S : Sto) : dSl t lo hi e S = (t e S).bnd fun p => (lo e p.2).bnd fun l => (hi e l.2).bnd fun h => (slD h.2 p.1 l.1 h.1).mpp fun z => (z, h.2) := (rfl)
/-! ### walks -/
@[simp] theorem iSeq_eq (t : DE) (e : Env) (S : Sto) : iSeq t e S = (t e S).bnd fun p => (itemsD p.2 p.1).mpp fun xs => ((xs, gdOf p.1), p.2) := (rfl)
@[simp] theorem iRng1_eq (t : DA) (e : Env) (S : Sto) : iRng1 t e S = (t e S).bnd fun p => (rgA p.1).mpp fun xs => ((xs, none), p.2) := (rfl)
@[simp] theorem iRng2_eq (t : DA) (e : Env) (S : Sto) : iRng2 t e S = (t e S).bnd fun p => (rgB p.1).mpp fun xs => ((xs, none), p.2) := (rfl)
theorem sizeL : (sizeLine : Nat) = 16777216 := sizeLine_eq
theorem rgA_ok {j : Int} (h : j ≤ 10000000) (h0 : 0 ≤ j) : rgA [.int j] = some (rngL 0 j.toNat) := chk_pos ⟨by omega, by omega, by rw [sizeL]; omega⟩
theorem rgB_ok {i j : Int} (h1 : -10000000 ≤ i) (h2 : i ≤ 10000000) (h3 : -5000000 ≤ j) (h4 : j ≤ 5000000) (h5 : j - i ≤ 10000000) : rgB [.int i, .int j] = some (rngL i (j - i).toNat) := chk_pos ⟨by omega, by omega, by omega, by omega, by rw [sizeL]; omega⟩
@[simp] theorem dLc_eq (di : DI) (vs : List Nat) (g : DG) (tt : DT) (te : DE) (e : Env) (S : Sto) : dLc di vs g tt te e S = (di e S).bnd fun p => lcGo g tt te p.1.2 p.1.1 (wipeE e vs) p.1.1 [] p.2 := (rfl)
@[simp] theorem wipeE_nil (e : Env) : wipeE e [] = e := (rfl)
@[simp] theorem wipeE_cons (e : Env) (v : Nat) (vs : List Nat) : wipeE e (v :: vs) = (wipeE e vs).set v .no := (rfl)
@[simp] theorem gok_none (all : List D) (S : Sto) : gok none all S ↔ True := (Iff.rfl)
/-! ### data -/
@[simp] theorem seqD_tup (S : Sto) (xs : List D) : seqD S (.tup xs) = some (true, xs) := (rfl)
@[simp] theorem seqD_lst (S : Sto) (xs : List D) : seqD S (.lst xs) = some (false, xs) := (rfl)
@[simp] theorem itemsD_tup (S : Sto) (xs : List D) : itemsD S (.tup xs) = some xs := (rfl)
@[simp] theorem itemsD_lst (S : Sto) (xs : List D) : itemsD S (.lst xs) = some xs := (rfl)
@[simp] theorem itemsD_scr (S : Sto) (xs : List D) : itemsD S (.scr xs) = some xs := (rfl)
@[simp] theorem gdOf_tup (xs : List D) : gdOf (.tup xs) = none := (rfl)
@[simp] theorem gdOf_lst (xs : List D) : gdOf (.lst xs) = none := (rfl)
@[simp] theorem gdOf_scr (xs : List D) : gdOf (.scr xs) = none := (rfl)
@[simp] theorem addD_int (S : Sto) (i j : Int) : addD S (.int i) (.int j) = some (.int (i + j)) := (rfl)
@[simp] theorem addD_tup (S : Sto) (xs ys : List D) : addD S (.tup xs) (.tup ys) = if xs.length + ys.length ≤ sizeLine then some (.tup (xs ++ ys)) else none := (rfl)
@[simp] theorem addD_lst (S : Sto) (xs ys : List D) : addD S (.lst xs) (.lst ys) = if xs.length + ys.length ≤ sizeLine then some (.lst (xs ++ ys)) else none := (rfl)
@[simp] theorem subD_int (S : Sto) (i j : Int) : subD S (.int i) (.int j) = some (.int (i - j)) := (rfl)
@[simp] theorem negD_int (S : Sto) (i : Int) : negD S (.int i) = some (.int (-i)) := (rfl)
theorem mulD_l {S : Sto} {i j : Int} (h1 : -(2 ^ 64) < i) (h2 : i < 2 ^ 64) : mulD S (.int i) (.int j) = some (.int (i * j)) := chk_pos (.inl ⟨h1, h2⟩)
theorem mulD_r {S : Sto} {i j : Int} (h1 : -(2 ^ 64) < j) (h2 : j < 2 ^ 64) : mulD S (.int i) (.int j) = some (.int (i * j)) := chk_pos (.inr ⟨h1, h2⟩)
theorem mulD_tup {S : Sto} {xs : List D} {k : Int} (h1 : k ≤ 10000000) (h2 : -10000000 ≤ k) (h3 : xs.length * k.toNat ≤ sizeLine) : mulD S (.tup xs) (.int k) = some (.tup (repL xs k)) :=
  (chk_pos ⟨by omega, by omega⟩ : mulD S (.tup xs) (.int k) = chk (xs.length * k.toNat ≤ sizeLine) (some (.tup (repL xs k)))).trans (chk_pos h3)
theorem mulD_lst {S : Sto} {xs : List D} {k : Int} (h1 : k ≤ 10000000) (h2 : -10000000 ≤ k) (h3 : xs.length * k.toNat ≤ sizeLine) : mulD S (.lst xs) (.int k) = some (.lst (repL xs k)) :=
  (chk_pos ⟨by omega, by omega⟩ : mulD S (.lst xs) (.int k) = chk (xs.length * k.toNat ≤ sizeLine) (some (.lst (repL xs k)))).trans (chk_pos h3)
theorem powD_ok {S : Sto} {i j : Int} (h : CPow i j) : powD S (.int i) (.int j) = some (.int (i ^ j.toNat)) := chk_pos h
theorem modD_pos {S : Sto} {i j : Int} (h : 0 < j) : modD S (.int i) (.int j) = some (.int (i % j)) := by
  show (if 0 < j then _ else _) = _
  rw [if_pos h]
theorem fdivD_pos {S : Sto} {i j : Int} (h : 0 < j) (h2 : j < 1073741824) : fdivD S (.int i) (.int j) = some (.int (i / j)) := by
  show (if 0 < j then _ else _) = _
  rw [if_pos h]
  exact chk_pos ⟨h, h2⟩
@[simp] theorem ltD_int (S : Sto) (i j : Int) : ltD S (.int i) (.int j) = some (.bl (decide (i < j))) := (rfl)
@[simp] theorem leD_int (S : Sto) (i j : Int) : leD S (.int i) (.int j) = some (.bl (decide (i ≤ j))) := (rfl)
@[simp] theorem gtD_int (S : Sto) (i j : Int) : gtD S (.int i) (.int j) = some (.bl (decide (j < i))) := (rfl)
@[simp] theorem geD_int (S : Sto) (i j : Int) : geD S (.int i) (.int j) = some (.bl (decide (j ≤ i))) := (rfl)
@[simp] theorem pyS_int (S : Sto) (i : Int) : pyS S (.int i) = some (.int i) := (rfl)
@[simp] theorem pyS_bl (S : Sto) (i : Bool) : pyS S (.bl i) = some (.bool i) := (rfl)
@[simp] theorem shaped_int (i : Int) : SeqAt.shaped (.int i) = true := by simp [SeqAt.shaped, PyData.canLay0, PyData.depth]
@[simp] theorem shaped_bool (i : Bool) : SeqAt.shaped (.bool i) = true := by simp [SeqAt.shaped, PyData.canLay0, PyData.depth]
@[simp] theorem shaped_none : SeqAt.shaped .none = true := by simp [SeqAt.shaped, PyData.canLay0, PyData.depth]
@[simp] theorem eqS_int (S : Sto) (i j : Int) : eqS S (.int i) (.int j) = some (i == j) := by
  unfold eqS
  simp [PyData.eqv]
@[simp] theorem eqS_bl (S : Sto) (i j : Bool) : eqS S (.bl i) (.bl j) = some (i == j) := by
  unfold eqS
  simp [PyData.eqv]
@[simp] theorem eqD_eq (S : Sto) (x y : D) : eqD S x y = (eqS S x y).mpp .bl := (rfl)
@[simp] theorem neD_eq (S : Sto) (x y : D) : neD S x y = (eqS S x y).mpp fun k => .bl (!k) := (rfl)
@[simp] theorem inD_eq (S : Sto) (x y : D) : inD S x y = (inS S x y).mpp .bl := (rfl)
@[simp] theorem ninD_eq (S : Sto) (x y : D) : ninD S x y = (inS S x y).mpp fun k => .bl (!k) := (rfl)
@[simp] theorem isD_non (S : Sto) (x : D) : isD S x .non = some (.bl (isNonD x)) := by cases x <;> rfl
@[simp] theorem isntD_non (S : Sto) (x : D) : isntD S x .non = some (.bl (!isNonD x)) := by cases x <;> rfl
@[simp] theorem isD_bl (S : Sto) (i j : Bool) : isD S (.bl i) (.bl j) = some (.bl (i == j)) := (rfl)
@[simp] theorem isntD_bl (S : Sto) (i j : Bool) : isntD S (.bl i) (.bl j) = some (.bl (!(i == j))) := (rfl)
@[simp] theorem isNonD_non : isNonD .non = true := (rfl)
@[simp] theorem isNonD_int (i : Int) : isNonD (.int i) = false := (rfl)
@[simp] theorem isNonD_bl (i : Bool) : isNonD (.bl i) = false := (rfl)
@[simp] theorem isNonD_str (i : PySem.Str) : isNonD (.str i) = false := (rfl)
@[simp] theorem isNonD_tup (i : List D) : isNonD (.tup i) = false := (rfl)
@[simp] theorem isNonD_lst (i : List D) : isNonD (.lst i) = false := (rfl)
@[simp] theorem truD_bl (S : Sto) (k : Bool) : truD S (.bl k) = some k := (rfl)
@[simp] theorem truD_int (S : Sto) (k : Int) : truD S (.int k) = some (k != 0) := (rfl)
@[simp] theorem truD_non (S : Sto) : truD S .non = some false := (rfl)
@[simp] theorem truD_tup (S : Sto) (xs : List D) : truD S (.tup xs) = some (!xs.isEmpty) := (rfl)
@[simp] theorem truD_lst (S : Sto) (xs : List D) : truD S (.lst xs) = some (!xs.isEmpty) := (rfl)
@[simp] theorem notD_eq (S : Sto) (x : D) : notD S x = (truD S x).mpp fun k => .bl (!k) := (rfl)
@[simp] theorem typeD_non (S : Sto) : typeD S .non = some "NoneType" := (rfl)
@[simp] theorem typeD_bl (S : Sto) (x : Bool) : typeD S (.bl x) = some "bool" := (rfl)
@[simp] theorem typeD_int (S : Sto) (x : Int) : typeD S (.int x) = some "int" := (rfl)
@[simp] theorem typeD_str (S : Sto) (x : PySem.Str) : typeD S (.str x) = some "str" := (rfl)
@[simp] theorem typeD_tup (S : Sto) (xs : List D) : typeD S (.tup xs) = some "tuple" := (rfl)
@[simp] theorem typeD_lst (S : Sto) (xs : List D) : typeD S (.lst xs) = some "list" := (rfl)
@[simp] theorem ixD_tup (S : Sto) (xs : List D) (i : Int) : ixD S (.tup xs) (.int i) = atI xs i := (rfl)
@[simp] theorem ixD_lst (S : Sto) (xs : List D) (i : Int) : ixD S (.lst xs) (.int i) = atI xs i := (rfl)
@[simp] theorem ixD_scr (S : Sto) (xs : List D) (i : Int) : ixD S (.scr xs) (.int i) = atI xs i := (rfl)
theorem seqD_ref {S : Sto} {n : Nat} {xs : List D} (h : S[n]? = some (.lst xs)) : seqD S (.ref n) = some (false, xs) := by
  simp only [seqD, h]
@[simp] theorem seqD_ref0 (S : Sto) (xs : List D) : seqD (.lst xs :: S) (.ref 0) = some (false, xs) := (rfl)
theorem ixD_ref {S : Sto} {n : Nat} {xs : List D} {i : Int} (h : S[n]? = some (.lst xs)) : ixD S (.ref n) (.int i) = atI xs i := by
  show (match seqD S (.ref n) with | some (_, xs) => atI xs i | none => none) = _
  rw [seqD_ref h]
@[simp] theorem ixD_ref0 (S : Sto) (xs : List D) (i : Int) : ixD (.lst xs :: S) (.ref 0) (.int i) = atI xs i := (rfl)
@[simp] theorem slD_tup (S : Sto) (xs : List D) (l h : Option Int) : slD S (.tup xs) l h = some (.tup (cutD xs l h)) := (rfl)
@[simp] theorem slD_lst (S : Sto) (xs : List D) (l h : Option Int) : slD S (.lst xs) l h = some (.lst (cutD xs l h)) := (rfl)
@[simp] theorem lenD_tup (S : Sto) (xs : List D) : lenD S [.tup xs] = some (.int xs.length) := (rfl)
@[simp] theorem lenD_lst (S : Sto) (xs : List D) : lenD S [.lst xs] = some (.int xs.length) := (rfl)
@[simp] theorem lenD_scr (S : Sto) (xs : List D) : lenD S [.scr xs] = some (.int xs.length) := (rfl)
@[simp] theorem absD_int (S : Sto) (i : Int) : absD S [.int i] = some (.int (if i < 0 then -i else i)) := (rfl)
@[simp] theorem intD_int (S : Sto) (i : Int) : intD S [.int i] = some (.int i) := (rfl)
@[simp] theorem intD_bl (S : Sto) (k : Bool) : intD S [.bl k] = some (.int (if k then 1 else 0)) := (rfl)
@[simp] theorem max2D_int (S : Sto) (i j : Int) : max2D S [.int i, .int j] = some (.int (if j > i then j else i)) := (rfl)
@[simp] theorem min2D_int (S : Sto) (i j : Int) : min2D S [.int i, .int j] = some (.int (if j < i then j else i)) := (rfl)
@[simp] theorem listD_tup (S : Sto) (xs : List D) : listD S [.tup xs] = some (.lst xs) := (rfl)
@[simp] theorem listD_lst (S : Sto) (xs : List D) : listD S [.lst xs] = some (.lst xs) := (rfl)
@[simp] theorem listD_scr (S : Sto) (xs : List D) : listD S [.scr xs] = some (.lst xs) := (rfl)
@[simp] theorem tupleD_tup (S : Sto) (xs : List D) : tupleD S [.tup xs] = some (.tup xs) := (rfl)
@[simp] theorem tupleD_lst (S : Sto) (xs : List D) : tupleD S [.lst xs] = some (.tup xs) := (rfl)
@[simp] theorem sumD_tup (S : Sto) (xs : List D) : sumD S [.tup xs] = (intsD xs).mpp fun ns => .int ns.sum := (rfl)
@[simp] theorem sumD_lst (S : Sto) (xs : List D) : sumD S [.lst xs] = (intsD xs).mpp fun ns => .int ns.sum := (rfl)
@[simp] theorem allD_lst (S : Sto) (xs : List D) : allD S [.lst xs] = (blsD xs).mpp fun ns => .bl (ns.all id) := (rfl)
@[simp] theorem anyD_lst (S : Sto) (xs : List D) : anyD S [.lst xs] = (blsD xs).mpp fun ns => .bl (ns.any id) := (rfl)
@[simp] theorem intsD_m (ns : List Int) : intsD (ns.map .int) = some ns := intsD_map ns
@[simp] theorem blsD_m (ns : List Bool) : blsD (ns.map .bl) = some ns := blsD_map ns
@[simp] theorem intsD_nil : intsD [] = some [] := (rfl)
@[simp] theorem intsD_cons (n : Int) (xs : List D) : intsD (.int n :: xs) = (intsD xs).mpp fun r => n :: r := (rfl)
@[simp] theorem blsD_nil : blsD [] = some [] := (rfl)
@[simp] theorem blsD_cons (n : Bool) (xs : List D) : blsD (.bl n :: xs) = (blsD xs).mpp fun r => n :: r := (rfl)
/-! ### isinstance -/
@[simp] theorem isi_1 : isiB ["list", "tuple"] "NoneType" = some false := by decide +kernel
@[simp] theorem isi_2 : isiB ["list", "tuple"] "bool" = some false := by decide +kernel
@[simp] theorem isi_3 : isiB ["list", "tuple"] "int" = some false := by decide +kernel
@[simp] theorem isi_4 : isiB ["list", "tuple"] "str" = some false := by decide +kernel
@[simp] theorem isi_5 : isiB ["list", "tuple"] "tuple" = some true := by decide +kernel
@[simp] theorem isi_6 : isiB ["list", "tuple"] "list" = some true := by decide +kernel
@[simp] theorem isi_7 : isiB ["list", "tuple"] "dict" = some false := by decide +kernel
@[simp] theorem isi_8 : isiB ["tuple", "list"] "NoneType" = some false := by decide +kernel
@[simp] theorem isi_9 : isiB ["tuple", "list"] "bool" = some false := by decide +kernel
@[simp] theorem isi_10 : isiB ["tuple", "list"] "int" = some false := by decide +kernel
@[simp] theorem isi_11 : isiB ["tuple", "list"] "str" = some false := by decide +kernel
@[simp] theorem isi_12 : isiB ["tuple", "list"] "tuple" = some true := by decide +kernel
@[simp] theorem isi_13 : isiB ["tuple", "list"] "list" = some true := by decide +kernel
@[simp] theorem isi_14 : isiB ["tuple", "list"] "dict" = some false := by decide +kernel
@[simp] theorem isi_15 : isiB ["list"] "NoneType" = some false := by decide +kernel
@[simp] theorem isi_16 : isiB ["list"] "bool" = some false := by decide +kernel
@[simp] theorem isi_17 : isiB ["list"] "int" = some false := by decide +kernel
@[simp] theorem isi_18 : isiB ["list"] "str" = some false := by decide +kernel
@[simp] theorem isi_19 : isiB ["list"] "tuple" = some false := by decide +kernel
@[simp] theorem isi_20 : isiB ["list"] "list" = some true := by decide +kernel
@[simp] theorem isi_21 : isiB ["list"] "dict" = some false := by decide +kernel
@[simp] theorem isi_22 : isiB ["tuple"] "NoneType" = some false := by decide +kernel
@[simp] theorem isi_23 : isiB ["tuple"] "bool" = some false := by decide +kernel
@[simp] theorem isi_24 : isiB ["tuple"] "int" = some false := by decide +kernel
@[simp] theorem isi_25 : isiB ["tuple"] "str" = some false := by decide +kernel
@[simp] theorem isi_26 : isiB ["tuple"] "tuple" = some true := by decide +kernel
@[simp] theorem isi_27 : isiB ["tuple"] "list" = some false := by decide +kernel
@[simp] theorem isi_28 : isiB ["tuple"] "dict" = some false := by decide +kernel
@[simp] theorem isi_29 : isiB ["bool"] "NoneType" = some false := by decide +kernel
@[simp] theorem isi_30 : isiB ["bool"] "bool" = some true := by decide +kernel
@[simp] theorem isi_31 : isiB ["bool"] "int" = some false := by decide +kernel
@[simp] theorem isi_32 : isiB ["bool"] "str" = some false := by decide +kernel
@[simp] theorem isi_33 : isiB ["bool"] "tuple" = some false := by decide +kernel
@[simp] theorem isi_34 : isiB ["bool"] "list" = some false := by decide +kernel
@[simp] theorem isi_35 : isiB ["bool"] "dict" = some false := by decide +kernel
@[simp] theorem isi_36 : isiB ["str"] "NoneType" = some false := by decide +kernel
@[simp] theorem isi_37 : isiB ["str"] "bool" = some false := by decide +kernel
@[simp] theorem isi_38 : isiB ["str"] "int" = some false := by decide +kernel
@[simp] theorem isi_39 : isiB ["str"] "str" = some true := by decide +kernel
@[simp] theorem isi_40 : isiB ["str"] "tuple" = some false := by decide +kernel
@[simp] theorem isi_41 : isiB ["str"] "list" = some false := by decide +kernel
@[simp] theorem isi_42 : isiB ["str"] "dict" = some false := by decide +kernel
@[simp] theorem isi_43 : isiB ["int"] "NoneType" = some false := by decide +kernel
@[simp] theorem isi_44 : isiB ["int"] "bool" = some true := by decide +kernel
@[simp] theorem isi_45 : isiB ["int"] "int" = some true := by decide +kernel
@[simp] theorem isi_46 : isiB ["int"] "str" = some false := by decide +kernel
@[simp] theorem isi_47 : isiB ["int"] "tuple" = some false := by decide +kernel
@[simp] theorem isi_48 : isiB ["int"] "list" = some false := by decide +kernel
@[simp] theorem isi_49 : isiB ["int"] "dict" = some false := by decide +kernel
@[simp] theorem isi_50 : isiB ["dict"] "NoneType" = some false := by decide +kernel
@[simp] theorem isi_51 : isiB ["dict"] "bool" = some false := by decide +kernel
@[simp] theorem isi_52 : isiB ["dict"] "int" = some false := by decide +kernel
@[simp] theorem isi_53 : isiB ["dict"] "str" = some false := by decide +kernel
@[simp] theorem isi_54 : isiB ["dict"] "tuple" = some false := by decide +kernel
@[simp] theorem isi_55 : isiB ["dict"] "list" = some false := by decide +kernel
@[simp] theorem isi_56 : isiB ["dict"] "dict" = some true := by decide +kernel
/-! ### statements -/
@[simp] theorem sNil_eq (e : Env) (S : Sto) : sNil e S = some (.nx e, S) := (rfl)
/-- what follows a statement -/
def thenS (u : DS) (p : Fl × Sto) : Option (Fl × Sto) := match p.1 with
  | .nx env' => u env' p.2
  | f => some (f, p.2)
@[simp] theorem sSeq_eq (t u : DS) (e : Env) (S : Sto) : sSeq t u e S = (t e S).bnd (thenS u) := (rfl)
@[simp] theorem thenS_nx (u : DS) (e : Env) (S : Sto) : thenS u (.nx e, S) = u e S := (rfl)
@[simp] theorem thenS_rt (u : DS) (d : D) (S : Sto) : thenS u (.rt d, S) = some (.rt d, S) := (rfl)
@[simp] theorem thenS_bk (u : DS) (e : Env) (S : Sto) : thenS u (.bk e, S) = some (.bk e, S) := (rfl)
@[simp] theorem thenS_ct (u : DS) (e : Env) (S : Sto) : thenS u (.ct e, S) = some (.ct e, S) := (rfl)
@[simp] theorem sPass_eq (e : Env) (S : Sto) : sPass e S = some (.nx e, S) := (rfl)
@[simp] theorem sBrk_eq (e : Env) (S : Sto) : sBrk e S = some (.bk e, S) := (rfl)
@[simp] theorem sCnt_eq (e : Env) (S : Sto) : sCnt e S = some (.ct e, S) := (rfl)
@[simp] theorem sExpr_eq (t : DE) (e : Env) (S : Sto) : sExpr t e S = (t e S).mpp fun p => (.nx e, p.2) := (rfl)
@[simp] theorem sRet_eq (t : DE) (e : Env) (S : Sto) : sRet t e S = (t e S).mpp fun p => (.rt p.1, p.2) := (rfl)
@[simp] theorem sRetN_eq (e : Env) (S : Sto) : sRetN e S = some (.rt .non, S) := (rfl)
@[simp] theorem sAsg_eq (g : DG) (t : DE) (e : Env) (S : Sto) : sAsg g t e S = (t e S).bnd fun p => (g p.1 e).mpp fun e' => (.nx e', p.2) := (rfl)
@[simp] theorem sOwn_eq (i : Nat) (t : DE) (e : Env) (S : Sto) : sOwn i t e S = (t e S).bnd fun p => (celD p.1).bnd fun c => (setSl i (.own c) e).mpp fun e' => (.nx e', p.2) := by
  unfold sOwn
  congr 1
  funext p
  congr 1
  funext c
  rw [setSl_eq]
  split <;> rfl
/-- the items of a name's own list -/
def ownL : Nat → Env → Option (List D)
  | 0, .own (.lst xs) :: _ => some xs
  | 0, _ => none
  | _ + 1, [] => none
  | i + 1, _ :: e => ownL i e
@[simp] theorem ownL_0 (xs : List D) (e : Env) : ownL 0 (.own (.lst xs) :: e) = some xs := (rfl)
@[simp] theorem ownL_s (i : Nat) (s : Sl) (e : Env) : ownL (i + 1) (s :: e) = ownL i e := (rfl)
theorem ownL_some : ∀ (i : Nat) (e : Env) (xs : List D), ownL i e = some xs → e[i]? = some (.own (.lst xs))
  | 0, s :: e, xs, h => by
    cases s <;> try (cases h; done)
    rename_i c
    cases c <;> try (cases h; done)
    cases h
    rfl
  | 0, [], _, h => by cases h
  | i + 1, [], _, h => by cases h
  | i + 1, s :: e, xs, h => by rw [List.getElem?_cons_succ]; exact ownL_some i e xs h
theorem sAppOwn_eq {i : Nat} {t : DE} {e : Env} {S S' : Sto} {d : D} {xs : List D} {e' : Env} (h1 : t e S = some (d, S')) (h2 : ownL i e = some xs) (h3 : xs.length < sizeLine) (h4 : setSl i (.own (.lst (xs ++ [d]))) e = some e') : sAppOwn i t e S = some (.nx e', S') := by
  unfold sAppOwn
  rw [h1]
  simp only [Option.bind_some, ownL_some i e xs h2]
  rw [setSl_eq] at h4
  split at h4
  · cases h4
    rw [if_pos h3]
  · cases h4
@[simp] theorem sIf_eq (c : DT) (a b : DS) (e : Env) (S : Sto) : sIf c a b e S = (c e S).bnd fun p => if p.1 = true then a e p.2 else b e p.2 := (rfl)
@[simp] theorem sFor_eq (g : DG) (di : DI) (tb : DS) (e : Env) (S : Sto) : sFor g di tb e S = (di e S).bnd fun p => forGo g tb p.1.2 p.1.1 p.1.1 e p.2 := (rfl)
/-- what a turn's end does to the loop -/
def turnS (k : Env → Sto → Option (Fl × Sto)) (p : Fl × Sto) : Option (Fl × Sto) := match p.1 with
  | .nx env' => k env' p.2
  | .ct env' => k env' p.2
  | .bk env' => some (.nx env', p.2)
  | .rt d => some (.rt d, p.2)
@[simp] theorem turnS_nx (k : Env → Sto → Option (Fl × Sto)) (e : Env) (S : Sto) : turnS k (.nx e, S) = k e S := (rfl)
@[simp] theorem turnS_ct (k : Env → Sto → Option (Fl × Sto)) (e : Env) (S : Sto) : turnS k (.ct e, S) = k e S := (rfl)
@[simp] theorem turnS_bk (k : Env → Sto → Option (Fl × Sto)) (e : Env) (S : Sto) : turnS k (.bk e, S) = some (.nx e, S) := (rfl)
@[simp] theorem turnS_rt (k : Env → Sto → Option (Fl × Sto)) (d : D) (S : Sto) : turnS k (.rt d, S) = some (.rt d, S) := (rfl)
theorem forGo_nil {g : DG} {tb : DS} {all : List D} {e : Env} {S : Sto} : forGo g tb none all [] e S = some (.nx e, S) := by rw [forGo, if_pos (show gok none all S from trivial)]
theorem forGo_cons {g : DG} {tb : DS} {all ds : List D} {d : D} {e : Env} {S : Sto} : forGo g tb none all (d :: ds) e S = (g d e).bnd fun e1 => (tb e1 S).bnd (turnS (forGo g tb none all ds)) := by
  rw [forGo, if_pos (show gok none all S from trivial)]
  rfl
theorem lcGo_nil {g : DG} {tt : DT} {te : DE} {all acc : List D} {we : Env} {S : Sto} : lcGo g tt te none all we [] acc S = some (.lst acc, S) := by rw [lcGo, if_pos (show gok none all S from trivial)]
theorem lcGo_cons {g : DG} {tt : DT} {te : DE} {all acc ds : List D} {d : D} {we : Env} {S : Sto} : lcGo g tt te none all we (d :: ds) acc S = (g d we).bnd fun e2 => (tt e2 S).bnd fun k => if k.1 = true then (te e2 k.2).bnd fun y => lcGo g tt te none all we ds (acc ++ [y.1]) y.2 else lcGo g tt te none all we ds acc k.2 := by
  rw [lcGo, if_pos (show gok none all S from trivial)]
  rfl
/-- a comprehension without a test whose element leaves the store -/
theorem lcGo_map {g : DG} {te : DE} {all : List D} {we : Env} {S : Sto} {f : D → D} : ∀ (ds acc : List D), (∀ d ∈ ds, ∃ e2, g d we = some e2 ∧ te e2 S = some (f d, S)) → lcGo g tTrue te none all we ds acc S = some (.lst (acc ++ ds.map f), S)
  | [], acc, _ => by rw [lcGo_nil]; simp
  | d :: ds, acc, h => by
    obtain ⟨e2, h1, h2⟩ := h d (by simp)
    rw [lcGo_cons, h1]
    simp only [bnd_some, mpp_some, Option.bind_some, tTrue_eq, if_true, h2]
    rw [lcGo_map ds _ fun d hd => h d (List.mem_cons_of_mem _ hd)]
    simp
/-- .. with a test -/
theorem lcGo_filter {g : DG} {tt : DT} {te : DE} {all : List D} {we : Env} {S : Sto} {f : D → D} {c : D → Bool} : ∀ (ds acc : List D), (∀ d ∈ ds, ∃ e2, g d we = some e2 ∧ tt e2 S = some (c d, S) ∧ (c d = true → te e2 S = some (f d, S))) → lcGo g tt te none all we ds acc S = some (.lst (acc ++ (ds.filter c).map f), S)
  | [], acc, _ => by rw [lcGo_nil]; simp
  | d :: ds, acc, h => by
    obtain ⟨e2, h1, h2, h3⟩ := h d (by simp)
    rw [lcGo_cons, h1]
    simp only [bnd_some, mpp_some, Option.bind_some, h2]
    by_cases hc : c d = true
    · rw [if_pos hc, h3 hc]
      simp only [bnd_some, mpp_some, Option.bind_some]
      rw [lcGo_filter ds _ fun d hd => h d (List.mem_cons_of_mem _ hd), List.filter_cons_of_pos hc]
      simp
    · rw [if_neg hc, lcGo_filter ds _ fun d hd => h d (List.mem_cons_of_mem _ hd), List.filter_cons_of_neg hc]
/-! ### defs -/
def endF (p : Fl × Sto) : Option (D × Sto) := match p.1 with
  | .rt d => some (d, p.2)
  | .nx _ => some (.non, p.2)
  | _ => none
@[simp] theorem endF_rt (d : D) (S : Sto) : endF (.rt d, S) = some (d, S) := (rfl)
@[simp] theorem endF_nx (e : Env) (S : Sto) : endF (.nx e, S) = some (.non, S) := (rfl)
theorem runF_eq {N k : Nat} {t : DS} {ds : List D} {S : Sto} (h : ds.length = k) : runF N k t ds S = (t (startE N ds) S).bnd endF := by
  unfold runF
  rw [if_pos h]
  cases t (startE N ds) S with
  | none => rfl
  | some p =>
    obtain ⟨f, S'⟩ := p
    cases f <;> rfl
theorem runF1 {N : Nat} {t : DS} {a0 : D} {S : Sto} : runF N 1 t [a0] S = (t (.val a0 :: List.replicate (N - 1) .no) S).bnd endF := runF_eq rfl
theorem runF2 {N : Nat} {t : DS} {a0 a1 : D} {S : Sto} : runF N 2 t [a0, a1] S = (t (.val a0 :: .val a1 :: List.replicate (N - 2) .no) S).bnd endF := runF_eq rfl
theorem runF3 {N : Nat} {t : DS} {a0 a1 a2 : D} {S : Sto} : runF N 3 t [a0, a1, a2] S = (t (.val a0 :: .val a1 :: .val a2 :: List.replicate (N - 3) .no) S).bnd endF := runF_eq rfl
theorem runF4 {N : Nat} {t : DS} {a0 a1 a2 a3 : D} {S : Sto} : runF N 4 t [a0, a1, a2, a3] S = (t (.val a0 :: .val a1 :: .val a2 :: .val a3 :: List.replicate (N - 4) .no) S).bnd endF := runF_eq rfl
theorem runF5 {N : Nat} {t : DS} {a0 a1 a2 a3 a4 : D} {S : Sto} : runF N 5 t [a0, a1, a2, a3, a4] S = (t (.val a0 :: .val a1 :: .val a2 :: .val a3 :: .val a4 :: List.replicate (N - 5) .no) S).bnd endF := runF_eq rfl
theorem runF6 {N : Nat} {t : DS} {a0 a1 a2 a3 a4 a5 : D} {S : Sto} : runF N 6 t [a0, a1, a2, a3, a4, a5] S = (t (.val a0 :: .val a1 :: .val a2 :: .val a3 :: .val a4 :: .val a5 :: List.replicate (N - 6) .no) S).bnd endF := runF_eq rfl
theorem runF7 {N : Nat} {t : DS} {a0 a1 a2 a3 a4 a5 a6 : D} {S : Sto} : runF N 7 t [a0, a1, a2, a3, a4, a5, a6] S = (t (.val a0 :: .val a1 :: .val a2 :: .val a3 :: .val a4 :: .val a5 :: .val a6 :: List.replicate (N - 7) .no) S).bnd endF := runF_eq rfl
theorem runF8 {N : Nat} {t : DS} {a0 a1 a2 a3 a4 a5 a6 a7 : D} {S : Sto} : runF N 8 t [a0, a1, a2, a3, a4, a5, a6, a7] S = (t (.val a0 :: .val a1 :: .val a2 :: .val a3 :: .val a4 :: .val a5 :: .val a6 :: .val a7 :: List.replicate (N - 8) .no) S).bnd endF := runF_eq rfl
@[simp] theorem bind_none' {α β : Type} (f : α → Option β) : (none : Option α).bind f = none := (rfl)
/-- ints in a tuple, in a list -/
abbrev tI (xs : List Int) : D := .tup (xs.map .int)
abbrev lI (xs : List Int) : D := .lst (xs.map .int)
theorem atI_map {α β : Type} (f : α → β) (xs : List α) (i : Int) : atI (xs.map f) i = (atI xs i).map f := by
  unfold atI
  rw [List.length_map]
  cases ixN xs.length i with
  | none => rfl
  | some j => simp
theorem atI_nn {α : Type} {xs : List α} {i : Int} (h0 : 0 ≤ i) : atI xs i = xs[i.toNat]? := by
  unfold atI ixN
  rw [if_pos h0]
  by_cases h : i < (xs.length : Int)
  · rw [if_pos h]; rfl
  · rw [if_neg h]
    rw [List.getElem?_eq_none (by omega)]
    rfl
theorem atI_neg {α : Type} {xs : List α} {i : Int} (h0 : i < 0) (h1 : -(xs.length : Int) ≤ i) : atI xs i = xs[(i + xs.length).toNat]? := by
  unfold atI ixN
  rw [if_neg (by omega), if_pos h1]
  rfl
def cutL {α : Type} (xs : List α) (lo hi : Option Int) : List α := (xs.drop (HT.sIx xs.length 0 lo)).take (HT.sIx xs.length xs.length hi - HT.sIx xs.length 0 lo)
theorem cutD_map {α : Type} (f : α → D) (xs : List α) (lo hi : Option Int) : cutD (xs.map f) lo hi = (cutL xs lo hi).map f := by
  unfold cutD cutL
  rw [List.length_map, List.map_take, List.map_drop]
theorem sIx_nn {n d : Nat} {i : Int} (h : 0 ≤ i) : HT.sIx n d (some i) = min i.toNat n := by
  obtain ⟨k, rfl⟩ := Int.eq_ofNat_of_zero_le h
  rw [HT.sIx_nat]; rfl
theorem cutL_to {α : Type} {xs : List α} {i : Int} (h : 0 ≤ i) : cutL xs none (some i) = xs.take i.toNat := by
  unfold cutL
  rw [HT.sIx_none, sIx_nn h, List.drop_zero, Nat.sub_zero]
  rw [List.take_eq_take_iff]
  omega
theorem cutL_from {α : Type} {xs : List α} {i : Int} (h : 0 ≤ i) : cutL xs (some i) none = xs.drop i.toNat := by
  unfold cutL
  rw [HT.sIx_none, sIx_nn h]
  by_cases hl : i.toNat ≤ xs.length
  · rw [Nat.min_eq_left hl, List.take_of_length_le (by simp)]
  · rw [Nat.min_eq_right (by omega), Nat.sub_self, List.take_zero, List.drop_eq_nil_of_le (by omega)]
theorem cutL_mid {α : Type} {xs : List α} {i j : Int} (h : 0 ≤ i) (h2 : 0 ≤ j) : cutL xs (some i) (some j) = (xs.drop i.toNat).take (j.toNat - i.toNat) := by
  unfold cutL
  rw [sIx_nn h, sIx_nn h2]
  by_cases hl : i.toNat ≤ xs.length
  · rw [Nat.min_eq_left hl, List.take_eq_take_iff, List.length_drop]
    omega
  · have h1 : xs.drop (min i.toNat xs.length) = [] := List.drop_eq_nil_of_le (by omega)
    have h2 : xs.drop i.toNat = [] := List.drop_eq_nil_of_le (by omega)
    rw [h1, h2, List.take_nil, List.take_nil]
theorem repL_map {α : Type} (f : α → D) (xs : List α) (k : Int) : repL (xs.map f) k = ((List.replicate k.toNat xs).flatten).map f := by
  unfold repL
  rw [List.map_flatten, List.map_replicate]
end Rf
end
section
set_option maxHeartbeats 2000000
/-! Rg, part H: range with a step above none. -/
namespace Rf
open PySem PySem.Spec PyProof.Rows L2
def stpL (lo c : Int) (n : Nat) : List D := (List.range n).map fun i : Nat => .int (lo + (i : Int) * c)
theorem stpL_len (lo c : Int) (n : Nat) : (stpL lo c n).length = n := by unfold stpL; simp
def stpN (i j c : Int) : Nat := (if i < j then (j - i - 1) / c + 1 else 0).toNat
noncomputable def rgS : List D → Option (List D)
  | [.int i, .int j, .int c] => chk (0 < c ∧ c ≤ 1048576 ∧ -1048576 ≤ i ∧ i ≤ 1048576 ∧ -1048576 ≤ j ∧ j ≤ 1048576) (some (stpL i c (stpN i j c)))
  | _ => none
noncomputable def iRngS (t : DA) : DI := fun env S => (t env S).bind fun p => (rgS p.1).map fun xs => ((xs, none), p.2)
@[simp] theorem iRngS_eq (t : DA) (e : Env) (S : Sto) : iRngS t e S = (t e S).bnd fun p => (rgS p.1).mpp fun xs => ((xs, none), p.2) := (rfl)
theorem RgC.pos {i j c : Int} (h : 0 < c ∧ c ≤ 1048576 ∧ -1048576 ≤ i ∧ i ≤ 1048576 ∧ -1048576 ≤ j ∧ j ≤ 1048576) : RgC i j c (stpN i j c) ∧ stpN i j c ≤ 2097152 := by
  obtain ⟨h1, h2, h3, h4, h5, h6⟩ := h
  have hr : Builtin.Range.rangeSize i j c = if i < j then (j - i - 1) / c + 1 else 0 := by
    unfold Builtin.Range.rangeSize
    rw [if_pos (by omega)]
  have hb : 0 ≤ (if i < j then (j - i - 1) / c + 1 else 0 : Int) ∧ (if i < j then (j - i - 1) / c + 1 else 0 : Int) ≤ 2097152 := by
    split
    · have q1 : 0 ≤ (j - i - 1) / c := Int.ediv_nonneg (by omega) (by omega)
      have q2 : (j - i - 1) / c ≤ j - i - 1 := Int.ediv_le_self _ (by omega)
      omega
    · omega
  refine ⟨⟨by omega, by omega, ?_, ?_⟩, ?_⟩
  · have hm : (if i < j then (j - i - 1) / c + 1 else 0 : Int) * c ≤ 2097152 + 1048576 := by
      split
      · have := Int.ediv_mul_le (j - i - 1) (show c ≠ 0 by omega)
        rw [Int.add_mul]
        omega
      · omega
    unfold Builtin.Range.small
    rw [hr]
    generalize (if i < j then (j - i - 1) / c + 1 else 0 : Int) = z at hb hm
    simp only [Builtin.Range.rangeFitsLong, Bool.and_eq_true, Bool.or_eq_true, decide_eq_true_eq, beq_iff_eq, show c > 0 from h1, if_true]
    omega
  · rw [hr]
    unfold stpN
    omega
  · unfold stpN
    omega
section
variable {X : Cx} {b : Bool} {e e2 e3 tg : Expr} {p pos : Pos}
theorem its2_ok {K : PySem.W.Frag} {mg : Mg} {Z : Addr → Prop} {α : Nat → Option Addr} {β : List Addr} {H : Hp} {lo c : Int} {n : Nat} : ItOk K mg b Z α β H (Itc lo c n) (stpL lo c n) none where
  go := fun i d Z1 α1 β1 env1 S1 σ1 H1 R1 k g e => by
    unfold stpL at e
    rw [List.getElem?_map] at e
    obtain ⟨j, e1, rfl⟩ := Option.map_eq_some_iff.mp e
    obtain ⟨e2, e3⟩ := List.getElem?_eq_some_iff.mp e1
    rw [List.getElem_range] at e3
    subst e3
    refine ⟨show i < n by simpa using e2, fun y H2 hy => ?_⟩
    obtain ⟨rfl, rfl⟩ := hy
    exact ⟨fun _ _ e => e, R1, .refl, .int _⟩
  stop := fun i Z1 α1 β1 env1 S1 σ1 H1 R1 k g hl => by rw [stpL_len] at hl; exact hl
theorem I.rngS {a : DA} (hg : Gl X "range") (hm : X.mg "range" = none) (ha : AX X true [e, e2, e3] a) (hs : starEach [e, e2, e3] X.env = (false, eval e X.env) :: starEach [e2, e3] X.env := by rfl) (hpl : (backTo pos (starEach [e2, e3] X.env)).any (·.1) = false := by rfl) : IX X b tg (.Call (.Name "range" p) [e, e2, e3] [] pos) (iRngS a) :=
  PI.imp (pi_range3 hg hm ha hs hpl) fun σ H R' ⟨Z, α, β, env, S, items, gd, S', R, e1, q⟩ => by
    unfold iRngS at e1
    obtain ⟨⟨xs, S1⟩, ex, e2⟩ := Option.bind_eq_some_iff.mp e1
    obtain ⟨its, e3, e4⟩ := Option.map_eq_some_iff.mp e2
    clear e1 e2
    cases e4
    replace e3 : rgS xs = some items := e3
    revert e3
    unfold rgS
    intro e1
    split at e1
    · rename_i i j c
      obtain ⟨hj, e1⟩ := chk_some e1
      cases e1
      refine ⟨Z, α, β, env, S, _, _, R, ex, fun vs H1 β1 R1 A1 r1 => ?_⟩
      obtain ⟨v, w, z, rfl, r, r2, r3⟩ := Paired.three r1
      obtain ⟨q1, q2⟩ := RgC.pos hj
      exact ⟨i, j, c, stpN i j c, by rw [r.int, r2.int, r3.int], q1, q _ H1 β1 R1 A1 (by rw [stpL_len, sizeLine_eq]; omega) its2_ok⟩
    · cases e1
end
end Rf
end
section
set_option maxHeartbeats 2000000
/-! Rg, part I: dicts whose keys are tuples, in the store. -/
namespace Rf
open PySem PySem.Spec PyProof.Rows L2
/-! ### keys -/
section
variable {X : Cx} {pins : List (Addr × Obj)} {σ : L2.St} {H : Hp} {s : Shared} {mg : Mg} {β : List Addr} {O : Addr → Prop}
mutual
theorem nk_is (I : Inv X pins σ H s) : ∀ (d : D) {k : NestedKey} {v : V} {u : Value}, nkD d = some k → Rep X.K mg β O H d v → RelV v u → NestedIs s.heap k u
  | .non, k, v, u, h, r, ru => by
    cases h; cases r; cases ru
    exact .none
  | .bl b, k, v, u, h, r, ru => by
    cases h; cases r; cases ru
    exact .bool rfl
  | .int i, k, v, u, h, r, ru => by
    cases h; cases r
    obtain ⟨t, rfl⟩ := ru
    exact .int i t
  | .str x, k, v, u, h, r, ru => by
    cases h; cases r
    obtain ⟨t, rfl⟩ := ru
    exact .text x t
  | .tup ds, k, v, u, h, r, ru => by
    unfold nkD at h
    obtain ⟨ks, hk, rfl⟩ := Option.map_eq_some_iff.mp h
    cases r with
    | tup h1 h2 =>
      cases ru
      obtain ⟨its, o, n, rv, ho, hc, hd⟩ := sqT_at I.hok I.kIn h1.sq
      exact .tup ho hc hd (nks_is I ds hk h2 (by simpa using rv))
  | .par _, _, _, _, h, _, _ => by unfold nkD at h; cases h
  | .lst _, _, _, _, h, _, _ => by unfold nkD at h; cases h
  | .scr _, _, _, _, h, _, _ => by unfold nkD at h; cases h
  | .dct _ _, _, _, _, h, _, _ => by unfold nkD at h; cases h
  | .ref _, _, _, _, h, _, _ => by unfold nkD at h; cases h
  | .fn _, _, _, _, h, _, _ => by unfold nkD at h; cases h
theorem nks_is (I : Inv X pins σ H s) : ∀ (ds : List D) {ks : List NestedKey} {vs : List V} {us : List Value}, nksD ds = some ks → Reps X.K mg β O H ds vs → Vals vs us → NestedAll s.heap ks us
  | [], ks, vs, us, h, r, ru => by
    cases h; cases r; cases ru
    exact .nil
  | d :: ds, ks, vs, us, h, r, ru => by
    unfold nksD at h
    obtain ⟨k, hk, h⟩ := Option.bind_eq_some_iff.mp h
    obtain ⟨ks', hks, rfl⟩ := Option.map_eq_some_iff.mp h
    cases r with
    | cons r1 r2 =>
      cases ru with
      | cons u1 u2 => exact .cons (nk_is I d hk r1 u1) (nks_is I ds hks r2 u2)
end
theorem tk_is (I : Inv X pins σ H s) {d : D} {k : NestedKey} {b : Addr} (h : tkD d = some k) (r : Rep X.K mg β O H d (.ref b)) : (nestedKind X.prog X.w).is s.heap k b := by
  cases d with
  | tup ds =>
    unfold tkD at h
    obtain ⟨ks, hk, h⟩ := Option.bind_eq_some_iff.mp h
    split at h
    · rename_i hd
      cases h
      exact ⟨nk_is I (.tup ds) (by unfold nkD; rw [hk]; rfl) r rfl, hd⟩
    · cases h
  | _ => cases h
theorem tk_ref {d : D} {k : NestedKey} {v : V} (h : tkD d = some k) (r : Rep X.K mg β O H d v) : ∃ b, v = .ref b := by
  cases d with
  | tup ds => cases r; exact ⟨_, rfl⟩
  | _ => cases h
theorem tk_hard {d : D} {k : NestedKey} (h : tkD d = some k) : hardD d = true := by
  cases d with
  | tup ds => rfl
  | _ => cases h
end
/-! ### what stands there -/
def atX (xs : List XE) (k : NestedKey) : Option V := (xs.find? fun x => decide (x.1 = k)).map (·.2.2)
def putX (xs : List XE) (k : NestedKey) (b : Addr) (v : V) : List XE := if (atX xs k).isSome then xs.map (fun x => if x.1 = k then (x.1, x.2.1, v) else x) else xs ++ [(k, b, v)]
abbrev PX : List XE → List (NestedKey × Addr × Value) → Prop := Paired fun x y => x.1 = y.1 ∧ x.2.1 = y.2.1 ∧ RelV x.2.2 y.2.2
theorem PX.at {k : NestedKey} : ∀ {xs : List XE} {ys : List (NestedKey × Addr × Value)}, PX xs ys → RelO (atX xs k) ((atKey ys k).map (·.2))
  | _, _, .nil => trivial
  | _, _, .cons (a := x) (b := y) (l₁ := xs) (l₂ := ys) ⟨e1, e2, e3⟩ t => by
    have ih := PX.at (k := k) t
    unfold atX atKey at ih ⊢
    rw [List.find?_cons, List.find?_cons, e1]
    by_cases h : y.1 = k
    · simp only [h, decide_true]
      exact e3
    · simp only [h, decide_false]
      exact ih
theorem RelO.some_iff {o : Option V} {p : Option Value} (h : RelO o p) : o.isSome = p.isSome := by
  cases o <;> cases p <;> first | rfl | cases h
theorem PX.keys : ∀ {xs : List XE} {ys : List (NestedKey × Addr × Value)}, PX xs ys → xs.map (·.1) = ys.map (·.1)
  | _, _, .nil => rfl
  | _, _, .cons r t => by rw [List.map_cons, List.map_cons, PX.keys t, r.1]
theorem PX.mapk {k : NestedKey} {v : V} {u : Value} (ru : RelV v u) : ∀ {xs : List XE} {ys : List (NestedKey × Addr × Value)}, PX xs ys → PX (xs.map fun x => if x.1 = k then (x.1, x.2.1, v) else x) (ys.map (putAt k u))
  | _, _, .nil => .nil
  | _, _, .cons (a := x) (b := y) ⟨e1, e2, e3⟩ t => by
    refine .cons ?_ (PX.mapk ru t)
    unfold putAt
    by_cases h : y.1 = k
    · dsimp only
      rw [if_pos h, if_pos (e1.trans h)]
      exact ⟨e1, e2, ru⟩
    · dsimp only
      rw [if_neg h, if_neg fun z => h (e1.symm.trans z)]
      exact ⟨e1, e2, e3⟩
theorem PX.put {k : NestedKey} {b : Addr} {v : V} {u : Value} (ru : RelV v u) {xs : List XE} {ys : List (NestedKey × Addr × Value)} (h : PX xs ys) : PX (putX xs k b v) (storedH ys k b u) := by
  have e := RelO.some_iff (PX.at (k := k) h)
  rw [Option.isSome_map] at e
  unfold putX storedH
  rw [e]
  split
  · exact PX.mapk ru h
  · exact Paired.snoc h ⟨rfl, rfl, ru⟩
theorem putX_len (xs : List XE) (k : NestedKey) (b : Addr) (v : V) : (putX xs k b v).length ≤ xs.length + 1 := by
  unfold putX
  split <;> simp
theorem atX_none {xs : List XE} {k : NestedKey} (h : ¬ (atX xs k).isSome = true) : k ∉ xs.map (·.1) := fun z => by
  obtain ⟨x, hx, e⟩ := List.mem_map.mp z
  unfold atX at h
  rw [Option.isSome_map, List.isSome_find?] at h
  exact h (List.any_eq_true.mpr ⟨x, hx, decide_eq_true e⟩)
theorem putX_nodup {xs : List XE} {k : NestedKey} {b : Addr} {v : V} (h : (xs.map (·.1)).Nodup) : ((putX xs k b v).map (·.1)).Nodup := by
  unfold putX
  split
  · have e : (xs.map fun x => if x.1 = k then (x.1, x.2.1, v) else x).map (·.1) = xs.map (·.1) := by
      rw [List.map_map]
      refine List.map_congr_left fun x _ => ?_
      show (if x.1 = k then (x.1, x.2.1, v) else x).1 = x.1
      split <;> rfl
    rw [e]
    exact h
  · rename_i hn
    rw [List.map_append, List.nodup_append]
    refine ⟨h, by simp, fun a ha c hc e => ?_⟩
    have : c = k := by simpa using hc
    exact atX_none hn (by rw [← this, ← e]; exact ha)
section
variable {X : Cx} {pins : List (Addr × Obj)} {σ : L2.St} {H : Hp} {s : Shared}
/-- the dict at a, its keys told -/
def DGX (X : Cx) (H : Hp) (a : Addr) (xs : List XE) : Prop := Rd H a (DXO X.prog X.w a xs) ∧ ∃ (ks : List D) (mg : Mg) (β : List Addr) (O : Addr → Prop), ks.map tkD = xs.map (fun x => some x.1) ∧ Reps X.K mg β O H ks (xs.map fun x => .ref x.2.1)
/-- b is the key k -/
def KX (X : Cx) (H : Hp) (k : NestedKey) (b : Addr) : Prop := ∃ (d : D) (mg : Mg) (β : List Addr) (O : Addr → Prop), tkD d = some k ∧ Rep X.K mg β O H d (.ref b)
theorem keys_is (I : Inv X pins σ H s) {mg : Mg} {β : List Addr} {O : Addr → Prop} : ∀ {ks : List D} {xs : List XE} {ys : List (NestedKey × Addr × Value)}, ks.map tkD = xs.map (fun x => some x.1) → Reps X.K mg β O H ks (xs.map fun x => .ref x.2.1) → PX xs ys → ∀ y ∈ ys, (nestedKind X.prog X.w).is s.heap y.1 y.2.1
  | [], [], _, _, _, .nil => fun y hy => nomatch hy
  | d :: ks, x :: xs, _, h, r, .cons (b := y) ⟨e1, e2, e3⟩ t => by
    obtain ⟨h1, h2⟩ := List.cons.inj h
    cases r with
    | cons r1 r2 =>
      intro z hz
      rcases List.mem_cons.mp hz with rfl | hz
      · rw [← e1, ← e2]
        exact tk_is I h1 r1
      · exact keys_is I h2 r2 t z hz
theorem DGX.dict (I : Inv X pins σ H s) {a : Addr} {xs : List XE} (g : DGX X H a xs) : ∃ ys, PX xs ys ∧ s.heap.DictOfH (nestedKind X.prog X.w) a ys ∧ (a == sysModules) = false ∧ xs.length ≤ sizeLine ∧ ys.length ≤ sizeLine ∧ (xs.map (·.1)).Nodup := by
  obtain ⟨hR, ks, mg, β, O, h1, h2⟩ := g
  obtain ⟨⟨z, hd, nd, o, es, ep, ys, ho, hc, hdat, he, P⟩, _, _⟩ := (show ObjOk X.prog X.w H s.heap a (DXO X.prog X.w a xs) from hR.ok I.hok)
  have nd2 : (ys.map (·.1)).Nodup := by rw [← PX.keys P]; exact nd
  exact ⟨ys, P, ⟨o, es, ep, ho, hc, hdat, he, keys_is I h1 h2 P, nd2⟩, hd, z, by rw [← Paired.length P]; exact z, nd⟩
theorem KX.is (I : Inv X pins σ H s) {k : NestedKey} {b : Addr} (h : KX X H k b) : (nestedKind X.prog X.w).is s.heap k b := by
  obtain ⟨d, mg, β, O, h1, h2⟩ := h
  exact tk_is I h1 h2
theorem room_nk {A : Around} (hu : A.units + 65 < cLine) : (nestedKind X.prog X.w).room A.in1 := by
  show A.units + 1 + 8 < cLine
  omega
theorem dx_new {H' : Hp} {h' : Heap} {a : Addr} {xs : List XE} {ys : List (NestedKey × Addr × Value)} (z : xs.length ≤ sizeLine) (hd : (a == sysModules) = false) (nd : (xs.map (·.1)).Nodup) (P : PX xs ys) (D : h'.DictOfH (nestedKind X.prog X.w) a ys) : ObjOk X.prog X.w H' h' a (DXO X.prog X.w a xs) := by
  obtain ⟨o, es, ep, ho, hc, hdat, he, _, _⟩ := D
  exact ⟨⟨z, hd, nd, o, es, ep, ys, ho, hc, hdat, he, P⟩, ⟨o, ho⟩, fun h1 h2 p k => by
    obtain ⟨z, hd, nd, o, es, ep, ys, ho, r⟩ := p
    exact ⟨z, hd, nd, o, es, ep, ys, k o ho, r⟩⟩
/-! ### rules -/
variable {eo ei ee : Expr} {pos pos' apos cpos : Pos} {td ty tv : TE}
def tGetT (X : Cx) (td ty : TE) : TE := fun σ H Q => td σ H fun x H1 => ty σ H1 fun y H2 => ∃ a b xs k v, x = .ref a ∧ y = .ref b ∧ DGX X H2 a xs ∧ KX X H2 k b ∧ atX xs k = some v ∧ Q v H2
theorem pe_tget (hu : X.A.units + 65 < cLine) (ho : PE X eo td) (hi : PE X ei ty) (hs : NoSl ei) : PE X (.Subscript eo ei pos) (tGetT X td ty) := by
  refine ⟨fun pins s σ H Q I h => ?_⟩
  refine subD_of PySem.F.slot_dict_getitem.lookup hs (thn (ho.run pins s σ H _ I h) fun u s1 ⟨x, H1, I1, rx, q1⟩ => thn (hi.run pins s1 σ H1 _ I1 q1) fun iv s2 ⟨y, H2, I2, ry, a, b, xs, k, v, ex, ey, g, kx, e, q2⟩ => ?_)
  subst ex ey
  obtain rfl : u = Value.ref a := rx
  obtain rfl : iv = Value.ref b := ry
  obtain ⟨ys, P, D, hd, _⟩ := g.dict I2
  obtain ⟨w', hw, rw'⟩ := RelO.some_of (v := v) (o := (atKey ys k).map (·.2)) (by rw [← e]; exact PX.at P)
  obtain ⟨p, hp, rfl⟩ := Option.map_eq_some_iff.mp hw
  exact ⟨D.typeIs, wpAny_getItem_heap (room_nk hu) (kx.is I2) D hp ⟨v, H2, I2.tok _, rw', q2⟩⟩
def rInT (X : Cx) (ng : Bool) : R2 := fun x y H Q => ∃ a b xs k, x = .ref b ∧ y = .ref a ∧ DGX X H a xs ∧ KX X H k b ∧ Q (.bl (cond ng (!(atX xs k).isSome) (atX xs k).isSome)) H
theorem op_inT (hu : X.A.units + 65 < cLine) : OpR X (compareOp .In) (rInT X false) := by
  intro pins s σ H x y v u Q I rx ry h
  obtain ⟨a, b, xs, k, rfl, rfl, g, kx, q⟩ := h
  obtain rfl : v = Value.ref b := rx
  obtain rfl : u = Value.ref a := ry
  obtain ⟨ys, P, D, hd, _⟩ := g.dict I
  have e := RelO.some_iff (PX.at (k := k) P)
  rw [Option.isSome_map] at e
  refine wpAny_in_heap (room_nk hu) (kx.is I) hd D ⟨_, H, I.tok _, ?_, q⟩
  show Value.bool _ = Value.bool _
  rw [e]
  rfl
theorem op_ninT (hu : X.A.units + 65 < cLine) : OpR X (compareOp .NotIn) (rInT X true) := by
  intro pins s σ H x y v u Q I rx ry h
  obtain ⟨a, b, xs, k, rfl, rfl, g, kx, q⟩ := h
  obtain rfl : v = Value.ref b := rx
  obtain rfl : u = Value.ref a := ry
  obtain ⟨ys, P, D, hd, _⟩ := g.dict I
  have e := RelO.some_iff (PX.at (k := k) P)
  rw [Option.isSome_map] at e
  show wpAny _ _ (do return Value.bool (!(← contains (.ref a) (.ref b)))) _ _ s
  refine wpAny_bind (wpAny_contains_heap (room_nk hu) (kx.is I) hd D (wpAny_pure ⟨_, H, I.tok _, ?_, q⟩))
  show Value.bool _ = Value.bool _
  rw [e]
  rfl
def sPutT0 (X : Cx) (td ty tv : TE) : TS := fun D σ H => tv σ H fun v H1 => td σ H1 fun x H2 => ty σ H2 fun y H3 => ∃ a b xs k, x = .ref a ∧ y = .ref b ∧ DGX X H3 a xs ∧ H3 a = some (DXO X.prog X.w a xs) ∧ KX X H3 k b ∧ xs.length < sizeLine ∧ D.nx σ (upd H3 a (DXO X.prog X.w a (putX xs k b v)))
theorem ps_tput (hu : X.A.units + 65 < cLine) (ho : PE X eo td) (hi : PE X ei ty) (hv : PE X ee tv) (hs : swapsWith ee (some (.Subscript eo ei pos')) pos.line X.env = pure false) :
    PS X (.Assign [.Subscript eo ei pos'] ee pos) (sPutT0 X td ty tv) := by
  refine ⟨fun pins s σ H D I h => ?_⟩
  refine wpAny_Assign_Subscript (thn (hv.run pins s σ H _ I h) fun r s1 ⟨v, H1, I1, rv, q1⟩ => thn (ho.run pins s1 σ H1 _ I1 q1) fun u s2 ⟨x, H2, I2, rx, q2⟩ => thn (hi.run pins s2 σ H2 _ I2 q2) fun iv s3 ⟨y, H3, I3, ry, a, b, xs, k, ex, ey, g, hH, kx, hz, q3⟩ => ?_) hs
  subst ex ey
  obtain rfl : u = Value.ref a := rx
  obtain rfl : iv = Value.ref b := ry
  obtain ⟨ys, P, DD, hd, z1, z2, nd⟩ := g.dict I3
  refine wpAny_setItem_heap (hsz := z2) (room_nk hu) (kx.is I3) DD fun h' dd' hs' => ?_
  have he : ∃ q, h'.get? a = some q := let ⟨q, _, _, hq, _⟩ := dd'; ⟨q, hq⟩
  exact ⟨σ, _, d_write I3 (by rw [hH]; exact True.intro) hs' he (dx_new (by have := putX_len xs k b v; omega) hd (putX_nodup nd) (P.put rv) dd'), q3⟩
def tDNewX (X : Cx) : TE := fun _ H Q => ∀ p, H p = none → Q (.ref p) (upd H p (DXO X.prog X.w p []))
theorem pe_dnewX : PE X (.Dict [] [] pos) (tDNewX X) := ⟨fun pins s σ H Q I h =>
  wpAny_Dict_empty ⟨.ref s.heap.objs.size, _, I.laid (a := s.heap.objs.size) (o := DXO X.prog X.w s.heap.objs.size []) (t' := s.toks) (fun _ _ q => Heap.get?_push_of_some _ q) (Nat.le_refl _) (dx_new (Nat.zero_le _) (beq_eq_false_iff_ne.mpr (Ne.symm (Nat.ne_of_lt I.big))) (by simp) .nil (Heap.DictOfH.new s.heap)), rfl, h _ (I.hok.fresh (Nat.le_refl _))⟩⟩
end
end Rf
end
section
set_option maxHeartbeats 2000000
/-! Rg, part J: dicts whose keys are tuples: denotations. -/
namespace Rf
open PySem PySem.Spec PyProof.Rows L2
def lookT (k : NestedKey) : List D → List D → Option D
  | x :: ks, d :: ds => if tkD x = some k then some d else lookT k ks ds
  | _, _ => none
def replT (k : NestedKey) (e : D) : List D → List D → List D
  | x :: ks, d :: ds => (if tkD x = some k then e else d) :: replT k e ks ds
  | _, ds => ds
def hasT (k : NestedKey) (ks : List D) : Bool := ks.any fun x => decide (tkD x = some k)
def putTD (x : D) (k : NestedKey) (e : D) (ks ds : List D) : List D × List D := if hasT k ks = true then (ks, replT k e ks ds) else (ks ++ [x], ds ++ [e])
def dictT (S : Sto) : D → Option (List D × List D)
  | .ref n => (match S[n]? with
    | some (.dtx ks ds) => some (ks, ds)
    | some (.dxn ks ds) => some (ks, ds)
    | _ => none)
  | _ => none
section
variable {K : PySem.W.Frag} {mg : Mg} {Z : Addr → Prop} {α : Nat → Option Addr} {β : List Addr} {O : Addr → Prop} {H : Hp} {env : Env} {S : Sto} {σ : L2.St} {b : Bool}
theorem lookT_rep {k : NestedKey} : ∀ {ks ds : List D} {xs : List XE}, ks.map tkD = xs.map (fun x => some x.1) → Reps K mg β O H ds (xs.map fun x => x.2.2) →
    (∀ d, lookT k ks ds = some d → ∃ v, atX xs k = some v ∧ Rep K mg β O H d v) ∧ (lookT k ks ds = none → atX xs k = none)
  | [], ds, [], _, r => by
    cases r
    exact ⟨fun d h => by (unfold lookT at h; cases h), fun _ => rfl⟩
  | [], _, _ :: _, h, _ => by cases h
  | _ :: _, _, [], h, _ => by cases h
  | x :: ks, ds, p :: xs, h, r => by
    obtain ⟨h1, h2⟩ := List.cons.inj h
    cases r with
    | cons r1 r2 =>
      obtain ⟨i1, i2⟩ := lookT_rep (k := k) h2 r2
      have h1 : tkD x = some p.1 := h1
      unfold lookT
      unfold atX at i1 i2 ⊢
      rw [List.find?_cons]
      by_cases q : p.1 = k
      · rw [if_pos (by rw [h1, q])]
        simp only [q, decide_true]
        exact ⟨fun d e => by cases e; exact ⟨_, rfl, r1⟩, fun e => nomatch e⟩
      · rw [if_neg (by rw [h1]; exact fun z => q (Option.some.inj z))]
        simp only [q, decide_false]
        exact ⟨i1, i2⟩
theorem hasT_at {k : NestedKey} : ∀ {ks : List D} {xs : List XE}, ks.map tkD = xs.map (fun x => some x.1) → hasT k ks = (atX xs k).isSome
  | [], [], _ => rfl
  | [], _ :: _, h => by cases h
  | _ :: _, [], h => by cases h
  | x :: ks, p :: xs, h => by
    obtain ⟨h1, h2⟩ := List.cons.inj h
    have h1 : tkD x = some p.1 := h1
    have ih := hasT_at (k := k) h2
    unfold hasT atX at ih ⊢
    rw [List.any_cons, List.find?_cons, h1]
    by_cases q : p.1 = k
    · simp [q]
    · have q2 : ¬ some p.1 = some k := fun z => q (Option.some.inj z)
      simp only [q2, q, decide_false, Bool.false_or]
      exact ih
theorem replT_rep {k : NestedKey} {e : D} {v : V} (re : Rep K mg β O H e v) : ∀ {ks ds : List D} {xs : List XE}, ks.map tkD = xs.map (fun x => some x.1) → Reps K mg β O H ds (xs.map fun x => x.2.2) →
    Reps K mg β O H (replT k e ks ds) ((xs.map fun x => if x.1 = k then (x.1, x.2.1, v) else x).map fun x => x.2.2)
  | [], ds, [], _, r => by
    cases r
    exact .nil
  | [], _, _ :: _, h, _ => by cases h
  | _ :: _, _, [], h, _ => by cases h
  | x :: ks, ds, p :: xs, h, r => by
    obtain ⟨h1, h2⟩ := List.cons.inj h
    have h1 : tkD x = some p.1 := h1
    cases r with
    | cons r1 r2 =>
      have ih := replT_rep (k := k) re h2 r2
      unfold replT
      by_cases q : p.1 = k
      · rw [if_pos (by rw [h1, q])]
        simp only [List.map_cons, if_pos q]
        exact .cons re ih
      · rw [if_neg (by rw [h1]; exact fun z => q (Option.some.inj z))]
        simp only [List.map_cons, if_neg q]
        exact .cons r1 ih
theorem putT_rep {x : D} {k : NestedKey} {ba : Addr} {e : D} {v : V} {ks ds : List D} {xs : List XE} (hx : tkD x = some k) (rx : Rep K mg β O H x (.ref ba)) (re : Rep K mg β O H e v) (h : ks.map tkD = xs.map (fun x => some x.1)) (r1 : Reps K mg β O H ks (xs.map fun x => .ref x.2.1)) (r : Reps K mg β O H ds (xs.map fun x => x.2.2)) :
    (putTD x k e ks ds).1.map tkD = (putX xs k ba v).map (fun x => some x.1) ∧ Reps K mg β O H (putTD x k e ks ds).1 ((putX xs k ba v).map fun x => .ref x.2.1) ∧ Reps K mg β O H (putTD x k e ks ds).2 ((putX xs k ba v).map fun x => x.2.2) := by
  unfold putTD putX
  rw [hasT_at h]
  split
  · refine ⟨?_, ?_, replT_rep re h r⟩
    · rw [h, List.map_map]
      refine List.map_congr_left fun y _ => ?_
      show some y.1 = some (if y.1 = k then (y.1, y.2.1, v) else y).1
      split <;> rfl
    · rw [List.map_map]
      have e2 : (xs.map ((fun x : XE => V.ref x.2.1) ∘ fun x : XE => if x.1 = k then (x.1, x.2.1, v) else x)) = xs.map fun x => V.ref x.2.1 := List.map_congr_left fun y _ => by
        show V.ref (if y.1 = k then (y.1, y.2.1, v) else y).2.1 = _
        split <;> rfl
      rw [e2]
      exact r1
  · refine ⟨?_, ?_, ?_⟩
    · simp only [List.map_append, List.map_cons, List.map_nil, h, hx]
    · rw [List.map_append]
      exact Reps.append r1 (.cons rx .nil)
    · rw [List.map_append]
      exact Reps.append r (.cons re .nil)
end
section
variable {X : Cx} {Z : Addr → Prop} {α : Nat → Option Addr} {β : List Addr} {O : Addr → Prop} {H : Hp} {env : Env} {S : Sto} {σ : L2.St} {b : Bool}
theorem dictT_of {d : D} {v : V} {ks ds : List D} (R : Rel X.K (mX X) Z α β env S σ H) (r : Res X.K (mX X) Z α β H b d v) (h : dictT S d = some (ks, ds)) :
    ∃ a xs, v = .ref a ∧ Rd H a (DXO X.prog X.w a xs) ∧ ks.map tkD = xs.map (fun x => some x.1) ∧ Reps X.K (mX X) β (Oo Z α β) H ks (xs.map fun x => .ref x.2.1) ∧ Reps X.K (mX X) β (Oo Z α β) H ds (xs.map fun x => x.2.2) := by
  cases d with
  | ref n =>
    obtain ⟨a, rfl, hn⟩ := r.ref
    simp only [dictT] at h
    split at h
    · rename_i ks' ds' e
      cases h
      obtain ⟨o, e2, c⟩ := R.cell _ _ _ e hn
      cases c with
      | pl c => cases c
      | dx h1 h2 h3 => exact ⟨a, _, rfl, .inl e2, h1, h2, h3⟩
    · rename_i ks' ds' e
      cases h
      obtain ⟨o, e2, c⟩ := R.cell _ _ _ e hn
      cases c with
      | pl c => cases c
      | dxl h1 h2 h3 => exact ⟨a, _, rfl, .inr ⟨_, e2⟩, h1, h2, h3⟩
    · cases h
  | _ => cases h
theorem kx_of {d : D} {v : V} {k : NestedKey} (r : Res X.K (mX X) Z α β H b d v) (h : tkD d = some k) : ∃ a, v = .ref a ∧ KX X H k a ∧ Rep X.K (mX X) β (Oo Z α β) H d (.ref a) := by
  have r := r.hard (tk_hard h)
  obtain ⟨a, rfl⟩ := tk_ref h r
  exact ⟨a, rfl, ⟨d, _, _, _, h, r⟩, r⟩
end
/-- d[i] -/
def dGetT (o i : DE) : DE := fun env S => (o env S).bind fun p => (i env p.2).bind fun q => (dictT q.2 p.1).bind fun z => (tkD q.1).bind fun k => (lookT k z.1 z.2).map fun d => (d, q.2)
/-- i in d, i not in d -/
def dInT (neg : Bool) (i o : DE) : DE := fun env S => (i env S).bind fun p => (o env p.2).bind fun q => (dictT q.2 q.1).bind fun z => (tkD p.1).map fun k => (.bl (cond neg (!hasT k z.1) (hasT k z.1)), q.2)
/-- d.get(i, e), d.get(i) -/
def dGetT2 (o i e : DE) : DE := fun env S => (o env S).bind fun p => (dictT p.2 p.1).bind fun _ => (i env p.2).bind fun q => (e env q.2).bind fun r => (dictT r.2 p.1).bind fun z => (tkD q.1).map fun k => ((lookT k z.1 z.2).getD r.1, r.2)
def dGetT1 (o i : DE) : DE := fun env S => (o env S).bind fun p => (dictT p.2 p.1).bind fun _ => (i env p.2).bind fun q => (dictT q.2 p.1).bind fun z => (tkD q.1).map fun k => ((lookT k z.1 z.2).getD .non, q.2)
/-- d[i] = e -/
def sPutT (o i t : DE) : DS := fun env S => (t env S).bind fun p => (o env p.2).bind fun q => (i env q.2).bind fun r => (tkD r.1).bind fun k => match q.1 with
  | .ref n => (match r.2[n]? with
    | some (.dtx ks ds) => if ks.length < sizeLine then some (.nx env, r.2.set n (.dtx (putTD r.1 k p.1 ks ds).1 (putTD r.1 k p.1 ks ds).2)) else none
    | _ => none)
  | _ => none
/-- {} -/
def dDctX : DE := fun _ S => some (.ref S.length, S ++ [.dtx [] []])
section
variable {X : Cx} {b : Bool} {eo ei ee : Expr} {o i t : DE} {pos apos cpos pos' : Pos} {td ty tx : TE}
theorem E.dctX : EX X b (.Dict [] [] pos) dDctX :=
  PE.imp pe_dnewX fun σ H Q ⟨Z, α, β, env, S, d, S', R, e1, q⟩ => by
    cases e1
    intro p hp
    have R1 := R.apart hp (DXO X.prog X.w p [])
    have A1 : Adv (Wb β) β H β (upd H p (DXO X.prog X.w p [])) := Adv.upd hp
    have R2 := R1.pushRefS (fun z => R.zlive p z hp) upd_same (.dx (xs := []) rfl .nil .nil)
    refine q _ _ (β ++ [p]) R2 ⟨?_, A1.keep, A1.live, A1.frz⟩ (.inl (.ref ?_))
    · obtain ⟨nw, e3, h3⟩ := A1.pre
      exact ⟨nw ++ [p], by rw [← List.append_assoc, ← e3], fun x hx => by
        rcases List.mem_append.mp hx with z | z
        · exact h3 x z
        · have : x = p := by simpa using z
          rw [this]; exact hp⟩
    · rw [← R.blen]; simp
theorem E.getT (hu : X.A.units + 65 < cLine) (ho : EX X true eo o) (hi : EX X true ei i) (hs : NoSl ei := by exact fun _ _ => rfl) : EX X b (.Subscript eo ei pos) (dGetT o i) :=
  PE.imp (pe_tget hu ho hi hs) fun σ H Q ⟨Z, α, β, env, S, d, S', R, e1, q⟩ => by
    unfold dGetT at e1
    obtain ⟨⟨ov, S1⟩, eo, e1⟩ := Option.bind_eq_some_iff.mp e1
    obtain ⟨⟨iv, S2⟩, ei, e1⟩ := Option.bind_eq_some_iff.mp e1
    obtain ⟨⟨ks, ds⟩, ed, e1⟩ := Option.bind_eq_some_iff.mp e1
    obtain ⟨k, ek, e1⟩ := Option.bind_eq_some_iff.mp e1
    obtain ⟨d', el, e2⟩ := Option.map_eq_some_iff.mp e1
    cases e2
    refine ⟨Z, α, β, env, S, ov, S1, R, eo, fun v H1 β1 R1 A1 r1 => ⟨Z, α, β1, env, S1, iv, S2, R1, ei, fun w H2 β2 R2 A2 r2 => ?_⟩⟩
    obtain ⟨a, xs, rfl, hH, k1, k2, k3⟩ := dictT_of R2 (r1.adv R1 A2) ed
    obtain ⟨c, rfl, kx, _⟩ := kx_of r2 ek
    obtain ⟨u, l1, l2⟩ := (lookT_rep (k := k) k1 k3).1 _ el
    exact ⟨a, c, xs, k, u, rfl, rfl, ⟨hH, ks, _, _, _, k1, k2⟩, kx, l1, q u H2 β2 R2 (A1.trb A2) (.inl l2)⟩
theorem rd_inT {ng : Bool} (σ : L2.St) (H : Hp) (Q : VK) (h : rdX X.K (mX X) b (dInT ng i o) σ H Q) : tOp (rInT X ng) (rdX X.K (mX X) true i) (rdX X.K (mX X) true o) σ H Q := by
  obtain ⟨Z, α, β, env, S, d, S', R, e1, q⟩ := h
  unfold dInT at e1
  obtain ⟨⟨iv, S1⟩, ei, e1⟩ := Option.bind_eq_some_iff.mp e1
  obtain ⟨⟨ov, S2⟩, eo, e1⟩ := Option.bind_eq_some_iff.mp e1
  obtain ⟨⟨ks, ds⟩, ed, e1⟩ := Option.bind_eq_some_iff.mp e1
  obtain ⟨k, ek, e2⟩ := Option.map_eq_some_iff.mp e1
  cases e2
  refine ⟨Z, α, β, env, S, iv, S1, R, ei, fun v H1 β1 R1 A1 r1 => ⟨Z, α, β1, env, S1, ov, S2, R1, eo, fun w H2 β2 R2 A2 r2 => ?_⟩⟩
  obtain ⟨a, xs, rfl, hH, k1, k2, k3⟩ := dictT_of R2 r2 ed
  obtain ⟨c, rfl, kx, _⟩ := kx_of (r1.adv R1 A2) ek
  refine ⟨a, c, xs, k, rfl, rfl, ⟨hH, ks, _, _, _, k1, k2⟩, kx, ?_⟩
  rw [← hasT_at k1]
  exact q _ H2 β2 R2 (A1.trb A2) (.inl (.bl _))
theorem E.inT (hu : X.A.units + 65 < cLine) (hi : EX X true ei i) (ho : EX X true eo o) (hm : behindInMarks .In eo = false := by rfl) : EX X b (.Compare ei [.In] [eo] pos) (dInT false i o) := PE.imp (pe_cmpR (op_inT hu) hi ho hm) fun σ H Q h => rd_inT σ H Q h
theorem E.ninT (hu : X.A.units + 65 < cLine) (hi : EX X true ei i) (ho : EX X true eo o) (hm : behindInMarks .NotIn eo = false := by rfl) : EX X b (.Compare ei [.NotIn] [eo] pos) (dInT true i o) := PE.imp (pe_cmpR (op_ninT hu) hi ho hm) fun σ H Q h => rd_inT σ H Q h
theorem rd_tinT {ng : Bool} (σ : L2.St) (H : Hp) (Q : Bool → Hp → Prop) (h : rdT X.K (mX X) (dBl (dInT ng i o)) σ H Q) : tTest (tOp (rInT X ng) (rdX X.K (mX X) true i) (rdX X.K (mX X) true o)) σ H Q := by
  obtain ⟨Z, α, β, env, S, d, S', R, e1, q⟩ := h
  unfold dBl at e1
  obtain ⟨⟨x, S1⟩, ex, e1⟩ := Option.bind_eq_some_iff.mp e1
  obtain ⟨k, ek, e1⟩ := Option.map_eq_some_iff.mp e1
  cases e1
  refine rd_inT (b := false) σ H _ ⟨Z, α, β, env, S, x, S1, R, ex, fun v H1 β1 R1 A1 r1 => ⟨_, ?_, q H1 β1 R1 A1⟩⟩
  cases x <;> cases ek
  exact r1.bl
theorem T.inT (hu : X.A.units + 65 < cLine) (hi : EX X true ei i) (ho : EX X true eo o) (hm : behindInMarks .In eo = false := by rfl) : TX X (.Compare ei [.In] [eo] pos) (dBl (dInT false i o)) := PT.imp (pt_cmpR (op_inT hu) hi ho hm) fun σ H Q h => rd_tinT σ H Q h
theorem T.ninT (hu : X.A.units + 65 < cLine) (hi : EX X true ei i) (ho : EX X true eo o) (hm : behindInMarks .NotIn eo = false := by rfl) : TX X (.Compare ei [.NotIn] [eo] pos) (dBl (dInT true i o)) := PT.imp (pt_cmpR (op_ninT hu) hi ho hm) fun σ H Q h => rd_tinT σ H Q h
theorem S.putT (hu : X.A.units + 65 < cLine) (ho : EX X true eo o) (hi : EX X true ei i) (h : EX X false ee t) (hs : swapsWith ee (some (.Subscript eo ei pos')) pos.line X.env = pure false := by rfl) : SX X (.Assign [.Subscript eo ei pos'] ee pos) (sPutT o i t) :=
  PS.imp (ps_tput hu ho hi h hs) fun E σ H ⟨Z, α, β, env, S, fl, S', R, e1, q⟩ => by
    unfold sPutT at e1
    obtain ⟨⟨y, S1⟩, ey, e1⟩ := Option.bind_eq_some_iff.mp e1
    obtain ⟨⟨ov, S2⟩, eo, e1⟩ := Option.bind_eq_some_iff.mp e1
    obtain ⟨⟨iv, S3⟩, ei, e1⟩ := Option.bind_eq_some_iff.mp e1
    obtain ⟨k, ek, e1⟩ := Option.bind_eq_some_iff.mp e1
    simp only at e1
    split at e1
    · rename_i n
      split at e1
      · rename_i ks ds en
        split at e1
        · rename_i hz
          cases e1
          refine ⟨Z, α, β, env, S, y, S1, R, ey, fun w H1 β1 R1 A1 r1 => ⟨Z, α, β1, env, S1, _, S2, R1, eo, fun v H2 β2 R2 A2 r2 => ⟨Z, α, β2, env, S2, iv, S3, R2, ei, fun u H3 β3 R3 A3 r3 => ?_⟩⟩⟩
          obtain ⟨a, rfl, hn⟩ := r2.ref
          have hn3 := A3.nth _ _ hn
          obtain ⟨ob, e3, co⟩ := R3.cell _ _ _ en hn3
          cases co with
          | pl co => cases co
          | dx k1 k2 k3 =>
            have A13 := (A1.trb A2).trb A3
            obtain ⟨c, rfl, kx, rk⟩ := kx_of r3 ek
            obtain ⟨p1, p2, p3⟩ := putT_rep ek rk (r1.rep.adv (A2.trb A3)) k1 k2 k3
            have hl := congrArg List.length k1
            rw [List.length_map, List.length_map] at hl
            exact ⟨a, c, _, k, rfl, rfl, ⟨.inl e3, ks, _, _, _, k1, k2⟩, e3, kx, by rw [← hl]; exact hz, q α β3 σ _ (R3.updRefS hn3 (.dx p1 p2 p3)) (AdvS.trans A13.ws .refl (adv_wr (W := Ws α β3) (Or.inl (List.mem_of_getElem? hn3)) (fun od u z => by rw [e3] at z; cases z))) .refl⟩
        · cases e1
      · cases e1
    · cases e1
end
end Rf
end
section
set_option maxHeartbeats 2000000
/-! Rg, part K: a dict whose keys are tuples is walked (locked the while). -/
namespace RgK
open PySem PySem.Spec PyProof.Rows L2 Rf
section
variable {X : Cx} {pins : List (Addr × Obj)} {σ : L2.St} {H : Hp} {s : Shared} {d : Addr} {o : Obj} {es : Array DictEntry} {ep : Nat} {xs : List XE}
theorem px_get {i : Nat} {x : XE} : ∀ {xs : List XE} {ys : List (NestedKey × Addr × Value)} {i : Nat}, PX xs ys → xs[i]? = some x → ∃ y, ys[i]? = some y ∧ x.1 = y.1 ∧ x.2.1 = y.2.1 ∧ RelV x.2.2 y.2.2
  | _, _, _, .nil, h => by simp at h
  | _, _, 0, .cons (b := y) r t, h => by
    simp at h
    subst h
    exact ⟨y, rfl, r⟩
  | _, _, i + 1, .cons r t, h => by
    obtain ⟨y, h1, h2⟩ := px_get (i := i) t (by simpa using h)
    exact ⟨y, by simpa using h1, h2⟩
theorem frzX (I : Inv X pins σ H s) (h : H d = some (.frz o (DXO X.prog X.w d xs))) :
    (d == sysModules) = false ∧ s.heap.get? d = some o ∧ o.ExactDict ∧ ∃ (es : Array DictEntry) (ep : Nat), o.data = .dict es ep ∧ es.size = xs.length ∧
      ∀ (i : Nat) (x : XE), xs[i]? = some x → ∃ (en : DictEntry), es[i]? = some en ∧ en.key = .ref x.2.1 ∧ RelV x.2.2 en.val := by
  obtain ⟨hd, ⟨z, hs, nd, o', es, ep, ys, ho, hx, hdt, he, P⟩, _, _⟩ := I.hok d _ h
  rw [hd] at ho
  cases ho
  refine ⟨hs, hd, hx, es, ep, hdt, ?_, fun i x e => ?_⟩
  · have l1 : es.size = ys.length := size_of_entries he
    have l2 : xs.length = ys.length := Paired.length P
    omega
  · obtain ⟨y, hy, e1, e2, e3⟩ := px_get (i := i) P e
    have q := entry_at he i
    rw [hy] at q
    exact ⟨_, q, by rw [e2]; rfl, e3⟩
def ItkX (P : Program) (w : World) (d : Addr) (o : Obj) (xs : List XE) : It :=
  ⟨fun i H => H d = some (.frz o (DXO P w d xs)) ∧ i < xs.length, fun i H y H' => H' = H ∧ ∃ x, xs[i]? = some x ∧ y = .ref x.2.1, fun i H => H d = some (.frz o (DXO P w d xs)) ∧ xs.length ≤ i⟩
def ItvX (P : Program) (w : World) (d : Addr) (o : Obj) (xs : List XE) : It :=
  ⟨fun i H => H d = some (.frz o (DXO P w d xs)) ∧ i < xs.length, fun i H y H' => H' = H ∧ ∃ x, xs[i]? = some x ∧ y = x.2.2, fun i H => H d = some (.frz o (DXO P w d xs)) ∧ xs.length ≤ i⟩
def ItiX (P : Program) (w : World) (d : Addr) (o : Obj) (xs : List XE) : It :=
  ⟨fun i H => H d = some (.frz o (DXO P w d xs)) ∧ i < xs.length, fun i H y H' => ∃ T x, xs[i]? = some x ∧ y = .ref T ∧ H T = none ∧ H' = upd H T (.tup [.ref x.2.1, x.2.2]), fun i H => H d = some (.frz o (DXO P w d xs)) ∧ xs.length ≤ i⟩
section
variable {P : Program} {w : World} {K : PySem.W.Frag} {tg : Expr}
theorem turn_keysX (it : Addr) (hod : o.data = .dict es ep) : Turn P w K tg (ItkX P w d o xs) [it] it (fun i h => h.IsKeyIter it d i xs.length ep) where
  mem := by simp
  obj := fun i h st b hb => by
    have e : b = it := by simpa using hb
    subst e
    obtain ⟨oi, e, c, dd⟩ := st
    exact ⟨oi, e, fun v z => by rw [dd] at z; cases z⟩
  keep := fun i h h' st k => st.at fun oi e => k it (by simp) oi e
  item := by
    intro X hP hw hK hc i pins s σ H E I hf st hg
    subst hP hw hK
    obtain ⟨hd, hi⟩ := hg
    obtain ⟨f0, f1, f2, f3, f4, f5⟩ := hf it (by simp)
    obtain ⟨hs, hgd, hx, es', ep', hdt, hsz, ent⟩ := frzX I hd
    obtain ⟨rfl, rfl⟩ := dict_ep hod hdt
    obtain ⟨x, hxi⟩ : ∃ p, xs[i]? = some p := ⟨xs[i], List.getElem?_eq_getElem hi⟩
    obtain ⟨en, hen, hkey, hval⟩ := ent i x hxi
    refine next_key_item st hgd hdt hsz hen fun h' st' sb => ?_
    have I1 : Inv X pins σ H { s with heap := h' } := I.turned (t' := s.toks) (fun b ob hb e => (sb.2 b hb).trans e) f0 f1 f3 f4 f5
    obtain ⟨oi, e, c, dd⟩ := id st'
    exact ⟨en.key, rfl, go_of (s := { s with heap := h' }) e c dd (by decide) ⟨.ref x.2.1, H, I1, hkey, ⟨rfl, x, hxi, rfl⟩, st', fun b hb => (hf b hb).1⟩⟩
  done := by
    intro X hP hw hK hc i pins s σ H E I hf st hg
    subst hP hw hK
    obtain ⟨hd, hi⟩ := hg
    obtain ⟨f0, f1, f2, f3, f4, f5⟩ := hf it (by simp)
    obtain ⟨hs, hgd, hx, es', ep', hdt, hsz, ent⟩ := frzX I hd
    obtain ⟨rfl, rfl⟩ := dict_ep hod hdt
    exact next_key_end (I.ok.hd hc) st hgd hdt hsz hi fun h' eb => ⟨rfl, I.turned (t' := s.toks) (fun b ob hb e => eb b ob hb e) f0 f1 f3 f4 f5⟩
  self := fun A i s Q E st h => by
    refine wpAny_pyIter_slot st.typeIs F.slot_dict_keyiterator_iter (wpAny_call_entry F.slot_dict_keyiterator_iter st.typeIs F.entry_dict_keyiterator_iter ?_ (F.args_dict_keyiterator_iter_1 _))
    show wpAny _ _ (ret (.ref it)) _ _ s
    exact wpAny_pure ⟨_, rfl, "dict_keyiterator", _, st.typeIs, F.slot_dict_keyiterator_next.lookup, h⟩
theorem turn_valsX (it : Addr) (hod : o.data = .dict es ep) : Turn P w K tg (ItvX P w d o xs) [it] it (fun i h => h.IsValIter it d i xs.length ep) where
  mem := by simp
  obj := fun i h st b hb => by
    have e : b = it := by simpa using hb
    subst e
    obtain ⟨oi, e, c, dd⟩ := st
    exact ⟨oi, e, fun v z => by rw [dd] at z; cases z⟩
  keep := fun i h h' st k => st.at fun oi e => k it (by simp) oi e
  item := by
    intro X hP hw hK hc i pins s σ H E I hf st hg
    subst hP hw hK
    obtain ⟨hd, hi⟩ := hg
    obtain ⟨f0, f1, f2, f3, f4, f5⟩ := hf it (by simp)
    obtain ⟨hs, hgd, hx, es', ep', hdt, hsz, ent⟩ := frzX I hd
    obtain ⟨rfl, rfl⟩ := dict_ep hod hdt
    obtain ⟨x, hxi⟩ : ∃ p, xs[i]? = some p := ⟨xs[i], List.getElem?_eq_getElem hi⟩
    obtain ⟨en, hen, hkey, hval⟩ := ent i x hxi
    have hlt : i < es'.size := by omega
    have een : es'[i] = en := by
      rw [Array.getElem?_eq_getElem hlt] at hen
      exact Option.some.inj hen
    rw [← hsz] at st
    refine wpAny_pyNext_values_item_raw st ⟨o, hgd, hx, hod⟩ hlt fun h' st' sb => ?_
    have I1 : Inv X pins σ H { s with heap := h' } := I.turned (t' := s.toks) (fun b ob hb e => (sb.2 b hb).trans e) f0 f1 f3 f4 f5
    obtain ⟨oi, e, c, dd⟩ := id st'
    refine ⟨es'[i].val, rfl, go_of (s := { s with heap := h' }) e c dd (by decide) ⟨x.2.2, H, I1, by rw [een]; exact hval, ⟨rfl, x, hxi, rfl⟩, ?_, fun b hb => (hf b hb).1⟩⟩
    show h'.IsValIter it d (i + 1) xs.length _
    rw [← hsz]
    exact st'
  done := by
    intro X hP hw hK hc i pins s σ H E I hf st hg
    subst hP hw hK
    obtain ⟨hd, hi⟩ := hg
    obtain ⟨f0, f1, f2, f3, f4, f5⟩ := hf it (by simp)
    obtain ⟨hs, hgd, hx, es', ep', hdt, hsz, ent⟩ := frzX I hd
    obtain ⟨rfl, rfl⟩ := dict_ep hod hdt
    rw [← hsz] at st
    exact wpAny_pyNext_values_end_raw (I.ok.hd hc) st ⟨o, hgd, hx, hod⟩ (by omega) fun h' eb => ⟨rfl, I.turned (t' := s.toks) (fun b ob hb e => eb b ob hb e) f0 f1 f3 f4 f5⟩
  self := fun A i s Q E st h => wpAny_pyIter_valiter st h
theorem turn_itemsX {elts : List Expr} {kk : Nat} {tpos : Pos} (it : Addr) (hod : o.data = .dict es ep) :
    Turn P w K (.Tuple elts kk tpos) (ItiX P w d o xs) [it] it (fun i h => ∃ ok ov, IsItemIter h it d i xs.length ep ok ov) where
  mem := by simp
  obj := fun i h st b hb => by
    have e : b = it := by simpa using hb
    subst e
    obtain ⟨ok, ov, e⟩ := st
    exact ⟨_, e, fun v z => nomatch z⟩
  keep := fun i h h' st k => let ⟨ok, ov, e⟩ := st; ⟨ok, ov, k it (by simp) _ e⟩
  item := by
    intro X hP hw hK hc i pins s σ H E I hf st hg
    subst hP hw hK
    obtain ⟨hd, hi⟩ := hg
    obtain ⟨hs, hgd, hx, es', ep', hdt, hsz, ent⟩ := frzX I hd
    obtain ⟨rfl, rfl⟩ := dict_ep hod hdt
    obtain ⟨x, hxi⟩ : ∃ p, xs[i]? = some p := ⟨xs[i], List.getElem?_eq_getElem hi⟩
    obtain ⟨en, hen, hkey, hval⟩ := ent i x hxi
    have hlt' : i < es'.size := by omega
    have een : es'[i] = en := by
      rw [Array.getElem?_eq_getElem hlt'] at hen
      exact Option.some.inj hen
    obtain ⟨ok, ov, he⟩ := st
    rw [← hsz] at he
    have hlt : it < s.heap.objs.size := Heap.lt_size he
    refine wpAny_pyNext_items_item_raw he ⟨o, hgd, hx, hod⟩ hlt' fun h' ho hT hz hk => ?_
    refine ⟨_, rfl, wpAny_letOwnedTupleGo_items (s := { s with heap := h' }) ho fun h'' he' sb => ?_⟩
    have hT2 : h''.get? s.heap.objs.size = some { cls := .type "tuple", data := .seq #[es'[i].key, es'[i].val] } := (sb.2 _ (Nat.ne_of_gt hlt)).trans hT
    have new : ObjOk X.prog X.w (upd H s.heap.objs.size (.tup [.ref x.2.1, x.2.2])) h'' s.heap.objs.size (.tup [.ref x.2.1, x.2.2]) :=
      ⟨by show 2 ≤ sizeLine; decide, [es'[i].key, es'[i].val], .cons (by rw [een]; exact hkey) (.cons (by rw [een]; exact hval) .nil), ⟨_, hT2, rfl, _, rfl⟩⟩
    have I1 : Inv X pins σ (upd H s.heap.objs.size (.tup [.ref x.2.1, x.2.2])) { s with heap := h'' } :=
      I.turnedNew (t' := s.toks) (ch := [it]) (fun b ob hb e => (sb.2 b (by simpa using hb)).trans (hk b ob (by simpa using hb) e)) hf (Nat.le_refl _) new
    refine ⟨.ref s.heap.objs.size, _, I1, rfl, ⟨_, x, hxi, rfl, I.hok.fresh (Nat.le_refl _), rfl⟩, ⟨es'[i].key, es'[i].val, ?_⟩, fun b hb => ?_⟩
    · rw [← hsz]; exact he'
    · have e : b = it := by simpa using hb
      rw [e, upd_ne (Nat.ne_of_lt hlt)]
      exact (hf it (by simp)).1
  done := by
    intro X hP hw hK hc i pins s σ H E I hf st hg
    subst hP hw hK
    obtain ⟨hd, hi⟩ := hg
    obtain ⟨f0, f1, f2, f3, f4, f5⟩ := hf it (by simp)
    obtain ⟨hs, hgd, hx, es', ep', hdt, hsz, ent⟩ := frzX I hd
    obtain ⟨rfl, rfl⟩ := dict_ep hod hdt
    obtain ⟨ok, ov, he⟩ := st
    rw [← hsz] at he
    exact wpAny_pyNext_items_end_raw (I.ok.hd hc) he ⟨o, hgd, hx, hod⟩ (by omega) fun h' eb => ⟨rfl, I.turned (t' := s.toks) (fun b ob hb e => eb b ob hb e) f0 f1 f3 f4 f5⟩
  self := fun A i s Q E st h => let ⟨_, _, e⟩ := st; PySem.W.kcp_self e h
end
def iKeysX (P : Program) (w : World) (td : TE) : TI := fun σ H R => td σ H fun x H1 => ∃ d o xs, x = .ref d ∧ H1 d = some (.frz o (DXO P w d xs)) ∧ (xs.length ≤ sizeLine → R (ItkX P w d o xs) H1)
def iValsX (P : Program) (w : World) (td : TE) : TI := fun σ H R => td σ H fun x H1 => ∃ d o xs, x = .ref d ∧ H1 d = some (.frz o (DXO P w d xs)) ∧ (xs.length ≤ sizeLine → R (ItvX P w d o xs) H1)
def iItemsX (P : Program) (w : World) (td : TE) : TI := fun σ H R => td σ H fun x H1 => ∃ d o xs, x = .ref d ∧ H1 d = some (.frz o (DXO P w d xs)) ∧ (xs.length ≤ sizeLine → R (ItiX P w d o xs) H1)
theorem dx_len (I : Inv X pins σ H s) (h : H d = some (.frz o (DXO X.prog X.w d xs))) : xs.length ≤ sizeLine := (I.hok d _ h).2.1.1
variable {tg e : Expr} {td : TE} {apos cpos : Pos}
theorem pi_keysX (he : PE X e td) : PI X tg e (iKeysX X.prog X.w td) := by
  refine ⟨fun pins s σ H R I h => ?_⟩
  refine thn (he.run pins s σ H _ I h) fun u s1 ⟨x, H1, I1, rx, d, o, xs, ex, hd, q⟩ => ?_
  subst ex
  obtain rfl : u = Value.ref d := rx
  have q := q (dx_len I1 hd)
  obtain ⟨hs, hgd, hx, es, ep, hdt, hsz, ent⟩ := frzX I1 hd
  refine iter_keys hs hgd hx hdt (pi_one (tk := s1.toks) I1 _ (turn_keysX _ hdt) ⟨_, Heap.get?_push_size _ rfl, rfl, ?_⟩ q)
  rw [hsz] <;> rfl
theorem pi_valuesX (he : PE X e td) (hbase : attributeBase e "values" X.env (eval e X.env) = eval e X.env := by rfl) (hline : (apos.endLine == cpos.line) = true := by rfl) : PI X tg (.Call (.Attribute e "values" apos) [] [] cpos) (iValsX X.prog X.w td) := by
  refine ⟨fun pins s σ H R I h => ?_⟩
  refine wpAny_Call_method (T := "dict") (id := "dict.values") hbase rfl hline F.plainAttrs_dict F.slot_dict_values F.type_dict_values (thn (he.run pins s σ H _ I h) fun u s1 ⟨x, H1, I1, rx, d, o, xs, ex, hd, q⟩ => ?_)
  subst ex
  obtain rfl : u = Value.ref d := rx
  have q := q (dx_len I1 hd)
  obtain ⟨hs, hgd, hx, es, ep, hdt, hsz, ent⟩ := frzX I1 hd
  have raw : s1.heap.DictRaw d es ep := ⟨o, hgd, hx, hdt⟩
  refine ⟨raw.typeIs, fun b z => by cases z; exact ⟨o, hgd, hx.2.1⟩, ?_⟩
  have I2 : Inv X pins σ H1 { s1 with heap := s1.heap.push { cls := .type "dict_values", data := .fields #[.ref d] } } := I1.kept (t' := s1.toks) fun b ob q => Heap.get?_push_of_some _ q
  have raw2 := raw.at (h' := s1.heap.push { cls := .type "dict_values", data := .fields #[.ref d] }) fun ob q => Heap.get?_push_of_some _ q
  have fin : wpAny (model X.prog X.w) X.A (pyIter (.ref s1.heap.objs.size)) (PIE X pins σ tg R) X.xe { s1 with heap := s1.heap.push { cls := .type "dict_values", data := .fields #[.ref d] } } := by
    refine wpAny_pyIter_values_raw (d := d) ⟨_, Heap.get?_push_size _ rfl, rfl, rfl⟩ raw2 (pi_one (tk := s1.toks) I2 _ (turn_valsX _ hdt) ⟨_, Heap.get?_push_size _ rfl, rfl, ?_⟩ q)
    rw [hsz] <;> rfl
  show wpAny _ _ (callWith cpos (.builtin "dict.values") [.ref d] [] []) _ X.xe s1
  exact method_meetsIn F.slot_dict_values F.entry_dict_values rfl (PySem.evalArgs_none ⟨rfl, raw.typeIs, F.args_dict_values_1 _, _, meets_dict_values_raw d hs, ⟨es, ep, raw⟩, fin⟩)
theorem pi_itemsX {elts : List Expr} {kk : Nat} {tpos : Pos} (he : PE X e td) (hbase : attributeBase e "items" X.env (eval e X.env) = eval e X.env := by rfl) (hline : (apos.endLine == cpos.line) = true := by rfl) :
    PI X (.Tuple elts kk tpos) (.Call (.Attribute e "items" apos) [] [] cpos) (iItemsX X.prog X.w td) := by
  refine ⟨fun pins s σ H R I h => ?_⟩
  refine wpAny_Call_method (T := "dict") (id := "dict.items") hbase rfl hline F.plainAttrs_dict F.slot_dict_items F.type_dict_items (thn (he.run pins s σ H _ I h) fun u s1 ⟨x, H1, I1, rx, d, o, xs, ex, hd, q⟩ => ?_)
  subst ex
  obtain rfl : u = Value.ref d := rx
  have q := q (dx_len I1 hd)
  obtain ⟨hs, hgd, hx, es, ep, hdt, hsz, ent⟩ := frzX I1 hd
  have raw : s1.heap.DictRaw d es ep := ⟨o, hgd, hx, hdt⟩
  refine ⟨raw.typeIs, fun b z => by cases z; exact ⟨o, hgd, hx.2.1⟩, ?_⟩
  have I2 : Inv X pins σ H1 { s1 with heap := s1.heap.push { cls := .type "dict_items", data := .fields #[.ref d] } } := I1.kept (t' := s1.toks) fun b ob q => Heap.get?_push_of_some _ q
  have raw2 := raw.at (h' := s1.heap.push { cls := .type "dict_items", data := .fields #[.ref d] }) fun ob q => Heap.get?_push_of_some _ q
  have fin : wpAny (model X.prog X.w) X.A (pyIter (.ref s1.heap.objs.size)) (PIE X pins σ (.Tuple elts kk tpos) R) X.xe { s1 with heap := s1.heap.push { cls := .type "dict_items", data := .fields #[.ref d] } } := by
    refine wpAny_pyIter_items_raw (d := d) ⟨_, Heap.get?_push_size _ rfl, rfl, rfl⟩ raw2 (pi_one (tk := s1.toks) I2 _ (turn_itemsX _ hdt) ⟨.none, .none, ?_⟩ q)
    rw [← hsz]
    exact Heap.get?_push_size _ rfl
  show wpAny _ _ (callWith cpos (.builtin "dict.items") [.ref d] [] []) _ X.xe s1
  exact method_meetsIn F.slot_dict_items F.entry_dict_items rfl (PySem.evalArgs_none ⟨rfl, raw.typeIs, F.args_dict_items_1 _, _, meets_dict_items_raw d hs, ⟨es, ep, raw⟩, fin⟩)
end
end RgK
end
section
set_option maxHeartbeats 2000000
/-! Rg, part L: dicts whose keys are tuples: walks, locks, get. -/
namespace Rf
open PySem PySem.Spec PyProof.Rows L2
open RgK (ItkX ItvX ItiX pi_keysX pi_valuesX pi_itemsX iKeysX iValsX iItemsX)
section
variable {K : PySem.W.Frag} {mg : Mg} {P : Program} {w : World} {Z : Addr → Prop} {α : Nat → Option Addr} {β β' : List Addr} {H H' : Hp} {env : Env} {S : Sto} {σ : L2.St} {b : Bool} {a : Addr} {od : Obj} {xs : List XE}
theorem map_get {β : Type} {f : XE → β} {i : Nat} {y : β} (h : (xs.map f)[i]? = some y) : ∃ x, xs[i]? = some x ∧ y = f x := by
  rw [List.getElem?_map] at h
  obtain ⟨x, e1, e2⟩ := Option.map_eq_some_iff.mp h
  exact ⟨x, e1, e2.symm⟩
theorem itkX_ok {ks : List D} (hH : H a = some (.frz od (DXO P w a xs))) (r : Reps K mg β (Oo Z α β) H ks (xs.map fun x => .ref x.2.1)) : ItOk K mg b Z α β H (ItkX P w a od xs) ks none where
  go := fun i d Z1 α1 β1 env1 S1 σ1 H1 R1 k g e => by
    have r1 : Reps K mg β1 (Oo Z1 α1 β1) H1 ks (xs.map fun x => .ref x.2.1) := Reps.mono k.nth k.keep k.avoid _ _ r
    obtain ⟨v, e1, e2⟩ := r1.get e
    obtain ⟨x, e3, rfl⟩ := map_get e1
    refine ⟨⟨k.frz _ _ _ hH, (List.getElem?_eq_some_iff.mp e3).1⟩, fun y H2 hy => ?_⟩
    obtain ⟨rfl, x2, e4, rfl⟩ := hy
    rw [e3] at e4
    cases e4
    exact ⟨fun _ _ e => e, R1, .refl, e2⟩
  stop := fun i Z1 α1 β1 env1 S1 σ1 H1 R1 k g hl => ⟨k.frz _ _ _ hH, by have := r.length; rw [List.length_map] at this; omega⟩
theorem itvX_ok {ds : List D} (hH : H a = some (.frz od (DXO P w a xs))) (r : Reps K mg β (Oo Z α β) H ds (xs.map fun x => x.2.2)) : ItOk K mg b Z α β H (ItvX P w a od xs) ds none where
  go := fun i d Z1 α1 β1 env1 S1 σ1 H1 R1 k g e => by
    have r1 : Reps K mg β1 (Oo Z1 α1 β1) H1 ds (xs.map fun x => x.2.2) := Reps.mono k.nth k.keep k.avoid _ _ r
    obtain ⟨v, e1, e2⟩ := r1.get e
    obtain ⟨x, e3, rfl⟩ := map_get e1
    refine ⟨⟨k.frz _ _ _ hH, (List.getElem?_eq_some_iff.mp e3).1⟩, fun y H2 hy => ?_⟩
    obtain ⟨rfl, x2, e4, rfl⟩ := hy
    rw [e3] at e4
    cases e4
    exact ⟨fun _ _ e => e, R1, .refl, e2⟩
  stop := fun i Z1 α1 β1 env1 S1 σ1 H1 R1 k g hl => ⟨k.frz _ _ _ hH, by have := r.length; rw [List.length_map] at this; omega⟩
theorem itiX_ok {ks ds : List D} (hH : H a = some (.frz od (DXO P w a xs))) (r : Reps K mg β (Oo Z α β) H ks (xs.map fun x => .ref x.2.1)) (r2 : Reps K mg β (Oo Z α β) H ds (xs.map fun x => x.2.2)) : ItOk K mg b Z α β H (ItiX P w a od xs) (pairs ks ds) none where
  go := fun i d Z1 α1 β1 env1 S1 σ1 H1 R1 k g e => by
    have s1 : Reps K mg β1 (Oo Z1 α1 β1) H1 ks (xs.map fun x => .ref x.2.1) := Reps.mono k.nth k.keep k.avoid _ _ r
    have s2 : Reps K mg β1 (Oo Z1 α1 β1) H1 ds (xs.map fun x => x.2.2) := Reps.mono k.nth k.keep k.avoid _ _ r2
    obtain ⟨x, y, x1, y1, rfl⟩ := pairs_get e
    obtain ⟨v, e1, e2⟩ := s1.get x1
    obtain ⟨u, f1, f2⟩ := s2.get y1
    obtain ⟨z, e3, rfl⟩ := map_get e1
    obtain ⟨z', e3', rfl⟩ := map_get f1
    rw [e3] at e3'
    cases e3'
    refine ⟨⟨k.frz _ _ _ hH, (List.getElem?_eq_some_iff.mp e3).1⟩, fun q H2 hy => ?_⟩
    obtain ⟨T, z2, e4, rfl, n, rfl⟩ := hy
    rw [e3] at e4
    cases e4
    exact yld_tup R1 n e2 f2
  stop := fun i Z1 α1 β1 env1 S1 σ1 H1 R1 k g hl => ⟨k.frz _ _ _ hH, by
    have l1 := r.length
    have l2 := r2.length
    rw [pairs_len] at hl
    rw [List.length_map] at l1 l2
    omega⟩
theorem adv_unlockX {W : Addr → Prop} {u : HO} (A : Adv W β (upd H a (.frz od u)) β' H') (hW : W a) (e : H a = some u) (hu : ∀ o v, u ≠ .frz o v) : Adv W β H β' (upd H' a u) where
  pre := by
    obtain ⟨nw, e1, h1⟩ := A.pre
    refine ⟨nw, e1, fun x hx => ?_⟩
    have h2 := h1 x hx
    by_cases z : x = a
    · rw [z, upd_same] at h2
      cases h2
    · rw [upd_ne z] at h2
      exact h2
  keep := fun x o e1 n => by
    have z : x ≠ a := fun z => n (by rw [z]; exact hW)
    rw [upd_ne z]
    exact A.keep x o (by rw [upd_ne z]; exact e1) n
  live := fun x e1 => by
    by_cases z : x = a
    · rw [z, upd_same]
      exact fun q => nomatch q
    · rw [upd_ne z]
      exact A.live x (by rw [upd_ne z]; exact e1)
  frz := fun x o v e1 => by
    have z : x ≠ a := fun z => by
      rw [z, e] at e1
      exact hu _ _ (Option.some.inj e1)
    rw [upd_ne z]
    exact A.frz x o v (by rw [upd_ne z]; exact e1)
end
/-- the keys, the values, the pairs of a locked dict -/
def iDictX (f : List D → List D → List D) (t : DE) : DI := fun env S => (t env S).bind fun p => match p.1 with
  | .ref n => (match p.2[n]? with
    | some (.dxn ks ds) => some ((f ks ds, none), p.2)
    | _ => none)
  | _ => none
section
variable {X : Cx} {b : Bool} {tg e : Expr} {t : DE} {apos cpos tpos : Pos} {elts : List Expr} {kk : Nat}
theorem lockedX {Z : Addr → Prop} {α : Nat → Option Addr} {β : List Addr} {H : Hp} {env : Env} {S : Sto} {σ : L2.St} {n : Nat} {v : V} {ks ds : List D} (R : Rel X.K (mX X) Z α β env S σ H) (r : Res X.K (mX X) Z α β H b (.ref n) v) (h : S[n]? = some (.dxn ks ds)) :
    ∃ a od xs, v = .ref a ∧ H a = some (.frz od (DXO X.prog X.w a xs)) ∧ ks.map tkD = xs.map (fun x => some x.1) ∧ Reps X.K (mX X) β (Oo Z α β) H ks (xs.map fun x => .ref x.2.1) ∧ Reps X.K (mX X) β (Oo Z α β) H ds (xs.map fun x => x.2.2) := by
  obtain ⟨a, rfl, hn⟩ := r.ref
  obtain ⟨o, e2, c⟩ := R.cell _ _ _ h hn
  cases c with
  | pl c => cases c
  | dxl h1 h2 h3 => exact ⟨a, _, _, rfl, e2, h1, h2, h3⟩
theorem I.keysX (h : EX X b e t) : IX X b tg e (iDictX fKeys t) :=
  PI.imp (pi_keysX h) fun σ H R' ⟨Z, α, β, env, S, items, gd, S', R, e1, q⟩ => by
    unfold iDictX at e1
    obtain ⟨⟨x, S1⟩, ex, e2⟩ := Option.bind_eq_some_iff.mp e1
    simp only at e2
    split at e2
    · split at e2
      · rename_i n ks ds en
        cases e2
        refine ⟨Z, α, β, env, S, _, S', R, ex, fun v H1 β1 R1 A1 r1 => ?_⟩
        obtain ⟨a, od, xs, rfl, hH, k1, k2, k3⟩ := lockedX R1 r1 en
        refine ⟨a, od, xs, rfl, hH, fun hl => q _ H1 β1 R1 A1 ?_ (itkX_ok hH k2)⟩
        show ks.length ≤ _
        have := k2.length
        rw [List.length_map] at this
        omega
      · cases e2
    · cases e2
theorem I.valsX (h : EX X b e t) (hbase : attributeBase e "values" X.env (eval e X.env) = eval e X.env := by rfl) (hline : (apos.endLine == cpos.line) = true := by rfl) : IX X b tg (.Call (.Attribute e "values" apos) [] [] cpos) (iDictX fVals t) :=
  PI.imp (pi_valuesX h hbase hline) fun σ H R' ⟨Z, α, β, env, S, items, gd, S', R, e1, q⟩ => by
    unfold iDictX at e1
    obtain ⟨⟨x, S1⟩, ex, e2⟩ := Option.bind_eq_some_iff.mp e1
    simp only at e2
    split at e2
    · split at e2
      · rename_i n ks ds en
        cases e2
        refine ⟨Z, α, β, env, S, _, S', R, ex, fun v H1 β1 R1 A1 r1 => ?_⟩
        obtain ⟨a, od, xs, rfl, hH, k1, k2, k3⟩ := lockedX R1 r1 en
        refine ⟨a, od, xs, rfl, hH, fun hl => q _ H1 β1 R1 A1 ?_ (itvX_ok hH k3)⟩
        show ds.length ≤ _
        have := k3.length
        rw [List.length_map] at this
        omega
      · cases e2
    · cases e2
theorem I.itemsX (h : EX X b e t) (hbase : attributeBase e "items" X.env (eval e X.env) = eval e X.env := by rfl) (hline : (apos.endLine == cpos.line) = true := by rfl) : IX X b (.Tuple elts kk tpos) (.Call (.Attribute e "items" apos) [] [] cpos) (iDictX pairs t) :=
  PI.imp (pi_itemsX h hbase hline) fun σ H R' ⟨Z, α, β, env, S, items, gd, S', R, e1, q⟩ => by
    unfold iDictX at e1
    obtain ⟨⟨x, S1⟩, ex, e2⟩ := Option.bind_eq_some_iff.mp e1
    simp only at e2
    split at e2
    · split at e2
      · rename_i n ks ds en
        cases e2
        refine ⟨Z, α, β, env, S, _, S', R, ex, fun v H1 β1 R1 A1 r1 => ?_⟩
        obtain ⟨a, od, xs, rfl, hH, k1, k2, k3⟩ := lockedX R1 r1 en
        refine ⟨a, od, xs, rfl, hH, fun hl => q _ H1 β1 R1 A1 ?_ (itiX_ok hH k2 k3)⟩
        have l1 := k2.length
        have l2 := k3.length
        rw [List.length_map] at l1 l2
        rw [pairs_len]
        omega
      · cases e2
    · cases e2
theorem dxo_nf {P : Program} {w : World} {a : Addr} {xs : List XE} : ∀ o v, DXO P w a xs ≠ .frz o v := fun _ _ z => nomatch z
/-- the statement runs while the dict that td tells is locked -/
def sLockX (td : DE) (t : DS) : DS := fun env S => (td env S).bind fun p => match p.1 with
  | .ref n => (match S[n]? with
    | some (.dtx ks ds) => (t env (S.set n (.dxn ks ds))).bind fun r => match r.2[n]? with
      | some (.dxn ks' ds') => some (r.1, r.2.set n (.dtx ks' ds'))
      | _ => none
    | _ => none)
  | _ => none
theorem S.lockX {st : Stmt} {t : DS} (td : DE) (h : SX X st t) : SX X st (sLockX td t) :=
  PS.imp (ps_lock h) fun E σ H ⟨Z, α, β, env, S, f, S', R, e1, q⟩ => by
    unfold sLockX at e1
    obtain ⟨⟨ov, S0⟩, eo, e1⟩ := Option.bind_eq_some_iff.mp e1
    simp only at e1
    split at e1
    · rename_i n
      split at e1
      · rename_i ks ds en
        obtain ⟨⟨f1, S1⟩, ef, e1⟩ := Option.bind_eq_some_iff.mp e1
        simp only at e1
        split at e1
        · rename_i ks' ds' en'
          cases e1
          obtain ⟨a, hn⟩ : ∃ a, β[n]? = some a := by
            have l := (List.getElem?_eq_some_iff.mp en).1
            rw [← R.blen] at l
            exact ⟨_, List.getElem?_eq_getElem l⟩
          obtain ⟨o, e2, c⟩ := R.cell _ _ _ en hn
          cases c with
          | pl c => cases c
          | @dx _ _ xs k1 k2 k3 =>
            have ha : a ∈ β := List.mem_of_getElem? hn
            refine ⟨a, _, e2, trivial, fun od => ⟨Z, α, β, env, S.set n (.dxn ks ds), f, S1, R.updRefS hn (.dxl k1 k2 k3), ef, ?_⟩⟩
            have opn : ∀ {env' : Env} {σ' : L2.St} {α' : Nat → Option Addr} {β' : List Addr} {H' : Hp}, Rel X.K (mX X) Z α' β' env' S1 σ' H' → Adv (Ws α β) β (upd H a (.frz od (DXO X.prog X.w a xs))) β' H' → OwS α (upd H a (.frz od (DXO X.prog X.w a xs))) α' →
                H' a = some (.frz od (DXO X.prog X.w a xs)) ∧ a ∈ β' ∧ Rel X.K (mX X) Z α' β' env' (S1.set n (.dtx ks' ds')) σ' (upd H' a (DXO X.prog X.w a xs)) ∧ Adv (Ws α β) β H β' (upd H' a (DXO X.prog X.w a xs)) ∧ OwS α H α' := fun {env' σ' α' β' H'} R' A O => by
              have hf := A.frz a od _ upd_same
              have hn' := A.nth _ _ hn
              obtain ⟨o', e3, c'⟩ := R'.cell _ _ _ en' hn'
              rw [hf] at e3
              cases e3
              generalize hu : DXO X.prog X.w a xs = U at hf c' A e2 ⊢
              cases c' with
              | pl c' => cases c'
              | @dxl _ _ xs' _ k1' k2' k3' =>
                refine ⟨hf, List.mem_of_getElem? hn', R'.updRefS hn' (.dx k1' k2' k3'), adv_unlockX A (.inl ha) e2 dxo_nf, fun i x e => ?_⟩
                rcases O i x e with z | z
                · exact .inl z
                · by_cases y : x = a
                  · rw [y, upd_same] at z
                    cases z
                  · rw [upd_ne y] at z
                    exact .inr z
            cases f with
            | nx env' => exact fun α' β' σ' H' R' A O => let ⟨p1, _, p2, p3, p4⟩ := opn R' A O; ⟨p1, q α' β' σ' _ p2 p3 p4⟩
            | bk env' => exact fun α' β' σ' H' R' A O => let ⟨p1, _, p2, p3, p4⟩ := opn R' A O; ⟨p1, q α' β' σ' _ p2 p3 p4⟩
            | ct env' => exact fun α' β' σ' H' R' A O => let ⟨p1, _, p2, p3, p4⟩ := opn R' A O; ⟨p1, q α' β' σ' _ p2 p3 p4⟩
            | rt d => exact fun v α' β' env' σ' H' R' A O r => let ⟨p1, p5, p2, p3, p4⟩ := opn R' A O; ⟨p1, q v α' β' env' σ' _ p2 p3 p4 (Rep.mono (fun _ _ e => e) (mv_upd (.inr (.inl p5))) (fun x z => .inl z) _ _ r)⟩
        · cases e1
      · cases e1
    · cases e1
/-- .. the expression -/
def dLockX (td t : DE) : DE := fun env S => (td env S).bind fun p => match p.1 with
  | .ref n => (match S[n]? with
    | some (.dtx ks ds) => (t env (S.set n (.dxn ks ds))).bind fun r => match r.2[n]? with
      | some (.dxn ks' ds') => some (r.1, r.2.set n (.dtx ks' ds'))
      | _ => none
    | _ => none)
  | _ => none
theorem E.lockX {t : DE} (td : DE) (h : EX X false e t) : EX X b e (dLockX td t) :=
  PE.imp (pe_lock h) fun σ H Q ⟨Z, α, β, env, S, d, S', R, e1, q⟩ => by
    unfold dLockX at e1
    obtain ⟨⟨ov, S0⟩, eo, e1⟩ := Option.bind_eq_some_iff.mp e1
    simp only at e1
    split at e1
    · rename_i n
      split at e1
      · rename_i ks ds en
        obtain ⟨⟨d1, S1⟩, ef, e1⟩ := Option.bind_eq_some_iff.mp e1
        simp only at e1
        split at e1
        · rename_i ks' ds' en'
          cases e1
          obtain ⟨a, hn⟩ : ∃ a, β[n]? = some a := by
            have l := (List.getElem?_eq_some_iff.mp en).1
            rw [← R.blen] at l
            exact ⟨_, List.getElem?_eq_getElem l⟩
          obtain ⟨o, e2, c⟩ := R.cell _ _ _ en hn
          cases c with
          | pl c => cases c
          | @dx _ _ xs k1 k2 k3 =>
            have ha : a ∈ β := List.mem_of_getElem? hn
            refine ⟨a, _, e2, trivial, fun od => ⟨Z, α, β, env, S.set n (.dxn ks ds), _, S1, R.updRefS hn (.dxl k1 k2 k3), ef, fun v H' β' R' A r => ?_⟩⟩
            have hf := A.frz a od _ upd_same
            have hn' := A.nth _ _ hn
            obtain ⟨o', e3, c'⟩ := R'.cell _ _ _ en' hn'
            rw [hf] at e3
            cases e3
            generalize hu : DXO (mX X).P (mX X).w a xs = U at hf c' A e2 q ⊢
            cases c' with
            | pl c' => cases c'
            | dxl k1' k2' k3' => exact ⟨hf, q v _ β' (R'.updRefS hn' (.dx k1' k2' k3')) (adv_unlockX A ha e2 dxo_nf) (.inl (Rep.mono (fun _ _ e => e) (mv_upd (.inr (.inl (List.mem_of_getElem? hn')))) (fun x z => .inl z) _ _ r.rep))⟩
        · cases e1
      · cases e1
    · cases e1
end
end Rf
end
section
set_option maxHeartbeats 2000000
/-! Rg, part M: t[i::d] of a tuple, the step above none. -/
namespace RgM
open PySem PySem.Spec PyProof.Rows L2 Rf
def plc (n i d : Nat) : Nat := Builtin.Slice.slicePlaces ((min i n : Nat) : Int) (n : Int) (d : Int)
def pick {α : Type} (xs : List α) (i d : Nat) : List α := (List.range (plc xs.length i d)).filterMap fun k => xs[min i xs.length + k * d]?
theorem pick_len {α : Type} (xs : List α) (i d : Nat) : (pick xs i d).length ≤ xs.length := by
  unfold pick
  refine Nat.le_trans (List.length_filterMap_le _ _) ?_
  rw [List.length_range]
  unfold plc Builtin.Slice.slicePlaces
  by_cases hd : (d : Int) > 0
  · rw [if_pos hd]
    split
    · have h1 : ((xs.length : Int) - ((min i xs.length : Nat) : Int) - 1) / (d : Int) ≤ (xs.length : Int) - ((min i xs.length : Nat) : Int) - 1 := Int.ediv_le_self _ (by omega)
      omega
    · simp
  · have : d = 0 := by omega
    subst this
    rw [if_neg hd]
    split
    · omega
    · simp
theorem pick_whole {α : Type} {xs : List α} {i d : Nat} (h : min i xs.length = 0 ∧ d = 1 ∧ plc xs.length i d = xs.length) : pick xs i d = xs := by
  obtain ⟨h1, rfl, h3⟩ := h
  unfold pick
  rw [h3, h1]
  have e : (fun k => xs[0 + k * 1]?) = fun k => xs[k]? := by funext k; simp
  rw [e]
  refine List.ext_getElem? fun j => ?_
  clear h1 h3 e
  induction xs generalizing j with
  | nil => simp
  | cons x xs ih =>
    rw [List.length_cons, List.range_succ_eq_map, List.filterMap_cons]
    simp only [List.getElem?_cons_zero]
    rw [List.filterMap_map]
    cases j with
    | zero => simp
    | succ j =>
      rw [List.getElem?_cons_succ, List.getElem?_cons_succ, ← ih j]
      congr 2
theorem Reps.sel {K : PySem.W.Frag} {mg : Mg} {β : List Addr} {O : Addr → Prop} {H : Hp} {ds : List D} {vs : List V} (r : Reps K mg β O H ds vs) (f : Nat → Nat) : ∀ ks : List Nat, Reps K mg β O H (ks.filterMap fun k => ds[f k]?) (ks.filterMap fun k => vs[f k]?)
  | [] => .nil
  | k :: ks => by
    have ih := Reps.sel r f ks
    rw [List.filterMap_cons, List.filterMap_cons]
    have hl := r.length
    by_cases h : f k < ds.length
    · obtain ⟨v, h1, h2⟩ := r.get (List.getElem?_eq_getElem h)
      rw [List.getElem?_eq_getElem h, h1]
      exact .cons h2 ih
    · rw [List.getElem?_eq_none (by omega), List.getElem?_eq_none (by omega)]
      exact ih
theorem Vals.sel {vs : List V} {us : List Value} (r : Vals vs us) (f : Nat → Nat) : ∀ ks : List Nat, Vals (ks.filterMap fun k => vs[f k]?) (ks.filterMap fun k => us[f k]?)
  | [] => .nil
  | k :: ks => by
    have ih := Vals.sel r f ks
    rw [List.filterMap_cons, List.filterMap_cons]
    have hl := r.length
    by_cases h : f k < vs.length
    · obtain ⟨v, h1, h2⟩ := L2.Vals.get r (List.getElem?_eq_getElem h)
      rw [List.getElem?_eq_getElem h, h1]
      exact .cons h2 ih
    · rw [List.getElem?_eq_none (by omega), List.getElem?_eq_none (by omega)]
      exact ih
section
variable {prog : Program} {w : World} {A : Around} {E : Value → Shared → Prop} {s : Shared}
theorem applied {sl : Addr} {vl vs : Value} {i d n : Nat} {Q : Int × Int × Nat → Shared → Prop} (hs : s.heap.IsSliceOf sl vl .none vs) (pl : IsPart vl (some (i : Int))) (ps : IsPart vs (some (d : Int))) (hd : 0 < d)
    (h : Q (((min i n : Nat) : Int), (d : Int), plc n i d) s) : wpAny (model prog w) A (Builtin.Slice.sliceApplied (.ref sl) (pure (n : Int))) Q E s := by
  obtain ⟨os, hos, hcs, hds⟩ := id hs
  unfold Builtin.Slice.sliceApplied Builtin.Slice.sliceFields
  refine wpAny_bind (wpAny_bind (wpAny_field hos hds (x := vl) rfl (wpAny_bind (wpAny_field hos hds (x := .none) rfl (wpAny_bind (wpAny_field hos hds (x := vs) rfl (wpAny_pure ?_)))))))
  refine wpAny_bind (HT.slicePart_ ps ?_)
  show wpAny _ _ (if ((d : Int) == 0) = true then _ else _) _ _ s
  rw [if_neg (by simp; omega)]
  refine wpAny_bind (HT.slicePart_ pl (wpAny_bind (HT.slicePart_ .none (wpAny_bind (wpAny_pure ?_)))))
  have e : Builtin.Slice.sliceAdjust (some (i : Int)) none (d : Int) (n : Int) = (((min i n : Nat) : Int), (n : Int)) := by
    have h1 : ¬ ((d : Int) < 0) := by omega
    unfold Builtin.Slice.sliceAdjust
    simp only [h1, if_false]
    refine Prod.ext ?_ rfl
    show (if (i : Int) < 0 then max ((i : Int) + (n : Int)) 0 else min (i : Int) (n : Int)) = _
    rw [if_neg (by omega)]
    omega
  show wpAny _ _ (match Builtin.Slice.sliceAdjust (some (i : Int)) none (d : Int) (n : Int) with | (lo, hi) => pure (lo, (d : Int), Builtin.Slice.slicePlaces lo hi (d : Int))) _ _ s
  rw [e]
  exact wpAny_pure h
theorem getItem_step {t sl : Addr} {items : List Value} {vl vs : Value} {i d : Nat} {Q : Value → Shared → Prop} (ht : IsTup s.heap t items.toArray) (hs : s.heap.IsSliceOf sl vl .none vs) (pl : IsPart vl (some (i : Int))) (ps : IsPart vs (some (d : Int))) (hd : 0 < d)
    (h0 : (min i items.length = 0 ∧ d = 1 ∧ plc items.length i d = items.length) → Q (.ref t) s)
    (h : ¬ (min i items.length = 0 ∧ d = 1 ∧ plc items.length i d = items.length) → Q (.ref s.heap.objs.size) { s with heap := s.heap.push (tob (pick items i d)) })
    (hsz : items.length ≤ sizeLine) : wpAny (model prog w) A (getItem (.ref t) (.ref sl)) Q E s := by
  have hok : sizeOk (.seq (pick items i d).toArray) := by
    show (pick items i d).toArray.size ≤ sizeLine
    have := pick_len items i d
    rw [List.size_toArray]
    omega
  obtain ⟨os, hos, hcs, hds⟩ := id hs
  have hTs : s.TypeIs (.ref sl) "slice" := ⟨os, hos, hcs⟩
  have hn : (items.toArray.size : Int) = (items.length : Int) := by rw [List.size_toArray]
  unfold getItem
  try with_reducible refine wpAny_holding ?_
  first | refine wpAny_bind (wpAny_pure ?_) | skip
  refine wpAny_bind (wpAny_sequenceKey ht.typeIs (by decide) ?_)
  refine wpAny_bind (wpAny_callSpecial?_slot (name := Str.ofString "__getitem__") ht.typeIs PyProof.Rows.slot_tuple_getitem
    (wpAny_call_entry PyProof.Rows.slot_tuple_getitem ht.typeIs entry_tuple_getitem ?_ (args_tuple_getitem _ _)))
  show wpAny _ _ (Builtin.Tuple.tupleItemsOf (.ref t) >>= _) _ _ s
  refine wpAny_bind (tupleItemsOf_ ht ?_)
  refine wpAny_bind (wpAny_typeOf hTs ?_)
  rw [if_pos (by decide), hn]
  refine wpAny_bind (applied hs pl ps hd ?_)
  show wpAny _ _ (if (((min i items.length : Nat) : Int) == 0 && (d : Int) == 1 && plc items.length i d == items.toArray.size) = true then _ else _) _ _ s
  by_cases hw : min i items.length = 0 ∧ d = 1 ∧ plc items.length i d = items.length
  · have hyes : (((min i items.length : Nat) : Int) == 0 && (d : Int) == 1 && plc items.length i d == items.toArray.size) = true := by
      rw [hw.1, hw.2.2, hw.2.1, List.size_toArray]
      simp
    rw [if_pos hyes]
    refine wpAny_bind ?_
    show wpAny _ _ (typeOf (.ref t) >>= fun T => pure (T == .type "tuple")) _ _ s
    refine wpAny_bind (wpAny_typeOf ht.typeIs (wpAny_pure ?_))
    have h0 := h0 hw
    first
      | rw [if_pos (by decide)]
      | simp only [beq_self_eq_true, if_true]
    first
      | exact wpAny_bind (wpAny_rule (wpAny_pure ⟨_, rfl, wpAny_pure h0⟩))
      | exact wpAny_bind (wpAny_rule (wpAny_bind (wpAny_pure (wpAny_pure ⟨_, rfl, wpAny_pure h0⟩))))
  · have hno : ¬ (((min i items.length : Nat) : Int) == 0 && (d : Int) == 1 && plc items.length i d == items.toArray.size) = true := by
      intro q
      rw [Bool.and_eq_true, Bool.and_eq_true] at q
      have q1 : ((min i items.length : Nat) : Int) = 0 := eq_of_beq q.1.1
      have q2 : (d : Int) = 1 := eq_of_beq q.1.2
      have q3 : plc items.length i d = items.toArray.size := eq_of_beq q.2
      rw [List.size_toArray] at q3
      exact hw ⟨by omega, by omega, q3⟩
    rw [if_neg hno]
    have e : ((List.range (plc items.length i d)).filterMap fun (k : Nat) => items.toArray[(((min i items.length : Nat) : Int) + (k : Int) * (d : Int)).toNat]?).toArray = (pick items i d).toArray := by
      unfold pick
      congr 2
      funext k
      have : (((min i items.length : Nat) : Int) + (k : Int) * (d : Int)).toNat = min i items.length + k * d := by
        have e2 : (k : Int) * (d : Int) = ((k * d : Nat) : Int) := by push_cast; rfl
        rw [e2]
        omega
      rw [this]
      simp
    rw [e]
    have h := h hw
    first
      | exact wpAny_bind (m := Builtin.Tuple.tupleExact _) (wpAny_newObj_type (wpAny_pure ⟨_, rfl, wpAny_pure h⟩) hok)
      | exact wpAny_bind (m := Builtin.Tuple.tupleExact _) (wpAny_newObj_type (wpAny_bind (wpAny_pure (wpAny_pure ⟨_, rfl, wpAny_pure h⟩))) hok)
      | exact wpAny_bind (wpAny_bind (m := Builtin.Tuple.tupleExact _) (wpAny_newObj_type (wpAny_pure (wpAny_pure ⟨_, rfl, wpAny_pure h⟩)) hok))
      | exact wpAny_bind (wpAny_bind (m := Builtin.Tuple.tupleExact _) (wpAny_newObj_type (wpAny_pure ⟨_, rfl, wpAny_pure h⟩) hok))
end
section
variable {X : Cx} {e lo st : Expr} {p2 pos : Pos} {te tl ts : TE}
def tStp (K : PySem.W.Frag) (te : TE) (tl ts : TO) : TE := fun σ H Q => te σ H fun x H1 => tl σ H1 fun l H2 => ts σ H2 fun q H3 => ∃ a xs i d, x = .ref a ∧ SqT K H3 a xs ∧ l = some ((i : Nat) : Int) ∧ q = some ((d : Nat) : Int) ∧ 0 < d ∧
  ((min i xs.length = 0 ∧ d = 1 ∧ plc xs.length i d = xs.length) → Q (.ref a) H3) ∧ (¬ (min i xs.length = 0 ∧ d = 1 ∧ plc xs.length i d = xs.length) → NT H3 (pick xs i d) Q)
theorem pe_step {tl ts : TO} (he : PE X e te) (hl : PO X (some lo) tl) (hs : PO X (some st) ts) : PE X (.Subscript e (.Slice (some lo) none (some st) p2) pos) (tStp X.K te tl ts) := by
  refine ⟨fun pins s σ H Q I h => ?_⟩
  refine Subscript_ (thn (he.run pins s σ H _ I h) fun v s1 ⟨x, H1, I1, r1, q1⟩ => ?_)
  refine wpAny_Slice (thn (hl.run pins s1 σ H1 _ I1 q1) fun vl s2 ⟨l, H2, I2, pl, q2⟩ => ?_)
  rw [evalPart_none]
  refine wpAny_pure ?_
  refine thn (hs.run pins s2 σ H2 _ I2 q2) fun vs s3 ⟨q, H3, I3, ps, a, xs, i, d, ex, hx, el, eq, hd, h0, h1⟩ => ?_
  subst ex el eq
  cases r1
  have I4 : Inv X pins σ H3 { s3 with heap := s3.heap.push { cls := .type "slice", data := .fields #[vl, .none, vs] } } := I3.kept (t' := s3.toks) fun b ob q => Heap.get?_push_of_some _ q
  obtain ⟨its, r, ht, hz⟩ := I4.tuple hx
  have hlen := r.length
  show wpAny (model X.prog X.w) X.A (subscriptTail e (.Slice (some lo) none (some st) p2) (.ref a) (.ref s3.heap.objs.size)) (EP X pins σ Q) X.xe { s3 with heap := s3.heap.push { cls := .type "slice", data := .fields #[vl, .none, vs] } }
  refine tail_any (ops := [.ref a, .ref s3.heap.objs.size]) ht.typeIs PyProof.Rows.slot_tuple_getitem.lookup ?_ (by with_unfolding_all rfl)
  refine getItem_step ht (Heap.IsSliceOf.new _ vl .none vs) pl ps hd (fun hw => ?_) (fun hw => ?_) (by omega)
  · rw [← hlen] at hw
    exact ⟨.ref a, H3, I4, rfl, h0 hw⟩
  · rw [← hlen] at hw
    refine nt_laid I4 (Nat.le_trans (pick_len xs i d) hz) ?_ (h1 hw)
    unfold pick
    rw [← hlen]
    exact Vals.sel r (fun k => min i xs.length + k * d) _
end
end RgM
namespace Rf
open PySem PySem.Spec PyProof.Rows L2
open RgM (plc)
def stepD (S : Sto) (x : D) (i d : Option Int) : Option D := match seqD S x, i, d with
  | some (true, xs), some i, some d => if 0 ≤ i ∧ 0 < d then some (.tup (RgM.pick xs i.toNat d.toNat)) else none
  | _, _, _ => none
/-- t[i::d] -/
def dStp (t : DE) (lo st : DO) : DE := fun env S => (t env S).bind fun p => (lo env p.2).bind fun l => (st env l.2).bind fun h => (stepD h.2 p.1 l.1 h.1).map fun z => (z, h.2)
theorem E.step {X : Cx} {b : Bool} {e lo st : Expr} {p2 pos : Pos} {t : DE} {tl ts : DO} (h : EX X true e t) (hl : OX X (some lo) tl) (hh : OX X (some st) ts) : EX X b (.Subscript e (.Slice (some lo) none (some st) p2) pos) (dStp t tl ts) :=
  PE.imp (RgM.pe_step h hl hh) fun σ H Q ⟨Z, α, β, env, S, d, S', R, e1, q⟩ => by
    unfold dStp at e1
    obtain ⟨⟨x, S1⟩, ex, e1⟩ := Option.bind_eq_some_iff.mp e1
    obtain ⟨⟨l, S2⟩, el, e1⟩ := Option.bind_eq_some_iff.mp e1
    obtain ⟨⟨u, S3⟩, eu, e1⟩ := Option.bind_eq_some_iff.mp e1
    obtain ⟨z, ez, e2⟩ := Option.map_eq_some_iff.mp e1
    clear e1
    cases e2
    refine ⟨Z, α, β, env, S, x, S1, R, ex, fun v H1 β1 R1 A1 r1 => ⟨Z, α, β1, env, S1, l, S2, R1, el, fun H2 β2 R2 A2 => ⟨Z, α, β2, env, S2, u, S3, R2, eu, fun H3 β3 R3 A3 => ?_⟩⟩⟩
    have r3 := (r1.adv R1 A2).adv R2 A3
    have A := (A1.trb A2).trb A3
    replace ez : stepD S3 x l u = some d := ez
    have this : ∃ xs i k, seqD S3 x = some (true, xs) ∧ l = some i ∧ u = some k ∧ 0 ≤ i ∧ 0 < k ∧ d = .tup (RgM.pick xs i.toNat k.toNat) := by
      unfold stepD at ez
      split at ez
      · split at ez
        · rename_i hik
          cases ez
          exact ⟨_, _, _, by assumption, rfl, rfl, hik.1, hik.2, rfl⟩
        · cases ez
      · cases ez
    obtain ⟨xs, i, k, eq1, rfl, rfl, hi, hk, rfl⟩ := this
    obtain ⟨a, vs, rfl, rr, h1⟩ := r3.seq R3 eq1
    have hl := rr.length
    refine ⟨a, vs, i.toNat, k.toNat, rfl, seq_tt h1, by rw [Int.toNat_of_nonneg hi], by rw [Int.toNat_of_nonneg (by omega)], by omega, fun hw => q _ _ β3 R3 A (.inl ?_), fun hw p o n hd => q _ _ β3 (R3.nw n) (A.trb (Adv.upd n)) (.inl (R3.tupN ?_ n hd))⟩
    · rw [← hl] at hw
      rw [RgM.pick_whole hw]
      exact r3.repT eq1
    · unfold RgM.pick
      rw [← hl]
      exact RgM.Reps.sel rr _ _
end Rf
end
section
set_option maxHeartbeats 2000000
/-! Rg, part N: d.get(k), d.get(k, e) of a dict whose keys are tuples. -/
namespace Rf
open PySem PySem.Spec PyProof.Rows L2
section
variable {X : Cx} {eo ei ee : Expr} {apos cpos : Pos} {td ty tx : TE}
def tGetT1 (X : Cx) (td ty : TE) : TE := fun σ H Q => td σ H fun x H1 => ∃ a xs0, x = .ref a ∧ DGX X H1 a xs0 ∧ ty σ H1 fun y H2 => ∃ xs k b, DGX X H2 a xs ∧ y = .ref b ∧ KX X H2 k b ∧ Q ((atX xs k).getD .non) H2
def tGetT2 (X : Cx) (td ty tx : TE) : TE := fun σ H Q => td σ H fun x H1 => ∃ a xs0, x = .ref a ∧ DGX X H1 a xs0 ∧ ty σ H1 fun y H2 => tx σ H2 fun z H3 => ∃ xs k b, DGX X H3 a xs ∧ y = .ref b ∧ KX X H3 k b ∧ Q ((atX xs k).getD z) H3
theorem pe_tget1 (hu : X.A.units + 65 < cLine) (ho : PE X eo td) (he : PE X ei ty) (m : M1 X eo "get" apos ei cpos) : PE X (.Call (.Attribute eo "get" apos) [ei] [] cpos) (tGetT1 X td ty) := by
  refine ⟨fun pins s σ H Q I h => ?_⟩
  refine wpAny_Call_method m.base m.few m.line PySem.F.plainAttrs_dict PySem.F.slot_dict_get PySem.F.type_dict_get (thn (ho.run pins s σ H _ I h) fun u s1 ⟨x, H1, I1, rx, a, xs0, ex, g0, q1⟩ => ?_)
  subst ex
  obtain rfl : u = Value.ref a := rx
  obtain ⟨ys0, P0, D0, hd, _⟩ := g0.dict I1
  refine ⟨D0.typeIs, fun b z => by
    cases z
    obtain ⟨ob, _, _, h1, h2, _⟩ := D0
    exact ⟨ob, h1, h2.2.1⟩, ?_⟩
  rw [m.trees]
  refine Calls.callWith_builtin rfl (Calls.evalArgs_plain (Calls.spliced_cons (thn (he.run pins s1 σ H1 _ I1 q1) fun iv s2 ⟨y, H2, I2, ry, xs, k, b, g, ey, kx, q2⟩ => Calls.spliced_nil ?_)))
  subst ey
  obtain rfl : iv = Value.ref b := ry
  obtain ⟨ys, P, D, _, _⟩ := g.dict I2
  refine call_meetsIn PySem.F.slot_dict_get D.typeIs PySem.F.entry_dict_get (PySem.F.args_dict_get_2 _ _) (meetsH_dict_get (nestedKind X.prog X.w) a b hd) ⟨room_nk hu, k, ys, kx.is I2, D, _, H2, I2.tok _, ?_, q2⟩
  exact (PX.at P).getD rfl
theorem pe_tget2 (hu : X.A.units + 65 < cLine) (ho : PE X eo td) (he : PE X ei ty) (hf : PE X ee tx) (m : M2 X eo "get" apos ei ee cpos) : PE X (.Call (.Attribute eo "get" apos) [ei, ee] [] cpos) (tGetT2 X td ty tx) := by
  refine ⟨fun pins s σ H Q I h => ?_⟩
  refine wpAny_Call_method m.base m.few m.line PySem.F.plainAttrs_dict PySem.F.slot_dict_get PySem.F.type_dict_get (thn (ho.run pins s σ H _ I h) fun u s1 ⟨x, H1, I1, rx, a, xs0, ex, g0, q1⟩ => ?_)
  subst ex
  obtain rfl : u = Value.ref a := rx
  obtain ⟨ys0, P0, D0, hd, _⟩ := g0.dict I1
  refine ⟨D0.typeIs, fun b z => by
    cases z
    obtain ⟨ob, _, _, h1, h2, _⟩ := D0
    exact ⟨ob, h1, h2.2.1⟩, ?_⟩
  rw [m.trees]
  refine Calls.callWith_builtin rfl (Calls.evalArgs_plain (Calls.spliced_cons (thn (he.run pins s1 σ H1 _ I1 q1) fun iv s2 ⟨y, H2, I2, ry, q2⟩ =>
    Calls.spliced_cons (thn (hf.run pins s2 σ H2 _ I2 q2) fun fv s3 ⟨z, H3, I3, rz, xs, k, b, g, ey, kx, q3⟩ => Calls.spliced_nil ?_))))
  subst ey
  obtain rfl : iv = Value.ref b := ry
  obtain ⟨ys, P, D, _, _⟩ := g.dict I3
  refine call_meetsIn PySem.F.slot_dict_get D.typeIs PySem.F.entry_dict_get (PySem.F.args_dict_get_3 _ _ _) (meetsH_dict_get_default (nestedKind X.prog X.w) a b hd fv) ⟨room_nk hu, k, ys, kx.is I3, D, _, H3, I3.tok _, ?_, q3⟩
  exact (PX.at P).getD rz
end
section
variable {X : Cx} {b : Bool} {eo ei ee : Expr} {o i t : DE} {pos apos : Pos}
theorem getT_rep {K : PySem.W.Frag} {mg : Mg} {β : List Addr} {O : Addr → Prop} {H : Hp} {k : NestedKey} {ks ds : List D} {xs : List XE} {e : D} {v : V} (k1 : ks.map tkD = xs.map (fun x => some x.1)) (k3 : Reps K mg β O H ds (xs.map fun x => x.2.2)) (re : Rep K mg β O H e v) : Rep K mg β O H ((lookT k ks ds).getD e) ((atX xs k).getD v) := by
  obtain ⟨l1, l2⟩ := lookT_rep (k := k) k1 k3
  cases h : lookT k ks ds with
  | none => rw [l2 h]; exact re
  | some d =>
    obtain ⟨u, h1, h2⟩ := l1 d h
    rw [h1]
    exact h2
theorem E.getT2 (hu : X.A.units + 65 < cLine) (ho : EX X true eo o) (hi : EX X true ei i) (he : EX X false ee t) (m : M2 X eo "get" apos ei ee pos := by exact ⟨rfl, rfl, rfl, rfl⟩) : EX X b (.Call (.Attribute eo "get" apos) [ei, ee] [] pos) (dGetT2 o i t) :=
  PE.imp (pe_tget2 hu ho hi he m) fun σ H Q ⟨Z, α, β, env, S, d, S', R, e1, q⟩ => by
    unfold dGetT2 at e1
    obtain ⟨⟨ov, S1⟩, eo, e1⟩ := Option.bind_eq_some_iff.mp e1
    obtain ⟨⟨ks0, ds0⟩, ed0, e1⟩ := Option.bind_eq_some_iff.mp e1
    obtain ⟨⟨iv, S2⟩, ei, e1⟩ := Option.bind_eq_some_iff.mp e1
    obtain ⟨⟨xv, S3⟩, ex, e1⟩ := Option.bind_eq_some_iff.mp e1
    obtain ⟨⟨ks, ds⟩, ed, e1⟩ := Option.bind_eq_some_iff.mp e1
    obtain ⟨k, ek, e2⟩ := Option.map_eq_some_iff.mp e1
    cases e2
    refine ⟨Z, α, β, env, S, ov, S1, R, eo, fun v H1 β1 R1 A1 r1 => ?_⟩
    obtain ⟨a, xs0, rfl, hH0, j1, j2, _⟩ := dictT_of R1 r1 ed0
    refine ⟨a, xs0, rfl, ⟨hH0, ks0, _, _, _, j1, j2⟩, Z, α, β1, env, S1, iv, S2, R1, ei, fun w H2 β2 R2 A2 r2 => ⟨Z, α, β2, env, S2, xv, S3, R2, ex, fun u H3 β3 R3 A3 r3 => ?_⟩⟩
    obtain ⟨a', xs, ea, hH, k1, k2, k3⟩ := dictT_of R3 ((r1.adv R1 A2).adv R2 A3) ed
    cases ea
    obtain ⟨c, rfl, kx, _⟩ := kx_of (r2.adv R2 A3) ek
    exact ⟨xs, k, c, ⟨hH, ks, _, _, _, k1, k2⟩, rfl, kx, q _ H3 β3 R3 ((A1.trb A2).trb A3) (.inl (getT_rep k1 k3 r3.rep))⟩
theorem E.getT1 (hu : X.A.units + 65 < cLine) (ho : EX X true eo o) (hi : EX X true ei i) (m : M1 X eo "get" apos ei pos := by exact ⟨rfl, rfl, rfl, rfl⟩) : EX X b (.Call (.Attribute eo "get" apos) [ei] [] pos) (dGetT1 o i) :=
  PE.imp (pe_tget1 hu ho hi m) fun σ H Q ⟨Z, α, β, env, S, d, S', R, e1, q⟩ => by
    unfold dGetT1 at e1
    obtain ⟨⟨ov, S1⟩, eo, e1⟩ := Option.bind_eq_some_iff.mp e1
    obtain ⟨⟨ks0, ds0⟩, ed0, e1⟩ := Option.bind_eq_some_iff.mp e1
    obtain ⟨⟨iv, S2⟩, ei, e1⟩ := Option.bind_eq_some_iff.mp e1
    obtain ⟨⟨ks, ds⟩, ed, e1⟩ := Option.bind_eq_some_iff.mp e1
    obtain ⟨k, ek, e2⟩ := Option.map_eq_some_iff.mp e1
    cases e2
    refine ⟨Z, α, β, env, S, ov, S1, R, eo, fun v H1 β1 R1 A1 r1 => ?_⟩
    obtain ⟨a, xs0, rfl, hH0, j1, j2, _⟩ := dictT_of R1 r1 ed0
    refine ⟨a, xs0, rfl, ⟨hH0, ks0, _, _, _, j1, j2⟩, Z, α, β1, env, S1, iv, S2, R1, ei, fun w H2 β2 R2 A2 r2 => ?_⟩
    obtain ⟨a', xs, ea, hH, k1, k2, k3⟩ := dictT_of R2 (r1.adv R1 A2) ed
    cases ea
    obtain ⟨c, rfl, kx, _⟩ := kx_of r2 ek
    exact ⟨xs, k, c, ⟨hH, ks, _, _, _, k1, k2⟩, rfl, kx, q _ H2 β2 R2 (A1.trb A2) (.inl (getT_rep k1 k3 .non))⟩
end
end Rf
end
section
set_option maxHeartbeats 1600000
/-! RgO: sorted(d) of a dict, whatever its keys are. -/
namespace RgO
open PySem PySem.Spec PySem.W PyProof.Rows L2
open PySem.W (EachIs SortsAt Sortable AllAlike dataLe list_sort_vals sortVals_data sortVals_length sortVals sortingHeap sortingHeap_old each_map dataKind)
open RgC (each_mono)
theorem vals_of_items {es : Array DictEntry} {acc : Array Value} (h : ItemsOf (fun i v => ∃ hi : i < es.size, v = es[i].key) acc es.size) : acc.toList = es.toList.map (·.key) := by
  apply List.ext_getElem?
  intro j
  cases e : acc.toList[j]? with
  | some v =>
    obtain ⟨hi, ev⟩ := h.2 j v (by rw [← Array.getElem?_toList]; exact e)
    rw [List.getElem?_map, Array.getElem?_toList, Array.getElem?_eq_getElem hi, ev]
    rfl
  | none =>
    have z := List.getElem?_eq_none_iff.mp e
    rw [Array.length_toList, h.1] at z
    rw [List.getElem?_map, Array.getElem?_toList, Array.getElem?_eq_none z]
    rfl
section
variable {P : Program} {w : World} {A : Around} {E : Value → Shared → Prop} {s : Shared} {a : Addr}
theorem sortedDS {γ : Type} {enc : γ → PyData} {F : Value → γ → Prop} {es : Array DictEntry} {ep : Nat} {gs : List γ} {R : Value → Shared → Prop} (hh : A.handled = none) (lo : (a == sysModules) = false) (ha : s.heap.DictRaw a es ep) (sz : es.size ≤ sizeLine)
    (hF : EachIs (fun v g => F v g ∧ ∃ as, Reads s.heap v (enc g) as) (es.toList.map (·.key)) gs) (hal : AllAlike (gs.map enc)) (hk : Sortable (gs.map enc)) (hu : ∀ b, b ∈ gs → A.units + 2 + (enc b).depth < cLine)
    (q : ∀ (h1 h' : Heap) (tk : Nat) (p : Addr) (out : List Value) (c : Nat), (∀ b o, s.heap.get? b = some o → h1.get? b = some o) → p = h1.objs.size → (∀ b o, h1.get? b = some o → h'.get? b = some o) → h'.get? p = some (seqObj "list" (List.toArray out) c) → EachIs F out (gs.mergeSort (dataLe false enc)) → R (.ref p) { s with heap := h', toks := tk }) :
    wpAny (model P w) A (call (.builtin "sorted") [.ref a]) R E s := by
  refine Calls.call_function_entry kind_sorted plain_sorted entry_sorted (args_sorted1 _) ?_; unfold Builtin.«sorted»
  refine wpAny_bind (m := checkCount "sorted" 1 1 _) (wpAny_pure (wpAny_bind (PySem.W.kdu_collect (A := A.in1) (KdlSrc.rawDict lo) hh ha sz fun h1 tk acc k1 hacc => ?_)))
  have ev := vals_of_items hacc
  rw [ev]
  have e1 := hF
  have lv : (es.toList.map (·.key)).length ≤ sizeLine := by rw [List.length_map, Array.length_toList]; exact sz
  refine wpAny_bind (wpAny_newList ?_ lv)
  generalize es.toList.map (·.key) = vs at *
  have gl : (h1.push (seqObj "list" vs.toArray 0)).get? h1.objs.size = some (seqObj "list" vs.toArray 0) := Heap.get?_push_size _ rfl
  have old : ∀ b o, s.heap.get? b = some o → (sortingHeap (h1.push (seqObj "list" vs.toArray 0)) h1.objs.size vs).get? b = some o := fun b o z => by
    have z1 := k1 b o z
    exact sortingHeap_old (Nat.ne_of_lt (Heap.lt_size z1)) (Heap.get?_push_of_some _ z1)
  have e3 : EachIs (fun v g => ∃ as, Reads (sortingHeap (h1.push (seqObj "list" vs.toArray 0)) h1.objs.size vs) v (enc g) as) vs gs := each_mono (fun v g ⟨_, as, z⟩ => ⟨as, PyProof.Rows.Reads.keeps old z⟩) e1
  refine wpAny_bind (wpAny_holding (wpAny_call_entry slot_list_sort ⟨_, gl, rfl⟩ entry_list_sort ?main (args_list_sort _)))
  case main =>
    refine list_sort_vals (s := { s with heap := h1.push (seqObj "list" vs.toArray 0), toks := tk }) gl (SortsAt.data (s := { s with heap := sortingHeap (h1.push (seqObj "list" vs.toArray 0)) h1.objs.size vs, toks := tk }) (each_map (R := fun v d => ∃ as, Reads (sortingHeap (h1.push (seqObj "list" vs.toArray 0)) h1.objs.size vs) v d as) enc e3) hal hk fun d hd => ?_) lv ?_
    · obtain ⟨b, hb, rfl⟩ := List.mem_map.mp hd
      exact hu b hb
    · obtain ⟨c, hc⟩ := sortedHeap_at (vs := vs) (out := (sortVals (dataKind (sortingHeap (h1.push (seqObj "list" vs.toArray 0)) h1.objs.size vs) (gs.map enc)) false vs vs).toArray) gl
      refine ⟨_, rfl, wpAny_pure ⟨_, rfl, q h1 _ tk h1.objs.size _ c k1 rfl (fun b u z1 => ?_) hc (sortVals_data false (each_mono (fun _ _ h => h.1) e1) e3 hal)⟩⟩
      have lt := Heap.lt_size z1
      rw [show (sortedHeap (h1.push (seqObj "list" vs.toArray 0)) h1.objs.size vs _).get? b = (h1.push (seqObj "list" vs.toArray 0)).get? b from sortedHeap_old (Nat.ne_of_lt lt) (by rw [size_push']; exact Nat.lt_succ_of_lt lt)]
      exact Heap.get?_push_of_some _ z1
end
end RgO
end
section
set_option maxHeartbeats 1600000
/-! RgP: sorted(d) of a dict whose keys are tuples, as a rule. -/
namespace Rf
open PySem PySem.Spec PyProof.Rows L2
open PySem.W (EachIs)
theorem each_both {α β : Type} {R S : α → β → Prop} : ∀ {xs : List α} {ys : List β}, EachIs R xs ys → EachIs S xs ys → EachIs (fun a b => R a b ∧ S a b) xs ys
  | _, _, .nil, .nil => .nil
  | _, _, .cons p t, .cons q u => .cons ⟨p, q⟩ (each_both t u)
theorem px_keys {P : Program} {w : World} : ∀ {xs : List XE} {ys : List (NestedKey × Addr × Value)}, PX xs ys → Vals (xs.map fun x => V.ref x.2.1) ((ys.map (entryOfKey (nestedKind P w))).map (·.key))
  | _, _, .nil => .nil
  | _, _, .cons (a := x) (b := y) r t => .cons (show Value.ref y.2.1 = Value.ref x.2.1 by rw [r.2.1]) (px_keys t)
section
variable {X : Cx}
def rSortX (X : Cx) : List V → Hp → VK → Prop := fun vs H Q => ∃ (a : Addr) (xs : List XE) (ks : List D) (ps : List PyData) (β : List Addr) (O : Addr → Prop), vs = [V.ref a] ∧ Rd H a (DXO X.prog X.w a xs) ∧ Reps X.K (mX X) β O H ks (xs.map fun x => .ref x.2.1) ∧ pyDs ks = some ps ∧ alikeB ps = true ∧ sortableB ps = true ∧ SeqAt.shaped (.list ps) = true ∧
  ∀ p ys, H p = none → Reps X.K (mX X) β O H (ks.mergeSort (PySem.W.dataLe false encD)) ys → Q (.ref p) (upd H p (.lst ys))
theorem cr_sortX (hc : X.calm = true) (hu : X.A.units + 67 < cLine) : CallR X (.builtin "sorted") (rSortX X) := by
  intro pins s σ H vs us Q I r h
  obtain ⟨a, xs, ks, ps, β, O, rfl, hR, rp, e, ha, hk, hz, q⟩ := h
  obtain ⟨⟨z, hd, nd, o, es, ep, ys, ho, hcl, hdat, he, P⟩, _, _⟩ := (show ObjOk X.prog X.w H s.heap a (DXO X.prog X.w a xs) from hR.ok I.hok)
  rw [Vals.ref1 r]
  have rv : Vals (xs.map fun x => V.ref x.2.1) (es.toList.map (·.key)) := by rw [he]; exact px_keys P
  have hlen0 : ks.length = xs.length := by have := rp.length; rw [List.length_map] at this; exact this
  have hsz : es.size = xs.length := by rw [← Array.length_toList, he, List.length_map, Paired.length P]
  obtain ⟨as, hr⟩ := Dp.readsAll I ps _ _ (Reps.dp rp e) rv
  have ep' := pyDs_enc e
  rw [← ep'] at hr ha hk hz
  have hdp := SeqAt.depth_of_shaped hz
  rw [PyData.depth] at hdp
  refine RgO.sortedDS (enc := encD) (F := fun u d => ∃ x, RelV x u ∧ Rep X.K (mX X) β O H d x) (I.ok.hd hc) hd ⟨o, ho, hcl, hdat⟩ (by rw [hsz]; exact z) (each_both (each_of rp rv) (each_reads hr)) (alikeB_ok ha) (sortableB_ok hk) (fun b hb => ?_) fun h1 h' tk p out c k1 hp k2 hg ho' => ?_
  · have := depth_mem hb
    omega
  · subst hp
    obtain ⟨zs, r1, r2⟩ := of_each ho'
    have hlen : zs.length ≤ sizeLine := by
      rw [← r1.length, (List.mergeSort_perm _ _).length_eq, hlen0]
      exact z
    have I1 : Inv X pins σ H { s with heap := h1, toks := tk } := I.kept k1
    exact ⟨.ref _, upd H h1.objs.size (.lst zs), I1.laid (t' := tk) k2 (Nat.le_refl _) ⟨hlen, out, c, r2, hg⟩, rfl, q _ zs (I1.hok.fresh (Nat.le_refl _)) r1⟩
/-- sorted of a dict whose keys are tuples -/
def sortedX (S : Sto) : List D → Option D
  | [d] => match dictT S d with
    | some (ks, _) => (sortXs ks).map .lst
    | none => none
  | _ => none
theorem br_sortX : BrAF X.K (mX X) (rSortX X) sortedX := fun Z α β env S σ H R xs vs d rx e Q q => by
  unfold sortedX at e
  split at e
  · split at e
    · rename_i ks ds e1
      obtain ⟨zs, e2, rfl⟩ := Option.map_eq_some_iff.mp e
      obtain ⟨v, rfl, r⟩ := Paired.one rx
      obtain ⟨a, xs, rfl, hR, h1, h2, h3⟩ := dictT_of R r e1
      unfold sortXs at e2
      split at e2
      · split at e2
        · rename_i ps e3 hc
          cases e2
          simp only [Bool.and_eq_true] at hc
          exact ⟨a, xs, ks, ps, β, Oo Z α β, rfl, hR, h2, e3, hc.1.1, hc.1.2, hc.2, fun p us n r5 => q p _ (.lst _) _ (R.apart n _) (Adv.upd n) n upd_same rfl (CellOk.apart (.lst r5) n)⟩
        · cases e2
      · cases e2
    · cases e
  · cases e
end
end Rf
end
section
set_option maxHeartbeats 4000000
/-! the walk of law_k25_contacts_that_may_fail -/
namespace K25
open PySem PySem.Spec PyProof.Rows L2 Rf
def topS (i : Nat) : Stmt := PySem.Challenge.pw_farcall_k25_contacts_that_may_fail.main.body.getD i (.Pass ⟨0, 0, 0, 0⟩)
def fn : List He.DefD := [⟨("_law_hops", none), "_law_hops", "_law_hops", defArgs (topS 11), defBody (topS 11), defScope (topS 11), [], []⟩, ⟨("_law_arrivals", none), "_law_arrivals", "_law_arrivals", defArgs (topS 12), defBody (topS 12), defScope (topS 12), [], []⟩, ⟨("_law_draw", none), "_law_draw", "_law_draw", defArgs (topS 7), defBody (topS 7), defScope (topS 7), [], []⟩, ⟨("_law_next", none), "_law_next", "_law_next", defArgs (topS 8), defBody (topS 8), defScope (topS 8), [], []⟩, ⟨("_law_net", none), "_law_net", "_law_net", defArgs (topS 10), defBody (topS 10), defScope (topS 10), [], []⟩, ⟨("_law_same", none), "_law_same", "_law_same", defArgs (topS 9), defBody (topS 9), defScope (topS 9), [], []⟩, ⟨("arrivals", none), "arrivals", "arrivals", defArgs (topS 2), defBody (topS 2), defScope (topS 2), [], []⟩, ⟨("gets_through", none), "gets_through", "gets_through", defArgs (topS 4), defBody (topS 4), defScope (topS 4), [], []⟩, ⟨("weak_sets", none), "weak_sets", "weak_sets", defArgs (topS 5), defBody (topS 5), defScope (topS 5), [], []⟩, ⟨("law", none), "law", "law", defArgs (topS 13), defBody (topS 13), defScope (topS 13), [], []⟩]
def cs : List Ck := [ckTy "combinations" "itertools.combinations"]
def bf : List Bf := []
def fa : List He.Fa := [.glo "law", .free "len", .free "range", .glo "_law_hops", .free "min", .glo "_law_arrivals", .free "list", .glo "_law_draw", .free "int", .free "abs", .glo "_law_next", .free "sorted", .free "tuple", .glo "_law_net", .free "isinstance", .free "all", .free "bool", .free "str", .glo "_law_same", .free "max", .glo "arrivals", .glo "gets_through", .free "enumerate", .free "any", .glo "weak_sets"]
section
variable {P : Program} {w : World} {K : PySem.W.Frag} {mg : PySem.Str → Option Value} {base h : Heap}
abbrev s__law_hops : Stmt := topS 11
theorem sc__law_hops : FnScope ["net", "found", "k", "sender", "hearer", "first", "last", "rate", "delay", "time"] ["net"] (defScope s__law_hops) := ⟨rfl, rfl, rfl, by decide +kernel, rfl, by decide +kernel, by decide +kernel⟩
noncomputable abbrev x__law_hops_0 : DE :=
  (dTup (aCons (dVar 3) (aCons (dVar 4) (aCons (dVar 9) (aCons (dAdd (dVar 9) (dVar 8)) (aCons (dVar 2) aNil))))))
noncomputable abbrev b__law_hops_0 : DS :=
  (sSeq (sAsg (gTp 6 (gsCons (gNm 3) (gsCons (gNm 4) (gsCons (gNm 5) (gsCons (gNm 6) (gsCons (gNm 7) (gsCons (gNm 8) gsNil))))))) (dIx (dVar 0) (dVar 2)))
  (sAsg (gNm 1) (dAdd (dVar 1) (dLc (iRng2 (aCons (dVar 5) (aCons (dAdd (dVar 6) (dC (.int 1))) aNil))) [9] (gNm 9) tTrue x__law_hops_0))))
noncomputable def t__law_hops : DS :=
  (sSeq (sAsg (gNm 1) (dLst aNil))
  (sSeq (sFor (gNm 2) (iRng1 (aCons (dOpA lenD (aCons (dVar 0) aNil)) aNil))
  b__law_hops_0)
  (sRet (dVar 1))))
noncomputable def f__law_hops : Fn := runF 10 1 t__law_hops
theorem ok__law_hops (tx : TxG fa fn bf cs K h mg) : FnAt P w K mg base 1 "_law_hops" 1 f__law_hops :=
  fnAt tx.t 0 3 (st := s__law_hops) sc__law_hops rfl rfl (fun _ _ _ _ _ _ us hl => match us, hl with | [_], _ => rfl) (by decide) fun cdv ff aa ou ss hh ee hr => 
  (Ss.cons (S.asg (E.lst A.nil) (G.nm 1 sc__law_hops.nd))
  (Ss.cons (S.for_ PassesOwn.never rfl (I.rng1 (by rfl) (tx.free 2) (A.cons (E.cb call_len br_len (by rfl) (tx.free 1) (by decide +kernel) (A.cons (E.var 0) A.nil)) A.nil)) (G.nm 2 sc__law_hops.nd)
  (Ss.cons (S.asg (E.ix (E.var 0) (E.var 2)) (G.tp rfl (Gs.cons (G.nm 3 sc__law_hops.nd) (Gs.cons (G.nm 4 sc__law_hops.nd) (Gs.cons (G.nm 5 sc__law_hops.nd) (Gs.cons (G.nm 6 sc__law_hops.nd) (Gs.cons (G.nm 7 sc__law_hops.nd) (Gs.cons (G.nm 8 sc__law_hops.nd) Gs.nil))))))))
  (Ss.one (S.asg (E.add (E.var 1) (EF.ex (F.lc rfl sc__law_hops.nd (I.rng2 (by rfl) (tx.free 2) (A.cons (E.var 5) (A.cons (E.add (E.var 6) E.int) A.nil))) (blkOk_by (own := [("time", 9)]) (N := ["net", "found", "k", "sender", "hearer", "first", "last", "rate", "delay", "time"]) (sc := defScope s__law_hops) (by decide +kernel)) (fun _ _ _ _ _ => (G.nm 9 sc__law_hops.nd)) (fun _ _ _ _ _ => Ts.nil) (fun _ _ _ _ _ => (E.tup (A.cons (E.var 3) (A.cons (E.var 4) (A.cons (E.var 9) (A.cons (E.add (E.var 9) (E.var 8)) (A.cons (E.var 2) A.nil)))))))))) (G.nm 1 sc__law_hops.nd)))))
  (Ss.one (S.ret (E.var 1)))))
abbrev s__law_arrivals : Stmt := topS 12
theorem sc__law_arrivals : FnScope ["net", "start", "time", "found", "turn", "sender", "hearer", "leaves", "arrival", "number"] ["net", "start", "time"] (defScope s__law_arrivals) := ⟨rfl, rfl, rfl, by decide +kernel, rfl, by decide +kernel, by decide +kernel⟩
noncomputable abbrev b__law_arrivals_0 : DS :=
  (sIf (tAnd' (dBl (dInK false (dVar 5) (dVar 3))) (dBl (dGe (dVar 7) (dGetK (dVar 3) (dVar 5)))))
  (sPutK (dVar 3) (dVar 6) (dOpA min2D (aCons (dVar 8) (aCons (dGet2 (dVar 3) (dVar 6) (dVar 8)) aNil))))
  sNil)
noncomputable abbrev b__law_arrivals_1 : DS :=
  (sFor (gTp 5 (gsCons (gNm 5) (gsCons (gNm 6) (gsCons (gNm 7) (gsCons (gNm 8) (gsCons (gNm 9) gsNil)))))) (iSeq (dCall f__law_hops (aCons (dVar 0) aNil)))
  b__law_arrivals_0)
noncomputable def t__law_arrivals : DS :=
  (sSeq (sAsg (gNm 3) (dNew (dDisp (((dVar 1), (dVar 2)) :: []))))
  (sSeq (sFor (gNm 4) (iRng1 (aCons (dC (.int 5)) aNil))
  b__law_arrivals_1)
  (sRet (dVar 3))))
noncomputable def f__law_arrivals : Fn := runF 10 3 t__law_arrivals
theorem ok__law_arrivals (tx : TxG fa fn bf cs K h mg) : FnAt P w K mg base 2 "_law_arrivals" 3 f__law_arrivals :=
  fnAt tx.t 1 5 (st := s__law_arrivals) sc__law_arrivals rfl rfl (fun _ _ _ _ _ _ us hl => match us, hl with | [_, _, _], _ => rfl) (by decide) fun cdv ff aa ou ss hh ee hr => 
  (Ss.cons (S.asg (E.new (F.disp (Ps.cons (E.var 1) (E.var 2) Ps.nil))) (G.nm 3 sc__law_arrivals.nd))
  (Ss.cons (S.for_ PassesOwn.never rfl (I.rng1 (by rfl) (tx.free 2) (A.cons E.int A.nil)) (G.nm 4 sc__law_arrivals.nd)
  (Ss.one (S.for_ PassesOwn.never rfl (I.seq (E.call (ok__law_hops tx) (hr.mono (by decide)) (by rfl) (A.cons (E.var 0) A.nil))) (G.tp rfl (Gs.cons (G.nm 5 sc__law_arrivals.nd) (Gs.cons (G.nm 6 sc__law_arrivals.nd) (Gs.cons (G.nm 7 sc__law_arrivals.nd) (Gs.cons (G.nm 8 sc__law_arrivals.nd) (Gs.cons (G.nm 9 sc__law_arrivals.nd) Gs.nil))))))
  (Ss.one (S.ite (T.w (W.and (T.dinK (u1 hr) (E.var 5) (E.var 3)) (W.and1 (T.ge (E.var 7) (E.getK (u1 hr) (E.var 3) (E.var 5))))))
  (Ss.one (S.putK (u1 hr) (E.var 3) (E.var 6) (E.cb (call_min2 rfl) br_min2 (by rfl) (tx.free 4) (by decide +kernel) (A.cons (E.var 8) (A.cons (E.get2 (u1 hr) (E.var 3) (E.var 6) (E.var 8)) A.nil)))))
  Ss.nil)))))
  (Ss.one (S.ret (E.var 3)))))
abbrev s__law_draw : Stmt := topS 7
theorem sc__law_draw : FnScope ["script"] ["script"] (defScope s__law_draw) := ⟨rfl, rfl, rfl, by decide +kernel, rfl, by decide +kernel, by decide +kernel⟩
noncomputable def t__law_draw : DS :=
  (sRet (dNew (dLst (aCons (dOpA listD (aCons (dVar 0) aNil)) (aCons (dC (.int 0)) (aCons (dC (.int 0)) (aCons (dC (.int 17)) aNil)))))))
noncomputable def f__law_draw : Fn := runF 1 1 t__law_draw
theorem ok__law_draw (tx : TxG fa fn bf cs K h mg) : FnAt P w K mg base 1 "_law_draw" 1 f__law_draw :=
  fnAt tx.t 2 7 (st := s__law_draw) sc__law_draw rfl rfl (fun _ _ _ _ _ _ us hl => match us, hl with | [_], _ => rfl) (by decide) fun cdv ff aa ou ss hh ee hr => 
  (Ss.one (S.ret (E.new (F.lst (A.cons (EF.ex (F.ct call_list_of br_list (by rfl) (tx.free 6) (by decide +kernel) (A.cons (E.var 0) A.nil))) (A.cons E.int (A.cons E.int (A.cons E.int A.nil))))))))
abbrev s__law_next : Stmt := topS 8
theorem sc__law_next : FnScope ["draw", "many", "found", "cell"] ["draw", "many"] (defScope s__law_next) := ⟨rfl, rfl, rfl, by decide +kernel, rfl, by decide +kernel, by decide +kernel⟩
noncomputable def t__law_next : DS :=
  (sSeq (sIf (dBl (dGt (dIx (dVar 0) (dC (.int 2))) (dC (.int 0))))
  (sSeq (sAsg (gNm 2) (dMod (dOpA intD (aCons (dIx (dVar 0) (dC (.int 2))) aNil)) (dVar 1)))
  (sSeq (sSetRef (dVar 0) (dC (.int 2)) (dFdiv (dIx (dVar 0) (dC (.int 2))) (dVar 1)))
  (sRet (dVar 2))))
  sNil)
  (sSeq (sIf (dBl (dLt (dIx (dVar 0) (dC (.int 1))) (dOpA lenD (aCons (dIx (dVar 0) (dC (.int 0))) aNil))))
  (sSeq (sAsg (gNm 3) (dOpA absD (aCons (dIx (dIx (dVar 0) (dC (.int 0))) (dIx (dVar 0) (dC (.int 1)))) aNil)))
  (sSeq (sSetRef (dVar 0) (dC (.int 1)) (dAdd (dIx (dVar 0) (dC (.int 1))) (dC (.int 1))))
  (sSeq (sIf (dBl (dGe (dVar 3) (dPow (dC (.int 10)) (dC (.int 18)))))
  (sSeq (sSetRef (dVar 0) (dC (.int 2)) (dFdiv (dVar 3) (dVar 1)))
  (sRet (dMod (dOpA intD (aCons (dVar 3) aNil)) (dVar 1))))
  sNil)
  (sSetRef (dVar 0) (dC (.int 3)) (dMod (dOpA intD (aCons (dAdd (dAdd (dMul (dIx (dVar 0) (dC (.int 3))) (dC (.int 48271))) (dVar 3)) (dC (.int 11))) aNil)) (dC (.int 2147483647)))))))
  (sSetRef (dVar 0) (dC (.int 3)) (dMod (dOpA intD (aCons (dAdd (dMul (dIx (dVar 0) (dC (.int 3))) (dC (.int 48271))) (dC (.int 12345))) aNil)) (dC (.int 2147483647)))))
  (sRet (dMod (dFdiv (dOpA intD (aCons (dMod (dMul (dIx (dVar 0) (dC (.int 3))) (dC (.int 69621))) (dC (.int 2147483629))) aNil)) (dC (.int 7))) (dVar 1)))))
noncomputable def f__law_next : Fn := runF 4 2 t__law_next
theorem ok__law_next (tx : TxG fa fn bf cs K h mg) : FnAt P w K mg base 1 "_law_next" 2 f__law_next :=
  fnAt tx.t 3 10 (st := s__law_next) sc__law_next rfl rfl (fun _ _ _ _ _ _ us hl => match us, hl with | [_, _], _ => rfl) (by decide) fun cdv ff aa ou ss hh ee hr => 
  (Ss.cons (S.ite (T.gt (E.ix (E.var 0) E.int) E.int)
  (Ss.cons (S.asg (E.mod (E.ct call_int1 br_int (by rfl) (tx.free 8) (by decide +kernel) (A.cons (E.ix (E.var 0) E.int) A.nil)) (E.var 1)) (G.nm 2 sc__law_next.nd))
  (Ss.cons (S.setRef (E.var 0) E.int (E.fdiv (E.ix (E.var 0) E.int) (E.var 1)))
  (Ss.one (S.ret (E.var 2)))))
  Ss.nil)
  (Ss.cons (S.ite (T.lt hr.units (E.ix (E.var 0) E.int) (E.cb call_len br_len (by rfl) (tx.free 1) (by decide +kernel) (A.cons (E.ix (E.var 0) E.int) A.nil)))
  (Ss.cons (S.asg (E.cb call_abs br_abs (by rfl) (tx.free 9) (by decide +kernel) (A.cons (E.ix (E.ix (E.var 0) E.int) (E.ix (E.var 0) E.int)) A.nil)) (G.nm 3 sc__law_next.nd))
  (Ss.cons (S.setRef (E.var 0) E.int (E.add (E.ix (E.var 0) E.int) E.int))
  (Ss.cons (S.ite (T.ge (E.var 3) (E.pow E.int E.int))
  (Ss.cons (S.setRef (E.var 0) E.int (E.fdiv (E.var 3) (E.var 1)))
  (Ss.one (S.ret (E.mod (E.ct call_int1 br_int (by rfl) (tx.free 8) (by decide +kernel) (A.cons (E.var 3) A.nil)) (E.var 1)))))
  Ss.nil)
  (Ss.one (S.setRef (E.var 0) E.int (E.mod (E.ct call_int1 br_int (by rfl) (tx.free 8) (by decide +kernel) (A.cons (E.add (E.add (E.mul (E.ix (E.var 0) E.int) E.int) (E.var 3)) E.int) A.nil)) E.int))))))
  (Ss.one (S.setRef (E.var 0) E.int (E.mod (E.ct call_int1 br_int (by rfl) (tx.free 8) (by decide +kernel) (A.cons (E.add (E.mul (E.ix (E.var 0) E.int) E.int) E.int) A.nil)) E.int))))
  (Ss.one (S.ret (E.mod (E.fdiv (E.ct call_int1 br_int (by rfl) (tx.free 8) (by decide +kernel) (A.cons (E.mod (E.mul (E.ix (E.var 0) E.int) E.int) E.int) A.nil)) E.int) (E.var 1))))))
abbrev s__law_net : Stmt := topS 10
theorem sc__law_net : FnScope ["draw", "many", "rate", "k", "names", "found", "sender", "hearer", "first", "name"] ["draw", "many", "rate"] (defScope s__law_net) := ⟨rfl, rfl, rfl, by decide +kernel, rfl, by decide +kernel, by decide +kernel⟩
noncomputable abbrev x__law_net_0 : DE :=
  (dVar 9)
noncomputable abbrev q__law_net_0 : DT :=
  (dBl (dNe (dVar 9) (dVar 6)))
noncomputable abbrev b__law_net_0 : DS :=
  (sSeq (sAsg (gNm 6) (dIx (dVar 4) (dCall f__law_next (aCons (dVar 0) (aCons (dC (.int 4)) aNil)))))
  (sSeq (sAsg (gNm 7) (dIx (dLc (iSeq (dVar 4)) [9] (gNm 9) q__law_net_0 x__law_net_0) (dCall f__law_next (aCons (dVar 0) (aCons (dC (.int 3)) aNil)))))
  (sSeq (sAsg (gNm 8) (dCall f__law_next (aCons (dVar 0) (aCons (dC (.int 7)) aNil))))
  (sPutT (dVar 5) (dTup (aCons (dVar 6) (aCons (dVar 7) (aCons (dVar 8) (aCons (dAdd (dVar 8) (dCall f__law_next (aCons (dVar 0) (aCons (dC (.int 3)) aNil)))) (aCons (dAdd (dC (.int 1)) (dCall f__law_next (aCons (dVar 0) (aCons (dVar 2) aNil)))) (aCons (dCall f__law_next (aCons (dVar 0) (aCons (dC (.int 4)) aNil))) aNil))))))) (dC (.bl true))))))
noncomputable def t__law_net : DS :=
  (sSeq (sAsg (gTp 2 (gsCons (gNm 4) (gsCons (gNm 5) gsNil))) (dTup (aCons (dLst (aCons (dC (.str "aa")) (aCons (dC (.str "bb")) (aCons (dC (.str "cc")) (aCons (dC (.str "dd")) aNil))))) (aCons dDctX aNil))))
  (sSeq (sFor (gNm 3) (iRng1 (aCons (dCall f__law_next (aCons (dVar 0) (aCons (dAdd (dVar 1) (dC (.int 1))) aNil))) aNil))
  b__law_net_0)
  (sRet (dOpA tupleD (aCons (dOpA sortedX (aCons (dVar 5) aNil)) aNil)))))
noncomputable def f__law_net : Fn := runF 10 3 t__law_net
theorem ok__law_net (tx : TxG fa fn bf cs K h mg) : FnAt P w K mg base 2 "_law_net" 3 f__law_net :=
  fnAt tx.t 4 13 (st := s__law_net) sc__law_net rfl rfl (fun _ _ _ _ _ _ us hl => match us, hl with | [_, _, _], _ => rfl) (by decide) fun cdv ff aa ou ss hh ee hr => 
  (Ss.cons (by first | exact S.par2 (i := 4) (j := 5) sc__law_net.nd (A.cons (E.lst (A.cons E.str (A.cons E.str (A.cons E.str (A.cons E.str A.nil))))) (A.cons E.dctX A.nil)) | exact S.asg (E.tup (A.cons (E.lst (A.cons E.str (A.cons E.str (A.cons E.str (A.cons E.str A.nil))))) (A.cons E.dctX A.nil))) (G.tp rfl (Gs.cons (G.nm 4 sc__law_net.nd) (Gs.cons (G.nm 5 sc__law_net.nd) Gs.nil))))
  (Ss.cons (S.for_ PassesOwn.never rfl (I.rng1 (by rfl) (tx.free 2) (A.cons (E.call (ok__law_next tx) (hr.mono (by decide)) (by rfl) (A.cons (E.var 0) (A.cons (E.add (E.var 1) E.int) A.nil))) A.nil)) (G.nm 3 sc__law_net.nd)
  (Ss.cons (S.asg (E.ix (E.var 4) (E.call (ok__law_next tx) (hr.mono (by decide)) (by rfl) (A.cons (E.var 0) (A.cons E.int A.nil)))) (G.nm 6 sc__law_net.nd))
  (Ss.cons (S.asg (E.ix (EF.ex (F.lc rfl sc__law_net.nd (I.seq (E.var 4)) (blkOk_by (own := [("name", 9)]) (N := ["draw", "many", "rate", "k", "names", "found", "sender", "hearer", "first", "name"]) (sc := defScope s__law_net) (by decide +kernel)) (fun _ _ _ _ _ => (G.nm 9 sc__law_net.nd)) (fun _ _ _ _ _ => (Ts.one (T.ne hr.units (E.var 9) (E.var 6)))) (fun _ _ _ _ _ => (E.var 9)))) (E.call (ok__law_next tx) (hr.mono (by decide)) (by rfl) (A.cons (E.var 0) (A.cons E.int A.nil)))) (G.nm 7 sc__law_net.nd))
  (Ss.cons (S.asg (E.call (ok__law_next tx) (hr.mono (by decide)) (by rfl) (A.cons (E.var 0) (A.cons E.int A.nil))) (G.nm 8 sc__law_net.nd))
  (Ss.one (S.putT (u65 hr) (E.var 5) (E.tup (A.cons (E.var 6) (A.cons (E.var 7) (A.cons (E.var 8) (A.cons (E.add (E.var 8) (E.call (ok__law_next tx) (hr.mono (by decide)) (by rfl) (A.cons (E.var 0) (A.cons E.int A.nil)))) (A.cons (E.add E.int (E.call (ok__law_next tx) (hr.mono (by decide)) (by rfl) (A.cons (E.var 0) (A.cons (E.var 2) A.nil)))) (A.cons (E.call (ok__law_next tx) (hr.mono (by decide)) (by rfl) (A.cons (E.var 0) (A.cons E.int A.nil))) A.nil))))))) E.bl))))))
  (Ss.one (S.ret (E.ct cr_tupleN br_tuple (by rfl) (tx.free 12) (by decide +kernel) (A.cons (EF.ex (F.cb (cr_sortX rfl (u67 hr)) br_sortX (by rfl) (tx.free 11) (by decide +kernel) (A.cons (E.var 5) A.nil))) A.nil))))))
abbrev s__law_same : Stmt := topS 9
theorem sc__law_same : FnScope ["actual", "due", "k"] ["actual", "due"] (defScope s__law_same) := ⟨rfl, rfl, rfl, by decide +kernel, rfl, by decide +kernel, by decide +kernel⟩
noncomputable abbrev x__law_same_0 (self : Fn) : DE :=
  (dCall self (aCons (dIx (dVar 0) (dVar 2)) (aCons (dIx (dVar 1) (dVar 2)) aNil)))
noncomputable def t__law_same (self : Fn) : DS :=
  (sSeq (sIf (dTru (dIsi ["list", "tuple"] (dVar 1)))
  (sSeq (sIf (tOr' (dBl (dNe (dIsi ["list"] (dVar 1)) (dIsi ["list"] (dVar 0)))) (dBl (dNe (dIsi ["tuple"] (dVar 1)) (dIsi ["tuple"] (dVar 0)))))
  (sRet (dC (.bl false)))
  sNil)
  (sSeq (sIf (dBl (dNe (dOpA lenD (aCons (dVar 0) aNil)) (dOpA lenD (aCons (dVar 1) aNil))))
  (sRet (dC (.bl false)))
  sNil)
  (sRet (dOpA allD (aCons (dLc (iRng1 (aCons (dOpA lenD (aCons (dVar 1) aNil)) aNil)) [2] (gNm 2) tTrue (x__law_same_0 self)) aNil)))))
  sNil)
  (sSeq (sIf (dBl (dIs (dVar 1) (dC .non)))
  (sRet (dIs (dVar 0) (dC .non)))
  sNil)
  (sSeq (sIf (dBl (dNe (dIsi ["bool"] (dVar 1)) (dIsi ["bool"] (dVar 0))))
  (sRet (dC (.bl false)))
  sNil)
  (sSeq (sIf (dTru (dIsi ["str"] (dVar 1)))
  (sRet (dAnd' (dIsi ["str"] (dVar 0)) (dEq (dVar 0) (dVar 1))))
  sNil)
  (sRet (dAnd' (dIsi ["int"] (dVar 0)) (dEq (dVar 0) (dVar 1))))))))
noncomputable def r__law_same : Nat → Fn
  | 0 => fun _ _ => none
  | n + 1 => runF 3 2 (t__law_same (r__law_same n))
noncomputable def f__law_same : Fn := r__law_same 12
theorem okr__law_same (tx : TxG fa fn bf cs K h mg) : ∀ n : Nat, FnAt P w K mg base (0 + n) "_law_same" 2 (r__law_same n)
  | 0 => (fnAt0 tx.t 5 18 (st := s__law_same) (ps := ["actual", "due"]) rfl rfl (fun _ _ _ _ _ _ us hl => match us, hl with | [_, _], _ => rfl)).mono (Nat.zero_le _)
  | n + 1 => by
    have hself := okr__law_same tx n
    exact fnAt tx.t 5 18 (st := s__law_same) sc__law_same rfl rfl (fun _ _ _ _ _ _ us hl => match us, hl with | [_, _], _ => rfl) (by decide) fun cdv ff aa ou ss hh ee hr => 
    (Ss.cons (S.ite (T.of (E.isiT (Ts := ["list", "tuple"]) (by rfl) (tx.free 14) (E.var 1) (pa_cons (pe_cls (T := "list") (by rfl) (tx.free 6) (by decide +kernel)) (pa_cons (pe_cls (T := "tuple") (by rfl) (tx.free 12) (by decide +kernel)) pa_nil))))
  (Ss.cons (S.ite (T.w (W.or (T.ne hr.units (E.isi (by rfl) (tx.free 14) (E.var 1) (pe_cls (T := "list") (by rfl) (tx.free 6) (by decide +kernel))) (E.isi (by rfl) (tx.free 14) (E.var 0) (pe_cls (T := "list") (by rfl) (tx.free 6) (by decide +kernel)))) (W.or1 (T.ne hr.units (E.isi (by rfl) (tx.free 14) (E.var 1) (pe_cls (T := "tuple") (by rfl) (tx.free 12) (by decide +kernel))) (E.isi (by rfl) (tx.free 14) (E.var 0) (pe_cls (T := "tuple") (by rfl) (tx.free 12) (by decide +kernel)))))))
  (Ss.one (S.ret E.bl))
  Ss.nil)
  (Ss.cons (S.ite (T.ne hr.units (E.cb call_len br_len (by rfl) (tx.free 1) (by decide +kernel) (A.cons (E.var 0) A.nil)) (E.cb call_len br_len (by rfl) (tx.free 1) (by decide +kernel) (A.cons (E.var 1) A.nil)))
  (Ss.one (S.ret E.bl))
  Ss.nil)
  (Ss.one (S.ret (E.cb (cr_all rfl) br_all (by rfl) (tx.free 15) (by decide +kernel) (A.cons (EF.ex (F.lc rfl sc__law_same.nd (I.rng1 (by rfl) (tx.free 2) (A.cons (E.cb call_len br_len (by rfl) (tx.free 1) (by decide +kernel) (A.cons (E.var 1) A.nil)) A.nil)) (blkOk_by (own := [("k", 2)]) (N := ["actual", "due", "k"]) (sc := defScope s__law_same) (by decide +kernel)) (fun _ _ _ _ _ => (G.nm 2 sc__law_same.nd)) (fun _ _ _ _ _ => Ts.nil) (fun _ _ _ _ _ => (E.call hself hr (by rfl) (A.cons (E.ix (E.var 0) (E.var 2)) (A.cons (E.ix (E.var 1) (E.var 2)) A.nil)))))) A.nil))))))
  Ss.nil)
  (Ss.cons (S.ite (T.is (E.var 1) E.non)
  (Ss.one (S.ret (E.is (E.var 0) E.non)))
  Ss.nil)
  (Ss.cons (S.ite (T.ne hr.units (E.isi (by rfl) (tx.free 14) (E.var 1) (pe_cls (T := "bool") (by rfl) (tx.free 16) (by decide +kernel))) (E.isi (by rfl) (tx.free 14) (E.var 0) (pe_cls (T := "bool") (by rfl) (tx.free 16) (by decide +kernel))))
  (Ss.one (S.ret E.bl))
  Ss.nil)
  (Ss.cons (S.ite (T.of (E.isi (by rfl) (tx.free 14) (E.var 1) (pe_cls (T := "str") (by rfl) (tx.free 17) (by decide +kernel))))
  (Ss.one (S.ret (E.and (E.isi (by rfl) (tx.free 14) (E.var 0) (pe_cls (T := "str") (by rfl) (tx.free 17) (by decide +kernel))) (E.one (E.eq hr.units (E.var 0) (E.var 1))))))
  Ss.nil)
  (Ss.one (S.ret (E.and (E.isi (by rfl) (tx.free 14) (E.var 0) (pe_cls (T := "int") (by rfl) (tx.free 8) (by decide +kernel))) (E.one (E.eq hr.units (E.var 0) (E.var 1))))))))))
theorem ok__law_same (tx : TxG fa fn bf cs K h mg) : FnAt P w K mg base 12 "_law_same" 2 f__law_same := okr__law_same tx 12
abbrev s_arrivals : Stmt := topS 2
theorem sc_arrivals : FnScope ["net", "start", "time", "found", "rising", "sender", "hearer", "first", "last", "_", "delay", "reached"] ["net", "start", "time"] (defScope s_arrivals) := ⟨rfl, rfl, rfl, by decide +kernel, rfl, by decide +kernel, by decide +kernel⟩
noncomputable abbrev b_arrivals_0 : DS :=
  (sIf (tAnd' (dBl (dInK false (dVar 5) (dVar 3))) (dBl (dLe (dGetK (dVar 3) (dVar 5)) (dVar 8))))
  (sSeq (sAsg (gNm 11) (dAdd (dOpA max2D (aCons (dVar 7) (aCons (dGetK (dVar 3) (dVar 5)) aNil))) (dVar 10)))
  (sIf (tOr' (dBl (dInK true (dVar 6) (dVar 3))) (dBl (dLt (dVar 11) (dGetK (dVar 3) (dVar 6)))))
  (sSeq (sPutK (dVar 3) (dVar 6) (dVar 11))
  (sAsg (gNm 4) (dC (.bl true))))
  sNil))
  sNil)
noncomputable abbrev c_arrivals_0 : DT :=
  (dTru (dVar 4))
noncomputable abbrev w_arrivals_0 : DS :=
  (sSeq (sAsg (gNm 4) (dC (.bl false)))
  (sFor (gTp 6 (gsCons (gNm 5) (gsCons (gNm 6) (gsCons (gNm 7) (gsCons (gNm 8) (gsCons (gNm 9) (gsCons (gNm 10) gsNil))))))) (iSeq (dVar 0))
  b_arrivals_0))
noncomputable def t_arrivals : DS :=
  (sSeq (sAsg (gNm 3) (dNew (dDisp (((dVar 1), (dVar 2)) :: []))))
  (sSeq (sAsg (gNm 4) (dC (.bl true)))
  (sSeq (sWhile c_arrivals_0
  w_arrivals_0)
  (sRet (dVar 3)))))
noncomputable def f_arrivals : Fn := runF 12 3 t_arrivals
theorem ok_arrivals (tx : TxG fa fn bf cs K h mg) : FnAt P w K mg base 1 "arrivals" 3 f_arrivals :=
  fnAt tx.t 6 20 (st := s_arrivals) sc_arrivals rfl rfl (fun _ _ _ _ _ _ us hl => match us, hl with | [_, _, _], _ => rfl) (by decide) fun cdv ff aa ou ss hh ee hr => 
  (Ss.cons (S.asg (E.new (F.disp (Ps.cons (E.var 1) (E.var 2) Ps.nil))) (G.nm 3 sc_arrivals.nd))
  (Ss.cons (S.asg E.bl (G.nm 4 sc_arrivals.nd))
  (Ss.cons (S.while_ PassesOwn.never (T.of (E.var 4))
  (Ss.cons (S.asg E.bl (G.nm 4 sc_arrivals.nd))
  (Ss.one (S.for_ PassesOwn.never rfl (I.seq (E.var 0)) (G.tp rfl (Gs.cons (G.nm 5 sc_arrivals.nd) (Gs.cons (G.nm 6 sc_arrivals.nd) (Gs.cons (G.nm 7 sc_arrivals.nd) (Gs.cons (G.nm 8 sc_arrivals.nd) (Gs.cons (G.nm 9 sc_arrivals.nd) (Gs.cons (G.nm 10 sc_arrivals.nd) Gs.nil)))))))
  (Ss.one (S.ite (T.w (W.and (T.dinK (u1 hr) (E.var 5) (E.var 3)) (W.and1 (T.le (E.getK (u1 hr) (E.var 3) (E.var 5)) (E.var 8)))))
  (Ss.cons (S.asg (E.add (E.cb (call_max2 rfl) br_max2 (by rfl) (tx.free 19) (by decide +kernel) (A.cons (E.var 7) (A.cons (E.getK (u1 hr) (E.var 3) (E.var 5)) A.nil))) (E.var 10)) (G.nm 11 sc_arrivals.nd))
  (Ss.one (S.ite (T.w (W.or (T.dninK (u1 hr) (E.var 6) (E.var 3)) (W.or1 (T.lt hr.units (E.var 11) (E.getK (u1 hr) (E.var 3) (E.var 6))))))
  (Ss.cons (S.putK (u1 hr) (E.var 3) (E.var 6) (E.var 11))
  (Ss.one (S.asg E.bl (G.nm 4 sc_arrivals.nd))))
  Ss.nil)))
  Ss.nil))))))
  (Ss.one (S.ret (E.var 3))))))
abbrev s_gets_through : Stmt := topS 4
theorem sc_gets_through : FnScope ["net", "start", "goal", "first", "last", "found"] ["net", "start", "goal", "first", "last"] (defScope s_gets_through) := ⟨rfl, rfl, rfl, by decide +kernel, rfl, by decide +kernel, by decide +kernel⟩
noncomputable def t_gets_through : DS :=
  (sSeq (sAsg (gNm 5) (dCall f_arrivals (aCons (dVar 0) (aCons (dVar 1) (aCons (dVar 3) aNil)))))
  (sRet (dAnd' (dInK false (dVar 2) (dVar 5)) (dLe (dGetK (dVar 5) (dVar 2)) (dVar 4)))))
noncomputable def f_gets_through : Fn := runF 6 5 t_gets_through
theorem ok_gets_through (tx : TxG fa fn bf cs K h mg) : FnAt P w K mg base 2 "gets_through" 5 f_gets_through :=
  fnAt tx.t 7 21 (st := s_gets_through) sc_gets_through rfl rfl (fun _ _ _ _ _ _ us hl => match us, hl with | [_, _, _, _, _], _ => rfl) (by decide) fun cdv ff aa ou ss hh ee hr => 
  (Ss.cons (S.asg (E.call (ok_arrivals tx) (hr.mono (by decide)) (by rfl) (A.cons (E.var 0) (A.cons (E.var 1) (A.cons (E.var 3) A.nil)))) (G.nm 5 sc_gets_through.nd))
  (Ss.one (S.ret (E.and (E.inK (u1 hr) (E.var 2) (E.var 5)) (E.one (E.le (E.getK (u1 hr) (E.var 5) (E.var 2)) (E.var 4)))))))
abbrev s_weak_sets : Stmt := topS 5
theorem sc_weak_sets : FnScope ["net", "start", "goal", "first", "last", "found", "many", "numbers", "rest", "number", "contact"] ["net", "start", "goal", "first", "last"] (defScope s_weak_sets) := ⟨rfl, rfl, rfl, by decide +kernel, rfl, by decide +kernel, by decide +kernel⟩
noncomputable abbrev x_weak_sets_0 : DE :=
  (dVar 10)
noncomputable abbrev q_weak_sets_0 : DT :=
  (dBl (dNin (dVar 9) (dVar 7)))
noncomputable abbrev x_weak_sets_1 : DE :=
  (dIn (dTup (aCons (dVar 9) aNil)) (dVarB 5))
noncomputable abbrev b_weak_sets_0 : DS :=
  (sSeq (sAsg (gNm 8) (dOpA tupleD (aCons (dLc (Rf.iEnumA (dVar 0)) [9, 10] (gTp 2 (gsCons (gNm 9) (gsCons (gNm 10) gsNil))) q_weak_sets_0 x_weak_sets_0) aNil)))
  (sIf (tAnd' (tNot' (dTru (dOpA anyD (aCons (dLc (iSeq (dVar 7)) [9] (gNm 9) tTrue x_weak_sets_1) aNil)))) (tNot' (dTru (dCall f_gets_through (aCons (dVar 8) (aCons (dVar 1) (aCons (dVar 2) (aCons (dVar 3) (aCons (dVar 4) aNil)))))))))
  (sAppOwn 5 (dVar 7))
  sNil))
noncomputable abbrev b_weak_sets_1 : DS :=
  (sFor (gNm 7) (iCombR (aCons (dOpA lenD (aCons (dVar 0) aNil)) aNil) (aCons (dVar 6) aNil))
  b_weak_sets_0)
noncomputable def t_weak_sets : DS :=
  (sSeq (sOwn 5 (dLst aNil))
  (sSeq (sIf (tNot' (dTru (dCall f_gets_through (aCons (dVar 0) (aCons (dVar 1) (aCons (dVar 2) (aCons (dVar 3) (aCons (dVar 4) aNil))))))))
  (sRet (dVarB 5))
  sNil)
  (sSeq (sFor (gNm 6) (iRng2 (aCons (dC (.int 1)) (aCons (dC (.int 3)) aNil)))
  b_weak_sets_1)
  (sRet (dOpA sortedD (aCons (dVarB 5) aNil))))))
noncomputable def f_weak_sets : Fn := runF 11 5 t_weak_sets
theorem ok_weak_sets (tx : TxG fa fn bf cs K h mg) : FnAt P w K mg base 3 "weak_sets" 5 f_weak_sets :=
  fnAt tx.t 8 24 (st := s_weak_sets) sc_weak_sets rfl rfl (fun _ _ _ _ _ _ us hl => match us, hl with | [_, _, _, _, _], _ => rfl) (by decide) fun cdv ff aa ou ss hh ee hr => 
  (Ss.cons (S.own (i := 5) sc_weak_sets.nd (F.lst A.nil))
  (Ss.cons (S.ite (T.not (T.of (E.call (ok_gets_through tx) (hr.mono (by decide)) (by rfl) (A.cons (E.var 0) (A.cons (E.var 1) (A.cons (E.var 2) (A.cons (E.var 3) (A.cons (E.var 4) A.nil))))))))
  (Ss.one (S.ret (E.varB 5)))
  Ss.nil)
  (Ss.cons (S.for_ PassesOwn.never rfl (I.rng2 (by rfl) (tx.free 2) (A.cons E.int (A.cons E.int A.nil))) (G.nm 6 sc_weak_sets.nd)
  (Ss.one (S.for_ PassesOwn.never rfl (I.combR rfl (by rfl) (tx.ty 0) (by rfl) (tx.free 2) (A.cons (E.cb call_len br_len (by rfl) (tx.free 1) (by decide +kernel) (A.cons (E.var 0) A.nil)) A.nil) (A.cons (E.var 6) A.nil)) (G.nm 7 sc_weak_sets.nd)
  (Ss.cons (S.asg (E.ct cr_tupleN br_tuple (by rfl) (tx.free 12) (by decide +kernel) (A.cons (EF.ex (F.lc rfl sc_weak_sets.nd (I.enumA (by rfl) (tx.free 22) (E.var 0)) (blkOk_by (own := [("number", 9), ("contact", 10)]) (N := ["net", "start", "goal", "first", "last", "found", "many", "numbers", "rest", "number", "contact"]) (sc := defScope s_weak_sets) (by decide +kernel)) (fun _ _ _ _ _ => (G.tp rfl (Gs.cons (G.nm 9 sc_weak_sets.nd) (Gs.cons (G.nm 10 sc_weak_sets.nd) Gs.nil)))) (fun _ _ _ _ _ => (Ts.one (T.nin (u65 hr) (E.var 9) (E.var 7)))) (fun _ _ _ _ _ => (E.var 10)))) A.nil)) (G.nm 8 sc_weak_sets.nd))
  (Ss.one (S.ite (T.w (W.and (T.not (T.of (E.cb (cr_any rfl) br_any (by rfl) (tx.free 23) (by decide +kernel) (A.cons (EF.ex (F.lc rfl sc_weak_sets.nd (I.seq (E.var 7)) (blkOk_by (own := [("number", 9)]) (N := ["net", "start", "goal", "first", "last", "found", "many", "numbers", "rest", "number", "contact"]) (sc := defScope s_weak_sets) (by decide +kernel)) (fun _ _ _ _ _ => (G.nm 9 sc_weak_sets.nd)) (fun _ _ _ _ _ => Ts.nil) (fun _ _ _ _ _ => (E.in_ (u65 hr) (E.tup (A.cons (E.var 9) A.nil)) (E.varB 5))))) A.nil)))) (W.and1 (T.not (T.of (E.call (ok_gets_through tx) (hr.mono (by decide)) (by rfl) (A.cons (E.var 8) (A.cons (E.var 1) (A.cons (E.var 2) (A.cons (E.var 3) (A.cons (E.var 4) A.nil)))))))))))
  (Ss.one (S.appOwn 5 (E.var 7)))
  Ss.nil))))))
  (Ss.one (S.ret (EF.ex (F.cb (cr_sortD (u67 hr)) br_sorted (by rfl) (tx.free 11) (by decide +kernel) (A.cons (E.varB 5) A.nil))))))))
abbrev s_law : Stmt := topS 13
theorem sc_law : FnScope ["script", "draw", "net", "first", "last", "found", "sets", "k", "start", "goal", "some", "rest", "name", "j"] ["script"] (defScope s_law) := ⟨rfl, rfl, rfl, by decide +kernel, rfl, by decide +kernel, by decide +kernel⟩
noncomputable abbrev x_law_0 : DE :=
  (dVar 12)
noncomputable abbrev q_law_0 : DT :=
  (tAnd' (dBl (dInK false (dVar 12) (dCall f__law_arrivals (aCons (dVar 2) (aCons (dVar 8) (aCons (dC (.int 0)) aNil)))))) (dBl (dNe (dVar 12) (dVar 8))))
noncomputable abbrev x_law_1 : DE :=
  (dTup (aCons (dVar 7) aNil))
noncomputable abbrev x_law_2 : DE :=
  (dTup (aCons (dVar 7) (aCons (dVar 13) aNil)))
noncomputable abbrev b_law_0 : DS :=
  (sAsg (gNm 6) (dAdd (dVar 6) (dLc (iRng2 (aCons (dAdd (dVar 7) (dC (.int 1))) (aCons (dOpA lenD (aCons (dVar 2) aNil)) aNil))) [13] (gNm 13) tTrue x_law_2)))
noncomputable abbrev x_law_3 : DE :=
  (dIx (dVar 2) (dVar 7))
noncomputable abbrev q_law_1 : DT :=
  (dBl (dNin (dVar 7) (dVar 10)))
noncomputable abbrev x_law_4 : DE :=
  (dIn (dTup (aCons (dVar 7) aNil)) (dVarB 5))
noncomputable abbrev b_law_1 : DS :=
  (sSeq (sAsg (gNm 11) (dOpA tupleD (aCons (dLc (iRng1 (aCons (dOpA lenD (aCons (dVar 2) aNil)) aNil)) [7] (gNm 7) q_law_1 x_law_3) aNil)))
  (sIf (tAnd' (tNot' (dTru (dOpA anyD (aCons (dLc (iSeq (dVar 10)) [7] (gNm 7) tTrue x_law_4) aNil)))) (dBl (dGt (dGet2 (dCall f__law_arrivals (aCons (dVar 11) (aCons (dVar 8) (aCons (dVar 3) aNil)))) (dVar 9) (dAdd (dVar 4) (dC (.int 1)))) (dVar 4))))
  (sAppOwn 5 (dVar 10))
  sNil))
noncomputable def k_law_10 : DS :=
  (sRet (dCall f__law_same (aCons (dCall f_weak_sets (aCons (dVar 2) (aCons (dVar 8) (aCons (dVar 9) (aCons (dVar 3) (aCons (dVar 4) aNil)))))) (aCons (dOpA sortedD (aCons (dVarB 5) aNil)) aNil))))
noncomputable def k_law_9 : DS :=
  (sSeq (sIf (dBl (dLe (dGet2 (dCall f__law_arrivals (aCons (dVar 2) (aCons (dVar 8) (aCons (dVar 3) aNil)))) (dVar 9) (dAdd (dVar 4) (dC (.int 1)))) (dVar 4)))
  (sFor (gNm 10) (iSeq (dVar 6))
  b_law_1)
  sNil)
  k_law_10)
noncomputable def k_law_8 : DS :=
  (sSeq (sFor (gNm 7) (iRng1 (aCons (dOpA lenD (aCons (dVar 2) aNil)) aNil))
  b_law_0)
  k_law_9)
noncomputable def k_law_7 : DS :=
  (sSeq (sAsg (gNm 6) (dLc (iRng1 (aCons (dOpA lenD (aCons (dVar 2) aNil)) aNil)) [7] (gNm 7) tTrue x_law_1))
  k_law_8)
noncomputable def k_law_6 : DS :=
  (sSeq (sOwn 5 (dLst aNil))
  k_law_7)
noncomputable def k_law_5 : DS :=
  (sSeq (sAsg (gNm 4) (dAdd (dAdd (dVar 3) (dC (.int 4))) (dCall f__law_next (aCons (dVar 1) (aCons (dC (.int 12)) aNil)))))
  k_law_6)
noncomputable def k_law_4 : DS :=
  (sSeq (sAsg (gNm 3) (dCall f__law_next (aCons (dVar 1) (aCons (dC (.int 2)) aNil))))
  k_law_5)
noncomputable def k_law_3 : DS :=
  (sSeq (sIf (tAnd' (dTru (dVar 2)) (dBl (dGt (dCall f__law_next (aCons (dVar 1) (aCons (dC (.int 4)) aNil))) (dC (.int 0)))))
  (sSeq (sAsg (gNm 8) (dIx (dIx (dVar 2) (dCall f__law_next (aCons (dVar 1) (aCons (dOpA lenD (aCons (dVar 2) aNil)) aNil)))) (dC (.int 0))))
  (sAsg (gNm 9) (dIx (dLc (iSeq (dLst (aCons (dC (.str "aa")) (aCons (dC (.str "bb")) (aCons (dC (.str "cc")) (aCons (dC (.str "dd")) aNil)))))) [12] (gNm 12) q_law_0 x_law_0) (dC (.int 0)))))
  sNil)
  k_law_4)
noncomputable def k_law_2 : DS :=
  (sSeq (sAsg (gTp 2 (gsCons (gNm 8) (gsCons (gNm 9) gsNil))) (dTup (aCons (dIx (dLst (aCons (dC (.str "aa")) (aCons (dC (.str "bb")) aNil))) (dCall f__law_next (aCons (dVar 1) (aCons (dC (.int 2)) aNil)))) (aCons (dIx (dLst (aCons (dC (.str "cc")) (aCons (dC (.str "dd")) aNil))) (dCall f__law_next (aCons (dVar 1) (aCons (dC (.int 2)) aNil)))) aNil))))
  k_law_3)
noncomputable def k_law_1 : DS :=
  (sSeq (sAsg (gNm 2) (dCall f__law_net (aCons (dVar 1) (aCons (dC (.int 7)) (aCons (dC (.int 2)) aNil)))))
  k_law_2)
noncomputable def t_law : DS :=
  (sSeq (sAsg (gNm 1) (dCall f__law_draw (aCons (dVar 0) aNil)))
  k_law_1)
noncomputable def f_law : Fn := runF 14 1 t_law
theorem bd_law (tx : TxG fa fn bf cs K h mg) (cdv : Value) (ff : Addr) (aa : Around) (ou : List PySem.Env) (ss : Shared) (hh : Hp) (ee : XK) (hr : Room 12 (aa.deeper (envOfC "law" (defScope s_law) ss.heap.objs.size ff cdv))) : SsX (cxOf CX0 P w K mg base ["script", "draw", "net", "first", "last", "found", "sets", "k", "start", "goal", "some", "rest", "name", "j"] "law" (defScope s_law) ff cdv aa ou ss hh ee).nox (defBody s_law) t_law :=
  (Ss.cons (S.asg (E.call (ok__law_draw tx) (hr.mono (by decide)) (by rfl) (A.cons (E.var 0) A.nil)) (G.nm 1 sc_law.nd))
  (Ss.cons (S.asg (E.call (ok__law_net tx) (hr.mono (by decide)) (by rfl) (A.cons (E.var 1) (A.cons E.int (A.cons E.int A.nil)))) (G.nm 2 sc_law.nd))
  (Ss.cons (by first | exact S.par2 (i := 8) (j := 9) sc_law.nd (A.cons (E.ix (E.lst (A.cons E.str (A.cons E.str A.nil))) (E.call (ok__law_next tx) (hr.mono (by decide)) (by rfl) (A.cons (E.var 1) (A.cons E.int A.nil)))) (A.cons (E.ix (E.lst (A.cons E.str (A.cons E.str A.nil))) (E.call (ok__law_next tx) (hr.mono (by decide)) (by rfl) (A.cons (E.var 1) (A.cons E.int A.nil)))) A.nil)) | exact S.asg (E.tup (A.cons (E.ix (E.lst (A.cons E.str (A.cons E.str A.nil))) (E.call (ok__law_next tx) (hr.mono (by decide)) (by rfl) (A.cons (E.var 1) (A.cons E.int A.nil)))) (A.cons (E.ix (E.lst (A.cons E.str (A.cons E.str A.nil))) (E.call (ok__law_next tx) (hr.mono (by decide)) (by rfl) (A.cons (E.var 1) (A.cons E.int A.nil)))) A.nil))) (G.tp rfl (Gs.cons (G.nm 8 sc_law.nd) (Gs.cons (G.nm 9 sc_law.nd) Gs.nil))))
  (Ss.cons (S.ite (T.w (W.and (T.of (E.var 2)) (W.and1 (T.gt (E.call (ok__law_next tx) (hr.mono (by decide)) (by rfl) (A.cons (E.var 1) (A.cons E.int A.nil))) E.int))))
  (Ss.cons (S.asg (E.ix (E.ix (E.var 2) (E.call (ok__law_next tx) (hr.mono (by decide)) (by rfl) (A.cons (E.var 1) (A.cons (E.cb call_len br_len (by rfl) (tx.free 1) (by decide +kernel) (A.cons (E.var 2) A.nil)) A.nil)))) E.int) (G.nm 8 sc_law.nd))
  (Ss.one (S.asg (E.ix (EF.ex (F.lc rfl sc_law.nd (I.seq (E.lst (A.cons E.str (A.cons E.str (A.cons E.str (A.cons E.str A.nil)))))) (blkOk_by (own := [("name", 12)]) (N := ["script", "draw", "net", "first", "last", "found", "sets", "k", "start", "goal", "some", "rest", "name", "j"]) (sc := defScope s_law) (by decide +kernel)) (fun _ _ _ _ _ => (G.nm 12 sc_law.nd)) (fun _ _ _ _ _ => (Ts.one (T.w (W.and (T.dinK (u1 hr) (E.var 12) (E.call (ok__law_arrivals tx) (hr.mono (by decide)) (by rfl) (A.cons (E.var 2) (A.cons (E.var 8) (A.cons E.int A.nil))))) (W.and1 (T.ne hr.units (E.var 12) (E.var 8))))))) (fun _ _ _ _ _ => (E.var 12)))) E.int) (G.nm 9 sc_law.nd))))
  Ss.nil)
  (Ss.cons (S.asg (E.call (ok__law_next tx) (hr.mono (by decide)) (by rfl) (A.cons (E.var 1) (A.cons E.int A.nil))) (G.nm 3 sc_law.nd))
  (Ss.cons (S.asg (E.add (E.add (E.var 3) E.int) (E.call (ok__law_next tx) (hr.mono (by decide)) (by rfl) (A.cons (E.var 1) (A.cons E.int A.nil)))) (G.nm 4 sc_law.nd))
  (Ss.cons (S.own (i := 5) sc_law.nd (F.lst A.nil))
  (Ss.cons (by first | exact S.lc (i := 6) rfl sc_law.nd rfl rfl (sw_true rfl rfl rfl (by decide +kernel)) (I.rng1 (by rfl) (tx.free 2) (A.cons (E.cb call_len br_len (by rfl) (tx.free 1) (by decide +kernel) (A.cons (E.var 2) A.nil)) A.nil)) (blkOk_by (own := [("k", 7)]) (N := ["script", "draw", "net", "first", "last", "found", "sets", "k", "start", "goal", "some", "rest", "name", "j"]) (sc := defScope s_law) (by decide +kernel)) (fun _ _ _ _ _ => (G.nm 7 sc_law.nd)) (fun _ _ _ _ _ => Ts.nil) (fun _ _ _ _ _ => (E.tup (A.cons (E.var 7) A.nil))) | exact S.asg (EF.ex (F.lc rfl sc_law.nd (I.rng1 (by rfl) (tx.free 2) (A.cons (E.cb call_len br_len (by rfl) (tx.free 1) (by decide +kernel) (A.cons (E.var 2) A.nil)) A.nil)) (blkOk_by (own := [("k", 7)]) (N := ["script", "draw", "net", "first", "last", "found", "sets", "k", "start", "goal", "some", "rest", "name", "j"]) (sc := defScope s_law) (by decide +kernel)) (fun _ _ _ _ _ => (G.nm 7 sc_law.nd)) (fun _ _ _ _ _ => Ts.nil) (fun _ _ _ _ _ => (E.tup (A.cons (E.var 7) A.nil))))) (G.nm 6 sc_law.nd))
  (Ss.cons (S.for_ PassesOwn.never rfl (I.rng1 (by rfl) (tx.free 2) (A.cons (E.cb call_len br_len (by rfl) (tx.free 1) (by decide +kernel) (A.cons (E.var 2) A.nil)) A.nil)) (G.nm 7 sc_law.nd)
  (Ss.one (S.asg (E.add (E.var 6) (EF.ex (F.lc rfl sc_law.nd (I.rng2 (by rfl) (tx.free 2) (A.cons (E.add (E.var 7) E.int) (A.cons (E.cb call_len br_len (by rfl) (tx.free 1) (by decide +kernel) (A.cons (E.var 2) A.nil)) A.nil))) (blkOk_by (own := [("j", 13)]) (N := ["script", "draw", "net", "first", "last", "found", "sets", "k", "start", "goal", "some", "rest", "name", "j"]) (sc := defScope s_law) (by decide +kernel)) (fun _ _ _ _ _ => (G.nm 13 sc_law.nd)) (fun _ _ _ _ _ => Ts.nil) (fun _ _ _ _ _ => (E.tup (A.cons (E.var 7) (A.cons (E.var 13) A.nil))))))) (G.nm 6 sc_law.nd))))
  (Ss.cons (S.ite (T.le (E.get2 (u1 hr) (E.call (ok__law_arrivals tx) (hr.mono (by decide)) (by rfl) (A.cons (E.var 2) (A.cons (E.var 8) (A.cons (E.var 3) A.nil)))) (E.var 9) (E.add (E.var 4) E.int)) (E.var 4))
  (Ss.one (S.for_ PassesOwn.never rfl (I.seq (E.var 6)) (G.nm 10 sc_law.nd)
  (Ss.cons (S.asg (E.ct cr_tupleN br_tuple (by rfl) (tx.free 12) (by decide +kernel) (A.cons (EF.ex (F.lc rfl sc_law.nd (I.rng1 (by rfl) (tx.free 2) (A.cons (E.cb call_len br_len (by rfl) (tx.free 1) (by decide +kernel) (A.cons (E.var 2) A.nil)) A.nil)) (blkOk_by (own := [("k", 7)]) (N := ["script", "draw", "net", "first", "last", "found", "sets", "k", "start", "goal", "some", "rest", "name", "j"]) (sc := defScope s_law) (by decide +kernel)) (fun _ _ _ _ _ => (G.nm 7 sc_law.nd)) (fun _ _ _ _ _ => (Ts.one (T.nin (u65 hr) (E.var 7) (E.var 10)))) (fun _ _ _ _ _ => (E.ix (E.var 2) (E.var 7))))) A.nil)) (G.nm 11 sc_law.nd))
  (Ss.one (S.ite (T.w (W.and (T.not (T.of (E.cb (cr_any rfl) br_any (by rfl) (tx.free 23) (by decide +kernel) (A.cons (EF.ex (F.lc rfl sc_law.nd (I.seq (E.var 10)) (blkOk_by (own := [("k", 7)]) (N := ["script", "draw", "net", "first", "last", "found", "sets", "k", "start", "goal", "some", "rest", "name", "j"]) (sc := defScope s_law) (by decide +kernel)) (fun _ _ _ _ _ => (G.nm 7 sc_law.nd)) (fun _ _ _ _ _ => Ts.nil) (fun _ _ _ _ _ => (E.in_ (u65 hr) (E.tup (A.cons (E.var 7) A.nil)) (E.varB 5))))) A.nil)))) (W.and1 (T.gt (E.get2 (u1 hr) (E.call (ok__law_arrivals tx) (hr.mono (by decide)) (by rfl) (A.cons (E.var 11) (A.cons (E.var 8) (A.cons (E.var 3) A.nil)))) (E.var 9) (E.add (E.var 4) E.int)) (E.var 4)))))
  (Ss.one (S.appOwn 5 (E.var 10)))
  Ss.nil)))))
  Ss.nil)
  (Ss.one (S.ret (E.call (ok__law_same tx) (hr.mono (by decide)) (by rfl) (A.cons (E.call (ok_weak_sets tx) (hr.mono (by decide)) (by rfl) (A.cons (E.var 2) (A.cons (E.var 8) (A.cons (E.var 9) (A.cons (E.var 3) (A.cons (E.var 4) A.nil)))))) (A.cons (EF.ex (F.cb (cr_sortD (u67 hr)) br_sorted (by rfl) (tx.free 11) (by decide +kernel) (A.cons (E.varB 5) A.nil))) A.nil)))))))))))))))
end
end K25
end
section
set_option maxHeartbeats 1000000
/-! Lb: the laws' common helpers: draws, and sameness. -/
namespace Lb
open PySem PySem.Spec PyProof.Rows L2 Rf

noncomputable def t__law_draw : DS :=
  (sRet (dNew (dLst (aCons (dOpA listD (aCons (dVar 0) aNil)) (aCons (dC (.int 0)) (aCons (dC (.int 0)) (aCons (dC (.int 17)) aNil)))))))
noncomputable def f__law_draw : Fn := runF 1 1 t__law_draw
noncomputable def t__law_next : DS :=
  (sSeq (sIf (dBl (dGt (dIx (dVar 0) (dC (.int 2))) (dC (.int 0))))
  (sSeq (sAsg (gNm 2) (dMod (dOpA intD (aCons (dIx (dVar 0) (dC (.int 2))) aNil)) (dVar 1)))
  (sSeq (sSetRef (dVar 0) (dC (.int 2)) (dFdiv (dIx (dVar 0) (dC (.int 2))) (dVar 1)))
  (sRet (dVar 2))))
  sNil)
  (sSeq (sIf (dBl (dLt (dIx (dVar 0) (dC (.int 1))) (dOpA lenD (aCons (dIx (dVar 0) (dC (.int 0))) aNil))))
  (sSeq (sAsg (gNm 3) (dOpA absD (aCons (dIx (dIx (dVar 0) (dC (.int 0))) (dIx (dVar 0) (dC (.int 1)))) aNil)))
  (sSeq (sSetRef (dVar 0) (dC (.int 1)) (dAdd (dIx (dVar 0) (dC (.int 1))) (dC (.int 1))))
  (sSeq (sIf (dBl (dGe (dVar 3) (dPow (dC (.int 10)) (dC (.int 18)))))
  (sSeq (sSetRef (dVar 0) (dC (.int 2)) (dFdiv (dVar 3) (dVar 1)))
  (sRet (dMod (dOpA intD (aCons (dVar 3) aNil)) (dVar 1))))
  sNil)
  (sSetRef (dVar 0) (dC (.int 3)) (dMod (dOpA intD (aCons (dAdd (dAdd (dMul (dIx (dVar 0) (dC (.int 3))) (dC (.int 48271))) (dVar 3)) (dC (.int 11))) aNil)) (dC (.int 2147483647)))))))
  (sSetRef (dVar 0) (dC (.int 3)) (dMod (dOpA intD (aCons (dAdd (dMul (dIx (dVar 0) (dC (.int 3))) (dC (.int 48271))) (dC (.int 12345))) aNil)) (dC (.int 2147483647)))))
  (sRet (dMod (dFdiv (dOpA intD (aCons (dMod (dMul (dIx (dVar 0) (dC (.int 3))) (dC (.int 69621))) (dC (.int 2147483629))) aNil)) (dC (.int 7))) (dVar 1)))))
noncomputable def f__law_next : Fn := runF 4 2 t__law_next
noncomputable def t__law_same (self : Fn) : DS :=
  (sSeq (sIf (dTru (dIsi ["list", "tuple"] (dVar 1)))
  (sSeq (sIf (tOr' (dBl (dNe (dIsi ["list"] (dVar 1)) (dIsi ["list"] (dVar 0)))) (dBl (dNe (dIsi ["tuple"] (dVar 1)) (dIsi ["tuple"] (dVar 0)))))
  (sRet (dC (.bl false)))
  sNil)
  (sSeq (sIf (dBl (dNe (dOpA lenD (aCons (dVar 0) aNil)) (dOpA lenD (aCons (dVar 1) aNil))))
  (sRet (dC (.bl false)))
  sNil)
  (sRet (dOpA allD (aCons (dLc (iRng1 (aCons (dOpA lenD (aCons (dVar 1) aNil)) aNil)) [2] (gNm 2) tTrue (dCall self (aCons (dIx (dVar 0) (dVar 2)) (aCons (dIx (dVar 1) (dVar 2)) aNil)))) aNil)))))
  sNil)
  (sSeq (sIf (dBl (dIs (dVar 1) (dC .non)))
  (sRet (dIs (dVar 0) (dC .non)))
  sNil)
  (sSeq (sIf (dBl (dNe (dIsi ["bool"] (dVar 1)) (dIsi ["bool"] (dVar 0))))
  (sRet (dC (.bl false)))
  sNil)
  (sSeq (sIf (dTru (dIsi ["str"] (dVar 1)))
  (sRet (dAnd' (dIsi ["str"] (dVar 0)) (dEq (dVar 0) (dVar 1))))
  sNil)
  (sRet (dAnd' (dIsi ["int"] (dVar 0)) (dEq (dVar 0) (dVar 1))))))))
noncomputable def r__law_same : Nat → Fn
  | 0 => fun _ _ => none
  | n + 1 => runF 3 2 (t__law_same (r__law_same n))
noncomputable def f__law_same : Fn := r__law_same 12

/-- a row of draws stands at a place of the store -/
def DrawOk (c : Cell) : Prop := ∃ (ns : List Int) (pos : Nat) (rest seed : Int), c = .lst [.lst (ns.map .int), .int pos, .int rest, .int seed] ∧ 0 ≤ rest ∧ 0 ≤ seed ∧ seed < 2147483647
theorem draw_spec (ns : List Int) (S : Sto) : ∃ c, f__law_draw [.scr (ns.map .int)] S = some (.ref S.length, S ++ [c]) ∧ DrawOk c := by
  refine ⟨.lst [.lst (ns.map .int), .int 0, .int 0, .int 17], ?_, ns, 0, 0, 17, rfl, by omega, by omega, by omega⟩
  unfold f__law_draw
  rw [runF1]
  have : (4 : Nat) ≤ sizeLine := by decide
  simp [t__law_draw, this]
theorem get0 (a b c d : D) : atI [a, b, c, d] 0 = some a := rfl
theorem get1 (a b c d : D) : atI [a, b, c, d] 1 = some b := rfl
theorem get2 (a b c d : D) : atI [a, b, c, d] 2 = some c := rfl
theorem get3 (a b c d : D) : atI [a, b, c, d] 3 = some d := rfl
theorem next_spec (c : Cell) (S : Sto) (m : Int) (hc : DrawOk c) (hm : 0 < m) (hm2 : m < 1073741824) :
    ∃ v c', f__law_next [.ref 0, .int m] (c :: S) = some (.int v, c' :: S) ∧ DrawOk c' ∧ 0 ≤ v ∧ v < m := by
  obtain ⟨ns, pos, rest, seed, rfl, h0, h1, h2⟩ := hc
  unfold f__law_next
  rw [runF2]
  have e0 : ixN 4 0 = some 0 := rfl
  have e1 : ixN 4 1 = some 1 := rfl
  have e2 : ixN 4 2 = some 2 := rfl
  have e3 : ixN 4 3 = some 3 := rfl
  by_cases hr : 0 < rest
  · refine ⟨rest % m, .lst [.lst (ns.map .int), .int pos, .int (rest / m), .int seed], ?_, ⟨ns, pos, rest / m, seed, rfl, Int.ediv_nonneg h0 (by omega), h1, h2⟩, Int.emod_nonneg _ (by omega), Int.emod_lt_of_pos _ hm⟩
    simp [t__law_next, get2, hr, modD_pos hm, fdivD_pos hm hm2, sSetRef, e2]
  · have fin : ∀ (seed' : Int), 0 ≤ seed' → seed' < 2147483647 → ∃ x : Int, modD S (.int (seed' * 69621)) (.int 2147483629) = some (.int x) ∧ 0 ≤ x / 7 % m ∧ x / 7 % m < m := fun s a b => ⟨_, modD_pos (by omega), Int.emod_nonneg _ (by omega), Int.emod_lt_of_pos _ hm⟩
    by_cases hp : pos < ns.length
    · -- a cell of the script
      have hx : atI (ns.map D.int) (pos : Int) = some (.int ns[pos]) := by
        rw [atI_map, atI_nn (by omega)]
        simp [hp]
      have hpow : powD = powD := rfl
      have hp18 : ∀ S : Sto, powD S (.int 10) (.int 18) = some (.int 1000000000000000000) := fun S => powD_ok ⟨by omega, by omega, by decide⟩
      by_cases hb : (1000000000000000000 : Int) ≤ (if ns[pos] < 0 then -ns[pos] else ns[pos])
      · refine ⟨(if ns[pos] < 0 then -ns[pos] else ns[pos]) % m, .lst [.lst (ns.map .int), .int ((pos : Int) + 1), .int ((if ns[pos] < 0 then -ns[pos] else ns[pos]) / m), .int seed], ?_, ⟨ns, pos + 1, _, seed, rfl, Int.ediv_nonneg (by omega) (by omega), h1, h2⟩, Int.emod_nonneg _ (by omega), Int.emod_lt_of_pos _ hm⟩
        simp [t__law_next, get0, get1, get2, get3, hr, hp, hx, sSetRef, e1, e2, hp18, hb, modD_pos hm, fdivD_pos hm hm2]
      · have hs0 : 0 ≤ (seed * 48271 + (if ns[pos] < 0 then -ns[pos] else ns[pos]) + 11) % 2147483647 := Int.emod_nonneg _ (by omega)
        have hs1 : (seed * 48271 + (if ns[pos] < 0 then -ns[pos] else ns[pos]) + 11) % 2147483647 < 2147483647 := Int.emod_lt_of_pos _ (by omega)
        have m1 : ∀ S : Sto, mulD S (.int seed) (.int 48271) = some (.int (seed * 48271)) := fun S => mulD_r (by omega) (by omega)
        have m2 : ∀ (S : Sto) (x : Int), mulD S (.int x) (.int 69621) = some (.int (x * 69621)) := fun S x => mulD_r (by omega) (by omega)
        refine ⟨((seed * 48271 + (if ns[pos] < 0 then -ns[pos] else ns[pos]) + 11) % 2147483647 * 69621 % 2147483629) / 7 % m, .lst [.lst (ns.map .int), .int ((pos : Int) + 1), .int rest, .int ((seed * 48271 + (if ns[pos] < 0 then -ns[pos] else ns[pos]) + 11) % 2147483647)], ?_, ⟨ns, pos + 1, rest, _, rfl, h0, hs0, hs1⟩, Int.emod_nonneg _ (by omega), Int.emod_lt_of_pos _ hm⟩
        have p1 : ∀ (S : Sto) (x : Int), modD S (.int x) (.int 2147483647) = some (.int (x % 2147483647)) := fun S x => modD_pos (by omega)
        have p2 : ∀ (S : Sto) (x : Int), modD S (.int x) (.int 2147483629) = some (.int (x % 2147483629)) := fun S x => modD_pos (by omega)
        have p3 : ∀ (S : Sto) (x : Int), fdivD S (.int x) (.int 7) = some (.int (x / 7)) := fun S x => fdivD_pos (by omega) (by omega)
        simp [t__law_next, get0, get1, get2, get3, hr, hp, hx, sSetRef, e1, e2, e3, hp18, hb, modD_pos hm, m1, m2, p1, p2, p3]
    · have hs0 : 0 ≤ (seed * 48271 + 12345) % 2147483647 := Int.emod_nonneg _ (by omega)
      have hs1 : (seed * 48271 + 12345) % 2147483647 < 2147483647 := Int.emod_lt_of_pos _ (by omega)
      have m1 : ∀ S : Sto, mulD S (.int seed) (.int 48271) = some (.int (seed * 48271)) := fun S => mulD_r (by omega) (by omega)
      have m2 : ∀ (S : Sto) (x : Int), mulD S (.int x) (.int 69621) = some (.int (x * 69621)) := fun S x => mulD_r (by omega) (by omega)
      refine ⟨((seed * 48271 + 12345) % 2147483647 * 69621 % 2147483629) / 7 % m, .lst [.lst (ns.map .int), .int pos, .int rest, .int ((seed * 48271 + 12345) % 2147483647)], ?_, ⟨ns, pos, rest, _, rfl, h0, hs0, hs1⟩, Int.emod_nonneg _ (by omega), Int.emod_lt_of_pos _ hm⟩
      have p1 : ∀ (S : Sto) (x : Int), modD S (.int x) (.int 2147483647) = some (.int (x % 2147483647)) := fun S x => modD_pos (by omega)
      have p2 : ∀ (S : Sto) (x : Int), modD S (.int x) (.int 2147483629) = some (.int (x % 2147483629)) := fun S x => modD_pos (by omega)
      have p3 : ∀ (S : Sto) (x : Int), fdivD S (.int x) (.int 7) = some (.int (x / 7)) := fun S x => fdivD_pos (by omega) (by omega)
      simp [t__law_next, get0, get1, get2, get3, hr, hp, sSetRef, e1, e2, e3, modD_pos hm, m1, m2, p1, p2, p3]
/-! ### sameness -/
def strOkB (x : PySem.Str) : Bool := SeqAt.shaped (.str x)
@[irreducible] def lim (n : Nat) : Bool := decide (n ≤ 1000000)
theorem lim_ok {n : Nat} (h : lim n = true) : n ≤ 1000000 := by
  unfold lim at h
  exact of_decide_eq_true h
theorem lim_of {n : Nat} (h : n ≤ 1000000) : lim n = true := by
  unfold lim
  exact decide_eq_true h
/-- plain data, at most so deep -/
def okD : Nat → D → Bool
  | _, .non => true
  | _, .bl _ => true
  | _, .int _ => true
  | _, .str x => strOkB x
  | 0, _ => false
  | n + 1, .tup xs => lim xs.length && xs.all (okD n)
  | n + 1, .lst xs => lim xs.length && xs.all (okD n)
  | _ + 1, _ => false
theorem okD_tup (n : Nat) (xs : List D) : okD (n + 1) (.tup xs) = (lim xs.length && xs.all (okD n)) := by rw [okD]
theorem okD_lst (n : Nat) (xs : List D) : okD (n + 1) (.lst xs) = (lim xs.length && xs.all (okD n)) := by rw [okD]
theorem eqv_str (x : PySem.Str) : PyData.eqv (.str x) (.str x) = true := by rw [PyData.eqv]; simp
theorem all_map_true {α : Type} : ∀ (xs : List α), blsD (xs.map fun _ => D.bl true) = some (xs.map fun _ => true)
  | [] => rfl
  | x :: xs => by
    rw [List.map_cons, blsD_cons, all_map_true xs]
    rfl
theorem same_all {n : Nat} {xs : List D} {S : Sto} {mk : List D → D} (hmk : ∀ (S : Sto) (i : Int), ixD S (mk xs) (.int i) = atI xs i) (ih : ∀ d ∈ xs, r__law_same n [d, d] S = some (.bl true, S)) :
    lcGo (gNm 2) tTrue (dCall (r__law_same n) (aCons (dIx (dVar 0) (dVar 2)) (aCons (dIx (dVar 1) (dVar 2)) aNil))) none (rngL 0 xs.length) [.val (mk xs), .val (mk xs), .no] (rngL 0 xs.length) [] S = some (.lst ((rngL 0 xs.length).map fun _ => .bl true), S) := by
  rw [lcGo_map (f := fun _ => .bl true)]
  · rfl
  · intro d hd
    unfold rngL at hd
    obtain ⟨i, hi, rfl⟩ := List.mem_map.mp hd
    have hi : i < xs.length := by simpa using hi
    refine ⟨[.val (mk xs), .val (mk xs), .val (.int (0 + (i : Int)))], rfl, ?_⟩
    have e : atI xs (i : Int) = some xs[i] := by
      rw [atI_nn (by omega)]
      simp [hi]
    simp [hmk, e, ih xs[i] (List.getElem_mem hi)]
theorem rgA_len {n : Nat} (h : n ≤ 1000000) : rgA [.int (n : Int)] = some (rngL 0 n) := by
  rw [rgA_ok (by omega) (by omega)]
  simp
theorem same_sc {n : Nat} {d : D} {S : Sto} (h : d = .non ∨ (∃ b, d = .bl b) ∨ (∃ i, d = .int i) ∨ ∃ x, d = .str x ∧ strOkB x = true) : r__law_same (n + 1) [d, d] S = some (.bl true, S) := by
  show runF 3 2 (t__law_same (r__law_same n)) [d, d] S = _
  rw [runF2]
  rcases h with rfl | ⟨b, rfl⟩ | ⟨i, rfl⟩ | ⟨x, rfl, hx⟩
  · simp [t__law_same]
  · simp [t__law_same]
  · simp [t__law_same]
  · have e : eqS S (.str x) (.str x) = some true := by
      unfold eqS
      have hs : SeqAt.shaped (.str x) = true := hx
      show (if SeqAt.shaped (.str x) && SeqAt.shaped (.str x) then some (PyData.eqv (.str x) (.str x)) else none) = some true
      rw [hs, eqv_str]
      rfl
    simp [t__law_same, e]
theorem same_tup {n : Nat} {xs : List D} {S : Sto} (hl : xs.length ≤ 1000000) (ih : ∀ d ∈ xs, r__law_same n [d, d] S = some (.bl true, S)) : r__law_same (n + 1) [.tup xs, .tup xs] S = some (.bl true, S) := by
  have hgo := same_all (mk := .tup) (fun _ _ => rfl) ih
  have hr := rgA_len hl
  show runF 3 2 (t__law_same (r__law_same n)) [.tup xs, .tup xs] S = _
  rw [runF2]
  generalize r__law_same n = self at *
  simp [t__law_same, hr, hgo, all_map_true]
theorem same_lst {n : Nat} {xs : List D} {S : Sto} (hl : xs.length ≤ 1000000) (ih : ∀ d ∈ xs, r__law_same n [d, d] S = some (.bl true, S)) : r__law_same (n + 1) [.lst xs, .lst xs] S = some (.bl true, S) := by
  have hgo := same_all (mk := .lst) (fun _ _ => rfl) ih
  have hr := rgA_len hl
  show runF 3 2 (t__law_same (r__law_same n)) [.lst xs, .lst xs] S = _
  rw [runF2]
  generalize r__law_same n = self at *
  simp [t__law_same, hr, hgo, all_map_true]
theorem same_refl : ∀ (n : Nat) (d : D) (S : Sto), okD n d = true → r__law_same (n + 1) [d, d] S = some (.bl true, S)
  | _, .non, S, _ => same_sc (.inl rfl)
  | _, .bl b, S, _ => same_sc (.inr (.inl ⟨_, rfl⟩))
  | _, .int b, S, _ => same_sc (.inr (.inr (.inl ⟨_, rfl⟩)))
  | n, .str x, S, h => same_sc (.inr (.inr (.inr ⟨_, rfl, by cases n <;> exact h⟩)))
  | 0, .tup xs, _, h => by cases h
  | 0, .lst xs, _, h => by cases h
  | n + 1, .tup xs, S, h => by
    rw [okD_tup, Bool.and_eq_true, List.all_eq_true] at h
    exact same_tup (lim_ok h.1) fun d hd => same_refl n d S (h.2 d hd)
  | n + 1, .lst xs, S, h => by
    rw [okD_lst, Bool.and_eq_true, List.all_eq_true] at h
    exact same_lst (lim_ok h.1) fun d hd => same_refl n d S (h.2 d hd)
  | n, .scr xs, _, h => by cases n <;> cases h
  | n, .par xs, _, h => by cases n <;> cases h
  | n, .dct _ _, _, h => by cases n <;> cases h
  | n, .ref _, _, h => by cases n <;> cases h
  | n, .fn _, _, h => by cases n <;> cases h
/-- what the laws ask of a value and what is due -/
theorem same_ok {d : D} {S : Sto} (h : okD 10 d = true) : f__law_same [d, d] S = some (.bl true, S) := by
  have mono : ∀ (n : Nat) (d : D), okD n d = true → okD (n + 1) d = true := by
    intro n
    induction n with
    | zero =>
      intro d h
      cases d <;> first | exact h | cases h
    | succ n ih =>
      intro d h
      cases d with
      | tup xs =>
        rw [okD_tup, Bool.and_eq_true, List.all_eq_true] at h ⊢
        exact ⟨h.1, fun d hd => ih d (h.2 d hd)⟩
      | lst xs =>
        rw [okD_lst, Bool.and_eq_true, List.all_eq_true] at h ⊢
        exact ⟨h.1, fun d hd => ih d (h.2 d hd)⟩
      | _ => first | exact h | cases h
  exact same_refl 11 d S (mono 10 d h)
theorem okD_int (n : Nat) (i : Int) : okD n (.int i) = true := by cases n <;> rfl
theorem okD_bl (n : Nat) (i : Bool) : okD n (.bl i) = true := by cases n <;> rfl
theorem okD_non (n : Nat) : okD n .non = true := by cases n <;> rfl
theorem okD_tupOf {n : Nat} {xs : List D} (hl : xs.length ≤ 1000000) (h : ∀ d ∈ xs, okD n d = true) : okD (n + 1) (.tup xs) = true := by
  rw [okD_tup, Bool.and_eq_true, List.all_eq_true]
  exact ⟨lim_of hl, h⟩
theorem okD_lstOf {n : Nat} {xs : List D} (hl : xs.length ≤ 1000000) (h : ∀ d ∈ xs, okD n d = true) : okD (n + 1) (.lst xs) = true := by
  rw [okD_lst, Bool.and_eq_true, List.all_eq_true]
  exact ⟨lim_of hl, h⟩
theorem okD_tI {n : Nat} {xs : List Int} (hl : xs.length ≤ 1000000) : okD (n + 1) (tI xs) = true := okD_tupOf (by rw [List.length_map]; exact hl) fun d hd => by
  obtain ⟨i, _, rfl⟩ := List.mem_map.mp hd
  exact okD_int _ _
end Lb
end
section
set_option maxHeartbeats 1000000
/-! Lc: equality of plain data. -/
namespace Rf
open PySem PySem.Spec PyProof.Rows L2
@[simp] theorem iZip_eq (t : DA) (e : Env) (S : Sto) : Rf.iZip t e S = (t e S).bnd fun p => (zipD p.2 p.1).mpp fun xs => ((xs, none), p.2) := (rfl)
@[simp] theorem iEnum_eq (t : DE) (e : Env) (S : Sto) : Rf.iEnum t e S = (t e S).bnd fun p => (enumD p.2 p.1).mpp fun xs => ((xs, none), p.2) := (rfl)
@[simp] theorem zipD_tup (S : Sto) (xs ys : List D) : zipD S [.tup xs, .tup ys] = some (pairs xs ys) := (rfl)
@[simp] theorem zipD_lst (S : Sto) (xs ys : List D) : zipD S [.lst xs, .lst ys] = some (pairs xs ys) := (rfl)
@[simp] theorem enumD_lst (S : Sto) (xs : List D) : enumD S (.lst xs) = some (nums xs) := (rfl)
@[simp] theorem dChain_eq (f f' : Sto → D → D → Option D) (ta tb tc : DE) (e : Env) (S : Sto) : dChain f f' ta tb tc e S = (ta e S).bnd fun p => (tb e p.2).bnd fun q => (f q.2 p.1 q.1).bnd fun z => (blOf z).bnd fun k =>
  if k = true then (tc e q.2).bnd fun w => (f' w.2 q.1 w.1).mpp fun z => (z, w.2) else some (.bl false, q.2) := (rfl)
theorem ownL_of : ∀ (i : Nat) (e : Env), ownL i e = match e[i]? with
    | some (.own (.lst xs)) => some xs
    | _ => none
  | 0, [] => rfl
  | 0, .no :: e => rfl
  | 0, .val _ :: e => rfl
  | 0, .own (.lst _) :: e => rfl
  | 0, .own (.dct _ _) :: e => rfl
  | 0, .own (.dtn _ _) :: e => rfl
  | 0, .own (.dtx _ _) :: e => rfl
  | 0, .own (.dxn _ _) :: e => rfl
  | 0, .own (.ins _ _) :: e => rfl
  | i + 1, [] => rfl
  | i + 1, s :: e => by rw [List.getElem?_cons_succ]; exact ownL_of i e
@[simp] theorem sAppOwn_simp (i : Nat) (t : DE) (e : Env) (S : Sto) : sAppOwn i t e S = (t e S).bnd fun p => (ownL i e).bnd fun xs => if xs.length < sizeLine then (setSl i (.own (.lst (xs ++ [p.1]))) e).mpp fun e' => (.nx e', p.2) else none := by
  unfold sAppOwn
  show Option.bind _ _ = Option.bind _ _
  congr 1
  funext p
  rw [ownL_of]
  show _ = Option.bind _ _
  cases h : e[i]? with
  | none => rfl
  | some s =>
    have hi : i < e.length := (List.getElem?_eq_some_iff.mp h).1
    cases s with
    | no => rfl
    | val _ => rfl
    | own c =>
      cases c with
      | lst xs =>
        show (if _ then _ else _) = (if _ then _ else _)
        rw [setSl_eq, if_pos hi, mpp_some]
      | _ => rfl
theorem sWhile_done {tc : DT} {tb : DS} {e : Env} {S S' : Sto} (h : tc e S = some (false, S')) : sWhile tc tb e S = some (.nx e, S') := sWhile_eq (n := 1) (by
  rw [whGo, h]; rfl)
theorem sWhile_go {tc : DT} {tb : DS} {e e' : Env} {S S1 S2 : Sto} {r : Fl × Sto} (h : tc e S = some (true, S1)) (h2 : tb e S1 = some (.nx e', S2)) (h3 : sWhile tc tb e' S2 = some r) : sWhile tc tb e S = some r := by
  obtain ⟨n, e1⟩ := sWhile_some h3
  exact sWhile_eq (n := n + 1) (by rw [whGo, h]; simpa [h2] using e1)
theorem sIx_m1 (n d : Nat) : HT.sIx n d (some (-1)) = n - 1 := by
  unfold HT.sIx
  simp
  omega
theorem cutL_init {α : Type} (xs : List α) : cutL xs none (some (-1)) = xs.take (xs.length - 1) := by
  unfold cutL
  rw [HT.sIx_none, List.drop_zero, Nat.sub_zero, sIx_m1]
theorem cutL_last {α : Type} (xs : List α) : cutL xs (some (-1)) none = xs.drop (xs.length - 1) := by
  unfold cutL
  rw [HT.sIx_none, sIx_m1, List.take_of_length_le (by simp)]
end Rf
namespace Lb
open PySem PySem.Spec PyProof.Rows L2 Rf
theorem at_nn {xs : List Int} {i : Nat} (h : i < xs.length) : atI (xs.map D.int) (i : Int) = some (.int xs[i]) := by
  rw [atI_map, atI_nn (by omega)]; simp [h]
mutual
def eqB : D → D → Bool
  | .non, .non => true
  | .bl a, .bl b => a == b
  | .bl a, .int j => (if a then 1 else 0) == j
  | .int i, .bl b => i == (if b then 1 else 0)
  | .int i, .int j => i == j
  | .str x, .str y => x == y
  | .tup xs, .tup ys => eqBs xs ys
  | .lst xs, .lst ys => eqBs xs ys
  | _, _ => false
def eqBs : List D → List D → Bool
  | [], [] => true
  | x :: xs, y :: ys => eqB x y && eqBs xs ys
  | _, _ => false
end
@[simp] theorem eqB_int (i j : Int) : eqB (.int i) (.int j) = (i == j) := by rw [eqB]
@[simp] theorem eqB_bl (i j : Bool) : eqB (.bl i) (.bl j) = (i == j) := by rw [eqB]
@[simp] theorem eqB_blint (a : Bool) (j : Int) : eqB (.bl a) (.int j) = ((if a then 1 else 0) == j) := by rw [eqB]
@[simp] theorem eqB_intbl (i : Int) (b : Bool) : eqB (.int i) (.bl b) = (i == (if b then 1 else 0)) := by rw [eqB]
@[simp] theorem eqB_str (x y : PySem.Str) : eqB (.str x) (.str y) = (x == y) := by rw [eqB]
@[simp] theorem eqB_tup (xs ys : List D) : eqB (.tup xs) (.tup ys) = eqBs xs ys := by rw [eqB]
@[simp] theorem eqB_lst (xs ys : List D) : eqB (.lst xs) (.lst ys) = eqBs xs ys := by rw [eqB]
@[simp] theorem eqB_non : eqB .non .non = true := by rw [eqB]
@[simp] theorem eqB_tuplst (xs ys : List D) : eqB (.tup xs) (.lst ys) = false := by rw [eqB] <;> simp
@[simp] theorem eqB_lsttup (xs ys : List D) : eqB (.lst xs) (.tup ys) = false := by rw [eqB] <;> simp
@[simp] theorem eqB_inttup (i : Int) (ys : List D) : eqB (.int i) (.tup ys) = false := by rw [eqB] <;> simp
@[simp] theorem eqB_tupint (i : Int) (ys : List D) : eqB (.tup ys) (.int i) = false := by rw [eqB] <;> simp
@[simp] theorem eqB_intlst (i : Int) (ys : List D) : eqB (.int i) (.lst ys) = false := by rw [eqB] <;> simp
@[simp] theorem eqB_lstint (i : Int) (ys : List D) : eqB (.lst ys) (.int i) = false := by rw [eqB] <;> simp
@[simp] theorem eqB_nonint (i : Int) : eqB .non (.int i) = false := by rw [eqB] <;> simp
@[simp] theorem eqB_intnon (i : Int) : eqB (.int i) .non = false := by rw [eqB] <;> simp
@[simp] theorem eqB_nontup (ys : List D) : eqB .non (.tup ys) = false := by rw [eqB] <;> simp
@[simp] theorem eqB_tupnon (ys : List D) : eqB (.tup ys) .non = false := by rw [eqB] <;> simp
@[simp] theorem eqB_strtup (x : PySem.Str) (ys : List D) : eqB (.str x) (.tup ys) = false := by rw [eqB] <;> simp
@[simp] theorem eqB_tupstr (x : PySem.Str) (ys : List D) : eqB (.tup ys) (.str x) = false := by rw [eqB] <;> simp
@[simp] theorem eqB_strint (x : PySem.Str) (i : Int) : eqB (.str x) (.int i) = false := by rw [eqB] <;> simp
@[simp] theorem eqB_intstr (x : PySem.Str) (i : Int) : eqB (.int i) (.str x) = false := by rw [eqB] <;> simp
@[simp] theorem eqB_strnon (x : PySem.Str) : eqB (.str x) .non = false := by rw [eqB] <;> simp
@[simp] theorem eqB_nonstr (x : PySem.Str) : eqB .non (.str x) = false := by rw [eqB] <;> simp
@[simp] theorem eqB_bltup (x : Bool) (ys : List D) : eqB (.bl x) (.tup ys) = false := by rw [eqB] <;> simp
@[simp] theorem eqB_tupbl (x : Bool) (ys : List D) : eqB (.tup ys) (.bl x) = false := by rw [eqB] <;> simp
@[simp] theorem eqB_blnon (x : Bool) : eqB (.bl x) .non = false := by rw [eqB] <;> simp
@[simp] theorem eqB_nonbl (x : Bool) : eqB .non (.bl x) = false := by rw [eqB] <;> simp
@[simp] theorem eqBs_nil : eqBs [] [] = true := by rw [eqBs]
@[simp] theorem eqBs_cons (x y : D) (xs ys : List D) : eqBs (x :: xs) (y :: ys) = (eqB x y && eqBs xs ys) := by rw [eqBs]
@[simp] theorem eqBs_nc (y : D) (ys : List D) : eqBs [] (y :: ys) = false := by rw [eqBs] <;> simp
@[simp] theorem eqBs_cn (x : D) (xs : List D) : eqBs (x :: xs) [] = false := by rw [eqBs] <;> simp
/-- a family of data told apart by equality -/
theorem eqBs_map {α : Type} [DecidableEq α] {f : α → D} (h : ∀ x y, eqB (f x) (f y) = decide (x = y)) : ∀ xs ys : List α, eqBs (xs.map f) (ys.map f) = decide (xs = ys)
  | [], [] => by simp
  | [], y :: ys => by simp
  | x :: xs, [] => by simp
  | x :: xs, y :: ys => by simp [h, eqBs_map h xs ys]
@[simp] theorem eqBs_ints (xs ys : List Int) : eqBs (xs.map .int) (ys.map .int) = decide (xs = ys) := eqBs_map (fun x y => by simp [Bool.beq_eq_decide_eq]) xs ys
@[simp] theorem eqBs_ints_nil (xs : List Int) : eqBs (xs.map .int) [] = decide (xs = []) := eqBs_ints xs []
@[simp] theorem eqBs_nil_ints (xs : List Int) : eqBs [] (xs.map .int) = decide ([] = xs) := eqBs_ints [] xs
/-! the plain datum behind -/
mutual
theorem py_of : ∀ (n : Nat) (x : D), okD n x = true → ∃ p, pyD x = some p ∧ p.canLay0 = true ∧ p.depth ≤ n + 1
  | n, .non, _ => ⟨.none, rfl, by simp [PyData.canLay0], by simp [PyData.depth]⟩
  | n, .bl b, _ => ⟨.bool b, rfl, by simp [PyData.canLay0], by simp [PyData.depth]⟩
  | n, .int b, _ => ⟨.int b, rfl, by simp [PyData.canLay0], by simp [PyData.depth]⟩
  | n, .str b, h => by
    have h : strOkB b = true := by cases n <;> exact h
    exact ⟨.str b, rfl, SeqAt.canLay_of_shaped h, by simp [PyData.depth]⟩
  | 0, .tup xs, h => by cases h
  | 0, .lst xs, h => by cases h
  | n + 1, .tup xs, h => by
    rw [okD_tup, Bool.and_eq_true, List.all_eq_true] at h
    obtain ⟨ps, e, c, d⟩ := pys_of n xs h.2
    refine ⟨.tuple ps, ?_, ?_, ?_⟩
    · show (pyDs xs).map _ = _
      rw [e]; rfl
    · simpa [PyData.canLay0] using c
    · simp only [PyData.depth]; omega
  | n + 1, .lst xs, h => by
    rw [okD_lst, Bool.and_eq_true, List.all_eq_true] at h
    obtain ⟨ps, e, c, d⟩ := pys_of n xs h.2
    refine ⟨.list ps, ?_, ?_, ?_⟩
    · show (pyDs xs).map _ = _
      rw [e]; rfl
    · simpa [PyData.canLay0] using c
    · simp only [PyData.depth]; omega
  | n, .scr xs, h => by cases n <;> cases h
  | n, .par xs, h => by cases n <;> cases h
  | n, .dct _ _, h => by cases n <;> cases h
  | n, .ref _, h => by cases n <;> cases h
  | n, .fn _, h => by cases n <;> cases h
theorem pys_of : ∀ (n : Nat) (xs : List D), (∀ x ∈ xs, okD n x = true) → ∃ ps, pyDs xs = some ps ∧ PyData.canLayAll0 ps = true ∧ PyData.depthAll ps ≤ n + 1
  | n, [], _ => ⟨[], rfl, by simp [PyData.canLayAll0], by simp [PyData.depthAll]⟩
  | n, x :: xs, h => by
    obtain ⟨p, e, c, d⟩ := py_of n x (h x (by simp))
    obtain ⟨ps, e', c', d'⟩ := pys_of n xs (fun y hy => h y (List.mem_cons_of_mem _ hy))
    refine ⟨p :: ps, ?_, ?_, ?_⟩
    · show (pyD x).bind _ = _
      rw [e, e']; rfl
    · simp [PyData.canLayAll0, c, c']
    · simp only [PyData.depthAll]; omega
end
mutual
theorem eqv_of : ∀ (x y : D) (p q : PyData), pyD x = some p → pyD y = some q → PyData.eqv p q = eqB x y
  | .non, y, p, q, h, h' => by
    cases h
    cases y <;> (try (cases h'; done)) <;> (try (cases h'; simp [PyData.eqv, eqB]; done))
    all_goals
      obtain ⟨ps, e, rfl⟩ := Option.map_eq_some_iff.mp (show Option.map _ _ = _ from h')
      simp [PyData.eqv, eqB]
  | .bl b, y, p, q, h, h' => by
    cases h
    cases y <;> (try (cases h'; done)) <;> (try (cases h'; simp [PyData.eqv, eqB]; done))
    all_goals
      obtain ⟨ps, e, rfl⟩ := Option.map_eq_some_iff.mp (show Option.map _ _ = _ from h')
      simp [PyData.eqv, eqB]
  | .int b, y, p, q, h, h' => by
    cases h
    cases y <;> (try (cases h'; done)) <;> (try (cases h'; simp [PyData.eqv, eqB]; done))
    all_goals
      obtain ⟨ps, e, rfl⟩ := Option.map_eq_some_iff.mp (show Option.map _ _ = _ from h')
      simp [PyData.eqv, eqB]
  | .str b, y, p, q, h, h' => by
    cases h
    cases y <;> (try (cases h'; done)) <;> (try (cases h'; simp [PyData.eqv, eqB]; done))
    all_goals
      obtain ⟨ps, e, rfl⟩ := Option.map_eq_some_iff.mp (show Option.map _ _ = _ from h')
      simp [PyData.eqv, eqB]
  | .tup xs, y, p, q, h, h' => by
    obtain ⟨ps, e, rfl⟩ := Option.map_eq_some_iff.mp (show Option.map _ _ = _ from h)
    cases y <;> (try (cases h'; done)) <;> (try (cases h'; simp [PyData.eqv, eqB]; done))
    all_goals
      obtain ⟨qs, e', rfl⟩ := Option.map_eq_some_iff.mp (show Option.map _ _ = _ from h')
      simp only [PyData.eqv, eqB]
    exact eqvs_of _ _ ps qs e e'
  | .lst xs, y, p, q, h, h' => by
    obtain ⟨ps, e, rfl⟩ := Option.map_eq_some_iff.mp (show Option.map _ _ = _ from h)
    cases y <;> (try (cases h'; done)) <;> (try (cases h'; simp [PyData.eqv, eqB]; done))
    all_goals
      obtain ⟨qs, e', rfl⟩ := Option.map_eq_some_iff.mp (show Option.map _ _ = _ from h')
      simp only [PyData.eqv, eqB]
    exact eqvs_of _ _ ps qs e e'
  | .scr _, _, _, _, h, _ => by cases h
  | .par _, _, _, _, h, _ => by cases h
  | .dct _ _, _, _, _, h, _ => by cases h
  | .ref _, _, _, _, h, _ => by cases h
  | .fn _, _, _, _, h, _ => by cases h
theorem eqvs_of : ∀ (xs ys : List D) (ps qs : List PyData), pyDs xs = some ps → pyDs ys = some qs → PyData.eqvAll ps qs = eqBs xs ys
  | [], [], ps, qs, h, h' => by
    cases h; cases h'
    simp [PyData.eqvAll, eqBs]
  | [], y :: ys, ps, qs, h, h' => by
    cases h
    obtain ⟨q, e, e'⟩ := Option.bind_eq_some_iff.mp (show Option.bind _ _ = _ from h')
    obtain ⟨qs, e'', rfl⟩ := Option.map_eq_some_iff.mp e'
    simp [PyData.eqvAll]
  | x :: xs, [], ps, qs, h', h => by
    cases h
    obtain ⟨q, e, e'⟩ := Option.bind_eq_some_iff.mp (show Option.bind _ _ = _ from h')
    obtain ⟨qs, e'', rfl⟩ := Option.map_eq_some_iff.mp e'
    simp [PyData.eqvAll]
  | x :: xs, y :: ys, ps, qs, h, h' => by
    obtain ⟨p, e, e'⟩ := Option.bind_eq_some_iff.mp (show Option.bind _ _ = _ from h)
    obtain ⟨ps, e'', rfl⟩ := Option.map_eq_some_iff.mp e'
    obtain ⟨q, f, f'⟩ := Option.bind_eq_some_iff.mp (show Option.bind _ _ = _ from h')
    obtain ⟨qs, f'', rfl⟩ := Option.map_eq_some_iff.mp f'
    rw [PyData.eqvAll, eqBs, eqv_of x y p q e f, eqvs_of xs ys ps qs e'' f'']
end
theorem pyS_of {S : Sto} {n : Nat} {x : D} (h : okD n x = true) : pyS S x = pyD x := by
  cases x <;> first | rfl | (cases n <;> cases h)
theorem eqS_ok {n : Nat} {S : Sto} {x y : D} (hn : n ≤ 60) (h : okD n x = true) (h' : okD n y = true) : eqS S x y = some (eqB x y) := by
  obtain ⟨p, e, c, d⟩ := py_of n x h
  obtain ⟨q, e', c', d'⟩ := py_of n y h'
  unfold eqS
  rw [pyS_of h, pyS_of h', e, e']
  have s1 : SeqAt.shaped p = true := by
    unfold SeqAt.shaped
    rw [c, decide_eq_true (by omega : p.depth ≤ 64)]; rfl
  have s2 : SeqAt.shaped q = true := by
    unfold SeqAt.shaped
    rw [c', decide_eq_true (by omega : q.depth ≤ 64)]; rfl
  show (if SeqAt.shaped p && SeqAt.shaped q then some (PyData.eqv p q) else none) = _
  rw [s1, s2, eqv_of x y p q e e']
  rfl
/-- a row of draws: each element draws -/
theorem lcGo_draw {α : Type} {f : α → D} {g : DG} {te : DE} {all : List D} {we : Rf.Env} {S : Sto} {Q : α → Prop} : ∀ (ds acc : List D) (c : Cell), DrawOk c → (∀ d ∈ ds, ∀ c, DrawOk c → ∃ e2 c' i, g d we = some e2 ∧ te e2 (c :: S) = some (f i, c' :: S) ∧ DrawOk c' ∧ Q i) → ∃ (c' : Cell) (xs : List α), lcGo g tTrue te none all we ds acc (c :: S) = some (.lst (acc ++ xs.map f), c' :: S) ∧ DrawOk c' ∧ xs.length = ds.length ∧ ∀ x ∈ xs, Q x
  | [], acc, c, hc, _ => ⟨c, [], by rw [lcGo_nil]; simp, hc, rfl, by simp⟩
  | d :: ds, acc, c, hc, h => by
    obtain ⟨e2, c1, i, h1, h2, h3, h4⟩ := h d (by simp) c hc
    obtain ⟨c2, xs, k1, k2, k3, k4⟩ := lcGo_draw (f := f) (all := all) (Q := Q) ds (acc ++ [f i]) c1 h3 (fun d hd => h d (List.mem_cons_of_mem _ hd))
    refine ⟨c2, i :: xs, ?_, k2, by simp [k3], ?_⟩
    · rw [lcGo_cons, h1]
      simp only [bnd_some, mpp_some, Option.bind_some, tTrue_eq, if_true, h2, k1]
      simp
    · intro x hx
      rcases List.mem_cons.mp hx with rfl | hx
      · exact h4
      · exact k4 x hx
/-! ### lists in the store -/
theorem get_app (S R : Sto) (k : Nat) : (S ++ R)[S.length + k]? = R[k]? := by rw [List.getElem?_append_right (by omega)]; congr 1; omega
theorem get_app0 (S R : Sto) : (S ++ R)[S.length]? = R[0]? := get_app S R 0
theorem set_app (S R : Sto) (k : Nat) (x : Cell) : (S ++ R).set (S.length + k) x = S ++ R.set k x := by rw [List.set_append_right _ _ (by omega)]; congr 2; omega
theorem set_app0 (S R : Sto) (x : Cell) : (S ++ R).set S.length x = S ++ R.set 0 x := set_app S R 0 x
theorem refL_ok {S : Sto} {n : Nat} {xs : List D} (h : S[n]? = some (.lst xs)) : refL S (.ref n) = some n := by
  show (match S[n]? with | some (.lst _) => some n | _ => none) = _
  rw [h]
theorem sAppRef_eq {o t : DE} {e : Rf.Env} {S S1 S2 S3 : Sto} {n : Nat} {d : D} {xs : List D} (h1 : o e S = some (.ref n, S1)) (e1 : refL S1 (.ref n) = some n) (h2 : t e S1 = some (d, S2)) (h3 : S2[n]? = some (.lst xs)) (h4 : xs.length < sizeLine) (h5 : S2.set n (.lst (xs ++ [d])) = S3) : sAppRef o t e S = some (.nx e, S3) := by
  unfold sAppRef
  rw [h1]
  show Option.bind (refL S1 (.ref n)) _ = _
  rw [e1]
  show Option.bind (t e S1) _ = _
  rw [h2]
  show (match S2[n]? with | some (.lst xs) => if xs.length < sizeLine then some (Fl.nx e, S2.set n (.lst (xs ++ [d]))) else none | _ => none) = _
  rw [h3]
  show (if xs.length < sizeLine then some (Fl.nx e, S2.set n (.lst (xs ++ [d]))) else none) = _
  rw [if_pos h4, h5]
/-- a comprehension with a test, the store kept to a rule -/
theorem lcGo_filterP {g : DG} {tt : DT} {te : DE} {all : List D} {we : Rf.Env} {f : D → D} {c : D → Bool} {P : Sto → Prop} : ∀ (ds acc : List D) (S : Sto), P S → (∀ d ∈ ds, ∃ e2, g d we = some e2 ∧ ∀ S, P S → ∃ S1, tt e2 S = some (c d, S1) ∧ P S1 ∧ (c d = true → ∃ S2, te e2 S1 = some (f d, S2) ∧ P S2)) → ∃ S', lcGo g tt te none all we ds acc S = some (.lst (acc ++ (ds.filter c).map f), S') ∧ P S'
  | [], acc, S, hS, _ => ⟨S, by rw [lcGo_nil]; simp, hS⟩
  | d :: ds, acc, S, hS, h => by
    obtain ⟨e2, h1, h2⟩ := h d (by simp)
    obtain ⟨S1, h3, h4, h5⟩ := h2 S hS
    by_cases hc : c d = true
    · obtain ⟨S2, h6, h7⟩ := h5 hc
      obtain ⟨S', k1, k2⟩ := lcGo_filterP ds (acc ++ [f d]) S2 h7 fun d hd => h d (List.mem_cons_of_mem _ hd)
      refine ⟨S', ?_, k2⟩
      rw [lcGo_cons, h1]
      simp only [bnd_some, h3]
      rw [if_pos hc, h6]
      simp only [bnd_some]
      rw [k1, List.filter_cons_of_pos hc]
      simp
    · obtain ⟨S', k1, k2⟩ := lcGo_filterP ds acc S1 h4 fun d hd => h d (List.mem_cons_of_mem _ hd)
      refine ⟨S', ?_, k2⟩
      rw [lcGo_cons, h1]
      simp only [bnd_some, h3]
      rw [if_neg hc, k1, List.filter_cons_of_neg hc]
/-! ### the greatest and the least -/
theorem pyDs_ints : ∀ xs : List Int, pyDs (xs.map .int) = some (xs.map .int)
  | [] => rfl
  | x :: xs => by
    rw [List.map_cons]
    show (pyD (.int x)).bind (fun p => (pyDs (xs.map .int)).map fun ps => p :: ps) = _
    rw [pyDs_ints xs]
    rfl
theorem lay_ints : ∀ xs : List Int, PyData.canLayAll0 (xs.map .int) = true
  | [] => by simp [PyData.canLayAll0]
  | x :: xs => by simp [PyData.canLayAll0, PyData.canLay0, lay_ints xs]
theorem depth_ints : ∀ xs : List Int, PyData.depthAll (xs.map .int) ≤ 1
  | [] => by simp [PyData.depthAll]
  | x :: xs => by
    have := depth_ints xs
    simp only [List.map_cons, PyData.depthAll, PyData.depth]
    omega
theorem best1_ints {f : PyData → List PyData → PyData} {g : Int → Int → Int} (h : ∀ (n : Int) (ns : List Int), f (.int n) (ns.map .int) = .int (ns.foldl g n)) (n : Int) (ns : List Int) : best1 f (.int n :: ns.map .int) = some (.int (ns.foldl g n)) := by
  unfold best1
  have e : pyDs (.int n :: ns.map .int) = some (.int n :: ns.map .int) := pyDs_ints (n :: ns)
  rw [e]
  have c1 : alikeB (.int n :: ns.map .int) = true := by
    unfold alikeB
    rw [List.all_eq_true]
    intro d hd
    rw [List.all_eq_true]
    intro d' hd'
    obtain ⟨i, _, rfl⟩ := List.mem_map.mp (show d ∈ (n :: ns).map PyData.int from hd)
    obtain ⟨j, _, rfl⟩ := List.mem_map.mp (show d' ∈ (n :: ns).map PyData.int from hd')
    rfl
  have c2 : (PyData.int n :: ns.map .int).all notNoneP = true := by
    rw [List.all_eq_true]
    intro d hd
    obtain ⟨i, _, rfl⟩ := List.mem_map.mp (show d ∈ (n :: ns).map PyData.int from hd)
    rfl
  have c3 : SeqAt.shaped (.list (.int n :: ns.map .int)) = true := by
    have h1 := lay_ints (n :: ns)
    have h2 := depth_ints (n :: ns)
    unfold SeqAt.shaped
    rw [Bool.and_eq_true]
    refine ⟨?_, decide_eq_true ?_⟩
    · simpa [PyData.canLay0] using h1
    · simp only [PyData.depth]
      simp only [List.map_cons] at h2
      omega
  show (if (alikeB (.int n :: ns.map .int) && (PyData.int n :: ns.map .int).all notNoneP && SeqAt.shaped (.list (.int n :: ns.map .int))) = true then some (ofPy (f (.int n) (ns.map .int))) else none) = _
  rw [c1, c2, c3, h]
  rfl
theorem max1_lst (S : Sto) (n : Int) (ns : List Int) : maxD1 S [.lst (.int n :: ns.map .int)] = some (.int (ns.foldl max n)) := best1_ints PySem.W.maxD_ints n ns
theorem min1_lst (S : Sto) (n : Int) (ns : List Int) : minD1 S [.lst (.int n :: ns.map .int)] = some (.int (ns.foldl min n)) := best1_ints PySem.W.minD_ints n ns
theorem max1_tup (S : Sto) (n : Int) (ns : List Int) : maxD1 S [.tup (.int n :: ns.map .int)] = some (.int (ns.foldl max n)) := best1_ints PySem.W.maxD_ints n ns
theorem min1_tup (S : Sto) (n : Int) (ns : List Int) : minD1 S [.tup (.int n :: ns.map .int)] = some (.int (ns.foldl min n)) := best1_ints PySem.W.minD_ints n ns
end Lb
end
section
set_option maxHeartbeats 1000000
/-! Ld: membership in plain data. -/
namespace Lb
open PySem PySem.Spec PyProof.Rows L2 Rf
theorem any_of : ∀ (xs : List D) (qs : List PyData) (x : D) (p : PyData), pyDs xs = some qs → pyD x = some p → (qs.any fun z => PyData.eqv z p) = xs.any fun z => eqB z x
  | [], qs, x, p, h, _ => by
    cases h; rfl
  | y :: ys, qs, x, p, h, hx => by
    obtain ⟨q, e, e'⟩ := Option.bind_eq_some_iff.mp (show Option.bind _ _ = _ from h)
    obtain ⟨qs, e'', rfl⟩ := Option.map_eq_some_iff.mp e'
    rw [List.any_cons, List.any_cons, any_of ys qs x p e'' hx, eqv_of y x q p e hx]
theorem shaped_of {n : Nat} {x : D} {p : PyData} (hn : n ≤ 60) (h : okD n x = true) (e : pyD x = some p) : SeqAt.shaped p = true := by
  obtain ⟨p', e', c, d⟩ := py_of n x h
  rw [e] at e'
  cases e'
  unfold SeqAt.shaped
  rw [c, decide_eq_true (by omega : p.depth ≤ 64)]; rfl
theorem inS_lst {n : Nat} {S : Sto} {x : D} {xs : List D} (hn : n ≤ 60) (h : okD n x = true) (h' : okD n (.lst xs) = true) : inS S x (.lst xs) = some (xs.any fun z => eqB z x) := by
  obtain ⟨p, e, _, _⟩ := py_of n x h
  obtain ⟨q, e', _, _⟩ := py_of n _ h'
  obtain ⟨qs, e2, rfl⟩ := Option.map_eq_some_iff.mp (show (pyDs xs).map PyData.list = some q from e')
  have s1 := shaped_of hn h e
  have s2 := shaped_of hn h' e'
  have k : inS S x (.lst xs) = (match pyS S x, pyS S (.lst xs) with
    | some p, some (.list qs) => if SeqAt.shaped p && SeqAt.shaped (.list qs) then some (qs.any fun z => PyData.eqv z p) else none
    | some p, some (.tuple qs) => if SeqAt.shaped p && SeqAt.shaped (.tuple qs) then some (qs.any fun z => PyData.eqv z p) else none
    | _, _ => none) := by cases x <;> rfl
  rw [k, pyS_of h, pyS_of h', e, e']
  show (if SeqAt.shaped p && SeqAt.shaped (.list qs) then some (qs.any fun z => PyData.eqv z p) else none) = _
  rw [s1, s2, any_of xs qs x p e2 e]
  rfl
theorem inS_tup {n : Nat} {S : Sto} {x : D} {xs : List D} (hn : n ≤ 60) (h : okD n x = true) (h' : okD n (.tup xs) = true) : inS S x (.tup xs) = some (xs.any fun z => eqB z x) := by
  obtain ⟨p, e, _, _⟩ := py_of n x h
  obtain ⟨q, e', _, _⟩ := py_of n _ h'
  obtain ⟨qs, e2, rfl⟩ := Option.map_eq_some_iff.mp (show (pyDs xs).map PyData.tuple = some q from e')
  have s1 := shaped_of hn h e
  have s2 := shaped_of hn h' e'
  have k : inS S x (.tup xs) = (match pyS S x, pyS S (.tup xs) with
    | some p, some (.list qs) => if SeqAt.shaped p && SeqAt.shaped (.list qs) then some (qs.any fun z => PyData.eqv z p) else none
    | some p, some (.tuple qs) => if SeqAt.shaped p && SeqAt.shaped (.tuple qs) then some (qs.any fun z => PyData.eqv z p) else none
    | _, _ => none) := by cases x <;> rfl
  rw [k, pyS_of h, pyS_of h', e, e']
  show (if SeqAt.shaped p && SeqAt.shaped (.tuple qs) then some (qs.any fun z => PyData.eqv z p) else none) = _
  rw [s1, s2, any_of xs qs x p e2 e]
  rfl
theorem rngL_succ (i : Int) (k : Nat) : rngL i (k + 1) = .int i :: rngL (i + 1) k := by
  unfold rngL
  rw [List.range_succ_eq_map, List.map_cons, List.map_map]
  congr 1
  · simp
  · apply List.map_congr_left
    intro x _
    simp
    omega
theorem rngL_succ' (a k : Nat) : rngL (a : Int) (k + 1) = .int (a : Int) :: rngL ((a + 1 : Nat) : Int) k := by
  rw [rngL_succ]
  congr 2
theorem range_cons {α : Type} (f : Nat → α) (a k : Nat) : (List.range (k + 1)).map (fun j => f (a + j)) = f a :: (List.range k).map (fun j => f (a + 1 + j)) := by
  rw [List.range_succ_eq_map, List.map_cons, List.map_map]
  congr 1
  apply List.map_congr_left
  intro x _
  show f _ = f _
  congr 1
  omega
end Lb
end
section
set_option maxHeartbeats 1000000
/-! Le: equations for items that are set. -/
namespace Rf
open PySem PySem.Spec PyProof.Rows L2
@[simp] theorem sSetOwn_simp (i : Nat) (ti t : DE) (e : Env) (S : Sto) : sSetOwn i ti t e S = (t e S).bnd fun p => (ti e p.2).bnd fun q => (ownL i e).bnd fun xs => (intOf q.1).bnd fun k => (ixN xs.length k).bnd fun j => (setSl i (.own (.lst (xs.set j p.1))) e).mpp fun e' => (.nx e', q.2) := by
  unfold sSetOwn
  show Option.bind _ _ = Option.bind _ _
  congr 1
  funext p
  show Option.bind _ _ = Option.bind _ _
  congr 1
  funext q
  rw [ownL_of]
  obtain ⟨d, S2⟩ := q
  show (match e[i]?, d with
    | some (.own (.lst xs)), .int k => (ixN xs.length k).map fun j => (Fl.nx (e.set i (.own (.lst (xs.set j p.1)))), S2)
    | _, _ => none) = Option.bind _ _
  cases h : e[i]? with
  | none => rfl
  | some s =>
    have hi : i < e.length := (List.getElem?_eq_some_iff.mp h).1
    cases s with
    | no => rfl
    | val _ => rfl
    | own c =>
      cases c with
      | lst xs =>
        cases d with
        | int k =>
          show Option.map _ (ixN xs.length k) = Option.bind (ixN xs.length k) _
          cases ixN xs.length k with
          | none => rfl
          | some j =>
            show some _ = (setSl i _ e).mpp _
            rw [setSl_eq, if_pos hi]
            rfl
        | _ => rfl
      | _ => rfl
end Rf
end
section
set_option maxHeartbeats 1000000
/-! Lg: loops and comprehensions over coded lists; sameness with a list in the store. -/
namespace Lb
open PySem PySem.Spec PyProof.Rows L2 Rf
/-- a comprehension over a coded list -/
theorem lcGo_mapE {α : Type} {enc f : α → D} {g : DG} {te : DE} {all : List D} {we : Rf.Env} {S : Sto} : ∀ (xs : List α) (acc : List D), (∀ a ∈ xs, ∃ e2, g (enc a) we = some e2 ∧ te e2 S = some (f a, S)) → lcGo g tTrue te none all we (xs.map enc) acc S = some (.lst (acc ++ xs.map f), S)
  | [], acc, _ => by rw [List.map_nil, lcGo_nil]; simp
  | d :: ds, acc, h => by
    obtain ⟨e2, h1, h2⟩ := h d (by simp)
    rw [List.map_cons, lcGo_cons, h1]
    simp only [bnd_some, mpp_some, Option.bind_some, tTrue_eq, if_true, h2]
    rw [lcGo_mapE ds _ fun d hd => h d (List.mem_cons_of_mem _ hd)]
    simp
theorem lcGo_mapE0 {α : Type} {enc : α → D} (f : α → D) {g : DG} {te : DE} {all : List D} {we : Rf.Env} {S : Sto} (xs : List α) (h : ∀ a ∈ xs, ∃ e2, g (enc a) we = some e2 ∧ te e2 S = some (f a, S)) : lcGo g tTrue te none all we (xs.map enc) [] S = some (.lst (xs.map f), S) := by
  rw [lcGo_mapE (f := f) xs [] h]
  rfl
/-- .. with a test -/
theorem lcGo_filterE {α : Type} {enc f : α → D} {c : α → Bool} {g : DG} {tt : DT} {te : DE} {all : List D} {we : Rf.Env} {S : Sto} : ∀ (xs : List α) (acc : List D), (∀ a ∈ xs, ∃ e2, g (enc a) we = some e2 ∧ tt e2 S = some (c a, S) ∧ (c a = true → te e2 S = some (f a, S))) → lcGo g tt te none all we (xs.map enc) acc S = some (.lst (acc ++ (xs.filter c).map f), S)
  | [], acc, _ => by rw [List.map_nil, lcGo_nil]; simp
  | d :: ds, acc, h => by
    obtain ⟨e2, h1, h2, h3⟩ := h d (by simp)
    rw [List.map_cons, lcGo_cons, h1]
    simp only [bnd_some, mpp_some, Option.bind_some, h2]
    by_cases hc : c d = true
    · rw [if_pos hc, h3 hc]
      simp only [bnd_some, mpp_some, Option.bind_some]
      rw [lcGo_filterE ds _ fun d hd => h d (List.mem_cons_of_mem _ hd), List.filter_cons_of_pos hc]
      simp
    · rw [if_neg hc, lcGo_filterE ds _ fun d hd => h d (List.mem_cons_of_mem _ hd), List.filter_cons_of_neg hc]
theorem lcGo_filterE0 {α : Type} {enc : α → D} (f : α → D) (c : α → Bool) {g : DG} {tt : DT} {te : DE} {all : List D} {we : Rf.Env} {S : Sto} (xs : List α) (h : ∀ a ∈ xs, ∃ e2, g (enc a) we = some e2 ∧ tt e2 S = some (c a, S) ∧ (c a = true → te e2 S = some (f a, S))) : lcGo g tt te none all we (xs.map enc) [] S = some (.lst ((xs.filter c).map f), S) := by
  rw [lcGo_filterE (f := f) (c := c) xs [] h]
  rfl
/-- the same, the element reckoned by one bind -/
theorem lcGo_mapB {α : Type} {enc : α → D} (f : α → D) {g : DG} {te : DE} {all : List D} {we : Rf.Env} {S : Sto} {xs : List α} (h : ∀ a ∈ xs, ((g (enc a) we).bnd fun e2 => te e2 S) = some (f a, S)) : lcGo g tTrue te none all we (xs.map enc) [] S = some (.lst (xs.map f), S) :=
  lcGo_mapE0 f xs fun a ha => by
    have h1 := h a ha
    cases hg : g (enc a) we with
    | none => rw [hg] at h1; cases h1
    | some e2 => rw [hg] at h1; exact ⟨e2, rfl, h1⟩
theorem lcGo_filterB {α : Type} {enc : α → D} (f : α → D) (c : α → Bool) {g : DG} {tt : DT} {te : DE} {all : List D} {we : Rf.Env} {S : Sto} {xs : List α} (h : ∀ a ∈ xs, ((g (enc a) we).bnd fun e2 => tt e2 S) = some (c a, S)) (h' : ∀ a ∈ xs, c a = true → ((g (enc a) we).bnd fun e2 => te e2 S) = some (f a, S)) : lcGo g tt te none all we (xs.map enc) [] S = some (.lst ((xs.filter c).map f), S) :=
  lcGo_filterE0 f c xs fun a ha => by
    have h1 := h a ha
    have h2 := h' a ha
    cases hg : g (enc a) we with
    | none => rw [hg] at h1; cases h1
    | some e2 => rw [hg] at h1 h2; exact ⟨e2, rfl, h1, h2⟩
/-- a loop over a coded list: a fold -/
theorem forGo_fold {α β γ : Type} {enc : α → D} {g : DG} {tb : DS} {all : List D} {st : β → γ → Rf.Env} {sto : β → Sto} {f : β → α → β} {inv : β → List α → Prop}
    (h : ∀ b a xs y, inv b (a :: xs) → inv (f b a) xs ∧ ∃ e1 z, g (enc a) (st b y) = some e1 ∧ (tb e1 (sto b) = some (.nx (st (f b a) z), sto (f b a)) ∨ tb e1 (sto b) = some (.ct (st (f b a) z), sto (f b a)))) :
    ∀ (xs : List α) (b : β) (y : γ), inv b xs → ∃ z, forGo g tb none all (xs.map enc) (st b y) (sto b) = some (.nx (st (xs.foldl f b) z), sto (xs.foldl f b))
  | [], b, y, _ => ⟨y, by rw [List.map_nil, forGo_nil]; rfl⟩
  | a :: xs, b, y, hi => by
    obtain ⟨h1, e1, z, h2, h3⟩ := h b a xs y hi
    obtain ⟨w, ih⟩ := forGo_fold h xs (f b a) z h1
    refine ⟨w, ?_⟩
    rw [List.map_cons, forGo_cons, h2, List.foldl_cons]
    rcases h3 with h3 | h3 <;> simp only [bnd_some, h3, turnS_nx, turnS_ct] <;> exact ih
/-- a loop that may return -/
def foldR {α β : Type} (f : β → α → β ⊕ D) : β → List α → β ⊕ D
  | b, [] => .inl b
  | b, a :: xs => match f b a with
    | .inl b' => foldR f b' xs
    | .inr d => .inr d
theorem forGo_foldR {α β γ : Type} {enc : α → D} {g : DG} {tb : DS} {all : List D} {st : β → γ → Rf.Env} {sto : β → Sto} {so : D → Sto} {f : β → α → β ⊕ D} {inv : β → List α → Prop}
    (h : ∀ b a xs y, inv b (a :: xs) → ∃ e1 z, g (enc a) (st b y) = some e1 ∧ match f b a with
      | .inl b' => inv b' xs ∧ (tb e1 (sto b) = some (.nx (st b' z), sto b') ∨ tb e1 (sto b) = some (.ct (st b' z), sto b'))
      | .inr d => tb e1 (sto b) = some (.rt d, so d)) :
    ∀ (xs : List α) (b : β) (y : γ), inv b xs → ∃ z, forGo g tb none all (xs.map enc) (st b y) (sto b) = match foldR f b xs with
      | .inl b' => some (.nx (st b' z), sto b')
      | .inr d => some (.rt d, so d)
  | [], b, y, _ => ⟨y, by rw [List.map_nil, forGo_nil]; rfl⟩
  | a :: xs, b, y, hi => by
    obtain ⟨e1, z, h2, h3⟩ := h b a xs y hi
    rw [List.map_cons, forGo_cons, h2]
    have e : foldR f b (a :: xs) = match f b a with
      | .inl b' => foldR f b' xs
      | .inr d => .inr d := rfl
    rw [e]
    cases hf : f b a with
    | inl b' =>
      rw [hf] at h3
      simp only [] at h3 ⊢
      obtain ⟨h1, h3⟩ := h3
      obtain ⟨w, ih⟩ := forGo_foldR h xs b' z h1
      refine ⟨w, ?_⟩
      rcases h3 with h3 | h3 <;> simp only [bnd_some, h3, turnS_nx, turnS_ct] <;> exact ih
    | inr d =>
      rw [hf] at h3
      exact ⟨z, by simp only [bnd_some, h3, turnS_rt]⟩
/-- a loop whose store changes as it may -/
theorem forGo_inv {g : DG} {tb : DS} {all : List D} {I : List D → Rf.Env → Sto → Prop}
    (h : ∀ d ds e S, I (d :: ds) e S → ∃ e1 e2 S2, g d e = some e1 ∧ (tb e1 S = some (.nx e2, S2) ∨ tb e1 S = some (.ct e2, S2)) ∧ I ds e2 S2) :
    ∀ (ds : List D) (e : Rf.Env) (S : Sto), I ds e S → ∃ e2 S2, forGo g tb none all ds e S = some (.nx e2, S2) ∧ I [] e2 S2
  | [], e, S, hi => ⟨e, S, by rw [forGo_nil], hi⟩
  | d :: ds, e, S, hi => by
    obtain ⟨e1, e2, S2, h1, h2, h3⟩ := h d ds e S hi
    obtain ⟨e3, S3, h4, h5⟩ := forGo_inv h ds e2 S2 h3
    refine ⟨e3, S3, ?_, h5⟩
    rw [forGo_cons, h1]
    rcases h2 with h2 | h2 <;> simp only [bnd_some, h2, turnS_nx, turnS_ct] <;> exact h4
/-- natural numbers, coded -/
def nD (n : Nat) : D := .int (n : Int)
theorem rngL_nD (n : Nat) : rngL 0 n = (List.range n).map nD := by
  unfold rngL nD
  apply List.map_congr_left
  intro x _
  congr 1
  omega
theorem rngL_nDa (a n : Nat) : rngL (a : Int) n = ((List.range n).map (a + ·)).map nD := by
  unfold rngL nD
  rw [List.map_map]
  apply List.map_congr_left
  intro x _
  show D.int _ = D.int _
  congr 1
theorem rgA_nD {n : Nat} (h : n ≤ 1000000) : rgA [.int (n : Int)] = some ((List.range n).map nD) := by
  rw [rgA_len h, rngL_nD]
theorem rgB_nD {a b : Nat} (ha : a ≤ 1000000) (hb : b ≤ 1000000) : rgB [.int (a : Int), .int (b : Int)] = some (((List.range (b - a)).map (a + ·)).map nD) := by
  rw [rgB_ok (by omega) (by omega) (by omega) (by omega) (by omega), ← rngL_nDa]
  congr 2
  omega
theorem at_nD {xs : List Nat} {i : Nat} : atI (xs.map nD) (i : Int) = (xs[i]?).map nD := by
  rw [atI_map, atI_nn (by omega), Int.toNat_natCast]
theorem at_I {xs : List Int} {i : Nat} : atI (xs.map D.int) (i : Int) = (xs[i]?).map D.int := by
  rw [atI_map, atI_nn (by omega), Int.toNat_natCast]
theorem at_E {α : Type} {f : α → D} {xs : List α} {i : Nat} : atI (xs.map f) (i : Int) = (xs[i]?).map f := by
  rw [atI_map, atI_nn (by omega), Int.toNat_natCast]
theorem at_Eg {α : Type} {f : α → D} {xs : List α} {i : Nat} (h : i < xs.length) : atI (xs.map f) (i : Int) = some (f xs[i]) := by
  rw [at_E, List.getElem?_eq_getElem h]; rfl
/-! ### the store's lists -/
theorem truD_ref {S : Sto} {n : Nat} {xs : List D} (h : S[n]? = some (.lst xs)) : truD S (.ref n) = some (!xs.isEmpty) := by
  show (match seqD S (.ref n) with | some (_, xs) => some (!xs.isEmpty) | none => none) = _
  rw [seqD_ref h]
theorem lenD_ref {S : Sto} {n : Nat} {xs : List D} (h : S[n]? = some (.lst xs)) : lenD S [.ref n] = some (.int xs.length) := by
  show (match seqD S (.ref n) with | some (_, xs) => some (D.int xs.length) | none => none) = _
  rw [seqD_ref h]
theorem typeD_ref {S : Sto} {n : Nat} {xs : List D} (h : S[n]? = some (.lst xs)) : typeD S (.ref n) = some "list" := by
  show (match seqD S (.ref n) with | some (true, _) => some "tuple" | some (false, _) => some "list" | none => none) = _
  rw [seqD_ref h]
theorem itemsD_ref {S : Sto} {n : Nat} {xs : List D} (h : S[n]? = some (.lst xs)) : itemsD S (.ref n) = some xs := by
  show (seqD S (.ref n)).map (·.2) = _
  rw [seqD_ref h]
  rfl
theorem sSetRef_eq {o ti t : DE} {e : Rf.Env} {S S1 S2 S3 : Sto} {n j : Nat} {k : Int} {d : D} {xs : List D} (h1 : t e S = some (d, S1)) (h2 : o e S1 = some (.ref n, S2)) (h3 : ti e S2 = some (.int k, S3)) (h4 : S3[n]? = some (.lst xs)) (h5 : ixN xs.length k = some j) : sSetRef o ti t e S = some (.nx e, S3.set n (.lst (xs.set j d))) := by
  unfold sSetRef
  rw [h1]
  show Option.bind (o e S1) _ = _
  rw [h2]
  show Option.bind (ti e S2) _ = _
  rw [h3]
  show (match S3[n]? with
    | some (.lst xs) => (ixN xs.length k).map fun j => (Fl.nx e, S3.set n (.lst (xs.set j d)))
    | _ => none) = _
  rw [h4]
  show (ixN xs.length k).map _ = _
  rw [h5]
  rfl
def lstAt (S : Sto) (n : Nat) : Option (List D) := match S[n]? with
  | some (.lst xs) => some xs
  | _ => none
theorem sAppRef_simp (o t : DE) (e : Rf.Env) (S : Sto) : sAppRef o t e S = (o e S).bnd fun q => (refL q.2 q.1).bnd fun n => (t e q.2).bnd fun p => (lstAt p.2 n).bnd fun xs => if xs.length < sizeLine then some (.nx e, p.2.set n (.lst (xs ++ [p.1]))) else none := by
  unfold sAppRef
  show Option.bind _ _ = Option.bind _ _
  congr 1
  funext q
  show Option.bind _ _ = Option.bind _ _
  congr 1
  funext n
  show Option.bind _ _ = Option.bind _ _
  congr 1
  funext p
  unfold lstAt
  cases h : p.2[n]? with
  | none => rfl
  | some c => cases c <;> rfl
def refOf : D → Option Nat
  | .ref n => some n
  | _ => none
@[simp] theorem refOf_ref (n : Nat) : refOf (.ref n) = some n := (rfl)
theorem sSetRef_simp (o ti t : DE) (e : Rf.Env) (S : Sto) : sSetRef o ti t e S = (t e S).bnd fun p => (o e p.2).bnd fun r => (ti e r.2).bnd fun q => (refOf r.1).bnd fun n => (intOf q.1).bnd fun k => (lstAt q.2 n).bnd fun xs => (ixN xs.length k).mpp fun j => (.nx e, q.2.set n (.lst (xs.set j p.1))) := by
  unfold sSetRef
  show Option.bind _ _ = Option.bind _ _
  congr 1
  funext p
  show Option.bind _ _ = Option.bind _ _
  congr 1
  funext r
  show Option.bind _ _ = Option.bind _ _
  congr 1
  funext q
  obtain ⟨d, S1⟩ := r
  obtain ⟨d2, S2⟩ := q
  cases d <;> (try rfl)
  cases d2 <;> (try rfl)
  rename_i n k
  simp only [refOf_ref, bnd_some, intOf_int]
  unfold lstAt
  cases h : S2[n]? with
  | none => rfl
  | some c => cases c <;> rfl
/-! what stands at the store's end -/
section
variable (T : Sto) (xs : List D) (c : Cell)
theorem end_get : (T ++ [Cell.lst xs])[T.length]? = some (.lst xs) := by rw [List.getElem?_append_right (by omega)]; simp
@[simp] theorem end_refL : refL (T ++ [Cell.lst xs]) (.ref T.length) = some T.length := refL_ok (end_get T xs)
@[simp] theorem end_lstAt : lstAt (T ++ [Cell.lst xs]) T.length = some xs := by unfold lstAt; rw [end_get]
@[simp] theorem end_tru : truD (T ++ [Cell.lst xs]) (.ref T.length) = some (!xs.isEmpty) := truD_ref (end_get T xs)
@[simp] theorem end_len : lenD (T ++ [Cell.lst xs]) [.ref T.length] = some (.int xs.length) := lenD_ref (end_get T xs)
@[simp] theorem end_ix (i : Int) : ixD (T ++ [Cell.lst xs]) (.ref T.length) (.int i) = atI xs i := ixD_ref (end_get T xs)
@[simp] theorem end_items : itemsD (T ++ [Cell.lst xs]) (.ref T.length) = some xs := itemsD_ref (end_get T xs)
@[simp] theorem end_set : (T ++ [Cell.lst xs]).set T.length c = T ++ [c] := by
  rw [List.set_append_right _ _ (by omega)]; simp
end
/-! ### sameness with a list in the store -/
theorem same_elts {n : Nat} {xs : List D} {S : Sto} {a b : D} (ha : ∀ i : Int, ixD S a (.int i) = atI xs i) (hb : ∀ i : Int, ixD S b (.int i) = atI xs i) (ih : ∀ d ∈ xs, r__law_same n [d, d] S = some (.bl true, S)) :
    lcGo (gNm 2) tTrue (dCall (r__law_same n) (aCons (dIx (dVar 0) (dVar 2)) (aCons (dIx (dVar 1) (dVar 2)) aNil))) none (rngL 0 xs.length) [.val a, .val b, .no] (rngL 0 xs.length) [] S = some (.lst ((rngL 0 xs.length).map fun _ => .bl true), S) := by
  rw [lcGo_map (f := fun _ => .bl true)]
  · rfl
  · intro d hd
    unfold rngL at hd
    obtain ⟨i, hi, rfl⟩ := List.mem_map.mp hd
    have hi : i < xs.length := by simpa using hi
    refine ⟨[.val a, .val b, .val (.int (0 + (i : Int)))], rfl, ?_⟩
    have e : atI xs (i : Int) = some xs[i] := by
      rw [atI_nn (by omega)]
      simp [hi]
    simp [ha, hb, e, ih xs[i] (List.getElem_mem hi)]
theorem same_lstref {n k : Nat} {xs : List D} {S : Sto} (hl : xs.length ≤ 1000000) (hS : S[k]? = some (.lst xs)) (ih : ∀ d ∈ xs, r__law_same n [d, d] S = some (.bl true, S)) : r__law_same (n + 1) [.lst xs, .ref k] S = some (.bl true, S) := by
  have hgo := same_elts (a := .lst xs) (b := .ref k) (fun i => ixD_lst S xs i) (fun i => ixD_ref hS) ih
  have hr := rgA_len hl
  have t1 := typeD_ref hS
  have t2 := lenD_ref hS
  show runF 3 2 (t__law_same (r__law_same n)) [.lst xs, .ref k] S = _
  rw [runF2]
  generalize r__law_same n = self at *
  simp [t__law_same, hr, hgo, all_map_true, t1, t2]
theorem same_reflst {n k : Nat} {xs : List D} {S : Sto} (hl : xs.length ≤ 1000000) (hS : S[k]? = some (.lst xs)) (ih : ∀ d ∈ xs, r__law_same n [d, d] S = some (.bl true, S)) : r__law_same (n + 1) [.ref k, .lst xs] S = some (.bl true, S) := by
  have hgo := same_elts (a := .ref k) (b := .lst xs) (fun i => ixD_ref hS) (fun i => ixD_lst S xs i) ih
  have hr := rgA_len hl
  have t1 := typeD_ref hS
  have t2 := lenD_ref hS
  show runF 3 2 (t__law_same (r__law_same n)) [.ref k, .lst xs] S = _
  rw [runF2]
  generalize r__law_same n = self at *
  simp [t__law_same, hr, hgo, all_map_true, t1, t2]
theorem okD_mono : ∀ (n : Nat) (d : D), okD n d = true → okD (n + 1) d = true := by
  intro n
  induction n with
  | zero =>
    intro d h
    cases d <;> first | exact h | cases h
  | succ n ih =>
    intro d h
    cases d with
    | tup xs =>
      rw [okD_tup, Bool.and_eq_true, List.all_eq_true] at h ⊢
      exact ⟨h.1, fun d hd => ih d (h.2 d hd)⟩
    | lst xs =>
      rw [okD_lst, Bool.and_eq_true, List.all_eq_true] at h ⊢
      exact ⟨h.1, fun d hd => ih d (h.2 d hd)⟩
    | _ => first | exact h | cases h
theorem same_ok_lstref {k : Nat} {xs : List D} {S : Sto} (hl : xs.length ≤ 1000000) (hS : S[k]? = some (.lst xs)) (ok : ∀ d ∈ xs, okD 10 d = true) : f__law_same [.lst xs, .ref k] S = some (.bl true, S) :=
  same_lstref hl hS fun d hd => same_refl 10 d S (ok d hd)
theorem same_ok_reflst {k : Nat} {xs : List D} {S : Sto} (hl : xs.length ≤ 1000000) (hS : S[k]? = some (.lst xs)) (ok : ∀ d ∈ xs, okD 10 d = true) : f__law_same [.ref k, .lst xs] S = some (.bl true, S) :=
  same_reflst hl hS fun d hd => same_refl 10 d S (ok d hd)
end Lb
end
section
set_option maxHeartbeats 1000000
/-! Lh: loops that look for something; the least of rows; numbered rows. -/
namespace Lb
open PySem PySem.Spec PyProof.Rows L2 Rf
/-- what a loop that looks for something tells -/
def lookR (q : Option (Fl × Sto)) (S : Sto) : Option D → Option (Fl × Sto)
  | none => q
  | some d => some (.rt d, S)
@[simp] theorem lookR_none (q : Option (Fl × Sto)) (S : Sto) : lookR q S none = q := (rfl)
@[simp] theorem lookR_some (q : Option (Fl × Sto)) (S : Sto) (d : D) : lookR q S (some d) = some (.rt d, S) := (rfl)
def lookM {β : Type} (q : β → Option (Fl × Sto)) (d0 : D) (S : Sto) : Option β → Option (Fl × Sto)
  | none => some (.rt d0, S)
  | some b => q b
@[simp] theorem lookM_none {β : Type} (q : β → Option (Fl × Sto)) (d0 : D) (S : Sto) : lookM q d0 S none = some (.rt d0, S) := (rfl)
@[simp] theorem lookM_some {β : Type} (q : β → Option (Fl × Sto)) (d0 : D) (S : Sto) (b : β) : lookM q d0 S (some b) = q b := (rfl)
/-- a loop that returns at the first find -/
theorem forGo_some {α γ : Type} {enc : α → D} {g : DG} {tb : DS} {all : List D} {st : γ → Rf.Env} {S : Sto} {r : α → Option D} :
    ∀ (xs : List α) (y : γ), (∀ a ∈ xs, ∀ y, ∃ e1 z, g (enc a) (st y) = some e1 ∧ ((r a = none ∧ (tb e1 S = some (.nx (st z), S) ∨ tb e1 S = some (.ct (st z), S))) ∨ ∃ d, r a = some d ∧ tb e1 S = some (.rt d, S))) →
    ∃ z, forGo g tb none all (xs.map enc) (st y) S = lookR (some (.nx (st z), S)) S (xs.findSome? r)
  | [], y, _ => ⟨y, by rw [List.map_nil, forGo_nil]; rfl⟩
  | a :: xs, y, h => by
    obtain ⟨e1, z, h1, h2⟩ := h a (by simp) y
    rw [List.map_cons, forGo_cons, h1, List.findSome?_cons]
    rcases h2 with ⟨hr, h2⟩ | ⟨d, hr, h2⟩
    · obtain ⟨w, ih⟩ := forGo_some xs z fun b hb => h b (List.mem_cons_of_mem _ hb)
      refine ⟨w, ?_⟩
      rw [hr]
      rcases h2 with h2 | h2 <;> simp only [bnd_some, h2, turnS_nx, turnS_ct] <;> exact ih
    · refine ⟨z, ?_⟩
      rw [hr]
      simp only [bnd_some, h2, turnS_rt, lookR_some]
/-- a loop that folds and may return one thing -/
theorem forGo_foldM {α β γ : Type} {enc : α → D} {g : DG} {tb : DS} {all : List D} {st : β → γ → Rf.Env} {S : Sto} {f : β → α → Option β} {d0 : D} :
    ∀ (xs : List α) (b : β) (y : γ), (∀ b, ∀ a ∈ xs, ∀ y, ∃ e1 z, g (enc a) (st b y) = some e1 ∧ match f b a with
      | some b' => tb e1 S = some (.nx (st b' z), S) ∨ tb e1 S = some (.ct (st b' z), S)
      | none => tb e1 S = some (.rt d0, S)) →
    ∃ z, forGo g tb none all (xs.map enc) (st b y) S = lookM (fun b' => some (.nx (st b' z), S)) d0 S (xs.foldlM f b)
  | [], b, y, _ => ⟨y, by rw [List.map_nil, forGo_nil]; rfl⟩
  | a :: xs, b, y, h => by
    obtain ⟨e1, z, h2, h3⟩ := h b a (by simp) y
    rw [List.map_cons, forGo_cons, h2, List.foldlM_cons]
    cases hf : f b a with
    | some b' =>
      rw [hf] at h3
      obtain ⟨w, ih⟩ := forGo_foldM xs b' z fun b a ha => h b a (List.mem_cons_of_mem _ ha)
      refine ⟨w, ?_⟩
      rcases h3 with h3 | h3 <;> simp only [bnd_some, h3, turnS_nx, turnS_ct] <;> exact ih
    | none =>
      rw [hf] at h3
      exact ⟨z, by simp only [bnd_some, h3, turnS_rt]; rfl⟩
/-- what a monadic fold of bounds tells -/
theorem foldM_le {α : Type} {f : Int → α → Option Int} {s : Int} {ok : α → Prop} : ∀ (xs : List α) (b : Int), (∀ b, ∀ a ∈ xs, ((match f b a with | none => False | some b' => b' ≤ s) ↔ b ≤ s ∧ ok a)) → ((match xs.foldlM f b with | none => False | some b' => b' ≤ s) ↔ b ≤ s ∧ ∀ a ∈ xs, ok a)
  | [], b, _ => by simp [List.foldlM]
  | a :: xs, b, h => by
    have h0 := h b a (by simp)
    rw [List.foldlM_cons]
    cases hf : f b a with
    | none =>
      rw [hf] at h0
      simp at h0 ⊢
      exact fun q r => absurd r (h0 q)
    | some b' =>
      rw [hf] at h0
      have ih := foldM_le xs b' fun b a ha => h b a (List.mem_cons_of_mem _ ha)
      show (match xs.foldlM f b' with | none => False | some b' => b' ≤ s) ↔ _
      rw [ih]
      simp only [List.mem_cons, forall_eq_or_imp]
      simp only [] at h0
      rw [h0]
      constructor
      · rintro ⟨⟨h1, h2⟩, h3⟩
        exact ⟨h1, h2, h3⟩
      · rintro ⟨h1, h2, h3⟩
        exact ⟨⟨h1, h2⟩, h3⟩
/-! ### a loop over a shared list -/
theorem forGo_nilG {g : DG} {tb : DS} {gd : Gd} {all : List D} {e : Rf.Env} {S : Sto} (hg : gok gd all S) : forGo g tb gd all [] e S = some (.nx e, S) := by rw [forGo, if_pos hg]
theorem forGo_consG {g : DG} {tb : DS} {gd : Gd} {all ds : List D} {d : D} {e : Rf.Env} {S : Sto} (hg : gok gd all S) : forGo g tb gd all (d :: ds) e S = (g d e).bnd fun e1 => (tb e1 S).bnd (turnS (forGo g tb gd all ds)) := by
  rw [forGo, if_pos hg]
  rfl
theorem gok_ref {n : Nat} {xs : List D} {S : Sto} (h : S[n]? = some (.lst xs)) : gok (some n) xs S := h
theorem forGo_invG {g : DG} {tb : DS} {gd : Gd} {all : List D} {I : List D → Rf.Env → Sto → Prop} (hg : ∀ ds e S, I ds e S → gok gd all S)
    (h : ∀ d ds e S, I (d :: ds) e S → ∃ e1 e2 S2, g d e = some e1 ∧ (tb e1 S = some (.nx e2, S2) ∨ tb e1 S = some (.ct e2, S2)) ∧ I ds e2 S2) :
    ∀ (ds : List D) (e : Rf.Env) (S : Sto), I ds e S → ∃ e2 S2, forGo g tb gd all ds e S = some (.nx e2, S2) ∧ I [] e2 S2
  | [], e, S, hi => ⟨e, S, by rw [forGo_nilG (hg _ _ _ hi)], hi⟩
  | d :: ds, e, S, hi => by
    obtain ⟨e1, e2, S2, h1, h2, h3⟩ := h d ds e S hi
    obtain ⟨e3, S3, h4, h5⟩ := forGo_invG hg h ds e2 S2 h3
    refine ⟨e3, S3, ?_, h5⟩
    rw [forGo_consG (hg _ _ _ hi), h1]
    rcases h2 with h2 | h2 <;> simp only [bnd_some, h2, turnS_nx, turnS_ct] <;> exact h4
/-! ### numbered rows -/
def numd {α : Type} (enc : α → D) (q : Nat × α) : D := .par [.int (q.1 : Int), enc q.2]
def num {α : Type} (xs : List α) : List (Nat × α) := (List.range xs.length).zip xs
theorem nums_map {α : Type} (enc : α → D) (xs : List α) : nums (xs.map enc) = (num xs).map (numd enc) := by
  unfold nums num Rf.pairs rngL
  rw [List.length_map, List.zipWith_map, List.zip, List.map_zipWith]
  congr 1
  funext i x
  simp [numd]
theorem num_mem {α : Type} {xs : List α} {q : Nat × α} (h : q ∈ num xs) : ∃ h : q.1 < xs.length, q.2 = xs[q.1] := by
  obtain ⟨k, hk, e⟩ := List.mem_iff_getElem.mp h
  unfold num at hk e
  rw [List.getElem_zip] at e
  subst e
  simp at hk ⊢
  exact hk
theorem num_range {α β : Type} (xs : List α) (f : Nat → β) : (num xs).map (fun q => f q.1) = (List.range xs.length).map f := by
  unfold num
  have e : (fun q : Nat × α => f q.1) = f ∘ Prod.fst := rfl
  rw [e, ← List.map_map, List.map_fst_zip (by simp)]
/-! ### the least of rows -/
def ltB (x y : D) : Bool := PySem.W.dataLt (Rf.encD x) (Rf.encD y)
def alkB (x y : D) : Bool := PySem.W.alike (Rf.encD x) (Rf.encD y)
def nnB (x : D) : Bool := notNoneP (Rf.encD x)
theorem encD_of {x : D} {p : PyData} (h : pyD x = some p) : Rf.encD x = p := by unfold Rf.encD; rw [h]; rfl
theorem pyDs_ok : ∀ {xs : List D}, (∀ d ∈ xs, okD 20 d = true) → pyDs xs = some (xs.map Rf.encD)
  | [], _ => rfl
  | x :: xs, h => by
    obtain ⟨p, e, _, _⟩ := py_of 20 x (h x (by simp))
    show (pyD x).bind (fun p => (pyDs xs).map fun ps => p :: ps) = _
    rw [pyDs_ok fun d hd => h d (List.mem_cons_of_mem _ hd), e, List.map_cons, encD_of e]
    rfl
theorem ofPy_enc {x : D} (h : okD 20 x = true) : ofPy (Rf.encD x) = x := by
  obtain ⟨p, e, _, _⟩ := py_of 20 x h
  rw [encD_of e]
  exact ofPy_pyD e
theorem lay_all : ∀ {ps : List PyData}, (∀ p ∈ ps, p.canLay0 = true ∧ p.depth ≤ 21) → PyData.canLayAll0 ps = true ∧ PyData.depthAll ps ≤ 21
  | [], _ => ⟨by simp [PyData.canLayAll0], by simp [PyData.depthAll]⟩
  | p :: ps, h => by
    have h1 := h p (by simp)
    have h2 := lay_all fun q hq => h q (List.mem_cons_of_mem _ hq)
    refine ⟨by simp [PyData.canLayAll0, h1.1, h2.1], ?_⟩
    simp only [PyData.depthAll]
    omega
theorem best_one {f : PyData → PyData → Bool} {m : PyData} : ∀ (ps : List PyData) (p : PyData), (p = m ∨ m ∈ ps) → (∀ q ∈ p :: ps, q = m ∨ (f m q = true ∧ f q m = false)) → ps.foldl (fun a y => if f y a then y else a) p = m
  | [], p, h, _ => by
    rcases h with h | h
    · exact h
    · cases h
  | q :: ps, p, h, hl => by
    rw [List.foldl_cons]
    apply best_one ps
    · rcases h with rfl | h
      · rcases hl q (by simp) with rfl | ⟨h1, h2⟩
        · left
          split <;> rfl
        · left
          rw [h2]
          rfl
      · rcases List.mem_cons.mp h with rfl | h
        · left
          rcases hl p (by simp) with rfl | ⟨h1, h2⟩
          · split <;> rfl
          · rw [h1]
            rfl
        · right
          exact h
    · intro r hr
      rcases List.mem_cons.mp hr with rfl | hr
      · split
        · exact hl q (by simp)
        · exact hl p (by simp)
      · exact hl r (by simp [hr])
theorem best1_of {f : PyData → PyData → Bool} {xs : List D} {m : D} (ok : ∀ d ∈ xs, okD 20 d = true) (al : ∀ d ∈ xs, ∀ e ∈ xs, alkB d e = true) (nn : ∀ d ∈ xs, nnB d = true) (hm : m ∈ xs) (hl : ∀ d ∈ xs, d = m ∨ (f (Rf.encD m) (Rf.encD d) = true ∧ f (Rf.encD d) (Rf.encD m) = false)) : best1 (fun x xs => xs.foldl (fun a y => if f y a then y else a) x) xs = some m := by
  cases xs with
  | nil => cases hm
  | cons x xs =>
    unfold best1
    rw [pyDs_ok ok]
    simp only [List.map_cons]
    have e0 : Rf.encD x :: xs.map Rf.encD = (x :: xs).map Rf.encD := rfl
    have c1 : alikeB (Rf.encD x :: xs.map Rf.encD) = true := by
      rw [e0]
      unfold alikeB
      rw [List.all_eq_true]
      intro d hd
      rw [List.all_eq_true]
      intro e he
      obtain ⟨d', hd', rfl⟩ := List.mem_map.mp hd
      obtain ⟨e', he', rfl⟩ := List.mem_map.mp he
      exact al d' hd' e' he'
    have c2 : (Rf.encD x :: xs.map Rf.encD).all notNoneP = true := by
      rw [e0, List.all_eq_true]
      intro d hd
      obtain ⟨d', hd', rfl⟩ := List.mem_map.mp hd
      exact nn d' hd'
    have c3 : SeqAt.shaped (.list (Rf.encD x :: xs.map Rf.encD)) = true := by
      rw [e0]
      obtain ⟨h1, h2⟩ := lay_all (ps := (x :: xs).map Rf.encD) fun p hp => by
        obtain ⟨d, hd, rfl⟩ := List.mem_map.mp hp
        obtain ⟨p, e, k1, k2⟩ := py_of 20 d (ok d hd)
        rw [encD_of e]
        exact ⟨k1, k2⟩
      unfold SeqAt.shaped
      rw [Bool.and_eq_true]
      refine ⟨by simpa [PyData.canLay0] using h1, decide_eq_true ?_⟩
      simp only [PyData.depth]
      omega
    rw [c1, c2, c3]
    have e : (xs.map Rf.encD).foldl (fun a y => if f y a then y else a) (Rf.encD x) = Rf.encD m := by
      apply best_one
      · rcases List.mem_cons.mp hm with rfl | h
        · left; rfl
        · right; exact List.mem_map_of_mem h
      · intro q hq
        rw [e0] at hq
        obtain ⟨d, hd, rfl⟩ := List.mem_map.mp hq
        rcases hl d hd with rfl | h
        · left; rfl
        · right; exact h
    rw [e, ofPy_enc (ok m hm)]
    rfl
theorem min1_of {S : Sto} {xs : List D} {m : D} (ok : ∀ d ∈ xs, okD 20 d = true) (al : ∀ d ∈ xs, ∀ e ∈ xs, alkB d e = true) (nn : ∀ d ∈ xs, nnB d = true) (hm : m ∈ xs) (hl : ∀ d ∈ xs, d = m ∨ (ltB m d = true ∧ ltB d m = false)) : minD1 S [.lst xs] = some m :=
  best1_of (f := fun a b => PySem.W.dataLt a b) ok al nn hm hl
theorem max1_of {S : Sto} {xs : List D} {m : D} (ok : ∀ d ∈ xs, okD 20 d = true) (al : ∀ d ∈ xs, ∀ e ∈ xs, alkB d e = true) (nn : ∀ d ∈ xs, nnB d = true) (hm : m ∈ xs) (hl : ∀ d ∈ xs, d = m ∨ (ltB d m = true ∧ ltB m d = false)) : maxD1 S [.lst xs] = some m :=
  best1_of (f := fun a b => PySem.W.dataLt b a) ok al nn hm hl
/-- the first of a sorted row's picked ones is the least of the picked ones of any row with the same members -/
theorem find_min {α : Type} {enc : α → D} {L M : List α} (p : α → Bool) (hs : L.Pairwise fun a b => ltB (enc a) (enc b) = true ∧ ltB (enc b) (enc a) = false) (hLM : ∀ a, a ∈ M → a ∈ L) (hML : ∀ a, a ∈ L → a ∈ M) (ok : ∀ a ∈ L, okD 20 (enc a) = true) (al : ∀ a ∈ L, ∀ b ∈ L, alkB (enc a) (enc b) = true) (nn : ∀ a ∈ L, nnB (enc a) = true) {m : α} (hm : L.find? p = some m) {S : Sto} : minD1 S [.lst ((M.filter p).map enc)] = some (enc m) := by
  have hmL : m ∈ L := List.mem_of_find?_eq_some hm
  have hpm : p m = true := List.find?_some hm
  refine min1_of ?_ ?_ ?_ ?_ ?_
  · intro d hd
    obtain ⟨a, ha, rfl⟩ := List.mem_map.mp hd
    exact ok a (hLM a (List.mem_filter.mp ha).1)
  · intro d hd e he
    obtain ⟨a, ha, rfl⟩ := List.mem_map.mp hd
    obtain ⟨b, hb, rfl⟩ := List.mem_map.mp he
    exact al a (hLM a (List.mem_filter.mp ha).1) b (hLM b (List.mem_filter.mp hb).1)
  · intro d hd
    obtain ⟨a, ha, rfl⟩ := List.mem_map.mp hd
    exact nn a (hLM a (List.mem_filter.mp ha).1)
  · exact List.mem_map_of_mem (List.mem_filter.mpr ⟨hML m hmL, hpm⟩)
  · intro d hd
    obtain ⟨a, ha, rfl⟩ := List.mem_map.mp hd
    obtain ⟨ha, hpa⟩ := List.mem_filter.mp ha
    have haL := hLM a ha
    clear hLM hML ok al nn ha
    induction L with
    | nil => cases hmL
    | cons x xs ih =>
      rw [List.find?_cons] at hm
      rw [List.pairwise_cons] at hs
      cases hx : p x with
      | true =>
        rw [hx] at hm
        cases hm
        rcases List.mem_cons.mp haL with rfl | h
        · left; rfl
        · right; exact hs.1 a h
      | false =>
        rw [hx] at hm
        rcases List.mem_cons.mp haL with rfl | h
        · rw [hx] at hpa
          cases hpa
        · exact ih hs.2 hm (List.mem_of_find?_eq_some hm) h
theorem find_rng {b : Nat → Bool} {x : Nat} : ∀ (k a : Nat), a ≤ x → x < a + k → b x = true → (∀ y, a ≤ y → y < x → b y = false) → ((List.range k).map (a + ·)).find? b = some x
  | 0, a, h1, h2, _, _ => by omega
  | k + 1, a, h1, h2, h3, h4 => by
    rw [List.range_succ_eq_map, List.map_cons, List.map_map, List.find?_cons]
    have e : ((a + ·) ∘ Nat.succ) = (a + 1 + ·) := by
      funext z
      show a + (z + 1) = a + 1 + z
      omega
    rw [e]
    by_cases hx : a = x
    · subst hx
      rw [Nat.add_zero, h3]
    · rw [Nat.add_zero, h4 a (Nat.le_refl a) (by omega)]
      exact find_rng k (a + 1) (by omega) (by omega) h3 (fun y hy hyx => h4 y (by omega) hyx)
theorem nnB_tup {xs : List D} (h : okD 20 (.tup xs) = true) : nnB (.tup xs) = true := by
  obtain ⟨p, e, _, _⟩ := py_of 20 (.tup xs) h
  unfold nnB
  rw [encD_of e]
  have e : (pyDs xs).map PyData.tuple = some p := e
  obtain ⟨ps, _, rfl⟩ := Option.map_eq_some_iff.mp e
  rfl
end Lb
end
section
set_option maxHeartbeats 1000000
/-! Wq: what a program part gives, told by a rule on its end; loops by rules. -/
namespace Wq
open PySem PySem.Spec PyProof.Rows L2 Rf Lb
/-- it ends, and its end keeps Q -/
def Wp {α : Type} (o : Option α) (Q : α → Prop) (_t : Tg Q := ⟨⟩) : Prop := ∃ r, o = some r ∧ Q r
theorem Wp.get {α : Type} {o : Option α} {Q : α → Prop} (h : Wp o Q) : ∃ r, o = some r ∧ Q r := h
theorem Wp.of {α : Type} {o : Option α} {Q : α → Prop} {r : α} (h : o = some r) (q : Q r) : Wp o Q := ⟨r, h, q⟩
theorem Wp.mono {α : Type} {o : Option α} {Q R : α → Prop} (h : Wp o R) (k : ∀ r, R r → Q r) : Wp o Q := let ⟨r, e, q⟩ := h; ⟨r, e, k r q⟩
theorem Wp.bnd {α β : Type} {o : Option α} {k : α → Option β} {t : Tg k} {R : α → Prop} {Q : β → Prop} (h : Wp o R) (h2 : ∀ r, R r → Wp (k r) Q) : Wp (o.bnd k t) Q := by
  obtain ⟨r, e, q⟩ := h
  subst e
  exact h2 r q
theorem Wp.mpp {α β : Type} {o : Option α} {k : α → β} {t : Tg k} {R : α → Prop} {Q : β → Prop} (h : Wp o R) (h2 : ∀ r, R r → Q (k r)) : Wp (o.mpp k t) Q := by
  obtain ⟨r, e, q⟩ := h
  subst e
  exact ⟨_, rfl, h2 r q⟩
theorem Wp.eq {α : Type} {o : Option α} {r : α} (h : Wp o (· = r)) : o = some r := by
  obtain ⟨r', e, rfl⟩ := h
  exact e
@[scoped simp] theorem wp_some {α : Type} (a : α) (Q : α → Prop) (t : Tg Q) : Wp (some a) Q t ↔ Q a := ⟨fun ⟨_, e, q⟩ => by cases e; exact q, fun q => ⟨a, rfl, q⟩⟩
@[scoped simp] theorem wp_none {α : Type} (Q : α → Prop) (t : Tg Q) : Wp none Q t ↔ False := ⟨fun ⟨_, e, _⟩ => (nomatch e), False.elim⟩
@[scoped simp] theorem bnd_bnd {α β γ : Type} (x : Option α) (f : α → Option β) (t : Tg f) (g : β → Option γ) (t2 : Tg g) : (x.bnd f t).bnd g t2 = x.bnd fun a => (f a).bnd g t2 := by cases x <;> rfl
@[scoped simp] theorem mpp_bnd {α β γ : Type} (x : Option α) (f : α → β) (t : Tg f) (g : β → Option γ) (t2 : Tg g) : (x.mpp f t).bnd g t2 = x.bnd fun a => g (f a) := by cases x <;> rfl
@[scoped simp] theorem bnd_mpp {α β γ : Type} (x : Option α) (f : α → Option β) (t : Tg f) (g : β → γ) (t2 : Tg g) : (x.bnd f t).mpp g t2 = x.bnd fun a => (f a).mpp g t2 := by cases x <;> rfl
@[scoped simp] theorem mpp_mpp {α β γ : Type} (x : Option α) (f : α → β) (t : Tg f) (g : β → γ) (t2 : Tg g) : (x.mpp f t).mpp g t2 = x.mpp fun a => g (f a) := by cases x <;> rfl
/-- the end of a loop's turn -/
inductive Trn (I : Rf.Env → Sto → Prop) (P : Fl × Sto → Prop) : Fl × Sto → Tg (I, P) → Prop
  | nx {e S t} : I e S → Trn I P (.nx e, S) t
  | ct {e S t} : I e S → Trn I P (.ct e, S) t
  | bk {e S t} : P (.nx e, S) → Trn I P (.bk e, S) t
  | rt {d S t} : P (.rt d, S) → Trn I P (.rt d, S) t
/-- a loop, by what is kept from turn to turn: I tells of the items still to come -/
theorem wp_for {α : Type} {enc : α → D} {g : DG} {tb : DS} {gd : Gd} {all : List D} {P : Fl × Sto → Prop} (I : List α → Rf.Env → Sto → Prop) (hg : ∀ xs e S, I xs e S → gok gd all S)
    (h0 : ∀ e S, I [] e S → P (.nx e, S))
    (h : ∀ a xs e S, I (a :: xs) e S → Wp ((g (enc a) e).bnd fun e1 => tb e1 S) (fun r => Trn (I xs) P r ⟨⟩)) :
    ∀ (xs : List α) (e : Rf.Env) (S : Sto), I xs e S → Wp (forGo g tb gd all (xs.map enc) e S) P
  | [], e, S, hi => by
    rw [List.map_nil, forGo_nilG (hg _ _ _ hi), wp_some]
    exact h0 e S hi
  | a :: xs, e, S, hi => by
    have ih := wp_for I hg h0 h xs
    rw [List.map_cons, forGo_consG (hg _ _ _ hi), ← bnd_bnd]
    refine Wp.bnd (h a xs e S hi) fun r hr => ?_
    cases hr with
    | nx q => exact ih _ _ q
    | ct q => exact ih _ _ q
    | bk q => exact ⟨_, rfl, q⟩
    | rt q => exact ⟨_, rfl, q⟩
/-- the same with no guard -/
theorem wp_for0 {α : Type} {enc : α → D} {g : DG} {tb : DS} {all : List D} {P : Fl × Sto → Prop} (I : List α → Rf.Env → Sto → Prop)
    (h0 : ∀ e S, I [] e S → P (.nx e, S))
    (h : ∀ a xs e S, I (a :: xs) e S → Wp ((g (enc a) e).bnd fun e1 => tb e1 S) (fun r => Trn (I xs) P r ⟨⟩)) (xs : List α) (e : Rf.Env) (S : Sto) (hi : I xs e S) : Wp (forGo g tb none all (xs.map enc) e S) P :=
  wp_for (gd := none) I (fun _ _ _ _ => (trivial : gok none all _)) h0 h xs e S hi
/-- a while loop, by what is kept and what grows less -/
theorem wp_while {c : DT} {tb : DS} {P : Fl × Sto → Prop} (I : Nat → Rf.Env → Sto → Prop)
    (h : ∀ n e S, I n e S → Wp (c e S) fun q => (q.1 = false → P (.nx e, q.2)) ∧ (q.1 = true → Wp (tb e q.2) (fun r => Trn (fun e S => ∃ m, m < n ∧ I m e S) P r ⟨⟩))) (n : Nat) : ∀ (e : Rf.Env) (S : Sto), I n e S → Wp (sWhile c tb e S) P := by
  induction n using Nat.strongRecOn with
  | _ n ih =>
    intro e S hi
    obtain ⟨⟨b, S1⟩, e1, q1, q2⟩ := h n e S hi
    cases b with
    | false => exact ⟨_, sWhile_done e1, q1 rfl⟩
    | true =>
      obtain ⟨r, e2, q⟩ := q2 rfl
      cases q with
      | nx q =>
        obtain ⟨m, hm, q⟩ := q
        obtain ⟨r, e3, q⟩ := ih m hm _ _ q
        exact ⟨r, sWhile_go e1 e2 e3, q⟩
      | ct q =>
        obtain ⟨m, hm, q⟩ := q
        obtain ⟨r, e3, q⟩ := ih m hm _ _ q
        obtain ⟨k, e4⟩ := sWhile_some e3
        refine ⟨r, sWhile_eq (n := k + 1) ?_, q⟩
        rw [whGo, e1]
        simpa [e2] using e4
      | bk q =>
        refine ⟨_, sWhile_eq (n := 1) ?_, q⟩
        rw [whGo, e1]
        simp [e2]
      | rt q =>
        refine ⟨_, sWhile_eq (n := 1) ?_, q⟩
        rw [whGo, e1]
        simp [e2]
/-- a comprehension with a test, over what may change -/
theorem lcG {α : Type} {enc : α → D} (f : α → D) (c : α → Bool) {g : DG} {tt : DT} {te : DE} {gd : Gd} {all : List D} {we : Rf.Env} {S : Sto} (hg : gok gd all S) : ∀ (xs : List α) (acc : List D), (∀ a ∈ xs, ((g (enc a) we).bnd fun e2 => tt e2 S) = some (c a, S)) → (∀ a ∈ xs, c a = true → ((g (enc a) we).bnd fun e2 => te e2 S) = some (f a, S)) → lcGo g tt te gd all we (xs.map enc) acc S = some (.lst (acc ++ (xs.filter c).map f), S)
  | [], acc, _, _ => by rw [List.map_nil, lcGo, if_pos hg]; simp
  | a :: xs, acc, h, h' => by
    have h1 := h a (by simp)
    have h2 := h' a (by simp)
    have ih := fun acc => lcG f c (g := g) (tt := tt) (te := te) (all := all) (we := we) hg xs acc (fun b hb => h b (List.mem_cons_of_mem _ hb)) (fun b hb => h' b (List.mem_cons_of_mem _ hb))
    rw [List.map_cons, lcGo, if_pos hg]
    cases hgd : g (enc a) we with
    | none => rw [hgd] at h1; cases h1
    | some e2 =>
      rw [hgd] at h1 h2
      have h1 : tt e2 S = some (c a, S) := h1
      have h2 : c a = true → te e2 S = some (f a, S) := h2
      simp only [Option.bind_some, h1]
      by_cases hc : c a = true
      · rw [if_pos hc, h2 hc]
        simp only [Option.bind_some]
        rw [ih]
        simp [hc]
      · rw [if_neg hc, ih]
        simp [hc]
/-- a comprehension with no test -/
theorem lcM {α : Type} {enc : α → D} (f : α → D) {g : DG} {te : DE} {gd : Gd} {all : List D} {we : Rf.Env} {S : Sto} (hg : gok gd all S) (xs : List α) (h : ∀ a ∈ xs, ((g (enc a) we).bnd fun e2 => te e2 S) = some (f a, S)) : lcGo g tTrue te gd all we (xs.map enc) [] S = some (.lst (xs.map f), S) := by
  have := lcG (enc := enc) f (fun _ => true) (g := g) (tt := tTrue) (te := te) (all := all) (we := we) hg xs [] (fun a ha => ?_) (fun a ha _ => h a ha)
  · rw [List.filter_eq_self.mpr (fun _ _ => rfl)] at this
    exact this
  · have h1 := h a ha
    cases hgd : g (enc a) we with
    | none => rw [hgd] at h1; cases h1
    | some e2 => rfl
/-- a comprehension whose parts may change the store -/
theorem wp_lc {α : Type} {enc : α → D} {g : DG} {tt : DT} {te : DE} {gd : Gd} {all : List D} {we : Rf.Env} {P : D × Sto → Prop} (I : List α → List D → Sto → Prop) (hg : ∀ xs acc S, I xs acc S → gok gd all S)
    (h0 : ∀ acc S, I [] acc S → P (.lst acc, S))
    (h : ∀ a xs acc S, I (a :: xs) acc S → Wp (g (enc a) we) fun e2 => Wp (tt e2 S) fun k => (k.1 = true → Wp (te e2 k.2) fun y => I xs (acc ++ [y.1]) y.2) ∧ (k.1 = false → I xs acc k.2)) :
    ∀ (xs : List α) (acc : List D) (S : Sto), I xs acc S → Wp (lcGo g tt te gd all we (xs.map enc) acc S) P
  | [], acc, S, hi => by
    rw [List.map_nil, lcGo, if_pos (hg _ _ _ hi), wp_some]
    exact h0 acc S hi
  | a :: xs, acc, S, hi => by
    have ih := wp_lc I hg h0 h xs
    obtain ⟨e2, h1, ⟨b, S1⟩, h2, h3, h4⟩ := h a xs acc S hi
    rw [List.map_cons, lcGo, if_pos (hg _ _ _ hi)]
    simp only [h1, Option.bind_some, h2]
    cases b with
    | true =>
      obtain ⟨⟨y, S2⟩, h5, h6⟩ := h3 rfl
      rw [if_pos rfl, h5]
      exact ih _ _ h6
    | false =>
      rw [if_neg (by simp)]
      exact ih _ _ (h4 rfl)
/-- a def's call -/
theorem wp_run {N k : Nat} {t : DS} {ds : List D} {S : Sto} {Q : D × Sto → Prop} (h : ds.length = k) (w : Wp (t (startE N ds) S) fun r => Wp (endF r) Q) : Wp (runF N k t ds S) Q := by
  rw [runF_eq h]
  obtain ⟨r, e, q⟩ := w
  rw [e]
  exact q
end Wq
namespace Wq
open PySem PySem.Spec PyProof.Rows L2 Rf Lb
theorem wp_draw {ns : List Int} {S : Sto} {Q : D × Sto → Prop} (h : ∀ c, DrawOk c → Q (.ref S.length, S ++ [c])) : Wp (f__law_draw [.scr (ns.map .int)] S) Q := by
  obtain ⟨c, e, hc⟩ := draw_spec ns S
  exact ⟨_, e, h c hc⟩
theorem wp_next {c : Cell} {S : Sto} {m : Int} {Q : D × Sto → Prop} (hc : DrawOk c) (hm : 0 < m) (hm2 : m < 1073741824) (h : ∀ (k : Nat) (c' : Cell), (k : Int) < m → DrawOk c' → Q (.int (k : Int), c' :: S)) : Wp (f__law_next [.ref 0, .int m] (c :: S)) Q := by
  obtain ⟨v, c', e, d, h1, h2⟩ := next_spec c S m hc hm hm2
  obtain ⟨k, rfl⟩ := Int.eq_ofNat_of_zero_le h1
  exact ⟨_, e, h k c' h2 d⟩
theorem wp_draw' {ns : List Int} {S : Sto} : Wp (f__law_draw [.scr (ns.map .int)] S) fun r => ∃ c, DrawOk c ∧ r = (.ref S.length, S ++ [c]) := wp_draw fun c h => ⟨c, h, rfl⟩
theorem wp_next' {c : Cell} {S : Sto} {m : Int} (hc : DrawOk c) (hm : 0 < m) (hm2 : m < 1073741824) : Wp (f__law_next [.ref 0, .int m] (c :: S)) fun r => ∃ (k : Nat) (c' : Cell), (k : Int) < m ∧ DrawOk c' ∧ r = (.int (k : Int), c' :: S) :=
  wp_next hc hm hm2 fun k c' h1 h2 => ⟨k, c', h1, h2, rfl⟩
/-- a row of draws -/
theorem wp_draws {α β : Type} {enc : α → D} {dec : β → D} {P : β → Prop} {g : DG} {te : DE} {all : List D} {we : Rf.Env} {S : Sto} {Q : D × Sto → Prop} (xs : List α) {c : Cell} (hc : DrawOk c)
    (h : ∀ a ∈ xs, ∀ c, DrawOk c → Wp ((g (enc a) we).bnd fun e2 => te e2 (c :: S)) fun r => ∃ b c', r = (dec b, c' :: S) ∧ DrawOk c' ∧ P b)
    (q : ∀ (bs : List β) c', DrawOk c' → bs.length = xs.length → (∀ b ∈ bs, P b) → Q (.lst (bs.map dec), c' :: S)) : Wp (lcGo g tTrue te none all we (xs.map enc) [] (c :: S)) Q := by
  refine wp_lc (gd := none) (fun ys acc T => ∃ (bs : List β) (c' : Cell), acc = bs.map dec ∧ T = c' :: S ∧ DrawOk c' ∧ bs.length + ys.length = xs.length ∧ (∀ b ∈ bs, P b) ∧ ∀ a ∈ ys, a ∈ xs) (fun _ _ _ _ => (trivial : gok none all _)) ?_ ?_ xs [] _ ⟨[], c, rfl, rfl, hc, by simp, by simp, fun a h => h⟩
  · rintro acc T ⟨bs, c', rfl, rfl, hc', hl, hP, _⟩
    exact q bs c' hc' (by simpa using hl) hP
  · rintro a ys acc T ⟨bs, c', rfl, rfl, hc', hl, hP, hin⟩
    obtain ⟨r, e, b, c2, rfl, hc2, hb⟩ := h a (hin a (by simp)) c' hc'
    cases hg : g (enc a) we with
    | none => rw [hg] at e; cases e
    | some e2 =>
      rw [hg] at e
      have e : te e2 (c' :: S) = some (dec b, c2 :: S) := e
      refine ⟨e2, rfl, (true, c' :: S), rfl, fun _ => ⟨_, e, bs ++ [b], c2, by simp, rfl, hc2, ?_, ?_, fun x hx => hin x (by simp [hx])⟩, fun z => by cases z⟩
      · simp at hl ⊢
        omega
      · intro x hx
        rcases List.mem_append.mp hx with z | z
        · exact hP x z
        · have : x = b := by simpa using z
          rw [this]; exact hb
end Wq
end
section
set_option maxHeartbeats 1000000
/-! Mb: dicts with whole numbers or texts as keys, in plain Lean. -/
namespace Mb
open PySem PySem.Spec PyProof.Rows L2 Rf Wq
open RgC (kD)
abbrev KD := List (Key × D)
def ksD (kvs : KD) : List D := kvs.map fun p => kD p.1
def vsD (kvs : KD) : List D := kvs.map fun p => p.2
def lk (kvs : KD) (k : Key) : Option D := (kvs.find? fun p => decide (p.1 = k)).map (·.2)
def hs (kvs : KD) (k : Key) : Bool := kvs.any fun p => decide (p.1 = k)
def put (kvs : KD) (k : Key) (e : D) : KD := if hs kvs k = true then kvs.map fun p => if p.1 = k then (p.1, e) else p else kvs ++ [(k, e)]
@[simp] theorem keyD_kD (k : Key) : keyD (kD k) = some k := by cases k <;> rfl
theorem lookK_lk (k : Key) : ∀ kvs : KD, lookK k (ksD kvs) (vsD kvs) = lk kvs k
  | [] => rfl
  | p :: kvs => by
    have ih := lookK_lk k kvs
    unfold ksD vsD lk at ih ⊢
    rw [List.map_cons, List.map_cons, lookK, keyD_kD, List.find?_cons]
    by_cases h : p.1 = k
    · simp [h]
    · have h2 : ¬ (some p.1 = some k) := fun z => h (Option.some.inj z)
      simp [h, ih]
theorem hasK_hs (k : Key) (kvs : KD) : hasK k (ksD kvs) = hs kvs k := by
  unfold hasK hs ksD
  rw [List.any_map]
  congr 1
  funext p
  simp
theorem replK_eq (k : Key) (e : D) : ∀ kvs : KD, replK k e (ksD kvs) (vsD kvs) = vsD (kvs.map fun p => if p.1 = k then (p.1, e) else p)
  | [] => rfl
  | p :: kvs => by
    have ih := replK_eq k e kvs
    unfold ksD vsD at ih ⊢
    rw [List.map_cons, List.map_cons, replK, keyD_kD, ih]
    by_cases h : p.1 = k
    · simp [h]
    · simp [h]
theorem putKD_put (k : Key) (e : D) (kvs : KD) : putKD (kD k) k e (ksD kvs) (vsD kvs) = (ksD (put kvs k e), vsD (put kvs k e)) := by
  unfold putKD put
  rw [hasK_hs]
  split
  · rw [replK_eq]
    congr 1
    unfold ksD
    rw [List.map_map]
    refine List.map_congr_left fun p _ => ?_
    show _ = kD (if p.1 = k then (p.1, e) else p).1
    split <;> rfl
  · unfold ksD vsD
    simp
theorem lk_put (kvs : KD) (k j : Key) (e : D) : lk (put kvs k e) j = if j = k then some e else lk kvs j := by
  unfold put
  split
  · rename_i h
    unfold hs at h
    unfold lk
    induction kvs with
    | nil => cases h
    | cons p kvs ih =>
      rw [List.map_cons, List.find?_cons, List.find?_cons]
      by_cases hp : p.1 = k
      · rw [if_pos hp]
        by_cases hj : j = k
        · simp [hj, hp]
        · have h2 : ¬ p.1 = j := fun z => hj (by rw [← z, hp])
          have h3 : ¬ k = j := fun z => hj z.symm
          simp only [hp, h3, decide_false, hj, if_false]
          by_cases h' : (kvs.any fun p => decide (p.1 = k)) = true
          · have := ih h'
            rw [if_neg hj] at this
            exact this
          · have : (kvs.map fun p : Key × D => if p.1 = k then (p.1, e) else p) = kvs := by
              conv => rhs; rw [← List.map_id kvs]
              refine List.map_congr_left fun q hq => ?_
              have : ¬ q.1 = k := fun z => h' (List.any_eq_true.mpr ⟨q, hq, by simp [z]⟩)
              simp [this]
            rw [this]
      · rw [if_neg hp]
        have h' : (kvs.any fun p => decide (p.1 = k)) = true := by simpa [hp] using h
        by_cases hj : p.1 = j
        · have h2 : ¬ j = k := fun z => hp (by rw [hj, z])
          simp [hj, h2]
        · simp only [hj, decide_false]
          exact ih h'
  · rename_i h
    unfold hs at h
    unfold lk
    rw [List.find?_append]
    have hn : (kvs.find? fun p => decide (p.1 = k)) = none := by
      rw [List.find?_eq_none]
      intro q hq z
      exact h (List.any_eq_true.mpr ⟨q, hq, z⟩)
    by_cases hj : j = k
    · subst hj
      rw [hn]
      simp
    · have h3 : ¬ k = j := fun z => hj z.symm
      simp [hj, h3]
theorem hs_lk (kvs : KD) (k : Key) : hs kvs k = (lk kvs k).isSome := by
  unfold hs lk
  rw [Option.isSome_map, List.isSome_find?]
theorem hs_put (kvs : KD) (k j : Key) (e : D) : hs (put kvs k e) j = (decide (j = k) || hs kvs j) := by
  rw [hs_lk, hs_lk, lk_put]
  by_cases h : j = k <;> simp [h]
theorem put_len (kvs : KD) (k : Key) (e : D) : (put kvs k e).length ≤ kvs.length + 1 := by
  unfold put
  split <;> simp
theorem hs_mem {kvs : KD} {k : Key} : hs kvs k = true ↔ k ∈ kvs.map (·.1) := by
  unfold hs
  rw [List.any_eq_true, List.mem_map]
  exact ⟨fun ⟨p, h, e⟩ => ⟨p, h, of_decide_eq_true e⟩, fun ⟨p, h, e⟩ => ⟨p, h, decide_eq_true e⟩⟩
/-- a comprehension of a dict -/
theorem dcG {α : Type} {enc : α → D} (key : α → Key) (val : α → D) {g : DG} {tk tv : DE} {gd : Gd} {all : List D} {we : Rf.Env} {S : Sto} (hg : gok gd all S) : ∀ (xs : List α) (kvs : KD), (∀ a ∈ xs, ((g (enc a) we).bnd fun e2 => tk e2 S) = some (kD (key a), S)) → (∀ a ∈ xs, ((g (enc a) we).bnd fun e2 => tv e2 S) = some (val a, S)) →
    dcGo g tTrue tk tv gd all we (xs.map enc) (ksD kvs) (vsD kvs) S = some (.dct (ksD (xs.foldl (fun m a => put m (key a) (val a)) kvs)) (vsD (xs.foldl (fun m a => put m (key a) (val a)) kvs)), S)
  | [], kvs, _, _ => by rw [List.map_nil, dcGo, if_pos hg]; rfl
  | a :: xs, kvs, h, h' => by
    have h1 := h a (by simp)
    have h2 := h' a (by simp)
    have ih := dcG key val (g := g) (tk := tk) (tv := tv) (all := all) (we := we) hg xs (put kvs (key a) (val a)) (fun b hb => h b (List.mem_cons_of_mem _ hb)) (fun b hb => h' b (List.mem_cons_of_mem _ hb))
    rw [List.map_cons, dcGo, if_pos hg]
    cases hgd : g (enc a) we with
    | none => rw [hgd] at h1; cases h1
    | some e2 =>
      rw [hgd] at h1 h2
      have h1 : tk e2 S = some (kD (key a), S) := h1
      have h2 : tv e2 S = some (val a, S) := h2
      simp only [Option.bind_some, tTrue_eq, if_true, h1, h2, keyD_kD, putKD_put]
      rw [ih]
      rfl
@[simp] theorem dDc_eq (di : DI) (vs : List Nat) (g : DG) (tt : DT) (tk tv : DE) (e : Rf.Env) (S : Sto) : dDc di vs g tt tk tv e S = (di e S).bnd fun p => dcGo g tt tk tv p.1.2 p.1.1 (wipeE e vs) p.1.1 [] [] p.2 := (rfl)
@[simp] theorem dMaxK_eq (o t : DE) (e : Rf.Env) (S : Sto) : dMaxK o t e S = (o e S).bnd fun p => (t e p.2).bnd fun q => (dictAt q.2 p.1).bnd fun z => (keysI z.1).mpp fun ns => (match ns.max? with | some m => D.int m | none => q.1, q.2) := (rfl)
@[simp] theorem dGetK_eq (o i : DE) (e : Rf.Env) (S : Sto) : dGetK o i e S = (o e S).bnd fun p => (i e p.2).bnd fun q => (dictAt q.2 p.1).bnd fun z => (keyD q.1).bnd fun k => (lookK k z.1 z.2).mpp fun d => (d, q.2) := (rfl)
@[simp] theorem dInK_eq (neg : Bool) (i o : DE) (e : Rf.Env) (S : Sto) : dInK neg i o e S = (i e S).bnd fun p => (o e p.2).bnd fun q => (dictAt q.2 q.1).bnd fun z => (keyD p.1).mpp fun k => (.bl (cond neg (!hasK k z.1) (hasK k z.1)), q.2) := (rfl)
@[simp] theorem dGet2_eq (o i t : DE) (e : Rf.Env) (S : Sto) : dGet2 o i t e S = (o e S).bnd fun p => (dictAt p.2 p.1).bnd fun _ => (i e p.2).bnd fun q => (t e q.2).bnd fun r => (dictAt r.2 p.1).bnd fun z => (keyD q.1).mpp fun k => ((lookK k z.1 z.2).getD r.1, r.2) := (rfl)
@[simp] theorem keyD_int (i : Int) : keyD (.int i) = some (.inl i) := (rfl)
@[simp] theorem keyD_str (x : PySem.Str) : keyD (.str x) = some (.inr x) := (rfl)
theorem dictAt_last {S : Sto} {n : Nat} {ks ds : List D} (h : S[n]? = some (.dct ks ds)) : dictAt S (.ref n) = some (ks, ds) := by
  simp [dictAt, h]
theorem keysI_kD : ∀ {kvs : KD}, (∀ p ∈ kvs, ∃ i, p.1 = .inl i) → ∃ ns, keysI (ksD kvs) = some ns ∧ kvs.map (·.1) = ns.map Sum.inl
  | [], _ => ⟨[], rfl, rfl⟩
  | p :: kvs, h => by
    obtain ⟨ns, h1, h2⟩ := keysI_kD fun q hq => h q (List.mem_cons_of_mem _ hq)
    obtain ⟨i, hi⟩ := h p (by simp)
    refine ⟨i :: ns, ?_, by simp [h2, hi]⟩
    unfold ksD at h1 ⊢
    rw [List.map_cons, hi]
    show (keysI _).map _ = _
    rw [h1]
    rfl
/-- what a fold of puts holds -/
theorem hs_fold {α : Type} (key : α → Key) (val : α → D) (j : Key) : ∀ (xs : List α) (kvs : KD), hs (xs.foldl (fun m a => put m (key a) (val a)) kvs) j = (hs kvs j || xs.any fun a => decide (key a = j))
  | [], kvs => by simp
  | a :: xs, kvs => by
    rw [List.foldl_cons, hs_fold key val j xs, hs_put, List.any_cons]
    by_cases h : key a = j
    · simp [h]
    · have h2 : ¬ j = key a := fun z => h z.symm
      simp [h, h2]
theorem lk_fold {α : Type} (key : α → Key) (val : α → D) (f : Key → D) (hf : ∀ a, val a = f (key a)) (j : Key) : ∀ (xs : List α) (kvs : KD), (∀ d, lk kvs j = some d → d = f j) → ∀ d, lk (xs.foldl (fun m a => put m (key a) (val a)) kvs) j = some d → d = f j
  | [], kvs, h, d, e => h d e
  | a :: xs, kvs, h, d, e => by
    rw [List.foldl_cons] at e
    refine lk_fold key val f hf j xs _ (fun d' e' => ?_) d e
    rw [lk_put] at e'
    split at e'
    · rename_i hj
      cases e'
      rw [hf, ← hj]
    · exact h d' e'
end Mb
end
section
set_option maxHeartbeats 1000000
/-! Mc: dicts whose keys are tuples, in plain Lean. -/
namespace Mc
open PySem PySem.Spec PyProof.Rows L2 Rf Wq
@[simp] theorem dInT_eq (neg : Bool) (i o : DE) (e : Rf.Env) (S : Sto) : dInT neg i o e S = (i e S).bnd fun p => (o e p.2).bnd fun q => (dictT q.2 q.1).bnd fun z => (tkD p.1).mpp fun k => (.bl (cond neg (!hasT k z.1) (hasT k z.1)), q.2) := (rfl)
@[simp] theorem dGetT_eq (o i : DE) (e : Rf.Env) (S : Sto) : dGetT o i e S = (o e S).bnd fun p => (i e p.2).bnd fun q => (dictT q.2 p.1).bnd fun z => (tkD q.1).bnd fun k => (lookT k z.1 z.2).mpp fun d => (d, q.2) := (rfl)
@[simp] theorem dDctX_eq (e : Rf.Env) (S : Sto) : dDctX e S = some (.ref S.length, S ++ [.dtx [] []]) := (rfl)
@[simp] theorem dStp_eq (t : DE) (lo st : DO) (e : Rf.Env) (S : Sto) : dStp t lo st e S = (t e S).bnd fun p => (lo e p.2).bnd fun l => (st e l.2).bnd fun h => (stepD h.2 p.1 l.1 h.1).mpp fun z => (z, h.2) := (rfl)
def putST (S : Sto) (o x y : D) (k : NestedKey) : Option Sto := match o with
  | .ref n => (match S[n]? with
    | some (.dtx ks ds) => if ks.length < sizeLine then some (S.set n (.dtx (putTD x k y ks ds).1 (putTD x k y ks ds).2)) else none
    | _ => none)
  | _ => none
@[simp] theorem sPutT_eq (o i t : DE) (e : Rf.Env) (S : Sto) : sPutT o i t e S = (t e S).bnd fun p => (o e p.2).bnd fun q => (i e q.2).bnd fun r => (tkD r.1).bnd fun k => (putST r.2 q.1 r.1 p.1 k).mpp fun S' => (.nx e, S') := by
  unfold sPutT
  show Option.bind _ _ = Option.bind _ _
  congr 1
  funext p
  show Option.bind _ _ = Option.bind _ _
  congr 1
  funext q
  show Option.bind _ _ = Option.bind _ _
  congr 1
  funext r
  show Option.bind _ _ = Option.bind _ _
  congr 1
  funext k
  unfold putST
  obtain ⟨d, S1⟩ := q
  cases d with
  | ref n =>
    cases h : r.2[n]? with
    | none => simp [h]
    | some c =>
      cases c with
      | dtx ks ds =>
        simp only [h]
        split <;> rfl
      | _ => simp [h]
  | _ => rfl
theorem putST_ok {S : Sto} {n : Nat} {ks ds : List D} {x y : D} {k : NestedKey} (h : S[n]? = some (.dtx ks ds)) (hz : ks.length < sizeLine) : putST S (.ref n) x y k = some (S.set n (.dtx (putTD x k y ks ds).1 (putTD x k y ks ds).2)) := by
  simp [putST, h, hz]
theorem dictT_ok {S : Sto} {n : Nat} {ks ds : List D} (h : S[n]? = some (.dtx ks ds)) : dictT S (.ref n) = some (ks, ds) := by
  simp [dictT, h]
section
variable {α β : Type} [DecidableEq α] {ea : α → D} {ka : α → NestedKey} {eb : β → D} (hk : ∀ a, tkD (ea a) = some (ka a)) (inj : ∀ a b, ka a = ka b → a = b)
include hk inj
theorem hasT_map (a : α) : ∀ P : List (α × β), hasT (ka a) (P.map fun p => ea p.1) = P.any fun p => decide (p.1 = a)
  | [] => rfl
  | p :: P => by
    have ih := hasT_map a P
    unfold hasT at ih ⊢
    rw [List.map_cons, List.any_cons, List.any_cons, ih, hk]
    congr 1
    by_cases h : p.1 = a
    · simp [h]
    · have : ¬ some (ka p.1) = some (ka a) := fun z => h (inj _ _ (Option.some.inj z))
      simp [h, this]
theorem lookT_map (a : α) : ∀ P : List (α × β), lookT (ka a) (P.map fun p => ea p.1) (P.map fun p => eb p.2) = (P.find? fun p => decide (p.1 = a)).map fun p => eb p.2
  | [] => rfl
  | p :: P => by
    have ih := lookT_map a P
    rw [List.map_cons, List.map_cons, lookT, hk, List.find?_cons]
    by_cases h : p.1 = a
    · simp [h]
    · have : ¬ some (ka p.1) = some (ka a) := fun z => h (inj _ _ (Option.some.inj z))
      rw [if_neg this, ih]
      simp [h]
theorem putT_new {P : List (α × β)} {a : α} (b : β) (h : (P.any fun p => decide (p.1 = a)) = false) : putTD (ea a) (ka a) (eb b) (P.map fun p => ea p.1) (P.map fun p => eb p.2) = ((P ++ [(a, b)]).map (fun p => ea p.1), (P ++ [(a, b)]).map fun p => eb p.2) := by
  unfold putTD
  rw [hasT_map hk inj, h]
  simp
end
/-- words of bits as keys -/
theorem nksD_ints : ∀ ns : List Int, nksD (ns.map .int) = some (ns.map .num)
  | [] => rfl
  | n :: ns => by
    rw [List.map_cons, nksD, nksD_ints ns]
    rfl
theorem depth_nums : ∀ ns : List Int, NestedKey.depthAll (ns.map .num) = 0
  | [] => rfl
  | n :: ns => by
    rw [List.map_cons, NestedKey.depthAll, depth_nums ns]
    rfl
theorem tkD_ints (ns : List Int) : tkD (.tup (ns.map .int)) = some (.tup (ns.map .num)) := by
  show ((nksD (ns.map .int)).bind fun ks => if (NestedKey.tup ks).depth ≤ 8 then some (NestedKey.tup ks) else none) = _
  rw [nksD_ints]
  show (if (NestedKey.tup (ns.map .num)).depth ≤ 8 then some (NestedKey.tup (ns.map .num)) else none) = _
  rw [if_pos (by unfold NestedKey.depth; rw [depth_nums]; omega)]
theorem nums_inj : ∀ {a b : List Int}, a.map NestedKey.num = b.map NestedKey.num → a = b
  | [], [], _ => rfl
  | [], _ :: _, h => by cases h
  | _ :: _, [], h => by cases h
  | x :: a, y :: b, h => by
    obtain ⟨h1, h2⟩ := List.cons.inj h
    rw [NestedKey.num.inj h1, nums_inj h2]
theorem num_inj {a b : List Int} (h : NestedKey.tup (a.map .num) = NestedKey.tup (b.map .num)) : a = b := nums_inj (NestedKey.tup.inj h)
end Mc
end
section
set_option maxHeartbeats 1000000
/-! Li: sorted rows; sets of places. -/
namespace Lb
open PySem PySem.Spec PyProof.Rows L2 Rf
/-! ### sorted -/
def tpB (x : D) : Bool := match Rf.encD x with
  | .tuple (_ :: _) => true
  | _ => false
theorem lt_irr (x : D) : ltB x x = false := PyProof.Rows.lex_irrefl _
theorem lt_tr {x y z : D} (h : ltB x y = true) (h' : ltB y z = true) : ltB x z = true := PyProof.Rows.lex_trans _ _ _ h h'
theorem lt_asymm {x y : D} (h : ltB x y = true) : ltB y x = false := by
  cases h' : ltB y x with
  | false => rfl
  | true => have := lt_tr h h'; rw [lt_irr] at this; cases this
theorem sortable_tup {ps : List PyData} (h : ∀ p ∈ ps, (match p with | .tuple (_ :: _) => true | _ => false) = true) : sortableB ps = true := by
  unfold sortableB
  rw [Bool.or_eq_true, List.all_eq_true]
  exact .inl h
theorem sorted_of {S : Sto} {xs ys : List D} (ok : ∀ d ∈ xs, okD 20 d = true) (al : ∀ d ∈ xs, ∀ e ∈ xs, alkB d e = true) (tp : ∀ d ∈ xs, tpB d = true) (pm : ys.Perm xs) (pw : ys.Pairwise fun a b => ltB a b = true) : sortedD S [.lst xs] = some (.lst ys) := by
  have e1 : sortXs xs = some (xs.mergeSort (PySem.W.dataLe false Rf.encD)) := by
    unfold sortXs
    rw [pyDs_ok ok]
    have c1 : alikeB (xs.map Rf.encD) = true := by
      unfold alikeB
      rw [List.all_eq_true]
      intro d hd
      rw [List.all_eq_true]
      intro e he
      obtain ⟨d', hd', rfl⟩ := List.mem_map.mp hd
      obtain ⟨e', he', rfl⟩ := List.mem_map.mp he
      exact al d' hd' e' he'
    have c2 : sortableB (xs.map Rf.encD) = true := sortable_tup fun p hp => by
      obtain ⟨d', hd', rfl⟩ := List.mem_map.mp hp
      exact tp d' hd'
    have c3 : SeqAt.shaped (.list (xs.map Rf.encD)) = true := by
      obtain ⟨h1, h2⟩ := lay_all (ps := xs.map Rf.encD) fun p hp => by
        obtain ⟨d, hd, rfl⟩ := List.mem_map.mp hp
        obtain ⟨p, e, k1, k2⟩ := py_of 20 d (ok d hd)
        rw [encD_of e]
        exact ⟨k1, k2⟩
      unfold SeqAt.shaped
      rw [Bool.and_eq_true]
      refine ⟨by simpa [PyData.canLay0] using h1, decide_eq_true ?_⟩
      simp only [PyData.depth]
      omega
    simp only [c1, c2, c3, Bool.and_self, if_true]
  show (sortXs xs).map D.lst = _
  rw [e1]
  show some (D.lst _) = _
  congr 2
  have le_eq : ∀ a b : D, PySem.W.dataLe false Rf.encD a b = !ltB b a := fun a b => by rw [PySem.W.dataLe_eq]; rfl
  have ms := List.pairwise_mergeSort (le := PySem.W.dataLe false Rf.encD) (fun a b c h1 h2 => by
    rw [le_eq] at h1 h2 ⊢
    rw [Bool.not_eq_true'] at h1 h2 ⊢
    cases h : ltB c a with
    | false => rfl
    | true =>
      rcases PyProof.Rows.lex_negTrans _ (PySem.W.keyToks (Rf.encD b)) _ h with h3 | h3
      · have h3 : ltB c b = true := h3
        rw [h3] at h2
        cases h2
      · have h3 : ltB b a = true := h3
        rw [h3] at h1
        cases h1) (fun a b => by
    rw [le_eq, le_eq]
    cases h : ltB b a with
    | false => rfl
    | true => rw [lt_asymm h]; rfl) xs
  refine List.Perm.eq_of_pairwise (le := fun a b => PySem.W.dataLe false Rf.encD a b = true) (fun a b ha hb h1 h2 => ?_) ms (pw.imp fun {a b} h => by rw [le_eq, lt_asymm h]; rfl) ((List.mergeSort_perm _ _).trans pm.symm)
  · have ha : a ∈ ys := pm.mem_iff.mpr ((List.mergeSort_perm _ _).mem_iff.mp ha)
    rw [le_eq, Bool.not_eq_true'] at h1 h2
    by_cases hab : a = b
    · exact hab
    · exfalso
      obtain ⟨i, hi, rfl⟩ := List.mem_iff_getElem.mp ha
      obtain ⟨j, hj, rfl⟩ := List.mem_iff_getElem.mp hb
      rw [List.pairwise_iff_getElem] at pw
      rcases Nat.lt_trichotomy i j with q | q | q
      · have := pw i j hi hj q
        rw [h2] at this
        cases this
      · subst q
        exact hab rfl
      · have := pw j i hj hi q
        rw [h1] at this
        cases this
theorem sort_filter {α : Type} {enc : α → D} {L M : List α} (p : α → Bool) (hs : L.Pairwise fun a b => ltB (enc a) (enc b) = true) (pm : L.Perm M) (ok : ∀ a ∈ L, okD 20 (enc a) = true) (al : ∀ a ∈ L, ∀ b ∈ L, alkB (enc a) (enc b) = true) (tp : ∀ a ∈ L, tpB (enc a) = true) {S : Sto} : sortedD S [.lst ((M.filter p).map enc)] = some (.lst ((L.filter p).map enc)) := by
  refine sorted_of (fun d hd => ?_) (fun d hd e he => ?_) (fun d hd => ?_) ((pm.filter p).map enc) ?_
  · obtain ⟨a, ha, rfl⟩ := List.mem_map.mp hd
    exact ok a (pm.mem_iff.mpr (List.mem_filter.mp ha).1)
  · obtain ⟨a, ha, rfl⟩ := List.mem_map.mp hd
    obtain ⟨b, hb, rfl⟩ := List.mem_map.mp he
    exact al a (pm.mem_iff.mpr (List.mem_filter.mp ha).1) b (pm.mem_iff.mpr (List.mem_filter.mp hb).1)
  · obtain ⟨a, ha, rfl⟩ := List.mem_map.mp hd
    exact tp a (pm.mem_iff.mpr (List.mem_filter.mp ha).1)
  · rw [List.pairwise_map]
    exact hs.filter p
/-! ### sets of places -/
def tD (c : List Nat) : D := .tup (c.map nD)
theorem tD_ok (c : List Nat) (h : c.length ≤ 1000) (n : Nat) : okD (n + 1) (tD c) = true := okD_tupOf (by simp; omega) (fun d hd => by obtain ⟨m, _, rfl⟩ := List.mem_map.mp hd; exact okD_int _ _)
theorem eqBs_nD : ∀ a b : List Nat, eqBs (a.map nD) (b.map nD) = (a == b)
  | [], [] => by simp [eqBs]
  | [], _ :: _ => by simp [eqBs]
  | _ :: _, [] => by simp [eqBs]
  | x :: a, y :: b => by
    have ih := eqBs_nD a b
    simp only [List.map_cons, eqBs, ih, nD, eqB_int]
    rw [Bool.eq_iff_iff]
    simp
    intro _
    omega
theorem eq_tD (S : Sto) {a b : List Nat} (ha : a.length ≤ 1000) (hb : b.length ≤ 1000) : eqS S (tD a) (tD b) = some (a == b) := by
  rw [eqS_ok (n := 10) (by omega) (tD_ok a ha 9) (tD_ok b hb 9)]
  unfold tD
  rw [eqB_tup, eqBs_nD]
/-- all sets of the first places, as they are told by doubling -/
def sbs : Nat → List (List Nat)
  | 0 => [[]]
  | n + 1 => sbs n ++ (sbs n).map (· ++ [n])
theorem sbs_len : ∀ n, (sbs n).length = 2 ^ n
  | 0 => rfl
  | n + 1 => by
    show (sbs n ++ (sbs n).map (· ++ [n])).length = _
    rw [List.length_append, List.length_map, sbs_len n, Nat.pow_succ]
    omega
theorem sbs_lt : ∀ (n : Nat), ∀ c ∈ sbs n, c.length ≤ n ∧ ∀ j ∈ c, j < n
  | 0, c, h => by
    have : c = [] := by simpa [sbs] using h
    subst this
    simp
  | n + 1, c, h => by
    rcases List.mem_append.mp (show c ∈ sbs n ++ (sbs n).map (· ++ [n]) from h) with h | h
    · obtain ⟨h1, h2⟩ := sbs_lt n c h
      exact ⟨by omega, fun j hj => by have := h2 j hj; omega⟩
    · obtain ⟨d, hd, rfl⟩ := List.mem_map.mp h
      obtain ⟨h1, h2⟩ := sbs_lt n d hd
      refine ⟨by simp; omega, fun j hj => ?_⟩
      rcases List.mem_append.mp hj with hj | hj
      · have := h2 j hj; omega
      · have : j = n := by simpa using hj
        omega
/-- the choices by number and in order -/
def cbo (n r : Nat) : List (List Nat) := (cmb n r).getD []
def cbos (n : Nat) : List (List Nat) := ((List.range n).map (1 + ·)).flatMap (cbo n)
def n15 (n : Nat) : Prop := n = 1 ∨ n = 2 ∨ n = 3 ∨ n = 4 ∨ n = 5
theorem cbo_eq {n r : Nat} (hn : n15 n) (h : r ≤ 5) : combD (rgI n) r = some ((cbo n r).map tD) := by
  have hr : r = 0 ∨ r = 1 ∨ r = 2 ∨ r = 3 ∨ r = 4 ∨ r = 5 := by omega
  rcases hn with rfl | rfl | rfl | rfl | rfl <;> rcases hr with rfl | rfl | rfl | rfl | rfl | rfl <;> rfl
theorem cbo_mem {n r : Nat} (hn : n15 n) (h : r ≤ 5) (h0 : 1 ≤ r) : ∀ c ∈ cbo n r, c ≠ [] ∧ c.length ≤ 5 ∧ ∀ j ∈ c, j < n := by
  have hr : r = 1 ∨ r = 2 ∨ r = 3 ∨ r = 4 ∨ r = 5 := by omega
  rcases hn with rfl | rfl | rfl | rfl | rfl <;> rcases hr with rfl | rfl | rfl | rfl | rfl <;> decide +kernel
theorem cbos_mem {n : Nat} (hn : n15 n) : ∀ c ∈ cbos n, c ≠ [] ∧ c.length ≤ 5 ∧ ∀ j ∈ c, j < n := by
  intro c hc
  obtain ⟨r, hr, hc⟩ := List.mem_flatMap.mp hc
  have : 1 ≤ r ∧ r ≤ 5 := by unfold n15 at hn; simp at hr; omega
  exact cbo_mem hn this.2 this.1 c hc
/-- the same in the order of rows -/
def lxs : Nat → List (List Nat)
  | 1 => [[0]]
  | 2 => [[0], [0, 1], [1]]
  | 3 => [[0], [0, 1], [0, 1, 2], [0, 2], [1], [1, 2], [2]]
  | 4 => [[0], [0, 1], [0, 1, 2], [0, 1, 2, 3], [0, 1, 3], [0, 2], [0, 2, 3], [0, 3], [1], [1, 2], [1, 2, 3], [1, 3], [2], [2, 3], [3]]
  | _ => []
theorem lxs_facts {n : Nat} (hn : n = 1 ∨ n = 2 ∨ n = 3 ∨ n = 4) : (lxs n).Perm (cbos n) ∧ (lxs n).Perm ((sbs n).filter fun c => !c.isEmpty) ∧ ((lxs n).Pairwise fun a b => ltB (tD a) (tD b) = true) ∧ (∀ a ∈ lxs n, ∀ b ∈ lxs n, alkB (tD a) (tD b) = true) ∧ (∀ a ∈ lxs n, tpB (tD a) = true) ∧ (∀ a ∈ lxs n, a.length ≤ 5) := by
  rcases hn with rfl | rfl | rfl | rfl <;> decide +kernel
def subB (a b : List Nat) : Bool := a.all fun j => b.contains j
theorem cbos_order {n : Nat} (hn : n15 n) : ((cbos n).Pairwise fun a b => subB b a = false) ∧ (∀ a ∈ cbos n, ∀ b ∈ cbos n, subB a b = true → a ≠ b → a.length < b.length) ∧ (∀ a ∈ cbos n, ∀ b ∈ cbos n, ∀ c ∈ cbos n, subB a b = true → subB b c = true → subB a c = true) := by
  rcases hn with rfl | rfl | rfl | rfl | rfl <;> decide +kernel
end Lb
end
section
set_option maxHeartbeats 1000000
/-! Lj: the order of data is total; comparisons of tuples reckoned. -/
namespace Lb
open PySem PySem.Spec PyProof.Rows L2 Rf
/-- neither less: equal -/
theorem eqv_of_toks {x y : PyData} (ha : PySem.W.alike x y = true) (h1 : PySem.W.dataLt x y = false) (h2 : PySem.W.dataLt y x = false) : PyData.eqv x y = true := by
  have e : PySem.W.keyToks x = PySem.W.keyToks y := lex_total (O := PyProof.Rows.itemOrd) _ _ h1 h2
  cases q : PyData.eqv x y with
  | true => rfl
  | false =>
    exfalso
    have z := (PySem.W.toks_eqv x y ha).2 q
    have z1 := z [] [Sum.inl 0]
    rw [e] at z1
    have n : PyProof.Rows.lexLt PyProof.Rows.itemOrd (PySem.W.keyToks y) (PySem.W.keyToks y) = false := lex_irrefl _
    rw [n] at z1
    have z2 : PyProof.Rows.lexLt PyProof.Rows.itemOrd (PySem.W.keyToks y ++ []) (PySem.W.keyToks y ++ [Sum.inl 0]) = PyProof.Rows.lexLt PyProof.Rows.itemOrd [] [Sum.inl 0] := PySem.W.lex_pre _ _ _
    rw [z2] at z1
    cases z1
theorem eqB_of_lt {x y : D} (ox : okD 20 x = true) (oy : okD 20 y = true) (ha : alkB x y = true) (h1 : ltB x y = false) (h2 : ltB y x = false) : eqB x y = true := by
  obtain ⟨p, e1, _, _⟩ := py_of 20 x ox
  obtain ⟨q, e2, _, _⟩ := py_of 20 y oy
  unfold alkB at ha
  unfold ltB at h1 h2
  rw [encD_of e1, encD_of e2] at ha h1 h2
  rw [← eqv_of x y p q e1 e2]
  exact eqv_of_toks ha h1 h2
/-- x < y of data -/
theorem ltS_ok {S : Sto} {x y : D} (ox : okD 20 x = true) (oy : okD 20 y = true) (ha : alkB x y = true) (hn : nnB x = true) : ltS S x y = some (ltB x y) := by
  have key : (match pyS S x, pyS S y with
    | some p, some q => if PySem.W.alike p q && SeqAt.shaped p && SeqAt.shaped q && notNoneP p then some (PySem.W.dataLt p q) else none
    | _, _ => none) = some (ltB x y) := by
    obtain ⟨p, e1, _, _⟩ := py_of 20 x ox
    obtain ⟨q, e2, _, _⟩ := py_of 20 y oy
    rw [pyS_of ox, pyS_of oy, e1, e2]
    unfold alkB at ha
    unfold nnB at hn
    unfold ltB
    rw [encD_of e1, encD_of e2] at ha ⊢
    rw [encD_of e1] at hn
    simp only [ha, shaped_of (by omega) ox e1, shaped_of (by omega) oy e2, hn, Bool.and_self, if_true]
  unfold ltS
  split
  · rename_i i j
    obtain ⟨p, e1, _, _⟩ := py_of 20 (.int i) ox
    congr 1
    unfold ltB
    rw [encD_of (x := .int i) (p := .int i) rfl, encD_of (x := .int j) (p := .int j) rfl, PySem.W.dataLt_int]
  · exact key
theorem ltD_ok {S : Sto} {x y : D} (ox : okD 20 x = true) (oy : okD 20 y = true) (ha : alkB x y = true) (hn : nnB x = true) : ltD S x y = some (.bl (ltB x y)) := by
  unfold ltD
  rw [ltS_ok ox oy ha hn]
  rfl
/-- the lesser of two data -/
theorem min2Q_ok {S : Sto} {x y : D} (ox : okD 20 x = true) (oy : okD 20 y = true) (ha : alkB x x = true ∧ alkB x y = true ∧ alkB y x = true ∧ alkB y y = true) (hn : nnB x = true ∧ nnB y = true) (hh : hardD x = true ∧ hardD y = true) : min2Q S [x, y] = some (if ltB y x = true then y else x) := by
  obtain ⟨p, e1, c1, d1⟩ := py_of 20 x ox
  obtain ⟨q, e2, c2, d2⟩ := py_of 20 y oy
  show two2 PySem.W.dataLt x y = _
  unfold two2
  rw [e1, e2]
  unfold alkB at ha
  unfold nnB at hn
  unfold ltB
  rw [encD_of e1, encD_of e2] at ha hn ⊢
  have sh : SeqAt.shaped (.list [p, q]) = true := by
    unfold SeqAt.shaped
    rw [PyData.canLay0, PyData.depth]
    simp only [PyData.canLayAll0, c1, c2, PyData.depthAll, Bool.and_self, Bool.true_and]
    exact decide_eq_true (by omega)
  have al : alikeB [p, q] = true := by
    unfold alikeB
    simp [ha.1, ha.2.1, ha.2.2.1, ha.2.2.2]
  simp only [al, hn.1, hn.2, sh, hh.1, hh.2, List.all_cons, List.all_nil, Bool.and_self, Bool.and_true, if_true]
/-- tuples: by their first entries -/
theorem enc_tup {xs : List D} (h : ∀ d ∈ xs, okD 20 d = true) : Rf.encD (.tup xs) = .tuple (xs.map Rf.encD) := by
  unfold Rf.encD
  have e : pyD (.tup xs) = (pyDs xs).map PyData.tuple := rfl
  rw [e, pyDs_ok h]
  rfl
theorem enc_int (i : Int) : Rf.encD (.int i) = .int i := rfl
theorem enc_str (i : PySem.Str) : Rf.encD (.str i) = .str i := rfl
theorem lt_cons {x y : D} {xs ys : List D} (hx : ∀ d ∈ x :: xs, okD 20 d = true) (hy : ∀ d ∈ y :: ys, okD 20 d = true) (ha : alkB x y = true) : ltB (.tup (x :: xs)) (.tup (y :: ys)) = if eqB x y = true then ltB (.tup xs) (.tup ys) else ltB x y := by
  have hx' : ∀ d ∈ xs, okD 20 d = true := fun d hd => hx d (List.mem_cons_of_mem _ hd)
  have hy' : ∀ d ∈ ys, okD 20 d = true := fun d hd => hy d (List.mem_cons_of_mem _ hd)
  unfold ltB
  rw [enc_tup hx, enc_tup hy, enc_tup hx', enc_tup hy', PySem.W.dataLt_tuple, PySem.W.dataLt_tuple, List.map_cons, List.map_cons, PySem.W.dataLt_cons ha]
  obtain ⟨p, e1, _, _⟩ := py_of 20 x (hx x (by simp))
  obtain ⟨q, e2, _, _⟩ := py_of 20 y (hy y (by simp))
  rw [encD_of e1, encD_of e2, eqv_of x y p q e1 e2]
theorem lt_int (i j : Int) : ltB (.int i) (.int j) = decide (i < j) := PySem.W.dataLt_int i j
theorem alk_int (i j : Int) : alkB (.int i) (.int j) = true := by
  unfold alkB
  rw [enc_int, enc_int]
  simp [PySem.W.alike]
theorem alk_str (i j : PySem.Str) : alkB (.str i) (.str j) = true := by
  unfold alkB
  rw [enc_str, enc_str]
  simp [PySem.W.alike]
theorem alk_cons {x y : D} {xs ys : List D} (hx : ∀ d ∈ x :: xs, okD 20 d = true) (hy : ∀ d ∈ y :: ys, okD 20 d = true) : alkB (.tup (x :: xs)) (.tup (y :: ys)) = (alkB x y && alkB (.tup xs) (.tup ys)) := by
  have hx' : ∀ d ∈ xs, okD 20 d = true := fun d hd => hx d (List.mem_cons_of_mem _ hd)
  have hy' : ∀ d ∈ ys, okD 20 d = true := fun d hd => hy d (List.mem_cons_of_mem _ hd)
  unfold alkB
  rw [enc_tup hx, enc_tup hy, enc_tup hx', enc_tup hy', List.map_cons, List.map_cons]
  simp [PySem.W.alike, PySem.W.alikeAll]
theorem alk_nil {ys : List D} (hy : ∀ d ∈ ys, okD 20 d = true) : alkB (.tup []) (.tup ys) = true := by
  unfold alkB
  rw [enc_tup (by simp), enc_tup hy]
  cases ys <;> simp [PySem.W.alike, PySem.W.alikeAll]
theorem alk_nil' {ys : List D} (hy : ∀ d ∈ ys, okD 20 d = true) : alkB (.tup ys) (.tup []) = true := by
  unfold alkB
  rw [enc_tup (xs := []) (by simp), enc_tup hy]
  cases ys <;> simp [PySem.W.alike, PySem.W.alikeAll]
theorem nn_tup (xs : List D) (h : ∀ d ∈ xs, okD 20 d = true) : nnB (.tup xs) = true := by
  unfold nnB
  rw [enc_tup h]
  rfl
end Lb
end
section
set_option maxHeartbeats 200000
/-! Cd: words of bits, spans, reduced bases, checks (plain). -/
namespace Cd
abbrev Wd := List Bool
def xr (a b : Wd) : Wd := List.zipWith Bool.xor a b
def bt (w : Wd) (i : Nat) : Bool := w.getD i false
def zr (n : Nat) : Wd := List.replicate n false
def ld (w : Wd) : Nat := w.findIdx id
def wt (w : Wd) : Nat := w.countP id
theorem xr_len {a b : Wd} {n : Nat} (ha : a.length = n) (hb : b.length = n) : (xr a b).length = n := by
  unfold xr
  rw [List.length_zipWith, ha, hb, Nat.min_self]
theorem zr_len (n : Nat) : (zr n).length = n := List.length_replicate
theorem bt_out {w : Wd} {i : Nat} (h : w.length ≤ i) : bt w i = false := by
  unfold bt
  rw [List.getD_eq_getElem?_getD, List.getElem?_eq_none h]
  rfl
theorem bt_in {w : Wd} {i : Nat} (h : i < w.length) : bt w i = w[i] := by
  unfold bt
  rw [List.getD_eq_getElem?_getD, List.getElem?_eq_getElem h]
  rfl
theorem bt_lt {w : Wd} {i : Nat} (h : bt w i = true) : i < w.length := by
  by_cases q : i < w.length
  · exact q
  · rw [bt_out (by omega)] at h
    cases h
theorem bt_xr {a b : Wd} (h : a.length = b.length) (i : Nat) : bt (xr a b) i = Bool.xor (bt a i) (bt b i) := by
  by_cases q : i < a.length
  · rw [bt_in (by rw [xr_len rfl h.symm]; exact q), bt_in q, bt_in (h ▸ q)]
    unfold xr
    rw [List.getElem_zipWith]
  · rw [bt_out (by rw [xr_len rfl h.symm]; omega), bt_out (by omega), bt_out (by omega)]
    rfl
theorem bt_zr (n i : Nat) : bt (zr n) i = false := by
  by_cases q : i < n
  · rw [bt_in (by rw [zr_len]; exact q)]
    unfold zr
    rw [List.getElem_replicate]
  · exact bt_out (by rw [zr_len]; omega)
theorem wext {a b : Wd} (h : a.length = b.length) (e : ∀ i, bt a i = bt b i) : a = b := by
  refine List.ext_getElem h fun i h1 h2 => ?_
  have := e i
  rw [bt_in h1, bt_in h2] at this
  exact this
theorem xr_comm {a b : Wd} {n : Nat} (ha : a.length = n) (hb : b.length = n) : xr a b = xr b a :=
  wext (by rw [xr_len ha hb, xr_len hb ha]) fun i => by rw [bt_xr (by omega), bt_xr (by omega), Bool.xor_comm]
theorem xr_assoc {a b c : Wd} {n : Nat} (ha : a.length = n) (hb : b.length = n) (hc : c.length = n) : xr (xr a b) c = xr a (xr b c) :=
  wext (by rw [xr_len (xr_len ha hb) hc, xr_len ha (xr_len hb hc)]) fun i => by
    rw [bt_xr (by rw [xr_len ha hb, hc]), bt_xr (by omega), bt_xr (by rw [xr_len hb hc, ha]), bt_xr (by omega), Bool.xor_assoc]
theorem xr_self {a : Wd} {n : Nat} (ha : a.length = n) : xr a a = zr n :=
  wext (by rw [xr_len ha ha, zr_len]) fun i => by rw [bt_xr rfl, Bool.xor_self, bt_zr]
theorem xr_zr {a : Wd} {n : Nat} (ha : a.length = n) : xr a (zr n) = a :=
  wext (by rw [xr_len ha (zr_len n), ha]) fun i => by rw [bt_xr (by rw [ha, zr_len]), bt_zr, Bool.xor_false]
theorem xr_can {a b : Wd} {n : Nat} (ha : a.length = n) (hb : b.length = n) : xr (xr a b) b = a := by
  rw [xr_assoc ha hb hb, xr_self hb, xr_zr ha]
/-! ### spans -/
def In (n : Nat) (rows : List Wd) (w : Wd) : Prop := ∀ P : Wd → Prop, P (zr n) → (∀ a b, a.length = n → b.length = n → P a → P b → P (xr a b)) → (∀ r ∈ rows, P r) → P w
section
variable {n : Nat} {rows rows' : List Wd} {a b w r : Wd}
theorem In.zero : In n rows (zr n) := fun P h0 _ _ => h0
theorem In.mem (h : r ∈ rows) : In n rows r := fun P _ _ h2 => h2 r h
theorem In.xr (la : a.length = n) (lb : b.length = n) (ha : In n rows a) (hb : In n rows b) : In n rows (xr a b) := fun P h0 h1 h2 => h1 a b la lb (ha P h0 h1 h2) (hb P h0 h1 h2)
theorem In.len (hr : ∀ r ∈ rows, r.length = n) (h : In n rows w) : w.length = n := h (fun w => w.length = n) (zr_len n) (fun _ _ _ _ => xr_len) hr
theorem In.mono (h : ∀ r ∈ rows, In n rows' r) (hw : In n rows w) : In n rows' w := hw (In n rows') .zero (fun _ _ la lb => In.xr la lb) h
theorem In.snoc (hr : ∀ r ∈ rows, r.length = n) (lr : r.length = n) (lw : w.length = n) : In n (rows ++ [r]) w ↔ In n rows w ∨ In n rows (Cd.xr w r) := by
  constructor
  · intro h
    refine (h (fun w => w.length = n ∧ (In n rows w ∨ In n rows (Cd.xr w r))) ⟨zr_len n, .inl .zero⟩ ?_ ?_).2
    · rintro a b la lb ⟨_, ha⟩ ⟨_, hb⟩
      refine ⟨xr_len la lb, ?_⟩
      rcases ha with ha | ha <;> rcases hb with hb | hb
      · exact .inl (.xr la lb ha hb)
      · right
        rw [xr_assoc la lb lr]
        exact .xr la (xr_len lb lr) ha hb
      · right
        rw [xr_assoc la lb lr, xr_comm lb lr, ← xr_assoc la lr lb]
        exact .xr (xr_len la lr) lb ha hb
      · left
        have e : Cd.xr a b = Cd.xr (Cd.xr a r) (Cd.xr b r) := by
          rw [xr_assoc la lr (xr_len lb lr), xr_comm lr (xr_len lb lr), xr_can lb lr]
        rw [e]
        exact .xr (xr_len la lr) (xr_len lb lr) ha hb
    · intro s hs
      rcases List.mem_append.mp hs with z | z
      · exact ⟨hr s z, .inl (.mem z)⟩
      · have e : s = r := by simpa using z
        subst e
        exact ⟨lr, .inr (by rw [xr_self lr]; exact .zero)⟩
  · intro h
    have up : ∀ {v : Wd}, In n rows v → In n (rows ++ [r]) v := fun h => In.mono (fun s hs => .mem (List.mem_append_left _ hs)) h
    rcases h with h | h
    · exact up h
    · rw [← xr_can lw lr]
      exact .xr (xr_len lw lr) lr (up h) (.mem (by simp))
end
/-! ### the words of a code -/
def wds (n : Nat) (B : List Wd) : List Wd := B.foldl (fun f r => f ++ f.map fun w => xr w r) [zr n]
def lwds (n : Nat) (B : List Wd) : List Wd := B.foldl (fun f r => f ++ (f.filter fun w => !f.contains (xr w r)).map fun w => xr w r) [zr n]
theorem foldl_snoc {α β : Type} (f : β → α → β) (b : β) (xs : List α) (x : α) : (xs ++ [x]).foldl f b = f (xs.foldl f b) x := by
  rw [List.foldl_append]
  rfl
theorem snoc_ind {α : Type} {P : List α → Prop} (h0 : P []) (h1 : ∀ xs x, P xs → P (xs ++ [x])) (xs : List α) : P xs := by
  rw [← List.reverse_reverse xs]
  induction xs.reverse with
  | nil => exact h0
  | cons x xs ih =>
    rw [List.reverse_cons]
    exact h1 _ _ ih
theorem in_nil {n : Nat} {w : Wd} : In n [] w ↔ w = zr n :=
  ⟨fun h => h (fun w => w = zr n) rfl (fun a b _ _ ha hb => by rw [ha, hb, xr_self (zr_len n)]) (by simp), fun e => by rw [e]; exact .zero⟩
theorem wds_mem {n : Nat} (B : List Wd) : (∀ r ∈ B, r.length = n) → ∀ w, w ∈ wds n B ↔ In n B w := by
  refine snoc_ind (P := fun B => (∀ r ∈ B, r.length = n) → ∀ w, w ∈ wds n B ↔ In n B w) ?_ ?_ B
  · intro _ w
    rw [in_nil]
    simp [wds]
  · intro B r ih h w
    have hB : ∀ s ∈ B, s.length = n := fun s hs => h s (List.mem_append_left _ hs)
    have hr : r.length = n := h r (by simp)
    have ih := ih hB
    have e : wds n (B ++ [r]) = wds n B ++ (wds n B).map fun w => xr w r := foldl_snoc _ _ _ _
    rw [e, List.mem_append, List.mem_map, ih]
    constructor
    · intro q
      rcases q with q | ⟨v, hv, rfl⟩
      · exact (In.snoc hB hr (q.len hB)).mpr (.inl q)
      · have hv := (ih v).mp hv
        have lv := hv.len hB
        exact (In.snoc hB hr (xr_len lv hr)).mpr (.inr (by rw [xr_can lv hr]; exact hv))
    · intro q
      have lw := q.len h
      rcases (In.snoc hB hr lw).mp q with q | q
      · exact .inl q
      · exact .inr ⟨_, (ih _).mpr q, xr_can lw hr⟩
theorem lwds_mem {n : Nat} (B : List Wd) : (∀ r ∈ B, r.length = n) → ∀ w, w ∈ lwds n B ↔ In n B w := by
  refine snoc_ind (P := fun B => (∀ r ∈ B, r.length = n) → ∀ w, w ∈ lwds n B ↔ In n B w) ?_ ?_ B
  · intro _ w
    rw [in_nil]
    simp [lwds]
  · intro B r ih h w
    have hB : ∀ s ∈ B, s.length = n := fun s hs => h s (List.mem_append_left _ hs)
    have hr : r.length = n := h r (by simp)
    have ih := ih hB
    have e : lwds n (B ++ [r]) = lwds n B ++ ((lwds n B).filter fun w => !(lwds n B).contains (xr w r)).map fun w => xr w r := foldl_snoc _ _ _ _
    rw [e, List.mem_append, List.mem_map, ih]
    constructor
    · intro q
      rcases q with q | ⟨v, hv, rfl⟩
      · exact (In.snoc hB hr (q.len hB)).mpr (.inl q)
      · have hv := (ih v).mp (List.mem_filter.mp hv).1
        have lv := hv.len hB
        exact (In.snoc hB hr (xr_len lv hr)).mpr (.inr (by rw [xr_can lv hr]; exact hv))
    · intro q
      have lw := q.len h
      rcases (In.snoc hB hr lw).mp q with q | q
      · exact .inl q
      · by_cases z : In n B w
        · exact .inl z
        · refine .inr ⟨_, List.mem_filter.mpr ⟨(ih _).mpr q, ?_⟩, xr_can lw hr⟩
          rw [xr_can lw hr]
          cases hc : (lwds n B).contains w with
          | false => rfl
          | true => exact absurd ((ih w).mp (List.contains_iff_mem.mp hc)) z
theorem xr_inj {n : Nat} {r : Wd} (hr : r.length = n) {a b : Wd} (ha : a.length = n) (hb : b.length = n) (e : xr a r = xr b r) : a = b := by
  rw [← xr_can ha hr, e, xr_can hb hr]
theorem nodup_map {r : Wd} {n : Nat} (hr : r.length = n) : ∀ {f : List Wd}, f.Nodup → (∀ w ∈ f, w.length = n) → (f.map fun w => xr w r).Nodup := by
  intro f hf hl
  refine List.pairwise_map.mpr (List.Pairwise.imp_of_mem (R := fun a b => a ≠ b) (fun ha hb hne e => hne (xr_inj hr (hl _ ha) (hl _ hb) e)) hf)
theorem lwds_nodup {n : Nat} (B : List Wd) : (∀ r ∈ B, r.length = n) → (lwds n B).Nodup := by
  refine snoc_ind (P := fun B => (∀ r ∈ B, r.length = n) → (lwds n B).Nodup) ?_ ?_ B
  · intro _
    simp [lwds]
  · intro B r ih h
    have hB : ∀ s ∈ B, s.length = n := fun s hs => h s (List.mem_append_left _ hs)
    have hr : r.length = n := h r (by simp)
    have e : lwds n (B ++ [r]) = lwds n B ++ ((lwds n B).filter fun w => !(lwds n B).contains (xr w r)).map fun w => xr w r := foldl_snoc _ _ _ _
    have hl : ∀ w ∈ lwds n B, w.length = n := fun w hw => ((lwds_mem B hB w).mp hw).len hB
    rw [e, List.nodup_append]
    refine ⟨ih hB, nodup_map hr ((ih hB).filter _) fun w hw => hl w (List.mem_filter.mp hw).1, fun a ha b hb e => ?_⟩
    obtain ⟨v, hv, rfl⟩ := List.mem_map.mp hb
    have := (List.mem_filter.mp hv).2
    rw [← e] at this
    rw [List.contains_iff_mem.mpr ha] at this
    cases this
end Cd
end
section
set_option maxHeartbeats 200000
/-! Cf: reduced bases and checks (plain). -/
namespace Cd
/-! ### leading places -/
theorem ld_bt {w : Wd} {i : Nat} (h : bt w i = true) : bt w (ld w) = true := by
  have hi := bt_lt h
  have hx : w.findIdx id < w.length := List.findIdx_lt_length_of_exists ⟨w[i], List.getElem_mem hi, by rw [bt_in hi] at h; exact h⟩
  have := List.findIdx_getElem (w := hx)
  unfold ld
  rw [bt_in hx]
  exact this
theorem ld_lt {w : Wd} {j : Nat} (h : j < ld w) : bt w j = false := by
  by_cases q : j < w.length
  · rw [bt_in q]
    have := List.not_of_lt_findIdx (p := id) (xs := w) h
    exact this
  · exact bt_out (by omega)
theorem ld_of {w : Wd} {i : Nat} (h : bt w i = true) (hb : ∀ j, j < i → bt w j = false) : ld w = i := by
  have h1 := ld_bt h
  rcases Nat.lt_trichotomy (ld w) i with q | q | q
  · rw [hb _ q] at h1
    cases h1
  · exact q
  · rw [ld_lt q] at h
    cases h
theorem wt_zr (n : Nat) : wt (zr n) = 0 := by
  unfold wt zr
  rw [List.countP_eq_zero]
  intro x hx
  rw [List.mem_replicate] at hx
  rw [hx.2]
  simp
theorem wt_pos {w : Wd} (h : 0 < wt w) : bt w (ld w) = true := by
  unfold wt at h
  obtain ⟨x, hx, hp⟩ := List.countP_pos_iff.mp h
  obtain ⟨i, hi, rfl⟩ := List.getElem_of_mem hx
  exact ld_bt (i := i) (by rw [bt_in hi]; exact hp)
theorem wt_0 {w : Wd} {n : Nat} (hn : w.length = n) : wt w = 0 ↔ w = zr n := by
  constructor
  · intro h
    unfold wt at h
    rw [List.countP_eq_zero] at h
    refine wext (by rw [hn, zr_len]) fun i => ?_
    rw [bt_zr]
    by_cases q : i < w.length
    · rw [bt_in q]
      exact Bool.eq_false_iff.mpr (h _ (List.getElem_mem q))
    · exact bt_out (by omega)
  · rintro rfl
    exact wt_zr n
/-! ### reduced rows -/
structure Red (n : Nat) (B : List Wd) : Prop where
  len : ∀ r ∈ B, r.length = n
  one : ∀ r ∈ B, bt r (ld r) = true
  pw : B.Pairwise fun r s => bt r (ld s) = false ∧ bt s (ld r) = false
theorem Red.perm {n : Nat} {B C : List Wd} (h : Red n B) (p : C.Perm B) : Red n C where
  len := fun r hr => h.len r (p.mem_iff.mp hr)
  one := fun r hr => h.one r (p.mem_iff.mp hr)
  pw := (p.symm.pairwise_iff (R := fun r s : Wd => bt r (ld s) = false ∧ bt s (ld r) = false) fun h => ⟨h.2, h.1⟩).mp h.pw
def rdc (B : List Wd) (w : Wd) : Wd := B.foldl (fun w r => if bt w (ld r) = true then xr w r else w) w
theorem rdc_nil (w : Wd) : rdc [] w = w := rfl
theorem rdc_cons (r : Wd) (B : List Wd) (w : Wd) : rdc (r :: B) w = rdc B (if bt w (ld r) = true then xr w r else w) := rfl
theorem rdc_len {n : Nat} : ∀ {B : List Wd} {w : Wd}, (∀ r ∈ B, r.length = n) → w.length = n → (rdc B w).length = n
  | [], w, _, h => h
  | r :: B, w, hB, h => by
    rw [rdc_cons]
    refine rdc_len (fun s hs => hB s (List.mem_cons_of_mem _ hs)) ?_
    split
    · exact xr_len h (hB r (by simp))
    · exact h
/-- the bits of what is left -/
def adds (B : List Wd) (w : Wd) (p : Nat) (x : Bool) : Bool := B.foldl (fun x r => Bool.xor x (bt w (ld r) && bt r p)) x
theorem adds_cons (r : Wd) (B : List Wd) (w : Wd) (p : Nat) (x : Bool) : adds (r :: B) w p x = adds B w p (Bool.xor x (bt w (ld r) && bt r p)) := rfl
theorem adds_no {w : Wd} {p : Nat} : ∀ {B : List Wd} {x : Bool}, (∀ r ∈ B, (bt w (ld r) && bt r p) = false) → adds B w p x = x
  | [], x, _ => rfl
  | r :: B, x, h => by
    rw [adds_cons, h r (by simp), Bool.xor_false]
    exact adds_no fun s hs => h s (List.mem_cons_of_mem _ hs)
theorem adds_congr {w v : Wd} {p : Nat} : ∀ {B : List Wd} {x : Bool}, (∀ r ∈ B, bt w (ld r) = bt v (ld r)) → adds B w p x = adds B v p x
  | [], x, _ => rfl
  | r :: B, x, h => by
    rw [adds_cons, adds_cons, h r (by simp)]
    exact adds_congr fun s hs => h s (List.mem_cons_of_mem _ hs)
theorem rdc_bt {n p : Nat} : ∀ {B : List Wd} {w : Wd}, Red n B → w.length = n → bt (rdc B w) p = adds B w p (bt w p)
  | [], w, _, _ => rfl
  | r :: B, w, R, h => by
    have pw := List.pairwise_cons.mp R.pw
    have lr := R.len r (by simp)
    have R2 : Red n B := ⟨fun s hs => R.len s (List.mem_cons_of_mem _ hs), fun s hs => R.one s (List.mem_cons_of_mem _ hs), pw.2⟩
    rw [rdc_cons, adds_cons]
    by_cases q : bt w (ld r) = true
    · rw [if_pos q, rdc_bt R2 (xr_len h lr), q, bt_xr (by omega), Bool.true_and]
      refine adds_congr fun s hs => ?_
      rw [bt_xr (by omega), (pw.1 s hs).1, Bool.xor_false]
    · have q := Bool.eq_false_iff.mpr q
      rw [q, if_neg (by simp), rdc_bt R2 h, Bool.false_and, Bool.xor_false]
theorem adds_self {n : Nat} {r : Wd} {p : Nat} : ∀ {B : List Wd} {x : Bool}, Red n B → r ∈ B → adds B r p x = Bool.xor x (bt r p)
  | [], x, _, h => by cases h
  | s :: B, x, R, h => by
    have pw := List.pairwise_cons.mp R.pw
    have R2 : Red n B := ⟨fun s hs => R.len s (List.mem_cons_of_mem _ hs), fun s hs => R.one s (List.mem_cons_of_mem _ hs), pw.2⟩
    rw [adds_cons]
    rcases List.mem_cons.mp h with h | h
    · subst h
      rw [R.one r (by simp), Bool.true_and]
      exact adds_no fun s hs => by rw [(pw.1 s hs).1, Bool.false_and]
    · rw [(pw.1 r h).2, Bool.false_and, Bool.xor_false]
      exact adds_self R2 h
theorem adds_xr {n p : Nat} {a b : Wd} (la : a.length = n) (lb : b.length = n) : ∀ {B : List Wd} {x y : Bool}, adds B (xr a b) p (Bool.xor x y) = Bool.xor (adds B a p x) (adds B b p y)
  | [], x, y => rfl
  | r :: B, x, y => by
    rw [adds_cons, adds_cons, adds_cons, ← adds_xr la lb, bt_xr (by omega)]
    congr 1
    cases bt a (ld r) <;> cases bt b (ld r) <;> cases bt r p <;> cases x <;> cases y <;> rfl
theorem rdc_lead {n : Nat} {B : List Wd} {w r : Wd} (R : Red n B) (h : w.length = n) (hr : r ∈ B) : bt (rdc B w) (ld r) = false := by
  have key : ∀ {B : List Wd} {x : Bool}, Red n B → r ∈ B → adds B w (ld r) x = Bool.xor x (bt w (ld r)) := by
    intro B
    induction B with
    | nil => intro x _ h; cases h
    | cons s B ih =>
      intro x R h
      have pw := List.pairwise_cons.mp R.pw
      have R2 : Red n B := ⟨fun s hs => R.len s (List.mem_cons_of_mem _ hs), fun s hs => R.one s (List.mem_cons_of_mem _ hs), pw.2⟩
      rw [adds_cons]
      rcases List.mem_cons.mp h with h | h
      · subst h
        rw [R.one r (by simp), Bool.and_true]
        exact adds_no fun s hs => by rw [(pw.1 s hs).2, Bool.and_false]
      · rw [(pw.1 r h).1, Bool.and_false, Bool.xor_false]
        exact ih R2 h
  rw [rdc_bt R h, key R hr, Bool.xor_self]
theorem rdc_in {n : Nat} : ∀ {B : List Wd} {w : Wd}, (∀ r ∈ B, r.length = n) → w.length = n → In n B (xr (rdc B w) w)
  | [], w, _, h => by rw [rdc_nil, xr_self h]; exact .zero
  | r :: B, w, hB, h => by
    have lr := hB r (by simp)
    have hB2 : ∀ s ∈ B, s.length = n := fun s hs => hB s (List.mem_cons_of_mem _ hs)
    rw [rdc_cons]
    split
    · have l1 := xr_len h lr
      have i1 : In n (r :: B) (xr (rdc B (xr w r)) (xr w r)) := In.mono (fun s hs => .mem (List.mem_cons_of_mem _ hs)) (rdc_in hB2 l1)
      have l2 := rdc_len hB2 l1
      have e : xr (rdc B (xr w r)) w = xr (xr (rdc B (xr w r)) (xr w r)) r := by
        rw [xr_assoc l2 l1 lr, xr_can h lr]
      rw [e]
      exact .xr (xr_len l2 l1) lr i1 (.mem (by simp))
    · exact In.mono (fun s hs => .mem (List.mem_cons_of_mem _ hs)) (rdc_in hB2 h)
/-- a word is in the span exactly if nothing is left -/
theorem rdc_zero {n : Nat} {B : List Wd} {w : Wd} (R : Red n B) (h : w.length = n) : rdc B w = zr n ↔ In n B w := by
  constructor
  · intro e
    have := rdc_in R.len h
    rw [e, xr_comm (zr_len n) h, xr_zr h] at this
    exact this
  · intro hi
    refine (hi (fun w => w.length = n ∧ rdc B w = zr n) ⟨zr_len n, ?_⟩ ?_ ?_).2
    · refine wext (by rw [rdc_len R.len (zr_len n), zr_len]) fun i => ?_
      rw [rdc_bt R (zr_len n), adds_no (fun r _ => by rw [bt_zr, Bool.false_and])]
    · rintro a b la lb ⟨_, ha⟩ ⟨_, hb⟩
      refine ⟨xr_len la lb, ?_⟩
      refine wext (by rw [rdc_len R.len (xr_len la lb), zr_len]) fun i => ?_
      have h1 := rdc_bt (p := i) R la
      have h2 := rdc_bt (p := i) R lb
      rw [ha, bt_zr] at h1
      rw [hb, bt_zr] at h2
      rw [rdc_bt R (xr_len la lb), bt_xr (by omega), adds_xr la lb, ← h1, ← h2, bt_zr]
      rfl
    · intro r hr
      refine ⟨R.len r hr, wext (by rw [rdc_len R.len (R.len r hr), zr_len]) fun i => ?_⟩
      rw [rdc_bt R (R.len r hr), adds_self R hr, Bool.xor_self, bt_zr]
/-! ### the words of a reduced basis -/
theorem Red.init {n : Nat} {B : List Wd} {r : Wd} (R : Red n (B ++ [r])) : Red n B ∧ ∀ s ∈ B, bt s (ld r) = false ∧ bt r (ld s) = false := by
  have pw := List.pairwise_append.mp R.pw
  exact ⟨⟨fun s hs => R.len s (List.mem_append_left _ hs), fun s hs => R.one s (List.mem_append_left _ hs), pw.1⟩, fun s hs => pw.2.2 s hs r (by simp)⟩
theorem in_bit {n p : Nat} {B : List Wd} {w : Wd} (hB : ∀ s ∈ B, s.length = n ∧ bt s p = false) (h : In n B w) : bt w p = false :=
  (h (fun w => w.length = n ∧ bt w p = false) ⟨zr_len n, bt_zr n p⟩ (fun a b la lb ⟨_, ha⟩ ⟨_, hb⟩ => ⟨xr_len la lb, by rw [bt_xr (by omega), ha, hb]; rfl⟩) fun r hr => hB r hr).2
theorem wds_nodup {n : Nat} (B : List Wd) : Red n B → (wds n B).Nodup := by
  refine snoc_ind (P := fun B => Red n B → (wds n B).Nodup) ?_ ?_ B
  · intro _
    simp [wds]
  · intro B r ih R
    obtain ⟨R2, hb⟩ := R.init
    have hr : r.length = n := R.len r (by simp)
    have e : wds n (B ++ [r]) = wds n B ++ (wds n B).map fun w => xr w r := foldl_snoc _ _ _ _
    have hm := wds_mem B R2.len
    have hl : ∀ w ∈ wds n B, w.length = n := fun w hw => ((hm w).mp hw).len R2.len
    have hz : ∀ w ∈ wds n B, bt w (ld r) = false := fun w hw => in_bit (fun s hs => ⟨R2.len s hs, (hb s hs).1⟩) ((hm w).mp hw)
    rw [e, List.nodup_append]
    refine ⟨ih R2, nodup_map hr (ih R2) hl, fun a ha b hb e => ?_⟩
    obtain ⟨v, hv, rfl⟩ := List.mem_map.mp hb
    have h1 := hz a ha
    rw [e, bt_xr (by rw [hl v hv, hr]), hz v hv, R.one r (by simp)] at h1
    cases h1
/-! ### a basis of rows -/
def bstep (B : List Wd) (row : Wd) : List Wd := if 0 < wt (rdc B row) then (B.map fun o => if bt o (ld (rdc B row)) = true then xr o (rdc B row) else o) ++ [rdc B row] else B
theorem pairwise_map_of {α : Type} {R S : α → α → Prop} {f : α → α} {xs : List α} (h : xs.Pairwise R) (hf : ∀ a ∈ xs, ∀ b ∈ xs, R a b → S (f a) (f b)) : (xs.map f).Pairwise S :=
  List.pairwise_map.mpr (h.imp_of_mem fun ha hb r => hf _ ha _ hb r)
theorem bstep_ok {n : Nat} {B : List Wd} {row : Wd} (R : Red n B) (h : row.length = n) : Red n (bstep B row) ∧ ∀ v, v.length = n → (In n (bstep B row) v ↔ In n (B ++ [row]) v) := by
  have lw := rdc_len R.len h
  have hlead := fun r hr => rdc_lead (r := r) R h hr
  have hin := rdc_in R.len h
  unfold bstep
  generalize hw : rdc B row = w at *
  have lens : ∀ s ∈ B ++ [row], s.length = n := fun s hs => by
    rcases List.mem_append.mp hs with z | z
    · exact R.len s z
    · have : s = row := by simpa using z
      rw [this]
      exact h
  have up : ∀ {v : Wd}, In n B v → In n (B ++ [row]) v := fun h => In.mono (fun s hs => .mem (List.mem_append_left _ hs)) h
  split
  · rename_i hp
    have hone := wt_pos hp
    -- the rows changed
    have keep : ∀ o ∈ B, ∀ j, j ≤ ld o → bt (if bt o (ld w) = true then xr o w else o) j = bt o j := by
      intro o ho j hj
      split
      · rename_i q
        have hlt : ld o < ld w := by
          rcases Nat.lt_trichotomy (ld o) (ld w) with z | z | z
          · exact z
          · rw [← z, hlead o ho] at hone
            cases hone
          · rw [ld_lt z] at q
            cases q
        rw [bt_xr (by rw [R.len o ho, lw]), ld_lt (w := w) (j := j) (by omega), Bool.xor_false]
      · rfl
    have lo : ∀ o ∈ B, (if bt o (ld w) = true then xr o w else o).length = n := fun o ho => by
      split
      · exact xr_len (R.len o ho) lw
      · exact R.len o ho
    have ldo : ∀ o ∈ B, ld (if bt o (ld w) = true then xr o w else o) = ld o := fun o ho =>
      ld_of (by rw [keep o ho _ (Nat.le_refl _)]; exact R.one o ho) fun j hj => by rw [keep o ho j (by omega)]; exact ld_lt hj
    have z1 : ∀ o ∈ B, bt (if bt o (ld w) = true then xr o w else o) (ld w) = false := fun o ho => by
      split
      · rename_i q
        rw [bt_xr (by rw [R.len o ho, lw]), q, hone]
        rfl
      · rename_i q
        exact Bool.eq_false_iff.mpr q
    refine ⟨⟨fun r hr => ?_, fun r hr => ?_, List.pairwise_append.mpr ⟨?_, List.pairwise_singleton _ _, fun a ha b hb => ?_⟩⟩, fun v lv => ⟨fun hv => ?_, fun hv => ?_⟩⟩
    · rcases List.mem_append.mp hr with z | z
      · obtain ⟨o, ho, rfl⟩ := List.mem_map.mp z
        exact lo o ho
      · have : r = w := by simpa using z
        rw [this]; exact lw
    · rcases List.mem_append.mp hr with z | z
      · obtain ⟨o, ho, rfl⟩ := List.mem_map.mp z
        rw [ldo o ho, keep o ho _ (Nat.le_refl _)]
        exact R.one o ho
      · have : r = w := by simpa using z
        rw [this]; exact hone
    · refine pairwise_map_of R.pw fun a ha b hb hab => ?_
      rw [ldo a ha, ldo b hb]
      constructor
      · split
        · rw [bt_xr (by rw [R.len a ha, lw]), hab.1, hlead b hb]
          rfl
        · exact hab.1
      · split
        · rw [bt_xr (by rw [R.len b hb, lw]), hab.2, hlead a ha]
          rfl
        · exact hab.2
    · obtain ⟨o, ho, rfl⟩ := List.mem_map.mp ha
      have : b = w := by simpa using hb
      rw [this, ldo o ho]
      exact ⟨z1 o ho, hlead o ho⟩
    · refine In.mono (fun r hr => ?_) hv
      have iw : In n (B ++ [row]) w := by
        have e : w = xr (xr w row) row := (xr_can lw h).symm
        rw [e]
        exact .xr (xr_len lw h) h (up hin) (.mem (by simp))
      rcases List.mem_append.mp hr with z | z
      · obtain ⟨o, ho, rfl⟩ := List.mem_map.mp z
        split
        · exact .xr (R.len o ho) lw (.mem (List.mem_append_left _ ho)) iw
        · exact .mem (List.mem_append_left _ ho)
      · have : r = w := by simpa using z
        rw [this]; exact iw
    · have iw : In n ((B.map fun o => if bt o (ld w) = true then xr o w else o) ++ [w]) w := .mem (by simp)
      have io : ∀ o ∈ B, In n ((B.map fun o => if bt o (ld w) = true then xr o w else o) ++ [w]) o := fun o ho => by
        have hm : In n ((B.map fun o => if bt o (ld w) = true then xr o w else o) ++ [w]) (if bt o (ld w) = true then xr o w else o) := .mem (List.mem_append_left _ (List.mem_map.mpr ⟨o, ho, rfl⟩))
        split at hm
        · have := In.xr (xr_len (R.len o ho) lw) lw hm iw
          rw [xr_can (R.len o ho) lw] at this
          exact this
        · exact hm
      refine In.mono (fun r hr => ?_) hv
      rcases List.mem_append.mp hr with z | z
      · exact io r z
      · have e : r = row := by simpa using z
        rw [e]
        have e2 : row = xr (xr w row) w := by rw [xr_comm lw h, xr_can h lw]
        rw [e2]
        exact .xr (xr_len lw h) lw (In.mono io hin) iw
  · rename_i hp
    have hz : w = zr n := (wt_0 lw).mp (by omega)
    refine ⟨R, fun v lv => ⟨up, fun hv => In.mono (fun r hr => ?_) hv⟩⟩
    rcases List.mem_append.mp hr with z | z
    · exact .mem z
    · have e : r = row := by simpa using z
      rw [e]
      rw [hz, xr_comm (zr_len n) h, xr_zr h] at hin
      exact hin
def bas (rows : List Wd) : List Wd := rows.foldl bstep []
theorem in_app {n : Nat} {A A' : List Wd} {row : Wd} (hA : ∀ r ∈ A, r.length = n) (hA' : ∀ r ∈ A', r.length = n) (lr : row.length = n) (h : ∀ v, v.length = n → (In n A v ↔ In n A' v)) {v : Wd} (lv : v.length = n) : In n (A ++ [row]) v ↔ In n (A' ++ [row]) v := by
  rw [In.snoc hA lr lv, In.snoc hA' lr lv, h v lv, h _ (xr_len lv lr)]
theorem bas_ok {n : Nat} (rows : List Wd) : (∀ r ∈ rows, r.length = n) → Red n (bas rows) ∧ ∀ v, v.length = n → (In n (bas rows) v ↔ In n rows v) := by
  refine snoc_ind (P := fun rows => (∀ r ∈ rows, r.length = n) → Red n (bas rows) ∧ ∀ v, v.length = n → (In n (bas rows) v ↔ In n rows v)) ?_ ?_ rows
  · intro _
    exact ⟨⟨by simp [bas], by simp [bas], by simp [bas]⟩, fun v _ => Iff.rfl⟩
  · intro rows row ih h
    have h1 : ∀ r ∈ rows, r.length = n := fun r hr => h r (List.mem_append_left _ hr)
    have lr : row.length = n := h row (by simp)
    obtain ⟨R, hi⟩ := ih h1
    have e : bas (rows ++ [row]) = bstep (bas rows) row := foldl_snoc _ _ _ _
    obtain ⟨R2, hi2⟩ := bstep_ok R lr
    rw [e]
    exact ⟨R2, fun v lv => (hi2 v lv).trans (in_app R.len h1 lr hi lv)⟩
end Cd
end
section
set_option maxHeartbeats 200000
/-! Cg: checks, weights, spoils (plain). -/
namespace Cd
/-! ### inner products -/
def ip : Wd → Wd → Bool
  | a :: as, b :: bs => Bool.xor (a && b) (ip as bs)
  | _, _ => false
theorem ip_zr (w : Wd) : ∀ n : Nat, ip w (zr n) = false := by
  induction w with
  | nil => intro n; cases n <;> rfl
  | cons a w ih =>
    intro n
    cases n with
    | zero => rfl
    | succ n =>
      show Bool.xor (a && false) (ip w (zr n)) = false
      rw [ih n]
      cases a <;> rfl
theorem ip_set : ∀ (w u : Wd) (i : Nat) (b : Bool), w.length = u.length → i < u.length → ip w (u.set i b) = Bool.xor (ip w u) (bt w i && Bool.xor (bt u i) b)
  | [], [], i, b, _, h => by simp at h
  | a :: w, c :: u, 0, b, _, _ => by
    show Bool.xor (a && b) (ip w u) = Bool.xor (Bool.xor (a && c) (ip w u)) (a && Bool.xor c b)
    cases a <;> cases b <;> cases c <;> cases ip w u <;> rfl
  | a :: w, c :: u, i + 1, b, hl, h => by
    show Bool.xor (a && c) (ip w (u.set i b)) = Bool.xor (Bool.xor (a && c) (ip w u)) (bt w i && Bool.xor (bt u i) b)
    rw [ip_set w u i b (by simpa using hl) (by simpa using h), Bool.xor_assoc]
theorem ip_xr : ∀ (w a b : Wd), w.length = a.length → a.length = b.length → ip w (xr a b) = Bool.xor (ip w a) (ip w b)
  | [], [], [], _, _ => rfl
  | x :: w, p :: a, q :: b, h1, h2 => by
    show Bool.xor (x && Bool.xor p q) (ip w (xr a b)) = Bool.xor (Bool.xor (x && p) (ip w a)) (Bool.xor (x && q) (ip w b))
    rw [ip_xr w a b (by simpa using h1) (by simpa using h2)]
    cases x <;> cases p <;> cases q <;> cases ip w a <;> cases ip w b <;> rfl
theorem ip_span {n : Nat} {rows : List Wd} {w v : Wd} (hw : w.length = n) (hr : ∀ r ∈ rows, r.length = n ∧ ip w r = false) (h : In n rows v) : ip w v = false :=
  (h (fun v => v.length = n ∧ ip w v = false) ⟨zr_len n, ip_zr w n⟩ (fun a b la lb ⟨_, ha⟩ ⟨_, hb⟩ => ⟨xr_len la lb, by rw [ip_xr w a b (by omega) (by omega), ha, hb]; rfl⟩) hr).2
/-! ### the checks of a reduced basis -/
def setl (p : Nat) (B : List Wd) (u : Wd) : Wd := B.foldl (fun u r => u.set (ld r) (bt r p)) u
theorem setl_cons (p : Nat) (r : Wd) (B : List Wd) (u : Wd) : setl p (r :: B) u = setl p B (u.set (ld r) (bt r p)) := rfl
theorem setl_len {p : Nat} : ∀ {B : List Wd} {u : Wd}, (setl p B u).length = u.length
  | [], u => rfl
  | r :: B, u => by rw [setl_cons, setl_len, List.length_set]
theorem bt_set {u : Wd} {i j : Nat} {b : Bool} (h : i ≠ j) : bt (u.set i b) j = bt u j := by
  unfold bt
  rw [List.getD_eq_getElem?_getD, List.getElem?_set_ne h, List.getD_eq_getElem?_getD]
theorem ip_setl {n p : Nat} {w : Wd} (hw : w.length = n) : ∀ {B : List Wd} {u : Wd}, Red n B → u.length = n → (∀ r ∈ B, bt u (ld r) = false) → ip w (setl p B u) = adds B w p (ip w u)
  | [], u, _, _, _ => rfl
  | r :: B, u, R, hu, hz => by
    have pw := List.pairwise_cons.mp R.pw
    have R2 : Red n B := ⟨fun s hs => R.len s (List.mem_cons_of_mem _ hs), fun s hs => R.one s (List.mem_cons_of_mem _ hs), pw.2⟩
    have hl : ld r < u.length := by
      rw [hu, ← R.len r (by simp)]
      exact bt_lt (R.one r (by simp))
    rw [setl_cons, adds_cons, ip_setl hw R2 (by rw [List.length_set]; exact hu) fun s hs => ?_, ip_set w u _ _ (by omega) hl, hz r (by simp), Bool.false_xor]
    rw [bt_set, hz s (List.mem_cons_of_mem _ hs)]
    intro e
    have h1 := (pw.1 s hs).1
    rw [← e, R.one r (by simp)] at h1
    cases h1
def chkw (n : Nat) (B : List Wd) (p : Nat) : Wd := setl p B ((zr n).set p true)
theorem chkw_len (n : Nat) (B : List Wd) (p : Nat) : (chkw n B p).length = n := by
  unfold chkw
  rw [setl_len, List.length_set, zr_len]
theorem ip_chkw {n p : Nat} {B : List Wd} {w : Wd} (R : Red n B) (hw : w.length = n) (hp : p < n) (hn : ∀ r ∈ B, ld r ≠ p) : ip w (chkw n B p) = bt (rdc B w) p := by
  unfold chkw
  rw [ip_setl hw R (by rw [List.length_set, zr_len]) fun r hr => by rw [bt_set fun e => hn r hr e.symm, bt_zr], rdc_bt R hw, ip_set w _ _ _ (by rw [hw, zr_len]) (by rw [zr_len]; exact hp), ip_zr, bt_zr]
  congr 1
  cases bt w p <;> rfl
def chks (n : Nat) (B : List Wd) : List Wd := ((List.range n).filter fun p => !(B.map ld).contains p).map (chkw n B)
theorem chks_len {n : Nat} {B : List Wd} : ∀ c ∈ chks n B, c.length = n := fun c hc => by
  obtain ⟨p, _, rfl⟩ := List.mem_map.mp hc
  exact chkw_len n B p
theorem syn {n : Nat} {B : List Wd} {w : Wd} (R : Red n B) (hw : w.length = n) : (∀ c ∈ chks n B, ip w c = false) ↔ In n B w := by
  rw [← rdc_zero R hw]
  constructor
  · intro h
    refine wext (by rw [rdc_len R.len hw, zr_len]) fun i => ?_
    rw [bt_zr]
    by_cases q : i < n
    · by_cases z : i ∈ B.map ld
      · obtain ⟨r, hr, rfl⟩ := List.mem_map.mp z
        exact rdc_lead R hw hr
      · have hn : ∀ r ∈ B, ld r ≠ i := fun r hr e => z (List.mem_map.mpr ⟨r, hr, e⟩)
        rw [← ip_chkw R hw q hn]
        refine h _ (List.mem_map.mpr ⟨i, List.mem_filter.mpr ⟨List.mem_range.mpr q, ?_⟩, rfl⟩)
        cases hc : (B.map ld).contains i with
        | false => rfl
        | true => exact absurd (List.contains_iff_mem.mp hc) z
    · exact bt_out (by rw [rdc_len R.len hw]; omega)
  · intro e c hc
    obtain ⟨p, hp, rfl⟩ := List.mem_map.mp hc
    obtain ⟨h1, h2⟩ := List.mem_filter.mp hp
    have hn : ∀ r ∈ B, ld r ≠ p := fun r hr z => by
      have : (B.map ld).contains p = true := List.contains_iff_mem.mpr (List.mem_map.mpr ⟨r, hr, z⟩)
      rw [this] at h2
      cases h2
    rw [ip_chkw R hw (List.mem_range.mp h1) hn, e, bt_zr]
theorem syn2 {n : Nat} {B C : List Wd} {w : Wd} (R : Red n B) (hw : w.length = n) (hC : ∀ c ∈ C, c.length = n) (hi : ∀ v, v.length = n → (In n C v ↔ In n (chks n B) v)) : (∀ c ∈ C, ip w c = false) ↔ In n B w := by
  rw [← syn R hw]
  constructor
  · exact fun h c hc => ip_span hw (fun r hr => ⟨hC r hr, h r hr⟩) ((hi c (chks_len c hc)).mpr (.mem hc))
  · exact fun h c hc => ip_span hw (fun r hr => ⟨chks_len r hr, h r hr⟩) ((hi c (hC c hc)).mp (.mem hc))
/-! ### weights -/
theorem wt_nil : wt [] = 0 := rfl
theorem wt_cons (a : Bool) (w : Wd) : wt (a :: w) = wt w + (if a = true then 1 else 0) := by
  unfold wt
  rw [List.countP_cons]
  rfl
theorem tri : ∀ (a b c : Wd), a.length = b.length → b.length = c.length → wt (xr a c) ≤ wt (xr a b) + wt (xr b c)
  | [], [], [], _, _ => by simp [xr, wt]
  | x :: a, y :: b, z :: c, h1, h2 => by
    have ih := tri a b c (by simpa using h1) (by simpa using h2)
    show wt (Bool.xor x z :: xr a c) ≤ wt (Bool.xor x y :: xr a b) + wt (Bool.xor y z :: xr b c)
    rw [wt_cons, wt_cons, wt_cons]
    cases x <;> cases y <;> cases z <;> simp <;> omega
theorem wt_xr_zr {a : Wd} {n : Nat} (ha : a.length = n) : wt (xr (zr n) a) = wt a := by rw [xr_comm (zr_len n) ha, xr_zr ha]
/-- the first so many ones of a word -/
def fo : Nat → Wd → Wd
  | _, [] => []
  | 0, _ :: w => false :: fo 0 w
  | k + 1, true :: w => true :: fo k w
  | k + 1, false :: w => false :: fo (k + 1) w
theorem fo_len : ∀ (k : Nat) (w : Wd), (fo k w).length = w.length
  | _, [] => by unfold fo; rfl
  | 0, _ :: w => by unfold fo; rw [List.length_cons, List.length_cons, fo_len]
  | k + 1, true :: w => by unfold fo; rw [List.length_cons, List.length_cons, fo_len]
  | k + 1, false :: w => by unfold fo; rw [List.length_cons, List.length_cons, fo_len]
theorem fo_wt : ∀ (k : Nat) (w : Wd), k ≤ wt w → wt (fo k w) = k ∧ wt (xr w (fo k w)) = wt w - k
  | k, [], h => by
    rw [wt_nil] at h
    have : k = 0 := by omega
    subst this
    exact ⟨by unfold fo; rfl, by unfold fo; rfl⟩
  | 0, a :: w, _ => by
    obtain ⟨h1, h2⟩ := fo_wt 0 w (Nat.zero_le _)
    unfold fo
    refine ⟨by rw [wt_cons, h1]; rfl, ?_⟩
    show wt (Bool.xor a false :: xr w (fo 0 w)) = _
    rw [wt_cons, wt_cons, h2]
    cases a <;> simp
  | k + 1, true :: w, h => by
    rw [wt_cons] at h
    simp at h
    obtain ⟨h1, h2⟩ := fo_wt k w h
    unfold fo
    refine ⟨by rw [wt_cons, h1]; rfl, ?_⟩
    show wt (Bool.xor true true :: xr w (fo k w)) = _
    rw [wt_cons, wt_cons, h2]
    simp
  | k + 1, false :: w, h => by
    rw [wt_cons] at h
    simp at h
    obtain ⟨h1, h2⟩ := fo_wt (k + 1) w h
    unfold fo
    refine ⟨by rw [wt_cons, h1]; rfl, ?_⟩
    show wt (Bool.xor false false :: xr w (fo (k + 1) w)) = _
    rw [wt_cons, wt_cons, h2]
    simp
/-! ### spoils -/
def Spoils (n : Nat) (own : List Wd) (f : Nat) : Prop := ∃ h s o, h.length = n ∧ s ∈ own ∧ o ∈ own ∧ wt (xr h s) ≤ f ∧ o ≠ s ∧ wt (xr o h) ≤ wt (xr s h)
/-- some word is spoilt exactly if some word of the code has no more than twice so many ones -/
theorem spoils_iff {n f : Nat} {rows own : List Wd} (hr : ∀ r ∈ rows, r.length = n) (hm : ∀ w, w ∈ own ↔ In n rows w) : Spoils n own f ↔ ∃ w ∈ own, 0 < wt w ∧ wt w ≤ 2 * f := by
  constructor
  · rintro ⟨h, s, o, hl, hs, ho, h1, h2, h3⟩
    have ls := ((hm s).mp hs).len hr
    have lo := ((hm o).mp ho).len hr
    refine ⟨xr o s, (hm _).mpr (.xr lo ls ((hm o).mp ho) ((hm s).mp hs)), ?_, ?_⟩
    · rcases Nat.eq_zero_or_pos (wt (xr o s)) with z | z
      · have e := (wt_0 (xr_len lo ls)).mp z
        have : o = s := by rw [← xr_can lo ls, e, xr_comm (zr_len n) ls, xr_zr ls]
        exact absurd this h2
      · exact z
    · have t := tri o h s (by omega) (by omega)
      have e : xr s h = xr h s := xr_comm ls hl
      rw [e] at h3
      omega
  · rintro ⟨w, hw, h1, h2⟩
    have lw := ((hm w).mp hw).len hr
    have hk : min f (wt w) ≤ wt w := Nat.min_le_right _ _
    obtain ⟨k1, k2⟩ := fo_wt (min f (wt w)) w hk
    have lf : (fo (min f (wt w)) w).length = n := by rw [fo_len, lw]
    refine ⟨fo (min f (wt w)) w, zr n, w, lf, (hm _).mpr .zero, hw, ?_, ?_, ?_⟩
    · rw [xr_zr lf, k1]
      exact Nat.min_le_left _ _
    · rintro rfl
      rw [wt_zr] at h1
      omega
    · rw [k2, wt_xr_zr lf, k1]
      omega
end Cd
end
section
set_option maxHeartbeats 1000000
/-! Lv: sorted of coded things, whatever their order before; words of bits as data. -/
namespace Lb
open PySem PySem.Spec PyProof.Rows L2 Rf
theorem dle_eq (a b : D) : PySem.W.dataLe false Rf.encD a b = !ltB b a := by
  rw [PySem.W.dataLe_eq]
  rfl
theorem nlt_tr {a b c : D} (h1 : ltB b a = false) (h2 : ltB c b = false) : ltB c a = false := by
  cases h : ltB c a with
  | false => rfl
  | true =>
    rcases PyProof.Rows.lex_negTrans _ (PySem.W.keyToks (Rf.encD b)) _ h with h3 | h3
    · exact (h2.symm.trans (show ltB c b = true from h3)).symm ▸ rfl
    · exact (h1.symm.trans (show ltB b a = true from h3)).symm ▸ rfl
/-- things whose codes can be sorted and are told apart -/
structure Srt {α : Type} (enc : α → D) (P : α → Prop) : Prop where
  ok : ∀ a, P a → okD 20 (enc a) = true
  al : ∀ a b, P a → P b → alkB (enc a) (enc b) = true
  tp : ∀ a, P a → tpB (enc a) = true
  inj : ∀ a b, P a → P b → eqB (enc a) (enc b) = true → a = b
section
variable {α : Type} {enc : α → D} {P : α → Prop}
def rel (enc : α → D) : α → α → Bool := fun a b => !ltB (enc b) (enc a)
def srt (enc : α → D) (xs : List α) : List α := xs.mergeSort (rel enc)
theorem srt_perm (xs : List α) : (srt enc xs).Perm xs := List.mergeSort_perm _ _
theorem srt_mem {xs : List α} {a : α} : a ∈ srt enc xs ↔ a ∈ xs := (srt_perm xs).mem_iff
theorem rel_tot (a b : α) : (rel enc a b || rel enc b a) = true := by
  unfold rel
  cases h : ltB (enc b) (enc a) with
  | false => rfl
  | true => rw [lt_asymm h]; rfl
theorem rel_tr (a b c : α) (h1 : rel enc a b = true) (h2 : rel enc b c = true) : rel enc a c = true := by
  unfold rel at *
  rw [Bool.not_eq_true'] at *
  exact nlt_tr h1 h2
theorem srt_pw (xs : List α) : (srt enc xs).Pairwise fun a b => rel enc a b = true := List.pairwise_mergeSort rel_tr rel_tot xs
theorem Srt.anti (h : Srt enc P) {a b : α} (ha : P a) (hb : P b) (h1 : rel enc a b = true) (h2 : rel enc b a = true) : a = b := by
  unfold rel at h1 h2
  rw [Bool.not_eq_true'] at h1 h2
  exact h.inj a b ha hb (eqB_of_lt (h.ok a ha) (h.ok b hb) (h.al a b ha hb) h2 h1)
theorem Srt.same (h : Srt enc P) {xs ys : List α} (hP : ∀ a ∈ xs, P a) (p : xs.Perm ys) : srt enc xs = srt enc ys := by
  refine List.Perm.eq_of_pairwise (le := fun a b => rel enc a b = true) (fun a b ha hb h1 h2 => ?_) (srt_pw xs) (srt_pw ys) ((srt_perm xs).trans (p.trans (srt_perm ys).symm))
  exact h.anti (hP a (srt_mem.mp ha)) (hP b (p.mem_iff.mpr (srt_mem.mp hb))) h1 h2
theorem Srt.sorted (h : Srt enc P) {xs : List α} (hP : ∀ a ∈ xs, P a) (S : Sto) : sortedD S [.lst (xs.map enc)] = some (.lst ((srt enc xs).map enc)) := by
  have mm : ∀ {d}, d ∈ xs.map enc → ∃ a, P a ∧ enc a = d := fun hd => by
    obtain ⟨a, ha, rfl⟩ := List.mem_map.mp hd
    exact ⟨a, hP a ha, rfl⟩
  have e1 : sortXs (xs.map enc) = some ((xs.map enc).mergeSort (PySem.W.dataLe false Rf.encD)) := by
    have ok : ∀ d ∈ xs.map enc, okD 20 d = true := fun d hd => by
      obtain ⟨a, ha, rfl⟩ := mm hd
      exact h.ok a ha
    unfold sortXs
    rw [pyDs_ok ok]
    have c1 : alikeB ((xs.map enc).map Rf.encD) = true := List.all_eq_true.mpr fun d hd => List.all_eq_true.mpr fun e he => by
      obtain ⟨d', hd', rfl⟩ := List.mem_map.mp hd
      obtain ⟨e', he', rfl⟩ := List.mem_map.mp he
      obtain ⟨a, ha, rfl⟩ := mm hd'
      obtain ⟨b, hb, rfl⟩ := mm he'
      exact h.al a b ha hb
    have c2 : sortableB ((xs.map enc).map Rf.encD) = true := sortable_tup fun p hp => by
      obtain ⟨d', hd', rfl⟩ := List.mem_map.mp hp
      obtain ⟨a, ha, rfl⟩ := mm hd'
      exact h.tp a ha
    have c3 : SeqAt.shaped (.list ((xs.map enc).map Rf.encD)) = true := by
      have z := lay_all (ps := (xs.map enc).map Rf.encD) fun p hp => by
        obtain ⟨d, hd, rfl⟩ := List.mem_map.mp hp
        obtain ⟨p, e, k⟩ := py_of 20 d (ok d hd)
        rw [encD_of e]
        exact k
      unfold SeqAt.shaped
      rw [Bool.and_eq_true]
      refine ⟨by simpa [PyData.canLay0] using z.1, decide_eq_true ?_⟩
      have := z.2
      simp only [PyData.depth]
      omega
    simp only [c1, c2, c3, Bool.and_self, if_true]
  show (sortXs (xs.map enc)).map D.lst = _
  rw [e1]
  have e2 : (xs.map enc).mergeSort (PySem.W.dataLe false Rf.encD) = (srt enc xs).map enc := (List.map_mergeSort (r := rel enc) (s := PySem.W.dataLe false Rf.encD) (f := enc) (fun a _ b _ => (dle_eq (enc a) (enc b)).symm)).symm
  rw [e2]
  rfl
/-- the least of some is the first when sorted -/
theorem Srt.min (h : Srt enc P) {xs : List α} (hP : ∀ a ∈ xs, P a) {m : α} {r : List α} (e : srt enc xs = m :: r) {ys : List α} (p : ys.Perm xs) (nn : ∀ a, P a → nnB (enc a) = true) (S : Sto) : minD1 S [.lst (ys.map enc)] = some (enc m) := by
  have hm : m ∈ xs := srt_mem.mp (by rw [e]; simp)
  have pw := srt_pw (enc := enc) xs
  rw [e] at pw
  have pw := (List.pairwise_cons.mp pw).1
  have ok : ∀ d ∈ ys.map enc, ∃ a, a ∈ xs ∧ enc a = d := fun d hd => by
    obtain ⟨a, ha, rfl⟩ := List.mem_map.mp hd
    exact ⟨a, p.mem_iff.mp ha, rfl⟩
  refine min1_of (fun d hd => ?_) (fun d hd e he => ?_) (fun d hd => ?_) (List.mem_map.mpr ⟨m, p.mem_iff.mpr hm, rfl⟩) fun d hd => ?_
  · obtain ⟨a, ha, rfl⟩ := ok d hd
    exact h.ok a (hP a ha)
  · obtain ⟨a, ha, rfl⟩ := ok d hd
    obtain ⟨b, hb, rfl⟩ := ok e he
    exact h.al a b (hP a ha) (hP b hb)
  · obtain ⟨a, ha, rfl⟩ := ok d hd
    exact nn a (hP a ha)
  · obtain ⟨a, ha, rfl⟩ := ok d hd
    have ha' : a ∈ srt enc xs := srt_mem.mpr ha
    rw [e] at ha'
    rcases List.mem_cons.mp ha' with z | z
    · exact .inl (by rw [z])
    · have h1 := pw a z
      cases q : ltB (enc m) (enc a) with
      | true => exact .inr ⟨rfl, lt_asymm q⟩
      | false =>
        left
        have h2 : rel enc a m = true := by
          unfold rel
          rw [q]
          rfl
        rw [h.anti (hP a ha) (hP m hm) h2 h1]
end
/-! ### words of bits -/
def bD (b : Bool) : D := .int (cond b 1 0)
def wD (w : Cd.Wd) : D := .tup (w.map bD)
theorem eqB_bD (a b : Bool) : eqB (bD a) (bD b) = (a == b) := by
  unfold bD
  rw [eqB_int]
  cases a <;> cases b <;> rfl
theorem eqBs_bD : ∀ a b : Cd.Wd, eqBs (a.map bD) (b.map bD) = (a == b)
  | [], [] => by simp [eqBs]
  | [], _ :: _ => by simp [eqBs]
  | _ :: _, [] => by simp [eqBs]
  | x :: a, y :: b => by
    simp only [List.map_cons, eqBs, eqBs_bD a b, eqB_bD]
    rfl
theorem eqB_wD (a b : Cd.Wd) : eqB (wD a) (wD b) = (a == b) := by
  unfold wD
  rw [eqB_tup, eqBs_bD]
theorem bD_ok {n : Nat} {w : Cd.Wd} : ∀ d ∈ w.map bD, okD n d = true := fun d hd => by
  obtain ⟨b, _, rfl⟩ := List.mem_map.mp hd
  exact okD_int _ _
theorem wD_ok {n : Nat} {w : Cd.Wd} (h : w.length ≤ 1000) : okD (n + 1) (wD w) = true := okD_tupOf (by rw [List.length_map]; omega) bD_ok
theorem eqS_wD {S : Sto} {a b : Cd.Wd} (ha : a.length ≤ 1000) (hb : b.length ≤ 1000) : eqS S (wD a) (wD b) = some (a == b) := by
  rw [eqS_ok (n := 10) (by omega) (wD_ok ha) (wD_ok hb), eqB_wD]
theorem alk_wD : ∀ a b : Cd.Wd, alkB (wD a) (wD b) = true
  | [], b => alk_nil bD_ok
  | a :: w, [] => alk_nil' bD_ok
  | a :: w, b :: v => by
    have ih := alk_wD w v
    have z := alk_cons (x := bD a) (y := bD b) (xs := w.map bD) (ys := v.map bD) (bD_ok (w := a :: w)) (bD_ok (w := b :: v))
    show alkB (.tup (bD a :: w.map bD)) (.tup (bD b :: v.map bD)) = true
    rw [z]
    show (alkB (.int _) (.int _) && alkB (wD w) (wD v)) = true
    rw [alk_int, ih]
    rfl
theorem tp_of {x : D} {xs : List D} (h : ∀ d ∈ x :: xs, okD 20 d = true) : tpB (.tup (x :: xs)) = true := by
  unfold tpB
  rw [enc_tup h]
  rfl
theorem wD_srt {n : Nat} (h0 : 0 < n) (h1 : n ≤ 1000) : Srt wD fun w => w.length = n where
  ok := fun a ha => wD_ok (by omega)
  al := fun a b _ _ => alk_wD a b
  tp := fun a ha => by
    cases a with
    | nil => simp at ha; omega
    | cons x w => exact tp_of (bD_ok (w := x :: w))
  inj := fun a b _ _ h => by
    rw [eqB_wD] at h
    exact eq_of_beq h
/-- (ones, word) -/
def hD (w : Cd.Wd) : D := .tup [.int (Cd.wt w), wD w]
theorem hD_mem {w : Cd.Wd} (h : w.length ≤ 1000) : ∀ d ∈ [D.int (Cd.wt w), wD w], okD 19 d = true := fun d hd => by
  simp at hd
  rcases hd with rfl | rfl
  · exact okD_int _ _
  · exact wD_ok h
theorem hD_ok {w : Cd.Wd} (h : w.length ≤ 1000) : okD 20 (hD w) = true := okD_tupOf (by simp) (hD_mem h)
theorem hD_srt {n : Nat} (h1 : n ≤ 1000) : Srt hD fun w => w.length = n where
  ok := fun a ha => hD_ok (by omega)
  al := fun a b ha hb => by
    have x := fun d hd => okD_mono 19 d (hD_mem (w := a) (by omega) d hd)
    have y := fun d hd => okD_mono 19 d (hD_mem (w := b) (by omega) d hd)
    unfold hD
    rw [alk_cons x y, alk_int, alk_cons (fun d hd => x d (List.mem_cons_of_mem _ hd)) (fun d hd => y d (List.mem_cons_of_mem _ hd)), alk_wD, alk_nil (by simp)]
    rfl
  tp := fun a ha => tp_of fun d hd => okD_mono 19 d (hD_mem (w := a) (by omega) d hd)
  inj := fun a b _ _ h => by
    unfold hD at h
    rw [eqB_tup] at h
    simp only [eqBs, eqB_wD, Bool.and_eq_true] at h
    exact eq_of_beq h.2.1
end Lb
end
section
set_option maxHeartbeats 1000000
/-! N25: k25, the least arrivals, in plain Lean. -/
namespace K25
structure Ct where
  a : Nat
  b : Nat
  fi : Nat
  la : Nat
  ra : Nat
  de : Nat
/-- contacts as they are drawn -/
def okC (c : Ct) : Prop := c.a < 4 ∧ c.b < 4 ∧ c.a ≠ c.b ∧ c.fi ≤ c.la ∧ c.la ≤ 10 ∧ c.de ≤ 10 ∧ c.ra ≤ 10
abbrev G := Nat → Option Nat
section
variable {net : List Ct} {s t0 : Nat}
/-- there is a way through these nodes, the last first, that arrives at a time -/
inductive Jn (net : List Ct) (s t0 : Nat) : List Nat → Nat → Nat → Prop
  | st : Jn net s t0 [s] s t0
  | hop {vs : List Nat} {m u : Nat} (c : Ct) (x : Nat) : Jn net s t0 vs m u → c ∈ net → c.a = m → u ≤ x → c.fi ≤ x → x ≤ c.la → Jn net s t0 (c.b :: vs) c.b (x + c.de)
theorem Jn.head {vs : List Nat} {n t : Nat} (h : Jn net s t0 vs n t) : n ∈ vs := by
  cases h <;> simp
theorem Jn.pre {vs : List Nat} {n t : Nat} (h : Jn net s t0 vs n t) : ∀ b ∈ vs, ∃ vs' t', Jn net s t0 vs' b t' ∧ t' ≤ t ∧ vs'.length ≤ vs.length ∧ (vs.Nodup → vs'.Nodup) := by
  induction h with
  | st =>
    intro b hb
    have : b = s := by simpa using hb
    subst this
    exact ⟨_, _, .st, Nat.le_refl _, Nat.le_refl _, id⟩
  | hop c x h hc ha hu hf hl ih =>
    rename_i vs m u
    intro b hb
    rcases List.mem_cons.mp hb with rfl | hb
    · exact ⟨_, _, .hop c x h hc ha hu hf hl, Nat.le_refl _, Nat.le_refl _, id⟩
    · obtain ⟨vs', t', j, ht, hle, hn⟩ := ih b hb
      refine ⟨vs', t', j, by omega, by simp; omega, fun z => hn (List.nodup_cons.mp z).2⟩
/-- a way with no node twice is as good -/
theorem Jn.simple {vs : List Nat} {n t : Nat} (h : Jn net s t0 vs n t) : ∃ vs' t', Jn net s t0 vs' n t' ∧ t' ≤ t ∧ vs'.Nodup := by
  induction h with
  | st => exact ⟨_, _, .st, Nat.le_refl _, by simp⟩
  | hop c x h hc ha hu hf hl ih =>
    obtain ⟨vs', t', j, ht, hn⟩ := ih
    by_cases hb : c.b ∈ vs'
    · obtain ⟨vs2, t2, j2, ht2, _, hn2⟩ := j.pre c.b hb
      exact ⟨vs2, t2, j2, by omega, hn2 hn⟩
    · exact ⟨c.b :: vs', _, .hop c x j hc ha (by omega) hf hl, Nat.le_refl _, List.nodup_cons.mpr ⟨hb, hn⟩⟩
theorem Jn.lt (hs : s < 4) (hN : ∀ c ∈ net, okC c) {vs : List Nat} {n t : Nat} (h : Jn net s t0 vs n t) : ∀ v ∈ vs, v < 4 := by
  induction h with
  | st => simpa using hs
  | hop c x h hc ha hu hf hl ih =>
    intro v hv
    rcases List.mem_cons.mp hv with rfl | hv
    · exact (hN c hc).2.1
    · exact ih v hv
theorem nodup4 {vs : List Nat} (h : vs.Nodup) (hv : ∀ v ∈ vs, v < 4) : vs.length ≤ 4 := by
  have hs : vs ⊆ List.range 4 := fun v h => List.mem_range.mpr (hv v h)
  have := List.Nodup.length_le_of_subset h hs
  simpa using this
def Snd (net : List Ct) (s t0 : Nat) (g : G) : Prop := ∀ n t, g n = some t → ∃ vs, Jn net s t0 vs n t
def Cmp (net : List Ct) (s t0 : Nat) (g : G) : Prop := ∀ vs n t, Jn net s t0 vs n t → ∃ u, u ≤ t ∧ g n = some u
def Lst (net : List Ct) (s t0 : Nat) (g : G) : Prop := Snd net s t0 g ∧ Cmp net s t0 g
theorem Lst.iff {g : G} (h : Lst net s t0 g) (n l : Nat) : (∃ u, g n = some u ∧ u ≤ l) ↔ ∃ vs t, Jn net s t0 vs n t ∧ t ≤ l := by
  constructor
  · rintro ⟨u, e, hu⟩
    obtain ⟨vs, j⟩ := h.1 n u e
    exact ⟨vs, u, j, hu⟩
  · rintro ⟨vs, t, j, ht⟩
    obtain ⟨u, hu, e⟩ := h.2 vs n t j
    exact ⟨u, e, by omega⟩
def upd (g : G) (n t : Nat) : G := fun k => if k = n then some t else g k
theorem upd_same {g : G} {n t : Nat} : upd g n t n = some t := if_pos rfl
theorem upd_ne {g : G} {n t k : Nat} (h : k ≠ n) : upd g n t k = g k := if_neg h
/-- no value grows -/
def Dn (g g' : G) : Prop := ∀ n u, g n = some u → ∃ v, v ≤ u ∧ g' n = some v
theorem Dn.refl (g : G) : Dn g g := fun n u h => ⟨u, Nat.le_refl _, h⟩
theorem Dn.trans {a b c : G} (h : Dn a b) (h' : Dn b c) : Dn a c := fun n u e => by
  obtain ⟨v, hv, e⟩ := h n u e
  obtain ⟨w, hw, e⟩ := h' n v e
  exact ⟨w, by omega, e⟩
/-! ### the law's rounds -/
def hst (g : G) (q : Ct × Nat) : G := match g q.1.a with
  | some u => if u ≤ q.2 then upd g q.1.b (if (g q.1.b).getD (q.2 + q.1.de) < q.2 + q.1.de then (g q.1.b).getD (q.2 + q.1.de) else q.2 + q.1.de) else g
  | none => g
theorem hst_dn (g : G) (q : Ct × Nat) : Dn g (hst g q) := by
  intro n u e
  unfold hst
  cases ea : g q.1.a with
  | none => exact ⟨u, Nat.le_refl _, e⟩
  | some w =>
    dsimp only
    split
    · by_cases hn : n = q.1.b
      · subst hn
        rw [upd_same, e]
        refine ⟨_, ?_, rfl⟩
        simp only [Option.getD_some]
        split <;> omega
      · rw [upd_ne hn]
        exact ⟨u, Nat.le_refl _, e⟩
    · exact ⟨u, Nat.le_refl _, e⟩
theorem hst_at {g : G} {q : Ct × Nat} {u : Nat} (e : g q.1.a = some u) (h : u ≤ q.2) : ∃ v, v ≤ q.2 + q.1.de ∧ hst g q q.1.b = some v := by
  unfold hst
  rw [e]
  dsimp only
  rw [if_pos h, upd_same]
  refine ⟨_, ?_, rfl⟩
  split <;> omega
theorem hst_snd {g : G} {q : Ct × Nat} (h : Snd net s t0 g) (hq : q.1 ∈ net) (h1 : q.1.fi ≤ q.2) (h2 : q.2 ≤ q.1.la) : Snd net s t0 (hst g q) := by
  unfold hst
  cases ea : g q.1.a with
  | none => exact h
  | some u =>
    dsimp only
    split
    · rename_i hu
      intro n t e
      by_cases hn : n = q.1.b
      · subst hn
        rw [upd_same] at e
        obtain ⟨vs, j⟩ := h _ _ ea
        have j2 : Jn net s t0 (q.1.b :: vs) q.1.b (q.2 + q.1.de) := .hop q.1 q.2 j hq rfl hu h1 h2
        split at e
        · rename_i hlt
          cases eb : g q.1.b with
          | none => rw [eb] at hlt; simp at hlt
          | some w =>
            rw [eb] at e
            cases e
            exact h _ _ eb
        · cases e
          exact ⟨_, j2⟩
      · rw [upd_ne hn] at e
        exact h n t e
    · exact h
def okH (net : List Ct) (q : Ct × Nat) : Prop := q.1 ∈ net ∧ q.1.fi ≤ q.2 ∧ q.2 ≤ q.1.la
theorem fold_dn : ∀ (H : List (Ct × Nat)) (g : G), Dn g (H.foldl hst g)
  | [], g => Dn.refl g
  | q :: H, g => (hst_dn g q).trans (fold_dn H _)
theorem fold_snd : ∀ (H : List (Ct × Nat)) (g : G), Snd net s t0 g → (∀ q ∈ H, okH net q) → Snd net s t0 (H.foldl hst g)
  | [], g, h, _ => h
  | q :: H, g, h, k => fold_snd H _ (hst_snd h (k q (by simp)).1 (k q (by simp)).2.1 (k q (by simp)).2.2) fun r hr => k r (List.mem_cons_of_mem _ hr)
theorem fold_at : ∀ (H : List (Ct × Nat)) (g : G) (q : Ct × Nat), q ∈ H → ∀ u, g q.1.a = some u → u ≤ q.2 → ∃ v, v ≤ q.2 + q.1.de ∧ H.foldl hst g q.1.b = some v
  | r :: H, g, q, hq, u, e, h => by
    rcases List.mem_cons.mp hq with rfl | hq
    · obtain ⟨v, hv, e2⟩ := hst_at e h
      obtain ⟨w, hw, e3⟩ := fold_dn H (hst g q) _ _ e2
      exact ⟨w, by omega, e3⟩
    · obtain ⟨v, hv, e2⟩ := hst_dn g r _ _ e
      exact fold_at H (hst g r) q hq v e2 (by omega)
def g0 (s t0 : Nat) : G := upd (fun _ => none) s t0
theorem g0_snd : Snd net s t0 (g0 s t0) := by
  intro n t e
  unfold g0 at e
  by_cases h : n = s
  · subst h
    rw [upd_same] at e
    cases e
    exact ⟨_, .st⟩
  · rw [upd_ne h] at e
    cases e
def rnd (H : List (Ct × Nat)) (g0 : G) : Nat → G
  | 0 => g0
  | k + 1 => H.foldl hst (rnd H g0 k)
theorem rnd_snd {H : List (Ct × Nat)} (hH : ∀ q ∈ H, okH net q) : ∀ k, Snd net s t0 (rnd H (g0 s t0) k)
  | 0 => g0_snd
  | k + 1 => fold_snd H _ (rnd_snd hH k) hH
theorem rnd_cmp {H : List (Ct × Nat)} (hH : ∀ c ∈ net, ∀ x, c.fi ≤ x → x ≤ c.la → (c, x) ∈ H) {vs : List Nat} {n t : Nat} (j : Jn net s t0 vs n t) : ∀ k, vs.length ≤ k + 1 → ∃ u, u ≤ t ∧ rnd H (g0 s t0) k n = some u := by
  induction j with
  | st =>
    intro k _
    have e : g0 s t0 s = some t0 := upd_same
    induction k with
    | zero => exact ⟨t0, Nat.le_refl _, e⟩
    | succ k ih =>
      obtain ⟨u, hu, e⟩ := ih (by simp)
      obtain ⟨v, hv, e⟩ := fold_dn H _ _ _ e
      exact ⟨v, by omega, e⟩
  | hop c x h hc ha hu hf hl ih =>
    intro k hk
    cases k with
    | zero =>
      cases h <;> simp at hk
    | succ k =>
      obtain ⟨u', hu', e⟩ := ih k (by simp at hk; omega)
      subst ha
      exact fold_at H _ (c, x) (hH c hc x hf hl) u' e (by show u' ≤ x; omega)
theorem rnd_lst {H : List (Ct × Nat)} (hs : s < 4) (hN : ∀ c ∈ net, okC c) (h1 : ∀ q ∈ H, okH net q) (h2 : ∀ c ∈ net, ∀ x, c.fi ≤ x → x ≤ c.la → (c, x) ∈ H) : Lst net s t0 (rnd H (g0 s t0) 5) := by
  refine ⟨rnd_snd h1 5, fun vs n t j => ?_⟩
  obtain ⟨vs', t', j', ht, hn⟩ := j.simple
  have := nodup4 hn (j'.lt hs hN)
  obtain ⟨u, hu, e⟩ := rnd_cmp h2 j' 5 (by omega)
  exact ⟨u, by omega, e⟩
/-! ### the program's rounds -/
def les : Option Nat → Nat → Bool
  | none, _ => true
  | some v, r => decide (r < v)
def may (g : G) (c : Ct) : Option Nat := match g c.a with
  | some u => if u ≤ c.la then (if les (g c.b) (max c.fi u + c.de) = true then some (max c.fi u + c.de) else none) else none
  | none => none
theorem may_some {g : G} {c : Ct} {r : Nat} (h : may g c = some r) : ∃ u, g c.a = some u ∧ u ≤ c.la ∧ r = max c.fi u + c.de ∧ ∀ v, g c.b = some v → r < v := by
  unfold may at h
  cases e : g c.a with
  | none => rw [e] at h; cases h
  | some u =>
    rw [e] at h
    dsimp only at h
    split at h
    · rename_i hu
      split at h
      · rename_i hb
        cases h
        refine ⟨u, rfl, hu, rfl, fun v ev => ?_⟩
        rw [ev] at hb
        exact of_decide_eq_true hb
      · cases h
    · cases h
theorem may_none {g : G} {c : Ct} (h : may g c = none) : ∀ u, g c.a = some u → u ≤ c.la → ∃ v, g c.b = some v ∧ v ≤ max c.fi u + c.de := by
  intro u e hu
  unfold may at h
  rw [e] at h
  dsimp only at h
  rw [if_pos hu] at h
  cases eb : g c.b with
  | none => rw [eb] at h; cases h
  | some v =>
    rw [eb] at h
    refine ⟨v, rfl, ?_⟩
    by_cases hlt : max c.fi u + c.de < v
    · rw [if_pos (show les (some v) (max c.fi u + c.de) = true from decide_eq_true hlt)] at h
      cases h
    · omega
theorem may_snd {g : G} {c : Ct} {r : Nat} (h : Snd net s t0 g) (hc : c ∈ net) (hf : c.fi ≤ c.la) (hm : may g c = some r) : Snd net s t0 (upd g c.b r) := by
  obtain ⟨u, e, hu, rfl, _⟩ := may_some hm
  intro n t en
  by_cases hn : n = c.b
  · subst hn
    rw [upd_same] at en
    cases en
    obtain ⟨vs, j⟩ := h _ _ e
    exact ⟨_, .hop c (max c.fi u) j hc rfl (by omega) (by omega) (by omega)⟩
  · rw [upd_ne hn] at en
    exact h n t en
theorem fix_cmp {g : G} (hs : ∃ u, u ≤ t0 ∧ g s = some u) (h : ∀ c ∈ net, may g c = none) : Cmp net s t0 g := by
  intro vs n t j
  induction j with
  | st => exact hs
  | hop c x h' hc ha hu hf hl ih =>
    obtain ⟨u', hu', e⟩ := ih
    subst ha
    obtain ⟨v, e2, hv⟩ := may_none (h c hc) u' e (by omega)
    exact ⟨v, by omega, e2⟩
def ms (g : G) : Nat := (g 0).getD 100 + (g 1).getD 100 + (g 2).getD 100 + (g 3).getD 100
theorem ms_upd {g : G} {n t : Nat} (hn : n < 4) (ht : t < 100) (h : ∀ v, g n = some v → t < v) : ms (upd g n t) < ms g := by
  have hg : t < (g n).getD 100 := by
    cases e : g n with
    | none => exact ht
    | some v => exact h v e
  have hn : n = 0 ∨ n = 1 ∨ n = 2 ∨ n = 3 := by omega
  unfold ms upd
  rcases hn with rfl | rfl | rfl | rfl <;> simp <;> omega
end
end K25
end
section
set_option maxHeartbeats 1000000
/-! Md: a dict with whole numbers or texts as keys, as a cell: taking, putting, displays of one pair. -/
namespace Mb
open PySem PySem.Spec PyProof.Rows L2 Rf Wq
open RgC (kD)
def putSK (S : Sto) (o x y : D) (k : Key) : Option Sto := match o with
  | .ref n => (match S[n]? with
    | some (.dct ks ds) => if ks.length < sizeLine then some (S.set n (.dct (putKD x k y ks ds).1 (putKD x k y ks ds).2)) else none
    | _ => none)
  | _ => none
@[simp] theorem sPutK_eq (o i t : DE) (e : Rf.Env) (S : Sto) : sPutK o i t e S = (t e S).bnd fun p => (o e p.2).bnd fun q => (i e q.2).bnd fun r => (keyD r.1).bnd fun k => (putSK r.2 q.1 r.1 p.1 k).mpp fun S' => (.nx e, S') := by
  unfold sPutK
  show Option.bind _ _ = Option.bind _ _
  congr 1
  funext p
  show Option.bind _ _ = Option.bind _ _
  congr 1
  funext q
  show Option.bind _ _ = Option.bind _ _
  congr 1
  funext r
  show Option.bind _ _ = Option.bind _ _
  congr 1
  funext k
  unfold putSK
  obtain ⟨d, S1⟩ := q
  cases d with
  | ref n =>
    cases h : r.2[n]? with
    | none => simp [h]
    | some c =>
      cases c with
      | dct ks ds =>
        simp only [h]
        split <;> rfl
      | _ => simp [h]
  | _ => rfl
theorem ksD_len (kvs : KD) : (ksD kvs).length = kvs.length := List.length_map ..
theorem putSK_ok {S : Sto} {n : Nat} {kvs : KD} {x y : D} {k : Key} (h : S[n]? = some (.dct (ksD kvs) (vsD kvs))) (hz : kvs.length < sizeLine) (hx : kD k = x) : putSK S (.ref n) x y k = some (S.set n (.dct (ksD (put kvs k y)) (vsD (put kvs k y)))) := by
  subst hx
  unfold putSK
  simp [h, ksD_len, hz, putKD_put]
section
variable {T : Sto} {kvs : KD}
theorem end_dct {ks ds : List D} : (T ++ [Cell.dct ks ds])[T.length]? = some (.dct ks ds) := by rw [List.getElem?_append_right (by omega)]; simp
@[simp] theorem end_dictAt (ks ds : List D) : dictAt (T ++ [Cell.dct ks ds]) (.ref T.length) = some (ks, ds) := dictAt_last end_dct
theorem end_put {x y : D} {k : Key} (hx : kD k = x) (hz : kvs.length < sizeLine) : putSK (T ++ [.dct (ksD kvs) (vsD kvs)]) (.ref T.length) x y k = some (T ++ [.dct (ksD (put kvs k y)) (vsD (put kvs k y))]) := by
  rw [putSK_ok end_dct hz hx]
  simp
end
/-- a display of one pair with a text as key -/
theorem dDisp_one (tk tv : DE) (e : Rf.Env) (S S1 S2 : Sto) (x : PySem.Str) (d : D) (h1 : tk e S = some (.str x, S1)) (h2 : tv e S1 = some (d, S2)) : dDisp ((tk, tv) :: []) e S = some (.dct (ksD [(.inr x, d)]) (vsD [(.inr x, d)]), S2) := by
  unfold dDisp
  simp only [dPs, h1, Option.bind_some, h2, Option.map_some, Rf.putAll, keyD_str]
  rfl
@[simp] theorem dDisp_eq1 (tk tv : DE) (e : Rf.Env) (S : Sto) : dDisp ((tk, tv) :: []) e S = (tk e S).bnd fun p => (tv e p.2).bnd fun q => (keyD p.1).mpp fun k => (.dct [p.1] [q.1], q.2) := by
  unfold dDisp
  simp only [dPs]
  cases h1 : tk e S with
  | none => rfl
  | some p =>
    simp only [Option.bind_some, bnd_some]
    cases h2 : tv e p.2 with
    | none => rfl
    | some q =>
      simp only [Option.map_some, Option.bind_some, bnd_some, Rf.putAll]
      cases h3 : keyD p.1 with
      | none => rfl
      | some k => rfl
end Mb
end
section
set_option maxHeartbeats 1000000
/-! O25: k25, both ways of finding arrivals give the least. -/
namespace K25
open PySem PySem.Spec PyProof.Rows L2 Rf Lb Wq Mb
def nm (n : Nat) : PySem.Str := if n = 0 then "aa" else if n = 1 then "bb" else if n = 2 then "cc" else "dd"
theorem nm_inj {a b : Nat} (ha : a < 4) (hb : b < 4) (h : nm a = nm b) : a = b := by
  have : ∀ a < 4, ∀ b < 4, nm a = nm b → a = b := by decide +kernel
  exact this a ha b hb h
def cD (c : Ct) : D := .tup [.str (nm c.a), .str (nm c.b), .int (c.fi : Int), .int (c.la : Int), .int (c.ra : Int), .int (c.de : Int)]
def hD (q : (Ct × Nat) × Nat) : D := .tup [.str (nm q.1.1.a), .str (nm q.1.1.b), .int (q.1.2 : Int), .int ((q.1.2 : Int) + (q.1.1.de : Int)), .int (q.2 : Int)]
def kN (n : Nat) : Key := .inr (nm n)
/-- how many nodes have a value -/
def cnt (g : G) : Nat := [0, 1, 2, 3].countP fun n => (g n).isSome
theorem cnt_le (g : G) : cnt g ≤ 4 := List.countP_le_length
structure IsG (kvs : KD) (g : G) : Prop where
  lk : ∀ n, n < 4 → Mb.lk kvs (kN n) = (g n).map fun t : Nat => D.int (t : Int)
  len : kvs.length = cnt g
theorem IsG.small {kvs : KD} {g : G} (h : IsG kvs g) : kvs.length < sizeLine := by
  have := cnt_le g
  rw [h.len, sizeL]
  omega
theorem IsG.hs {kvs : KD} {g : G} (h : IsG kvs g) {n : Nat} (hn : n < 4) : Mb.hs kvs (kN n) = (g n).isSome := by
  rw [hs_lk, h.lk n hn, Option.isSome_map]
theorem cnt_upd {g : G} {n t : Nat} (hn : n < 4) : cnt (upd g n t) = if (g n).isSome = true then cnt g else cnt g + 1 := by
  have hn : n = 0 ∨ n = 1 ∨ n = 2 ∨ n = 3 := by omega
  unfold cnt upd
  rcases hn with rfl | rfl | rfl | rfl <;> simp [List.countP_cons] <;> split <;> simp_all <;> omega
theorem IsG.put {kvs : KD} {g : G} (h : IsG kvs g) {n t : Nat} (hn : n < 4) : IsG (Mb.put kvs (kN n) (.int (t : Int))) (upd g n t) where
  lk := fun k hk => by
    rw [lk_put]
    by_cases e : k = n
    · subst e
      rw [if_pos rfl, upd_same]
      rfl
    · rw [if_neg (fun z : kN k = kN n => e (nm_inj hk hn (Sum.inr.inj z))), upd_ne e]
      exact h.lk k hk
  len := by
    rw [cnt_upd hn, ← h.len]
    unfold Mb.put
    rw [h.hs hn]
    split <;> simp
theorem IsG.one {s t0 : Nat} (hs : s < 4) : IsG [(kN s, .int (t0 : Int))] (g0 s t0) where
  lk := fun n hn => by
    unfold Mb.lk
    rw [List.find?_cons]
    by_cases e : n = s
    · subst e
      unfold g0
      rw [upd_same]
      simp
    · have : ¬ kN s = kN n := fun z => e (nm_inj hs hn (Sum.inr.inj z)).symm
      unfold g0
      rw [upd_ne e]
      simp [this]
  len := by
    unfold g0
    rw [cnt_upd hs]
    rfl
section
variable {T : Sto} {net : List Ct} {s t0 : Nat}
theorem law_inner {all : List D} {H : List ((Ct × Nat) × Nat)} (hH : ∀ q ∈ H, okC q.1.1) {kvs : KD} {g : G} (hg : IsG kvs g) {s0 s1 s2 s4 s5 s6 s7 s8 s9 : Sl} :
    Wp (forGo (gTp 5 (gsCons (gNm 5) (gsCons (gNm 6) (gsCons (gNm 7) (gsCons (gNm 8) (gsCons (gNm 9) gsNil)))))) b__law_arrivals_0 none all (H.map hD) [s0, s1, s2, .val (.ref T.length), s4, s5, s6, s7, s8, s9] (T ++ [.dct (ksD kvs) (vsD kvs)]))
      fun r => ∃ kvs' s5 s6 s7 s8 s9, r = (.nx [s0, s1, s2, .val (.ref T.length), s4, s5, s6, s7, s8, s9], T ++ [.dct (ksD kvs') (vsD kvs')]) ∧ IsG kvs' ((H.map (·.1)).foldl hst g) := by
  obtain ⟨I, hI⟩ : ∃ I : List ((Ct × Nat) × Nat) → Rf.Env → Sto → Prop, ∀ xs e Z, I xs e Z ↔ (∃ (kvs : KD) (g' : G) (s5 s6 s7 s8 s9 : Sl), Z = T ++ [.dct (ksD kvs) (vsD kvs)] ∧ e = [s0, s1, s2, .val (.ref T.length), s4, s5, s6, s7, s8, s9] ∧ IsG kvs g' ∧ (xs.map (·.1)).foldl hst g' = (H.map (·.1)).foldl hst g ∧ ∀ q ∈ xs, okC q.1.1) := ⟨fun xs e Z => _, fun _ _ _ => Iff.rfl⟩
  refine wp_for0 (enc := hD) I ?_ ?_ _ _ _ ((hI _ _ _).mpr ⟨kvs, g, _, _, _, _, _, rfl, rfl, hg, rfl, hH⟩)
  · intro e Z h
    obtain ⟨kvs, g', s5, s6, s7, s8, s9, rfl, rfl, h1, h2, _⟩ := (hI _ _ _).mp h
    exact ⟨kvs, s5, s6, s7, s8, s9, rfl, by rw [← h2]; exact h1⟩
  · intro q xs e Z h
    obtain ⟨kvs, g', s5, s6, s7, s8, s9, rfl, rfl, h1, h2, h3⟩ := (hI _ _ _).mp h
    have hq := h3 q (by simp)
    have ha := hq.1
    have hb := hq.2.1
    have h3' := fun r hr => h3 r (List.mem_cons_of_mem _ hr)
    have fin : ∀ (kvs' : KD) (g2 : G) (s5 s6 s7 s8 s9 : Sl), IsG kvs' g2 → hst g' q.1 = g2 → I xs [s0, s1, s2, .val (.ref T.length), s4, s5, s6, s7, s8, s9] (T ++ [.dct (ksD kvs') (vsD kvs')]) := fun kvs' g2 s5 s6 s7 s8 s9 z1 z2 => (hI _ _ _).mpr ⟨kvs', g2, s5, s6, s7, s8, s9, rfl, rfl, z1, by rw [← h2, List.map_cons, List.foldl_cons, z2], h3'⟩
    clear hI h2
    have ea := h1.lk q.1.1.a ha
    have eb := h1.lk q.1.1.b hb
    have xa := h1.hs ha
    have xb := h1.hs hb
    have hk : ∀ y, putSK (T ++ [.dct (ksD kvs) (vsD kvs)]) (.ref T.length) (.str (nm q.1.1.b)) y (.inr (nm q.1.1.b)) = some (T ++ [.dct (ksD (Mb.put kvs (kN q.1.1.b) y)) (vsD (Mb.put kvs (kN q.1.1.b) y))]) := fun y => end_put rfl h1.small
    have hput := fun t : Nat => h1.put (t := t) hb
    unfold kN at ea eb xa xb
    unfold hst at fin
    cases ea' : g' q.1.1.a with
    | none =>
      rw [ea'] at xa ea fin
      simp [b__law_arrivals_0, hD, hasK_hs, xa]
      exact .nx (fin _ _ _ _ _ _ _ h1 rfl)
    | some u =>
      rw [ea'] at xa ea fin
      by_cases hu : u ≤ q.1.2
      · simp only [if_pos hu] at fin
        cases eb' : g' q.1.1.b with
        | none =>
          rw [eb'] at eb fin
          have := hput (q.1.2 + q.1.1.de)
          simp [b__law_arrivals_0, hD, hasK_hs, lookK_lk, xa, ea, eb, hu, hk]
          refine .nx (fin _ _ _ _ _ _ _ this ?_)
          simp
        | some v =>
          rw [eb'] at eb fin
          by_cases hv : v < q.1.2 + q.1.1.de
          · have hv' : (v : Int) < (q.1.2 : Int) + (q.1.1.de : Int) := by omega
            have := hput v
            simp [b__law_arrivals_0, hD, hasK_hs, lookK_lk, xa, ea, eb, hu, hk, hv']
            refine .nx (fin _ _ _ _ _ _ _ this ?_)
            simp [hv]
          · have hv' : ¬ (v : Int) < (q.1.2 : Int) + (q.1.1.de : Int) := by omega
            have := hput (q.1.2 + q.1.1.de)
            simp [b__law_arrivals_0, hD, hasK_hs, lookK_lk, xa, ea, eb, hu, hk, hv']
            refine .nx (fin _ _ _ _ _ _ _ this ?_)
            simp [hv]
      · simp only [if_neg hu] at fin
        have hu' : ¬ (u : Int) ≤ (q.1.2 : Int) := by omega
        simp [b__law_arrivals_0, hD, hasK_hs, lookK_lk, xa, ea, hu']
        exact .nx (fin _ _ _ _ _ _ _ h1 rfl)
end
end K25
end
section
set_option maxHeartbeats 1000000
/-! P25: k25, hops, arrivals by both, whether a journey gets through. -/
namespace K25
open PySem PySem.Spec PyProof.Rows L2 Rf Lb Wq Mb
def nth (net : List Ct) (k : Nat) : Ct := net.getD k ⟨0, 0, 0, 0, 0, 0⟩
theorem nth_in {net : List Ct} {k : Nat} (h : k < net.length) : nth net k = net[k] := by
  unfold nth
  rw [List.getD_eq_getElem?_getD, List.getElem?_eq_getElem h]
  rfl
theorem nth_mem {net : List Ct} {k : Nat} (h : k < net.length) : nth net k ∈ net := by
  rw [nth_in h]
  exact List.getElem_mem h
def hopk (net : List Ct) (k : Nat) : List ((Ct × Nat) × Nat) := ((List.range ((nth net k).la + 1 - (nth net k).fi)).map ((nth net k).fi + ·)).map fun x => ((nth net k, x), k)
def hops (net : List Ct) : List ((Ct × Nat) × Nat) := (List.range net.length).flatMap (hopk net)
theorem hops_ok {net : List Ct} : ∀ q ∈ hops net, okH net q.1 := by
  intro q hq
  obtain ⟨k, hk, hq⟩ := List.mem_flatMap.mp hq
  obtain ⟨x, hx, rfl⟩ := List.mem_map.mp hq
  obtain ⟨i, hi, rfl⟩ := List.mem_map.mp hx
  rw [List.mem_range] at hk hi
  exact ⟨nth_mem hk, by show (nth net k).fi ≤ (nth net k).fi + i; omega, by show (nth net k).fi + i ≤ (nth net k).la; omega⟩
theorem hops_all {net : List Ct} : ∀ c ∈ net, ∀ x, c.fi ≤ x → x ≤ c.la → (c, x) ∈ (hops net).map (·.1) := by
  intro c hc x h1 h2
  obtain ⟨k, hk, rfl⟩ := List.mem_iff_getElem.mp hc
  refine List.mem_map.mpr ⟨((nth net k, x), k), List.mem_flatMap.mpr ⟨k, List.mem_range.mpr hk, List.mem_map.mpr ⟨x, List.mem_map.mpr ⟨x - (nth net k).fi, List.mem_range.mpr ?_, ?_⟩, rfl⟩⟩, by rw [nth_in hk]⟩
  · rw [nth_in hk]
    omega
  · rw [nth_in hk]
    omega
theorem hopk_len {net : List Ct} (hN : ∀ c ∈ net, okC c) {k : Nat} (hk : k < net.length) : (hopk net k).length ≤ 11 := by
  unfold hopk
  have := (hN _ (nth_mem hk)).2.2.2.2.1
  simp
  omega
theorem hops_len {net : List Ct} (hN : ∀ c ∈ net, okC c) : ∀ {ks : List Nat}, (∀ k ∈ ks, k < net.length) → (ks.flatMap (hopk net)).length ≤ ks.length * 11
  | [], _ => by simp
  | k :: ks, h => by
    have := hops_len hN (ks := ks) fun j hj => h j (List.mem_cons_of_mem _ hj)
    have := hopk_len hN (h k (by simp))
    rw [List.flatMap_cons, List.length_append, List.length_cons]
    omega
def netD (net : List Ct) : D := .tup (net.map cD)
section
variable {T S : Sto} {net : List Ct} {s t0 : Nat}
theorem ix_net {k : Nat} (hk : k < net.length) (S : Sto) : ixD S (netD net) (.int (k : Int)) = some (cD (nth net k)) := by
  unfold netD
  rw [ixD_tup, atI_nn (by omega), nth_in hk]
  simp [hk]
theorem rgn {n : Nat} (h : n ≤ 1000) : rgA [.int (n : Int)] = some ((List.range n).map nD) := rgA_nD (by omega)
theorem hops_lc {k : Nat} {c : Ct} {all : List D} {s0 s1 s3 s4 s5 s6 s7 : Sl} {xs : List Nat} :
    lcGo (gNm 9) tTrue x__law_hops_0 none all [s0, s1, .val (.int (k : Int)), .val (.str (nm c.a)), .val (.str (nm c.b)), s5, s6, s7, .val (.int (c.de : Int)), .no] (xs.map nD) [] S = some (.lst (xs.map fun x => hD ((c, x), k)), S) :=
  lcM (enc := nD) (fun x => hD ((c, x), k)) (gd := none) trivial xs fun x _ => by
    simp [x__law_hops_0, nD, hD, sizeL]
theorem law_hops (hN : ∀ c ∈ net, okC c) (hl : net.length ≤ 1000) : f__law_hops [netD net] S = some (.lst ((hops net).map hD), S) := by
  refine Wp.eq ?_
  unfold f__law_hops
  rw [runF1]
  unfold t__law_hops
  have hlen : lenD S [netD net] = some (.int (net.length : Int)) := by simp [netD]
  have ix := fun {k : Nat} (hk : k < net.length) => ix_net hk S
  generalize netD net = ND at *
  simp [hlen, rgn hl]
  obtain ⟨I, hI⟩ : ∃ I : List Nat → Rf.Env → Sto → Prop, ∀ xs e Z, I xs e Z ↔ (∃ (ds : List Nat) (s2 s3 s4 s5 s6 s7 s8 : Sl), Z = S ∧ e = [.val ND, .val (.lst ((ds.flatMap (hopk net)).map hD)), s2, s3, s4, s5, s6, s7, s8, .no] ∧ ds ++ xs = List.range net.length) := ⟨fun xs e Z => _, fun _ _ _ => Iff.rfl⟩
  refine Wp.bnd (wp_for0 (enc := nD) (P := fun r => ∃ s2 s3 s4 s5 s6 s7 s8, r = (.nx [.val ND, .val (.lst ((hops net).map hD)), s2, s3, s4, s5, s6, s7, s8, .no], S)) I ?_ ?_ _ _ _ ((hI _ _ _).mpr ⟨[], _, _, _, _, _, _, _, rfl, rfl, rfl⟩)) ?_
  · intro e Z h
    obtain ⟨ds, s2, s3, s4, s5, s6, s7, s8, rfl, rfl, h1⟩ := (hI _ _ _).mp h
    rw [List.append_nil] at h1
    subst h1
    exact ⟨_, _, _, _, _, _, _, rfl⟩
  · intro k xs e Z h
    obtain ⟨ds, s2, s3, s4, s5, s6, s7, s8, rfl, rfl, h1⟩ := (hI _ _ _).mp h
    have hm : ∀ j ∈ ds ++ k :: xs, j < net.length := fun j hj => List.mem_range.mp (by rw [← h1]; exact hj)
    have hk : k < net.length := hm k (by simp)
    have hds : ds.length ≤ 1000 := by
      have := congrArg List.length h1
      simp at this
      omega
    have l1 := hops_len hN (ks := ds) fun j hj => hm j (List.mem_append_left _ hj)
    have l2 := hopk_len hN hk
    have fin : ∀ (s2 s3 s4 s5 s6 s7 s8 : Sl), I xs [.val ND, .val (.lst ((ds.flatMap (hopk net)).map hD ++ (hopk net k).map hD)), s2, s3, s4, s5, s6, s7, s8, .no] Z := fun s2 s3 s4 s5 s6 s7 s8 => (hI _ _ _).mpr ⟨ds ++ [k], s2, s3, s4, s5, s6, s7, s8, rfl, by simp [List.flatMap_append], by simpa using h1⟩
    have e1 := ix hk
    have ok := hN _ (nth_mem hk)
    obtain ⟨_, _, _, o1, o2, o3, o4⟩ := ok
    have e2 : (hopk net k).map hD = ((List.range ((nth net k).la + 1 - (nth net k).fi)).map ((nth net k).fi + ·)).map fun x => hD ((nth net k, x), k) := by
      unfold hopk
      rw [List.map_map]
      rfl
    have hz : (hopk net k).length = (((List.range ((nth net k).la + 1 - (nth net k).fi)).map ((nth net k).fi + ·)).map fun x => hD ((nth net k, x), k)).length := by rw [← e2, List.length_map]
    rw [e2] at fin
    have rg := rgB_nD (a := (nth net k).fi) (b := (nth net k).la + 1) (by omega) (by omega)
    rw [show (((nth net k).la + 1 : Nat) : Int) = ((nth net k).la : Int) + 1 from rfl] at rg
    generalize ((List.range ((nth net k).la + 1 - (nth net k).fi)).map ((nth net k).fi + ·)) = X at *
    generalize nth net k = c at *
    have lc := fun (all : List D) (s5 s6 s7 : Sl) => hops_lc (S := Z) (k := k) (c := c) (all := all) (s0 := .val ND) (s1 := .val (.lst ((ds.flatMap (hopk net)).map hD))) (s3 := .no) (s4 := .no) (s5 := s5) (s6 := s6) (s7 := s7) (xs := X)
    generalize (ds.flatMap (hopk net)) = F at *
    have z1 : F.length + X.length ≤ sizeLine := by
      rw [List.length_map] at hz
      rw [sizeL]; omega
    generalize hx : x__law_hops_0 = x at *
    unfold cD at e1
    simp [b__law_hops_0, nD]
    simp [e1, rg, hx, lc, z1]
    exact .nx (fin _ _ _ _ _ _ _)
  · rintro _ ⟨s2, s3, s4, s5, s6, s7, s8, rfl⟩
    simp
end
end K25
end
section
set_option maxHeartbeats 1000000
/-! Q25: k25, arrivals by the law and by the program; whether a journey gets through. -/
namespace K25
open PySem PySem.Spec PyProof.Rows L2 Rf Lb Wq Mb
section
variable {T S : Sto} {net : List Ct} {s t0 : Nat}
theorem law_arr (hN : ∀ c ∈ net, okC c) (hl : net.length ≤ 1000) (hs : s < 4) :
    Wp (f__law_arrivals [netD net, .str (nm s), .int (t0 : Int)] S) fun r => ∃ kvs g, r = (.ref S.length, S ++ [.dct (ksD kvs) (vsD kvs)]) ∧ IsG kvs g ∧ Lst net s t0 g := by
  have lh := fun S => law_hops (S := S) hN hl
  have hH : ∀ q ∈ hops net, okC q.1.1 := fun q hq => hN _ (hops_ok q hq).1
  have li := fun {all : List D} {kvs : KD} {g : G} (hg : IsG kvs g) {s0 s1 s2 s4 s5 s6 s7 s8 s9 : Sl} => law_inner (T := S) (all := all) hH hg (s0 := s0) (s1 := s1) (s2 := s2) (s4 := s4) (s5 := s5) (s6 := s6) (s7 := s7) (s8 := s8) (s9 := s9)
  have fin5 := rnd_lst (t0 := t0) (H := (hops net).map (·.1)) hs hN (fun q hq => by
    obtain ⟨r, hr, rfl⟩ := List.mem_map.mp hq
    exact hops_ok r hr) hops_all
  unfold f__law_arrivals
  rw [runF3]
  unfold t__law_arrivals
  generalize netD net = ND at *
  generalize (hops net).map hD = HD at *
  generalize hH' : (hops net).map (·.1) = HH at *
  have r5 : rgA [.int 5] = some ((List.range 5).map nD) := rgn (n := 5) (by omega)
  simp [r5]
  obtain ⟨I, hI⟩ : ∃ I : List Nat → Rf.Env → Sto → Prop, ∀ xs e Z, I xs e Z ↔ (∃ (k : Nat) (kvs : KD) (s4 s5 s6 s7 s8 s9 : Sl), Z = S ++ [.dct (ksD kvs) (vsD kvs)] ∧ e = [.val ND, .val (.str (nm s)), .val (.int (t0 : Int)), .val (.ref S.length), s4, s5, s6, s7, s8, s9] ∧ k + xs.length = 5 ∧ IsG kvs (rnd HH (g0 s t0) k)) := ⟨fun xs e Z => _, fun _ _ _ => Iff.rfl⟩
  refine Wp.bnd (wp_for0 (enc := nD) (P := fun r => ∃ (kvs : KD) (s4 s5 s6 s7 s8 s9 : Sl), r = (.nx [.val ND, .val (.str (nm s)), .val (.int (t0 : Int)), .val (.ref S.length), s4, s5, s6, s7, s8, s9], S ++ [.dct (ksD kvs) (vsD kvs)]) ∧ IsG kvs (rnd HH (g0 s t0) 5)) I ?_ ?_ _ _ _ ((hI _ _ _).mpr ⟨0, [(kN s, .int (t0 : Int))], _, _, _, _, _, _, rfl, rfl, rfl, IsG.one hs⟩)) ?_
  · intro e Z h
    obtain ⟨k, kvs, s4, s5, s6, s7, s8, s9, rfl, rfl, h1, h2⟩ := (hI _ _ _).mp h
    simp at h1
    subst h1
    exact ⟨_, _, _, _, _, _, _, rfl, h2⟩
  · intro i xs e Z h
    obtain ⟨k, kvs, s4, s5, s6, s7, s8, s9, rfl, rfl, h1, h2⟩ := (hI _ _ _).mp h
    rw [List.length_cons] at h1
    generalize hb : b__law_arrivals_0 = tb at *
    simp [b__law_arrivals_1, hb, lh]
    refine (li h2).mono ?_
    rintro _ ⟨kvs', s5, s6, s7, s8, s9, rfl, h3⟩
    exact .nx ((hI _ _ _).mpr ⟨k + 1, kvs', _, _, _, _, _, _, rfl, rfl, by omega, h3⟩)
  · rintro _ ⟨kvs, s4, s5, s6, s7, s8, s9, rfl, h⟩
    simp
    exact ⟨kvs, ⟨rfl, rfl⟩, _, h, fin5⟩
/-! ### the program's way -/
theorem arr_inner {all : List D} (hN : ∀ c ∈ net, okC c) {kvs : KD} {g : G} (hg : IsG kvs g) (hS : Snd net s t0 g) (hs : ∃ u, u ≤ t0 ∧ g s = some u) {s0 s1 s2 s5 s6 s7 s8 s9 s10 s11 : Sl} :
    Wp (forGo (gTp 6 (gsCons (gNm 5) (gsCons (gNm 6) (gsCons (gNm 7) (gsCons (gNm 8) (gsCons (gNm 9) (gsCons (gNm 10) gsNil))))))) b_arrivals_0 none all (net.map cD) [s0, s1, s2, .val (.ref T.length), .val (.bl false), s5, s6, s7, s8, s9, s10, s11] (T ++ [.dct (ksD kvs) (vsD kvs)]))
      fun r => ∃ kvs' g' b s5 s6 s7 s8 s9 s10 s11, r = (.nx [s0, s1, s2, .val (.ref T.length), .val (.bl b), s5, s6, s7, s8, s9, s10, s11], T ++ [.dct (ksD kvs') (vsD kvs')]) ∧ IsG kvs' g' ∧ Snd net s t0 g' ∧ (∃ u, u ≤ t0 ∧ g' s = some u) ∧ ((b = false ∧ ∀ c ∈ net, may g' c = none) ∨ (b = true ∧ ms g' < ms g)) := by
  obtain ⟨I, hI⟩ : ∃ I : List Ct → Rf.Env → Sto → Prop, ∀ xs e Z, I xs e Z ↔ (∃ (ds : List Ct) (kvs : KD) (g' : G) (b : Bool) (s5 s6 s7 s8 s9 s10 s11 : Sl), Z = T ++ [.dct (ksD kvs) (vsD kvs)] ∧ e = [s0, s1, s2, .val (.ref T.length), .val (.bl b), s5, s6, s7, s8, s9, s10, s11] ∧ ds ++ xs = net ∧ IsG kvs g' ∧ Snd net s t0 g' ∧ (∃ u, u ≤ t0 ∧ g' s = some u) ∧ ((b = false ∧ g' = g ∧ ∀ c ∈ ds, may g c = none) ∨ (b = true ∧ ms g' < ms g))) := ⟨fun xs e Z => _, fun _ _ _ => Iff.rfl⟩
  refine wp_for0 (enc := cD) I ?_ ?_ _ _ _ ((hI _ _ _).mpr ⟨[], kvs, g, false, _, _, _, _, _, _, _, rfl, rfl, rfl, hg, hS, hs, .inl ⟨rfl, rfl, by simp⟩⟩)
  · intro e Z h
    obtain ⟨ds, kvs, g', b, s5, s6, s7, s8, s9, s10, s11, rfl, rfl, h1, h2, h3, h4, h5⟩ := (hI _ _ _).mp h
    rw [List.append_nil] at h1
    subst h1
    refine ⟨kvs, g', b, _, _, _, _, _, _, _, rfl, h2, h3, h4, ?_⟩
    rcases h5 with ⟨rfl, rfl, h5⟩ | h5
    · exact .inl ⟨rfl, h5⟩
    · exact .inr h5
  · intro c xs e Z h
    obtain ⟨ds, kvs, g', b, s5, s6, s7, s8, s9, s10, s11, rfl, rfl, h1, h2, h3, h4, h5⟩ := (hI _ _ _).mp h
    have hc : c ∈ net := by rw [← h1]; simp
    obtain ⟨ha, hb, hab, hf, hla, hde, _⟩ := hN c hc
    have keep : ∀ (s5 s6 s7 s8 s9 s10 s11 : Sl), may g' c = none → I xs [s0, s1, s2, .val (.ref T.length), .val (.bl b), s5, s6, s7, s8, s9, s10, s11] (T ++ [.dct (ksD kvs) (vsD kvs)]) := fun s5 s6 s7 s8 s9 s10 s11 hm => (hI _ _ _).mpr ⟨ds ++ [c], kvs, g', b, _, _, _, _, _, _, _, rfl, rfl, by simpa using h1, h2, h3, h4, by
      rcases h5 with ⟨rfl, rfl, h5⟩ | h5
      · refine .inl ⟨rfl, rfl, fun d hd => ?_⟩
        rcases List.mem_append.mp hd with z | z
        · exact h5 d z
        · have : d = c := by simpa using z
          rw [this]
          exact hm
      · exact .inr h5⟩
    have rise : ∀ (r : Nat) (s5 s6 s7 s8 s9 s10 s11 : Sl), may g' c = some r → I xs [s0, s1, s2, .val (.ref T.length), .val (.bl true), s5, s6, s7, s8, s9, s10, s11] (T ++ [.dct (ksD (Mb.put kvs (kN c.b) (.int (r : Int)))) (vsD (Mb.put kvs (kN c.b) (.int (r : Int))))]) := fun r s5 s6 s7 s8 s9 s10 s11 hm => by
      obtain ⟨u, e, hu, hr, hlt⟩ := may_some hm
      have m := ms_upd (g := g') hb (show r < 100 by omega) hlt
      refine (hI _ _ _).mpr ⟨ds ++ [c], _, upd g' c.b r, true, _, _, _, _, _, _, _, rfl, rfl, by simpa using h1, h2.put hb, may_snd h3 hc hf hm, ?_, .inr ⟨rfl, ?_⟩⟩
      · obtain ⟨w, hw, ew⟩ := h4
        by_cases z : s = c.b
        · rw [← z] at hlt ⊢
          have := hlt w ew
          exact ⟨r, by omega, upd_same⟩
        · exact ⟨w, hw, by rw [upd_ne z]; exact ew⟩
      · rcases h5 with ⟨_, rfl, _⟩ | ⟨_, h5⟩
        · exact m
        · omega
    clear hI h1 h5
    have ea := h2.lk c.a ha
    have eb := h2.lk c.b hb
    have xa := h2.hs ha
    have xb := h2.hs hb
    have hk : ∀ y, putSK (T ++ [.dct (ksD kvs) (vsD kvs)]) (.ref T.length) (.str (nm c.b)) y (.inr (nm c.b)) = some (T ++ [.dct (ksD (Mb.put kvs (kN c.b) y)) (vsD (Mb.put kvs (kN c.b) y))]) := fun y => end_put rfl h2.small
    unfold kN at ea eb xa xb
    cases ea' : g' c.a with
    | none =>
      rw [ea'] at xa ea
      have hm : may g' c = none := by unfold may; rw [ea']
      simp [b_arrivals_0, cD, hasK_hs, xa]
      exact .nx (keep _ _ _ _ _ _ _ hm)
    | some u =>
      rw [ea'] at xa ea
      by_cases hu : u ≤ c.la
      · have mx : (if c.fi < u then D.int (u : Int) else D.int (c.fi : Int)) = D.int ((max c.fi u : Nat) : Int) := by
          split
          · rw [Nat.max_eq_right (by omega)]
          · rw [Nat.max_eq_left (by omega)]
        have mx' : (if c.fi < u then (u : Int) else (c.fi : Int)) = ((max c.fi u : Nat) : Int) := by
          split
          · rw [Nat.max_eq_right (by omega)]
          · rw [Nat.max_eq_left (by omega)]
        have may_eq : may g' c = if les (g' c.b) (max c.fi u + c.de) = true then some (max c.fi u + c.de) else none := by
          unfold may
          rw [ea']
          dsimp only
          rw [if_pos hu]
        generalize max c.fi u = m at *
        cases eb' : g' c.b with
        | none =>
          rw [eb'] at eb xb may_eq
          rw [if_pos (show les none (m + c.de) = true from rfl)] at may_eq
          simp [b_arrivals_0, cD, hasK_hs, lookK_lk, xa, ea, xb, eb, hu, hk, mx, mx']
          exact .nx (rise _ _ _ _ _ _ _ _ may_eq)
        | some v =>
          rw [eb'] at eb xb may_eq
          by_cases hv : m + c.de < v
          · rw [if_pos (show les (some v) (m + c.de) = true from decide_eq_true hv)] at may_eq
            have hv' : (m : Int) + (c.de : Int) < (v : Int) := by omega
            simp [b_arrivals_0, cD, hasK_hs, lookK_lk, xa, ea, xb, eb, hu, hk, mx, mx', hv']
            exact .nx (rise _ _ _ _ _ _ _ _ may_eq)
          · rw [if_neg (show ¬ les (some v) (m + c.de) = true by simpa [les] using hv)] at may_eq
            have hv' : ¬ (m : Int) + (c.de : Int) < (v : Int) := by omega
            simp [b_arrivals_0, cD, hasK_hs, lookK_lk, xa, ea, xb, eb, hu, hk, mx, mx', hv']
            exact .nx (keep _ _ _ _ _ _ _ may_eq)
      · have hu' : ¬ (u : Int) ≤ (c.la : Int) := by omega
        have hm : may g' c = none := by unfold may; rw [ea']; exact if_neg hu
        simp [b_arrivals_0, cD, hasK_hs, lookK_lk, xa, ea, hu, hu']
        exact .nx (keep _ _ _ _ _ _ _ hm)
theorem arr (hN : ∀ c ∈ net, okC c) (hs : s < 4) :
    Wp (f_arrivals [netD net, .str (nm s), .int (t0 : Int)] S) fun r => ∃ kvs g, r = (.ref S.length, S ++ [.dct (ksD kvs) (vsD kvs)]) ∧ IsG kvs g ∧ Lst net s t0 g := by
  unfold f_arrivals
  rw [runF3]
  unfold t_arrivals
  simp
  obtain ⟨I, hI⟩ : ∃ I : Nat → Rf.Env → Sto → Prop, ∀ n e Z, I n e Z ↔ (∃ (kvs : KD) (g : G) (b : Bool) (s5 s6 s7 s8 s9 s10 s11 : Sl), Z = S ++ [.dct (ksD kvs) (vsD kvs)] ∧ e = [.val (netD net), .val (.str (nm s)), .val (.int (t0 : Int)), .val (.ref S.length), .val (.bl b), s5, s6, s7, s8, s9, s10, s11] ∧ IsG kvs g ∧ Snd net s t0 g ∧ (∃ u, u ≤ t0 ∧ g s = some u) ∧ n = (if b = true then ms g + 1 else 0) ∧ (b = false → ∀ c ∈ net, may g c = none)) := ⟨fun xs e Z => _, fun _ _ _ => Iff.rfl⟩
  refine Wp.bnd (wp_while (P := fun r => ∃ (kvs : KD) (g : G) (s4 s5 s6 s7 s8 s9 s10 s11 : Sl), r = (.nx [.val (netD net), .val (.str (nm s)), .val (.int (t0 : Int)), .val (.ref S.length), s4, s5, s6, s7, s8, s9, s10, s11], S ++ [.dct (ksD kvs) (vsD kvs)]) ∧ IsG kvs g ∧ Lst net s t0 g) I ?_ _ _ _ ((hI _ _ _).mpr ⟨[(kN s, .int (t0 : Int))], g0 s t0, true, _, _, _, _, _, _, _, rfl, rfl, IsG.one hs, g0_snd, ⟨t0, Nat.le_refl _, upd_same⟩, rfl, fun z => by cases z⟩)) ?_
  · intro n e Z h
    obtain ⟨kvs, g, b, s5, s6, s7, s8, s9, s10, s11, rfl, rfl, h1, h2, h3, h4, h5⟩ := (hI _ _ _).mp h
    cases b with
    | false =>
      simp [c_arrivals_0]
      exact ⟨kvs, ⟨rfl, rfl⟩, g, h1, h2, fix_cmp h3 (h5 rfl)⟩
    | true =>
      rw [if_pos rfl] at h4
      generalize hb : b_arrivals_0 = tb at *
      have it : itemsD (S ++ [Cell.dct (ksD kvs) (vsD kvs)]) (netD net) = some (net.map cD) := rfl
      have gd : gdOf (netD net) = none := rfl
      have ai := arr_inner (T := S) (all := net.map cD) (s := s) (t0 := t0) hN h1 h2 h3 (s0 := .val (netD net)) (s1 := .val (.str (nm s))) (s2 := .val (.int (t0 : Int))) (s5 := s5) (s6 := s6) (s7 := s7) (s8 := s8) (s9 := s9) (s10 := s10) (s11 := s11)
      rw [hb] at ai
      generalize netD net = ND at *
      simp [c_arrivals_0, w_arrivals_0, hb, it, gd]
      refine ai.mono ?_
      rintro _ ⟨kvs', g', b, s5, s6, s7, s8, s9, s10, s11, rfl, k1, k2, k3, k4⟩
      rcases k4 with ⟨rfl, k4⟩ | ⟨rfl, k4⟩
      · exact .nx ⟨0, by omega, (hI _ _ _).mpr ⟨kvs', g', false, _, _, _, _, _, _, _, rfl, rfl, k1, k2, k3, rfl, fun _ => k4⟩⟩
      · exact .nx ⟨ms g' + 1, by omega, (hI _ _ _).mpr ⟨kvs', g', true, _, _, _, _, _, _, _, rfl, rfl, k1, k2, k3, rfl, fun z => by cases z⟩⟩
  · rintro _ ⟨kvs, g, s4, s5, s6, s7, s8, s9, s10, s11, rfl, h1, h2⟩
    simp
    exact ⟨kvs, ⟨rfl, rfl⟩, g, h1, h2⟩
/-! ### whether a journey gets through -/
noncomputable def gt (net : List Ct) (s t0 n l : Nat) : Bool := @decide (∃ vs t, Jn net s t0 vs n t ∧ t ≤ l) (Classical.propDecidable _)
theorem gt_of {g : G} (h : Lst net s t0 g) (n l : Nat) : gt net s t0 n l = match g n with | some u => decide (u ≤ l) | none => false := by
  unfold gt
  rw [Bool.eq_iff_iff, @decide_eq_true_iff _ (Classical.propDecidable _), ← h.iff n l]
  cases g n <;> simp
theorem gets (hN : ∀ c ∈ net, okC c) (hs : s < 4) {n l : Nat} (hn : n < 4) :
    Wp (f_gets_through [netD net, .str (nm s), .str (nm n), .int (t0 : Int), .int (l : Int)] S) fun r => ∃ J, r = (.bl (gt net s t0 n l), S ++ J) := by
  unfold f_gets_through
  rw [runF5]
  unfold t_gets_through
  have a := arr (S := S) (t0 := t0) hN hs
  generalize netD net = ND at *
  simp
  refine Wp.bnd a ?_
  rintro _ ⟨kvs, g, rfl, h1, h2⟩
  rw [gt_of h2]
  have e := h1.lk n hn
  have x := h1.hs hn
  unfold kN at e x
  cases eg : g n with
  | none =>
    rw [eg] at e x
    simp [hasK_hs, lookK_lk, e, x]
  | some u =>
    rw [eg] at e x
    simp [hasK_hs, lookK_lk, e, x]
end
end K25
end
section
set_option maxHeartbeats 1000000
/-! Sh: what several modules ask of things. -/
namespace Sh
open PySem PySem.Spec PyProof.Rows L2 Rf Lb
noncomputable def t_is_integer : DS :=
  (sRet (dAnd' (dIsi ["int"] (dVar 0)) (dOp1 notD (dIsi ["bool"] (dVar 0)))))
noncomputable def f_is_integer : Fn := runF 1 1 t_is_integer
noncomputable def t_is_number : DS :=
  (sRet (dAnd' (dCall f_is_integer (aCons (dVar 0) aNil)) (dAnd' (dGe (dVar 0) (dVar 1)) (dOr' (dIs (dVar 2) (dC .non)) (dLe (dVar 0) (dVar 2))))))
noncomputable def f_is_number : Fn := runF 3 3 t_is_number
noncomputable abbrev x_is_name_0 : DE :=
  (dIn (dVar 1) (dC (.str "abcdefghijklmnopqrstuvwxyz")))
noncomputable def t_is_name : DS :=
  (sSeq (sIf (tOr' (tNot' (dTru (dIsi ["str"] (dVar 0)))) (tNot' (dBl (dChain leD leD (dC (.int 1)) (dOpA lenD (aCons (dVar 0) aNil)) (dC (.int 8))))))
  (sRet (dC (.bl false)))
  sNil)
  (sRet (dOpA allD (aCons (dLc (iStrs (dVar 0)) [1] (gNm 1) tTrue x_is_name_0) aNil))))
noncomputable def f_is_name : Fn := runF 2 1 t_is_name
noncomputable def t_is_row : DS :=
  (sRet (dAnd' (dIsi ["tuple"] (dVar 0)) (dChain leD leD (dVar 1) (dOpA lenD (aCons (dVar 0) aNil)) (dVar 2))))
noncomputable def f_is_row : Fn := runF 3 3 t_is_row
/-- a row of tests, coded -/
theorem bls_map {α : Type} (b : α → Bool) : ∀ xs : List α, blsD (xs.map fun x => D.bl (b x)) = some (xs.map b)
  | [] => rfl
  | x :: xs => by
    rw [List.map_cons, blsD_cons, bls_map b xs]
    rfl
@[simp] theorem lenD_str (S : Sto) (x : PySem.Str) : lenD S [.str x] = if x.length ≤ sizeLine then some (.int x.length) else none := (rfl)
section
variable {S : Sto}
theorem integer_int (i : Int) : f_is_integer [.int i] S = some (.bl true, S) := by
  unfold f_is_integer
  rw [runF1]
  unfold t_is_integer
  simp
theorem integer_bl (b : Bool) : f_is_integer [.bl b] S = some (.bl false, S) := by
  unfold f_is_integer
  rw [runF1]
  unfold t_is_integer
  simp
theorem number_int (i a b : Int) : f_is_number [.int i, .int a, .int b] S = some (.bl (decide (a ≤ i) && decide (i ≤ b)), S) := by
  unfold f_is_number
  rw [runF3]
  unfold t_is_number
  by_cases h : a ≤ i <;> simp [integer_int, h]
theorem number_bl (k : Bool) (x y : D) : f_is_number [.bl k, x, y] S = some (.bl false, S) := by
  unfold f_is_number
  rw [runF3]
  unfold t_is_number
  simp [integer_bl]
theorem row_tup (xs : List D) (a b : Int) : f_is_row [.tup xs, .int a, .int b] S = some (.bl (decide (a ≤ xs.length) && decide ((xs.length : Int) ≤ b)), S) := by
  unfold f_is_row
  rw [runF3]
  unfold t_is_row
  by_cases h : a ≤ (xs.length : Int) <;> simp [h]
theorem row_lst (xs : List D) (a b : D) : f_is_row [.lst xs, a, b] S = some (.bl false, S) := by
  unfold f_is_row
  rw [runF3]
  unfold t_is_row
  simp
theorem row_non (a b : D) : f_is_row [.non, a, b] S = some (.bl false, S) := by
  unfold f_is_row
  rw [runF3]
  unfold t_is_row
  simp
theorem row_int (i : Int) (a b : D) : f_is_row [.int i, a, b] S = some (.bl false, S) := by
  unfold f_is_row
  rw [runF3]
  unfold t_is_row
  simp
def LET : PySem.Str := "abcdefghijklmnopqrstuvwxyz"
def nameB (x : PySem.Str) : Bool := decide (1 ≤ x.length) && (decide (x.length ≤ 8) && x.cps.toList.all (fun c => decide (c ∈ LET.cps.toList)))
theorem in_let (c : Nat) : inS S (.str ⟨#[c]⟩) (.str "abcdefghijklmnopqrstuvwxyz") = some (decide (c ∈ LET.cps.toList)) := by
  show some (!(Builtin.Str.occurrences LET ⟨#[c]⟩ 0 LET.length 1).isEmpty) = _
  rw [PySem.StrLaws.found_one]
theorem name_str (x : PySem.Str) (hx : x.length ≤ 1000) : f_is_name [.str x] S = some (.bl (nameB x), S) := by
  have h1 : x.length ≤ sizeLine := by rw [sizeL]; omega
  have h2 : x.cps.size ≤ sizeLine := h1
  unfold f_is_name
  rw [runF1]
  unfold t_is_name nameB
  have hs : Rf.signs x = x.cps.toList.map (fun c => D.str ⟨#[c]⟩) := rfl
  generalize x.cps.toList = cs at hs ⊢
  by_cases h3 : 1 ≤ x.length
  · by_cases h4 : x.length ≤ 8
    · have h3' : (1 : Int) ≤ (x.length : Int) := by omega
      have h4' : (x.length : Int) ≤ 8 := by omega
      simp [h1, h3', h4', h3, h4, iStrs, h2, hs, -Array.mem_toList_iff]
      rw [lcGo_mapB (enc := fun c => D.str ⟨#[c]⟩) (fun c => .bl (decide (c ∈ LET.cps.toList))) ]
      · simp [bls_map (fun c => decide (c ∈ LET.cps.toList)), -Array.mem_toList_iff]
      · intro c _
        simp [in_let]
    · have h3' : (1 : Int) ≤ (x.length : Int) := by omega
      have h4' : ¬ (x.length : Int) ≤ 8 := by omega
      simp [h1, h3', h4', h3, h4]
  · have h3' : ¬ (1 : Int) ≤ (x.length : Int) := by omega
    simp [h1, h3', h3]
end
end Sh
end
section
set_option maxHeartbeats 1000000
/-! R25: k25, the weak sets by both. -/
namespace K25
open PySem PySem.Spec PyProof.Rows L2 Rf Lb Wq Mb
def s1 (n : Nat) : List (List Nat) := (List.range n).map fun k => [k]
def s2 (n : Nat) : List (List Nat) := (List.range n).flatMap fun k => ((List.range (n - (k + 1))).map (k + 1 + ·)).map fun j => [k, j]
def sets (n : Nat) : List (List Nat) := s1 n ++ s2 n
theorem sets_ok {n : Nat} (hn : n ≤ 7) : (∀ c ∈ sets n, 1 ≤ c.length ∧ c.length ≤ 2 ∧ ∀ k ∈ c, k < n) ∧ (sets n).length ≤ 28 ∧ combD (rgI n) 1 = some ((s1 n).map tD) ∧ combD (rgI n) 2 = some ((s2 n).map tD) := by
  have h : n = 0 ∨ n = 1 ∨ n = 2 ∨ n = 3 ∨ n = 4 ∨ n = 5 ∨ n = 6 ∨ n = 7 := by omega
  rcases h with rfl | rfl | rfl | rfl | rfl | rfl | rfl | rfl <;> refine ⟨?_, ?_, by rfl, by rfl⟩ <;> decide +kernel
def rest (net : List Ct) (c : List Nat) : List Ct := ((List.range net.length).filter fun k => !c.contains k).map (nth net)
theorem rest_mem {net : List Ct} {c : List Nat} : ∀ x ∈ rest net c, x ∈ net := by
  intro x hx
  obtain ⟨k, hk, rfl⟩ := List.mem_map.mp hx
  exact nth_mem (List.mem_range.mp (List.mem_filter.mp hk).1)
theorem rest_len {net : List Ct} {c : List Nat} : (rest net c).length ≤ net.length := by
  unfold rest
  rw [List.length_map]
  exact Nat.le_trans (List.length_filter_le _ _) (by simp)
def hit (acc : List (List Nat)) (c : List Nat) : Bool := c.any fun k => acc.contains [k]
section
variable {S : Sto} {net : List Ct} {s t0 n l : Nat}
noncomputable def stp (net : List Ct) (s t0 n l : Nat) (acc : List (List Nat)) (c : List Nat) : List (List Nat) := if hit acc c = false ∧ gt (rest net c) s t0 n l = false then acc ++ [c] else acc
noncomputable def weak (net : List Ct) (s t0 n l : Nat) : List (List Nat) := (sets net.length).foldl (stp net s t0 n l) []
/-- found sets -/
def okA (m : Nat) (acc : List (List Nat)) : Prop := ∀ c ∈ acc, 1 ≤ c.length ∧ c.length ≤ 2 ∧ ∀ k ∈ c, k < m
theorem stp_ok {m : Nat} {acc : List (List Nat)} {c : List Nat} (h : okA m acc) (hc : 1 ≤ c.length ∧ c.length ≤ 2 ∧ ∀ k ∈ c, k < m) : okA m (stp net s t0 n l acc c) := by
  unfold stp
  split
  · intro d hd
    rcases List.mem_append.mp hd with z | z
    · exact h d z
    · have : d = c := by simpa using z
      rw [this]
      exact hc
  · exact h
theorem stp_len (acc : List (List Nat)) (c : List Nat) : (stp net s t0 n l acc c).length ≤ acc.length + 1 := by
  unfold stp
  split <;> simp
theorem in_c {c : List Nat} {k : Nat} (hl : c.length ≤ 1000) : inS S (.int (k : Int)) (.tup (c.map nD)) = some (c.contains k) := by
  rw [inS_tup (n := 12) (x := .int (k : Int)) (by omega) (okD_int _ _) (okD_tupOf (by rw [List.length_map]; omega) fun d hd => by
    obtain ⟨k, _, rfl⟩ := List.mem_map.mp hd
    exact okD_int _ _)]
  congr 1
  induction c with
  | nil => rfl
  | cons a c ih =>
    rw [List.map_cons, List.any_cons, List.contains_cons, ih (by simp at hl; omega)]
    congr 1
    simp [nD]
    rw [Bool.eq_iff_iff]
    simp
    omega
theorem in_acc {m : Nat} {acc : List (List Nat)} {k : Nat} (h : okA m acc) (hl : acc.length ≤ 1000) : inS S (.tup [.int (k : Int)]) (.lst (acc.map tD)) = some (acc.contains [k]) := by
  rw [inS_lst (n := 12) (by omega) (okD_tupOf (by simp) fun d hd => by
    have : d = .int (k : Int) := by simpa using hd
    rw [this]
    exact okD_int _ _) (okD_lstOf (by rw [List.length_map]; omega) fun d hd => by
    obtain ⟨c, hc, rfl⟩ := List.mem_map.mp hd
    exact tD_ok c (by have := h c hc; omega) 10)]
  congr 1
  clear h hl
  induction acc with
  | nil => rfl
  | cons a acc ih =>
    rw [List.map_cons, List.any_cons, List.contains_cons, ih]
    congr 1
    have := eqBs_nD a [k]
    show eqBs (a.map nD) ([k].map nD) = _
    rw [this, Bool.eq_iff_iff]
    simp
    exact eq_comm
theorem enum_lc {c : List Nat} (hl : c.length ≤ 1000) {all : List D} {a0 a1 a2 a3 a4 a5 a6 a8 : Sl} :
    lcGo (gTp 2 (gsCons (gNm 9) (gsCons (gNm 10) gsNil))) q_weak_sets_0 x_weak_sets_0 none all [a0, a1, a2, a3, a4, a5, a6, .val (tD c), a8, .no, .no] ((num net).map (numd cD)) [] S = some (.lst ((rest net c).map cD), S) := by
  have lc := lcG (enc := numd cD) (fun q : Nat × Ct => cD q.2) (fun q => !c.contains q.1) (g := gTp 2 (gsCons (gNm 9) (gsCons (gNm 10) gsNil))) (tt := q_weak_sets_0) (te := x_weak_sets_0) (gd := none) (all := all) (we := [a0, a1, a2, a3, a4, a5, a6, .val (tD c), a8, .no, .no]) (S := S) trivial (num net) [] (fun q hq => by
    have i := in_c (S := S) (c := c) (k := q.1) hl
    generalize hX : cD q.2 = X
    unfold tD
    generalize c.map nD = C at *
    simp [q_weak_sets_0, numd, hX, i]) (fun q hq _ => by
    generalize hX : cD q.2 = X
    simp [x_weak_sets_0, numd, hX])
  rw [lc]
  congr 2
  rw [List.nil_append]
  congr 1
  unfold rest
  rw [List.map_map]
  have e : (num net).filter (fun q => !c.contains q.1) = ((List.range net.length).filter fun k => !c.contains k).map fun k => (k, nth net k) := by
    have e2 : num net = (List.range net.length).map fun k => (k, nth net k) := by
      unfold num
      refine List.ext_getElem? fun i => ?_
      rw [List.getElem?_map]
      by_cases hi : i < net.length
      · rw [List.getElem?_range hi, List.getElem?_eq_getElem (by simp; omega), List.getElem_zip]
        simp [nth_in hi]
      · rw [List.getElem?_eq_none (by simp; omega), List.getElem?_eq_none (by simp; omega)]
        rfl
    rw [e2, List.filter_map]
    rfl
  rw [e, List.map_map]
  rfl
theorem hit_lc {m : Nat} {acc : List (List Nat)} {c : List Nat} (h : okA m acc) (hl : acc.length ≤ 1000) {all : List D} {a0 a1 a2 a3 a4 a6 a7 a8 a10 : Sl} :
    lcGo (gNm 9) tTrue x_weak_sets_1 none all [a0, a1, a2, a3, a4, .own (.lst (acc.map tD)), a6, a7, a8, .no, a10] (c.map nD) [] S = some (.lst (c.map fun k => .bl (acc.contains [k])), S) :=
  lcM (enc := nD) (fun k => .bl (acc.contains [k])) (gd := none) trivial c fun k _ => by
    have i := in_acc (S := S) (k := k) h hl
    generalize acc.contains [k] = q at *
    generalize acc.map tD = A at *
    simp [x_weak_sets_1, nD, i, sizeL]
theorem ws_step (hN : ∀ c ∈ net, okC c) (hl : net.length ≤ 7) (hs : s < 4) (hn : n < 4) {acc : List (List Nat)} {c : List Nat} (ha : okA net.length acc) (hal : acc.length ≤ 100) (hc : 1 ≤ c.length ∧ c.length ≤ 2 ∧ ∀ k ∈ c, k < net.length) {a6 a8 : Sl} :
    Wp (b_weak_sets_0 [.val (netD net), .val (.str (nm s)), .val (.str (nm n)), .val (.int (t0 : Int)), .val (.int (l : Int)), .own (.lst (acc.map tD)), a6, .val (tD c), a8, .no, .no] S) fun r => ∃ a8 J, r = (.nx [.val (netD net), .val (.str (nm s)), .val (.str (nm n)), .val (.int (t0 : Int)), .val (.int (l : Int)), .own (.lst ((stp net s t0 n l acc c).map tD)), a6, .val (tD c), a8, .no, .no], S ++ J) := by
  have en : enumA S (netD net) = some ((num net).map (numd cD)) := by
    unfold netD
    simp [enumA, nums_map]
  have it : itemsD S (tD c) = some (c.map nD) := rfl
  have gd : gdOf (tD c) = none := rfl
  have l1 := fun (all : List D) (a0 a1 a2 a3 a4 a5 a6 a8 : Sl) => enum_lc (S := S) (net := net) (c := c) (by omega) (all := all) (a0 := a0) (a1 := a1) (a2 := a2) (a3 := a3) (a4 := a4) (a5 := a5) (a6 := a6) (a8 := a8)
  have l2 := fun (all : List D) (a0 a1 a2 a3 a4 a6 a7 a8 a10 : Sl) => hit_lc (S := S) (c := c) ha (by omega) (all := all) (a0 := a0) (a1 := a1) (a2 := a2) (a3 := a3) (a4 := a4) (a6 := a6) (a7 := a7) (a8 := a8) (a10 := a10)
  have b4 : blsD (c.map fun k => D.bl (acc.contains [k])) = some (c.map fun k => acc.contains [k]) := Sh.bls_map (fun k => acc.contains [k]) _
  have b5 : (c.map fun k => acc.contains [k]).any id = hit acc c := by
    unfold hit
    rw [List.any_map]
    rfl
  have gg := gets (S := S) (net := rest net c) (s := s) (t0 := t0) (l := l) (fun x hx => hN x (rest_mem x hx)) hs hn
  have tt : tupleD S [.lst ((rest net c).map cD)] = some (netD (rest net c)) := rfl
  have z1 : acc.length < sizeLine := by rw [sizeL]; omega
  generalize hq : q_weak_sets_0 = q0 at *
  generalize hx0 : x_weak_sets_0 = x0 at *
  generalize hx1 : x_weak_sets_1 = x1 at *
  generalize (c.map fun k => D.bl (acc.contains [k])) = BL at *
  generalize (c.map fun k => acc.contains [k]) = BB at *
  generalize (rest net c).map cD = RD at *
  generalize netD (rest net c) = RN at *
  generalize netD net = ND at *
  generalize hgt : gt (rest net c) s t0 n l = b at *
  have fs : (stp net s t0 n l acc c).map tD = if hit acc c = false ∧ b = false then acc.map tD ++ [tD c] else acc.map tD := by
    unfold stp
    rw [hgt]
    split <;> simp
  rw [fs]
  clear fs
  generalize hT : tD c = C at *
  generalize hb : hit acc c = hb' at *
  generalize hA : acc.map tD = A at *
  have z1 : A.length < sizeLine := by rw [← hA, List.length_map]; exact z1
  simp [b_weak_sets_0, Rf.iEnumA, en, it, gd, hq, hx0, hx1, l1, l2, tt, b4, b5]
  cases hb' with
  | true => simp
  | false =>
    simp
    refine Wp.bnd gg ?_
    rintro _ ⟨J, rfl⟩
    cases b with
    | true => simp
    | false => simp [z1]
end
end K25
end
section
set_option maxHeartbeats 1000000
/-! S25: k25, weak_sets whole; the law's loop over sets. -/
namespace K25
open PySem PySem.Spec PyProof.Rows L2 Rf Lb Wq Mb
section
variable {S : Sto} {net : List Ct} {s t0 n l : Nat}
def cbm (m r : Nat) : List (List Nat) := if r = 1 then s1 m else s2 m
theorem cbm_ok {m : Nat} (hm : m ≤ 7) {r : Nat} (hr : r = 1 ∨ r = 2) : combD (rgI m) (r : Int) = some ((cbm m r).map tD) ∧ (∀ c ∈ cbm m r, 1 ≤ c.length ∧ c.length ≤ 2 ∧ ∀ k ∈ c, k < m) ∧ (cbm m r).length ≤ 28 := by
  obtain ⟨h1, h2, h3, h4⟩ := sets_ok hm
  unfold sets at h1 h2
  rw [List.length_append] at h2
  rcases hr with rfl | rfl
  · exact ⟨h3, fun c hc => h1 c (List.mem_append_left _ hc), by show (s1 m).length ≤ 28; omega⟩
  · exact ⟨h4, fun c hc => h1 c (List.mem_append_right _ hc), by show (s2 m).length ≤ 28; omega⟩
theorem tD_srt (m : Nat) : Srt tD fun c : List Nat => 1 ≤ c.length ∧ c.length ≤ 2 ∧ ∀ k ∈ c, k < m where
  ok := fun c hc => tD_ok c (by omega) 19
  al := fun a b ha hb => by
    have ok : ∀ (x : List Nat), ∀ d ∈ x.map nD, okD 20 d = true := fun x d hd => by
      obtain ⟨k, _, rfl⟩ := List.mem_map.mp hd
      exact okD_int _ _
    have al : ∀ x y : List Nat, alkB (tD x) (tD y) = true := by
      intro x
      induction x with
      | nil => intro y; exact alk_nil (ok y)
      | cons i x ih =>
        intro y
        cases y with
        | nil => exact alk_nil' (ok (i :: x))
        | cons j y =>
          have := alk_cons (ok (i :: x)) (ok (j :: y))
          show alkB (.tup (nD i :: x.map nD)) (.tup (nD j :: y.map nD)) = true
          rw [this]
          unfold nD
          rw [alk_int]
          exact ih y
    exact al a b
  tp := fun c hc => by
    cases c with
    | nil => simp at hc
    | cons k c =>
      refine tp_of fun d hd => ?_
      obtain ⟨j, _, rfl⟩ := List.mem_map.mp (show d ∈ (k :: c).map nD from hd)
      exact okD_int _ _
  inj := fun a b _ _ h => by
    have h : eqBs (a.map nD) (b.map nD) = true := by
      unfold tD at h
      rw [eqB_tup] at h
      exact h
    rw [eqBs_nD] at h
    exact eq_of_beq h
/-- all sets of one size -/
theorem ws_loop (hN : ∀ c ∈ net, okC c) (hl : net.length ≤ 7) (hs : s < 4) (hn : n < 4) {all : List D} {cs acc : List (List Nat)} (ha : okA net.length acc) (hal : acc.length + cs.length ≤ 100) (hc : ∀ c ∈ cs, 1 ≤ c.length ∧ c.length ≤ 2 ∧ ∀ k ∈ c, k < net.length) {a6 a7 a8 : Sl} :
    Wp (forGo (gNm 7) b_weak_sets_0 none all (cs.map tD) [.val (netD net), .val (.str (nm s)), .val (.str (nm n)), .val (.int (t0 : Int)), .val (.int (l : Int)), .own (.lst (acc.map tD)), a6, a7, a8, .no, .no] S) fun r => ∃ a7 a8 J, r = (.nx [.val (netD net), .val (.str (nm s)), .val (.str (nm n)), .val (.int (t0 : Int)), .val (.int (l : Int)), .own (.lst ((cs.foldl (stp net s t0 n l) acc).map tD)), a6, a7, a8, .no, .no], S ++ J) := by
  obtain ⟨I, hI⟩ : ∃ I : List (List Nat) → Rf.Env → Sto → Prop, ∀ xs e Z, I xs e Z ↔ (∃ (acc' : List (List Nat)) (a7 a8 : Sl) (J : Sto), Z = S ++ J ∧ e = [.val (netD net), .val (.str (nm s)), .val (.str (nm n)), .val (.int (t0 : Int)), .val (.int (l : Int)), .own (.lst (acc'.map tD)), a6, a7, a8, .no, .no] ∧ okA net.length acc' ∧ acc'.length + xs.length ≤ 100 ∧ xs.foldl (stp net s t0 n l) acc' = cs.foldl (stp net s t0 n l) acc ∧ ∀ c ∈ xs, 1 ≤ c.length ∧ c.length ≤ 2 ∧ ∀ k ∈ c, k < net.length) := ⟨fun xs e Z => _, fun _ _ _ => Iff.rfl⟩
  refine wp_for0 (enc := tD) I ?_ ?_ _ _ _ ((hI _ _ _).mpr ⟨acc, a7, a8, [], by simp, rfl, ha, hal, rfl, hc⟩)
  · intro e Z h
    obtain ⟨acc', a7, a8, J, rfl, rfl, h1, h2, h3, h4⟩ := (hI _ _ _).mp h
    exact ⟨a7, a8, J, by rw [← h3]; rfl⟩
  · intro c xs e Z h
    obtain ⟨acc', a7, a8, J, rfl, rfl, h1, h2, h3, h4⟩ := (hI _ _ _).mp h
    have hc := h4 c (by simp)
    have st := ws_step (S := S ++ J) (t0 := t0) (l := l) hN hl hs hn h1 (by simp at h2; omega) hc (a6 := a6) (a8 := a8)
    have fin : ∀ (a7 a8 : Sl) (J' : Sto), I xs [.val (netD net), .val (.str (nm s)), .val (.str (nm n)), .val (.int (t0 : Int)), .val (.int (l : Int)), .own (.lst ((stp net s t0 n l acc' c).map tD)), a6, a7, a8, .no, .no] (S ++ J ++ J') := fun a7 a8 J' => (hI _ _ _).mpr ⟨_, a7, a8, J ++ J', by simp, rfl, stp_ok h1 hc, by have := stp_len (net := net) (s := s) (t0 := t0) (n := n) (l := l) acc' c; simp at h2; omega, h3, fun d hd => h4 d (List.mem_cons_of_mem _ hd)⟩
    clear hI
    generalize hT : tD c = C at *
    generalize hb : b_weak_sets_0 = tb at *
    generalize netD net = ND at *
    simp
    refine st.mono ?_
    rintro _ ⟨a8, J', rfl⟩
    exact .nx (fin _ _ _)
theorem fold_ok {m : Nat} : ∀ (cs acc : List (List Nat)), okA m acc → (∀ c ∈ cs, 1 ≤ c.length ∧ c.length ≤ 2 ∧ ∀ k ∈ c, k < m) → okA m (cs.foldl (stp net s t0 n l) acc)
  | [], acc, h, _ => h
  | c :: cs, acc, h, k => fold_ok cs _ (stp_ok h (k c (by simp))) fun d hd => k d (List.mem_cons_of_mem _ hd)
theorem fold_len : ∀ (cs acc : List (List Nat)), (cs.foldl (stp net s t0 n l) acc).length ≤ acc.length + cs.length
  | [], acc => by simp
  | c :: cs, acc => by
    have := fold_len cs (stp net s t0 n l acc c)
    have := stp_len (net := net) (s := s) (t0 := t0) (n := n) (l := l) acc c
    rw [List.foldl_cons, List.length_cons]
    omega
noncomputable def ans (net : List Ct) (s t0 n l : Nat) : List (List Nat) := if gt net s t0 n l = true then srt tD (weak net s t0 n l) else []
theorem weak_ok (hl : net.length ≤ 7) : okA net.length (weak net s t0 n l) ∧ (weak net s t0 n l).length ≤ 28 := by
  obtain ⟨h1, h2, _⟩ := sets_ok hl
  refine ⟨fold_ok _ _ (by intro c hc; cases hc) h1, ?_⟩
  have := fold_len (net := net) (s := s) (t0 := t0) (n := n) (l := l) (sets net.length) []
  unfold weak
  simp at this
  omega
theorem weak_sets (hN : ∀ c ∈ net, okC c) (hl : net.length ≤ 7) (hs : s < 4) (hn : n < 4) :
    Wp (f_weak_sets [netD net, .str (nm s), .str (nm n), .int (t0 : Int), .int (l : Int)] S) fun r => ∃ J, r = (.lst ((ans net s t0 n l).map tD), S ++ J) := by
  have gg := gets (S := S) (net := net) (s := s) (t0 := t0) (l := l) hN hs hn
  obtain ⟨k1, k2, k3⟩ := cbm_ok hl (.inl rfl)
  obtain ⟨m1, m2, m3⟩ := cbm_ok hl (.inr rfl)
  have lp := fun {Z : Sto} {all : List D} {cs acc : List (List Nat)} (ha : okA net.length acc) (hal : acc.length + cs.length ≤ 100) (hc : ∀ c ∈ cs, 1 ≤ c.length ∧ c.length ≤ 2 ∧ ∀ k ∈ c, k < net.length) (a6 a7 a8 : Sl) => ws_loop (S := Z) (all := all) (t0 := t0) (l := l) hN hl hs hn ha hal hc (a6 := a6) (a7 := a7) (a8 := a8)
  have len : ∀ Z : Sto, lenD Z [netD net] = some (.int (net.length : Int)) := fun Z => by simp [netD]
  have wk : weak net s t0 n l = (s2 net.length).foldl (stp net s t0 n l) ((s1 net.length).foldl (stp net s t0 n l) []) := by
    unfold weak sets
    rw [List.foldl_append]
  have ok1 := fold_ok (net := net) (s := s) (t0 := t0) (n := n) (l := l) (m := net.length) (s1 net.length) [] (by intro c hc; cases hc) k2
  have len1 := fold_len (net := net) (s := s) (t0 := t0) (n := n) (l := l) (s1 net.length) []
  have so := fun Z => (tD_srt net.length).sorted (weak_ok (s := s) (t0 := t0) (n := n) (l := l) hl).1 Z
  have k1 : combD (rgI (net.length : Int)) 1 = some ((s1 net.length).map tD) := k1
  have m1 : combD (rgI (net.length : Int)) 2 = some ((s2 net.length).map tD) := m1
  have k2 : ∀ c ∈ s1 net.length, 1 ≤ c.length ∧ c.length ≤ 2 ∧ ∀ k ∈ c, k < net.length := k2
  have m2 : ∀ c ∈ s2 net.length, 1 ≤ c.length ∧ c.length ≤ 2 ∧ ∀ k ∈ c, k < net.length := m2
  have k3 : (s1 net.length).length ≤ 28 := k3
  have m3 : (s2 net.length).length ≤ 28 := m3
  have r2 : rgB [.int 1, .int 3] = some [.int 1, .int 2] := by rw [rgB_ok (by omega) (by omega) (by omega) (by omega) (by omega)]; rfl
  have nl : (net.length : Int) ≤ 1000 := by omega
  unfold ans
  unfold f_weak_sets
  rw [runF5]
  unfold t_weak_sets
  have lp1 := fun {Z : Sto} {all : List D} (a6 a7 a8 : Sl) => lp (Z := Z) (all := all) (cs := s1 net.length) (acc := []) (by intro c hc; cases hc) (by simp; omega) k2 a6 a7 a8
  have lp2 := fun {Z : Sto} {all : List D} (a6 a7 a8 : Sl) => lp (Z := Z) (all := all) (cs := s2 net.length) ok1 (by simp at len1; omega) m2 a6 a7 a8
  rw [← wk] at lp2
  clear lp wk ok1 len1 k2 m2 k3 m3
  generalize netD net = ND at *
  generalize hb : b_weak_sets_0 = tb at *
  simp
  refine Wp.bnd gg ?_
  rintro _ ⟨J, rfl⟩
  cases hg : gt net s t0 n l with
  | false => simp
  | true =>
    simp [r2, b_weak_sets_1, forGo_cons, forGo_nil, iCombR, len, k1, nl, hb]
    refine Wp.bnd (lp1 _ _ _) ?_
    rintro _ ⟨a7, a8, J1, rfl⟩
    simp [forGo_cons, forGo_nil, iCombR, len, m1, nl]
    refine Wp.bnd (lp2 _ _ _) ?_
    rintro _ ⟨a7, a8, J2, rfl⟩
    simp [forGo_cons, forGo_nil, so]
end
end K25
end
section
set_option maxHeartbeats 1000000
/-! T25: k25, the drawn net. -/
namespace K25
open PySem PySem.Spec PyProof.Rows L2 Rf Lb Wq Mc
theorem wp_nx {c : Cell} {S : Sto} {m : Int} (hc : DrawOk c) (hm : 0 < m) (hm2 : m < 1073741824) : Wp (f__law_next [.ref 0, .int m] (c :: S)) fun r => ∃ (k : Nat) (c' : Cell), (k : Int) < m ∧ DrawOk c' ∧ r = (.int (k : Int), c' :: S) := wp_next' hc hm hm2
theorem nm_ok (n : Nat) : strOkB (nm n) = true := by
  unfold nm
  split
  · decide +kernel
  · split
    · decide +kernel
    · split <;> decide +kernel
theorem nm_okD (n k : Nat) : okD k (.str (nm n)) = true := by cases k <;> exact nm_ok n
theorem cD_ok {k : Nat} (c : Ct) : ∀ d ∈ [D.str (nm c.a), .str (nm c.b), .int (c.fi : Int), .int (c.la : Int), .int (c.ra : Int), .int (c.de : Int)], okD k d = true := fun d hd => by
  simp at hd
  rcases hd with rfl | rfl | rfl | rfl | rfl | rfl
  · exact nm_okD _ _
  · exact nm_okD _ _
  all_goals exact okD_int _ _
theorem cD_srt : Srt cD okC where
  ok := fun c _ => okD_tupOf (by simp) (cD_ok c)
  al := fun a b _ _ => by
    have x := cD_ok (k := 20) a
    have y := cD_ok (k := 20) b
    unfold cD
    generalize nm a.a = x1 at *
    generalize nm a.b = x2 at *
    generalize nm b.a = y1 at *
    generalize nm b.b = y2 at *
    rw [alk_cons x y, alk_str]
    replace x := fun d hd => x d (List.mem_cons_of_mem _ hd)
    replace y := fun d hd => y d (List.mem_cons_of_mem _ hd)
    rw [alk_cons x y, alk_str]
    replace x := fun d hd => x d (List.mem_cons_of_mem _ hd)
    replace y := fun d hd => y d (List.mem_cons_of_mem _ hd)
    rw [alk_cons x y, alk_int]
    replace x := fun d hd => x d (List.mem_cons_of_mem _ hd)
    replace y := fun d hd => y d (List.mem_cons_of_mem _ hd)
    rw [alk_cons x y, alk_int]
    replace x := fun d hd => x d (List.mem_cons_of_mem _ hd)
    replace y := fun d hd => y d (List.mem_cons_of_mem _ hd)
    rw [alk_cons x y, alk_int]
    replace x := fun d hd => x d (List.mem_cons_of_mem _ hd)
    replace y := fun d hd => y d (List.mem_cons_of_mem _ hd)
    rw [alk_cons x y, alk_int, alk_nil (by simp)]
    rfl
  tp := fun c _ => tp_of (cD_ok c)
  inj := fun a b ha hb h => by
    unfold cD at h
    rw [eqB_tup] at h
    simp only [eqBs, eqB_str, eqB_int, Bool.and_eq_true, beq_iff_eq] at h
    obtain ⟨h1, h2, h3, h4, h5, h6, _⟩ := h
    have e1 := nm_inj ha.1 hb.1 h1
    have e2 := nm_inj ha.2.1 hb.2.1 h2
    cases a
    cases b
    simp at e1 e2 h3 h4 h5 h6 ⊢
    omega
theorem tk_cD (c : Ct) : ∃ k, tkD (cD c) = some k := by
  refine ⟨.tup [.text (nm c.a), .text (nm c.b), .num c.fi, .num c.la, .num c.ra, .num c.de], ?_⟩
  unfold cD
  simp [tkD, nksD, nkD, NestedKey.depth, NestedKey.depthAll]
theorem put_cD {x y : D} {k : NestedKey} {ds : List D} (Q : List Ct) (c : Ct) (hx : x = cD c) : ∃ (Q' : List Ct) (ds' : List D), putTD x k y (Q.map cD) ds = (Q'.map cD, ds') ∧ Q'.length ≤ Q.length + 1 ∧ ∀ d ∈ Q', d ∈ Q ∨ d = c := by
  unfold putTD
  split
  · exact ⟨Q, _, rfl, by omega, fun d hd => .inl hd⟩
  · exact ⟨Q ++ [c], _, by rw [hx]; simp; rfl, by simp, fun d hd => by simpa using hd⟩
/-- the other names -/
def oth (a : Nat) : List Nat := (List.range 4).filter fun n => n != a
theorem oth_ok {a : Nat} (ha : a < 4) : (oth a).length = 3 ∧ ∀ b ∈ oth a, b < 4 ∧ a ≠ b := by
  have : ∀ a < 4, (oth a).length = 3 ∧ ∀ b ∈ oth a, b < 4 ∧ a ≠ b := by decide +kernel
  exact this a ha
section
variable {S : Sto}
theorem nm_eq {a b : Nat} (ha : a < 4) (hb : b < 4) : eqS S (.str (nm b)) (.str (nm a)) = some (b == a) := by
  rw [eqS_ok (n := 10) (by omega) (nm_okD b _) (nm_okD a _), eqB_str]
  congr 1
  rw [Bool.eq_iff_iff]
  simp
  exact ⟨nm_inj hb ha, fun h => by rw [h]⟩
theorem names : [D.str "aa", .str "bb", .str "cc", .str "dd"] = (List.range 4).map fun n => D.str (nm n) := by rfl
theorem oth_lc {a : Nat} (ha : a < 4) {all : List D} {s0 s1 s2 s3 s4 s5 s7 s8 : Sl} :
    lcGo (gNm 9) q__law_net_0 x__law_net_0 none all [s0, s1, s2, s3, s4, s5, .val (.str (nm a)), s7, s8, .no] ((List.range 4).map fun n => D.str (nm n)) [] S = some (.lst ((oth a).map fun n => .str (nm n)), S) := by
  have := lcG (enc := fun n => D.str (nm n)) (fun n => D.str (nm n)) (fun n => n != a) (g := gNm 9) (tt := q__law_net_0) (te := x__law_net_0) (gd := none) (all := all) (we := [s0, s1, s2, s3, s4, s5, .val (.str (nm a)), s7, s8, .no]) (S := S) trivial (List.range 4) [] (fun n hn => by
    have e := nm_eq (S := S) ha (List.mem_range.mp hn)
    generalize nm n = x at *
    generalize nm a = y at *
    simp [q__law_net_0, e]
    cases h : n == a <;> simp [bne, h]) (fun n _ _ => by simp [x__law_net_0])
  rw [this]
  rfl
theorem net_loop {c : Cell} (hc : DrawOk c) {all : List D} {L : List Nat} (hL : L.length ≤ 7) {s3 : Sl} :
    Wp (forGo (gNm 3) b__law_net_0 none all (L.map nD) [.val (.ref 0), .val (.int 7), .val (.int 2), s3, .val (.lst ((List.range 4).map fun n => D.str (nm n))), .val (.ref (S.length + 1)), .no, .no, .no, .no] (c :: S ++ [.dtx [] []])) fun r => ∃ (c' : Cell) (e : Rf.Env) (Q : List Ct) (ds : List D), DrawOk c' ∧ r = (.nx e, c' :: S ++ [.dtx (Q.map cD) ds]) ∧ e[5]? = some (.val (.ref (S.length + 1))) ∧ Q.length ≤ 7 ∧ ∀ x ∈ Q, okC x := by
  obtain ⟨I, hI⟩ : ∃ I : List Nat → Rf.Env → Sto → Prop, ∀ xs e Z, I xs e Z ↔ (∃ (c : Cell) (Q : List Ct) (ds : List D) (s3 s6 s7 s8 : Sl), DrawOk c ∧ Z = c :: S ++ [.dtx (Q.map cD) ds] ∧ e = [.val (.ref 0), .val (.int 7), .val (.int 2), s3, .val (.lst ((List.range 4).map fun n => D.str (nm n))), .val (.ref (S.length + 1)), s6, s7, s8, .no] ∧ Q.length + xs.length ≤ 7 ∧ ∀ x ∈ Q, okC x) := ⟨fun xs e Z => _, fun _ _ _ => Iff.rfl⟩
  refine wp_for0 (enc := nD) I ?_ ?_ _ _ _ ((hI _ _ _).mpr ⟨c, [], [], _, _, _, _, hc, rfl, rfl, by simpa using hL, by simp⟩)
  · intro e Z h
    obtain ⟨c, Q, ds, s3, s6, s7, s8, hc, rfl, rfl, h1, h2⟩ := (hI _ _ _).mp h
    exact ⟨c, _, Q, ds, hc, rfl, rfl, by simpa using h1, h2⟩
  · intro i xs e Z h
    obtain ⟨c, Q, ds, s3, s6, s7, s8, hc, rfl, rfl, h1, h2⟩ := (hI _ _ _).mp h
    have fin : ∀ (c : Cell) (Q' : List Ct) (ds : List D) (s3 s6 s7 s8 : Sl), DrawOk c → Q'.length ≤ Q.length + 1 → (∀ x ∈ Q', okC x) → I xs [.val (.ref 0), .val (.int 7), .val (.int 2), s3, .val (.lst ((List.range 4).map fun n => D.str (nm n))), .val (.ref (S.length + 1)), s6, s7, s8, .no] (c :: S ++ [.dtx (Q'.map cD) ds]) := fun c Q' ds s3 s6 s7 s8 hc hq h => (hI _ _ _).mpr ⟨c, Q', ds, _, _, _, _, hc, rfl, rfl, by simp at h1; omega, h⟩
    have hQ : Q.length ≤ 7 := by omega
    clear hI h1
    have i0 : ∀ (Z : Sto) (k : Nat), k < 4 → ixD Z (.lst ((List.range 4).map fun n => D.str (nm n))) (.int (k : Int)) = some (.str (nm k)) := fun Z k hk => by
      rw [ixD_lst, atI_nn (by omega)]
      simp [hk]
    have lc := fun {a : Nat} (ha : a < 4) (Z : Sto) (all : List D) (s3 s7 s8 : Sl) => oth_lc (S := Z) ha (all := all) (s0 := .val (.ref 0)) (s1 := .val (.int 7)) (s2 := .val (.int 2)) (s3 := s3) (s4 := .val (.lst ((List.range 4).map fun n => D.str (nm n)))) (s5 := .val (.ref (S.length + 1))) (s7 := s7) (s8 := s8)
    generalize hNN : (List.range 4).map (fun n => D.str (nm n)) = NN at *
    generalize hq0 : q__law_net_0 = q0 at *
    generalize hx0 : x__law_net_0 = x0 at *
    simp [b__law_net_0]
    refine Wp.bnd (wp_nx hc (by omega) (by omega)) ?_
    rintro _ ⟨a, c, ha, hc, rfl⟩
    have ha : a < 4 := by omega
    have lc := fun Z all s3 s7 s8 => lc ha Z all s3 s7 s8
    simp [i0 _ a ha, hq0, hx0, lc]
    refine Wp.bnd (wp_nx hc (by omega) (by omega)) ?_
    rintro _ ⟨j, c, hj, hc, rfl⟩
    obtain ⟨o1, o2⟩ := oth_ok ha
    have hj : j < (oth a).length := by omega
    have i1 : ∀ Z, ixD Z (.lst ((oth a).map fun n => D.str (nm n))) (.int (j : Int)) = some (.str (nm (oth a)[j])) := fun Z => by
      rw [ixD_lst, atI_nn (by omega)]
      simp [hj]
    obtain ⟨b1, b2⟩ := o2 _ (List.getElem_mem hj)
    generalize (oth a)[j] = b at *
    simp [i1]
    refine Wp.bnd (wp_nx hc (by omega) (by omega)) ?_
    rintro _ ⟨fi, c, hfi, hc, rfl⟩
    simp
    refine Wp.bnd (wp_nx hc (by omega) (by omega)) ?_
    rintro _ ⟨dl, c, hdl, hc, rfl⟩
    simp
    refine Wp.bnd (wp_nx hc (by omega) (by omega)) ?_
    rintro _ ⟨ra, c, hra, hc, rfl⟩
    simp
    refine Wp.bnd (wp_nx hc (by omega) (by omega)) ?_
    rintro _ ⟨de, c, hde, hc, rfl⟩
    have six : (6 : Nat) ≤ sizeLine := by rw [sizeL]; omega
    obtain ⟨nc, e1, e2, e3, e4, e5, e6⟩ : ∃ nc : Ct, nc.a = a ∧ nc.b = b ∧ nc.fi = fi ∧ nc.la = fi + dl ∧ nc.ra = 1 + ra ∧ nc.de = de := ⟨⟨a, b, fi, fi + dl, 1 + ra, de⟩, rfl, rfl, rfl, rfl, rfl, rfl⟩
    have ex : D.tup [.str (nm a), .str (nm b), .int (fi : Int), .int ((fi : Int) + (dl : Int)), .int (1 + (ra : Int)), .int (de : Int)] = cD nc := by
      unfold cD
      rw [e1, e2, e3, e4, e5, e6]
      rfl
    have okn : okC nc := by
      unfold okC
      omega
    obtain ⟨k, hk⟩ := tk_cD nc
    obtain ⟨Q', ds', ep, hl, hm⟩ := put_cD (x := cD nc) (y := .bl true) (k := k) (ds := ds) Q nc rfl
    have pt : putST (c :: (S ++ [.dtx (Q.map cD) ds])) (.ref (S.length + 1)) (cD nc) (.bl true) k = some (c :: (S ++ [.dtx (Q'.map cD) ds'])) := by
      rw [putST_ok (ks := Q.map cD) (ds := ds) (by simp) (by rw [List.length_map, sizeL]; omega), ep]
      simp
    simp [six, ex, hk, pt]
    have f := fin c Q' ds' (.val (nD i)) (.val (.str (nm a))) (.val (.str (nm b))) (.val (.int (fi : Int))) hc hl fun x hx => by
      rcases hm x hx with z | z
      · exact h2 x z
      · rw [z]; exact okn
    exact .nx f
theorem law_net {c : Cell} (hc : DrawOk c) : Wp (f__law_net [.ref 0, .int 7, .int 2] (c :: S)) fun r => ∃ net c' J, DrawOk c' ∧ r = (netD net, c' :: (S ++ J)) ∧ net.length ≤ 7 ∧ ∀ x ∈ net, okC x := by
  unfold f__law_net
  rw [runF3]
  unfold t__law_net
  have four : (4 : Nat) ≤ sizeLine := by rw [sizeL]; omega
  have two : (2 : Nat) ≤ sizeLine := by rw [sizeL]; omega
  have lp := fun {c : Cell} (hc : DrawOk c) {all : List D} {L : List Nat} (hL : L.length ≤ 7) {s3 : Sl} => net_loop (S := S) hc (all := all) hL (s3 := s3)
  generalize hNN : (List.range 4).map (fun n => D.str (nm n)) = NN at *
  have nn : [D.str "aa", .str "bb", .str "cc", .str "dd"] = NN := by rw [← hNN]; exact names
  generalize hb : b__law_net_0 = tb at *
  have nl : NN.length ≤ sizeLine := by rw [← hNN, sizeL]; simp
  simp [four, two, nn, nl]
  refine Wp.bnd (wp_nx hc (by omega) (by omega)) ?_
  rintro _ ⟨k, c, hk, hc, rfl⟩
  have rg : rgA [.int (k : Int)] = some ((List.range k).map nD) := rgn (by omega)
  simp [rg, hb]
  refine Wp.bnd (lp hc (by simp; omega)) ?_
  rintro _ ⟨c, e, Q, ds, hc, rfl, he, hq, hQ⟩
  have v5 : ∀ Z, dVar 5 e Z = some (.ref (S.length + 1), Z) := fun Z => by
    unfold dVar
    rw [he]
  have dt : dictT (c :: S ++ [.dtx (Q.map cD) ds]) (.ref (S.length + 1)) = some (Q.map cD, ds) := dictT_ok (by simp)
  have so : sortedX (c :: S ++ [.dtx (Q.map cD) ds]) [.ref (S.length + 1)] = some (.lst ((srt cD Q).map cD)) := by
    have := cD_srt.sorted (xs := Q) hQ []
    unfold sortedX
    simp only [dt]
    exact this
  simp at so
  simp [v5, so]
  refine ⟨srt cD Q, c, hc, ⟨rfl, rfl⟩, ?_, fun x hx => hQ x (srt_mem.mp hx)⟩
  rw [(srt_perm Q).length_eq]
  exact hq
end
end K25
end
section
set_option maxHeartbeats 2000000
/-! U25: k25, the law's parts. -/
namespace K25
open PySem PySem.Spec PyProof.Rows L2 Rf Lb Wq Mb
section
variable {S : Sto} {net : List Ct} {s t0 n l : Nat}
theorem law_rest {c : List Nat} (hl : net.length ≤ 7) (hc : c.length ≤ 1000) {all : List D} {a0 a1 a3 a4 a5 a6 a8 a9 a11 a12 a13 : Sl} :
    lcGo (gNm 7) q_law_1 x_law_3 none all [a0, a1, .val (netD net), a3, a4, a5, a6, .no, a8, a9, .val (tD c), a11, a12, a13] ((List.range net.length).map nD) [] S = some (.lst ((rest net c).map cD), S) := by
  have lc := lcG (enc := nD) (fun k => cD (nth net k)) (fun k => !c.contains k) (g := gNm 7) (tt := q_law_1) (te := x_law_3) (gd := none) (all := all) (we := [a0, a1, .val (netD net), a3, a4, a5, a6, .no, a8, a9, .val (tD c), a11, a12, a13]) (S := S) trivial (List.range net.length) [] (fun k hk => by
    have i := in_c (S := S) (c := c) (k := k) hc
    unfold tD
    generalize c.map nD = C at *
    simp [q_law_1, nD, i]) (fun k hk _ => by
    have i := ix_net (List.mem_range.mp hk) S
    generalize netD net = ND at *
    simp [x_law_3, nD, i])
  rw [lc]
  unfold rest
  rw [List.nil_append, List.map_map]
  rfl
theorem law_hit {m : Nat} {acc : List (List Nat)} {c : List Nat} (h : okA m acc) (hl : acc.length ≤ 1000) {all : List D} {a0 a1 a2 a3 a4 a6 a8 a9 a10 a11 a12 a13 : Sl} :
    lcGo (gNm 7) tTrue x_law_4 none all [a0, a1, a2, a3, a4, .own (.lst (acc.map tD)), a6, .no, a8, a9, a10, a11, a12, a13] (c.map nD) [] S = some (.lst (c.map fun k => .bl (acc.contains [k])), S) :=
  lcM (enc := nD) (fun k => .bl (acc.contains [k])) (gd := none) trivial c fun k _ => by
    have i := in_acc (S := S) (k := k) h hl
    generalize acc.contains [k] = q at *
    generalize acc.map tD = A at *
    simp [x_law_4, nD, i, sizeL]
/-- what the law's arrivals tell of the goal -/
theorem law_goal (hN : ∀ c ∈ net, okC c) (hl : net.length ≤ 1000) (hs : s < 4) (hn : n < 4) :
    Wp (f__law_arrivals [netD net, .str (nm s), .int (t0 : Int)] S) fun r => ∃ kvs v, r = (.ref S.length, S ++ [.dct (ksD kvs) (vsD kvs)]) ∧ ((Mb.lk kvs (.inr (nm n))).getD (.int ((l : Int) + 1)) = .int v) ∧ (v ≤ (l : Int) ↔ gt net s t0 n l = true) := by
  refine (law_arr (S := S) (t0 := t0) hN hl hs).mono ?_
  rintro _ ⟨kvs, g, rfl, h1, h2⟩
  have e := h1.lk n hn
  unfold kN at e
  rw [gt_of h2]
  cases eg : g n with
  | none => exact ⟨kvs, (l : Int) + 1, rfl, by rw [e, eg]; rfl, by simp; omega⟩
  | some u => exact ⟨kvs, (u : Int), rfl, by rw [e, eg]; rfl, by simp⟩
theorem law_step (hN : ∀ c ∈ net, okC c) (hl : net.length ≤ 7) (hs : s < 4) (hn : n < 4) {acc : List (List Nat)} {c : List Nat} (ha : okA net.length acc) (hal : acc.length ≤ 100) (hc : 1 ≤ c.length ∧ c.length ≤ 2 ∧ ∀ k ∈ c, k < net.length) {a0 a1 a6 a7 a11 a12 a13 : Sl} :
    Wp (b_law_1 [a0, a1, .val (netD net), .val (.int (t0 : Int)), .val (.int (l : Int)), .own (.lst (acc.map tD)), a6, a7, .val (.str (nm s)), .val (.str (nm n)), .val (tD c), a11, a12, a13] S) fun r => ∃ a11 J, r = (.nx [a0, a1, .val (netD net), .val (.int (t0 : Int)), .val (.int (l : Int)), .own (.lst ((stp net s t0 n l acc c).map tD)), a6, a7, .val (.str (nm s)), .val (.str (nm n)), .val (tD c), a11, a12, a13], S ++ J) := by
  have it : itemsD S (tD c) = some (c.map nD) := rfl
  have gd : gdOf (tD c) = none := rfl
  have len : lenD S [netD net] = some (.int (net.length : Int)) := by simp [netD]
  have rg := rgn (n := net.length) (by omega)
  have l1 := fun (all : List D) (a0 a1 a3 a4 a5 a6 a8 a9 a11 a12 a13 : Sl) => law_rest (S := S) (net := net) (c := c) hl (by omega) (all := all) (a0 := a0) (a1 := a1) (a3 := a3) (a4 := a4) (a5 := a5) (a6 := a6) (a8 := a8) (a9 := a9) (a11 := a11) (a12 := a12) (a13 := a13)
  have l2 := fun (all : List D) (a0 a1 a2 a3 a4 a6 a8 a9 a10 a11 a12 a13 : Sl) => law_hit (S := S) (c := c) ha (by omega) (all := all) (a0 := a0) (a1 := a1) (a2 := a2) (a3 := a3) (a4 := a4) (a6 := a6) (a8 := a8) (a9 := a9) (a10 := a10) (a11 := a11) (a12 := a12) (a13 := a13)
  have b4 : blsD (c.map fun k => D.bl (acc.contains [k])) = some (c.map fun k => acc.contains [k]) := Sh.bls_map (fun k => acc.contains [k]) _
  have b5 : (c.map fun k => acc.contains [k]).any id = hit acc c := by
    unfold hit
    rw [List.any_map]
    rfl
  have gg := law_goal (S := S) (net := rest net c) (s := s) (t0 := t0) (n := n) (l := l) (fun x hx => hN x (rest_mem x hx)) (by have := rest_len (net := net) (c := c); omega) hs hn
  have tt : tupleD S [.lst ((rest net c).map cD)] = some (netD (rest net c)) := rfl
  have z1 : acc.length < sizeLine := by rw [sizeL]; omega
  have fs : (stp net s t0 n l acc c).map tD = if hit acc c = false ∧ gt (rest net c) s t0 n l = false then acc.map tD ++ [tD c] else acc.map tD := by
    unfold stp
    split <;> simp
  rw [fs]
  clear fs
  generalize hq : q_law_1 = q0 at *
  generalize hx0 : x_law_3 = x0 at *
  generalize hx1 : x_law_4 = x1 at *
  generalize (c.map fun k => D.bl (acc.contains [k])) = BL at *
  generalize (c.map fun k => acc.contains [k]) = BB at *
  generalize (rest net c).map cD = RD at *
  generalize netD (rest net c) = RN at *
  generalize netD net = ND at *
  generalize hgt : gt (rest net c) s t0 n l = b at *
  generalize hT : tD c = C at *
  generalize hb : hit acc c = hb' at *
  generalize hA : acc.map tD = A at *
  have z1 : A.length < sizeLine := by rw [← hA, List.length_map]; exact z1
  simp [b_law_1, it, gd, hq, hx0, hx1, l1, l2, tt, b4, b5, len, rg]
  cases hb' with
  | true => simp
  | false =>
    simp
    refine Wp.bnd gg ?_
    rintro _ ⟨kvs, v, rfl, e1, e2⟩
    simp [lookK_lk, e1]
    cases b with
    | true =>
      have : ¬ (l : Int) < v := by
        have := e2.mpr rfl
        omega
      simp [this]
    | false =>
      have : (l : Int) < v := by
        by_cases z : (l : Int) < v
        · exact z
        · have := e2.mp (by omega)
          cases this
      simp [this, z1]
theorem law_loop (hN : ∀ c ∈ net, okC c) (hl : net.length ≤ 7) (hs : s < 4) (hn : n < 4) {all : List D} {cs acc : List (List Nat)} (ha : okA net.length acc) (hal : acc.length + cs.length ≤ 100) (hc : ∀ c ∈ cs, 1 ≤ c.length ∧ c.length ≤ 2 ∧ ∀ k ∈ c, k < net.length) {a0 a1 a6 a7 a10 a11 a12 a13 : Sl} :
    Wp (forGo (gNm 10) b_law_1 none all (cs.map tD) [a0, a1, .val (netD net), .val (.int (t0 : Int)), .val (.int (l : Int)), .own (.lst (acc.map tD)), a6, a7, .val (.str (nm s)), .val (.str (nm n)), a10, a11, a12, a13] S) fun r => ∃ a10 a11 J, r = (.nx [a0, a1, .val (netD net), .val (.int (t0 : Int)), .val (.int (l : Int)), .own (.lst ((cs.foldl (stp net s t0 n l) acc).map tD)), a6, a7, .val (.str (nm s)), .val (.str (nm n)), a10, a11, a12, a13], S ++ J) := by
  obtain ⟨I, hI⟩ : ∃ I : List (List Nat) → Rf.Env → Sto → Prop, ∀ xs e Z, I xs e Z ↔ (∃ (acc' : List (List Nat)) (a10 a11 : Sl) (J : Sto), Z = S ++ J ∧ e = [a0, a1, .val (netD net), .val (.int (t0 : Int)), .val (.int (l : Int)), .own (.lst (acc'.map tD)), a6, a7, .val (.str (nm s)), .val (.str (nm n)), a10, a11, a12, a13] ∧ okA net.length acc' ∧ acc'.length + xs.length ≤ 100 ∧ xs.foldl (stp net s t0 n l) acc' = cs.foldl (stp net s t0 n l) acc ∧ ∀ c ∈ xs, 1 ≤ c.length ∧ c.length ≤ 2 ∧ ∀ k ∈ c, k < net.length) := ⟨fun xs e Z => _, fun _ _ _ => Iff.rfl⟩
  refine wp_for0 (enc := tD) I ?_ ?_ _ _ _ ((hI _ _ _).mpr ⟨acc, a10, a11, [], by simp, rfl, ha, hal, rfl, hc⟩)
  · intro e Z h
    obtain ⟨acc', a10, a11, J, rfl, rfl, h1, h2, h3, h4⟩ := (hI _ _ _).mp h
    exact ⟨a10, a11, J, by rw [← h3]; rfl⟩
  · intro c xs e Z h
    obtain ⟨acc', a10, a11, J, rfl, rfl, h1, h2, h3, h4⟩ := (hI _ _ _).mp h
    have hc := h4 c (by simp)
    have st := law_step (S := S ++ J) (t0 := t0) (l := l) hN hl hs hn h1 (by simp at h2; omega) hc (a0 := a0) (a1 := a1) (a6 := a6) (a7 := a7) (a11 := a11) (a12 := a12) (a13 := a13)
    have fin : ∀ (a10 a11 : Sl) (J' : Sto), I xs [a0, a1, .val (netD net), .val (.int (t0 : Int)), .val (.int (l : Int)), .own (.lst ((stp net s t0 n l acc' c).map tD)), a6, a7, .val (.str (nm s)), .val (.str (nm n)), a10, a11, a12, a13] (S ++ J ++ J') := fun a10 a11 J' => (hI _ _ _).mpr ⟨_, a10, a11, J ++ J', by simp, rfl, stp_ok h1 hc, by have := stp_len (net := net) (s := s) (t0 := t0) (n := n) (l := l) acc' c; simp at h2; omega, h3, fun d hd => h4 d (List.mem_cons_of_mem _ hd)⟩
    clear hI
    generalize hT : tD c = C at *
    generalize hb : b_law_1 = tb at *
    generalize netD net = ND at *
    simp
    refine st.mono ?_
    rintro _ ⟨a11, J', rfl⟩
    exact .nx (fin _ _ _)
/-- the law's sets -/
theorem one_lc {all : List D} {E : Rf.Env} {xs : List Nat} {a0 a1 a2 a3 a4 a5 a6 : Sl} : lcGo (gNm 7) tTrue x_law_1 none all (a0 :: a1 :: a2 :: a3 :: a4 :: a5 :: a6 :: .no :: E) (xs.map nD) [] S = some (.lst ((xs.map fun k => [k]).map tD), S) := by
  rw [List.map_map]
  exact lcM (enc := nD) (fun k => tD [k]) (gd := none) trivial xs fun k _ => by
    simp [x_law_1, nD, tD, sizeL]
theorem two_lc {all : List D} {xs : List Nat} {k : Nat} {a0 a1 a2 a3 a4 a5 a6 a8 a9 a10 a11 a12 : Sl} : lcGo (gNm 13) tTrue x_law_2 none all [a0, a1, a2, a3, a4, a5, a6, .val (.int (k : Int)), a8, a9, a10, a11, a12, .no] (xs.map nD) [] S = some (.lst ((xs.map fun j => [k, j]).map tD), S) := by
  rw [List.map_map]
  exact lcM (enc := nD) (fun j => tD [k, j]) (gd := none) trivial xs fun j _ => by
    simp [x_law_2, nD, tD, sizeL]
theorem sets_loop (hl : net.length ≤ 7) {all : List D} {a0 a1 a3 a4 a5 a7 a8 a9 a10 a11 a12 : Sl} :
    Wp (forGo (gNm 7) b_law_0 none all ((List.range net.length).map nD) [a0, a1, .val (netD net), a3, a4, a5, .val (.lst ((s1 net.length).map tD)), a7, a8, a9, a10, a11, a12, .no] S) fun r => ∃ a7, r = (.nx [a0, a1, .val (netD net), a3, a4, a5, .val (.lst ((sets net.length).map tD)), a7, a8, a9, a10, a11, a12, .no], S) := by
  have sl := (sets_ok hl).2.1
  obtain ⟨I, hI⟩ : ∃ I : List Nat → Rf.Env → Sto → Prop, ∀ xs e Z, I xs e Z ↔ (∃ (ds : List Nat) (a7 : Sl), Z = S ∧ ds ++ xs = List.range net.length ∧ e = [a0, a1, .val (netD net), a3, a4, a5, .val (.lst ((s1 net.length ++ ds.flatMap fun k => ((List.range (net.length - (k + 1))).map (k + 1 + ·)).map fun j => [k, j]).map tD)), a7, a8, a9, a10, a11, a12, .no]) := ⟨fun xs e Z => _, fun _ _ _ => Iff.rfl⟩
  refine wp_for0 (enc := nD) I ?_ ?_ _ _ _ ((hI _ _ _).mpr ⟨[], a7, rfl, rfl, by simp⟩)
  · intro e Z h
    obtain ⟨ds, a7, rfl, h1, rfl⟩ := (hI _ _ _).mp h
    rw [List.append_nil] at h1
    subst h1
    exact ⟨a7, rfl⟩
  · intro k xs e Z h
    obtain ⟨ds, a7, rfl, h1, rfl⟩ := (hI _ _ _).mp h
    have hk : k < net.length := List.mem_range.mp (by rw [← h1]; simp)
    have fin : ∀ (a7 : Sl) (L : List (List Nat)), L = (s1 net.length ++ ds.flatMap fun k => ((List.range (net.length - (k + 1))).map (k + 1 + ·)).map fun j => [k, j]) ++ (((List.range (net.length - (k + 1))).map (k + 1 + ·)).map fun j => [k, j]) → I xs [a0, a1, .val (netD net), a3, a4, a5, .val (.lst (L.map tD)), a7, a8, a9, a10, a11, a12, .no] Z := fun a7 L hL => (hI _ _ _).mpr ⟨ds ++ [k], a7, rfl, by simpa using h1, by rw [hL]; simp [List.flatMap_append]⟩
    have lim : (s1 net.length ++ ds.flatMap fun k => ((List.range (net.length - (k + 1))).map (k + 1 + ·)).map fun j => [k, j]).length + (((List.range (net.length - (k + 1))).map (k + 1 + ·)).map fun j => [k, j]).length ≤ 28 := by
      have e : sets net.length = (s1 net.length ++ ds.flatMap fun k => ((List.range (net.length - (k + 1))).map (k + 1 + ·)).map fun j => [k, j]) ++ (((List.range (net.length - (k + 1))).map (k + 1 + ·)).map fun j => [k, j]) ++ xs.flatMap fun k => ((List.range (net.length - (k + 1))).map (k + 1 + ·)).map fun j => [k, j] := by
        unfold sets s2
        rw [← h1, List.flatMap_append, List.flatMap_cons]
        simp
      rw [e, List.length_append, List.length_append] at sl
      omega
    clear hI h1
    have len : lenD Z [netD net] = some (.int (net.length : Int)) := by simp [netD]
    have rg := rgB_nD (a := k + 1) (b := net.length) (by omega) (by omega)
    rw [show ((k + 1 : Nat) : Int) = (k : Int) + 1 from rfl] at rg
    have lc := fun (all : List D) (a0 a1 a2 a3 a4 a5 a6 a8 a9 a10 a11 a12 : Sl) => two_lc (S := Z) (all := all) (xs := (List.range (net.length - (k + 1))).map (k + 1 + ·)) (k := k) (a0 := a0) (a1 := a1) (a2 := a2) (a3 := a3) (a4 := a4) (a5 := a5) (a6 := a6) (a8 := a8) (a9 := a9) (a10 := a10) (a11 := a11) (a12 := a12)
    generalize hR : (List.range (net.length - (k + 1))).map (k + 1 + ·) = R at *
    generalize (ds.flatMap fun k => ((List.range (net.length - (k + 1))).map (k + 1 + ·)).map fun j => [k, j]) = F at *
    generalize (s1 net.length ++ F) = G at *
    generalize hRR : R.map (fun j => [k, j]) = RR at *
    have z : G.length + RR.length ≤ sizeLine := by rw [sizeL]; omega
    generalize netD net = ND at *
    generalize hx : x_law_2 = x2 at *
    simp [b_law_0, nD, len]
    have rg : rgB [.int ((k : Int) + 1), .int (net.length : Int)] = some (R.map nD) := rg
    simp [rg, hx, lc, z]
    rw [← List.map_append]
    exact .nx (fin _ _ rfl)
end
end K25
end
section
set_option maxHeartbeats 2000000
/-! M25: the law on contacts that may fail. -/
namespace K25
open PySem PySem.Spec PyProof.Rows L2 Rf Lb Wq Mb
section
variable {S : Sto} {net : List Ct} {s t0 n l : Nat}
theorem ans_ok (hl : net.length ≤ 7) : okD 10 (.lst ((ans net s t0 n l).map tD)) = true := by
  refine okD_lstOf (n := 9) ?_ ?_
  · rw [List.length_map]
    unfold ans
    split
    · rw [(srt_perm _).length_eq]
      have := (weak_ok (s := s) (t0 := t0) (n := n) (l := l) hl).2
      omega
    · simp
  · intro d hd
    obtain ⟨c, hc, rfl⟩ := List.mem_map.mp hd
    refine tD_ok c ?_ 8
    unfold ans at hc
    split at hc
    · have := (weak_ok (s := s) (t0 := t0) (n := n) (l := l) hl).1 c (srt_mem.mp hc)
      omega
    · cases hc
theorem last (hN : ∀ c ∈ net, okC c) (hl : net.length ≤ 7) (hs : s < 4) (hn : n < 4) {a0 a1 a10 a11 a12 : Sl} :
    Wp (k_law_6 [a0, a1, .val (netD net), .val (.int (t0 : Int)), .val (.int (l : Int)), .no, .no, .no, .val (.str (nm s)), .val (.str (nm n)), a10, a11, a12, .no] S) fun r => ∃ Z, r = (.rt (.bl true), Z) := by
  have len : ∀ Z, lenD Z [netD net] = some (.int (net.length : Int)) := fun Z => by simp [netD]
  have rg := rgn (n := net.length) (by omega)
  have o1 := fun (all : List D) (E : Rf.Env) (a0 a1 a2 a3 a4 a5 a6 : Sl) => one_lc (S := S) (all := all) (E := E) (xs := List.range net.length) (a0 := a0) (a1 := a1) (a2 := a2) (a3 := a3) (a4 := a4) (a5 := a5) (a6 := a6)
  have sl := fun (all : List D) (a0 a1 a3 a4 a5 a7 a8 a9 a10 a11 a12 : Sl) => sets_loop (S := S) hl (all := all) (a0 := a0) (a1 := a1) (a3 := a3) (a4 := a4) (a5 := a5) (a7 := a7) (a8 := a8) (a9 := a9) (a10 := a10) (a11 := a11) (a12 := a12)
  have gg := law_goal (S := S) (t0 := t0) (l := l) hN (by omega) hs hn
  obtain ⟨k1, k2, _⟩ := sets_ok hl
  have lp := fun {Z : Sto} (all : List D) (a0 a1 a6 a7 a10 a11 a12 a13 : Sl) => law_loop (S := Z) (t0 := t0) (l := l) hN hl hs hn (all := all) (cs := sets net.length) (acc := []) (by intro c hc; cases hc) (by simp; omega) k1 (a0 := a0) (a1 := a1) (a6 := a6) (a7 := a7) (a10 := a10) (a11 := a11) (a12 := a12) (a13 := a13)
  have ws := fun {Z : Sto} => weak_sets (S := Z) (t0 := t0) (l := l) hN hl hs hn
  have so := fun Z => (tD_srt net.length).sorted (weak_ok (s := s) (t0 := t0) (n := n) (l := l) hl).1 Z
  have so0 : ∀ Z, sortedD Z [.lst []] = some (.lst []) := fun Z => by
    have := (tD_srt 0).sorted (xs := []) (by simp) Z
    rw [show srt tD [] = [] from by simp [srt]] at this
    exact this
  have sm := fun Z => same_ok (S := Z) (ans_ok (s := s) (t0 := t0) (n := n) (l := l) hl)
  have sm : ∀ Z, f__law_same [.lst ((ans net s t0 n l).map tD), .lst ((ans net s t0 n l).map tD)] Z = some (.bl true, Z) := sm
  have hw : (sets net.length).foldl (stp net s t0 n l) [] = weak net s t0 n l := rfl
  rw [hw] at lp
  have ha : ans net s t0 n l = if gt net s t0 n l = true then srt tD (weak net s t0 n l) else [] := rfl
  have hs1 : (List.range net.length).map (fun k => [k]) = s1 net.length := rfl
  rw [hs1] at o1
  generalize netD net = ND at *
  generalize hx1 : x_law_1 = x1 at *
  generalize hb0 : b_law_0 = b0 at *
  generalize hb1 : b_law_1 = b1 at *
  generalize ans net s t0 n l = AN at *
  simp [k_law_6, k_law_7, k_law_8, k_law_9, k_law_10, len, rg, hx1, hb0, hb1, o1]
  refine Wp.bnd (sl _ _ _ _ _ _ _ _ _ _ _ _) ?_
  rintro _ ⟨a7, rfl⟩
  simp
  refine Wp.bnd gg ?_
  rintro _ ⟨kvs, v, rfl, e1, e2⟩
  simp [lookK_lk, e1]
  cases hg : gt net s t0 n l with
  | true =>
    rw [hg] at e2
    have hv : v ≤ (l : Int) := e2.mpr rfl
    rw [hg, if_pos rfl] at ha
    simp [hv]
    refine Wp.bnd (lp _ _ _ _ _ _ _ _ _) ?_
    rintro _ ⟨a10, a11, J, rfl⟩
    simp
    refine Wp.bnd ws ?_
    rintro _ ⟨J2, rfl⟩
    simp [so, ← ha, sm]
  | false =>
    rw [hg] at e2
    have hv : ¬ v ≤ (l : Int) := fun z => by cases e2.mp z
    rw [hg, if_neg (by simp)] at ha
    subst ha
    simp [hv]
    refine Wp.bnd ws ?_
    rintro _ ⟨J2, rfl⟩
    have sm : ∀ Z, f__law_same [.lst [], .lst []] Z = some (.bl true, Z) := sm
    simp [so0, sm]
/-- the goals that a start can reach -/
theorem goal_lc (hN : ∀ c ∈ net, okC c) (hl : net.length ≤ 1000) (hs : s < 4) (hb : ∃ c ∈ net, c.a = s) {c : Cell} {all : List D} {a0 a1 a3 a4 a5 a6 a7 a9 a10 a11 a13 : Sl} :
    Wp (lcGo (gNm 12) q_law_0 x_law_0 none all [a0, a1, .val (netD net), a3, a4, a5, a6, a7, .val (.str (nm s)), a9, a10, a11, .no, a13] ((List.range 4).map fun n => D.str (nm n)) [] (c :: S)) fun r => ∃ (ns : List Nat) (J : Sto), r = (.lst (ns.map fun n => D.str (nm n)), c :: (S ++ J)) ∧ ns ≠ [] ∧ ∀ n ∈ ns, n < 4 := by
  obtain ⟨cb, hcb, rfl⟩ := hb
  have okb := hN cb hcb
  obtain ⟨I, hI⟩ : ∃ I : List Nat → List D → Sto → Prop, ∀ xs acc T, I xs acc T ↔ (∃ (ns : List Nat) (J : Sto), acc = ns.map (fun n => D.str (nm n)) ∧ T = c :: (S ++ J) ∧ (∀ n ∈ ns, n < 4) ∧ (∀ n ∈ xs, n < 4) ∧ (¬ cb.b ∈ xs → cb.b ∈ ns)) := ⟨fun xs acc T => _, fun _ _ _ => Iff.rfl⟩
  refine wp_lc (gd := none) (enc := fun n => D.str (nm n)) I (fun _ _ _ _ => (trivial : gok none all _)) ?_ ?_ (List.range 4) [] _ <| (hI _ _ _).mpr ⟨[], [], rfl, by simp, by simp, fun n hn => List.mem_range.mp hn, fun z => absurd (List.mem_range.mpr okb.2.1) z⟩
  · intro acc T h
    obtain ⟨ns, J, rfl, rfl, h1, _, h2⟩ := (hI _ _ _).mp h
    exact ⟨ns, J, rfl, (fun z => by have := h2 (by simp); rw [z] at this; cases this), h1⟩
  · intro n xs acc T h
    obtain ⟨ns, J, rfl, rfl, h1, h2, h3⟩ := (hI _ _ _).mp h
    have hn := h2 n (by simp)
    have h2' := fun m hm => h2 m (List.mem_cons_of_mem _ hm)
    have la := law_arr (S := c :: (S ++ J)) (t0 := 0) hN hl hs
    generalize netD net = ND at *
    simp [q_law_0, x_law_0]
    refine Wp.bnd la ?_
    rintro _ ⟨kvs, g, rfl, k1, k2⟩
    have e := k1.hs hn
    unfold kN at e
    have en := nm_eq (S := c :: (S ++ J) ++ [.dct (ksD kvs) (vsD kvs)]) hs hn
    have dt : dictAt (c :: (S ++ (J ++ [.dct (ksD kvs) (vsD kvs)]))) (.ref (S.length + J.length + 1)) = some (ksD kvs, vsD kvs) := dictAt_last (by
      rw [List.getElem?_cons_succ, ← List.append_assoc, List.getElem?_append_right (by simp)]
      simp)
    have hbb : ∃ u, g cb.b = some u := by
      obtain ⟨u, _, hu⟩ := k2.2 _ _ _ (.hop cb cb.fi .st hcb rfl (by omega) (Nat.le_refl _) okb.2.2.2.1)
      exact ⟨u, hu⟩
    have skip : n ≠ cb.b → I xs (ns.map fun n => D.str (nm n)) (c :: (S ++ (J ++ [.dct (ksD kvs) (vsD kvs)]))) := fun hne => (hI _ _ _).mpr ⟨ns, _, rfl, rfl, h1, h2', fun z => h3 (by
      intro q
      rcases List.mem_cons.mp q with q | q
      · exact hne q.symm
      · exact z q)⟩
    have take : I xs (ns.map (fun n => D.str (nm n)) ++ [.str (nm n)]) (c :: (S ++ (J ++ [.dct (ksD kvs) (vsD kvs)]))) := (hI _ _ _).mpr ⟨ns ++ [n], _, by simp, rfl, (fun m hm => by
        rcases List.mem_append.mp hm with z | z
        · exact h1 m z
        · have : m = n := by simpa using z
          omega), h2', fun z => by
        by_cases q : cb.b = n
        · rw [q]; simp
        · refine List.mem_append_left _ (h3 ?_)
          intro w
          rcases List.mem_cons.mp w with w | w
          · exact q w
          · exact z w⟩
    simp only [List.cons_append, List.append_assoc] at en
    cases eg : g n with
    | none =>
      have hne : n ≠ cb.b := fun z => by
        obtain ⟨u, hu⟩ := hbb
        rw [z] at eg
        rw [eg] at hu
        cases hu
      simp [dt, hasK_hs, e, eg]
      exact skip hne
    | some u =>
      by_cases hns : n = cb.a
      · have hne : n ≠ cb.b := fun z => okb.2.2.1 (by rw [← hns, z])
        have e1 : (n == cb.a) = true := by simpa using hns
        simp [dt, hasK_hs, e, eg, en, e1]
        exact skip hne
      · have e1 : (n == cb.a) = false := by simpa using hns
        simp [dt, hasK_hs, e, eg, en, e1]
        exact take
theorem tail (hN : ∀ c ∈ net, okC c) (hl : net.length ≤ 7) (hs : s < 4) (hn : n < 4) {c : Cell} (hc : DrawOk c) {a0 a10 a11 a12 : Sl} :
    Wp (k_law_4 [a0, .val (.ref 0), .val (netD net), .no, .no, .no, .no, .no, .val (.str (nm s)), .val (.str (nm n)), a10, a11, a12, .no] (c :: S)) fun r => ∃ Z, r = (.rt (.bl true), Z) := by
  have ls := fun {t0 l : Nat} {Z : Sto} (a0 a1 a10 a11 a12 : Sl) => last (S := Z) (t0 := t0) (l := l) hN hl hs hn (a0 := a0) (a1 := a1) (a10 := a10) (a11 := a11) (a12 := a12)
  generalize netD net = ND at *
  generalize hk : k_law_6 = k6 at *
  simp [k_law_4, k_law_5, hk]
  refine Wp.bnd (wp_nx hc (by omega) (by omega)) ?_
  rintro _ ⟨t0, c, _, hc, rfl⟩
  simp
  refine Wp.bnd (wp_nx hc (by omega) (by omega)) ?_
  rintro _ ⟨l, c, _, hc, rfl⟩
  simp
  exact ls (l := t0 + 4 + l) _ _ _ _ _
theorem main {ns : List Int} : Wp (f_law [.scr (ns.map .int)] []) fun r => r.1 = .bl true := by
  unfold f_law
  rw [runF1]
  unfold t_law
  generalize hk : k_law_4 = k4
  generalize hsc : D.scr (ns.map .int) = sc
  have dr : Wp (f__law_draw [sc] []) fun r => ∃ c, DrawOk c ∧ r = (.ref 0, [c]) := by rw [← hsc]; exact wp_draw'
  have o4 : 4 ≤ sizeLine := by rw [sizeL]; omega
  have o2 : 2 ≤ sizeLine := by rw [sizeL]; omega
  simp [k_law_1]
  refine Wp.bnd dr ?_
  rintro _ ⟨c, hc, rfl⟩
  simp
  refine Wp.bnd (law_net hc) ?_
  rintro _ ⟨net, c, J, hc, rfl, hl, hN⟩
  have tl := fun {s n : Nat} {c : Cell} {S : Sto} (hs : s < 4) (hn : n < 4) (hc : DrawOk c) (a0 a10 a11 a12 : Sl) => tail (S := S) hN hl hs hn hc (a0 := a0) (a10 := a10) (a11 := a11) (a12 := a12)
  rw [hk] at tl
  have tr : ∀ Z, truD Z (netD net) = some (!net.isEmpty) := fun Z => by simp [netD]
  have ix := fun {k : Nat} (hk : k < net.length) (S : Sto) => ix_net hk S
  have len : ∀ Z, lenD Z [netD net] = some (.int (net.length : Int)) := fun Z => by simp [netD]
  have gl := fun {s : Nat} (hs : s < 4) (hb : ∃ c ∈ net, c.a = s) {c : Cell} {S : Sto} {all : List D} (a0 a1 a3 a4 a5 a6 a7 a9 a10 a11 a13 : Sl) => goal_lc (S := S) hN (by omega) hs hb (c := c) (all := all) (a0 := a0) (a1 := a1) (a3 := a3) (a4 := a4) (a5 := a5) (a6 := a6) (a7 := a7) (a9 := a9) (a10 := a10) (a11 := a11) (a13 := a13)
  have nn : [D.str "aa", .str "bb", .str "cc", .str "dd"] = (List.range 4).map fun n => D.str (nm n) := names
  generalize netD net = ND at *
  generalize hx0 : x_law_0 = x0 at *
  generalize hq0 : q_law_0 = q0 at *
  simp [k_law_2, o2]
  refine Wp.bnd (wp_nx hc (by omega) (by omega)) ?_
  rintro _ ⟨i, c, hi, hc, rfl⟩
  have i0 : ∀ Z, ixD Z (.lst [.str "aa", .str "bb"]) (.int (i : Int)) = some (.str (nm i)) := fun Z => by
    have : i = 0 ∨ i = 1 := by omega
    rcases this with rfl | rfl <;> rfl
  simp [i0, o2]
  refine Wp.bnd (wp_nx hc (by omega) (by omega)) ?_
  rintro _ ⟨j, c, hj, hc, rfl⟩
  have i1 : ∀ Z, ixD Z (.lst [.str "cc", .str "dd"]) (.int (j : Int)) = some (.str (nm (2 + j))) := fun Z => by
    have : j = 0 ∨ j = 1 := by omega
    rcases this with rfl | rfl <;> rfl
  simp [i1, o2, k_law_3, tr, hk]
  by_cases he : net = []
  · rw [if_pos he]
    simp
    refine Wp.bnd (tl (by omega) (by omega) hc _ _ _ _) ?_
    rintro _ ⟨Z, rfl⟩
    simp
  · have hpos : 0 < net.length := List.length_pos_iff.mpr he
    rw [if_neg he]
    simp
    refine Wp.bnd (wp_nx hc (by omega) (by omega)) ?_
    rintro _ ⟨q, c, hq, hc, rfl⟩
    by_cases hz : q = 0
    · subst hz
      simp
      refine Wp.bnd (tl (by omega) (by omega) hc _ _ _ _) ?_
      rintro _ ⟨Z, rfl⟩
      simp
    · have hq1 : 0 < q := by omega
      simp [hq1, len]
      refine Wp.bnd (wp_nx hc (by omega) (by omega)) ?_
      rintro _ ⟨k, c, hk2, hc, rfl⟩
      have hk2 : k < net.length := by omega
      have okk := hN _ (nth_mem hk2)
      have ha : (nth net k).a < 4 := okk.1
      have gl := fun {c : Cell} {S : Sto} {all : List D} => gl ha ⟨_, nth_mem hk2, rfl⟩ (c := c) (S := S) (all := all)
      have ic : ∀ Z, ixD Z (cD (nth net k)) (.int 0) = some (.str (nm (nth net k).a)) := fun Z => rfl
      have ixk := ix hk2
      generalize cD (nth net k) = CD at *
      generalize (nth net k).a = s at *
      have four : (([D.str "aa", .str "bb", .str "cc", .str "dd"] : List D)).length ≤ sizeLine := o4
      generalize hNN : (List.range 4).map (fun n => D.str (nm n)) = NN at *
      rw [nn] at four
      simp [ixk, ic, nn, four, hx0, hq0]
      refine Wp.bnd (gl _ _ _ _ _ _ _ _ _ _ _) ?_
      rintro _ ⟨ns, J2, rfl, h1, h2⟩
      cases ns with
      | nil => exact absurd rfl h1
      | cons n ns =>
        have e0 : ∀ Z, ixD Z (.lst ((n :: ns).map fun n => D.str (nm n))) (.int 0) = some (.str (nm n)) := fun Z => by
          rw [ixD_lst, atI_nn (by omega)]
          rfl
        generalize (n :: ns).map (fun n => D.str (nm n)) = NL at *
        simp [e0]
        refine Wp.bnd (tl ha (h2 n (by simp)) hc _ _ _ _) ?_
        rintro _ ⟨Z, rfl⟩
        simp
theorem law_true (ns : List Int) (_ : ns.length ≤ 63) : ∃ S, f_law [.scr (ns.map .int)] [] = some (.bl true, S) := by
  obtain ⟨⟨d, S⟩, e, h⟩ := main (ns := ns)
  cases h
  exact ⟨S, e⟩
end
end K25
end
section
set_option maxHeartbeats 0
namespace K25
open PySem PySem.Spec PyProof.Rows L2 Rf
abbrev RR : PySem.W.OpenRow := PySem.W.OpenLaw.row PySem.Challenge.rw_farcall_k25_contacts_that_may_fail
abbrev hk : PySem.W.Hook := hookG 4 fa fn bf cs
def ob (s : PySem.W.SharedT) : AlG := obsGG 4 fa fn bf cs (HandSHeadRun.getT s)
theorem ob_eq (s : PySem.W.SharedT) : ob s = hk.obs s.abs := obsGG_eq (HandSHeadRun.getT_eq s)
def loose : List PySem.Str := ["combinations", "arrivals", "gets_through", "weak_sets", "_law_draw", "_law_next", "_law_same", "_law_net", "_law_hops", "_law_arrivals"]
theorem run (w : World) : HandSHeadRun.RunEqI RR (PySem.W.view RR.prog [0, 13]) hk ob 9000 loose w := by
  unfold HandSHeadRun.RunEqI
  kernel_rfl
theorem okd_law {P : Program} {w : World} {K : PySem.W.Frag} {mg : PySem.Str → Option Value} {base h : Heap} {fd : FuncData} (tx : TxG fa fn bf cs K h mg) (F : FunD K "law" "law" (defArgs s_law) (defBody s_law) (defScope s_law) [] [] (He.ga K "law") fd) : FnOk P w K mg base CX0 13 (He.ga K "law") fd ["script"] (spF K ⟨mg, P, w⟩ f_law) :=
  F.ok sc_law (fun vs H Q E q => spF_len q) fun cdv A outer s H vs Q E hr q => ⟨_, (bd_law tx cdv _ A outer s H E hr).nox, rd_fn (by decide) q⟩
end K25
open PySem PySem.W PySem.Calls PyProof.Rows
theorem PySem.Challenge.cw_farcall_k25_contacts_that_may_fail_holds : PySem.Challenge.rw_farcall_k25_contacts_that_may_fail.Holds := by
  w_on; o_law
  refine HandSHeadRun.head_imp (r := OpenLaw.row PySem.Challenge.rw_farcall_k25_contacts_that_may_fail) (q := view (OpenLaw.row PySem.Challenge.rw_farcall_k25_contacts_that_may_fail).prog [0, 13]) (H := K25.hk) (ob := K25.ob) (M := 9000) (loose := K25.loose) (d := HandSHeadRun.topDef (OpenLaw.row PySem.Challenge.rw_farcall_k25_contacts_that_may_fail).prog 13) (kwd := []) K25.ob_eq
    K25.run (by kernel_rfl) (by kernel_rfl) (by kernel_rfl) (by rfl) (by first | assumption | decide +kernel) (by decide +kernel) ⟨rfl, rfl, rfl, rfl, rfl, by decide +kernel⟩ ?hw ?hc
  case hw => w_witness2
  case hc =>
    refine L2.walk_ofE (l := PySem.Challenge.rw_farcall_k25_contacts_that_may_fail) (n := 63) (k := 13) (x := "script") (CX := L2.CX0) rfl (by decide) (by kernel_rfl) ⟨rfl, by decide, by decide⟩ ?F (fun _ _ _ _ z => z)
    intro w mg fa h Y G hmg0
    obtain ⟨K, KX, c⟩ := Y
    have hmg : mg ("law" : PySem.Str) = some (.ref fa) := by
      have e : (HandSHeadRun.topDef (OpenLaw.row PySem.Challenge.rw_farcall_k25_contacts_that_may_fail).prog 13).name = ("law" : PySem.Str) := by kernel_rfl
      rw [← e]
      exact hmg0
    have tx : Rf.TxG K25.fa K25.fn K25.bf K25.cs K h mg := ⟨⟨⟨KX, G, c.1.1⟩, c.1.2⟩, c.2⟩
    obtain ⟨fd, F⟩ := c.1.1.def_ 9 (d := K25.fn[9]) rfl
    have e := hmg.symm.trans (tx.glo 0 rfl)
    cases e
    exact ⟨K, fd, _, KX, fun s u => L2.FunD.bindsA (ps := ["script"]) F (fun _ _ _ _ _ _ us hl => match us, hl with | [_], _ => rfl) s [u] rfl, fun H a ns hl _ hS => Rf.law_sp K25.law_true hl hS, fun base _ _ => K25.okd_law tx F⟩
end
