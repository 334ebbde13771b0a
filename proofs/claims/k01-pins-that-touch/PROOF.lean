import PyProof.Rows.All
import Wide.All
import OpenK.AllK
import Wide.FinOn
import HandS.ForMost
import HandS.ForExc
import HandS.TupAny
import HandS.HeadHook1
import HandS.IsInst
import HandS.Deep
import HandS.TupMul
import HandS.TupLe
import HandS.More
import KE.KTupSum
import HandS.Zip
import HandS.Style
import HandS.Defaults
import HandS.Head0
import HandS.Head1
import HandS.Head2
import HandS.HeadEnd
import HandS.HeadHook2
import KE.GoesMore
import HandS.Conv
import HandS.Dict
import HandS.NoneIn
import HandS.SortInts
import HandS.ExcOwn
import HandS.TryMany
import HandS.TryOnly
import KE.SortData
import PyProof.SumAny
import PyProof.WalksMore
import PyProof.Rows.IntBool
import HandS.RaiseMore
import KE.KDictZip
import HandS.DictTup
import HandS.SetFor
import HandS.Strs
import HandS.TupSets
import KE.DataCmp
import HandS.Text
import HandS.Flow
import HandS.Iter
import PyProof.StrBlock2
import KE.DataMinMax
import KE.GoesZip
import HandS.SetKeys
import KE.KDictPairs
import KE.KDictCopyH
import HandS.HotCalls
import HandS.ExcIs
import PySem.Challenge.RW_skittlehall_k01_whole_pins_that_touch
set_option Elab.async false
set_option linter.all false
set_option maxRecDepth 100000
namespace Fw
open PySem L2

/-! ### data, objects, states -/
inductive D where
  | non | bl (b : Bool) | int (i : Int) | str (x : Str) | tup (xs : List D) | lst (xs : List D) | dct (kvs : List (D × D)) | obj (n : Nat) | nm (xs : List Str)

inductive Ob where
  | lst (xs : List D) | dct (kvs : List (D × D)) | ins (C : Str) (fs : List (Str × D))

inductive Slot where
  | un | v (d : D) | own (o : Ob)

structure S where
  env : List Slot
  st : List Ob

inductive Out (a : Type) where
  | ok (x : a) (s : S) | ex (c : Str) (s : S) | stuck

abbrev M (a : Type) := S → Out a

def Out.bnd {a b : Type} (o : Out a) (f : a → M b) : Out b := match o with
  | .ok x s => f x s
  | .ex c s => .ex c s
  | .stuck => .stuck
@[simp] theorem bnd_ok {a b : Type} (x : a) (s : S) (f : a → M b) : Out.bnd (.ok x s) f = f x s := rfl
@[simp] theorem bnd_ex {a b : Type} (c : Str) (s : S) (f : a → M b) : Out.bnd (.ex c s) f = .ex c s := rfl
@[simp] theorem bnd_stuck {a b : Type} (f : a → M b) : Out.bnd .stuck f = .stuck := rfl

inductive Fl where
  | nx | rt (d : D) | bk | ct

/-- the heap's frozen part grows: what is read stays -/
def isDc : HO → Prop
  | .dK _ => True
  | .dT _ => True
  | _ => False
def Le (F F' : Hp) : Prop := ∀ a c, F a = some c → F' a = some c ∨ (isDc c ∧ ∃ o, F' a = some (.frz o c))
theorem Le.refl (F : Hp) : Le F F := fun _ _ h => .inl h
theorem Le.frz {F F' : Hp} (h : Le F F') {a : Addr} {o : Obj} {u : HO} (e : F a = some (.frz o u)) : F' a = some (.frz o u) := by
  rcases h a _ e with q | ⟨q, _⟩
  · exact q
  · exact q.elim
theorem Le.tup {F F' : Hp} (h : Le F F') {a : Addr} {xs : List V} (e : F a = some (.tup xs)) : F' a = some (.tup xs) := by
  rcases h a _ e with q | ⟨q, _⟩
  · exact q
  · exact q.elim
theorem Le.trans {F G H : Hp} (a : Le F G) (b : Le G H) : Le F H := fun x c e => by
  rcases a x c e with q | ⟨d, o, q⟩
  · exact b x c q
  · exact .inr ⟨d, o, b.frz q⟩
theorem Le.rd {F F' : Hp} (h : Le F F') (a : Addr) (u : HO) (r : Rd F a u) : Rd F' a u := by
  rcases r with r | ⟨o, r⟩
  · rcases h a u r with q | ⟨_, o, q⟩
    · exact .inl q
    · exact .inr ⟨o, q⟩
  · exact .inr ⟨o, h.frz r⟩
theorem Le.of_same {F G : Hp} (h : Same F G) : Le F G := fun a u r => .inl (h _ _ r)
/-- a tuple's place -/
def txtV : V → Bool
  | .str _ => true
  | _ => false
def txtsV (xs : List V) : Bool := !xs.isEmpty && xs.all txtV
def TupAt (K : PySem.W.Frag) (F : Hp) (a : Addr) (xs : List V) : Prop := F a = some (.tup xs) ∨ (txtsV xs = true ∧ ∃ o, F a = some (.frz o (.tup xs)))
theorem TupAt.of {K : PySem.W.Frag} {F : Hp} {a : Addr} {xs : List V} (h : F a = some (.tup xs)) : TupAt K F a xs := .inl h
theorem TupAt.sq {K : PySem.W.Frag} {F : Hp} {a : Addr} {xs : List V} (h : TupAt K F a xs) : SqT K F a xs := by
  rcases h with h | ⟨_, o, h⟩
  · exact SqT.of h
  · exact .inl (.inr ⟨o, h⟩)
theorem Le.tupAt {K : PySem.W.Frag} {F F' : Hp} {a : Addr} {xs : List V} (h : Le F F') (q : TupAt K F a xs) : TupAt K F' a xs := by
  rcases q with q | ⟨t, o, q⟩
  · exact .inl (h.tup q)
  · exact .inr ⟨t, o, h.frz q⟩
theorem Le.sqT {K : PySem.W.Frag} {F F' : Hp} {a : Addr} {xs : List V} (h : Le F F') (q : SqT K F a xs) : SqT K F' a xs := by
  rcases q with q | q
  · exact .inl (h.rd _ _ q)
  · exact .inr q
theorem Le.sqL {K : PySem.W.Frag} {F F' : Hp} {a : Addr} {xs : List V} (h : Le F F') (q : SqL K F a xs) : SqL K F' a xs := by
  rcases q with q | q
  · exact .inl (h.rd _ _ q)
  · exact .inr q

def kD : Key → D
  | .inl i => .int i
  | .inr x => .str x

mutual
inductive Rep (K : PySem.W.Frag) (I : List Addr) (F : Hp) : V → D → Prop
  | non : Rep K I F .non .non
  | bl (b : Bool) : Rep K I F (.bl b) (.bl b)
  | int (i : Int) : Rep K I F (.int i) (.int i)
  | str (x : Str) : Rep K I F (.str x) (.str x)
  | tup {a : Addr} {vs : List V} {ds : List D} : TupAt K F a vs → RepL K I F vs ds → Rep K I F (.ref a) (.tup ds)
  | lst {a : Addr} {vs : List V} {ds : List D} : SqL K F a vs → RepL K I F vs ds → Rep K I F (.ref a) (.lst ds)
  | dK {a : Addr} {kvs : List (Key × V)} {ds : List (D × D)} : Rd F a (.dK kvs) → RepK K I F kvs ds → Rep K I F (.ref a) (.dct ds)
  | dT {a : Addr} {kvs : List (List Key × V)} {ds : List (D × D)} : Rd F a (.dT kvs) → RepT K I F kvs ds → Rep K I F (.ref a) (.dct ((.non, .non) :: ds))
  | obj {a : Addr} {n : Nat} : I[n]? = some a → Rep K I F (.ref a) (.obj n)
  | nm {a : Addr} {o : Obj} {xs : List Str} : F a = some (.frz o (.tup (xs.map .str))) → o.dict = none → xs ≠ [] → Rep K I F (.ref a) (.nm xs)
inductive RepL (K : PySem.W.Frag) (I : List Addr) (F : Hp) : List V → List D → Prop
  | nil : RepL K I F [] []
  | cons {v : V} {vs : List V} {d : D} {ds : List D} : Rep K I F v d → RepL K I F vs ds → RepL K I F (v :: vs) (d :: ds)
inductive RepK (K : PySem.W.Frag) (I : List Addr) (F : Hp) : List (Key × V) → List (D × D) → Prop
  | nil : RepK K I F [] []
  | cons {k : Key} {v : V} {vs : List (Key × V)} {d : D} {ds : List (D × D)} : Rep K I F v d → RepK K I F vs ds → RepK K I F ((k, v) :: vs) ((kD k, d) :: ds)
inductive RepT (K : PySem.W.Frag) (I : List Addr) (F : Hp) : List (List Key × V) → List (D × D) → Prop
  | nil : RepT K I F [] []
  | cons {k : List Key} {v : V} {vs : List (List Key × V)} {d : D} {ds : List (D × D)} : Rep K I F v d → RepT K I F vs ds → RepT K I F ((k, v) :: vs) ((.tup (k.map kD), d) :: ds)
end

section
variable {K : PySem.W.Frag} {I I' : List Addr} {F F' : Hp}
mutual
theorem Rep.mono (hL : Le F F') (hI : I <+: I') : ∀ (d : D) (v : V), Rep K I F v d → Rep K I' F' v d
  | .non, _, h => by cases h; exact .non
  | .bl b, _, h => by cases h; exact .bl b
  | .int i, _, h => by cases h; exact .int i
  | .str x, _, h => by cases h; exact .str x
  | .tup ds, _, h => by
    cases h with
    | tup q r => exact .tup (hL.tupAt q) (RepL.mono hL hI ds _ r)
  | .lst ds, _, h => by
    cases h with
    | lst q r => exact .lst (hL.sqL q) (RepL.mono hL hI ds _ r)
  | .dct [], _, h => by
    cases h with
    | dK q r => exact .dK (hL.rd _ _ q) (RepK.mono hL hI [] _ r)
  | .dct (kd :: ds), _, h => by
    cases h with
    | dK q r => exact .dK (hL.rd _ _ q) (RepK.mono hL hI (kd :: ds) _ r)
    | dT q r => exact .dT (hL.rd _ _ q) (RepT.mono hL hI ds _ r)
  | .obj n, _, h => by
    cases h with
    | obj q =>
      obtain ⟨t, rfl⟩ := hI
      exact .obj (by rw [List.getElem?_append_left (List.getElem?_eq_some_iff.mp q).1]; exact q)
  | .nm xs, _, h => by
    cases h with
    | nm q r n => exact .nm (hL.frz q) r n
theorem RepL.mono (hL : Le F F') (hI : I <+: I') : ∀ (ds : List D) (vs : List V), RepL K I F vs ds → RepL K I' F' vs ds
  | [], _, h => by cases h; exact .nil
  | d :: ds, _, h => by
    cases h with
    | cons a b => exact .cons (Rep.mono hL hI d _ a) (RepL.mono hL hI ds _ b)
theorem RepK.mono (hL : Le F F') (hI : I <+: I') : ∀ (ds : List (D × D)) (vs : List (Key × V)), RepK K I F vs ds → RepK K I' F' vs ds
  | [], _, h => by cases h; exact .nil
  | (_, d) :: ds, _, h => by
    cases h with
    | cons a b => exact .cons (Rep.mono hL hI d _ a) (RepK.mono hL hI ds _ b)
theorem RepT.mono (hL : Le F F') (hI : I <+: I') : ∀ (ds : List (D × D)) (vs : List (List Key × V)), RepT K I F vs ds → RepT K I' F' vs ds
  | [], _, h => by cases h; exact .nil
  | (_, d) :: ds, _, h => by
    cases h with
    | cons a b => exact .cons (Rep.mono hL hI d _ a) (RepT.mono hL hI ds _ b)
end
theorem RepL.length : ∀ {vs : List V} {ds : List D}, RepL K I F vs ds → vs.length = ds.length
  | _, _, .nil => rfl
  | _, _, .cons _ r => by simp [RepL.length r]
end
end Fw
namespace Fw
open PySem L2

mutual
def D.plain : D → Bool
  | .non | .bl _ | .int _ | .str _ => true
  | .tup ds | .lst ds => D.plainL ds
  | .dct kvs => D.plainP kvs
  | .obj _ => false
  | .nm _ => true
def D.plainL : List D → Bool
  | [] => true
  | d :: ds => D.plain d && D.plainL ds
def D.plainP : List (D × D) → Bool
  | [] => true
  | (_, d) :: ds => D.plain d && D.plainP ds
end
section
variable {K : PySem.W.Frag} {I I' : List Addr} {F F' : Hp}
mutual
theorem Rep.swap : ∀ (d : D) (v : V), D.plain d = true → Rep K I F v d → Rep K I' F v d
  | .non, _, _, h => by cases h; exact .non
  | .bl b, _, _, h => by cases h; exact .bl b
  | .int i, _, _, h => by cases h; exact .int i
  | .str x, _, _, h => by cases h; exact .str x
  | .tup ds, _, p, h => by
    cases h with
    | tup q r => exact .tup q (RepL.swap ds _ (by simpa [D.plain] using p) r)
  | .lst ds, _, p, h => by
    cases h with
    | lst q r => exact .lst q (RepL.swap ds _ (by simpa [D.plain] using p) r)
  | .dct [], _, p, h => by
    cases h with
    | dK q r => exact .dK q (RepK.swap [] _ (by simpa [D.plain] using p) r)
  | .dct (kd :: ds), _, p, h => by
    cases h with
    | dK q r => exact .dK q (RepK.swap (kd :: ds) _ (by simpa [D.plain] using p) r)
    | dT q r => exact .dT q (RepT.swap ds _ (by simpa [D.plain, D.plainP] using p) r)
  | .obj n, _, p, h => by simp [D.plain] at p
  | .nm xs, _, _, h => by
    cases h with
    | nm q r n => exact .nm q r n
theorem RepL.swap : ∀ (ds : List D) (vs : List V), D.plainL ds = true → RepL K I F vs ds → RepL K I' F vs ds
  | [], _, _, h => by cases h; exact .nil
  | d :: ds, _, p, h => by
    have p' : D.plain d = true ∧ D.plainL ds = true := by simpa [D.plainL] using p
    cases h with
    | cons a b => exact .cons (Rep.swap d _ p'.1 a) (RepL.swap ds _ p'.2 b)
theorem RepK.swap : ∀ (ds : List (D × D)) (vs : List (Key × V)), D.plainP ds = true → RepK K I F vs ds → RepK K I' F vs ds
  | [], _, _, h => by cases h; exact .nil
  | (_, d) :: ds, _, p, h => by
    have p' : D.plain d = true ∧ D.plainP ds = true := by simpa [D.plainP] using p
    cases h with
    | cons a b => exact .cons (Rep.swap d _ p'.1 a) (RepK.swap ds _ p'.2 b)
theorem RepT.swap : ∀ (ds : List (D × D)) (vs : List (List Key × V)), D.plainP ds = true → RepT K I F vs ds → RepT K I' F vs ds
  | [], _, _, h => by cases h; exact .nil
  | (_, d) :: ds, _, p, h => by
    have p' : D.plain d = true ∧ D.plainP ds = true := by simpa [D.plainP] using p
    cases h with
    | cons a b => exact .cons (Rep.swap d _ p'.1 a) (RepT.swap ds _ p'.2 b)
end
end

/-! ### objects at addresses -/
inductive FsR (K : PySem.W.Frag) (I : List Addr) (F : Hp) : List (Str × V) → List (Str × D) → Prop
  | nil : FsR K I F [] []
  | cons {x : Str} {v : V} {vs : List (Str × V)} {d : D} {ds : List (Str × D)} : Rep K I F v d → FsR K I F vs ds → FsR K I F ((x, v) :: vs) ((x, d) :: ds)
theorem FsR.mono {K : PySem.W.Frag} {I I' : List Addr} {F F' : Hp} (hL : Le F F') (hI : I <+: I') : ∀ {vs : List (Str × V)} {ds : List (Str × D)}, FsR K I F vs ds → FsR K I' F' vs ds
  | _, _, .nil => .nil
  | _, _, .cons a b => .cons (Rep.mono hL hI _ _ a) (FsR.mono hL hI b)
inductive HOR (K : PySem.W.Frag) (I : List Addr) (F : Hp) : HO → Ob → Prop
  | lst {vs : List V} {ds : List D} : RepL K I F vs ds → HOR K I F (.lst vs) (.lst ds)
  | dK {vs : List (Key × V)} {ds : List (D × D)} : RepK K I F vs ds → HOR K I F (.dK vs) (.dct ds)
  | dT {vs : List (List Key × V)} {ds : List (D × D)} : RepT K I F vs ds → HOR K I F (.dT vs) (.dct ((.non, .non) :: ds))
  | ins {C : Str} {dx : Addr} {vs : List (Str × V)} {ds : List (Str × D)} : FsR K I F vs ds → HOR K I F (.ins (He.ga K C) dx vs) (.ins C ds)
theorem HOR.mono {K : PySem.W.Frag} {I I' : List Addr} {F F' : Hp} (hL : Le F F') (hI : I <+: I') {o : HO} {b : Ob} (h : HOR K I F o b) : HOR K I' F' o b := by
  cases h with
  | lst r => exact .lst (RepL.mono hL hI _ _ r)
  | dK r => exact .dK (RepK.mono hL hI _ _ r)
  | dT r => exact .dT (RepT.mono hL hI _ _ r)
  | ins r => exact .ins (r.mono hL hI)

/-- an owned object -/
structure OwR (K : PySem.W.Frag) (I : List Addr) (F H : Hp) (a : Addr) (b : Ob) : Prop where
  nf : F a = none
  ex : ∃ o, H a = some o ∧ HOR K I F o b
inductive SlR (K : PySem.W.Frag) (I : List Addr) (F H : Hp) : Slot → Option V → List Addr → Prop
  | un {x : Option V} : SlR K I F H .un x []
  | v {w : V} {d : D} : Rep K I F w d → SlR K I F H (.v d) (some w) []
  | own {a : Addr} {b : Ob} : OwR K I F H a b → SlR K I F H (.own b) (some (.ref a)) [a]
inductive SlsR (K : PySem.W.Frag) (I : List Addr) (F H : Hp) : List Slot → St → List Addr → Prop
  | nil : SlsR K I F H [] [] []
  | cons {s : Slot} {x : Option V} {A : List Addr} {ss : List Slot} {xs : St} {As : List Addr} : SlR K I F H s x A → SlsR K I F H ss xs As → SlsR K I F H (s :: ss) (x :: xs) (A ++ As)
inductive StR (K : PySem.W.Frag) (I : List Addr) (F H : Hp) : List Addr → List Ob → Prop
  | nil : StR K I F H [] []
  | cons {a : Addr} {b : Ob} {as : List Addr} {bs : List Ob} : OwR K I F H a b → StR K I F H as bs → StR K I F H (a :: as) (b :: bs)

structure Gh where
  B : Hp
  F0 : Hp
  i0 : List Addr

structure Sim (K : PySem.W.Frag) (g : Gh) (I : List Addr) (F : Hp) (s : S) (σ : St) (H : Hp) : Prop where
  sub : Same F H
  sl : ∃ A, SlsR K I F H s.env σ A ∧ (I ++ A).Nodup ∧ ∀ a ∈ I ++ A, g.B a = none
  st : StR K I F H I s.st
  base : ∀ b o, g.B b = some o → F b = none ∧ H b = some o
  mono : Le g.F0 F
  pre : g.i0 <+: I

/-- what the objects owned lean on -/
theorem OwR.keep {K : PySem.W.Frag} {I I' : List Addr} {F F' H H' : Hp} {a : Addr} {b : Ob} (x : OwR K I F H a b) (hL : Le F F') (hI : I <+: I') (hf : F' a = none) (hh : ∀ o, H a = some o → H' a = some o) : OwR K I' F' H' a b := by
  obtain ⟨_, o, e, r⟩ := x
  exact ⟨hf, o, hh o e, r.mono hL hI⟩
theorem SlsR.keep {K : PySem.W.Frag} {I I' : List Addr} {F F' H H' : Hp} (hL : Le F F') (hI : I <+: I') : ∀ {ss : List Slot} {xs : St} {A : List Addr}, SlsR K I F H ss xs A → (∀ a ∈ A, F' a = none ∧ ∀ o, H a = some o → H' a = some o) → SlsR K I' F' H' ss xs A
  | _, _, _, .nil, _ => .nil
  | _, _, _, .cons (A := A) (As := As) h t, k => by
    refine .cons ?_ (SlsR.keep hL hI t fun a ha => k a (List.mem_append_right _ ha))
    cases h with
    | un => exact .un
    | v r => exact .v (Rep.mono hL hI _ _ r)
    | own r => exact .own (r.keep hL hI (k _ (by simp)).1 (k _ (by simp)).2)
theorem StR.keep {K : PySem.W.Frag} {I I' : List Addr} {F F' H H' : Hp} (hL : Le F F') (hI : I <+: I') : ∀ {as : List Addr} {bs : List Ob}, StR K I F H as bs → (∀ a ∈ as, F' a = none ∧ ∀ o, H a = some o → H' a = some o) → StR K I' F' H' as bs
  | _, _, .nil, _ => .nil
  | _, _, .cons h t, k => .cons (h.keep hL hI (k _ List.mem_cons_self).1 (k _ List.mem_cons_self).2) (StR.keep hL hI t fun a ha => k a (List.mem_cons_of_mem _ ha))
theorem SlsR.own_ex {K : PySem.W.Frag} {I : List Addr} {F H : Hp} : ∀ {ss : List Slot} {xs : St} {A : List Addr}, SlsR K I F H ss xs A → ∀ a ∈ A, F a = none ∧ ∃ o, H a = some o
  | _, _, _, .nil, _, h => by simp at h
  | _, _, _, .cons h t, a, ha => by
    rcases List.mem_append.mp ha with z | z
    · cases h with
      | un => simp at z
      | v _ => simp at z
      | own r =>
        rw [List.mem_singleton] at z
        subst z
        obtain ⟨nf, o, e, _⟩ := r
        exact ⟨nf, o, e⟩
    · exact SlsR.own_ex t a z
theorem StR.own_ex {K : PySem.W.Frag} {I : List Addr} {F H : Hp} : ∀ {as : List Addr} {bs : List Ob}, StR K I F H as bs → ∀ a ∈ as, F a = none ∧ ∃ o, H a = some o
  | _, _, .nil, _, h => by simp at h
  | _, _, .cons h t, a, ha => by
    rcases List.mem_cons.mp ha with rfl | z
    · obtain ⟨nf, o, e, _⟩ := h
      exact ⟨nf, o, e⟩
    · exact StR.own_ex t a z
theorem SlsR.length {K : PySem.W.Frag} {I : List Addr} {F H : Hp} : ∀ {ss : List Slot} {xs : St} {A : List Addr}, SlsR K I F H ss xs A → ss.length = xs.length
  | _, _, _, .nil => rfl
  | _, _, _, .cons _ t => by simp [SlsR.length t]
theorem StR.length {K : PySem.W.Frag} {I : List Addr} {F H : Hp} : ∀ {as : List Addr} {bs : List Ob}, StR K I F H as bs → as.length = bs.length
  | _, _, .nil => rfl
  | _, _, .cons _ t => by simp [StR.length t]

section
variable {K : PySem.W.Frag} {g : Gh} {I : List Addr} {F H : Hp} {s : S} {σ : St}

theorem Sim.owned (x : Sim K g I F s σ H) : ∃ A, SlsR K I F H s.env σ A ∧ (I ++ A).Nodup ∧ ∀ a ∈ I ++ A, g.B a = none ∧ F a = none ∧ ∃ o, H a = some o := by
  obtain ⟨A, h1, h2, h3⟩ := x.sl
  refine ⟨A, h1, h2, fun a ha => ⟨h3 a ha, ?_⟩⟩
  rcases List.mem_append.mp ha with z | z
  · exact x.st.own_ex a z
  · exact h1.own_ex a z
/-- the heap changes nowhere but at new places, and some of these are frozen -/
theorem Sim.grow (x : Sim K g I F s σ H) {F' H' : Hp} (hL : Le F F') (hs : Same F' H') (hh : ∀ b o, H b = some o → F b = none → F' b = none ∧ H' b = some o) : Sim K g I F' s σ H' := by
  obtain ⟨A, h1, h2, h3⟩ := x.owned
  have kp : ∀ a ∈ I ++ A, F' a = none ∧ ∀ o, H a = some o → H' a = some o := fun a ha => by
    obtain ⟨_, nf, o, e⟩ := h3 a ha
    obtain ⟨q1, q2⟩ := hh a o e nf
    exact ⟨q1, fun o' e' => by rw [e] at e'; cases e'; exact q2⟩
  refine ⟨hs, ⟨A, h1.keep hL (List.prefix_refl _) fun a ha => kp a (List.mem_append_right _ ha), h2, fun a ha => (h3 a ha).1⟩, x.st.keep hL (List.prefix_refl _) fun a ha => kp a (List.mem_append_left _ ha), fun b o e => ?_, x.mono.trans hL, x.pre⟩
  obtain ⟨q1, q2⟩ := x.base b o e
  exact hh b o q2 q1
/-- a new frozen object -/
theorem Sim.alloc (x : Sim K g I F s σ H) {p : Addr} {o : HO} (hp : H p = none) : Sim K g I (upd F p o) s σ (upd H p o) ∧ Le F (upd F p o) := by
  have hf : F p = none := x.sub.free hp
  have le : Le F (upd F p o) := Le.of_same fun b u e => by rw [upd_ne (ne_of_none e hf)]; exact e
  refine ⟨x.grow le (fun b u e => ?_) (fun b u e nf => ?_), le⟩
  · by_cases hb : b = p
    · subst hb; rw [upd_same] at e ⊢; exact e
    · rw [upd_ne hb] at e ⊢; exact x.sub _ _ e
  · have hb : b ≠ p := ne_of_none e hp
    rw [upd_ne hb, upd_ne hb]
    exact ⟨nf, e⟩
/-- a new object, owned by nobody yet -/
theorem Sim.fresh (x : Sim K g I F s σ H) {p : Addr} {o : HO} (hp : H p = none) : Sim K g I F s σ (upd H p o) :=
  x.grow (Le.refl _) (fun b u e => by rw [upd_ne (ne_of_none (x.sub _ _ e) hp)]; exact x.sub _ _ e) fun b u e nf => ⟨nf, by rw [upd_ne (ne_of_none e hp)]; exact e⟩
/-- from here on what is read stays -/
def Gh.at (g : Gh) (I : List Addr) (F : Hp) : Gh := ⟨g.B, F, I⟩
theorem Sim.here (x : Sim K g I F s σ H) : Sim K (g.at I F) I F s σ H := ⟨x.sub, x.sl, x.st, x.base, Le.refl _, List.prefix_refl _⟩
theorem Sim.back {I0 : List Addr} {F0 : Hp} {s0 : S} {σ0 : St} {H0 : Hp} (x0 : Sim K g I0 F0 s0 σ0 H0) (x : Sim K (g.at I0 F0) I F s σ H) : Sim K g I F s σ H :=
  ⟨x.sub, x.sl, x.st, x.base, x0.mono.trans x.mono, x0.pre.trans x.pre⟩
theorem SlsR.split : ∀ {ss : List Slot} {xs : St} {A : List Addr} {i : Nat} {c : Slot}, SlsR K I F H ss xs A → ss[i]? = some c → ∃ x P Ai Q, xs[i]? = some x ∧ SlR K I F H c x Ai ∧ A = P ++ (Ai ++ Q) ∧
    ∀ c' x' A', SlR K I F H c' x' A' → SlsR K I F H (ss.set i c') (xs.set i x') (P ++ (A' ++ Q))
  | _, _, _, i, _, .nil, e => by simp at e
  | _, _, _, 0, c, .cons (x := x) (A := A) (As := As) h t, e => by
    have e' : _ = c := Option.some.inj e
    subst e'
    exact ⟨x, [], A, As, rfl, h, rfl, fun c' x' A' h' => (SlsR.cons h' t : SlsR K I F H _ _ (A' ++ As))⟩
  | _, _, _, i + 1, c, .cons (x := x) (A := A) (As := As) h t, e => by
    obtain ⟨y, P, Ai, Q, h1, h2, h3, h4⟩ := SlsR.split (i := i) t (by simpa using e)
    refine ⟨y, A ++ P, Ai, Q, by simpa using h1, h2, by rw [h3, List.append_assoc], fun c' x' A' h' => ?_⟩
    rw [List.append_assoc]
    exact .cons h (h4 c' x' A' h')
theorem StR.split : ∀ {as : List Addr} {bs : List Ob} {i : Nat} {b : Ob}, StR K I F H as bs → bs[i]? = some b → ∃ a, as[i]? = some a ∧ OwR K I F H a b
  | _, _, _, _, .nil, e => by simp at e
  | _, _, 0, b, .cons h t, e => by
    have e' : _ = b := Option.some.inj e
    subst e'
    exact ⟨_, rfl, h⟩
  | _, _, i + 1, b, .cons h t, e => by
    obtain ⟨a, h1, h2⟩ := StR.split (i := i) t (by simpa using e)
    exact ⟨a, by simpa using h1, h2⟩
theorem Sim.get (x : Sim K g I F s σ H) {i : Nat} {d : D} (e : s.env[i]? = some (.v d)) : ∃ w, σ[i]? = some (some w) ∧ Rep K I F w d := by
  obtain ⟨A, h1, _, _⟩ := x.sl
  obtain ⟨y, P, Ai, Q, q1, q2, _, _⟩ := h1.split e
  cases q2 with
  | v r => exact ⟨_, q1, r⟩
theorem Sim.getOwn (x : Sim K g I F s σ H) {i : Nat} {b : Ob} (e : s.env[i]? = some (.own b)) : ∃ a, σ[i]? = some (some (.ref a)) ∧ OwR K I F H a b := by
  obtain ⟨A, h1, _, _⟩ := x.sl
  obtain ⟨y, P, Ai, Q, q1, q2, _, _⟩ := h1.split e
  cases q2 with
  | own r => exact ⟨_, q1, r⟩
theorem Sim.getSt (x : Sim K g I F s σ H) {n : Nat} {b : Ob} (e : s.st[n]? = some b) : ∃ a, I[n]? = some a ∧ OwR K I F H a b := x.st.split e
theorem sublist_drop {I P A Q : List Addr} : (I ++ (P ++ Q)).Sublist (I ++ (P ++ (A ++ Q))) :=
  List.Sublist.append (List.Sublist.refl _) (List.Sublist.append (List.Sublist.refl _) (List.sublist_append_right _ _))
/-- a slot takes a value -/
theorem Sim.set (x : Sim K g I F s σ H) {i : Nat} {w : V} {d : D} (r : Rep K I F w d) : Sim K g I F { s with env := s.env.set i (.v d) } (σ.set i (some w)) H := by
  obtain ⟨A, h1, h2, h3⟩ := x.sl
  cases e : s.env[i]? with
  | none =>
    have l1 : s.env.length ≤ i := List.getElem?_eq_none_iff.mp e
    have l2 := h1.length
    rw [List.set_eq_of_length_le l1, List.set_eq_of_length_le (by omega)]
    exact ⟨x.sub, ⟨A, h1, h2, h3⟩, x.st, x.base, x.mono, x.pre⟩
  | some c =>
    obtain ⟨y, P, Ai, Q, _, _, rfl, q4⟩ := h1.split e
    refine ⟨x.sub, ⟨P ++ ([] ++ Q), q4 _ _ _ (.v r), ?_, fun a ha => h3 a ?_⟩, x.st, x.base, x.mono, x.pre⟩
    · exact h2.sublist sublist_drop
    · exact sublist_drop.subset ha
/-- a slot is forgotten -/
theorem Sim.unset (x : Sim K g I F s σ H) {i : Nat} {y : Option V} : Sim K g I F { s with env := s.env.set i .un } (σ.set i y) H := by
  obtain ⟨A, h1, h2, h3⟩ := x.sl
  cases e : s.env[i]? with
  | none =>
    have l1 : s.env.length ≤ i := List.getElem?_eq_none_iff.mp e
    have l2 := h1.length
    rw [List.set_eq_of_length_le l1, List.set_eq_of_length_le (by omega)]
    exact ⟨x.sub, ⟨A, h1, h2, h3⟩, x.st, x.base, x.mono, x.pre⟩
  | some c =>
    obtain ⟨y, P, Ai, Q, _, _, rfl, q4⟩ := h1.split e
    refine ⟨x.sub, ⟨P ++ ([] ++ Q), q4 _ _ _ .un, ?_, fun a ha => h3 a ?_⟩, x.st, x.base, x.mono, x.pre⟩
    · exact h2.sublist sublist_drop
    · exact sublist_drop.subset ha
theorem nodup_put {I P A Q : List Addr} {p : Addr} (h : (I ++ (P ++ (A ++ Q))).Nodup) (hp : p ∉ I ++ (P ++ (A ++ Q))) : (I ++ (P ++ ([p] ++ Q))).Nodup := by
  have h' : (I ++ (P ++ Q)).Nodup := h.sublist sublist_drop
  have hp' : p ∉ I ++ (P ++ Q) := fun z => hp (sublist_drop.subset z)
  have e : (I ++ (P ++ ([p] ++ Q))).Perm (p :: (I ++ (P ++ Q))) := by
    have e1 : I ++ (P ++ ([p] ++ Q)) = (I ++ P) ++ p :: Q := by simp
    have e2 : I ++ (P ++ Q) = (I ++ P) ++ Q := by simp
    rw [e1, e2]
    exact List.perm_middle
  exact e.nodup_iff.mpr (List.nodup_cons.mpr ⟨hp', h'⟩)
/-- a slot takes a new object -/
theorem Sim.setOwn (x : Sim K g I F s σ H) {i : Nat} {p : Addr} {o : HO} {b : Ob} (hi : i < s.env.length) (hp : H p = none) (r : HOR K I F o b) : Sim K g I F { s with env := s.env.set i (.own b) } (σ.set i (some (.ref p))) (upd H p o) := by
  have x' := x.fresh (o := o) hp
  obtain ⟨A, h1, h2, h3⟩ := x'.sl
  obtain ⟨y, P, Ai, Q, _, _, rfl, q4⟩ := h1.split (List.getElem?_eq_getElem hi)
  obtain ⟨A0, g1, g2, g3⟩ := x.owned
  have np : p ∉ I ++ (P ++ (Ai ++ Q)) := fun z => by
    obtain ⟨B, k1, k2, k3⟩ := x.owned
    rcases List.mem_append.mp z with z | z
    · obtain ⟨_, o', e⟩ := x.st.own_ex p z
      rw [hp] at e; cases e
    · -- the slots' own addresses are those of the old heap
      have : ∀ {ss : List Slot} {xs : St} {A B : List Addr} {H1 H2 : Hp}, SlsR K I F H1 ss xs A → SlsR K I F H2 ss xs B → A = B := by
        intro ss xs A B H1 H2 a b
        induction a generalizing B with
        | nil => cases b; rfl
        | cons h t ih =>
          cases b with
          | cons h' t' =>
            rw [ih t']
            cases h <;> cases h' <;> rfl
      rw [this h1 k1] at z
      obtain ⟨_, _, o', e⟩ := k3 p (List.mem_append_right _ z)
      rw [hp] at e; cases e
  have bp : g.B p = none := by
    cases e : g.B p with
    | none => rfl
    | some u => rw [(x.base p u e).2] at hp; cases hp
  refine ⟨x'.sub, ⟨P ++ ([p] ++ Q), q4 _ _ _ (.own ⟨x.sub.free hp, o, upd_same, r⟩), nodup_put h2 np, fun a ha => ?_⟩, x'.st, x'.base, x'.mono, x'.pre⟩
  by_cases e : a = p
  · rw [e]; exact bp
  · refine h3 a ?_
    have : a ∈ I ++ (P ++ Q) := by
      simp only [List.mem_append, List.mem_singleton] at ha ⊢
      rcases ha with z | z | z | z
      · exact .inl z
      · exact .inr (.inl z)
      · exact absurd z e
      · exact .inr (.inr z)
    exact sublist_drop.subset this
theorem Rep.later {I0 : List Addr} {F0 : Hp} {v : V} {d : D} (r : Rep K I0 F0 v d) (x : Sim K (g.at I0 F0) I F s σ H) : Rep K I F v d := Rep.mono x.mono x.pre _ _ r
theorem RepL.later {I0 : List Addr} {F0 : Hp} {v : List V} {d : List D} (r : RepL K I0 F0 v d) (x : Sim K (g.at I0 F0) I F s σ H) : RepL K I F v d := RepL.mono x.mono x.pre _ _ r
end
end Fw
namespace Fw
open PySem L2

def Ob.toD : Ob → Option D
  | .lst xs => some (.lst xs)
  | .dct kvs => some (.dct kvs)
  | .ins _ _ => none
theorem HOR.toRep {K : PySem.W.Frag} {I : List Addr} {F : Hp} {a : Addr} {o : HO} {b : Ob} {d : D} (h : HOR K I F o b) (e : b.toD = some d) (hf : F a = some o) : Rep K I F (.ref a) d := by
  cases h with
  | lst r => cases e; exact .lst (SqL.of hf) r
  | dK r => cases e; exact .dK (.inl hf) r
  | dT r => cases e; exact .dT (.inl hf) r
  | ins r => cases e
theorem upd_out {H : Hp} {a c : Addr} {o : HO} {l : List Addr} (hc : c ∈ l) (na : a ∉ l) : upd H a o c = H c := upd_ne fun z => na (by rw [← z]; exact hc)
theorem set_self {α : Type} {l : List α} {i : Nat} {x : α} (e : l[i]? = some x) : l.set i x = l := by
  obtain ⟨h, rfl⟩ := List.getElem?_eq_some_iff.mp e
  exact List.set_getElem_self h
section
variable {K : PySem.W.Frag} {g : Gh} {I : List Addr} {F H : Hp} {s : S} {σ : St}
/-- an owned slot, taken out: what stays -/
theorem Sim.takeOwn (x : Sim K g I F s σ H) {i : Nat} {b : Ob} (e : s.env[i]? = some (.own b)) : ∃ a P Q, σ[i]? = some (some (.ref a)) ∧ OwR K I F H a b ∧ (I ++ (P ++ ([a] ++ Q))).Nodup ∧ (∀ c ∈ I ++ (P ++ ([a] ++ Q)), g.B c = none) ∧
    ∀ c' x' A', SlR K I F H c' x' A' → SlsR K I F H (s.env.set i c') (σ.set i x') (P ++ (A' ++ Q)) := by
  obtain ⟨A, h1, h2, h3⟩ := x.sl
  obtain ⟨y, P, Ai, Q, q1, q2, q3, q4⟩ := h1.split e
  cases q2 with
  | own r =>
    rw [q3] at h2 h3
    exact ⟨_, P, Q, q1, r, h2, h3, q4⟩
theorem nd_out {I P Q : List Addr} {a : Addr} (h : (I ++ (P ++ ([a] ++ Q))).Nodup) : a ∉ I ++ (P ++ Q) := by
  have e : (I ++ (P ++ ([a] ++ Q))).Perm (a :: (I ++ (P ++ Q))) := by
    have e1 : I ++ (P ++ ([a] ++ Q)) = (I ++ P) ++ a :: Q := by simp
    have e2 : I ++ (P ++ Q) = (I ++ P) ++ Q := by simp
    rw [e1, e2]
    exact List.perm_middle
  exact (List.nodup_cons.mp (e.nodup_iff.mp h)).1
/-- an owned slot is frozen -/
theorem Sim.freeze (x : Sim K g I F s σ H) {i : Nat} {b : Ob} {d : D} (e : s.env[i]? = some (.own b)) (ed : b.toD = some d) :
    ∃ a F', σ[i]? = some (some (.ref a)) ∧ Sim K g I F' { s with env := s.env.set i (.v d) } σ H ∧ Rep K I F' (.ref a) d ∧ Le F F' := by
  obtain ⟨a, P, Q, q1, ⟨nf, o, ho, r⟩, nd, bn, q4⟩ := x.takeOwn e
  have na := nd_out nd
  have le : Le F (upd F a o) := Le.of_same fun c u q => by rw [upd_ne (ne_of_none q nf)]; exact q
  have r' : Rep K I (upd F a o) (.ref a) d := (r.mono le (List.prefix_refl _)).toRep ed upd_same
  have keep : ∀ c, c ≠ a → F c = none → (upd F a o) c = none := fun c hc q => by rw [upd_ne hc]; exact q
  have sl0 := q4 .un (some (.ref a)) [] .un
  have sl1 : SlsR K I (upd F a o) H (s.env.set i .un) (σ.set i (some (.ref a))) (P ++ ([] ++ Q)) := sl0.keep le (List.prefix_refl _) fun c hc => by
    refine ⟨keep c (fun z => na (z ▸ List.mem_append_right _ hc)) (sl0.own_ex c hc).1, fun _ z => z⟩
  have hi : i < s.env.length := (List.getElem?_eq_some_iff.mp e).1
  obtain ⟨y, P', Ai, Q', k1, k2, k3, k4⟩ := sl1.split (i := i) (c := .un) (by rw [List.getElem?_set_self hi])
  have sl2 := k4 (.v d) (some (.ref a)) [] (.v r')
  cases k2
  rw [List.set_set, List.set_set, set_self q1, ← k3] at sl2
  refine ⟨a, upd F a o, q1, ⟨fun c u q => ?_, ⟨_, sl2, nd.sublist sublist_drop, fun c hc => bn c (sublist_drop.subset hc)⟩, x.st.keep le (List.prefix_refl _) fun c hc => ⟨keep c (fun z => na (z ▸ List.mem_append_left _ hc)) (x.st.own_ex c hc).1, fun _ z => z⟩, fun c u q => ?_, x.mono.trans le, x.pre⟩, r', le⟩
  · by_cases hc : c = a
    · subst hc; rw [upd_same] at q; cases q; exact ho
    · rw [upd_ne hc] at q; exact x.sub _ _ q
  · obtain ⟨k5, k6⟩ := x.base c u q
    refine ⟨keep c (fun z => ?_) k5, k6⟩
    rw [z, bn a (by simp)] at q; cases q
/-- an owned object changes -/
theorem Sim.put (x : Sim K g I F s σ H) {i : Nat} {b : Ob} (e : s.env[i]? = some (.own b)) : ∃ a o, σ[i]? = some (some (.ref a)) ∧ H a = some o ∧ HOR K I F o b ∧
    ∀ o' b', HOR K I F o' b' → Sim K g I F { s with env := s.env.set i (.own b') } σ (upd H a o') := by
  obtain ⟨a, P, Q, q1, ⟨nf, o, ho, r⟩, nd, bn, q4⟩ := x.takeOwn e
  have na := nd_out nd
  refine ⟨a, o, q1, ho, r, fun o' b' r' => ?_⟩
  have sl0 := q4 .un (some (.ref a)) [] .un
  have sl1 : SlsR K I F (upd H a o') (s.env.set i .un) (σ.set i (some (.ref a))) (P ++ ([] ++ Q)) := sl0.keep (Le.refl _) (List.prefix_refl _) fun c hc => by
    refine ⟨(sl0.own_ex c hc).1, fun u z => ?_⟩
    rw [upd_out (List.mem_append_right _ hc) na]; exact z
  have hi : i < s.env.length := (List.getElem?_eq_some_iff.mp e).1
  obtain ⟨y, P', Ai, Q', k1, k2, k3, k4⟩ := sl1.split (i := i) (c := .un) (by rw [List.getElem?_set_self hi])
  have sl2 := k4 (.own b') (some (.ref a)) [a] (.own ⟨nf, o', upd_same, r'⟩)
  cases k2
  rw [List.set_set, List.set_set, set_self q1] at sl2
  have nd' : (I ++ (P' ++ ([a] ++ Q'))).Nodup := by
    have : a ∉ I ++ (P' ++ ([] ++ Q')) := by rw [← k3]; exact na
    refine nodup_put (A := []) ?_ this
    rw [← k3]
    exact nd.sublist sublist_drop
  refine ⟨fun c u q => ?_, ⟨_, sl2, nd', fun c hc => ?_⟩, x.st.keep (Le.refl _) (List.prefix_refl _) fun c hc => ⟨(x.st.own_ex c hc).1, fun u z => ?_⟩, fun c u q => ?_, x.mono, x.pre⟩
  · rw [upd_ne (ne_of_none q nf)]; exact x.sub _ _ q
  · by_cases hca : c = a
    · exact bn c (by rw [hca]; simp)
    · refine bn c (sublist_drop.subset ?_)
      have : c ∈ I ++ (P' ++ ([] ++ Q')) := by
        simp only [List.mem_append, List.mem_singleton, List.nil_append] at hc ⊢
        rcases hc with z | z | z | z
        · exact .inl z
        · exact .inr (.inl z)
        · exact absurd z hca
        · exact .inr (.inr z)
      rw [← k3] at this
      exact this
  · rw [upd_out (List.mem_append_left _ hc) na]; exact z
  · obtain ⟨k5, k6⟩ := x.base c u q
    refine ⟨k5, ?_⟩
    rw [upd_ne (fun z => ?_)]
    · exact k6
    · rw [z, bn a (by simp)] at q; cases q
theorem StR.put {as : List Addr} {bs : List Ob} {n : Nat} {a : Addr} {o' : HO} {b' : Ob} (x : StR K I F H as bs) (nd : as.Nodup) (e : as[n]? = some a) (nf : F a = none) (r : HOR K I F o' b') : StR K I F (upd H a o') as (bs.set n b') := by
  induction x generalizing n with
  | nil => simp at e
  | @cons c b cs bs' h t ih =>
    obtain ⟨n1, n2⟩ := List.nodup_cons.mp nd
    cases n with
    | zero =>
      have e' : c = a := Option.some.inj e
      subst e'
      refine .cons ⟨nf, o', upd_same, r⟩ (t.keep (Le.refl _) (List.prefix_refl _) fun z hz => ⟨(t.own_ex z hz).1, fun u q => ?_⟩)
      rw [upd_out hz n1]; exact q
    | succ n =>
      have e' : cs[n]? = some a := by simpa using e
      refine .cons (h.keep (Le.refl _) (List.prefix_refl _) h.nf fun u q => ?_) (ih n2 e')
      rw [upd_ne (H := H) (fun z : c = a => n1 (by rw [z]; exact List.mem_of_getElem? e'))]; exact q
/-- an object of the store changes -/
theorem Sim.putSt (x : Sim K g I F s σ H) {n : Nat} {b : Ob} (e : s.st[n]? = some b) : ∃ a o, I[n]? = some a ∧ H a = some o ∧ HOR K I F o b ∧
    ∀ o' b', HOR K I F o' b' → Sim K g I F { s with st := s.st.set n b' } σ (upd H a o') := by
  obtain ⟨a, q1, ⟨nf, o, ho, r⟩⟩ := x.st.split e
  obtain ⟨A, h1, h2, h3⟩ := x.sl
  have ndI : I.Nodup := (List.nodup_append.mp h2).1
  have haI : a ∈ I := List.mem_of_getElem? q1
  have naA : a ∉ A := fun z => (List.nodup_append.mp h2).2.2 a haI a z rfl
  refine ⟨a, o, q1, ho, r, fun o' b' r' => ⟨fun c u q => ?_, ⟨A, h1.keep (Le.refl _) (List.prefix_refl _) fun c hc => ⟨(h1.own_ex c hc).1, fun u z => ?_⟩, h2, h3⟩, x.st.put ndI q1 nf r', fun c u q => ?_, x.mono, x.pre⟩⟩
  · rw [upd_ne (ne_of_none q nf)]; exact x.sub _ _ q
  · rw [upd_out hc naA]; exact z
  · obtain ⟨k5, k6⟩ := x.base c u q
    refine ⟨k5, ?_⟩
    rw [upd_ne (fun z => ?_)]
    · exact k6
    · rw [z, h3 a (List.mem_append_left _ haI)] at q; cases q
theorem StR.push {as : List Addr} {bs : List Ob} {a : Addr} {b : Ob} (x : StR K I F H as bs) (y : OwR K I F H a b) : StR K I F H (as ++ [a]) (bs ++ [b]) := by
  induction x with
  | nil => exact .cons y .nil
  | cons h t ih => exact .cons h ih
/-- a new object of the store -/
theorem Sim.allocSt (x : Sim K g I F s σ H) {p : Addr} {o : HO} {b : Ob} (hp : H p = none) (r : HOR K I F o b) : Sim K g (I ++ [p]) F { s with st := s.st ++ [b] } σ (upd H p o) ∧ I <+: I ++ [p] ∧ (I ++ [p])[s.st.length]? = some p := by
  have x' := x.fresh (o := o) hp
  have pre : I <+: I ++ [p] := List.prefix_append _ _
  obtain ⟨A, h1, h2, h3⟩ := x.owned
  have np : p ∉ I ++ A := fun z => by
    obtain ⟨_, _, o', e⟩ := h3 p z
    rw [hp] at e; cases e
  have bp : g.B p = none := by
    cases e : g.B p with
    | none => rfl
    | some u => rw [(x.base p u e).2] at hp; cases hp
  have kp : ∀ c ∈ I ++ A, F c = none ∧ ∀ u, H c = some u → upd H p o c = some u := fun c hc => ⟨(h3 c hc).2.1, fun u z => by rw [upd_out hc np]; exact z⟩
  refine ⟨⟨x'.sub, ⟨A, h1.keep (Le.refl _) pre fun c hc => kp c (List.mem_append_right _ hc), ?_, fun c hc => ?_⟩, ?_, x'.base, x'.mono, x.pre.trans pre⟩, pre, ?_⟩
  · have e : (I ++ [p] ++ A).Perm (p :: (I ++ A)) := by
      have e1 : I ++ [p] ++ A = I ++ p :: A := by simp
      rw [e1]
      exact List.perm_middle
    exact e.nodup_iff.mpr (List.nodup_cons.mpr ⟨np, h2⟩)
  · simp only [List.mem_append, List.mem_singleton] at hc
    rcases hc with (z | z) | z
    · exact (h3 c (List.mem_append_left _ z)).1
    · rw [z]; exact bp
    · exact (h3 c (List.mem_append_right _ z)).1
  · exact (x.st.keep (Le.refl _) pre fun c hc => kp c (List.mem_append_left _ hc)).push ⟨x.sub.free hp, o, upd_same, r.mono (Le.refl _) pre⟩
  · rw [← x.st.length]
    simp
end
end Fw
namespace Fw
open PySem L2

/-! ### the judgements -/
def PoE (X : Cx) (W : WX) (g : Gh) (σ : St) (o : Out D) (Q : VK) : Prop := match o with
  | .ok d s => ∀ v I F H, Sim X.K g I F s σ H → Rep X.K I F v d → Q v H
  | .ex c s => ∀ I F H u, Sim X.K g I F s σ H → X.mg c = some u → W u none σ H
  | .stuck => False
def PoT (X : Cx) (W : WX) (g : Gh) (σ : St) (o : Out Bool) (Q : Bool → Hp → Prop) : Prop := match o with
  | .ok b s => ∀ I F H, Sim X.K g I F s σ H → Q b H
  | .ex c s => ∀ I F H u, Sim X.K g I F s σ H → X.mg c = some u → W u none σ H
  | .stuck => False
def PoA (X : Cx) (W : WX) (g : Gh) (σ : St) (o : Out (List D)) (Q : List V → Hp → Prop) : Prop := match o with
  | .ok ds s => ∀ vs I F H, Sim X.K g I F s σ H → RepL X.K I F vs ds → Q vs H
  | .ex c s => ∀ I F H u, Sim X.K g I F s σ H → X.mg c = some u → W u none σ H
  | .stuck => False
def PoF (X : Cx) (W : WX) (g : Gh) (σ : St) (o : Out Ob) (Q : VK) : Prop := match o with
  | .ok b s => ∀ I F H p h, Sim X.K g I F s σ H → H p = none → HOR X.K I F h b → Q (.ref p) (upd H p h)
  | .ex c s => ∀ I F H u, Sim X.K g I F s σ H → X.mg c = some u → W u none σ H
  | .stuck => False
def PoS (X : Cx) (W : WX) (g : Gh) (o : Out Fl) (E : Ends) : Prop := match o with
  | .ok .nx s => ∀ I F σ H, Sim X.K g I F s σ H → E.nx σ H
  | .ok (.rt d) s => ∀ v I F σ H, Sim X.K g I F s σ H → Rep X.K I F v d → E.rt v H
  | .ok .bk s => ∀ I F σ H, Sim X.K g I F s σ H → E.bk σ H
  | .ok .ct s => ∀ I F σ H, Sim X.K g I F s σ H → E.ct σ H
  | .ex c s => ∀ I F σ H u, Sim X.K g I F s σ H → X.mg c = some u → W u none σ H
  | .stuck => False

def SE (X : Cx) (W : WX) (e : Expr) (f : M D) : Prop := ∃ t, PE X e t ∧ ∀ g I F s σ H Q, Sim X.K g I F s σ H → PoE X W g σ (f s) Q → t σ H Q
def ST (X : Cx) (W : WX) (e : Expr) (f : M Bool) : Prop := ∃ t, PT X e t ∧ ∀ g I F s σ H Q, Sim X.K g I F s σ H → PoT X W g σ (f s) Q → t σ H Q
def SA (X : Cx) (W : WX) (es : List Expr) (f : M (List D)) : Prop := ∃ t, PA X es t ∧ ∀ g I F s σ H Q, Sim X.K g I F s σ H → PoA X W g σ (f s) Q → t σ H Q
def SF (X : Cx) (W : WX) (e : Expr) (f : M Ob) : Prop := ∃ t, PE X e t ∧ ∀ g I F s σ H Q, Sim X.K g I F s σ H → PoF X W g σ (f s) Q → t σ H Q
def SS (X : Cx) (W : WX) (st : Stmt) (f : M Fl) : Prop := ∃ t, PS X st t ∧ ∀ g I F s σ H E, Sim X.K g I F s σ H → PoS X W g (f s) E → t E σ H
def SB (X : Cx) (W : WX) (st : List Stmt) (f : M Fl) : Prop := ∃ t, PSs X st t ∧ ∀ g I F s σ H E, Sim X.K g I F s σ H → PoS X W g (f s) E → t E σ H

/-! ### operands: a value, or a name's slot that is read where the operation is done -/
inductive Opd where
  | ex (f : M D) | sn (i : Nat) | ob (f : M D)
inductive Rd1 where
  | d (x : D) | i (n : Nat) | o (n : Nat)
def cont (s : S) (i : Nat) : Option D := match s.env[i]? with
  | some (.v (.obj n)) => (s.st[n]?).bind Ob.toD
  | some (.v d) => some d
  | some (.own b) => b.toD
  | _ => none
/-- an object of the store is read where the operation is done -/
def obK : D → M Rd1 := fun d s => match d with
  | .obj n => .ok (.o n) s
  | d => .ok (.d d) s
def Opd.ev : Opd → M Rd1
  | .ex f => fun s => (f s).bnd fun x s => .ok (.d x) s
  | .sn i => fun s => match cont s i with
    | some _ => .ok (.i i) s
    | none => .stuck
  | .ob f => fun s => (f s).bnd obK
def Rd1.rd (r : Rd1) (s : S) : Option D := match r with
  | .d x => some x
  | .i n => cont s n
  | .o n => (s.st[n]?).bind Ob.toD
def R1 (K : PySem.W.Frag) (I : List Addr) (F : Hp) (σ : St) (v : V) : Rd1 → Prop
  | .d x => Rep K I F v x
  | .i n => σ[n]? = some (some v)
  | .o n => Rep K I F v (.obj n)
def PoO (X : Cx) (W : WX) (g : Gh) (σ : St) (o : Out Rd1) (Q : VK) : Prop := match o with
  | .ok r s => ∀ v I F H, Sim X.K g I F s σ H → R1 X.K I F σ v r → Q v H
  | .ex c s => ∀ I F H u, Sim X.K g I F s σ H → X.mg c = some u → W u none σ H
  | .stuck => False
def SO (X : Cx) (W : WX) (e : Expr) (a : Opd) : Prop := ∃ t, PE X e t ∧ ∀ g I F s σ H Q, Sim X.K g I F s σ H → PoO X W g σ (a.ev s) Q → t σ H Q
/-- a value as it is read: the thing itself, or what the object holds now -/
inductive RW (K : PySem.W.Frag) (I : List Addr) (F H : Hp) : V → D → Prop
  | r {v : V} {d : D} : Rep K I F v d → RW K I F H v d
  | o {a : Addr} {h : HO} {b : Ob} {d : D} : H a = some h → HOR K I F h b → b.toD = some d → RW K I F H (.ref a) d

section
variable {X : Cx} {W : WX} {g : Gh} {I : List Addr} {F H : Hp} {s : S} {σ : St}
theorem R1.later {K : PySem.W.Frag} {I0 : List Addr} {F0 : Hp} {v : V} {r : Rd1} (h : R1 K I0 F0 σ v r) (x : Sim K (g.at I0 F0) I F s σ H) : R1 K I F σ v r := by
  cases r with
  | d y => exact Rep.later h x
  | i n => exact h
  | o n => exact Rep.later h x
theorem R1.rw {K : PySem.W.Frag} {v : V} {r : Rd1} {d : D} (h : R1 K I F σ v r) (x : Sim K g I F s σ H) (e : r.rd s = some d) : RW K I F H v d := by
  cases r with
  | d y => cases e; exact .r h
  | i n =>
    have h' : σ[n]? = some (some v) := h
    have e' : cont s n = some d := e
    unfold cont at e'
    split at e'
    · rename_i m hm
      obtain ⟨w, hw, hr⟩ := x.get hm
      rw [h'] at hw
      cases hw
      cases hr with
      | obj hI =>
        cases q : s.st[m]? with
        | none => rw [q] at e'; cases e'
        | some b =>
          rw [q] at e'
          obtain ⟨a, ha, ⟨nf, o, ho, hr⟩⟩ := x.getSt q
          rw [hI] at ha
          cases ha
          exact .o ho hr e'
    · rename_i d' hm hd
      cases e'
      obtain ⟨w, hw, hr⟩ := x.get hd
      rw [h'] at hw
      cases hw
      exact .r hr
    · rename_i b hb
      obtain ⟨a, ha, ⟨nf, o, ho, hr⟩⟩ := x.getOwn hb
      rw [h'] at ha
      cases ha
      exact .o ho hr e'
    · cases e'
  | o n =>
    have h' : Rep K I F v (.obj n) := h
    have e' : (s.st[n]?).bind Ob.toD = some d := e
    cases h' with
    | obj hI =>
      cases q : s.st[n]? with
      | none => rw [q] at e'; cases e'
      | some b =>
        rw [q] at e'
        obtain ⟨a, ha, ⟨nf, o, ho, hr⟩⟩ := x.getSt q
        rw [hI] at ha
        cases ha
        exact .o ho hr e'
end

section
variable {K : PySem.W.Frag} {I : List Addr} {F H : Hp}
theorem same_sqT {a : Addr} {xs : List V} (h : Same F H) (q : SqT K F a xs) : SqT K H a xs := (Le.of_same h).sqT q
theorem same_sqL {a : Addr} {xs : List V} (h : Same F H) (q : SqL K F a xs) : SqL K H a xs := (Le.of_same h).sqL q
theorem RW.int {v : V} {i : Int} (h : RW K I F H v (.int i)) : v = .int i := by
  cases h with
  | r q => cases q; rfl
  | o _ q e => cases q <;> cases e
theorem RW.bl {v : V} {i : Bool} (h : RW K I F H v (.bl i)) : v = .bl i := by
  cases h with
  | r q => cases q; rfl
  | o _ q e => cases q <;> cases e
theorem RW.str {v : V} {i : Str} (h : RW K I F H v (.str i)) : v = .str i := by
  cases h with
  | r q => cases q; rfl
  | o _ q e => cases q <;> cases e
theorem RW.non {v : V} (h : RW K I F H v .non) : v = .non := by
  cases h with
  | r q => cases q; rfl
  | o _ q e => cases q <;> cases e
theorem RW.tup {v : V} {ds : List D} (h : RW K I F H v (.tup ds)) (hs : Same F H) : ∃ a vs, v = .ref a ∧ SqT K H a vs ∧ RepL K I F vs ds ∧ TupAt K F a vs := by
  cases h with
  | r q =>
    cases q with
    | tup q r => exact ⟨_, _, rfl, same_sqT hs q.sq, r, q⟩
  | o _ q e => cases q <;> cases e
theorem RW.lst {v : V} {ds : List D} (h : RW K I F H v (.lst ds)) (hs : Same F H) : ∃ a vs, v = .ref a ∧ SqL K H a vs ∧ RepL K I F vs ds := by
  cases h with
  | r q =>
    cases q with
    | lst q r => exact ⟨_, _, rfl, same_sqL hs q, r⟩
  | o hh q e =>
    cases q with
    | lst r => cases e; exact ⟨_, _, rfl, SqL.of hh, r⟩
    | dK r => cases e
    | dT r => cases e
    | ins r => cases e
end

/-! ### names, constants -/
section
variable {X : Cx} {W : WX}
def eC (d : D) : M D := fun s => .ok d s
def eVar (i : Nat) : M D := fun s => match s.env[i]? with
  | some (.v d) => .ok d s
  | some (.own b) => (match b.toD with
    | some d => .ok d { s with env := s.env.set i (.v d) }
    | none => .stuck)
  | _ => .stuck
theorem se_var {i : Nat} {x : Str} {pos : Pos} (h : PE X (.Name x pos) (tVar i)) : SE X W (.Name x pos) (eVar i) := by
  refine ⟨_, h, fun g I F s σ H Q x hq => ?_⟩
  unfold eVar at hq
  split at hq
  · rename_i d hd
    obtain ⟨w, hw, hr⟩ := x.get hd
    exact ⟨w, hw, hq _ _ _ _ x hr⟩
  · rename_i b hb
    split at hq
    · rename_i d hd
      obtain ⟨a, F', ha, x', hr, le⟩ := x.freeze hb hd
      exact ⟨_, ha, hq _ _ _ _ x' hr⟩
    · exact hq.elim
  · exact hq.elim
theorem cont_slot {g : Gh} {I : List Addr} {F H : Hp} {s : S} {σ : St} {K : PySem.W.Frag} {i : Nat} {d : D} (x : Sim K g I F s σ H) (e : cont s i = some d) : ∃ v, σ[i]? = some (some v) := by
  unfold cont at e
  split at e
  · rename_i m hm
    obtain ⟨w, hw, _⟩ := x.get hm
    exact ⟨w, hw⟩
  · rename_i d' hm hd
    obtain ⟨w, hw, _⟩ := x.get hd
    exact ⟨w, hw⟩
  · rename_i b hb
    obtain ⟨a, ha, _⟩ := x.getOwn hb
    exact ⟨_, ha⟩
  · cases e
theorem so_sn {i : Nat} {x : Str} {pos : Pos} (h : PE X (.Name x pos) (tVar i)) : SO X W (.Name x pos) (.sn i) := by
  refine ⟨_, h, fun g I F s σ H Q x hq => ?_⟩
  have e1 : (Opd.sn i).ev s = match cont s i with
    | some _ => .ok (.i i) s
    | none => .stuck := rfl
  rw [e1] at hq
  cases e : cont s i with
  | none => rw [e] at hq; exact hq.elim
  | some d =>
    rw [e] at hq
    obtain ⟨v, hv⟩ := cont_slot x e
    exact ⟨v, hv, hq _ _ _ _ x hv⟩
theorem so_ex {e : Expr} {f : M D} (h : SE X W e f) : SO X W e (.ex f) := by
  obtain ⟨t, h1, h2⟩ := h
  refine ⟨t, h1, fun g I F s σ H Q x hq => h2 g I F s σ H Q x ?_⟩
  have e1 : (Opd.ex f).ev s = (f s).bnd fun y s' => .ok (.d y) s' := rfl
  rw [e1] at hq
  cases e : f s with
  | ok d s' => rw [e] at hq; exact hq
  | ex c s' => rw [e] at hq; exact hq
  | stuck => rw [e] at hq; exact hq
theorem so_ob {e : Expr} {f : M D} (h : SE X W e f) : SO X W e (.ob f) := by
  obtain ⟨t, h1, h2⟩ := h
  refine ⟨t, h1, fun g I F s σ H Q x hq => h2 g I F s σ H Q x ?_⟩
  have e1 : (Opd.ob f).ev s = (f s).bnd obK := rfl
  rw [e1] at hq
  cases e : f s with
  | ex c s' => rw [e] at hq; exact hq
  | stuck => rw [e] at hq; exact hq
  | ok d s' =>
    rw [e, bnd_ok] at hq
    unfold obK at hq
    cases d with
    | obj n => exact hq
    | _ => exact hq
theorem se_c {e : Expr} {v : V} {d : D} (h : PE X e (tC v)) (r : ∀ I F, Rep X.K I F v d) : SE X W e (eC d) :=
  ⟨_, h, fun g I F s σ H Q x hq => hq _ _ _ _ x (r _ _)⟩
theorem se_int {i : Int} {j : Nat} {pos : Pos} : SE X W (.Constant (.int i) j pos) (eC (.int i)) := se_c pe_int fun _ _ => .int i
theorem se_bl {i : Bool} {j : Nat} {pos : Pos} : SE X W (.Constant (.bool i) j pos) (eC (.bl i)) := se_c pe_bl fun _ _ => .bl i
theorem se_non {j : Nat} {pos : Pos} : SE X W (.Constant .none j pos) (eC .non) := se_c pe_non fun _ _ => .non
theorem se_str {x : Str} {j : Nat} {pos : Pos} : SE X W (.Constant (.str x) j pos) (eC (.str x)) := se_c pe_str fun _ _ => .str x
end
end Fw
namespace Fw
open PySem L2

/-! ### two operands -/
def OpS (X : Cx) (r : R2) (op : D → D → Option D) : Prop := ∀ g I F s σ H Q x y dx dy d, Sim X.K g I F s σ H → RW X.K I F H x dx → RW X.K I F H y dy → op dx dy = some d →
  (∀ v F' H', Sim X.K g I F' s σ H' → Rep X.K I F' v d → Q v H') → r x y H Q
def lift1 (o : Option D) : M D := fun s => match o with
  | some d => .ok d s
  | none => .stuck
def rd2 (x y : Rd1) (k : D → D → M D) : M D := fun s => match x.rd s, y.rd s with
  | some dx, some dy => k dx dy s
  | _, _ => .stuck
def e2 (op : D → D → Option D) (a b : Opd) : M D := fun s => (a.ev s).bnd fun x s => (b.ev s).bnd fun y => rd2 x y fun dx dy => lift1 (op dx dy)

section
variable {X : Cx} {W : WX} {a b : Expr} {oa ob : Opd} {pos : Pos}
/-- both operands are evaluated; then the operation at the values as they are read -/
theorem two {ta tb : TE} (ha : ∀ g I F s σ H Q, Sim X.K g I F s σ H → PoO X W g σ (oa.ev s) Q → ta σ H Q) (hb : ∀ g I F s σ H Q, Sim X.K g I F s σ H → PoO X W g σ (ob.ev s) Q → tb σ H Q)
    {α : Type} {R : V → V → Hp → Prop} {k : D → D → M α} {g : Gh} {I : List Addr} {F H : Hp} {s : S} {σ : St} {Po : Out α → Prop} (hex : ∀ c s, Po (.ex c s) → ∀ I F H u, Sim X.K g I F s σ H → X.mg c = some u → W u none σ H) (hst : ¬ Po .stuck)
    (x : Sim X.K g I F s σ H) (hq : Po ((oa.ev s).bnd fun p s => (ob.ev s).bnd fun q s => match p.rd s, q.rd s with | some dx, some dy => k dx dy s | _, _ => .stuck))
    (h : ∀ I F s H v w dx dy, Sim X.K g I F s σ H → RW X.K I F H v dx → RW X.K I F H w dy → Po (k dx dy s) → R v w H) : ta σ H fun v H1 => tb σ H1 fun w H2 => R v w H2 := by
  refine ha g I F s σ H _ x ?_
  cases e1 : oa.ev s with
  | stuck => rw [e1] at hq; exact hst hq
  | ex c s1 => rw [e1] at hq; exact hex c s1 hq
  | ok p s1 =>
    rw [e1] at hq
    intro v I1 F1 H1 x1 r1
    refine hb (g.at I1 F1) I1 F1 s1 σ H1 _ x1.here ?_
    cases e2 : ob.ev s1 with
    | stuck => rw [bnd_ok, e2] at hq; exact hst hq
    | ex c s2 => rw [bnd_ok, e2] at hq; exact fun I2 F2 H2 u x2 hu => hex c s2 hq _ _ _ _ (x1.back x2) hu
    | ok q s2 =>
      rw [bnd_ok, e2, bnd_ok] at hq
      intro w I2 F2 H2 x2 r2
      have x2' := x1.back x2
      have r1' := r1.later x2
      cases e3 : p.rd s2 with
      | none => rw [e3] at hq; exact (hst hq).elim
      | some dx =>
        cases e4 : q.rd s2 with
        | none => rw [e3, e4] at hq; exact (hst hq).elim
        | some dy =>
          rw [e3, e4] at hq
          exact h _ _ _ _ _ _ _ _ x2' (r1'.rw x2' e3) (r2.rw x2' e4) hq
theorem se_op {e : Expr} {r : R2} {op : D → D → Option D} (hp : ∀ {ta tb : TE}, PE X a ta → PE X b tb → PE X e (tOp r ta tb)) (hs : OpS X r op) (ha : SO X W a oa) (hb : SO X W b ob) : SE X W e (e2 op oa ob) := by
  obtain ⟨ta, a1, a2⟩ := ha
  obtain ⟨tb, b1, b2⟩ := hb
  refine ⟨_, hp a1 b1, fun g I F s σ H Q x hq => ?_⟩
  refine two (Po := fun o => PoE X W g σ o Q) (k := fun dx dy => lift1 (op dx dy)) a2 b2 (fun c s q => q) (fun q => q) x hq fun I F s H v w dx dy x rv rw_ q => ?_
  unfold lift1 at q
  cases e : op dx dy with
  | none => rw [e] at q; exact q.elim
  | some d =>
    rw [e] at q
    exact hs g I F s σ H Q v w dx dy d x rv rw_ e fun v F' H' x' r' => q v I F' H' x' r'
theorem se_bin {o : Operator} {r : R2} {op : D → D → Option D} (ho : OpR X (binaryOp o) r) (hs : OpS X r op) (ha : SO X W a oa) (hb : SO X W b ob) : SE X W (.BinOp a o b pos) (e2 op oa ob) :=
  se_op (fun h1 h2 => pe_op ho h1 h2) hs ha hb
theorem se_cmp {o : CmpOp} {r : R2} {op : D → D → Option D} (ho : OpR X (compareOp o) r) (hs : OpS X r op) (ha : SO X W a oa) (hb : SO X W b ob) (hm : behindInMarks o b = false) : SE X W (.Compare a [o] [b] pos) (e2 op oa ob) :=
  se_op (fun h1 h2 => pe_cmpR ho h1 h2 hm) hs ha hb
theorem se_ix {r : R2} {op : D → D → Option D} (ho : IxR X r) (hs : OpS X r op) (ha : SO X W a oa) (hb : SO X W b ob) (hx : PlainIx b) : SE X W (.Subscript a b pos) (e2 op oa ob) :=
  se_op (fun h1 h2 => pe_ix ho h1 h2 hx) hs ha hb

/-! ### one operand -/
def UnS (X : Cx) (r : V → Hp → VK → Prop) (op : D → Option D) : Prop := ∀ g I F s σ H Q x dx d, Sim X.K g I F s σ H → RW X.K I F H x dx → op dx = some d →
  (∀ v F' H', Sim X.K g I F' s σ H' → Rep X.K I F' v d → Q v H') → r x H Q
def rd1 {α : Type} (x : Rd1) (k : D → M α) : M α := fun s => match x.rd s with
  | some d => k d s
  | none => .stuck
def e1 (op : D → Option D) (a : Opd) : M D := fun s => (a.ev s).bnd fun x => rd1 x fun d => lift1 (op d)
theorem one {ta : TE} (ha : ∀ g I F s σ H Q, Sim X.K g I F s σ H → PoO X W g σ (oa.ev s) Q → ta σ H Q)
    {α : Type} {R : V → Hp → Prop} {k : D → M α} {g : Gh} {I : List Addr} {F H : Hp} {s : S} {σ : St} {Po : Out α → Prop} (hex : ∀ c s, Po (.ex c s) → ∀ I F H u, Sim X.K g I F s σ H → X.mg c = some u → W u none σ H) (hst : ¬ Po .stuck)
    (x : Sim X.K g I F s σ H) (hq : Po ((oa.ev s).bnd fun p => rd1 p k))
    (h : ∀ I F s H v dx, Sim X.K g I F s σ H → RW X.K I F H v dx → Po (k dx s) → R v H) : ta σ H R := by
  refine ha g I F s σ H _ x ?_
  cases e1 : oa.ev s with
  | stuck => rw [e1] at hq; exact hst hq
  | ex c s1 => rw [e1] at hq; exact hex c s1 hq
  | ok p s1 =>
    rw [e1, bnd_ok] at hq
    intro v I1 F1 H1 x1 r1
    unfold rd1 at hq
    cases e3 : p.rd s1 with
    | none => rw [e3] at hq; exact (hst hq).elim
    | some dx =>
      rw [e3] at hq
      exact h _ _ _ _ _ _ x1 (r1.rw x1 e3) hq
theorem se_un {o : UnaryOp} {r : V → Hp → VK → Prop} {op : D → Option D} (ho : UnR X (unaryOp o) r) (hs : UnS X r op) (ha : SO X W a oa) : SE X W (.UnaryOp o a pos) (e1 op oa) := by
  obtain ⟨ta, a1, a2⟩ := ha
  refine ⟨_, pe_un ho a1, fun g I F s σ H Q x hq => ?_⟩
  refine one (Po := fun o => PoE X W g σ o Q) (k := fun dx => lift1 (op dx)) a2 (fun c s q => q) (fun q => q) x hq fun I F s H v dx x rv q => ?_
  unfold lift1 at q
  cases e : op dx with
  | none => rw [e] at q; exact q.elim
  | some d =>
    rw [e] at q
    exact hs g I F s σ H Q v dx d x rv e fun v F' H' x' r' => q v I F' H' x' r'
end

/-! ### truth -/
def dTru : D → Option Bool
  | .non => some false
  | .bl b => some b
  | .int i => some (i != 0)
  | .str x => if x.length ≤ sizeLine then some ((x.length : Int) != 0) else none
  | .tup xs => some (!xs.isEmpty)
  | .lst xs => some (!xs.isEmpty)
  | _ => none
theorem repL_empty {K : PySem.W.Frag} {I : List Addr} {F : Hp} {vs : List V} {ds : List D} (h : RepL K I F vs ds) : vs.isEmpty = ds.isEmpty := by cases h <;> rfl
theorem RW.tru {K : PySem.W.Frag} {I : List Addr} {F H : Hp} {v : V} {d : D} {b : Bool} (h : RW K I F H v d) (hs : Same F H) (e : dTru d = some b) : TruV K v H b := by
  cases d with
  | non => cases e; rw [h.non]; rfl
  | bl c => cases e; rw [h.bl]; rfl
  | int i => cases e; rw [h.int]; rfl
  | str x =>
    have e' : (if x.length ≤ sizeLine then some ((x.length : Int) != 0) else none) = some b := e
    by_cases hx : x.length ≤ sizeLine
    · rw [if_pos hx] at e'
      cases e'
      rw [h.str]
      exact ⟨hx, rfl⟩
    · rw [if_neg hx] at e'
      cases e'
  | tup ds =>
    cases e
    obtain ⟨a, vs, rfl, q, r, _⟩ := h.tup hs
    exact .inr (.inl ⟨vs, q, by rw [repL_empty r]⟩)
  | lst ds =>
    cases e
    obtain ⟨a, vs, rfl, q, r⟩ := h.lst hs
    exact .inl ⟨vs, q, by rw [repL_empty r]⟩
  | dct _ => cases e
  | obj _ => cases e
  | nm _ => cases e
section
variable {X : Cx} {W : WX} {a b c : Expr} {oa ob : Opd} {pos : Pos}
def liftB (o : Option Bool) : M Bool := fun s => match o with
  | some d => .ok d s
  | none => .stuck
def tTru (a : Opd) : M Bool := fun s => (a.ev s).bnd fun x => rd1 x fun d => liftB (dTru d)
/-- an expression as a test, by its truth -/
theorem st_tru (ha : SO X W a oa) (he : ∀ whole, isTrue a X.env whole = (do let v ← whole; standAt a.pos; holding [v] (truthy v))) : ST X W a (tTru oa) := by
  obtain ⟨ta, a1, a2⟩ := ha
  refine ⟨_, pt_truth a1 he, fun g I F s σ H Q x hq => ?_⟩
  refine one (Po := fun o => PoT X W g σ o Q) (k := fun d => liftB (dTru d)) a2 (fun c s q => q) (fun q => q) x hq fun I F s H v dx x rv q => ?_
  unfold liftB at q
  cases e : dTru dx with
  | none => rw [e] at q; exact q.elim
  | some d =>
    rw [e] at q
    exact ⟨d, rv.tru x.sub e, q _ _ _ x⟩
/-- an expression that gives a truth value, as a test -/
def tB1 (f : M D) : M Bool := fun s => (f s).bnd fun d s => match d with
  | .bl b => .ok b s
  | _ => .stuck
theorem st_val {f : M D} (ha : SE X W a f) (he : ∀ {t : TE}, PE X a t → PT X a (tB t)) : ST X W a (tB1 f) := by
  obtain ⟨ta, a1, a2⟩ := ha
  refine ⟨_, he a1, fun g I F s σ H Q x hq => a2 g I F s σ H _ x ?_⟩
  unfold tB1 at hq
  cases e : f s with
  | stuck => rw [e] at hq; exact hq
  | ex c s1 => rw [e] at hq; exact hq
  | ok d s1 =>
    rw [e, bnd_ok] at hq
    intro v I1 F1 H1 x1 r1
    cases r1 with
    | bl b => exact ⟨b, rfl, hq _ _ _ x1⟩
    | _ => exact hq.elim
def tNotM (f : M Bool) : M Bool := fun s => (f s).bnd fun b s => .ok (!b) s
theorem st_not {f : M Bool} (ha : ST X W a f) : ST X W (.UnaryOp .Not a pos) (tNotM f) := by
  obtain ⟨ta, a1, a2⟩ := ha
  refine ⟨_, pt_not a1, fun g I F s σ H Q x hq => a2 g I F s σ H _ x ?_⟩
  unfold tNotM at hq
  cases e : f s with
  | stuck => rw [e] at hq; exact hq
  | ex c s1 => rw [e] at hq; exact hq
  | ok d s1 => rw [e, bnd_ok] at hq; exact fun I F H x => hq I F H x
/-- and, or as tests -/
def SW (X : Cx) (W : WX) (e : Expr) (f : M Bool) : Prop := ∃ t, PW X e t ∧ ∀ g I F s σ H Q, Sim X.K g I F s σ H → PoT X W g σ (f s) Q → t σ H Q
def tAndM (f h : M Bool) : M Bool := fun s => (f s).bnd fun b s => if b = true then h s else .ok false s
def tOrM (f h : M Bool) : M Bool := fun s => (f s).bnd fun b s => if b = true then .ok true s else h s
theorem SW.st {f : M Bool} (h : SW X W a f) : ST X W a f := by
  obtain ⟨t, h1, h2⟩ := h
  exact ⟨t, h1.pt, h2⟩
theorem sw_and1 {f : M Bool} (ha : ST X W a f) : SW X W (.BoolOp .And [a] pos) f := by
  obtain ⟨t, h1, h2⟩ := ha
  exact ⟨t, pw_and1 h1, h2⟩
theorem sw_or1 {f : M Bool} (ha : ST X W a f) : SW X W (.BoolOp .Or [a] pos) f := by
  obtain ⟨t, h1, h2⟩ := ha
  exact ⟨t, pw_or1 h1, h2⟩
theorem sw_and {f h : M Bool} {rest : List Expr} (ha : ST X W a f) (hb : SW X W (.BoolOp .And (b :: rest) pos) h) : SW X W (.BoolOp .And (a :: b :: rest) pos) (tAndM f h) := by
  obtain ⟨t, a1, a2⟩ := ha
  obtain ⟨u, b1, b2⟩ := hb
  refine ⟨_, pw_and a1 b1, fun g I F s σ H Q x hq => a2 g I F s σ H _ x ?_⟩
  unfold tAndM at hq
  cases e : f s with
  | stuck => rw [e] at hq; exact hq
  | ex c s1 => rw [e] at hq; exact hq
  | ok d s1 =>
    rw [e, bnd_ok] at hq
    intro I1 F1 H1 x1
    cases d with
    | true => rw [if_pos rfl] at hq ⊢; exact b2 g I1 F1 s1 σ H1 Q x1 hq
    | false => rw [if_neg Bool.false_ne_true] at hq ⊢; exact hq _ _ _ x1
theorem sw_or {f h : M Bool} {rest : List Expr} (ha : ST X W a f) (hb : SW X W (.BoolOp .Or (b :: rest) pos) h) : SW X W (.BoolOp .Or (a :: b :: rest) pos) (tOrM f h) := by
  obtain ⟨t, a1, a2⟩ := ha
  obtain ⟨u, b1, b2⟩ := hb
  refine ⟨_, pw_or a1 b1, fun g I F s σ H Q x hq => a2 g I F s σ H _ x ?_⟩
  unfold tOrM at hq
  cases e : f s with
  | stuck => rw [e] at hq; exact hq
  | ex c s1 => rw [e] at hq; exact hq
  | ok d s1 =>
    rw [e, bnd_ok] at hq
    intro I1 F1 H1 x1
    cases d with
    | false => rw [if_neg Bool.false_ne_true] at hq ⊢; exact b2 g I1 F1 s1 σ H1 Q x1 hq
    | true => rw [if_pos rfl] at hq ⊢; exact hq _ _ _ x1
/-- and, or, not as values of truth -/
def eAnd (f h : M D) : M D := fun s => (f s).bnd fun d s => match d with
  | .bl true => h s
  | .bl false => .ok (.bl false) s
  | _ => .stuck
def eOr (f h : M D) : M D := fun s => (f s).bnd fun d s => match d with
  | .bl false => h s
  | .bl true => .ok (.bl true) s
  | _ => .stuck
def eNot (f : M D) : M D := fun s => (f s).bnd fun d s => match d with
  | .bl b => .ok (.bl (!b)) s
  | _ => .stuck
theorem se_one {f : M D} {o : BoolOp} (ha : SE X W a f) : SE X W (.BoolOp o [a] pos) f := by
  obtain ⟨t, h1, h2⟩ := ha
  exact ⟨t, pe_one h1, h2⟩
theorem se_and {f h : M D} {rest : List Expr} (ha : SE X W a f) (hb : SE X W (.BoolOp .And (b :: rest) pos) h) : SE X W (.BoolOp .And (a :: b :: rest) pos) (eAnd f h) := by
  obtain ⟨t, a1, a2⟩ := ha
  obtain ⟨u, b1, b2⟩ := hb
  refine ⟨_, pe_and a1 b1, fun g I F s σ H Q x hq => a2 g I F s σ H _ x ?_⟩
  unfold eAnd at hq
  cases e : f s with
  | stuck => rw [e] at hq; exact hq
  | ex c s1 => rw [e] at hq; exact hq
  | ok d s1 =>
    rw [e, bnd_ok] at hq
    intro v I1 F1 H1 x1 r1
    cases r1 with
    | bl b =>
      cases b with
      | true => refine ⟨true, rfl, ?_⟩; rw [if_pos rfl]; exact b2 g I1 F1 s1 σ H1 Q x1 hq
      | false => refine ⟨false, rfl, ?_⟩; rw [if_neg Bool.false_ne_true]; exact hq _ _ _ _ x1 (.bl false)
    | _ => exact hq.elim
theorem se_or {f h : M D} {rest : List Expr} (ha : SE X W a f) (hb : SE X W (.BoolOp .Or (b :: rest) pos) h) : SE X W (.BoolOp .Or (a :: b :: rest) pos) (eOr f h) := by
  obtain ⟨t, a1, a2⟩ := ha
  obtain ⟨u, b1, b2⟩ := hb
  refine ⟨_, pe_or a1 b1, fun g I F s σ H Q x hq => a2 g I F s σ H _ x ?_⟩
  unfold eOr at hq
  cases e : f s with
  | stuck => rw [e] at hq; exact hq
  | ex c s1 => rw [e] at hq; exact hq
  | ok d s1 =>
    rw [e, bnd_ok] at hq
    intro v I1 F1 H1 x1 r1
    cases r1 with
    | bl b =>
      cases b with
      | false => refine ⟨false, rfl, ?_⟩; rw [if_neg Bool.false_ne_true]; exact b2 g I1 F1 s1 σ H1 Q x1 hq
      | true => refine ⟨true, rfl, ?_⟩; rw [if_pos rfl]; exact hq _ _ _ _ x1 (.bl true)
    | _ => exact hq.elim
theorem se_not {f : M D} (ha : SE X W a f) : SE X W (.UnaryOp .Not a pos) (eNot f) := by
  obtain ⟨t, a1, a2⟩ := ha
  refine ⟨_, pe_not a1, fun g I F s σ H Q x hq => a2 g I F s σ H _ x ?_⟩
  unfold eNot at hq
  cases e : f s with
  | stuck => rw [e] at hq; exact hq
  | ex c s1 => rw [e] at hq; exact hq
  | ok d s1 =>
    rw [e, bnd_ok] at hq
    intro v I1 F1 H1 x1 r1
    cases r1 with
    | bl b => exact ⟨b, rfl, hq _ _ _ _ x1 (.bl _)⟩
    | _ => exact hq.elim
/-- a if c else b -/
def eIf (c : M Bool) (f h : M D) : M D := fun s => (c s).bnd fun b s => if b = true then f s else h s
theorem se_if {f h : M D} {k : M Bool} (hc : ST X W c k) (ha : SE X W a f) (hb : SE X W b h) : SE X W (.IfExp c a b pos) (eIf k f h) := by
  obtain ⟨tc, c1, c2⟩ := hc
  obtain ⟨t, a1, a2⟩ := ha
  obtain ⟨u, b1, b2⟩ := hb
  refine ⟨_, pe_ifExp c1 a1 b1, fun g I F s σ H Q x hq => c2 g I F s σ H _ x ?_⟩
  unfold eIf at hq
  cases e : k s with
  | stuck => rw [e] at hq; exact hq
  | ex c s1 => rw [e] at hq; exact hq
  | ok d s1 =>
    rw [e, bnd_ok] at hq
    intro I1 F1 H1 x1
    cases d with
    | true => rw [if_pos rfl] at hq ⊢; exact a2 g I1 F1 s1 σ H1 Q x1 hq
    | false => rw [if_neg Bool.false_ne_true] at hq ⊢; exact b2 g I1 F1 s1 σ H1 Q x1 hq
end
end Fw
namespace Fw
open PySem L2

/-! ### argument lists -/
section
variable {X : Cx} {W : WX} {e : Expr} {es : List Expr} {pos : Pos}
def aNil : M (List D) := fun s => .ok [] s
def aCons (f : M D) (h : M (List D)) : M (List D) := fun s => (f s).bnd fun d s => (h s).bnd fun ds s => .ok (d :: ds) s
theorem sa_nil : SA X W [] aNil := ⟨_, pa_nil, fun g I F s σ H Q x hq => hq _ _ _ _ x .nil⟩
theorem sa_cons {f : M D} {h : M (List D)} (ha : SE X W e f) (hr : SA X W es h) (hs : starEach (e :: es) X.env = (false, eval e X.env) :: starEach es X.env := by rfl) : SA X W (e :: es) (aCons f h) := by
  obtain ⟨t, a1, a2⟩ := ha
  obtain ⟨u, b1, b2⟩ := hr
  refine ⟨_, pa_cons a1 b1 hs, fun g I F s σ H Q x hq => a2 g I F s σ H _ x ?_⟩
  unfold aCons at hq
  cases e1 : f s with
  | stuck => rw [e1] at hq; exact hq
  | ex c s1 => rw [e1] at hq; exact hq
  | ok d s1 =>
    rw [e1, bnd_ok] at hq
    intro v I1 F1 H1 x1 r1
    refine b2 (g.at I1 F1) I1 F1 s1 σ H1 _ x1.here ?_
    cases e2 : h s1 with
    | stuck => rw [e2] at hq; exact hq
    | ex c s2 => rw [e2] at hq; exact fun I F H u x2 hu => hq _ _ _ _ (x1.back x2) hu
    | ok ds s2 =>
      rw [e2, bnd_ok] at hq
      intro vs I2 F2 H2 x2 r2
      exact hq _ _ _ _ (x1.back x2) (.cons (r1.later x2) r2)

/-! ### displays -/
def eTup (h : M (List D)) : M D := fun s => (h s).bnd fun ds s => if ds.length ≤ sizeLine then .ok (.tup ds) s else .stuck
theorem se_tup {h : M (List D)} {k : Nat} (ha : SA X W es h) : SE X W (.Tuple es k pos) (eTup h) := by
  obtain ⟨t, a1, a2⟩ := ha
  refine ⟨_, pe_tup a1, fun g I F s σ H Q x hq => a2 g I F s σ H _ x ?_⟩
  unfold eTup at hq
  cases e1 : h s with
  | stuck => rw [e1] at hq; exact hq
  | ex c s1 => rw [e1] at hq; exact hq
  | ok ds s1 =>
    rw [e1, bnd_ok] at hq
    intro vs I1 F1 H1 x1 r1
    by_cases hl : ds.length ≤ sizeLine
    · rw [if_pos hl] at hq
      refine ⟨by rw [r1.length]; exact hl, fun p hp => ?_⟩
      obtain ⟨x2, le⟩ := x1.alloc (o := .tup vs) hp
      exact hq _ _ _ _ x2 (.tup (TupAt.of upd_same) (RepL.mono le (List.prefix_refl _) _ _ r1))
    · rw [if_neg hl] at hq
      exact hq.elim
def fLst (h : M (List D)) : M Ob := fun s => (h s).bnd fun ds s => if ds.length ≤ sizeLine then .ok (.lst ds) s else .stuck
theorem sf_lst {h : M (List D)} (ha : SA X W es h) : SF X W (.List es pos) (fLst h) := by
  obtain ⟨t, a1, a2⟩ := ha
  refine ⟨_, pe_lst a1, fun g I F s σ H Q x hq => a2 g I F s σ H _ x ?_⟩
  unfold fLst at hq
  cases e1 : h s with
  | stuck => rw [e1] at hq; exact hq
  | ex c s1 => rw [e1] at hq; exact hq
  | ok ds s1 =>
    rw [e1, bnd_ok] at hq
    intro vs I1 F1 H1 x1 r1
    by_cases hl : ds.length ≤ sizeLine
    · rw [if_pos hl] at hq
      exact ⟨by rw [r1.length]; exact hl, fun p hp => hq _ _ _ _ _ x1 hp (.lst r1)⟩
    · rw [if_neg hl] at hq
      exact hq.elim
/-- a new object as a value that nobody changes any more -/
def eFz (f : M Ob) : M D := fun s => (f s).bnd fun b s => match b.toD with
  | some d => .ok d s
  | none => .stuck
theorem se_fz {f : M Ob} (h : SF X W e f) : SE X W e (eFz f) := by
  obtain ⟨t, a1, a2⟩ := h
  refine ⟨t, a1, fun g I F s σ H Q x hq => a2 g I F s σ H Q x ?_⟩
  unfold eFz at hq
  cases e1 : f s with
  | stuck => rw [e1] at hq; exact hq
  | ex c s1 => rw [e1] at hq; exact hq
  | ok b s1 =>
    rw [e1, bnd_ok] at hq
    intro I1 F1 H1 p h x1 hp r
    cases e2 : b.toD with
    | none => rw [e2] at hq; exact hq.elim
    | some d =>
      rw [e2] at hq
      obtain ⟨x2, le⟩ := x1.alloc (o := h) hp
      exact hq _ _ _ _ x2 ((r.mono le (List.prefix_refl _)).toRep e2 upd_same)
end

/-! ### the defs of the text -/
inductive POut where
  | ok (d : D) | ex (c : Str) | stuck
inductive FOut where
  | ok (d : D) (st : List Ob) | ex (c : Str) (st : List Ob) | stuck
/-- what a callee may not touch -/
def gh0 (I : List Addr) (F H : Hp) : Gh := ⟨fun b => if F b = none ∧ b ∉ I then H b else none, F, I⟩
theorem gh0_some {I : List Addr} {F H : Hp} {b : Addr} {o : HO} (e : (gh0 I F H).B b = some o) : F b = none ∧ H b = some o ∧ b ∉ I := by
  have e' : (if F b = none ∧ b ∉ I then H b else none) = some o := e
  by_cases h : F b = none ∧ b ∉ I
  · rw [if_pos h] at e'
    exact ⟨h.1, e', h.2⟩
  · rw [if_neg h] at e'
    cases e'
theorem gh0_mk {I : List Addr} {F H : Hp} {b : Addr} {o : HO} (h1 : F b = none) (h2 : H b = some o) (h3 : b ∉ I) : (gh0 I F H).B b = some o := by
  show (if F b = none ∧ b ∉ I then H b else none) = some o
  rw [if_pos ⟨h1, h3⟩]
  exact h2
theorem gh0_none {I : List Addr} {F H : Hp} {b : Addr} (h : b ∈ I) : (gh0 I F H).B b = none := by
  show (if F b = none ∧ b ∉ I then H b else none) = none
  rw [if_neg (fun q => q.2 h)]
/-- a callee's promise: pure data in, pure data out -/
def spP (K : PySem.W.Frag) (mg : Str → Option Value) (f : List D → POut) : Sp := fun vs H Q E => ∃ F ds, Same F H ∧ RepL K [] F vs ds ∧ match f ds with
  | .ok d => ∀ v F' H', Same F' H' → Le F F' → (∀ b o, F b = none → H b = some o → F' b = none ∧ H' b = some o) → Rep K [] F' v d → Q v H'
  | .ex c => ∀ F' H' u, Same F' H' → Le F F' → (∀ b o, F b = none → H b = some o → F' b = none ∧ H' b = some o) → mg c = some u → E u none H'
  | .stuck => False
/-- a callee's promise over the store -/
def spS (K : PySem.W.Frag) (mg : Str → Option Value) (f : List D → List Ob → FOut) : Sp := fun vs H Q E => ∃ I F ds st, Sim K (gh0 I F H) I F ⟨[], st⟩ [] H ∧ RepL K I F vs ds ∧ match f ds st with
  | .ok d st' => ∀ v I' F' H', Sim K (gh0 I F H) I' F' ⟨[], st'⟩ [] H' → Rep K I' F' v d → Q v H'
  | .ex c st' => ∀ I' F' H' u, Sim K (gh0 I F H) I' F' ⟨[], st'⟩ [] H' → mg c = some u → E u none H'
  | .stuck => False

/-- the slots at a def's entry -/
def slots (N : Nat) (ds : List D) : List Slot := ds.map .v ++ List.replicate (N - ds.length) .un
theorem sls_args {K : PySem.W.Frag} {I : List Addr} {F H : Hp} : ∀ {vs : List V} {ds : List D} {ss : List Slot} {xs : St}, RepL K I F vs ds → SlsR K I F H ss xs [] → SlsR K I F H (ds.map .v ++ ss) (vs.map some ++ xs) []
  | _, _, _, _, .nil, h => h
  | _, _, _, _, .cons r t, h => (SlsR.cons (A := []) (.v r) (sls_args t h) : SlsR K I F H _ _ ([] ++ []))
theorem sls_un {K : PySem.W.Frag} {I : List Addr} {F H : Hp} : ∀ n : Nat, SlsR K I F H (List.replicate n .un) (List.replicate n none) []
  | 0 => .nil
  | n + 1 => (SlsR.cons (A := []) .un (sls_un n) : SlsR K I F H _ _ ([] ++ []))
theorem Sim.enter {K : PySem.W.Frag} {g : Gh} {I : List Addr} {F H : Hp} {st : List Ob} {vs : List V} {ds : List D} {N : List Str} (x : Sim K g I F ⟨[], st⟩ [] H) (r : RepL K I F vs ds) : Sim K g I F ⟨slots N.length ds, st⟩ (L2.start N vs) H := by
  obtain ⟨A, h1, h2, h3⟩ := x.sl
  cases h1
  refine ⟨x.sub, ⟨[], ?_, h2, h3⟩, x.st, x.base, x.mono, x.pre⟩
  unfold slots L2.start
  rw [← r.length]
  exact sls_args r (sls_un _)
theorem Sim.leave {K : PySem.W.Frag} {g : Gh} {I : List Addr} {F H : Hp} {s : S} {σ : St} (x : Sim K g I F s σ H) : Sim K g I F ⟨[], s.st⟩ [] H := by
  obtain ⟨A, h1, h2, h3⟩ := x.sl
  refine ⟨x.sub, ⟨[], .nil, ?_, fun a ha => h3 a ?_⟩, x.st, x.base, x.mono, x.pre⟩
  · rw [List.append_nil]
    exact (List.nodup_append.mp h2).1
  · rw [List.append_nil] at ha
    exact List.mem_append_left _ ha
/-- a body's semantics as a callee's -/
def runS (N : Nat) (body : M Fl) (ds : List D) (st : List Ob) : FOut := match body ⟨slots N ds, st⟩ with
  | .ok .nx s => .ok .non s.st
  | .ok (.rt d) s => .ok d s.st
  | .ex c s => .ex c s.st
  | _ => .stuck
def runP (N : Nat) (body : M Fl) (ds : List D) : POut := if D.plainL ds = true then (match body ⟨slots N ds, []⟩ with
  | .ok .nx s => .ok .non
  | .ok (.rt d) s => if d.plain = true then .ok d else .stuck
  | .ex c s => .ex c
  | _ => .stuck) else .stuck

abbrev cxF (P : Program) (w : World) (K : PySem.W.Frag) (mg : Str → Option Value) (base : Heap) (N : List Str) (qual : Str) (sc : Scope) (f : Addr) (cdv : Value) (A : Around) (outer : List Env) (s : Shared) (H : Hp) (E : XK) : Cx := cxOf (L2.CX P w) P w K mg base N qual sc f cdv A outer s H E
abbrev wE (E : XK) : WX := fun c d _ H => E c d H
section
variable {P : Program} {w : World} {K : PySem.W.Frag} {mg : Str → Option Value} {base : Heap}
theorem sim0 {F H : Hp} (hs : Same F H) : Sim K (gh0 [] F H) [] F ⟨[], []⟩ [] H :=
  ⟨hs, ⟨[], .nil, by simp, fun a ha => by simp at ha⟩, .nil, fun b o e => ⟨(gh0_some e).1, (gh0_some e).2.1⟩, Le.refl _, List.prefix_refl _⟩
/-- a def that raises nothing or something, over pure data -/
theorem fnP {x qual : Str} {st : Stmt} {f : Addr} {fd : FuncData} {N ps : List Str} {k : Nat} {body : M Fl} (Fu : Fun K x qual st f fd) (Sc : FnScope N ps (defScope st)) {φ : List D → POut} (hφ : ∀ ds, φ ds ≠ .stuck → ds.length = ps.length ∧ φ ds = runP N.length body ds)
    (hb : ∀ (cdv : Value) (A : Around) (outer : List Env) (s : Shared) (H : Hp) (E : XK), Room k (A.deeper (PyProof.Rows.envOfC qual (defScope st) s.heap.objs.size f cdv)) → Takes (cxF P w K mg base N qual (defScope st) f cdv A outer s H E) (wE E) →
      PassesOwn (model P w) (cxF P w K mg base N qual (defScope st) f cdv A outer s H E).A (cxF P w K mg base N qual (defScope st) f cdv A outer s H E).env (cxF P w K mg base N qual (defScope st) f cdv A outer s H E).xe →
      SB (cxF P w K mg base N qual (defScope st) f cdv A outer s H E) (wE E) (defBody st) body) : FnOk P w K mg base (L2.CX P w) (k + 1) f fd ps (spP K mg φ) := by
  have len : ∀ vs H Q E, spP K mg φ vs H Q E → vs.length = ps.length := fun vs H Q E h => by
    obtain ⟨F, ds, hs, hr, hq⟩ := h
    rw [hr.length]
    refine (hφ ds fun e => ?_).1
    rw [e] at hq
    exact hq
  refine Fu.okX Sc len fun cdv A outer s H vs Q E hr h => ?_
  obtain ⟨F, ds, hs, hrep, hq⟩ := h
  have ne : φ ds ≠ .stuck := fun e => by rw [e] at hq; exact hq
  rw [(hφ ds ne).2] at hq ne
  obtain ⟨t, h1, h2⟩ := hb cdv A outer s H E hr (takes_of (X := cxF P w K mg base N qual (defScope st) f cdv A outer s H E) rfl rfl rfl rfl) (passes_of (X := cxF P w K mg base N qual (defScope st) f cdv A outer s H E) rfl)
  refine ⟨t, h1, ?_⟩
  refine h2 (gh0 [] F H) [] F ⟨slots N.length ds, []⟩ (L2.start N vs) H _ ((sim0 hs).enter hrep) ?_
  have out : ∀ {I' F' H' s'} {σ' : St}, Sim K (gh0 [] F H) I' F' s' σ' H' → Same F' H' ∧ Le F F' ∧ (∀ b o, F b = none → H b = some o → F' b = none ∧ H' b = some o) := fun x => ⟨x.sub, x.mono, fun b o e1 e2 => x.base b o (gh0_mk e1 e2 (by simp))⟩
  unfold runP at hq ne
  by_cases hpl : D.plainL ds = true
  · rw [if_pos hpl] at hq
    cases e : body ⟨slots N.length ds, []⟩ with
    | stuck => rw [e] at hq; exact hq
    | ex c s' =>
      rw [e] at hq
      intro I' F' σ' H' u x hu
      obtain ⟨o1, o2, o3⟩ := out x
      exact hq F' H' u o1 o2 o3 hu
    | ok fl s' =>
      rw [e] at hq
      cases fl with
      | bk => exact hq.elim
      | ct => exact hq.elim
      | nx =>
        intro I' F' σ' H' x
        obtain ⟨o1, o2, o3⟩ := out x
        exact hq _ F' H' o1 o2 o3 .non
      | rt d =>
        intro v I' F' σ' H' x r
        obtain ⟨o1, o2, o3⟩ := out x
        by_cases hd : d.plain = true
        · simp only [hd, if_true] at hq
          exact hq v F' H' o1 o2 o3 (Rep.swap d v hd r)
        · simp only [hd] at hq
          exact hq.elim
  · rw [if_neg hpl] at hq
    exact hq.elim
/-- a def over the store -/
theorem fnS {x qual : Str} {st : Stmt} {f : Addr} {fd : FuncData} {N ps : List Str} {k : Nat} {body : M Fl} (Fu : Fun K x qual st f fd) (Sc : FnScope N ps (defScope st)) {φ : List D → List Ob → FOut} (hφ : ∀ ds st, φ ds st ≠ .stuck → ds.length = ps.length ∧ φ ds st = runS N.length body ds st)
    (hb : ∀ (cdv : Value) (A : Around) (outer : List Env) (s : Shared) (H : Hp) (E : XK), Room k (A.deeper (PyProof.Rows.envOfC qual (defScope st) s.heap.objs.size f cdv)) → Takes (cxF P w K mg base N qual (defScope st) f cdv A outer s H E) (wE E) →
      PassesOwn (model P w) (cxF P w K mg base N qual (defScope st) f cdv A outer s H E).A (cxF P w K mg base N qual (defScope st) f cdv A outer s H E).env (cxF P w K mg base N qual (defScope st) f cdv A outer s H E).xe →
      SB (cxF P w K mg base N qual (defScope st) f cdv A outer s H E) (wE E) (defBody st) body) : FnOk P w K mg base (L2.CX P w) (k + 1) f fd ps (spS K mg φ) := by
  have len : ∀ vs H Q E, spS K mg φ vs H Q E → vs.length = ps.length := fun vs H Q E h => by
    obtain ⟨I, F, ds, st, hs, hr, hq⟩ := h
    rw [hr.length]
    refine (hφ ds st fun e => ?_).1
    rw [e] at hq
    exact hq
  refine Fu.okX Sc len fun cdv A outer s H vs Q E hr h => ?_
  obtain ⟨I, F, ds, st0, hs, hrep, hq⟩ := h
  have ne : φ ds st0 ≠ .stuck := fun e => by rw [e] at hq; exact hq
  rw [(hφ ds st0 ne).2] at hq ne
  obtain ⟨t, h1, h2⟩ := hb cdv A outer s H E hr (takes_of (X := cxF P w K mg base N qual (defScope st) f cdv A outer s H E) rfl rfl rfl rfl) (passes_of (X := cxF P w K mg base N qual (defScope st) f cdv A outer s H E) rfl)
  refine ⟨t, h1, ?_⟩
  refine h2 (gh0 I F H) I F ⟨slots N.length ds, st0⟩ (L2.start N vs) H _ (hs.enter hrep) ?_
  unfold runS at hq ne
  cases e : body ⟨slots N.length ds, st0⟩ with
  | stuck => rw [e] at hq; exact hq
  | ex c s' =>
    rw [e] at hq
    intro I' F' σ' H' u x hu
    exact hq I' F' H' u x.leave hu
  | ok fl s' =>
    rw [e] at hq
    cases fl with
    | bk => exact hq.elim
    | ct => exact hq.elim
    | nx => exact fun I' F' σ' H' x => hq _ I' F' H' x.leave .non
    | rt d => exact fun v I' F' σ' H' x r => hq v I' F' H' x.leave r
end
end Fw
namespace Fw
open PySem L2

structure DP (P : Program) (w : World) (K : PySem.W.Frag) (mg : Str → Option Value) (base : Heap) (k : Nat) (x : Str) (φ : List D → POut) : Prop where
  ex : ∃ f fd ps, FnOk P w K mg base (L2.CX P w) k f fd ps (spP K mg φ) ∧ mg x = some (.ref f) ∧ PySem.W.keepIn K (.ref f) = true ∧ Binds K fd ps []
  pl : ∀ ds, φ ds ≠ .stuck → D.plainL ds = true
structure DS (P : Program) (w : World) (K : PySem.W.Frag) (mg : Str → Option Value) (base : Heap) (k : Nat) (x : Str) (φ : List D → List Ob → FOut) : Prop where
  ex : ∃ f fd ps, FnOk P w K mg base (L2.CX P w) k f fd ps (spS K mg φ) ∧ mg x = some (.ref f) ∧ PySem.W.keepIn K (.ref f) = true ∧ Binds K fd ps []
theorem DP.mono {P : Program} {w : World} {K : PySem.W.Frag} {mg : Str → Option Value} {base : Heap} {j k : Nat} {x : Str} {φ : List D → POut} (d : DP P w K mg base j x φ) (h : j ≤ k) : DP P w K mg base k x φ := by
  obtain ⟨⟨f, fd, ps, h1, h2⟩, pl⟩ := d
  exact ⟨⟨f, fd, ps, h1.mono h, h2⟩, pl⟩
theorem DS.mono {P : Program} {w : World} {K : PySem.W.Frag} {mg : Str → Option Value} {base : Heap} {j k : Nat} {x : Str} {φ : List D → List Ob → FOut} (d : DS P w K mg base j x φ) (h : j ≤ k) : DS P w K mg base k x φ := by
  obtain ⟨⟨f, fd, ps, h1, h2⟩⟩ := d
  exact ⟨⟨f, fd, ps, h1.mono h, h2⟩⟩

def POut.lift (o : POut) : M D := fun s => match o with
  | .ok d => .ok d s
  | .ex c => .ex c s
  | .stuck => .stuck
def FOut.lift (o : FOut) (env : List Slot) : Out D := match o with
  | .ok d st => .ok d ⟨env, st⟩
  | .ex c st => .ex c ⟨env, st⟩
  | .stuck => .stuck
def eCallP (f : List D → POut) (h : M (List D)) : M D := fun s => (h s).bnd fun ds => (f ds).lift
def eCallS (f : List D → List Ob → FOut) (h : M (List D)) : M D := fun s => (h s).bnd fun ds s => (f ds s.st).lift s.env

/-- behind a callee over the store -/
theorem Sim.called {K : PySem.W.Frag} {g : Gh} {I I' : List Addr} {F F' H H' : Hp} {s : S} {σ : St} {st' : List Ob} (x : Sim K g I F s σ H) (y : Sim K (gh0 I F H) I' F' ⟨[], st'⟩ [] H') : Sim K g I' F' ⟨s.env, st'⟩ σ H' := by
  obtain ⟨A, h1, h2, h3⟩ := x.owned
  obtain ⟨ndI, ndA, dis⟩ := List.nodup_append.mp h2
  obtain ⟨A', k1, k2, k3⟩ := y.sl
  cases k1
  rw [List.append_nil] at k2 k3
  have nI : ∀ a ∈ A, a ∉ I := fun a ha hi => dis a hi a ha rfl
  have kp : ∀ a ∈ A, ∃ o, (gh0 I F H).B a = some o := fun a ha => by
    obtain ⟨_, nf, o, e⟩ := h3 a (List.mem_append_right _ ha)
    exact ⟨o, gh0_mk nf e (nI a ha)⟩
  have bs : ∀ b o, g.B b = some o → (gh0 I F H).B b = some o := fun b o e => by
    obtain ⟨q1, q2⟩ := x.base b o e
    refine gh0_mk q1 q2 fun hi => ?_
    rw [(h3 b (List.mem_append_left _ hi)).1] at e
    cases e
  refine ⟨y.sub, ⟨A, h1.keep y.mono y.pre fun a ha => ?_, ?_, fun a ha => ?_⟩, y.st, fun b o e => y.base b o (bs b o e), x.mono.trans y.mono, x.pre.trans y.pre⟩
  · obtain ⟨o, e⟩ := kp a ha
    obtain ⟨q1, q2⟩ := y.base a o e
    refine ⟨q1, fun u hu => ?_⟩
    rw [(gh0_some e).2.1] at hu
    cases hu
    exact q2
  · refine List.nodup_append.mpr ⟨k2, ndA, fun a ha b hb e => ?_⟩
    subst e
    obtain ⟨o, e⟩ := kp a hb
    rw [k3 a ha] at e
    cases e
  · rcases List.mem_append.mp ha with z | z
    · cases e : g.B a with
      | none => rfl
      | some o =>
        have := bs a o e
        rw [k3 a z] at this
        cases this
    · exact (h3 a (List.mem_append_right _ z)).1
theorem Sim.calling {K : PySem.W.Frag} {g : Gh} {I : List Addr} {F H : Hp} {s : S} {σ : St} (x : Sim K g I F s σ H) : Sim K (gh0 I F H) I F ⟨[], s.st⟩ [] H := by
  obtain ⟨A, h1, h2, h3⟩ := x.sl
  refine ⟨x.sub, ⟨[], .nil, ?_, fun a ha => ?_⟩, x.st, fun b o e => ⟨(gh0_some e).1, (gh0_some e).2.1⟩, Le.refl _, List.prefix_refl _⟩
  · rw [List.append_nil]
    exact (List.nodup_append.mp h2).1
  · rw [List.append_nil] at ha
    exact gh0_none ha

section
variable {X : Cx} {W : WX} {e : Expr} {es : List Expr} {pos p : Pos} {x : Str} {k : Nat}
theorem se_callP {φ : List D → POut} {h : M (List D)} (d : DP X.prog X.w X.K X.mg X.base k x φ) (hr : Room k X.A) (hg : Gl X x) (tk : Takes X W) (ha : SA X W (e :: es) h)
    (hdb : (x == ("__debug__" : Str)) = false := by decide) (he : starEach (e :: es) X.env = (false, eval e X.env) :: starEach es X.env := by rfl) (hpl : (backTo pos (starEach es X.env)).any (·.1) = false := by rfl) :
    SE X W (.Call (.Name x p) (e :: es) [] pos) (eCallP φ h) := by
  obtain ⟨⟨f, fd, ps, F1, hm, hk, hb⟩, pl⟩ := d
  obtain ⟨t, a1, a2⟩ := ha
  refine ⟨_, pe_callS F1 hr hg hm hk hb (fun σ => passAt tk σ) a1 hdb he hpl, fun g I F s σ H Q x hq => a2 g I F s σ H _ x ?_⟩
  unfold eCallP at hq
  cases e1 : h s with
  | stuck => rw [e1] at hq; exact hq
  | ex c s1 => rw [e1] at hq; exact hq
  | ok ds s1 =>
    rw [e1, bnd_ok] at hq
    intro vs I1 F1 H1 x1 r1
    have ne : φ ds ≠ .stuck := fun q => by rw [q] at hq; exact hq
    refine ⟨F1, ds, x1.sub, RepL.swap ds vs (pl ds ne) r1, ?_⟩
    have nx : ∀ {F' H' : Hp}, Same F' H' → Le F1 F' → (∀ b o, F1 b = none → H1 b = some o → F' b = none ∧ H' b = some o) → Sim X.K g I1 F' s1 σ H' := fun q1 q2 q3 => x1.grow q2 q1 fun b o e1 e2 => q3 b o e2 e1
    cases e2 : φ ds with
    | stuck => exact ne e2
    | ok d =>
      rw [e2] at hq
      exact fun v F' H' q1 q2 q3 r => hq v I1 F' H' (nx q1 q2 q3) (Rep.mono (Le.refl _) List.nil_prefix d v r)
    | ex c =>
      rw [e2] at hq
      exact fun F' H' u q1 q2 q3 hu => hq I1 F' H' u (nx q1 q2 q3) hu
theorem se_callS {φ : List D → List Ob → FOut} {h : M (List D)} (d : DS X.prog X.w X.K X.mg X.base k x φ) (hr : Room k X.A) (hg : Gl X x) (tk : Takes X W) (ha : SA X W (e :: es) h)
    (hdb : (x == ("__debug__" : Str)) = false := by decide) (he : starEach (e :: es) X.env = (false, eval e X.env) :: starEach es X.env := by rfl) (hpl : (backTo pos (starEach es X.env)).any (·.1) = false := by rfl) :
    SE X W (.Call (.Name x p) (e :: es) [] pos) (eCallS φ h) := by
  obtain ⟨⟨f, fd, ps, F1, hm, hk, hb⟩⟩ := d
  obtain ⟨t, a1, a2⟩ := ha
  refine ⟨_, pe_callS F1 hr hg hm hk hb (fun σ => passAt tk σ) a1 hdb he hpl, fun g I F s σ H Q x hq => a2 g I F s σ H _ x ?_⟩
  unfold eCallS at hq
  cases e1 : h s with
  | stuck => rw [e1] at hq; exact hq
  | ex c s1 => rw [e1] at hq; exact hq
  | ok ds s1 =>
    rw [e1, bnd_ok] at hq
    intro vs I1 F1 H1 x1 r1
    refine ⟨I1, F1, ds, s1.st, x1.calling, r1, ?_⟩
    cases e2 : φ ds s1.st with
    | stuck => rw [e2] at hq; exact hq
    | ok d st' =>
      rw [e2] at hq
      exact fun v I' F' H' y r => hq v I' F' H' (x1.called y) r
    | ex c st' =>
      rw [e2] at hq
      exact fun I' F' H' u y hu => hq I' F' H' u (x1.called y) hu
end

/-! ### statements -/
section
variable {X : Cx} {W : WX} {e : Expr} {es : List Expr} {pos : Pos} {st : Stmt} {rest : List Stmt}
def bNil : M Fl := fun s => .ok .nx s
def bSeq (f h : M Fl) : M Fl := fun s => (f s).bnd fun fl s => match fl with
  | .nx => h s
  | .rt d => .ok (.rt d) s
  | .bk => .ok .bk s
  | .ct => .ok .ct s
theorem sb_nil : SB X W [] bNil := ⟨_, pss_nil, fun g I F s σ H E x hq => hq _ _ _ _ x⟩
theorem sb_one {f : M Fl} (h : SS X W st f) : SB X W [st] f := by
  obtain ⟨t, a1, a2⟩ := h
  exact ⟨t, pss_one a1, a2⟩
theorem sb_cons {f h : M Fl} (ha : SS X W st f) (hb : SB X W rest h) : SB X W (st :: rest) (bSeq f h) := by
  obtain ⟨t, a1, a2⟩ := ha
  obtain ⟨u, b1, b2⟩ := hb
  refine ⟨_, pss_cons a1 b1, fun g I F s σ H E x hq => a2 g I F s σ H _ x ?_⟩
  unfold bSeq at hq
  cases e1 : f s with
  | stuck => rw [e1] at hq; exact hq
  | ex c s1 => rw [e1] at hq; exact hq
  | ok fl s1 =>
    rw [e1, bnd_ok] at hq
    cases fl with
    | nx => exact fun I1 F1 σ1 H1 x1 => b2 g I1 F1 s1 σ1 H1 E x1 hq
    | rt d => exact hq
    | bk => exact hq
    | ct => exact hq
def sPass : M Fl := fun s => .ok .nx s
theorem ss_pass : SS X W (.Pass pos) sPass := ⟨_, ps_pass, fun g I F s σ H E x hq => hq _ _ _ _ x⟩
def sRet (f : M D) : M Fl := fun s => (f s).bnd fun d s => .ok (.rt d) s
theorem ss_ret {f : M D} (h : SE X W e f) : SS X W (.Return (some e) pos) (sRet f) := by
  obtain ⟨t, a1, a2⟩ := h
  refine ⟨_, ps_ret a1, fun g I F s σ H E x hq => a2 g I F s σ H _ x ?_⟩
  unfold sRet at hq
  cases e1 : f s with
  | stuck => rw [e1] at hq; exact hq
  | ex c s1 => rw [e1] at hq; exact fun I F H u x hu => hq I F _ H u x hu
  | ok d s1 => rw [e1, bnd_ok] at hq; exact fun v I F H x r => hq v I F _ H x r
def sExpr (f : M D) : M Fl := fun s => (f s).bnd fun d s => .ok .nx s
theorem ss_expr {f : M D} (h : SE X W e f) (hs : swapsWith e none pos.line X.env = pure false := by rfl) : SS X W (.Expr e pos) (sExpr f) := by
  obtain ⟨t, a1, a2⟩ := h
  refine ⟨_, ps_expr a1 hs, fun g I F s σ H E x hq => a2 g I F s σ H _ x ?_⟩
  unfold sExpr at hq
  cases e1 : f s with
  | stuck => rw [e1] at hq; exact hq
  | ex c s1 => rw [e1] at hq; exact fun I F H u x hu => hq I F _ H u x hu
  | ok d s1 => rw [e1, bnd_ok] at hq; exact fun v I F H x r => hq I F _ H x
def sIf (c : M Bool) (f h : M Fl) : M Fl := fun s => (c s).bnd fun b s => if b = true then f s else h s
theorem ss_if {c : Expr} {a b : List Stmt} {k : M Bool} {f h : M Fl} (hc : ST X W c k) (ha : SB X W a f) (hb : SB X W b h) : SS X W (.If c a b pos) (sIf k f h) := by
  obtain ⟨tc, c1, c2⟩ := hc
  obtain ⟨t, a1, a2⟩ := ha
  obtain ⟨u, b1, b2⟩ := hb
  refine ⟨_, ps_if c1 a1 b1, fun g I F s σ H E x hq => c2 g I F s σ H _ x ?_⟩
  unfold sIf at hq
  cases e1 : k s with
  | stuck => rw [e1] at hq; exact hq
  | ex c s1 => rw [e1] at hq; exact fun I F H u x hu => hq I F _ H u x hu
  | ok d s1 =>
    rw [e1, bnd_ok] at hq
    intro I1 F1 H1 x1
    cases d with
    | true => rw [if_pos rfl] at hq ⊢; exact a2 g I1 F1 s1 σ H1 E x1 hq
    | false => rw [if_neg Bool.false_ne_true] at hq ⊢; exact b2 g I1 F1 s1 σ H1 E x1 hq

/-! ### targets -/
abbrev Tg := D → S → Option S
/-- one target takes a value -/
def SG (X : Cx) (is : List Nat) (tg : Expr) (f : Tg) : Prop := ∃ t, PG X tg t ∧ ∀ g I F s s' σ H (v : V) d Q, Sim X.K g I F s σ H → Rep X.K I F v d → f d s = some s' → (∀ I' F' σ' H', Sim X.K g I' F' s' σ' H' → wipe σ' is = wipe σ is → Q σ' H') → t v σ H Q
def SGs (X : Cx) (is : List Nat) (tg : List Expr) (f : List D → S → Option S) : Prop := ∃ t, PGs X tg t ∧ ∀ g I F s s' σ H (vs : List V) ds Q, Sim X.K g I F s σ H → RepL X.K I F vs ds → f ds s = some s' → (∀ I' F' σ' H', Sim X.K g I' F' s' σ' H' → wipe σ' is = wipe σ is → Q σ' H') → t vs σ H Q
theorem wipe_set {i : Nat} {x : Option V} : ∀ {is : List Nat} {σ : St}, i ∈ is → wipe (σ.set i x) is = wipe σ is := by
  intro is σ hi
  refine List.ext_getElem? fun j => ?_
  by_cases hj : j ∈ is
  · have h0 : ∀ τ : St, j < τ.length → (wipe τ is)[j]? = some none := fun τ hl => by
      have hl' : j < (wipe τ is).length := by rw [wipe_length]; exact hl
      cases q : (wipe τ is)[j]? with
      | none => exact absurd (List.getElem?_eq_none_iff.mp q) (by omega)
      | some y =>
        cases y with
        | none => rfl
        | some v => exact absurd hj (wipe_some q).2
    by_cases hl : j < σ.length
    · rw [h0 _ hl, h0 _ (by rw [List.length_set]; exact hl)]
    · rw [List.getElem?_eq_none (by rw [wipe_length, List.length_set]; omega), List.getElem?_eq_none (by rw [wipe_length]; omega)]
  · rw [wipe_out hj, wipe_out hj, List.getElem?_set_ne (fun e : i = j => hj (by rw [← e]; exact hi))]
def gNm (i : Nat) : Tg := fun d s => some { s with env := s.env.set i (.v d) }
theorem gNm_ok {g : Gh} {I : List Addr} {F H : Hp} {s s' : S} {σ : St} {K : PySem.W.Frag} {i : Nat} {v : V} {d : D} (x : Sim K g I F s σ H) (r : Rep K I F v d) (e : gNm i d s = some s') : Sim K g I F s' (σ.set i (some v)) H := by
  cases e
  exact x.set r
theorem sg_name {i : Nat} {is : List Nat} {tg : Expr} (h : PG X tg (gName i)) (hi : i ∈ is) : SG X is tg (gNm i) := ⟨_, h, fun g I F s s' σ H v d Q x r e hq => hq I F _ H (gNm_ok x r e) (wipe_set hi)⟩
def gN0 : List D → S → Option S := fun ds s => match ds with
  | [] => some s
  | _ => none
def gN1 (f : Tg) (h : List D → S → Option S) : List D → S → Option S := fun ds s => match ds with
  | d :: ds => (f d s).bind (h ds)
  | [] => none
theorem sgs_nil {is : List Nat} : SGs X is [] gN0 := by
  refine ⟨_, pgs_nil, fun g I F s s' σ H vs ds Q x r e hq => ?_⟩
  cases r with
  | nil => cases e; exact ⟨rfl, hq I F σ H x rfl⟩
  | cons _ _ => cases e
theorem sgs_cons {is : List Nat} {f : Tg} {h : List D → S → Option S} (ha : SG X is e f) (hb : SGs X is es h) (hs : (assignEach (e :: es) X.env).map (·.2) = assign e X.env :: (assignEach es X.env).map (·.2) := by rfl) : SGs X is (e :: es) (gN1 f h) := by
  obtain ⟨t, a1, a2⟩ := ha
  obtain ⟨u, b1, b2⟩ := hb
  refine ⟨_, pgs_cons a1 b1 hs, fun g I F s s' σ H vs ds Q x r e hq => ?_⟩
  cases r with
  | nil => cases e
  | @cons v vs d ds r rr =>
    have e' : (f d s).bind (h ds) = some s' := e
    cases e1 : f d s with
    | none => rw [e1] at e'; cases e'
    | some s1 =>
      rw [e1] at e'
      exact ⟨v, vs, rfl, a2 (g.at I F) I F s s1 σ H v d _ x.here r e1 fun I1 F1 σ1 H1 x1 w1 => b2 g I1 F1 s1 s' σ1 H1 vs ds Q (x.back x1) (rr.later x1) e' fun I2 F2 σ2 H2 x2 w2 => hq I2 F2 σ2 H2 x2 (w2.trans w1)⟩
def gTp (n : Nat) (f : List D → S → Option S) : Tg := fun d s => match d with
  | .tup ds => if ds.length = n then f ds s else none
  | _ => none
theorem sg_tup {is : List Nat} {k n : Nat} {f : List D → S → Option S} (hc : X.calm = true) (h : SGs X is es f) (hn : (assignEach es X.env).length = n := by rfl) (hst : (assignEach es X.env).findIdx? (·.1) = none := by rfl) : SG X is (.Tuple es k pos) (gTp n f) := by
  obtain ⟨t, a1, a2⟩ := h
  refine ⟨_, pg_tup hc a1 hn hst, fun g I F s s' σ H v d Q x r e hq => ?_⟩
  cases r with
  | @tup a vs ds q rr =>
    have e' : (if ds.length = n then f ds s else none) = some s' := e
    by_cases hl : ds.length = n
    · rw [if_pos hl] at e'
      exact ⟨a, vs, rfl, same_sqT x.sub q.sq, by rw [rr.length, hl], a2 g I F s s' σ H vs ds Q x rr e' hq⟩
    · rw [if_neg hl] at e'
      cases e'
  | _ => cases e
def gLs (n : Nat) (f : List D → S → Option S) : Tg := fun d s => match d with
  | .lst ds => if ds.length = n then f ds s else none
  | _ => none
theorem sg_lst {is : List Nat} {k n : Nat} {f : List D → S → Option S} (hc : X.calm = true) (h : SGs X is es f) (hn : (assignEach es X.env).length = n := by rfl) (hst : (assignEach es X.env).findIdx? (·.1) = none := by rfl) : SG X is (.Tuple es k pos) (gLs n f) := by
  obtain ⟨t, a1, a2⟩ := h
  refine ⟨_, pg_lst hc a1 hn hst, fun g I F s s' σ H v d Q x r e hq => ?_⟩
  cases r with
  | @lst a vs ds q rr =>
    have e' : (if ds.length = n then f ds s else none) = some s' := e
    by_cases hl : ds.length = n
    · rw [if_pos hl] at e'
      exact ⟨a, vs, rfl, same_sqL x.sub q, by rw [rr.length, hl], a2 g I F s s' σ H vs ds Q x rr e' hq⟩
    · rw [if_neg hl] at e'
      cases e'
  | _ => cases e
/-- target = value -/
def liftS (o : Option S) : Out Fl := match o with
  | some s => .ok .nx s
  | none => .stuck
def sAsg (f : M D) (t : Tg) : M Fl := fun s => (f s).bnd fun d s => liftS (t d s)
theorem asg_core {u : Tg} {g : Gh} {σ : St} {s : S} {E : Ends} {f : M D} {tu : TG} (hq : PoS X W g (sAsg f u s) E)
    (b2 : ∀ g I F s s' σ H (v : V) d Q, Sim X.K g I F s σ H → Rep X.K I F v d → u d s = some s' → (∀ I' F' σ' H', Sim X.K g I' F' s' σ' H' → Q σ' H') → tu v σ H Q) : PoE X W g σ (f s) fun v H1 => tu v σ H1 E.nx := by
  unfold sAsg at hq
  cases e1 : f s with
  | stuck => rw [e1] at hq; exact hq
  | ex c s1 => rw [e1] at hq; exact fun I F H u x hu => hq I F _ H u x hu
  | ok d s1 =>
    rw [e1, bnd_ok] at hq
    intro v I F H x r
    cases e2 : u d s1 with
    | none => rw [e2] at hq; exact hq.elim
    | some s2 => rw [e2] at hq; exact b2 g I F s1 s2 σ H v d _ x r e2 fun I F σ H x => hq I F σ H x
theorem ss_asg {is : List Nat} {f : M D} {u : Tg} {tg : Expr} (ha : SE X W e f) (hb : SG X is tg u) (hs : swapsWithSole [tg] e pos.line X.env = pure false := by rfl) (hw : swappedStores [tg] e X.env = pure none := by rfl)
    (h1 : (assignEach [tg] X.env).map (·.2) = [assign tg X.env] := by rfl) : SS X W (.Assign [tg] e pos) (sAsg f u) := by
  obtain ⟨t, a1, a2⟩ := ha
  obtain ⟨tu, b1, b2⟩ := hb
  exact ⟨_, ps_asg a1 b1 hs hw h1, fun g I F s σ H E x hq => a2 g I F s σ H _ x (asg_core hq fun g I F s s' σ H v d Q x r e hq => b2 g I F s s' σ H v d Q x r e fun I F σ H x _ => hq I F σ H x)⟩
/-- name = value -/
theorem ss_set {i : Nat} {f : M D} {tg : Expr} (hp : ∀ {te : TE}, PE X e te → PS X (.Assign [tg] e pos) (tAsg te (gName i))) (ha : SE X W e f) : SS X W (.Assign [tg] e pos) (sAsg f (gNm i)) := by
  obtain ⟨t, a1, a2⟩ := ha
  refine ⟨_, hp a1, fun g I F s σ H E x hq => a2 g I F s σ H _ x ?_⟩
  exact asg_core (tu := gName i) hq (fun g I F s s' σ H v d Q x r e hq => hq I F _ H (gNm_ok x r e))
/-- name = a new object, the name's own -/
def sOwn (i : Nat) (f : M Ob) : M Fl := fun s => (f s).bnd fun b s => if i < s.env.length then .ok .nx { s with env := s.env.set i (.own b) } else .stuck
theorem ss_own {i : Nat} {f : M Ob} {tg : Expr} (hp : ∀ {te : TE}, PE X e te → PS X (.Assign [tg] e pos) (tAsg te (gName i))) (ha : SF X W e f) : SS X W (.Assign [tg] e pos) (sOwn i f) := by
  obtain ⟨t, a1, a2⟩ := ha
  refine ⟨_, hp a1, fun g I F s σ H E x hq => a2 g I F s σ H _ x ?_⟩
  unfold sOwn at hq
  cases e1 : f s with
  | stuck => rw [e1] at hq; exact hq
  | ex c s1 => rw [e1] at hq; exact fun I F H u x hu => hq I F _ H u x hu
  | ok b s1 =>
    rw [e1, bnd_ok] at hq
    intro I F H p h x hp r
    by_cases hl : i < s1.env.length
    · rw [if_pos hl] at hq
      exact hq I F _ _ (x.setOwn hl hp r)
    · rw [if_neg hl] at hq
      exact hq.elim
/-- a new object into the store -/
def eNew (f : M Ob) : M D := fun s => (f s).bnd fun b s => .ok (.obj s.st.length) { s with st := s.st ++ [b] }
theorem se_new {f : M Ob} (ha : SF X W e f) : SE X W e (eNew f) := by
  obtain ⟨t, a1, a2⟩ := ha
  refine ⟨t, a1, fun g I F s σ H Q x hq => a2 g I F s σ H Q x ?_⟩
  unfold eNew at hq
  cases e1 : f s with
  | stuck => rw [e1] at hq; exact hq
  | ex c s1 => rw [e1] at hq; exact hq
  | ok b s1 =>
    rw [e1, bnd_ok] at hq
    intro I F H p h x hp r
    obtain ⟨x', pre, at_⟩ := x.allocSt hp r
    exact hq _ _ _ _ x' (.obj at_)
end
end Fw
namespace Fw
open PySem L2

/-! ### what is walked -/
structure WalkD (K : PySem.W.Frag) (J : It) (I0 : List Addr) (F0 : Hp) (ds : List D) : Prop where
  go : ∀ i g I F s σ H, Sim K g I F s σ H → Le F0 F → I0 <+: I → i < ds.length → J.go i H
  stop : ∀ g I F s σ H, Sim K g I F s σ H → Le F0 F → I0 <+: I → J.stop ds.length H
  yld : ∀ i g I F s σ H x H' d, Sim K g I F s σ H → Le F0 F → I0 <+: I → J.yld i H x H' → ds[i]? = some d → ∃ F', Sim K (g.at I F) I F' s σ H' ∧ Rep K I F' x d
def PoI (X : Cx) (W : WX) (g : Gh) (σ : St) (o : Out (List D)) (R : It → Hp → Prop) : Prop := match o with
  | .ok ds s => ∀ I F H J, Sim X.K g I F s σ H → WalkD X.K J I F ds → R J H
  | .ex c s => ∀ I F H u, Sim X.K g I F s σ H → X.mg c = some u → W u none σ H
  | .stuck => False
def SI (X : Cx) (W : WX) (tg it : Expr) (f : M (List D)) : Prop := ∃ t, PI X tg it t ∧ ∀ g I F s σ H R, Sim X.K g I F s σ H → PoI X W g σ (f s) R → t σ H R
theorem PI.or {X : Cx} {tg it : Expr} {t u : TI} (h : PI X tg it t) (h' : PI X tg it u) : PI X tg it (fun σ H R => t σ H R ∨ u σ H R) :=
  ⟨fun pins s σ H R I q => q.elim (fun z => h.run pins s σ H R I z) fun z => h'.run pins s σ H R I z⟩

section
variable {K : PySem.W.Frag} {g : Gh} {I : List Addr} {F H : Hp} {s : S} {σ : St}
theorem RepL.get : ∀ {vs : List V} {ds : List D} {i : Nat} {d : D}, RepL K I F vs ds → ds[i]? = some d → ∃ v, vs[i]? = some v ∧ Rep K I F v d
  | _, _, _, _, .nil, e => by simp at e
  | _, _, 0, _, .cons r _, e => by simp at e; subst e; exact ⟨_, rfl, r⟩
  | _, _, i + 1, d, .cons _ t, e => by
    obtain ⟨v, h1, h2⟩ := RepL.get (i := i) (d := d) t (by simpa using e)
    exact ⟨v, by simpa using h1, h2⟩
theorem RepL.get' : ∀ {vs : List V} {ds : List D} {i : Nat} {v : V}, RepL K I F vs ds → vs[i]? = some v → ∃ d, ds[i]? = some d ∧ Rep K I F v d
  | _, _, _, _, .nil, e => by simp at e
  | _, _, 0, _, .cons r _, e => by simp at e; subst e; exact ⟨_, rfl, r⟩
  | _, _, i + 1, d, .cons _ t, e => by
    obtain ⟨v, h1, h2⟩ := RepL.get' (i := i) (v := d) t (by simpa using e)
    exact ⟨v, by simpa using h1, h2⟩
theorem walk_tup {a : Addr} {vs : List V} {ds : List D} (q : SqT K F a vs) (r : RepL K I F vs ds) : WalkD K (Itt K a) I F ds where
  go := fun i g' I' F' s' σ' H' x le pre hi => by
    obtain ⟨v, hv, _⟩ := r.get (List.getElem?_eq_getElem hi)
    exact ⟨vs, v, same_sqT x.sub (le.sqT q), hv⟩
  stop := fun g' I' F' s' σ' H' x le pre => ⟨vs, same_sqT x.sub (le.sqT q), by rw [r.length]; exact Nat.le_refl _⟩
  yld := fun i g' I' F' s' σ' H' y H2 d x le pre hy e => by
    obtain ⟨rfl, hy⟩ := hy
    obtain ⟨v, hv, rv⟩ := r.get e
    have e' := hy vs (same_sqT x.sub (le.sqT q))
    rw [hv] at e'
    cases e'
    exact ⟨F', x.here, Rep.mono le pre _ _ rv⟩
theorem walk_lst {a : Addr} {vs : List V} {ds : List D} (q : SqL K F a vs) (r : RepL K I F vs ds) : WalkD K (Itl K a) I F ds where
  go := fun i g' I' F' s' σ' H' x le pre hi => by
    obtain ⟨v, hv, _⟩ := r.get (List.getElem?_eq_getElem hi)
    exact ⟨vs, v, same_sqL x.sub (le.sqL q), hv⟩
  stop := fun g' I' F' s' σ' H' x le pre => ⟨vs, same_sqL x.sub (le.sqL q), by rw [r.length]; exact Nat.le_refl _⟩
  yld := fun i g' I' F' s' σ' H' y H2 d x le pre hy e => by
    obtain ⟨rfl, hy⟩ := hy
    obtain ⟨v, hv, rv⟩ := r.get e
    have e' := hy vs (same_sqL x.sub (le.sqL q))
    rw [hv] at e'
    cases e'
    exact ⟨F', x.here, Rep.mono le pre _ _ rv⟩
def rangeD (lo : Int) (n : Nat) : List D := (List.range n).map fun (k : Nat) => D.int (lo + (k : Int))
theorem rangeD_len (lo : Int) (n : Nat) : (rangeD lo n).length = n := by simp [rangeD]
theorem walk_rng {lo : Int} {n : Nat} : WalkD K (Itr lo n) I F (rangeD lo n) where
  go := fun i _ _ _ _ _ _ _ _ _ hi => by rw [rangeD_len] at hi; exact hi
  stop := fun _ _ _ _ _ _ _ _ _ => by rw [rangeD_len]; exact Nat.le_refl _
  yld := fun i g' I' F' s' σ' H' y H2 d x le pre hy e => by
    obtain ⟨rfl, rfl⟩ := hy
    unfold rangeD at e
    rw [List.getElem?_map] at e
    cases q : (List.range n)[i]? with
    | none => rw [q] at e; cases e
    | some k =>
      rw [q] at e
      cases e
      have : k = i := by
        obtain ⟨h1, h2⟩ := List.getElem?_eq_some_iff.mp q
        rw [List.getElem_range] at h2
        exact h2.symm
      subst this
      exact ⟨F', x.here, .int _⟩
end
section
variable {X : Cx} {W : WX} {tg e a b : Expr} {pos p : Pos}
def signs (x : Str) : List D := x.cps.toList.map fun c => .str ⟨#[c]⟩
def iSeq (f : M D) : M (List D) := fun s => (f s).bnd fun d s => match d with
  | .tup ds => .ok ds s
  | .lst ds => .ok ds s
  | .str x => .ok (signs x) s
  | _ => .stuck
theorem walk_str {K : PySem.W.Frag} {I0 : List Addr} {F0 : Hp} {x : Str} : WalkD K (Its x) I0 F0 (signs x) where
  go := fun i g I F s σ H y _ _ hi => by
    have hi' : i < x.cps.toList.length := by simpa [signs] using hi
    show i < x.cps.size
    simpa using hi'
  stop := fun g I F s σ H y _ _ => by
    show x.cps.size ≤ (signs x).length
    simp [signs]
  yld := fun i g I F s σ H y H' d z _ _ hy e => by
    unfold signs at e
    rw [List.getElem?_map] at e
    cases q : x.cps.toList[i]? with
    | none => rw [q] at e; cases e
    | some c =>
      rw [q] at e
      cases e
      obtain ⟨rfl, c', hc, rfl⟩ := hy
      have : c' = c := by
        have h2 : x.cps[i]? = some c := by simpa using q
        rw [h2] at hc
        exact (Option.some.inj hc).symm
      subst this
      exact ⟨F, z.here, .str _⟩
theorem si_seq {f : M D} (h : SE X W e f) : SI X W tg e (iSeq f) := by
  obtain ⟨t, a1, a2⟩ := h
  refine ⟨_, PI.or (pi_tup a1) (PI.or (pi_list a1) (pi_str a1)), fun g I F s σ H R x hq => ?_⟩
  unfold iSeq at hq
  cases e1 : f s with
  | stuck => rw [e1] at hq; exact hq.elim
  | ex c s1 => rw [e1] at hq; exact .inl (a2 g I F s σ H _ x (by rw [e1]; exact hq))
  | ok d s1 =>
    rw [e1, bnd_ok] at hq
    cases d with
    | tup ds =>
      refine .inl (a2 g I F s σ H _ x ?_)
      rw [e1]
      intro v I1 F1 H1 x1 r1
      cases r1 with
      | tup q r => exact ⟨_, rfl, ⟨_, same_sqT x1.sub q.sq⟩, hq _ _ _ _ x1 (walk_tup q.sq r)⟩
    | lst ds =>
      refine .inr (.inl (a2 g I F s σ H _ x ?_))
      rw [e1]
      intro v I1 F1 H1 x1 r1
      cases r1 with
      | lst q r => exact ⟨_, rfl, ⟨_, same_sqL x1.sub q⟩, hq _ _ _ _ x1 (walk_lst q r)⟩
    | str z =>
      refine .inr (.inr (a2 g I F s σ H _ x ?_))
      rw [e1]
      intro v I1 F1 H1 x1 r1
      cases r1 with
      | str z => exact ⟨_, rfl, hq _ _ _ _ x1 walk_str⟩
    | non => exact hq.elim
    | bl _ => exact hq.elim
    | int _ => exact hq.elim
    | dct _ => exact hq.elim
    | obj _ => exact hq.elim
    | nm _ => exact hq.elim
def iRange1 (f : M (List D)) : M (List D) := fun s => (f s).bnd fun ds s => match ds with
  | [.int j] => if -(2 ^ 62) ≤ j ∧ j < 2 ^ 62 then .ok (rangeD 0 j.toNat) s else .stuck
  | _ => .stuck
theorem si_range1 {f : M (List D)} (hg : Gl X "range") (hm : X.mg "range" = none) (ha : SA X W [a] f) (hs : starEach [a] X.env = [(false, eval a X.env)] := by rfl) : SI X W tg (.Call (.Name "range" p) [a] [] pos) (iRange1 f) := by
  obtain ⟨t, a1, a2⟩ := ha
  refine ⟨_, pi_range1 hg hm a1 hs, fun g I F s σ H R x hq => a2 g I F s σ H _ x ?_⟩
  unfold iRange1 at hq
  cases e1 : f s with
  | stuck => rw [e1] at hq; exact hq
  | ex c s1 => rw [e1] at hq; exact hq
  | ok ds s1 =>
    rw [e1, bnd_ok] at hq
    intro vs I1 F1 H1 x1 r1
    cases r1 with
    | nil => exact hq.elim
    | cons r rr =>
      cases r with
      | int j =>
        cases rr with
        | nil =>
          by_cases hj : -(2 ^ 62) ≤ j ∧ j < 2 ^ 62
          · have hq' : PoI X W g σ (if -(2 ^ 62) ≤ j ∧ j < 2 ^ 62 then .ok (rangeD 0 j.toNat) s1 else .stuck) R := hq
            rw [if_pos hj] at hq'
            exact ⟨j, rfl, hj.1, hj.2, hq' _ _ _ _ x1 walk_rng⟩
          · have hq' : PoI X W g σ (if -(2 ^ 62) ≤ j ∧ j < 2 ^ 62 then .ok (rangeD 0 j.toNat) s1 else .stuck) R := hq
            rw [if_neg hj] at hq'
            exact hq'.elim
        | cons _ _ => exact hq.elim
      | _ => exact hq.elim
def iRange2 (f : M (List D)) : M (List D) := fun s => (f s).bnd fun ds s => match ds with
  | [.int i, .int j] => if (-(2 ^ 62) ≤ i ∧ i < 2 ^ 62 ∧ -(2 ^ 62) ≤ j ∧ j < 2 ^ 62) then .ok (rangeD i (j - i).toNat) s else .stuck
  | _ => .stuck
theorem si_range2 {f : M (List D)} (hg : Gl X "range") (hm : X.mg "range" = none) (ha : SA X W [a, b] f) (hs : starEach [a, b] X.env = [(false, eval a X.env), (false, eval b X.env)] := by rfl) (hs2 : starEach [b] X.env = [(false, eval b X.env)] := by rfl) : SI X W tg (.Call (.Name "range" p) [a, b] [] pos) (iRange2 f) := by
  obtain ⟨t, a1, a2⟩ := ha
  refine ⟨_, pi_range2 hg hm a1 hs hs2, fun g I F s σ H R x hq => a2 g I F s σ H _ x ?_⟩
  unfold iRange2 at hq
  cases e1 : f s with
  | stuck => rw [e1] at hq; exact hq
  | ex c s1 => rw [e1] at hq; exact hq
  | ok ds s1 =>
    rw [e1, bnd_ok] at hq
    intro vs I1 F1 H1 x1 r1
    cases r1 with
    | nil => exact hq.elim
    | cons r rr =>
      cases r with
      | int i =>
        cases rr with
        | nil => exact hq.elim
        | cons r' rr' =>
          cases r' with
          | int j =>
            cases rr' with
            | cons _ _ => exact hq.elim
            | nil =>
              have hq' : PoI X W g σ (if (-(2 ^ 62) ≤ i ∧ i < 2 ^ 62 ∧ -(2 ^ 62) ≤ j ∧ j < 2 ^ 62) then .ok (rangeD i (j - i).toNat) s1 else .stuck) R := hq
              by_cases hj : (-(2 ^ 62) ≤ i ∧ i < 2 ^ 62 ∧ -(2 ^ 62) ≤ j ∧ j < 2 ^ 62)
              · rw [if_pos hj] at hq'
                exact ⟨i, j, rfl, hj, hq' _ _ _ _ x1 walk_rng⟩
              · rw [if_neg hj] at hq'
                exact hq'.elim
          | _ => exact hq.elim
      | _ => cases rr <;> exact hq.elim

/-! ### for -/
def forL (t : Tg) (b : M Fl) : List D → M Fl
  | [], s => .ok .nx s
  | d :: ds, s => match t d s with
    | none => .stuck
    | some s1 => (b s1).bnd fun fl s2 => match fl with
      | .nx => forL t b ds s2
      | .ct => forL t b ds s2
      | .bk => .ok .nx s2
      | .rt d => .ok (.rt d) s2
def sFor (it : M (List D)) (t : Tg) (b : M Fl) : M Fl := fun s => (it s).bnd fun ds => forL t b ds
theorem ss_for {it : Expr} {body : List Stmt} {f : M (List D)} {t : Tg} {b : M Fl} {is : List Nat} (hp : PassesOwn (model X.prog X.w) X.A X.env X.xe) (hc : X.calm = true) (hi : SI X W tg it f) (hg : SG X is tg t) (hb : SB X W body b)
    (hs : ∀ x, foldedSetIterable it X.env x = pure x := by intro _; rfl) : SS X W (.For tg it body [] pos) (sFor f t b) := by
  obtain ⟨wi, i1, i2⟩ := hi
  obtain ⟨tg', g1, g2⟩ := hg
  obtain ⟨tb, b1, b2⟩ := hb
  refine ⟨_, ps_for hp hc i1 g1 b1 hs, fun g I F s σ H E x hq => i2 g I F s σ H _ x ?_⟩
  unfold sFor at hq
  cases e1 : f s with
  | stuck => rw [e1] at hq; exact hq
  | ex c s1 => rw [e1] at hq; exact fun I F H u x hu => hq I F _ H u x hu
  | ok ds s1 =>
    rw [e1, bnd_ok] at hq
    intro I0 F0 H0 J x0 wk
    refine ⟨fun i m σ H => m = ds.length - i ∧ i ≤ ds.length ∧ ∃ I F s, Sim X.K (g.at I0 F0) I F s σ H ∧ PoS X W g (forL t b (ds.drop i) s) E, ⟨ds.length, by simp, Nat.zero_le _, I0, F0, s1, x0.here, by simpa using hq⟩, ?_⟩
    rintro i m σ1 H1 ⟨rfl, hi, I1, F1, s2, x1, q1⟩
    by_cases hlt : i < ds.length
    · refine .inr ⟨wk.go i _ I1 F1 s2 σ1 H1 x1 x1.mono x1.pre hlt, fun σ' H' => ∃ I F s, Sim X.K (g.at I0 F0) I F s σ' H' ∧ PoS X W g (forL t b (ds.drop (i + 1)) s) E, fun σ' H' n' => ⟨ds.length - (i + 1), by omega, rfl, hlt, n'⟩, fun y H' hy => ?_⟩
      obtain ⟨F2, x2, r2⟩ := wk.yld i _ I1 F1 s2 σ1 H1 y H' _ x1 x1.mono x1.pre hy (List.getElem?_eq_getElem hlt)
      have x2 := x1.back x2
      rw [List.drop_eq_getElem_cons hlt] at q1
      unfold forL at q1
      cases e2 : t ds[i] s2 with
      | none => rw [e2] at q1; exact q1.elim
      | some s3 =>
        rw [e2] at q1
        refine g2 (g.at I0 F0) I1 F2 s2 s3 σ1 H' y _ _ x2 r2 e2 fun I3 F3 σ3 H3 x3 _ => ?_
        refine b2 (g.at I0 F0) I3 F3 s3 σ3 H3 _ x3 ?_
        have q1' : PoS X W g ((b s3).bnd fun fl s2 => match fl with
          | .nx => forL t b (ds.drop (i + 1)) s2
          | .ct => forL t b (ds.drop (i + 1)) s2
          | .bk => .ok .nx s2
          | .rt d => .ok (.rt d) s2) E := q1
        cases e3 : b s3 with
        | stuck => rw [e3] at q1'; exact q1'
        | ex c s4 => rw [e3] at q1'; exact fun I F σ H u x hu => q1' I F σ H u (x0.back x) hu
        | ok fl s4 =>
          rw [e3, bnd_ok] at q1'
          cases fl with
          | nx => exact fun I F σ H x => ⟨I, F, s4, x, q1'⟩
          | ct => exact fun I F σ H x => ⟨I, F, s4, x, q1'⟩
          | bk => exact fun I F σ H x => q1' I F σ H (x0.back x)
          | rt d => exact fun v I F σ H x r => q1' v I F σ H (x0.back x) r
    · have e : i = ds.length := by omega
      subst e
      rw [List.drop_length] at q1
      exact .inl ⟨wk.stop _ I1 F1 s2 σ1 H1 x1 x1.mono x1.pre, q1 I1 F1 σ1 H1 (x0.back x1)⟩

/-! ### while, by a number of turns -/
def whileN (c : M Bool) (b : M Fl) : Nat → M Fl
  | 0, _ => .stuck
  | n + 1, s => (c s).bnd fun k s1 => if k = true then (b s1).bnd fun fl s2 => match fl with
      | .nx => whileN c b n s2
      | .ct => whileN c b n s2
      | .bk => .ok .nx s2
      | .rt d => .ok (.rt d) s2
    else .ok .nx s1
theorem ss_while {c : Expr} {body : List Stmt} {k : M Bool} {b : M Fl} (n : Nat) (hp : PassesOwn (model X.prog X.w) X.A X.env X.xe) (hc : ST X W c k) (hb : SB X W body b) : SS X W (.While c body [] pos) (whileN k b n) := by
  obtain ⟨tc, c1, c2⟩ := hc
  obtain ⟨tb, b1, b2⟩ := hb
  refine ⟨_, ps_while hp c1 b1, fun g I F s σ H E x hq => ?_⟩
  refine ⟨fun m σ H => ∃ I F s, Sim X.K g I F s σ H ∧ PoS X W g (whileN k b m s) E, ⟨n, I, F, s, x, hq⟩, ?_⟩
  rintro m σ1 H1 ⟨I1, F1, s1, x1, q1⟩
  cases m with
  | zero => exact q1.elim
  | succ m =>
    refine c2 g I1 F1 s1 σ1 H1 _ x1 ?_
    unfold whileN at q1
    cases e1 : k s1 with
    | stuck => rw [e1] at q1; exact q1
    | ex c s2 => rw [e1] at q1; exact fun I F H u x hu => q1 I F _ H u x hu
    | ok d s2 =>
      rw [e1, bnd_ok] at q1
      intro I2 F2 H2 x2
      cases d with
      | false => rw [if_neg Bool.false_ne_true] at q1 ⊢; exact q1 _ _ _ _ x2
      | true =>
        rw [if_pos rfl] at q1 ⊢
        refine ⟨fun σ H => ∃ I F s, Sim X.K g I F s σ H ∧ PoS X W g (whileN k b m s) E, fun σ' H' n' => ⟨m, Nat.lt_succ_self _, n'⟩, b2 g I2 F2 s2 σ1 H2 _ x2 ?_⟩
        cases e3 : b s2 with
        | stuck => rw [e3] at q1; exact q1
        | ex c s4 => rw [e3] at q1; exact q1
        | ok fl s4 =>
          rw [e3, bnd_ok] at q1
          cases fl with
          | nx => exact fun I F σ H x => ⟨I, F, s4, x, q1⟩
          | ct => exact fun I F σ H x => ⟨I, F, s4, x, q1⟩
          | bk => exact q1
          | rt d => exact q1
end
end Fw
namespace Fw
open PySem L2

/-! ### list comprehensions -/
def wipeE (e : List Slot) : List Nat → List Slot
  | [] => e
  | i :: is => (wipeE e is).set i .un
def backE (e0 : List Slot) : List Nat → List Slot → Option (List Slot)
  | [], e => some e
  | i :: is, e => match backE e0 is e with
    | none => none
    | some e' => match e0[i]? with
      | some (.v d) => some (e'.set i (.v d))
      | some .un => some (e'.set i .un)
      | _ => none
def backS (σ0 : St) : List Nat → St → St
  | [], σ => σ
  | i :: is, σ => match σ0[i]? with
    | some y => (backS σ0 is σ).set i y
    | none => backS σ0 is σ
theorem backS_length (σ0 : St) : ∀ (is : List Nat) (σ : St), (backS σ0 is σ).length = σ.length
  | [], _ => rfl
  | i :: is, σ => by
    unfold backS
    cases σ0[i]? with
    | none => exact backS_length σ0 is σ
    | some y => simp only [List.length_set]; exact backS_length σ0 is σ
theorem backS_in (σ0 : St) {j : Nat} : ∀ (is : List Nat) (σ : St), σ.length = σ0.length → j ∈ is → (backS σ0 is σ)[j]? = σ0[j]?
  | i :: is, σ, hl, hj => by
    unfold backS
    by_cases e : i = j
    · subst e
      cases q : σ0[i]? with
      | none =>
        have : σ0.length ≤ i := List.getElem?_eq_none_iff.mp q
        exact List.getElem?_eq_none (by rw [backS_length]; omega)
      | some y =>
        have : i < σ0.length := (List.getElem?_eq_some_iff.mp q).1
        exact List.getElem?_set_self (by rw [backS_length]; omega)
    · have hj' : j ∈ is := by
        rcases List.mem_cons.mp hj with z | z
        · exact absurd z.symm e
        · exact z
      cases q : σ0[i]? with
      | none => exact backS_in σ0 is σ hl hj'
      | some y => simp only [List.getElem?_set_ne e]; exact backS_in σ0 is σ hl hj'
theorem backS_out (σ0 : St) {j : Nat} : ∀ (is : List Nat) (σ : St), j ∉ is → (backS σ0 is σ)[j]? = σ[j]?
  | [], _, _ => rfl
  | i :: is, σ, hj => by
    have h1 : i ≠ j := fun e => hj (by rw [e]; exact List.mem_cons_self)
    have h2 : j ∉ is := fun e => hj (List.mem_cons_of_mem _ e)
    unfold backS
    cases σ0[i]? with
    | none => exact backS_out σ0 is σ h2
    | some y => simp only [List.getElem?_set_ne h1]; exact backS_out σ0 is σ h2
theorem backS_wipe (σ : St) (is : List Nat) : backS σ is (wipe σ is) = σ := by
  refine List.ext_getElem? fun j => ?_
  by_cases hj : j ∈ is
  · exact backS_in σ is _ (wipe_length σ is) hj
  · rw [backS_out σ is _ hj, wipe_out hj]
section
variable {K : PySem.W.Frag} {g : Gh} {I : List Addr} {F H : Hp} {s : S} {σ : St}
theorem Sim.wiped (x : Sim K g I F s σ H) : ∀ is : List Nat, Sim K g I F { s with env := wipeE s.env is } (wipe σ is) H
  | [] => x
  | i :: is => (x.wiped is).unset
theorem Sim.backed {I0 : List Addr} {F0 H0 : Hp} {s0 : S} {σ0 : St} (x0 : Sim K g I0 F0 s0 σ0 H0) (x : Sim K (g.at I0 F0) I F s σ H) : ∀ (is : List Nat) (e : List Slot), backE s0.env is s.env = some e → Sim K (g.at I0 F0) I F { s with env := e } (backS σ0 is σ) H
  | [], e, q => by
    cases q
    exact x
  | i :: is, e, q => by
    have q' : (match backE s0.env is s.env with
      | none => none
      | some e' => match s0.env[i]? with
        | some (.v d) => some (e'.set i (.v d))
        | some .un => some (e'.set i .un)
        | _ => none) = some e := q
    cases h : backE s0.env is s.env with
    | none => rw [h] at q'; cases q'
    | some e' =>
      rw [h] at q'
      have ih := Sim.backed x0 x is e' h
      obtain ⟨A, h1, h2, h3⟩ := x0.sl
      cases h' : s0.env[i]? with
      | none => simp only [h'] at q'; cases q'
      | some c =>
        obtain ⟨y, P, Ai, Q, y1, y2, _, _⟩ := h1.split h'
        cases c with
        | un =>
          simp only [h'] at q'
          cases q'
          unfold backS
          rw [y1]
          exact ih.unset
        | v d =>
          simp only [h'] at q'
          cases q'
          cases y2 with
          | v r =>
            unfold backS
            rw [y1]
            exact ih.set (r.later x)
        | own b => simp only [h'] at q'; cases q'
/-- an object that is nobody's stands as it is -/
def Gh.with_ (g : Gh) (p : Addr) (o : HO) : Gh := ⟨upd g.B p o, g.F0, g.i0⟩
theorem Sim.guard (x : Sim K g I F s σ H) {p : Addr} {o : HO} (hp : H p = none) : Sim K (g.with_ p o) I F s σ (upd H p o) := by
  have x' := x.fresh (o := o) hp
  obtain ⟨A, h1, h2, h3⟩ := x'.sl
  obtain ⟨B, k1, k2, k3⟩ := x.owned
  have eq : ∀ {ss : List Slot} {xs : St} {A B : List Addr} {H1 H2 : Hp}, SlsR K I F H1 ss xs A → SlsR K I F H2 ss xs B → A = B := by
    intro ss xs A B H1 H2 a b
    induction a generalizing B with
    | nil => cases b; rfl
    | cons h t ih =>
      cases b with
      | cons h' t' =>
        rw [ih t']
        cases h <;> cases h' <;> rfl
  have e := eq h1 k1
  subst e
  have bp : ∀ a ∈ I ++ A, a ≠ p := fun a ha z => by
    obtain ⟨_, _, o', e⟩ := k3 a ha
    rw [z, hp] at e
    cases e
  refine ⟨x'.sub, ⟨A, h1, h2, fun a ha => ?_⟩, x'.st, fun b u e => ?_, x'.mono, x'.pre⟩
  · show upd g.B p o a = none
    rw [upd_ne (bp a ha)]
    exact h3 a ha
  · have e' : upd g.B p o b = some u := e
    by_cases hb : b = p
    · subst hb
      rw [upd_same] at e' ⊢
      exact ⟨x.sub.free hp, e'⟩
    · rw [upd_ne hb] at e'
      exact x'.base b u e'
theorem Sim.guarded {p : Addr} {o : HO} (x : Sim K (g.with_ p o) I F s σ H) : F p = none ∧ H p = some o := x.base p o upd_same
theorem Sim.reguard {p : Addr} {o o' : HO} (x : Sim K (g.with_ p o) I F s σ H) : Sim K (g.with_ p o') I F s σ (upd H p o') := by
  obtain ⟨A, h1, h2, h3⟩ := x.owned
  obtain ⟨fp, hp⟩ := x.guarded
  have bp : ∀ a ∈ I ++ A, a ≠ p := fun a ha z => by
    have e := (h3 a ha).1
    rw [z] at e
    have e' : upd g.B p o p = none := e
    rw [upd_same] at e'
    cases e'
  have kp : ∀ a ∈ I ++ A, F a = none ∧ ∀ u, H a = some u → upd H p o' a = some u := fun a ha => ⟨(h3 a ha).2.1, fun u e => by rw [upd_ne (bp a ha)]; exact e⟩
  refine ⟨fun b u e => ?_, ⟨A, h1.keep (Le.refl _) (List.prefix_refl _) fun a ha => kp a (List.mem_append_right _ ha), h2, fun a ha => ?_⟩, x.st.keep (Le.refl _) (List.prefix_refl _) fun a ha => kp a (List.mem_append_left _ ha), fun b u e => ?_, x.mono, x.pre⟩
  · rw [upd_ne (ne_of_none e fp)]
    exact x.sub _ _ e
  · show upd g.B p o' a = none
    rw [upd_ne (bp a ha)]
    have e := (h3 a ha).1
    have e' : upd g.B p o a = none := e
    rw [upd_ne (bp a ha)] at e'
    exact e'
  · have e' : upd g.B p o' b = some u := e
    by_cases hb : b = p
    · subst hb
      rw [upd_same] at e' ⊢
      exact ⟨fp, e'⟩
    · rw [upd_ne hb] at e' ⊢
      refine x.base b u ?_
      show upd g.B p o b = some u
      rw [upd_ne hb]
      exact e'
/-- .. is let go: the heap without it -/
theorem Sim.unguard {p : Addr} {o : HO} (gp : g.B p = none) (x : Sim K (g.with_ p o) I F s σ H) : ∃ H0, H0 p = none ∧ H = upd H0 p o ∧ Sim K g I F s σ H0 := by
  obtain ⟨A, h1, h2, h3⟩ := x.owned
  obtain ⟨fp, hp⟩ := x.guarded
  have bp : ∀ a ∈ I ++ A, a ≠ p := fun a ha z => by
    have e := (h3 a ha).1
    rw [z] at e
    have e' : upd g.B p o p = none := e
    rw [upd_same] at e'
    cases e'
  refine ⟨fun b => if b = p then none else H b, if_pos rfl, ?_, ?_⟩
  · funext b
    by_cases hb : b = p
    · subst hb
      rw [upd_same, hp]
    · rw [upd_ne hb, if_neg hb]
  · have ne : ∀ b, b ≠ p → (if b = p then none else H b) = H b := fun b hb => if_neg hb
    have kp : ∀ a ∈ I ++ A, F a = none ∧ ∀ u, H a = some u → (if a = p then none else H a) = some u := fun a ha => ⟨(h3 a ha).2.1, fun u e => by rw [ne a (bp a ha)]; exact e⟩
    refine ⟨fun b u e => ?_, ⟨A, h1.keep (Le.refl _) (List.prefix_refl _) fun a ha => kp a (List.mem_append_right _ ha), h2, fun a ha => ?_⟩, x.st.keep (Le.refl _) (List.prefix_refl _) fun a ha => kp a (List.mem_append_left _ ha), fun b u e => ?_, x.mono, x.pre⟩
    · show (if b = p then none else H b) = some u
      rw [ne b (ne_of_none e fp)]
      exact x.sub _ _ e
    · have e := (h3 a ha).1
      have e' : upd g.B p o a = none := e
      rw [upd_ne (bp a ha)] at e'
      exact e'
    · have hb : b ≠ p := fun z => by rw [z, gp] at e; cases e
      have q := x.base b u (by show upd g.B p o b = some u; rw [upd_ne hb]; exact e)
      refine ⟨q.1, ?_⟩
      show (if b = p then none else H b) = some u
      rw [ne b hb]
      exact q.2
end

def lcL (is : List Nat) (t : Tg) (c : M Bool) (e : M D) : List D → List D → M (List D)
  | [], acc, s => .ok acc { s with env := wipeE s.env is }
  | d :: ds, acc, s => match t d { s with env := wipeE s.env is } with
    | none => .stuck
    | some s1 => match c s1 with
      | .ok true s2 => (match e s2 with
        | .ok y s3 => if acc.length < sizeLine then lcL is t c e ds (acc ++ [y]) s3 else .stuck
        | _ => .stuck)
      | .ok false s2 => lcL is t c e ds acc s2
      | _ => .stuck
def fLc (is : List Nat) (it : M (List D)) (t : Tg) (c : M Bool) (e : M D) : M Ob := fun s => (it s).bnd fun ds s0 => (lcL is t c e ds [] s0).bnd fun ys s1 => match backE s0.env is s1.env with
  | some env => .ok (.lst ys) { s1 with env := env }
  | none => .stuck
def tYesM : M Bool := fun s => .ok true s
abbrev W0 : WX := fun _ _ _ _ => False
section
variable {X : Cx} {W : WX} {elt tg iter : Expr} {ifs : List Expr} {scope : Scope} {own : List (Str × Nat)} {pos : Pos}
def STs (X : Cx) (W : WX) (es : List Expr) (f : M Bool) : Prop := ∃ t, PTs X es t ∧ ∀ g I F s σ H Q, Sim X.K g I F s σ H → PoT X W g σ (f s) Q → t σ H Q
theorem sts_nil : STs X W [] tYesM := ⟨_, pts_nil, fun g I F s σ H Q x hq => hq _ _ _ x⟩
theorem sts_one {c : Expr} {f : M Bool} (h : ST X W c f) : STs X W [c] f := by
  obtain ⟨t, a1, a2⟩ := h
  exact ⟨t, pts_one a1, a2⟩
theorem wipe_wipe (σ : St) (is : List Nat) : wipe (wipe σ is) is = wipe σ is := by
  refine List.ext_getElem? fun j => ?_
  by_cases hj : j ∈ is
  · have h0 : ∀ τ : St, j < τ.length → (wipe τ is)[j]? = some none := fun τ hl => by
      have hl' : j < (wipe τ is).length := by rw [wipe_length]; exact hl
      cases q : (wipe τ is)[j]? with
      | none => exact absurd (List.getElem?_eq_none_iff.mp q) (by omega)
      | some y =>
        cases y with
        | none => rfl
        | some v => exact absurd hj (wipe_some q).2
    by_cases hl : j < σ.length
    · rw [h0 _ hl, h0 _ (by rw [wipe_length]; exact hl)]
    · rw [List.getElem?_eq_none (by rw [wipe_length, wipe_length]; omega), List.getElem?_eq_none (by rw [wipe_length]; omega)]
  · rw [wipe_out hj]
theorem RepL.snoc {K : PySem.W.Frag} {I : List Addr} {F : Hp} {v : V} {d : D} (r : Rep K I F v d) : ∀ {vs : List V} {ds : List D}, RepL K I F vs ds → RepL K I F (vs ++ [v]) (ds ++ [d])
  | _, _, .nil => .cons r .nil
  | _, _, .cons a b => .cons a (RepL.snoc r b)
/-- the readings of a comprehension's parts do not hang on the block -/
theorem lc_read {wi : TI} {gt : TG} {tt : TT} {te : TE} {f : M (List D)} {t : Tg} {c : M Bool} {e : M D} {is : List Nat}
    (i2 : ∀ g I F s σ H R, Sim X.K g I F s σ H → PoI X W g σ (f s) R → wi σ H R)
    (g2 : ∀ g I F s s' σ H (v : V) d Q, Sim X.K g I F s σ H → Rep X.K I F v d → t d s = some s' → (∀ I' F' σ' H', Sim X.K g I' F' s' σ' H' → wipe σ' is = wipe σ is → Q σ' H') → gt v σ H Q)
    (c2 : ∀ g I F s σ H Q, Sim X.K g I F s σ H → PoT X W0 g σ (c s) Q → tt σ H Q)
    (e2 : ∀ g I F s σ H Q, Sim X.K g I F s σ H → PoE X W0 g σ (e s) Q → te σ H Q)
    {g : Gh} {I : List Addr} {F H : Hp} {s : S} {σ : St} {Q : VK} (x : Sim X.K g I F s σ H) (hq : PoF X W g σ (fLc is f t c e s) Q) : tLc wi gt tt te is σ H Q := by
  refine i2 g I F s σ H _ x ?_
  unfold fLc at hq
  cases e1 : f s with
  | stuck => rw [e1] at hq; exact hq
  | ex c s1 => rw [e1] at hq; exact hq
  | ok ds s0 =>
    rw [e1, bnd_ok] at hq
    intro I0 F0 H0 J x0 wk Dp hD
    have gD : g.B Dp = none := by
      cases q : g.B Dp with
      | none => rfl
      | some u => rw [(x0.base Dp u q).2] at hD; cases hD
    refine ⟨fun i m H => m = ds.length - i ∧ i ≤ ds.length ∧ ∃ I F s vs acc, Sim X.K ((g.at I0 F0).with_ Dp (.lst vs)) I F { s with env := wipeE s.env is } (wipe σ is) H ∧ RepL X.K I F vs acc ∧
      PoF X W g σ ((lcL is t c e (ds.drop i) acc s).bnd fun ys s1 => match backE s0.env is s1.env with
        | some env => .ok (.lst ys) { s1 with env := env }
        | none => .stuck) Q, ⟨ds.length, by simp, Nat.zero_le _, I0, F0, s0, [], [], (x0.here.guard hD).wiped is, .nil, by simpa using hq⟩, ?_⟩
    rintro i m H1 ⟨rfl, hi, I1, F1, s1, vs, acc, x1, ra, q1⟩
    have wk' : ∀ {I F s σ H}, Sim X.K ((g.at I0 F0).with_ Dp (.lst vs)) I F s σ H → ∃ Hm, Hm Dp = none ∧ H = upd Hm Dp (.lst vs) ∧ Sim X.K (g.at I0 F0) I F s σ Hm := fun x => x.unguard gD
    by_cases hlt : i < ds.length
    · refine .inr ⟨wk.go i _ _ _ _ _ _ x1 x1.mono x1.pre hlt, fun H' => ∃ I F s vs acc, Sim X.K ((g.at I0 F0).with_ Dp (.lst vs)) I F { s with env := wipeE s.env is } (wipe σ is) H' ∧ RepL X.K I F vs acc ∧
        PoF X W g σ ((lcL is t c e (ds.drop (i + 1)) acc s).bnd fun ys s1 => match backE s0.env is s1.env with
          | some env => .ok (.lst ys) { s1 with env := env }
          | none => .stuck) Q, fun H' n' => ⟨ds.length - (i + 1), by omega, rfl, hlt, n'⟩, fun y H' hy => ?_⟩
      obtain ⟨F2, x2, r2⟩ := wk.yld i _ _ _ _ _ _ y H' _ x1 x1.mono x1.pre hy (List.getElem?_eq_getElem hlt)
      have ra2 := ra.later x2
      have x2 := x1.back x2
      rw [List.drop_eq_getElem_cons hlt] at q1
      have q1' : PoF X W g σ (Out.bnd (match t ds[i] { s1 with env := wipeE s1.env is } with
        | none => .stuck
        | some s1 => match c s1 with
          | .ok true s2 => (match e s2 with
            | .ok y s3 => if acc.length < sizeLine then lcL is t c e (ds.drop (i + 1)) (acc ++ [y]) s3 else .stuck
            | _ => .stuck)
          | .ok false s2 => lcL is t c e (ds.drop (i + 1)) acc s2
          | _ => .stuck) fun ys s1 => match backE s0.env is s1.env with
        | some env => .ok (.lst ys) { s1 with env := env }
        | none => .stuck) Q := q1
      cases h1 : t ds[i] { s1 with env := wipeE s1.env is } with
      | none => simp only [h1] at q1'; exact q1'.elim
      | some s3 =>
        simp only [h1] at q1'
        refine g2 (((g.at I0 F0).with_ Dp (.lst vs)).at I1 F2) I1 F2 { s1 with env := wipeE s1.env is } s3 (wipe σ is) H' y _ _ x2.here r2 h1 fun I3 F3 σ3 H3 x3 w3 => ⟨by rw [w3, wipe_wipe], ?_⟩
        have ra3 := ra2.later x3
        have x3 := x2.back x3
        refine c2 (((g.at I0 F0).with_ Dp (.lst vs)).at I3 F3) I3 F3 s3 σ3 H3 _ x3.here ?_
        cases h2 : c s3 with
        | stuck => simp only [h2] at q1'; exact q1'.elim
        | ex cc s4 => simp only [h2] at q1'; exact q1'.elim
        | ok bb s4 =>
          intro I4 F4 H4 x4
          have ra4 := ra3.later x4
          have x4 := x3.back x4
          cases bb with
          | false =>
            simp only [h2] at q1'
            rw [if_neg Bool.false_ne_true]
            refine ⟨I4, F4, s4, vs, acc, ?_, ra4, q1'⟩
            have := x4.wiped is
            rw [w3, wipe_wipe] at this
            exact this
          | true =>
            simp only [h2] at q1'
            rw [if_pos rfl]
            refine e2 (((g.at I0 F0).with_ Dp (.lst vs)).at I4 F4) I4 F4 s4 σ3 H4 _ x4.here ?_
            cases h5 : e s4 with
            | stuck => simp only [h5] at q1'; exact q1'.elim
            | ex cc s4 => simp only [h5] at q1'; exact q1'.elim
            | ok yy s5 =>
              simp only [h5] at q1'
              intro v5 I5 F5 H5 x5 r5
              have ra5 := ra4.later x5
              have x5 := x4.back x5
              by_cases hl : acc.length < sizeLine
              · simp only [hl, if_true] at q1'
                refine ⟨vs, x5.guarded.2, by rw [ra5.length]; exact hl, I5, F5, s5, vs ++ [v5], acc ++ [yy], ?_, ra5.snoc r5, q1'⟩
                have := (x5.reguard (o' := .lst (vs ++ [v5]))).wiped is
                rw [w3, wipe_wipe] at this
                exact this
              · simp only [hl, if_false] at q1'
                exact q1'.elim
    · have e : i = ds.length := by omega
      subst e
      rw [List.drop_length] at q1
      refine .inl ⟨wk.stop _ _ _ _ _ _ x1 x1.mono x1.pre, ?_⟩
      unfold lcL at q1
      rw [bnd_ok] at q1
      cases e3 : backE s0.env is (wipeE s1.env is) with
      | none => simp only [e3] at q1; exact q1.elim
      | some env =>
        simp only [e3] at q1
        obtain ⟨Hm, h1, h2, h3⟩ := wk' x1
        have h4 := x0.backed h3 is env e3
        rw [backS_wipe] at h4
        rw [h2]
        exact q1 I1 F1 Hm Dp (.lst vs) (x0.back h4) h1 (.lst ra)
def tcE (X : Cx) (W : WX) (f : M D) : TE := fun σ H Q => ∃ g I F s, Sim X.K g I F s σ H ∧ PoE X W g σ (f s) Q
def tcT (X : Cx) (W : WX) (f : M Bool) : TT := fun σ H Q => ∃ g I F s, Sim X.K g I F s σ H ∧ PoT X W g σ (f s) Q
def tcG (X : Cx) (is : List Nat) (t : Tg) : TG := fun v σ H Q => ∃ g I F s s' d, Sim X.K g I F s σ H ∧ Rep X.K I F v d ∧ t d s = some s' ∧ ∀ I' F' σ' H', Sim X.K g I' F' s' σ' H' → wipe σ' is = wipe σ is → Q σ' H'
theorem SE.can {e : Expr} {f : M D} (h : SE X W e f) : PE X e (tcE X W f) := by
  obtain ⟨t, a1, a2⟩ := h
  exact ⟨fun pins s σ H Q I ⟨g, I', F, s', x, q⟩ => a1.run pins s σ H Q I (a2 g I' F s' σ H Q x q)⟩
theorem STs.can {e : List Expr} {f : M Bool} (h : STs X W e f) : PTs X e (tcT X W f) := by
  obtain ⟨t, a1, a2⟩ := h
  exact ⟨fun pins s σ H Q I ⟨g, I', F, s', x, q⟩ => a1.run pins s σ H Q I (a2 g I' F s' σ H Q x q)⟩
theorem SG.can {is : List Nat} {e : Expr} {f : Tg} (h : SG X is e f) : PG X e (tcG X is f) := by
  obtain ⟨t, a1, a2⟩ := h
  exact ⟨fun pins s σ H v u Q I r ⟨g, I', F, s', s2, d, x, rr, e, q⟩ => a1.run pins s σ H v u Q I r (a2 g I' F s' s2 σ H v d Q x rr e q)⟩
/-- [e for t in it if c] -/
theorem lc_parts {f : M (List D)} {t : Tg} {c : M Bool} {e : M D} {wi : TI} (i2 : ∀ g I F s σ H R, Sim X.K g I F s σ H → PoI X W g σ (f s) R → wi σ H R) {is : List Nat} {g : Gh} {I : List Addr} {F H : Hp} {s : S} {σ : St} {Q : VK} (x : Sim X.K g I F s σ H) (hq : PoF X W g σ (fLc is f t c e s) Q) :
    tLc wi (tcG X is t) (tcT X W0 c) (tcE X W0 e) is σ H Q :=
  lc_read i2 (fun g I F s s' σ H v d Q x r e q => ⟨g, I, F, s, s', d, x, r, e, q⟩) (fun g I F s σ H Q x q => ⟨g, I, F, s, x, q⟩) (fun g I F s σ H Q x q => ⟨g, I, F, s, x, q⟩) x hq
theorem sf_lc {f : M (List D)} {t : Tg} {c : M Bool} {e : M D} (hc : X.calm = true) (hN : X.N.Nodup) (hi : SI X W tg iter f) (ok : BlkOk X.N X.env.scope scope own)
    (hg : ∀ (s : Shared) (H : Hp) (C : Addr) (cl : List (Str × Addr)) (fp : List Addr), SG (X.blk s H scope (compEnvC scope cl C X.env) fp) (own.map (·.2)) tg t)
    (ht : ∀ (s : Shared) (H : Hp) (C : Addr) (cl : List (Str × Addr)) (fp : List Addr), STs (X.blk s H scope (compEnvC scope cl C X.env) fp) W0 ifs c)
    (he : ∀ (s : Shared) (H : Hp) (C : Addr) (cl : List (Str × Addr)) (fp : List Addr), SE (X.blk s H scope (compEnvC scope cl C X.env) fp) W0 elt e)
    (hs : ∀ x, foldedSetIterable iter X.env x = pure x := by intro _; rfl) : SF X W (.ListComp elt [⟨tg, iter, ifs, 0⟩] scope pos) (fLc (own.map (·.2)) f t c e) := by
  obtain ⟨wi, i1, i2⟩ := hi
  exact ⟨_, pe_lc hc hN i1 ok (fun s H C cl fp => (hg s H C cl fp).can) (fun s H C cl fp => (ht s H C cl fp).can) (fun s H C cl fp => (he s H C cl fp).can) hs, fun g I F s σ H Q x hq => lc_parts i2 x hq⟩
/-- y = [e for t in it if c]: the name's own list -/
theorem ss_ownLc {i : Nat} {y : Str} {py spos : Pos} {f : M (List D)} {t : Tg} {c : M Bool} {e : M D} (hc : X.calm = true) (hN : X.N.Nodup) (hy : X.N[i]? = some y) (hyl : X.env.scope.names.lookup y = some .local)
    (hsw : swapsWith (.ListComp elt [⟨tg, iter, ifs, 0⟩] scope pos) (some (.Name y py)) spos.line X.env = pure true) (hi : SI X W tg iter f) (ok : BlkOk X.N X.env.scope scope own)
    (hg : ∀ (s : Shared) (H : Hp) (C : Addr) (cl : List (Str × Addr)) (fp : List Addr), SG (X.blk s H scope (compEnvC scope cl C X.env) fp) (own.map (·.2)) tg t)
    (ht : ∀ (s : Shared) (H : Hp) (C : Addr) (cl : List (Str × Addr)) (fp : List Addr), STs (X.blk s H scope (compEnvC scope cl C X.env) fp) W0 ifs c)
    (he : ∀ (s : Shared) (H : Hp) (C : Addr) (cl : List (Str × Addr)) (fp : List Addr), SE (X.blk s H scope (compEnvC scope cl C X.env) fp) W0 elt e)
    (hs : ∀ x, foldedSetIterable iter X.env x = pure x := by intro _; rfl) : SS X W (.Assign [.Name y py] (.ListComp elt [⟨tg, iter, ifs, 0⟩] scope pos) spos) (sOwn i (fLc (own.map (·.2)) f t c e)) := by
  obtain ⟨wi, i1, i2⟩ := hi
  refine ⟨_, ps_setLc hc hN hy hyl hsw i1 ok (fun s H C cl fp => (hg s H C cl fp).can) (fun s H C cl fp => (ht s H C cl fp).can) (fun s H C cl fp => (he s H C cl fp).can) hs, fun g I F s σ H E x hq => lc_parts i2 x ?_⟩
  unfold sOwn at hq
  cases e1 : fLc (own.map (·.2)) f t c e s with
  | stuck => rw [e1] at hq; exact hq
  | ex c s1 => rw [e1] at hq; exact fun I F H u x hu => hq I F _ H u x hu
  | ok b s1 =>
    rw [e1, bnd_ok] at hq
    intro I F H p h x hp r
    by_cases hl : i < s1.env.length
    · rw [if_pos hl] at hq
      exact hq I F _ _ (x.setOwn hl hp r)
    · rw [if_neg hl] at hq
      exact hq.elim
end
end Fw
namespace Fw
open PySem L2

theorem sizeLine_n : sizeLine = 16777216 := by decide

/-! ### ints -/
def iOp (f : Int → Int → Int) : D → D → Option D
  | .int i, .int j => some (.int (f i j))
  | _, _ => none
def iCmp (f : Int → Int → Bool) : D → D → Option D
  | .int i, .int j => some (.bl (f i j))
  | _, _ => none
section
variable {X : Cx} {W : WX}
theorem ops_i0 {f : Int → Int → V} {op : D → D → Option D} (h : ∀ dx dy d, op dx dy = some d → ∃ i j, dx = .int i ∧ dy = .int j ∧ ∀ I F, Rep X.K I F (f i j) d) : OpS X (rI0 f) op := by
  intro g I F s σ H Q x y dx dy d sm rx ry e q
  obtain ⟨i, j, rfl, rfl, r⟩ := h dx dy d e
  exact ⟨i, j, rx.int, ry.int, q _ F H sm (r I F)⟩
theorem iOp_inv {f : Int → Int → Int} {dx dy d : D} (e : iOp f dx dy = some d) : ∃ i j, dx = .int i ∧ dy = .int j ∧ d = .int (f i j) := by
  unfold iOp at e
  split at e
  · cases e; exact ⟨_, _, rfl, rfl, rfl⟩
  · cases e
theorem iCmp_inv {f : Int → Int → Bool} {dx dy d : D} (e : iCmp f dx dy = some d) : ∃ i j, dx = .int i ∧ dy = .int j ∧ d = .bl (f i j) := by
  unfold iCmp at e
  split at e
  · cases e; exact ⟨_, _, rfl, rfl, rfl⟩
  · cases e
theorem ops_sub : OpS X (rI0 fun i j => .int (i - j)) (iOp (· - ·)) := ops_i0 fun dx dy d e => by
  obtain ⟨i, j, rfl, rfl, rfl⟩ := iOp_inv e
  exact ⟨i, j, rfl, rfl, fun _ _ => .int _⟩
theorem OpS.or1 {r r' : R2} {op : D → D → Option D} (h : OpS X r op) : OpS X (fun x y H Q => r x y H Q ∨ r' x y H Q) op := fun g I F s σ H Q x y dx dy d sm rx ry e q => .inl (h g I F s σ H Q x y dx dy d sm rx ry e q)
theorem OpS.or2 {r r' : R2} {op : D → D → Option D} (h : OpS X r' op) : OpS X (fun x y H Q => r x y H Q ∨ r' x y H Q) op := fun g I F s σ H Q x y dx dy d sm rx ry e q => .inr (h g I F s σ H Q x y dx dy d sm rx ry e q)
/-- two rules, by what the operation is made of -/
theorem OpS.join {r r' : R2} {op op' op2 : D → D → Option D} (h : OpS X r op) (h' : OpS X r' op') (hs : ∀ x y d, op2 x y = some d → op x y = some d ∨ op' x y = some d) : OpS X (fun x y H Q => r x y H Q ∨ r' x y H Q) op2 := by
  intro g I F s σ H Q x y dx dy d sm rx ry e q
  rcases hs dx dy d e with e | e
  · exact .inl (h g I F s σ H Q x y dx dy d sm rx ry e q)
  · exact .inr (h' g I F s σ H Q x y dx dy d sm rx ry e q)

/-! ### + -/
def sAdd : D → D → Option D
  | .str a, .str b => if a.length + b.length ≤ sizeLine then some (.str (a ++ b)) else none
  | _, _ => none
def tAddD : D → D → Option D
  | .tup a, .tup b => if a.length + b.length ≤ sizeLine then some (.tup (a ++ b)) else none
  | _, _ => none
def lAdd : D → D → Option D
  | .lst a, .lst b => if a.length + b.length ≤ sizeLine then some (.lst (a ++ b)) else none
  | _, _ => none
def dAdd : D → D → Option D
  | .int i, .int j => some (.int (i + j))
  | .str a, .str b => if a.length + b.length ≤ sizeLine then some (.str (a ++ b)) else none
  | .tup a, .tup b => if a.length + b.length ≤ sizeLine then some (.tup (a ++ b)) else none
  | .lst a, .lst b => if a.length + b.length ≤ sizeLine then some (.lst (a ++ b)) else none
  | _, _ => none
theorem ops_sadd : OpS X (fun x y H Q => ∃ i j, x = .str i ∧ y = .str j ∧ i.length + j.length ≤ sizeLine ∧ Q (.str (i ++ j)) H) sAdd := by
  intro g I F s σ H Q x y dx dy d sm rx ry e q
  unfold sAdd at e
  split at e
  · rename_i a b
    by_cases h : a.length + b.length ≤ sizeLine
    · rw [if_pos h] at e
      cases e
      exact ⟨a, b, rx.str, ry.str, h, q _ F H sm (.str _)⟩
    · rw [if_neg h] at e
      cases e
  · cases e
theorem RepL.append {K : PySem.W.Frag} {I : List Addr} {F : Hp} : ∀ {vs ws : List V} {ds es : List D}, RepL K I F vs ds → RepL K I F ws es → RepL K I F (vs ++ ws) (ds ++ es)
  | _, _, _, _, .nil, h => h
  | _, _, _, _, .cons a b, h => .cons a (RepL.append b h)
theorem ops_tadd : OpS X (rCatA X.K) tAddD := by
  intro g I F s σ H Q x y dx dy d sm rx ry e q
  unfold tAddD at e
  split at e
  · rename_i a b
    by_cases h : a.length + b.length ≤ sizeLine
    · rw [if_pos h] at e
      cases e
      obtain ⟨p, vs, rfl, h1, r1, f1⟩ := rx.tup sm.sub
      obtain ⟨p', ws, rfl, h2, r2, f2⟩ := ry.tup sm.sub
      refine ⟨p, p', vs, ws, rfl, rfl, h1, h2, by rw [r1.length, r2.length]; exact h, fun e => ?_, fun _ e => ?_, fun _ _ p hp => ?_⟩
      · subst e
        cases r1
        exact q _ F H sm (.tup f2 r2)
      · subst e
        cases r2
        rw [List.append_nil] at q
        exact q _ F H sm (.tup f1 r1)
      · obtain ⟨x2, le⟩ := sm.alloc (o := .tup (vs ++ ws)) hp
        exact q _ _ _ x2 (.tup (TupAt.of upd_same) (RepL.mono le (List.prefix_refl _) _ _ (r1.append r2)))
    · rw [if_neg h] at e
      cases e
  · cases e
/-- list + list, wherever they stand -/
def rCatL (K : PySem.W.Frag) : R2 := fun x y H Q => ∃ l b xs zs, x = .ref l ∧ y = .ref b ∧ SqL K H l xs ∧ SqL K H b zs ∧ xs.length + zs.length ≤ sizeLine ∧ ∀ p, H p = none → Q (.ref p) (upd H p (.lst (xs ++ zs)))
theorem op_catL : OpR X (binaryOp .Add) (rCatL X.K) := by
  intro pins s σ H x y v u Q I rx ry h
  obtain ⟨l, b, xs, zs, rfl, rfl, hH, hB, hz, q⟩ := h
  cases rx
  cases ry
  obtain ⟨its, r, ⟨⟨cls, dd, data, sl⟩, n, e, hc, hd, hdt⟩, hl⟩ := I.list hH
  obtain ⟨its2, r2, ⟨⟨cls2, dd2, data2, sl2⟩, n2, e2, hc2, hd2, hdt2⟩, hl2⟩ := I.list hB
  simp only at hc hdt hc2 hdt2
  subst hc hdt hc2 hdt2
  have k1 := r.length
  have k2 := r2.length
  refine concat_meets ⟨_, e, rfl⟩ ⟨_, e2, rfl⟩ noFill_list_add seq_list_add F.slot_list_add F.entry_list_add (F.args_list_add_2 _ _) (PyProof.Rows.list_addW l b its.toArray its2.toArray n n2 dd dd2 sl sl2 (by rw [List.size_toArray, List.size_toArray]; omega)) ⟨e, e2, ?_⟩
  have ea : its.toArray ++ its2.toArray = (its ++ its2).toArray := by simp
  rw [ea]
  exact ⟨.ref _, _, I.lnew (t' := s.toks) (r.append r2) (by rw [List.length_append]; omega), rfl, q _ I.fresh⟩
theorem ops_ladd : OpS X (rCatL X.K) lAdd := by
  intro g I F s σ H Q x y dx dy d sm rx ry e q
  unfold lAdd at e
  split at e
  · rename_i a b
    by_cases h : a.length + b.length ≤ sizeLine
    · rw [if_pos h] at e
      cases e
      obtain ⟨p, vs, rfl, h1, r1⟩ := rx.lst sm.sub
      obtain ⟨p', ws, rfl, h2, r2⟩ := ry.lst sm.sub
      refine ⟨p, p', vs, ws, rfl, rfl, h1, h2, by rw [r1.length, r2.length]; exact h, fun p hp => ?_⟩
      obtain ⟨x2, le⟩ := sm.alloc (o := .lst (vs ++ ws)) hp
      exact q _ _ _ x2 (.lst (SqL.of upd_same) (RepL.mono le (List.prefix_refl _) _ _ (r1.append r2)))
    · rw [if_neg h] at e
      cases e
  · cases e
theorem ops_add : OpS X (fun x y H Q => rI0 (fun i j => .int (i + j)) x y H Q ∨ ((∃ i j, x = .str i ∧ y = .str j ∧ i.length + j.length ≤ sizeLine ∧ Q (.str (i ++ j)) H) ∨ (rCatA X.K x y H Q ∨ rCatL X.K x y H Q))) dAdd := by
  refine OpS.join (op := iOp (· + ·)) (op' := fun x y => match x, y with | .int _, .int _ => none | x, y => dAdd x y) (ops_i0 fun dx dy d e => ?_) (OpS.join (op := sAdd) (op' := fun x y => match x, y with | .int _, .int _ => none | .str _, .str _ => none | x, y => dAdd x y) ops_sadd (OpS.join (op := tAddD) (op' := lAdd) ops_tadd ops_ladd ?_) ?_) ?_
  · obtain ⟨i, j, rfl, rfl, rfl⟩ := iOp_inv e
    exact ⟨i, j, rfl, rfl, fun _ _ => .int _⟩
  · intro x y d e
    cases x <;> cases y <;> first | (cases e; done) | exact .inl e | exact .inr e
  · intro x y d e
    cases x <;> cases y <;> first | (cases e; done) | exact .inl e | exact .inr e
  · intro x y d e
    cases x <;> cases y <;> first | (cases e; done) | exact .inl e | exact .inr e
theorem se_add {a b : Expr} {oa ob : Opd} {pos : Pos} (ha : SO X W a oa) (hb : SO X W b ob) : SE X W (.BinOp a .Add b pos) (e2 dAdd oa ob) :=
  se_bin (OpR.or op_add (OpR.or op_add_str (OpR.or op_catA op_catL))) ops_add ha hb
theorem se_sub {a b : Expr} {oa ob : Opd} {pos : Pos} (ha : SO X W a oa) (hb : SO X W b ob) : SE X W (.BinOp a .Sub b pos) (e2 (iOp (· - ·)) oa ob) :=
  se_bin op_sub ops_sub ha hb
/-- a new list of two -/
def f2 (op : D → D → Option Ob) (a b : Opd) : M Ob := fun s => (a.ev s).bnd fun x s => (b.ev s).bnd fun y s => match x.rd s, y.rd s with
  | some dx, some dy => (match op dx dy with
    | some d => .ok d s
    | none => .stuck)
  | _, _ => .stuck
def lCat : D → D → Option Ob
  | .lst a, .lst b => if a.length + b.length ≤ sizeLine then some (.lst (a ++ b)) else none
  | _, _ => none
theorem sf_cat {a b : Expr} {oa ob : Opd} {pos : Pos} (ha : SO X W a oa) (hb : SO X W b ob) : SF X W (.BinOp a .Add b pos) (f2 lCat oa ob) := by
  obtain ⟨ta, a1, a2⟩ := ha
  obtain ⟨tb, b1, b2⟩ := hb
  refine ⟨_, pe_op op_catL a1 b1, fun g I F s σ H Q x hq => ?_⟩
  refine two (Po := fun o => PoF X W g σ o Q) (k := fun dx dy s => match lCat dx dy with
    | some d => .ok d s
    | none => .stuck) a2 b2 (fun c s q => q) (fun q => q) x hq fun I F s H v w dx dy x rv rw_ q => ?_
  cases e : lCat dx dy with
  | none => simp only [e] at q; exact q.elim
  | some d =>
    simp only [e] at q
    unfold lCat at e
    split at e
    · rename_i a b
      by_cases h : a.length + b.length ≤ sizeLine
      · rw [if_pos h] at e
        cases e
        obtain ⟨p, vs, rfl, h1, r1⟩ := rv.lst x.sub
        obtain ⟨p', ws, rfl, h2, r2⟩ := rw_.lst x.sub
        exact ⟨p, p', vs, ws, rfl, rfl, h1, h2, by rw [r1.length, r2.length]; exact h, fun p hp => q _ _ _ _ _ x hp (.lst (r1.append r2))⟩
      · rw [if_neg h] at e
        cases e
    · cases e
/-! ### // and % by what is positive -/
def dFdiv : D → D → Option D
  | .int i, .int j => if 0 < j ∧ j < 1073741824 then some (.int (i / j)) else none
  | _, _ => none
def dMod : D → D → Option D
  | .int i, .int j => if 0 < j then some (.int (i % j)) else none
  | _, _ => none
theorem se_fdiv {a b : Expr} {oa ob : Opd} {pos : Pos} (ha : SO X W a oa) (hb : SO X W b ob) : SE X W (.BinOp a .FloorDiv b pos) (e2 dFdiv oa ob) := by
  refine se_bin op_fdiv ?_ ha hb
  intro g I F s σ H Q x y dx dy d sm rx ry e q
  unfold dFdiv at e
  split at e
  · rename_i i j
    by_cases h : 0 < j ∧ j < 1073741824
    · rw [if_pos h] at e
      cases e
      exact ⟨i, j, rx.int, ry.int, h, q _ F H sm (.int _)⟩
    · rw [if_neg h] at e
      cases e
  · cases e
theorem se_mod {a b : Expr} {oa ob : Opd} {pos : Pos} (ha : SO X W a oa) (hb : SO X W b ob) : SE X W (.BinOp a .Mod b pos) (e2 dMod oa ob) := by
  refine se_bin op_mod ?_ ha hb
  intro g I F s σ H Q x y dx dy d sm rx ry e q
  unfold dMod at e
  split at e
  · rename_i i j
    by_cases h : 0 < j
    · rw [if_pos h] at e
      cases e
      exact ⟨i, j, rx.int, ry.int, h, q _ F H sm (.int _)⟩
    · rw [if_neg h] at e
      cases e
  · cases e
def dNeg : D → Option D
  | .int i => some (.int (-i))
  | _ => none
theorem se_neg {a : Expr} {oa : Opd} {pos : Pos} (ha : SO X W a oa) : SE X W (.UnaryOp .USub a pos) (e1 dNeg oa) := by
  refine se_un un_neg ?_ ha
  intro g I F s σ H Q x dx d sm rx e q
  unfold dNeg at e
  split at e
  · cases e
    exact ⟨_, rx.int, q _ F H sm (.int _)⟩
  · cases e
/-! ### order -/
def sLt (a b : Str) : Bool := decide (a.cps.toList < b.cps.toList)
def dCmp (fi : Int → Int → Bool) (fs : Str → Str → Bool) : D → D → Option D
  | .int i, .int j => some (.bl (fi i j))
  | .str i, .str j => some (.bl (fs i j))
  | _, _ => none
abbrev dLt : D → D → Option D := dCmp (fun i j => decide (i < j)) sLt
abbrev dLe : D → D → Option D := dCmp (fun i j => decide (i ≤ j)) fun a b => !sLt b a
abbrev dGt : D → D → Option D := dCmp (fun i j => decide (j < i)) fun a b => sLt b a
abbrev dGe : D → D → Option D := dCmp (fun i j => decide (j ≤ i)) fun a b => !sLt a b
theorem ops_cmp {fi : Int → Int → Bool} {fs : Str → Str → Bool} : OpS X (fun x y H Q => rI0 (fun i j => .bl (fi i j)) x y H Q ∨ ∃ i j, x = .str i ∧ y = .str j ∧ Q (.bl (fs i j)) H) (dCmp fi fs) := by
  intro g I F s σ H Q x y dx dy d sm rx ry e q
  unfold dCmp at e
  split at e
  · cases e
    exact .inl ⟨_, _, rx.int, ry.int, q _ F H sm (.bl _)⟩
  · cases e
    exact .inr ⟨_, _, rx.str, ry.str, q _ F H sm (.bl _)⟩
  · cases e
theorem or_lt : OpR X (compareOp .Lt) (fun x y H Q => rI0 (fun i j => .bl (decide (i < j))) x y H Q ∨ ∃ i j, x = .str i ∧ y = .str j ∧ Q (.bl (sLt i j)) H) := OpR.or op_lt op_lt_str
theorem or_le : OpR X (compareOp .LtE) (fun x y H Q => rI0 (fun i j => .bl (decide (i ≤ j))) x y H Q ∨ ∃ i j, x = .str i ∧ y = .str j ∧ Q (.bl (!sLt j i)) H) := OpR.or op_le op_le_str
theorem or_gt : OpR X (compareOp .Gt) (fun x y H Q => rI0 (fun i j => .bl (decide (j < i))) x y H Q ∨ ∃ i j, x = .str i ∧ y = .str j ∧ Q (.bl (sLt j i)) H) := OpR.or op_gt op_gt_str
theorem or_ge : OpR X (compareOp .GtE) (fun x y H Q => rI0 (fun i j => .bl (decide (j ≤ i))) x y H Q ∨ ∃ i j, x = .str i ∧ y = .str j ∧ Q (.bl (!sLt i j)) H) := OpR.or op_ge op_ge_str
theorem se_lt {a b : Expr} {oa ob : Opd} {pos : Pos} (ha : SO X W a oa) (hb : SO X W b ob) : SE X W (.Compare a [.Lt] [b] pos) (e2 dLt oa ob) := se_cmp or_lt ops_cmp ha hb (nomark _)
theorem se_le {a b : Expr} {oa ob : Opd} {pos : Pos} (ha : SO X W a oa) (hb : SO X W b ob) : SE X W (.Compare a [.LtE] [b] pos) (e2 dLe oa ob) := se_cmp or_le ops_cmp ha hb (nomark _)
theorem se_gt {a b : Expr} {oa ob : Opd} {pos : Pos} (ha : SO X W a oa) (hb : SO X W b ob) : SE X W (.Compare a [.Gt] [b] pos) (e2 dGt oa ob) := se_cmp or_gt ops_cmp ha hb (nomark _)
theorem se_ge {a b : Expr} {oa ob : Opd} {pos : Pos} (ha : SO X W a oa) (hb : SO X W b ob) : SE X W (.Compare a [.GtE] [b] pos) (e2 dGe oa ob) := se_cmp or_ge ops_cmp ha hb (nomark _)
/-- a op b op' c -/
def eChain (op op' : D → D → Option D) (a b c : Opd) : M D := fun s => (a.ev s).bnd fun x s => (b.ev s).bnd fun y s => match x.rd s, y.rd s with
  | some dx, some dy => (match op dx dy with
    | some (.bl true) => (c.ev s).bnd fun z s => (match y.rd s, z.rd s with
      | some dy, some dz => lift1 (op' dy dz) s
      | _, _ => .stuck)
    | some (.bl false) => .ok (.bl false) s
    | _ => .stuck)
  | _, _ => .stuck
theorem se_chain {o o' : CmpOp} {r r' : R2} {op op' : D → D → Option D} {a b c : Expr} {oa ob oc : Opd} {pos : Pos} (ho : OpR X (compareOp o) r) (ho' : OpR X (compareOp o') r') (hs : OpS X r op) (hs' : OpS X r' op') (hop : ∀ x y d, op x y = some d → ∃ k, d = .bl k) (ha : SO X W a oa) (hb : SO X W b ob) (hc : SO X W c oc)
    (hm : lastMarks [o, o'] [b, c] = false := by with_unfolding_all rfl) : SE X W (.Compare a [o, o'] [b, c] pos) (eChain op op' oa ob oc) := by
  obtain ⟨ta, a1, a2⟩ := ha
  obtain ⟨tb, b1, b2⟩ := hb
  obtain ⟨tc, c1, c2⟩ := hc
  refine ⟨_, pe_chain ho ho' a1 b1 c1 hm, fun g I F s σ H Q x hq => ?_⟩
  unfold eChain at hq
  refine a2 g I F s σ H _ x ?_
  cases e1 : oa.ev s with
  | stuck => rw [e1] at hq; exact hq
  | ex c s1 => rw [e1] at hq; exact hq
  | ok p s1 =>
    rw [e1, bnd_ok] at hq
    intro v I1 F1 H1 x1 r1
    refine b2 (g.at I1 F1) I1 F1 s1 σ H1 _ x1.here ?_
    cases e2 : ob.ev s1 with
    | stuck => rw [e2] at hq; exact hq
    | ex c s2 => rw [e2] at hq; exact fun I2 F2 H2 u x2 hu => hq _ _ _ _ (x1.back x2) hu
    | ok q s2 =>
      rw [e2, bnd_ok] at hq
      intro w I2 F2 H2 x2 r2
      have x2' := x1.back x2
      have r1' := r1.later x2
      cases e3 : p.rd s2 with
      | none => simp only [e3] at hq; exact hq.elim
      | some dx =>
        cases e4 : q.rd s2 with
        | none => simp only [e3, e4] at hq; exact hq.elim
        | some dy =>
          simp only [e3, e4] at hq
          cases e5 : op dx dy with
          | none => simp only [e5] at hq; exact hq.elim
          | some d =>
            obtain ⟨k, rfl⟩ := hop dx dy d e5
            refine hs (g.at I2 F2) I2 F2 s2 σ H2 _ v w dx dy (.bl k) x2'.here (r1'.rw x2' e3) (r2.rw x2' e4) e5 fun z F3 H3 x3 r3 => ?_
            cases r3
            refine ⟨k, rfl, ?_⟩
            have x3' := x2'.back x3
            have r2' := r2.later (σ := σ) x3
            cases k with
            | false =>
              simp only [e5] at hq
              rw [if_neg Bool.false_ne_true]
              exact hq _ _ _ _ x3' (.bl false)
            | true =>
              simp only [e5] at hq
              rw [if_pos rfl]
              refine c2 (g.at I2 F3) I2 F3 s2 σ H3 _ x3'.here ?_
              cases e6 : oc.ev s2 with
              | stuck => rw [e6] at hq; exact hq
              | ex c s3 => rw [e6] at hq; exact fun I2 F2 H2 u x2 hu => hq _ _ _ _ (x3'.back x2) hu
              | ok zz s3 =>
                rw [e6, bnd_ok] at hq
                intro w4 I4 F4 H4 x4 r4
                have x4' := x3'.back x4
                have r2'' := r2'.later x4
                cases e7 : q.rd s3 with
                | none => simp only [e7] at hq; exact hq.elim
                | some dy2 =>
                  cases e8 : zz.rd s3 with
                  | none => simp only [e7, e8] at hq; exact hq.elim
                  | some dz =>
                    simp only [e7, e8] at hq
                    unfold lift1 at hq
                    cases e9 : op' dy2 dz with
                    | none => simp only [e9] at hq; exact hq.elim
                    | some d9 =>
                      simp only [e9] at hq
                      exact hs' g I4 F4 s3 σ H4 Q w w4 dy2 dz d9 x4' (r2''.rw x4' e7) (r4.rw x4' e8) e9 fun v F' H' x' r' => hq v I4 F' H' x' r'
theorem dCmp_bl {fi : Int → Int → Bool} {fs : Str → Str → Bool} : ∀ x y d, dCmp fi fs x y = some d → ∃ k, d = .bl k := fun x y d e => by
  unfold dCmp at e
  split at e <;> cases e <;> exact ⟨_, rfl⟩
theorem se_lele {a b c : Expr} {oa ob oc : Opd} {pos : Pos} (ha : SO X W a oa) (hb : SO X W b ob) (hc : SO X W c oc) (hm : lastMarks [.LtE, .LtE] [b, c] = false := by with_unfolding_all rfl) : SE X W (.Compare a [.LtE, .LtE] [b, c] pos) (eChain dLe dLe oa ob oc) := se_chain or_le or_le ops_cmp ops_cmp dCmp_bl ha hb hc hm
theorem se_lelt {a b c : Expr} {oa ob oc : Opd} {pos : Pos} (ha : SO X W a oa) (hb : SO X W b ob) (hc : SO X W c oc) (hm : lastMarks [.LtE, .Lt] [b, c] = false := by with_unfolding_all rfl) : SE X W (.Compare a [.LtE, .Lt] [b, c] pos) (eChain dLe dLt oa ob oc) := se_chain or_le or_lt ops_cmp ops_cmp dCmp_bl ha hb hc hm
theorem se_ltle {a b c : Expr} {oa ob oc : Opd} {pos : Pos} (ha : SO X W a oa) (hb : SO X W b ob) (hc : SO X W c oc) (hm : lastMarks [.Lt, .LtE] [b, c] = false := by with_unfolding_all rfl) : SE X W (.Compare a [.Lt, .LtE] [b, c] pos) (eChain dLt dLe oa ob oc) := se_chain or_lt or_le ops_cmp ops_cmp dCmp_bl ha hb hc hm
theorem se_ltlt {a b c : Expr} {oa ob oc : Opd} {pos : Pos} (ha : SO X W a oa) (hb : SO X W b ob) (hc : SO X W c oc) (hm : lastMarks [.Lt, .Lt] [b, c] = false := by with_unfolding_all rfl) : SE X W (.Compare a [.Lt, .Lt] [b, c] pos) (eChain dLt dLt oa ob oc) := se_chain or_lt or_lt ops_cmp ops_cmp dCmp_bl ha hb hc hm
end
end Fw
namespace Fw
open PySem L2

/-! ### equality -/
mutual
def D.eqv : D → D → Bool
  | .non, .non => true
  | .bl a, .bl b => a == b
  | .bl a, .int j => (if a then 1 else 0) == j
  | .int i, .bl b => i == (if b then 1 else 0)
  | .int i, .int j => i == j
  | .str x, .str y => x == y
  | .tup xs, .tup ys => D.eqvL xs ys
  | .lst xs, .lst ys => D.eqvL xs ys
  | _, _ => false
def D.eqvL : List D → List D → Bool
  | [], [] => true
  | x :: xs, y :: ys => D.eqv x y && D.eqvL xs ys
  | _, _ => false
end
mutual
def D.toPy : D → PyData
  | .non => .none
  | .bl b => .bool b
  | .int i => .int i
  | .str x => .str x
  | .tup xs => .tuple (D.toPyL xs)
  | .lst xs => .list (D.toPyL xs)
  | .dct _ => .dict []
  | .obj _ => .dict []
  | .nm _ => .dict []
def D.toPyL : List D → List PyData
  | [] => []
  | x :: xs => D.toPy x :: D.toPyL xs
end
mutual
def D.ok : D → Bool
  | .non | .bl _ | .int _ => true
  | .str x => x.cps.all (· < 0x110000)
  | .tup xs | .lst xs => D.okL xs
  | .dct _ | .obj _ | .nm _ => false
def D.okL : List D → Bool
  | [] => true
  | x :: xs => D.ok x && D.okL xs
end
mutual
def D.dep : D → Nat
  | .tup xs | .lst xs => D.depL xs + 1
  | _ => 0
def D.depL : List D → Nat
  | [] => 0
  | x :: xs => max (D.dep x) (D.depL xs)
end
mutual
theorem toPy_lay : ∀ d : D, d.ok = true → d.toPy.canLay0 = true
  | .non, _ => by simp [D.toPy, PyData.canLay0]
  | .bl _, _ => by simp [D.toPy, PyData.canLay0]
  | .int _, _ => by simp [D.toPy, PyData.canLay0]
  | .str x, h => by
    simp only [D.toPy, PyData.canLay0]
    simp only [D.ok] at h
    exact h
  | .tup xs, h => by
    have := toPyL_lay xs (by simpa [D.ok] using h)
    simpa [D.toPy, PyData.canLay0] using this
  | .lst xs, h => by
    have := toPyL_lay xs (by simpa [D.ok] using h)
    simpa [D.toPy, PyData.canLay0] using this
  | .dct _, h => by simp [D.ok] at h
  | .obj _, h => by simp [D.ok] at h
  | .nm _, h => by simp [D.ok] at h
theorem toPyL_lay : ∀ ds : List D, D.okL ds = true → PyData.canLayAll0 (D.toPyL ds) = true
  | [], _ => by simp [D.toPyL, PyData.canLayAll0]
  | d :: ds, h => by
    have h' : d.ok = true ∧ D.okL ds = true := by simpa [D.okL] using h
    simp [D.toPyL, PyData.canLayAll0, toPy_lay d h'.1, toPyL_lay ds h'.2]
end
mutual
theorem toPy_dep : ∀ d : D, d.ok = true → d.toPy.depth = d.dep
  | .non, _ => by simp [D.toPy, PyData.depth, D.dep]
  | .bl _, _ => by simp [D.toPy, PyData.depth, D.dep]
  | .int _, _ => by simp [D.toPy, PyData.depth, D.dep]
  | .str x, h => by simp [D.toPy, PyData.depth, D.dep]
  | .tup xs, h => by
    have := toPyL_dep xs (by simpa [D.ok] using h)
    simp [D.toPy, PyData.depth, D.dep, this]
  | .lst xs, h => by
    have := toPyL_dep xs (by simpa [D.ok] using h)
    simp [D.toPy, PyData.depth, D.dep, this]
  | .dct _, h => by simp [D.ok] at h
  | .obj _, h => by simp [D.ok] at h
  | .nm _, h => by simp [D.ok] at h
theorem toPyL_dep : ∀ ds : List D, D.okL ds = true → PyData.depthAll (D.toPyL ds) = D.depL ds
  | [], _ => by simp [D.toPyL, PyData.depthAll, D.depL]
  | d :: ds, h => by
    have h' : d.ok = true ∧ D.okL ds = true := by simpa [D.okL] using h
    simp [D.toPyL, PyData.depthAll, D.depL, toPy_dep d h'.1, toPyL_dep ds h'.2]
end
mutual
theorem toPy_eqv : ∀ d e : D, d.ok = true → e.ok = true → PyData.eqv d.toPy e.toPy = D.eqv d e
  | .tup xs, .tup ys, h1, h2 => by
    have := toPyL_eqv xs ys (by simpa [D.ok] using h1) (by simpa [D.ok] using h2)
    simpa [D.toPy, PyData.eqv, D.eqv] using this
  | .lst xs, .lst ys, h1, h2 => by
    have := toPyL_eqv xs ys (by simpa [D.ok] using h1) (by simpa [D.ok] using h2)
    simpa [D.toPy, PyData.eqv, D.eqv] using this
  | .dct _, _, h, _ => by simp [D.ok] at h
  | .obj _, _, h, _ => by simp [D.ok] at h
  | .nm _, _, h, _ => by simp [D.ok] at h
  | .non, e, _, h => by cases e <;> simp [D.ok] at h <;> simp [D.toPy, PyData.eqv, D.eqv]
  | .bl _, e, _, h => by cases e <;> simp [D.ok] at h <;> simp [D.toPy, PyData.eqv, D.eqv]
  | .int _, e, _, h => by cases e <;> simp [D.ok] at h <;> simp [D.toPy, PyData.eqv, D.eqv]
  | .str _, e, _, h => by cases e <;> simp [D.ok] at h <;> simp [D.toPy, PyData.eqv, D.eqv]
  | .tup _, .non, _, _ => by simp [D.toPy, PyData.eqv, D.eqv]
  | .tup _, .bl _, _, _ => by simp [D.toPy, PyData.eqv, D.eqv]
  | .tup _, .int _, _, _ => by simp [D.toPy, PyData.eqv, D.eqv]
  | .tup _, .str _, _, _ => by simp [D.toPy, PyData.eqv, D.eqv]
  | .tup _, .lst _, _, _ => by simp [D.toPy, PyData.eqv, D.eqv]
  | .tup _, .dct _, _, h => by simp [D.ok] at h
  | .tup _, .obj _, _, h => by simp [D.ok] at h
  | .tup _, .nm _, _, h => by simp [D.ok] at h
  | .lst _, .non, _, _ => by simp [D.toPy, PyData.eqv, D.eqv]
  | .lst _, .bl _, _, _ => by simp [D.toPy, PyData.eqv, D.eqv]
  | .lst _, .int _, _, _ => by simp [D.toPy, PyData.eqv, D.eqv]
  | .lst _, .str _, _, _ => by simp [D.toPy, PyData.eqv, D.eqv]
  | .lst _, .tup _, _, _ => by simp [D.toPy, PyData.eqv, D.eqv]
  | .lst _, .dct _, _, h => by simp [D.ok] at h
  | .lst _, .obj _, _, h => by simp [D.ok] at h
  | .lst _, .nm _, _, h => by simp [D.ok] at h
theorem toPyL_eqv : ∀ ds es : List D, D.okL ds = true → D.okL es = true → PyData.eqvAll (D.toPyL ds) (D.toPyL es) = D.eqvL ds es
  | [], [], _, _ => by simp [D.toPyL, PyData.eqvAll, D.eqvL]
  | [], _ :: _, _, _ => by simp [D.toPyL, PyData.eqvAll, D.eqvL]
  | _ :: _, [], _, _ => by simp [D.toPyL, PyData.eqvAll, D.eqvL]
  | d :: ds, e :: es, h1, h2 => by
    have h1' : d.ok = true ∧ D.okL ds = true := by simpa [D.okL] using h1
    have h2' : e.ok = true ∧ D.okL es = true := by simpa [D.okL] using h2
    simp [D.toPyL, PyData.eqvAll, D.eqvL, toPy_eqv d e h1'.1 h2'.1, toPyL_eqv ds es h1'.2 h2'.2]
end
section
variable {K : PySem.W.Frag} {I : List Addr} {F H : Hp}
mutual
theorem Rep.dp : ∀ (d : D) (v : V), d.ok = true → Rep K I F v d → Dp K F v d.toPy
  | .non, _, _, h => by cases h; simp only [D.toPy]; exact .non
  | .bl b, _, _, h => by cases h; simp only [D.toPy]; exact .bl b
  | .int i, _, _, h => by cases h; simp only [D.toPy]; exact .int i
  | .str x, _, _, h => by cases h; simp only [D.toPy]; exact .str x
  | .tup ds, _, o, h => by
    cases h with
    | tup q r => simp only [D.toPy]; exact .tup q.sq (RepL.dp ds _ (by simpa [D.ok] using o) r)
  | .lst ds, _, o, h => by
    cases h with
    | lst q r => simp only [D.toPy]; exact .lst q (RepL.dp ds _ (by simpa [D.ok] using o) r)
  | .dct _, _, o, _ => by simp [D.ok] at o
  | .obj _, _, o, _ => by simp [D.ok] at o
  | .nm _, _, o, _ => by simp [D.ok] at o
theorem RepL.dp : ∀ (ds : List D) (vs : List V), D.okL ds = true → RepL K I F vs ds → DpAll K F vs (D.toPyL ds)
  | [], _, _, h => by cases h; simp only [D.toPyL]; exact .nil
  | d :: ds, _, o, h => by
    have o' : d.ok = true ∧ D.okL ds = true := by simpa [D.okL] using o
    cases h with
    | cons a b => simp only [D.toPyL]; exact .cons (Rep.dp d _ o'.1 a) (RepL.dp ds _ o'.2 b)
end
theorem repL_le {F' : Hp} {vs : List V} {ds : List D} (le : Le F F') (r : RepL K I F vs ds) : RepL K I F' vs ds := RepL.mono le (List.prefix_refl _) _ _ r
theorem RW.dp {v : V} {d : D} (h : RW K I F H v d) (hs : Same F H) (o : d.ok = true) : Dp K H v d.toPy := by
  have le : Le F H := Le.of_same hs
  cases h with
  | r q => exact Rep.dp d v o (Rep.mono le (List.prefix_refl _) _ _ q)
  | o hh q e =>
    cases q with
    | lst r =>
      cases e
      simp only [D.toPy]
      exact .lst (SqL.of hh) (RepL.dp _ _ (by simpa [D.ok] using o) (repL_le le r))
    | dK r => cases e; simp [D.ok] at o
    | dT r => cases e; simp [D.ok] at o
    | ins r => cases e
end
def scalD : D → D → Bool
  | .non, .non => true | .non, .int _ => true | .int _, .non => true | .non, .bl _ => true | .bl _, .non => true | .non, .str _ => true | .str _, .non => true
  | .int _, .int _ => true | .bl _, .bl _ => true | .str _, .str _ => true
  | .int _, .str _ => true | .str _, .int _ => true | .bl _, .str _ => true | .str _, .bl _ => true
  | _, _ => false
def canEq (x y : D) : Bool := scalD x y || (x.ok && y.ok && decide (x.dep ≤ 64) && decide (y.dep ≤ 64))
def dEq (x y : D) : Option D := if canEq x y = true then some (.bl (D.eqv x y)) else none
def dNe (x y : D) : Option D := if canEq x y = true then some (.bl (!D.eqv x y)) else none
theorem scal_eqv {K : PySem.W.Frag} {I : List Addr} {F H : Hp} {v w : V} {x y : D} (h : scalD x y = true) (rv : RW K I F H v x) (rw_ : RW K I F H w y) : scal v w = true ∧ decide (v = w) = D.eqv x y := by
  cases x <;> cases y <;> first
    | (cases h; done)
    | (first
        | rw [rv.non] | rw [rv.int] | rw [rv.bl] | rw [rv.str]
       first
        | rw [rw_.non] | rw [rw_.int] | rw [rw_.bl] | rw [rw_.str]
       refine ⟨rfl, ?_⟩
       simp [D.eqv]
       try rfl)
theorem shaped_of {d : D} (h1 : d.ok = true) (h2 : d.dep ≤ 64) : SeqAt.shaped d.toPy = true := by
  unfold SeqAt.shaped
  rw [toPy_lay d h1, toPy_dep d h1]
  simpa using h2
section
variable {X : Cx} {W : WX} {a b : Expr} {oa ob : Opd} {pos : Pos}
theorem canEq_cases {x y : D} (h : canEq x y = true) : scalD x y = true ∨ (x.ok = true ∧ y.ok = true ∧ x.dep ≤ 64 ∧ y.dep ≤ 64) := by
  unfold canEq at h
  rw [Bool.or_eq_true, Bool.and_eq_true, Bool.and_eq_true, Bool.and_eq_true, decide_eq_true_eq, decide_eq_true_eq] at h
  rcases h with h | ⟨⟨⟨h1, h2⟩, h3⟩, h4⟩
  · exact .inl h
  · exact .inr ⟨h1, h2, h3, h4⟩
theorem ops_eq : OpS X (fun x y H Q => rEq x y H Q ∨ rEqD X.K x y H Q) dEq := by
  intro g I F s σ H Q x y dx dy d sm rx ry e q
  unfold dEq at e
  by_cases h : canEq dx dy = true
  · rw [if_pos h] at e
    cases e
    rcases canEq_cases h with h | ⟨h1, h2, h3, h4⟩
    · obtain ⟨k1, k2⟩ := scal_eqv h rx ry
      exact .inl ⟨k1, by rw [k2]; exact q _ F H sm (.bl _)⟩
    · exact .inr ⟨dx.toPy, dy.toPy, rx.dp sm.sub h1, ry.dp sm.sub h2, shaped_of h1 h3, shaped_of h2 h4, by rw [toPy_eqv dx dy h1 h2]; exact q _ F H sm (.bl _)⟩
  · rw [if_neg h] at e
    cases e
theorem ops_ne : OpS X (fun x y H Q => rNe x y H Q ∨ rNeD X.K x y H Q) dNe := by
  intro g I F s σ H Q x y dx dy d sm rx ry e q
  unfold dNe at e
  by_cases h : canEq dx dy = true
  · rw [if_pos h] at e
    cases e
    rcases canEq_cases h with h | ⟨h1, h2, h3, h4⟩
    · obtain ⟨k1, k2⟩ := scal_eqv h rx ry
      exact .inl ⟨k1, by rw [k2]; exact q _ F H sm (.bl _)⟩
    · exact .inr ⟨dx.toPy, dy.toPy, rx.dp sm.sub h1, ry.dp sm.sub h2, shaped_of h1 h3, shaped_of h2 h4, by rw [toPy_eqv dx dy h1 h2]; exact q _ F H sm (.bl _)⟩
  · rw [if_neg h] at e
    cases e
theorem room64 {k : Nat} {A : Around} (h : Room k A) : A.units + 64 < cLine := h.units
theorem room65 {k : Nat} {A : Around} (h : Room k A) : A.units + 65 < cLine := by have := h.un; omega
theorem se_eq {k : Nat} (hr : Room k X.A) (ha : SO X W a oa) (hb : SO X W b ob) : SE X W (.Compare a [.Eq] [b] pos) (e2 dEq oa ob) := se_cmp (OpR.or op_eq (op_eqD (room64 hr))) ops_eq ha hb (nomark _)
theorem se_ne {k : Nat} (hr : Room k X.A) (ha : SO X W a oa) (hb : SO X W b ob) : SE X W (.Compare a [.NotEq] [b] pos) (e2 dNe oa ob) := se_cmp (OpR.or op_ne (op_neD (room64 hr))) ops_ne ha hb (nomark _)
theorem se_eqgt {k : Nat} {c : Expr} {oc : Opd} (hr : Room k X.A) (ha : SO X W a oa) (hb : SO X W b ob) (hc : SO X W c oc) (hm : lastMarks [.Eq, .Gt] [b, c] = false := by with_unfolding_all rfl) : SE X W (.Compare a [.Eq, .Gt] [b, c] pos) (eChain dEq dGt oa ob oc) :=
  se_chain (OpR.or op_eq (op_eqD (room64 hr))) or_gt ops_eq ops_cmp (fun x y d e => by unfold dEq at e; split at e <;> cases e; exact ⟨_, rfl⟩) ha hb hc hm

end
end Fw
namespace Fw
open PySem L2

/-! ### is None, is True, is False -/
def D.isNon : D → Bool
  | .non => true
  | _ => false
def D.isBl (b : Bool) : D → Bool
  | .bl c => c == b
  | _ => false
def dIs (neg : Bool) : D → D → Option D
  | x, .non => some (.bl (neg != x.isNon))
  | x, .bl b => some (.bl (neg != x.isBl b))
  | _, _ => none
section
variable {X : Cx} {W : WX} {a b e : Expr} {oa ob : Opd} {pos p : Pos}
def rIs (neg : Bool) : R2 := fun x y H Q => (y = .non ∧ Q (.bl (neg != decide (x = .non))) H) ∨ ∃ k, y = .bl k ∧ Q (.bl (neg != decide (x = .bl k))) H
theorem is_bool_gen {M : Model} {A : Around} {E : Value → Shared → Prop} {s : Shared} {Q : Value → Shared → Prop} {x : V} {v : Value} {k : Bool} (r : RelV x v) (h : Q (.bool (decide (x = .bl k))) s) : wpAny M A (compareOp .Is v (.bool k)) Q E s := by
  have go : ∀ u : Value, (u == Value.bool k) = decide (x = .bl k) → wpAny M A (pure (u == Value.bool k)) (fun b s => Q (.bool b) s) E s := fun u e => wpAny_pure (by rw [e]; exact h)
  cases x with
  | non => cases r; exact wpAny_pure h
  | bl c =>
    cases r
    have e : (Value.bool c == Value.bool k) = decide (V.bl c = V.bl k) := by cases c <;> cases k <;> rfl
    have h' : Q (.bool (Value.bool c == Value.bool k)) s := by rw [e]; exact h
    exact wpAny_pure h'
  | int i => obtain ⟨t, rfl⟩ := r; exact wpAny_pure h
  | str i => obtain ⟨t, rfl⟩ := r; exact wpAny_pure h
  | byt i => obtain ⟨t, rfl⟩ := r; exact wpAny_pure h
  | flt i => obtain ⟨t, rfl⟩ := r; exact wpAny_pure h
  | ref i => cases r; exact wpAny_pure h
  | ty i => cases r; exact wpAny_pure h
theorem isnot_bool_gen {M : Model} {A : Around} {E : Value → Shared → Prop} {s : Shared} {Q : Value → Shared → Prop} {x : V} {v : Value} {k : Bool} (r : RelV x v) (h : Q (.bool (!decide (x = .bl k))) s) : wpAny M A (compareOp .IsNot v (.bool k)) Q E s := by
  cases x with
  | non => cases r; exact wpAny_pure h
  | bl c =>
    cases r
    have e : (Value.bool c == Value.bool k) = decide (V.bl c = V.bl k) := by cases c <;> cases k <;> rfl
    have h' : Q (.bool (!(Value.bool c == Value.bool k))) s := by rw [e]; exact h
    exact wpAny_pure h'
  | int i => obtain ⟨t, rfl⟩ := r; exact wpAny_pure h
  | str i => obtain ⟨t, rfl⟩ := r; exact wpAny_pure h
  | byt i => obtain ⟨t, rfl⟩ := r; exact wpAny_pure h
  | flt i => obtain ⟨t, rfl⟩ := r; exact wpAny_pure h
  | ref i => cases r; exact wpAny_pure h
  | ty i => cases r; exact wpAny_pure h
theorem op_isA : OpR X (compareOp .Is) (rIs false) := by
  intro pins s σ H x y v u Q I rx ry h
  rcases h with ⟨rfl, q⟩ | ⟨k, rfl, q⟩
  · exact op_isN pins s σ H x .non v u Q I rx ry ⟨rfl, by simpa using q⟩
  · cases ry
    exact is_bool_gen rx ⟨.bl _, H, I, rfl, by simpa using q⟩
theorem op_isnotA : OpR X (compareOp .IsNot) (rIs true) := by
  intro pins s σ H x y v u Q I rx ry h
  rcases h with ⟨rfl, q⟩ | ⟨k, rfl, q⟩
  · exact op_notN pins s σ H x .non v u Q I rx ry ⟨rfl, by simpa using q⟩
  · cases ry
    exact isnot_bool_gen rx ⟨.bl _, H, I, rfl, by simpa using q⟩
theorem RW.isNon {K : PySem.W.Frag} {I : List Addr} {F H : Hp} {v : V} {d : D} (h : RW K I F H v d) : decide (v = .non) = d.isNon := by
  cases h with
  | r q => cases q <;> rfl
  | o _ q e => cases q <;> cases e <;> rfl
theorem RW.isBl {K : PySem.W.Frag} {I : List Addr} {F H : Hp} {v : V} {d : D} {b : Bool} (h : RW K I F H v d) : decide (v = .bl b) = d.isBl b := by
  cases h with
  | r q =>
    cases q with
    | bl c => cases c <;> cases b <;> rfl
    | _ => rfl
  | o _ q e => cases q <;> cases e <;> rfl
theorem ops_is {neg : Bool} : OpS X (rIs neg) (dIs neg) := by
  intro g I F s σ H Q x y dx dy d sm rx ry e q
  unfold dIs at e
  split at e
  · cases e
    exact .inl ⟨ry.non, by rw [rx.isNon]; exact q _ F H sm (.bl _)⟩
  · cases e
    exact .inr ⟨_, ry.bl, by rw [rx.isBl]; exact q _ F H sm (.bl _)⟩
  · cases e
theorem se_is (ha : SO X W a oa) (hb : SO X W b ob) : SE X W (.Compare a [.Is] [b] pos) (e2 (dIs false) oa ob) := se_cmp op_isA ops_is ha hb (nomark _)
theorem se_isnot (ha : SO X W a oa) (hb : SO X W b ob) : SE X W (.Compare a [.IsNot] [b] pos) (e2 (dIs true) oa ob) := se_cmp op_isnotA ops_is ha hb (nomark _)

/-! ### in -/
def D.flat : D → Bool
  | .non | .bl _ | .int _ | .str _ => true
  | _ => false
def inL (x : D) (ds : List D) : Bool := ds.any fun y => D.eqv y x
def canIn (x : D) (ds : List D) : Bool := (x.flat && ds.all D.flat) || (x.ok && D.okL ds && decide (x.dep ≤ 64) && decide (D.depL ds ≤ 60))
def inStr (x z : Str) : Bool := match x.cps.toList with
  | [c] => decide (c ∈ z.cps.toList)
  | _ => !(Builtin.Str.occurrences z x 0 z.length 1).isEmpty
def dIn (neg : Bool) : D → D → Option D
  | x, .lst ds => if canIn x ds = true then some (.bl (neg != inL x ds)) else none
  | x, .tup ds => if canIn x ds = true then some (.bl (neg != inL x ds)) else none
  | .str x, .str z => some (.bl (neg != inStr x z))
  | _, _ => none
theorem RW.flat {K : PySem.W.Frag} {I : List Addr} {F H : Hp} {v : V} {d : D} (h : RW K I F H v d) (f : d.flat = true) : flatV v = true := by
  cases d with
  | non => rw [h.non]; rfl
  | bl c => rw [h.bl]; rfl
  | int c => rw [h.int]; rfl
  | str c => rw [h.str]; rfl
  | tup _ => cases f
  | lst _ => cases f
  | dct _ => cases f
  | obj _ => cases f
  | nm _ => cases f
theorem RepL.flat {K : PySem.W.Frag} {I : List Addr} {F H : Hp} : ∀ {vs : List V} {ds : List D}, RepL K I F vs ds → ds.all D.flat = true → vs.all flatV = true
  | _, _, .nil, _ => rfl
  | _, _, .cons (d := d) (ds := ds) a b, f => by
    have f' : d.flat = true ∧ ds.all D.flat = true := by simpa using f
    simp only [List.all_cons, Bool.and_eq_true]
    exact ⟨RW.flat (H := H) (.r a) f'.1, RepL.flat (H := H) b f'.2⟩
theorem flat_eqv {K : PySem.W.Frag} {I : List Addr} {F H : Hp} {v w : V} {d e : D} (h : RW K I F H v d) (h' : RW K I F H w e) (f : d.flat = true) (f' : e.flat = true) : eqV v w = D.eqv d e := by
  cases d <;> cases e <;> first
    | (cases f; done)
    | (cases f'; done)
    | (first
        | rw [h.non] | rw [h.int] | rw [h.bl] | rw [h.str]
       first
        | rw [h'.non] | rw [h'.int] | rw [h'.bl] | rw [h'.str]
       simp [D.eqv, eqV])
theorem inV_eq {K : PySem.W.Frag} {I : List Addr} {F H : Hp} {v : V} {d : D} (h : RW K I F H v d) (f : d.flat = true) : ∀ {vs : List V} {ds : List D}, RepL K I F vs ds → ds.all D.flat = true → inV v vs = inL d ds
  | _, _, .nil, _ => rfl
  | _, _, .cons (d := d') (ds := ds) a b, f' => by
    have f2 : d'.flat = true ∧ ds.all D.flat = true := by simpa using f'
    have ih := inV_eq h f b f2.2
    unfold inV inL at ih ⊢
    rw [List.any_cons, List.any_cons, ih, flat_eqv (.r a) h f2.1 f]
theorem inL_py {d : D} (h : d.ok = true) : ∀ {ds : List D}, D.okL ds = true → ((D.toPyL ds).any fun z => PyData.eqv z d.toPy) = inL d ds
  | [], _ => by simp [D.toPyL, inL]
  | e :: ds, o => by
    have o' : e.ok = true ∧ D.okL ds = true := by simpa [D.okL] using o
    have ih := inL_py h o'.2
    unfold inL at ih ⊢
    simp only [D.toPyL]
    rw [List.any_cons, List.any_cons, ih, toPy_eqv e d o'.1 h]
/-- x in t, t a tuple of data of any depth -/
def rInT (K : PySem.W.Frag) (neg : Bool) : R2 := fun x y H Q => ∃ d ds, Dp K H x d ∧ Dp K H y (.tuple ds) ∧ SeqAt.shaped d = true ∧ SeqAt.shaped (.tuple ds) = true ∧ Q (.bl (neg != ds.any fun z => PyData.eqv z d)) H
theorem op_inT (hu : X.A.units + 65 < cLine) : OpR X (compareOp .In) (rInT X.K false) := by
  intro pins s σ H x y v u Q I rx ry h
  obtain ⟨d, ds, hd, he, sd, se, q⟩ := h
  obtain ⟨as, r1⟩ := Dp.reads I d x v hd rx
  obtain ⟨bs, r2⟩ := Dp.reads I (.tuple ds) y u he ry
  refine SeqAt.in_tuple_reads r2 r1 (SeqAt.canLay_of_shaped se) (SeqAt.canLay_of_shaped sd) ?_ ⟨.bl _, H, I, rfl, by simpa using q⟩
  have h1 := SeqAt.depth_of_shaped sd
  have h2 : min (PyData.depthAll ds) d.depth ≤ d.depth := Nat.min_le_right _ _
  omega
theorem op_notInT (hu : X.A.units + 65 < cLine) : OpR X (compareOp .NotIn) (rInT X.K true) := by
  intro pins s σ H x y v u Q I rx ry h
  obtain ⟨d, ds, hd, he, sd, se, q⟩ := h
  obtain ⟨as, r1⟩ := Dp.reads I d x v hd rx
  obtain ⟨bs, r2⟩ := Dp.reads I (.tuple ds) y u he ry
  refine SeqAt.notIn_tuple_reads r2 r1 (SeqAt.canLay_of_shaped se) (SeqAt.canLay_of_shaped sd) ?_ ⟨.bl _, H, I, rfl, by simpa using q⟩
  have h1 := SeqAt.depth_of_shaped sd
  have h2 : min (PyData.depthAll ds) d.depth ≤ d.depth := Nat.min_le_right _ _
  omega
theorem shapedL {ds : List D} (h1 : D.okL ds = true) (h2 : D.depL ds ≤ 60) : SeqAt.shaped (D.toPy (.lst ds)) = true ∧ SeqAt.shaped (D.toPy (.tup ds)) = true := by
  refine ⟨shaped_of (by simpa [D.ok] using h1) ?_, shaped_of (by simpa [D.ok] using h1) ?_⟩ <;> (simp only [D.dep]; omega)
theorem canIn_cases {x : D} {ds : List D} (h : canIn x ds = true) : (x.flat = true ∧ ds.all D.flat = true) ∨ (x.ok = true ∧ D.okL ds = true ∧ x.dep ≤ 64 ∧ D.depL ds ≤ 60) := by
  unfold canIn at h
  rw [Bool.or_eq_true, Bool.and_eq_true, Bool.and_eq_true, Bool.and_eq_true, Bool.and_eq_true, decide_eq_true_eq, decide_eq_true_eq] at h
  rcases h with h | ⟨⟨⟨h1, h2⟩, h3⟩, h4⟩
  · exact .inl h
  · exact .inr ⟨h1, h2, h3, h4⟩
abbrev rInA (K : PySem.W.Frag) (neg : Bool) : R2 := fun x y H Q => rIn K neg x y H Q ∨ ((if neg then rNotInD K else rInD K) x y H Q ∨ (rInT K neg x y H Q ∨
  ((∃ (c : Nat) (z : Str), x = .str ⟨#[c]⟩ ∧ y = .str z ∧ Q (.bl (neg != decide (c ∈ z.cps.toList))) H) ∨ ∃ i j, x = .str i ∧ y = .str j ∧ Q (.bl (neg != !(Builtin.Str.occurrences j i 0 j.length 1).isEmpty)) H)))
theorem op_inA (hu : X.A.units + 65 < cLine) : OpR X (compareOp .In) (rInA X.K false) := by
  intro pins s σ H x y v u Q I rx ry h
  rcases h with h | h | h | ⟨c, z, e1, e2, q⟩ | ⟨i, j, e1, e2, q⟩
  · exact op_in_seq pins s σ H x y v u Q I rx ry h
  · exact op_inD hu pins s σ H x y v u Q I rx ry h
  · exact op_inT hu pins s σ H x y v u Q I rx ry h
  · exact op_in_sign pins s σ H x y v u Q I rx ry ⟨c, z, e1, e2, by simpa using q⟩
  · exact op_in_str pins s σ H x y v u Q I rx ry ⟨i, j, e1, e2, by simpa using q⟩
theorem op_notInA (hu : X.A.units + 65 < cLine) : OpR X (compareOp .NotIn) (rInA X.K true) := by
  intro pins s σ H x y v u Q I rx ry h
  rcases h with h | h | h | ⟨c, z, e1, e2, q⟩ | ⟨i, j, e1, e2, q⟩
  · exact op_notIn_seq pins s σ H x y v u Q I rx ry h
  · exact op_notInD hu pins s σ H x y v u Q I rx ry h
  · exact op_notInT hu pins s σ H x y v u Q I rx ry h
  · exact op_notIn_sign pins s σ H x y v u Q I rx ry ⟨c, z, e1, e2, by simpa using q⟩
  · exact op_notin_str pins s σ H x y v u Q I rx ry ⟨i, j, e1, e2, by simpa using q⟩
theorem ops_in {neg : Bool} : OpS X (rInA X.K neg) (dIn neg) := by
  intro g I F s σ H Q x y dx dy d sm rx ry e q
  unfold dIn at e
  split at e
  · rename_i ds
    by_cases h : canIn dx ds = true
    · rw [if_pos h] at e
      cases e
      obtain ⟨p, vs, rfl, h1, r1⟩ := ry.lst sm.sub
      rcases canIn_cases h with ⟨f1, f2⟩ | ⟨o1, o2, o3, o4⟩
      · refine .inl ⟨p, vs, rfl, .inl h1, rx.flat f1, RepL.flat (H := H) r1 f2, ?_⟩
        rw [inV_eq rx f1 r1 f2]
        have := q _ F H sm (.bl (neg != inL dx ds))
        cases neg <;> simpa using this
      · refine .inr (.inl ?_)
        have hd := ry.dp sm.sub (by simpa [D.ok] using o2)
        simp only [D.toPy] at hd
        have sh := (shapedL o2 o4).1
        simp only [D.toPy] at sh
        have e := inL_py o1 o2
        cases neg with
        | false => exact ⟨dx.toPy, D.toPyL ds, rx.dp sm.sub o1, hd, shaped_of o1 o3, sh, by rw [e]; simpa using q _ F H sm (.bl (false != inL dx ds))⟩
        | true => exact ⟨dx.toPy, D.toPyL ds, rx.dp sm.sub o1, hd, shaped_of o1 o3, sh, by rw [e]; simpa using q _ F H sm (.bl (true != inL dx ds))⟩
    · rw [if_neg h] at e
      cases e
  · rename_i ds
    by_cases h : canIn dx ds = true
    · rw [if_pos h] at e
      cases e
      obtain ⟨p, vs, rfl, h1, r1, _⟩ := ry.tup sm.sub
      rcases canIn_cases h with ⟨f1, f2⟩ | ⟨o1, o2, o3, o4⟩
      · refine .inl ⟨p, vs, rfl, .inr h1, rx.flat f1, RepL.flat (H := H) r1 f2, ?_⟩
        rw [inV_eq rx f1 r1 f2]
        have := q _ F H sm (.bl (neg != inL dx ds))
        cases neg <;> simpa using this
      · refine .inr (.inr (.inl ?_))
        have hd := ry.dp sm.sub (by simpa [D.ok] using o2)
        simp only [D.toPy] at hd
        have sh := (shapedL o2 o4).2
        simp only [D.toPy] at sh
        exact ⟨dx.toPy, D.toPyL ds, rx.dp sm.sub o1, hd, shaped_of o1 o3, sh, by rw [inL_py o1 o2]; exact q _ F H sm (.bl _)⟩
    · rw [if_neg h] at e
      cases e
  · rename_i i j
    cases e
    have q' := q _ F H sm (.bl (neg != inStr i j))
    unfold inStr at q'
    split at q'
    · rename_i c hc
      have hi : i = ⟨#[c]⟩ := by
        obtain ⟨cps⟩ := i
        have : cps = #[c] := Array.ext' (by simpa using hc)
        rw [this]
      exact .inr (.inr (.inr (.inl ⟨c, j, by rw [rx.str, hi], ry.str, q'⟩)))
    · exact .inr (.inr (.inr (.inr ⟨_, _, rx.str, ry.str, q'⟩)))
  · cases e
theorem se_in {k : Nat} (hr : Room k X.A) (ha : SO X W a oa) (hb : SO X W b ob) (hm : behindInMarks .In b = false := by rfl) : SE X W (.Compare a [.In] [b] pos) (e2 (dIn false) oa ob) := se_cmp (op_inA (room65 hr)) ops_in ha hb hm
theorem se_notin {k : Nat} (hr : Room k X.A) (ha : SO X W a oa) (hb : SO X W b ob) (hm : behindInMarks .NotIn b = false := by rfl) : SE X W (.Compare a [.NotIn] [b] pos) (e2 (dIn true) oa ob) := se_cmp (op_notInA (room65 hr)) ops_in ha hb hm

/-! ### a[i] -/
def dIx : D → D → Option D
  | .tup ds, .int i => atI ds i
  | .lst ds, .int i => atI ds i
  | .str z, .int i => if z.length ≤ sizeLine then (atI z.cps.toList i).map fun c => .str ⟨#[c]⟩ else none
  | _, _ => none
theorem repL_at {K : PySem.W.Frag} {I : List Addr} {F : Hp} {vs : List V} {ds : List D} {i : Int} {d : D} (r : RepL K I F vs ds) (e : atI ds i = some d) : ∃ v, atI vs i = some v ∧ Rep K I F v d := by
  unfold atI at e ⊢
  rw [r.length]
  cases h : ixN ds.length i with
  | none => rw [h] at e; cases e
  | some j => rw [h] at e; exact r.get e
theorem ops_ix : OpS X (rIx X.K) dIx := by
  intro g I F s σ H Q x y dx dy d sm rx ry e q
  unfold dIx at e
  split at e
  · obtain ⟨p, vs, rfl, h1, r1, _⟩ := rx.tup sm.sub
    obtain ⟨v, h2, r2⟩ := repL_at r1 e
    exact .inr (.inl ⟨p, vs, _, v, rfl, ry.int, h1, h2, q _ F H sm r2⟩)
  · obtain ⟨p, vs, rfl, h1, r1⟩ := rx.lst sm.sub
    obtain ⟨v, h2, r2⟩ := repL_at r1 e
    exact .inl ⟨p, vs, _, v, rfl, ry.int, h1, h2, q _ F H sm r2⟩
  · rename_i z i
    by_cases h : z.length ≤ sizeLine
    · rw [if_pos h] at e
      cases h2 : atI z.cps.toList i with
      | none => rw [h2] at e; cases e
      | some c =>
        rw [h2] at e
        cases e
        exact .inr (.inr ⟨z, i, c, rx.str, ry.int, h, h2, q _ F H sm (.str _)⟩)
    · rw [if_neg h] at e
      cases e
  · cases e
theorem se_at (ha : SO X W a oa) (hb : SO X W b ob) (hx : PlainIx b := by exact fun _ _ => rfl) : SE X W (.Subscript a b pos) (e2 dIx oa ob) := se_ix ix_seq ops_ix ha hb hx
end
end Fw
namespace Fw
open PySem L2

/-! ### a[lo:hi] -/
def cutD (xs : List D) (lo hi : Option Int) : List D := (xs.drop (HT.sIx xs.length 0 lo)).take (HT.sIx xs.length xs.length hi - HT.sIx xs.length 0 lo)
def dSl (lo hi : Option Int) : D → Option D
  | .tup ds => some (.tup (cutD ds lo hi))
  | .lst ds => some (.lst (cutD ds lo hi))
  | .str z => if z.length ≤ sizeLine then some (.str (cutS z lo hi)) else none
  | _ => none
def poEv : Option Opd → M (Option Int)
  | none => fun s => .ok none s
  | some o => fun s => (o.ev s).bnd fun r s => match r.rd s with
    | some (.int i) => .ok (some i) s
    | _ => .stuck
def eSl (a : Opd) (lo hi : Option Opd) : M D := fun s => (a.ev s).bnd fun x s => (poEv lo s).bnd fun l s => (poEv hi s).bnd fun h => rd1 x fun d => lift1 (dSl l h d)
section
variable {X : Cx} {W : WX} {a b e : Expr} {oa ob : Opd} {pos p p2 : Pos}
def PoP (X : Cx) (W : WX) (g : Gh) (σ : St) (o : Out (Option Int)) (Q : Option Int → Hp → Prop) : Prop := match o with
  | .ok r s => ∀ I F H, Sim X.K g I F s σ H → Q r H
  | .ex c s => ∀ I F H u, Sim X.K g I F s σ H → X.mg c = some u → W u none σ H
  | .stuck => False
def SPt (X : Cx) (W : WX) (e : Option Expr) (o : Option Opd) : Prop := ∃ t, PO X e t ∧ ∀ g I F s σ H Q, Sim X.K g I F s σ H → PoP X W g σ (poEv o s) Q → t σ H Q
theorem sp_none : SPt X W none none := ⟨_, po_none, fun g I F s σ H Q x hq => hq _ _ _ x⟩
theorem sp_some (h : SO X W a oa) : SPt X W (some a) (some oa) := by
  obtain ⟨t, a1, a2⟩ := h
  refine ⟨_, po_some a1, fun g I F s σ H Q x hq => ?_⟩
  refine one (R := fun v H1 => ∃ i, v = .int i ∧ Q (some i) H1) (Po := fun o => PoP X W g σ o Q) (k := fun d s => match d with
    | .int i => .ok (some i) s
    | _ => .stuck) a2 (fun c s q => q) (fun q => q) x ?_ fun I F s H v dx x rv q => ?_
  · have e1 : poEv (some oa) s = (oa.ev s).bnd fun r s => match r.rd s with
      | some (.int i) => .ok (some i) s
      | _ => .stuck := rfl
    rw [e1] at hq
    cases e2 : oa.ev s with
    | stuck => rw [e2] at hq; exact hq
    | ex c s1 => rw [e2] at hq; exact hq
    | ok r s1 =>
      rw [e2] at hq
      simp only [bnd_ok] at hq ⊢
      unfold rd1
      cases e3 : r.rd s1 with
      | none => simp only [e3] at hq; exact hq
      | some d => cases d <;> (simp only [e3] at hq; exact hq)
  · cases dx with
    | int i => exact ⟨i, rv.int, q _ _ _ x⟩
    | _ => exact q.elim
def SlS (X : Cx) (r : V → Option Int → Option Int → Hp → VK → Prop) : Prop := ∀ g I F s σ H Q x dx d lo hi, Sim X.K g I F s σ H → RW X.K I F H x dx → dSl lo hi dx = some d →
  (∀ v F' H', Sim X.K g I F' s σ H' → Rep X.K I F' v d → Q v H') → r x lo hi H Q
theorem RepL.take {K : PySem.W.Frag} {I : List Addr} {F : Hp} : ∀ (n : Nat) {vs : List V} {ds : List D}, RepL K I F vs ds → RepL K I F (vs.take n) (ds.take n)
  | 0, _, _, _ => .nil
  | _ + 1, _, _, .nil => .nil
  | n + 1, _, _, .cons a b => .cons a (RepL.take n b)
theorem RepL.drop {K : PySem.W.Frag} {I : List Addr} {F : Hp} : ∀ (n : Nat) {vs : List V} {ds : List D}, RepL K I F vs ds → RepL K I F (vs.drop n) (ds.drop n)
  | 0, _, _, h => h
  | _ + 1, _, _, .nil => .nil
  | n + 1, _, _, .cons _ b => RepL.drop n b
theorem RepL.cut {K : PySem.W.Frag} {I : List Addr} {F : Hp} {vs : List V} {ds : List D} {lo hi : Option Int} (r : RepL K I F vs ds) : RepL K I F (cutV vs lo hi) (cutD ds lo hi) := by
  unfold cutV cutD
  rw [r.length]
  exact (r.drop _).take _
theorem cutD_whole {ds : List D} {lo hi : Option Int} (h : HT.sIx ds.length 0 lo = 0 ∧ HT.sIx ds.length ds.length hi = ds.length) : cutD ds lo hi = ds := by
  unfold cutD
  rw [h.1, h.2]
  simp
abbrev rSlAll (K : PySem.W.Frag) : V → Option Int → Option Int → Hp → VK → Prop := fun x lo hi H Q => rSlA K x lo hi H Q ∨ (rSlL K x lo hi H Q ∨ rSlS x lo hi H Q)
theorem sls_all : SlS X (rSlAll X.K) := by
  intro g I F s σ H Q x dx d lo hi sm rx e q
  cases dx with
  | tup ds =>
    cases e
    obtain ⟨p, vs, rfl, h1, r1, f1⟩ := rx.tup sm.sub
    refine .inl ⟨p, vs, rfl, h1, fun hw => ?_, fun hw p hp => ?_⟩
    · rw [r1.length] at hw
      rw [cutD_whole hw] at q
      exact q _ F H sm (.tup f1 r1)
    · obtain ⟨x2, le⟩ := sm.alloc (o := .tup (cutV vs lo hi)) hp
      exact q _ _ _ x2 (.tup (TupAt.of upd_same) (repL_le le r1.cut))
  | lst ds =>
    cases e
    obtain ⟨p, vs, rfl, h1, r1⟩ := rx.lst sm.sub
    refine .inr (.inl ⟨p, vs, rfl, h1, fun p hp => ?_⟩)
    obtain ⟨x2, le⟩ := sm.alloc (o := .lst (cutV vs lo hi)) hp
    exact q _ _ _ x2 (.lst (SqL.of upd_same) (repL_le le r1.cut))
  | str z =>
    have e' : (if z.length ≤ sizeLine then some (D.str (cutS z lo hi)) else none) = some d := e
    by_cases h : z.length ≤ sizeLine
    · rw [if_pos h] at e'
      cases e'
      exact .inr (.inr ⟨z, rx.str, h, q _ F H sm (.str _)⟩)
    · rw [if_neg h] at e'
      cases e'
  | non => cases e
  | bl _ => cases e
  | int _ => cases e
  | dct _ => cases e
  | obj _ => cases e
  | nm _ => cases e
theorem sl_core {ta : TE} {tl th : TO} {r : V → Option Int → Option Int → Hp → VK → Prop} {lo hi : Option Opd} {α : Type} {k : Option Int → Option Int → D → M α} {Po : Out α → Prop} {g : Gh} {σ : St}
    (a2 : ∀ g I F s σ H Q, Sim X.K g I F s σ H → PoO X W g σ (oa.ev s) Q → ta σ H Q) (l2 : ∀ g I F s σ H Q, Sim X.K g I F s σ H → PoP X W g σ (poEv lo s) Q → tl σ H Q) (h2 : ∀ g I F s σ H Q, Sim X.K g I F s σ H → PoP X W g σ (poEv hi s) Q → th σ H Q)
    (hex : ∀ c s, Po (.ex c s) → ∀ I F H u, Sim X.K g I F s σ H → X.mg c = some u → W u none σ H) (hst : ¬ Po .stuck) {I : List Addr} {F H : Hp} {s : S} {Q : VK} (x : Sim X.K g I F s σ H)
    (hq : Po ((oa.ev s).bnd fun x s => (poEv lo s).bnd fun l s => (poEv hi s).bnd fun h => rd1 x fun d => k l h d))
    (fin : ∀ I F s H v d l h, Sim X.K g I F s σ H → RW X.K I F H v d → Po (k l h d s) → r v l h H Q) : tSl r ta tl th σ H Q := by
  refine a2 g I F s σ H _ x ?_
  cases e1 : oa.ev s with
  | stuck => rw [e1] at hq; exact hst hq
  | ex c s1 => rw [e1] at hq; exact hex c s1 hq
  | ok p s1 =>
    rw [e1, bnd_ok] at hq
    intro v I1 F1 H1 x1 r1
    refine l2 (g.at I1 F1) I1 F1 s1 σ H1 _ x1.here ?_
    cases e2 : poEv lo s1 with
    | stuck => rw [e2] at hq; exact hst hq
    | ex c s2 => rw [e2] at hq; exact fun I2 F2 H2 u x2 hu => hex c s2 hq _ _ _ _ (x1.back x2) hu
    | ok l s2 =>
      rw [e2, bnd_ok] at hq
      intro I2 F2 H2 x2
      have r2 := r1.later x2
      have x2 := x1.back x2
      refine h2 (g.at I2 F2) I2 F2 s2 σ H2 _ x2.here ?_
      cases e3 : poEv hi s2 with
      | stuck => rw [e3] at hq; exact hst hq
      | ex c s3 => rw [e3] at hq; exact fun I F H u x hu => hex c s3 hq _ _ _ _ (x2.back x) hu
      | ok h s3 =>
        rw [e3, bnd_ok] at hq
        intro I3 F3 H3 x3
        have r3 := r2.later x3
        have x3 := x2.back x3
        unfold rd1 at hq
        cases e4 : p.rd s3 with
        | none => simp only [e4] at hq; exact (hst hq).elim
        | some d =>
          simp only [e4] at hq
          exact fin _ _ _ _ _ _ _ _ x3 (r3.rw x3 e4) hq
theorem se_sl {lo hi : Option Expr} {ol oh : Option Opd} (ha : SO X W a oa) (hl : SPt X W lo ol) (hh : SPt X W hi oh) : SE X W (.Subscript a (.Slice lo hi none p2) pos) (eSl oa ol oh) := by
  obtain ⟨ta, a1, a2⟩ := ha
  obtain ⟨tl, l1, l2⟩ := hl
  obtain ⟨th, h1, h2⟩ := hh
  refine ⟨_, pe_slice (SlR.or sl_tupA (SlR.or sl_list sl_str)) a1 l1 h1, fun g I F s σ H Q x hq => ?_⟩
  refine sl_core (Po := fun o => PoE X W g σ o Q) (k := fun l h d => lift1 (dSl l h d)) a2 l2 h2 (fun c s q => q) (fun q => q) x hq fun I F s H v d l h x rv q => ?_
  unfold lift1 at q
  cases e : dSl l h d with
  | none => rw [e] at q; exact q.elim
  | some d' =>
    rw [e] at q
    exact sls_all g I F s σ H Q v d d' l h x rv e fun v F' H' x' r' => q v I F' H' x' r'
/-- a list's slice, a new list -/
def fSl (a : Opd) (lo hi : Option Opd) : M Ob := fun s => (a.ev s).bnd fun x s => (poEv lo s).bnd fun l s => (poEv hi s).bnd fun h => rd1 x fun d s => match d with
  | .lst ds => .ok (.lst (cutD ds l h)) s
  | _ => .stuck
theorem sf_sl {lo hi : Option Expr} {ol oh : Option Opd} (ha : SO X W a oa) (hl : SPt X W lo ol) (hh : SPt X W hi oh) : SF X W (.Subscript a (.Slice lo hi none p2) pos) (fSl oa ol oh) := by
  obtain ⟨ta, a1, a2⟩ := ha
  obtain ⟨tl, l1, l2⟩ := hl
  obtain ⟨th, h1, h2⟩ := hh
  refine ⟨_, pe_slice sl_list a1 l1 h1, fun g I F s σ H Q x hq => ?_⟩
  refine sl_core (α := Ob) (Po := fun o => PoF X W g σ o Q) (k := fun l h d s => match d with
    | .lst ds => .ok (Ob.lst (cutD ds l h)) s
    | _ => .stuck) a2 l2 h2 (fun c s q => q) (fun q => q) x hq fun I F s H v d l h x rv q => ?_
  cases d with
  | lst ds =>
    obtain ⟨p, vs, rfl, h1, r1⟩ := rv.lst x.sub
    exact ⟨p, vs, rfl, h1, fun p hp => q _ _ _ _ _ x hp (.lst r1.cut)⟩
  | _ => exact q.elim

/-! ### built-in functions of one operand -/
def CaS (X : Cx) (r : List V → Hp → VK → Prop) (op : D → Option D) : Prop := ∀ g I F s σ H Q x dx d, Sim X.K g I F s σ H → RW X.K I F H x dx → op dx = some d →
  (∀ v F' H', Sim X.K g I F' s σ H' → Rep X.K I F' v d → Q v H') → r [x] H Q
theorem se_c1 {c : Expr} {r : List V → Hp → VK → Prop} {op : D → Option D} (hp : ∀ {t : TA}, PA X [a] t → PE X c (tCB r t)) (hs : CaS X r op) (ha : SO X W a oa) (hst : starEach [a] X.env = (false, eval a X.env) :: starEach [] X.env := by rfl) : SE X W c (e1 op oa) := by
  obtain ⟨ta, a1, a2⟩ := ha
  refine ⟨_, hp (pa_cons a1 pa_nil hst), fun g I F s σ H Q x hq => ?_⟩
  refine one (R := fun v H1 => r [v] H1 Q) (Po := fun o => PoE X W g σ o Q) (k := fun d => lift1 (op d)) a2 (fun c s q => q) (fun q => q) x hq fun I F s H v dx x rv q => ?_
  unfold lift1 at q
  cases e : op dx with
  | none => rw [e] at q; exact q.elim
  | some d =>
    rw [e] at q
    exact hs g I F s σ H Q v dx d x rv e fun v F' H' x' r' => q v I F' H' x' r'
def CaF (X : Cx) (r : List V → Hp → VK → Prop) (op : D → Option Ob) : Prop := ∀ g I F s σ H Q x dx b, Sim X.K g I F s σ H → RW X.K I F H x dx → op dx = some b →
  (∀ I' F' H' p h, Sim X.K g I' F' s σ H' → H' p = none → HOR X.K I' F' h b → Q (.ref p) (upd H' p h)) → r [x] H Q
def f1 (op : D → Option Ob) (a : Opd) : M Ob := fun s => (a.ev s).bnd fun x => rd1 x fun d s => match op d with
  | some b => .ok b s
  | none => .stuck
theorem sf_c1 {c : Expr} {r : List V → Hp → VK → Prop} {op : D → Option Ob} (hp : ∀ {t : TA}, PA X [a] t → PE X c (tCB r t)) (hs : CaF X r op) (ha : SO X W a oa) (hst : starEach [a] X.env = (false, eval a X.env) :: starEach [] X.env := by rfl) : SF X W c (f1 op oa) := by
  obtain ⟨ta, a1, a2⟩ := ha
  refine ⟨_, hp (pa_cons a1 pa_nil hst), fun g I F s σ H Q x hq => ?_⟩
  refine one (R := fun v H1 => r [v] H1 Q) (Po := fun o => PoF X W g σ o Q) (k := fun d s => match op d with
    | some b => .ok b s
    | none => .stuck) a2 (fun c s q => q) (fun q => q) x hq fun I F s H v dx x rv q => ?_
  cases e : op dx with
  | none => simp only [e] at q; exact q.elim
  | some d =>
    simp only [e] at q
    exact hs g I F s σ H Q v dx d x rv e fun I' F' H' p h x' hp r' => q I' F' H' p h x' hp r'
def dLen : D → Option D
  | .tup ds => some (.int ds.length)
  | .lst ds => some (.int ds.length)
  | .str z => if z.length ≤ sizeLine then some (.int z.length) else none
  | _ => none
theorem ca_len : CaS X (fun xs H Q => ∃ x n, xs = [x] ∧ LenV X.K x H n ∧ Q (.int n) H) dLen := by
  intro g I F s σ H Q x dx d sm rx e q
  cases dx with
  | tup ds =>
    cases e
    obtain ⟨p, vs, rfl, h1, r1, f1⟩ := rx.tup sm.sub
    exact ⟨_, ds.length, rfl, .inr ⟨vs, h1, r1.length.symm⟩, q _ F H sm (.int _)⟩
  | lst ds =>
    cases e
    obtain ⟨p, vs, rfl, h1, r1⟩ := rx.lst sm.sub
    exact ⟨_, ds.length, rfl, .inl ⟨vs, h1, r1.length.symm⟩, q _ F H sm (.int _)⟩
  | str z =>
    have e' : (if z.length ≤ sizeLine then some (D.int z.length) else none) = some d := e
    by_cases h : z.length ≤ sizeLine
    · rw [if_pos h] at e'
      cases e'
      rw [rx.str]
      exact ⟨_, z.length, rfl, ⟨h, rfl⟩, q _ F H sm (.int _)⟩
    · rw [if_neg h] at e'
      cases e'
  | non => cases e
  | bl _ => cases e
  | int _ => cases e
  | dct _ => cases e
  | obj _ => cases e
  | nm _ => cases e
theorem se_len (hg : Gl X "len") (hm : X.mg "len" = none) (ha : SO X W a oa) (hst : starEach [a] X.env = (false, eval a X.env) :: starEach [] X.env := by rfl) : SE X W (.Call (.Name "len" p) [a] [] pos) (e1 dLen oa) :=
  se_c1 (fun h => pe_callB call_len hg hm PySem.boot_len h (he := hst)) ca_len ha hst
def dTuple : D → Option D
  | .tup ds => some (.tup ds)
  | .lst ds => some (.tup ds)
  | _ => none
theorem se_tuple (hg : Gl X "tuple") (hm : X.mg "tuple" = none) (ha : SO X W a oa) (hst : starEach [a] X.env = (false, eval a X.env) :: starEach [] X.env := by rfl) : SE X W (.Call (.Name "tuple" p) [a] [] pos) (e1 dTuple oa) := by
  refine se_c1 (fun h => pe_callTy call_tuple_of hg hm (by decide +kernel) h (he := hst)) ?_ ha hst
  intro g I F s σ H Q x dx d sm rx e q
  cases dx with
  | tup ds =>
    cases e
    obtain ⟨p, vs, rfl, h1, r1, f1⟩ := rx.tup sm.sub
    exact ⟨p, vs, rfl, .inr ⟨h1, q _ F H sm (.tup f1 r1)⟩⟩
  | lst ds =>
    cases e
    obtain ⟨p, vs, rfl, h1, r1⟩ := rx.lst sm.sub
    refine ⟨p, vs, rfl, .inl ⟨h1, fun p hp => ?_⟩⟩
    obtain ⟨x2, le⟩ := sm.alloc (o := .tup vs) hp
    exact q _ _ _ x2 (.tup (TupAt.of upd_same) (repL_le le r1))
  | str z => cases e
  | non => cases e
  | bl _ => cases e
  | int _ => cases e
  | dct _ => cases e
  | obj _ => cases e
  | nm _ => cases e
def oList : D → Option Ob
  | .tup ds => some (.lst ds)
  | .lst ds => some (.lst ds)
  | _ => none
theorem sf_list (hg : Gl X "list") (hm : X.mg "list" = none) (ha : SO X W a oa) (hst : starEach [a] X.env = (false, eval a X.env) :: starEach [] X.env := by rfl) : SF X W (.Call (.Name "list" p) [a] [] pos) (f1 oList oa) := by
  refine sf_c1 (fun h => pe_callTy call_list_of hg hm (by decide +kernel) h (he := hst)) ?_ ha hst
  intro g I F s σ H Q x dx d sm rx e q
  cases dx with
  | tup ds =>
    cases e
    obtain ⟨p, vs, rfl, h1, r1, f1⟩ := rx.tup sm.sub
    exact ⟨p, vs, rfl, .inr h1, fun l hl => q _ _ _ _ _ sm hl (.lst r1)⟩
  | lst ds =>
    cases e
    obtain ⟨p, vs, rfl, h1, r1⟩ := rx.lst sm.sub
    exact ⟨p, vs, rfl, .inl h1, fun l hl => q _ _ _ _ _ sm hl (.lst r1)⟩
  | str z => cases e
  | non => cases e
  | bl _ => cases e
  | int _ => cases e
  | dct _ => cases e
  | obj _ => cases e
  | nm _ => cases e
/-- the ints of a list -/
def intsD : List D → Option (List Int)
  | [] => some []
  | .int i :: ds => (intsD ds).map (i :: ·)
  | _ => none
theorem intsD_map : ∀ {ds : List D} {ns : List Int}, intsD ds = some ns → ds = ns.map .int
  | [], ns, e => by cases e; rfl
  | .int i :: ds, ns, e => by
    have e' : (intsD ds).map (i :: ·) = some ns := e
    cases h : intsD ds with
    | none => rw [h] at e'; cases e'
    | some ms =>
      rw [h] at e'
      cases e'
      rw [intsD_map h]
      rfl
  | .non :: _, _, e => by cases e
  | .bl _ :: _, _, e => by cases e
  | .str _ :: _, _, e => by cases e
  | .tup _ :: _, _, e => by cases e
  | .lst _ :: _, _, e => by cases e
  | .dct _ :: _, _, e => by cases e
  | .obj _ :: _, _, e => by cases e
  | .nm _ :: _, _, e => by cases e
@[simp] theorem intsD_of (ns : List Int) : intsD (ns.map .int) = some ns := by
  induction ns with
  | nil => rfl
  | cons n ns ih => simp [intsD, ih]
theorem RepL.ints {K : PySem.W.Frag} {I : List Addr} {F : Hp} : ∀ {vs : List V} {ns : List Int}, RepL K I F vs (ns.map .int) → vs = ns.map .int
  | _, [], h => by cases h; rfl
  | _, n :: ns, h => by
    cases h with
    | cons a b =>
      cases a
      rw [RepL.ints b]
      rfl
def dSum : D → Option D
  | .tup ds => (intsD ds).map fun ns => .int ns.sum
  | .lst ds => (intsD ds).map fun ns => .int ns.sum
  | _ => none
/-- sum of a tuple of ints -/
def rSumT (K : PySem.W.Frag) : List V → Hp → VK → Prop := fun vs H Q => ∃ (a : Addr) (ns : List Int), vs = [V.ref a] ∧ SqT K H a (ns.map V.int) ∧ Q (.int ns.sum) H
theorem cr_sumT (hc : X.calm = true) : CallR X (.builtin "sum") (rSumT X.K) := by
  intro pins s σ H vs us Q I r h
  obtain ⟨a, ns, rfl, hs, q⟩ := h
  obtain ⟨its, rv, hl, _⟩ := I.tuple hs
  rw [Vals.ref1 r]
  have hi := rv.ints
  obtain ⟨xs, hx⟩ := hi.allInts.items
  have hn : numsOf its = ns := hi.numsOf
  have hn' : numsOf (intItems xs).toList = ns := by rw [← hx]; exact hn
  rw [nums_intItems] at hn'
  have hl' : s.heap.IsTuple a (intItems xs) := by rw [← hx]; exact hl
  refine PySem.W.ktm_sumG (I.ok.hd hc) hl' fun h' tk t' hk => ?_
  rw [preSum_eq, List.take_of_length_le (by simp), hn']
  exact ⟨.int _, H, I.kept hk, ⟨_, rfl⟩, q⟩
end
end Fw
namespace Fw
open PySem L2

section
variable {X : Cx} {W : WX} {a b e : Expr} {oa ob : Opd} {pos p p2 : Pos}
/-! ### * -/
def dMulI : D → D → Option D
  | .int i, .int j => if (-(2 ^ 64) < i ∧ i < 2 ^ 64) ∨ (-(2 ^ 64) < j ∧ j < 2 ^ 64) then some (.int (i * j)) else none
  | _, _ => none
theorem se_mulI (ha : SO X W a oa) (hb : SO X W b ob) : SE X W (.BinOp a .Mult b pos) (e2 dMulI oa ob) := by
  refine se_bin op_mul ?_ ha hb
  intro g I F s σ H Q x y dx dy d sm rx ry e q
  unfold dMulI at e
  split at e
  · rename_i i j
    by_cases h : (-(2 ^ 64) < i ∧ i < 2 ^ 64) ∨ (-(2 ^ 64) < j ∧ j < 2 ^ 64)
    · rw [if_pos h] at e
      cases e
      exact ⟨i, j, rx.int, ry.int, h, q _ F H sm (.int _)⟩
    · rw [if_neg h] at e
      cases e
  · cases e

/-! ### sum, all, isinstance .. -/
theorem ca_sum : CaS X (fun vs H Q => rSum X.K vs H Q ∨ rSumT X.K vs H Q) dSum := by
  intro g I F s σ H Q x dx d sm rx e q
  cases dx with
  | tup ds =>
    have e' : (intsD ds).map (fun ns => D.int ns.sum) = some d := e
    cases h : intsD ds with
    | none => rw [h] at e'; cases e'
    | some ns =>
      rw [h] at e'
      cases e'
      obtain ⟨p, vs, rfl, h1, r1, f1⟩ := rx.tup sm.sub
      rw [intsD_map h] at r1
      rw [r1.ints] at h1
      exact .inr ⟨p, ns, rfl, h1, q _ F H sm (.int _)⟩
  | lst ds =>
    have e' : (intsD ds).map (fun ns => D.int ns.sum) = some d := e
    cases h : intsD ds with
    | none => rw [h] at e'; cases e'
    | some ns =>
      rw [h] at e'
      cases e'
      obtain ⟨p, vs, rfl, h1, r1⟩ := rx.lst sm.sub
      rw [intsD_map h] at r1
      rw [r1.ints] at h1
      exact .inl ⟨p, ns, rfl, h1, q _ F H sm (.int _)⟩
  | str z => cases e
  | non => cases e
  | bl _ => cases e
  | int _ => cases e
  | dct _ => cases e
  | obj _ => cases e
  | nm _ => cases e
theorem CallR.or {f : Value} {r r' : List V → Hp → VK → Prop} (h : CallR X f r) (h' : CallR X f r') : CallR X f (fun vs H Q => r vs H Q ∨ r' vs H Q) := by
  intro pins s σ H xs us Q I rv q
  rcases q with q | q
  · exact h pins s σ H xs us Q I rv q
  · exact h' pins s σ H xs us Q I rv q
theorem se_sum (hc : X.calm = true) (hg : Gl X "sum") (hm : X.mg "sum" = none) (ha : SO X W a oa) (hst : starEach [a] X.env = (false, eval a X.env) :: starEach [] X.env := by rfl) : SE X W (.Call (.Name "sum" p) [a] [] pos) (e1 dSum oa) :=
  se_c1 (fun h => pe_callB (CallR.or (cr_sum hc) (cr_sumT hc)) hg hm (by decide +kernel) h (he := hst)) ca_sum ha hst
def blsD : List D → Option (List Bool)
  | [] => some []
  | .bl i :: ds => (blsD ds).map (i :: ·)
  | _ => none
theorem blsD_map : ∀ {ds : List D} {ns : List Bool}, blsD ds = some ns → ds = ns.map .bl
  | [], ns, e => by cases e; rfl
  | .bl i :: ds, ns, e => by
    have e' : (blsD ds).map (i :: ·) = some ns := e
    cases h : blsD ds with
    | none => rw [h] at e'; cases e'
    | some ms =>
      rw [h] at e'
      cases e'
      rw [blsD_map h]
      rfl
  | .non :: _, _, e => by cases e
  | .int _ :: _, _, e => by cases e
  | .str _ :: _, _, e => by cases e
  | .tup _ :: _, _, e => by cases e
  | .lst _ :: _, _, e => by cases e
  | .dct _ :: _, _, e => by cases e
  | .obj _ :: _, _, e => by cases e
  | .nm _ :: _, _, e => by cases e
@[simp] theorem blsD_of (ns : List Bool) : blsD (ns.map .bl) = some ns := by
  induction ns with
  | nil => rfl
  | cons n ns ih => simp [blsD, ih]
theorem RepL.bls {K : PySem.W.Frag} {I : List Addr} {F : Hp} : ∀ {vs : List V} {ns : List Bool}, RepL K I F vs (ns.map .bl) → vs = ns.map .bl
  | _, [], h => by cases h; rfl
  | _, n :: ns, h => by
    cases h with
    | cons a b =>
      cases a
      rw [RepL.bls b]
      rfl
def dAll : D → Option D
  | .lst ds => (blsD ds).map fun ns => .bl (ns.all id)
  | _ => none
theorem se_all (hc : X.calm = true) (hg : Gl X "all") (hm : X.mg "all" = none) (ha : SO X W a oa) (hst : starEach [a] X.env = (false, eval a X.env) :: starEach [] X.env := by rfl) : SE X W (.Call (.Name "all" p) [a] [] pos) (e1 dAll oa) := by
  refine se_c1 (fun h => pe_callB (cr_all hc) hg hm (by decide +kernel) h (he := hst)) ?_ ha hst
  intro g I F s σ H Q x dx d sm rx e q
  cases dx with
  | lst ds =>
    have e' : (blsD ds).map (fun ns => D.bl (ns.all id)) = some d := e
    cases h : blsD ds with
    | none => rw [h] at e'; cases e'
    | some ns =>
      rw [h] at e'
      cases e'
      obtain ⟨p, vs, rfl, h1, r1⟩ := rx.lst sm.sub
      rw [blsD_map h] at r1
      rw [r1.bls] at h1
      exact ⟨p, ns, rfl, h1, q _ F H sm (.bl _)⟩
  | tup ds => cases e
  | str z => cases e
  | non => cases e
  | bl _ => cases e
  | int _ => cases e
  | dct _ => cases e
  | obj _ => cases e
  | nm _ => cases e
def dInt : D → Option D
  | .int i => some (.int i)
  | .bl k => some (.int (if k then 1 else 0))
  | _ => none
theorem se_int1 (hg : Gl X "int") (hm : X.mg "int" = none) (ha : SO X W a oa) (hst : starEach [a] X.env = (false, eval a X.env) :: starEach [] X.env := by rfl) : SE X W (.Call (.Name "int" p) [a] [] pos) (e1 dInt oa) := by
  refine se_c1 (fun h => pe_callTy call_int1 hg hm (by decide +kernel) h (he := hst)) ?_ ha hst
  intro g I F s σ H Q x dx d sm rx e q
  unfold dInt at e
  split at e
  · cases e
    exact .inl ⟨_, by rw [rx.int], q _ F H sm (.int _)⟩
  · cases e
    exact .inr ⟨_, by rw [rx.bl], q _ F H sm (.int _)⟩
  · cases e
def dAbs : D → Option D
  | .int i => some (.int (if i < 0 then -i else i))
  | _ => none
theorem se_abs (hg : Gl X "abs") (hm : X.mg "abs" = none) (ha : SO X W a oa) (hst : starEach [a] X.env = (false, eval a X.env) :: starEach [] X.env := by rfl) : SE X W (.Call (.Name "abs" p) [a] [] pos) (e1 dAbs oa) := by
  refine se_c1 (fun h => pe_callB call_abs hg hm (by decide +kernel) h (he := hst)) ?_ ha hst
  intro g I F s σ H Q x dx d sm rx e q
  unfold dAbs at e
  split at e
  · cases e
    exact ⟨_, by rw [rx.int], q _ F H sm (.int _)⟩
  · cases e
/-- two operands -/
def C2S (X : Cx) (r : List V → Hp → VK → Prop) (op : D → D → Option D) : Prop := ∀ g I F s σ H Q x y dx dy d, Sim X.K g I F s σ H → RW X.K I F H x dx → RW X.K I F H y dy → op dx dy = some d →
  (∀ v F' H', Sim X.K g I F' s σ H' → Rep X.K I F' v d → Q v H') → r [x, y] H Q
theorem se_c2 {c : Expr} {r : List V → Hp → VK → Prop} {op : D → D → Option D} (hp : ∀ {t : TA}, PA X [a, b] t → PE X c (tCB r t)) (hs : C2S X r op) (ha : SO X W a oa) (hb : SO X W b ob) (hst : starEach [a, b] X.env = (false, eval a X.env) :: starEach [b] X.env := by rfl) (hst2 : starEach [b] X.env = (false, eval b X.env) :: starEach [] X.env := by rfl) : SE X W c (e2 op oa ob) := by
  obtain ⟨ta, a1, a2⟩ := ha
  obtain ⟨tb, b1, b2⟩ := hb
  refine ⟨_, hp (pa_cons a1 (pa_cons b1 pa_nil hst2) hst), fun g I F s σ H Q x hq => ?_⟩
  refine two (R := fun v w H => r [v, w] H Q) (Po := fun o => PoE X W g σ o Q) (k := fun dx dy => lift1 (op dx dy)) a2 b2 (fun c s q => q) (fun q => q) x hq fun I F s H v w dx dy x rv rw_ q => ?_
  unfold lift1 at q
  cases e : op dx dy with
  | none => rw [e] at q; exact q.elim
  | some d =>
    rw [e] at q
    exact hs g I F s σ H Q v w dx dy d x rv rw_ e fun v F' H' x' r' => q v I F' H' x' r'
theorem se_max2 (hc : X.calm = true) (hg : Gl X "max") (hm : X.mg "max" = none) (ha : SO X W a oa) (hb : SO X W b ob) (hst : starEach [a, b] X.env = (false, eval a X.env) :: starEach [b] X.env := by rfl) (hst2 : starEach [b] X.env = (false, eval b X.env) :: starEach [] X.env := by rfl) (hpl : (backTo pos (starEach [b] X.env)).any (·.1) = false := by rfl) : SE X W (.Call (.Name "max" p) [a, b] [] pos) (e2 (iOp fun i j => if j > i then j else i) oa ob) := by
  refine se_c2 (fun h => pe_callB (call_max2 hc) hg hm (by decide +kernel) h (he := hst) (hpl := hpl)) ?_ ha hb hst hst2
  intro g I F s σ H Q x y dx dy d sm rx ry e q
  obtain ⟨i, j, rfl, rfl, rfl⟩ := iOp_inv e
  exact ⟨i, j, by rw [rx.int, ry.int], q _ F H sm (.int _)⟩
theorem se_min2 (hc : X.calm = true) (hg : Gl X "min") (hm : X.mg "min" = none) (ha : SO X W a oa) (hb : SO X W b ob) (hst : starEach [a, b] X.env = (false, eval a X.env) :: starEach [b] X.env := by rfl) (hst2 : starEach [b] X.env = (false, eval b X.env) :: starEach [] X.env := by rfl) (hpl : (backTo pos (starEach [b] X.env)).any (·.1) = false := by rfl) : SE X W (.Call (.Name "min" p) [a, b] [] pos) (e2 (iOp fun i j => if j < i then j else i) oa ob) := by
  refine se_c2 (fun h => pe_callB (call_min2 hc) hg hm (by decide +kernel) h (he := hst) (hpl := hpl)) ?_ ha hb hst hst2
  intro g I F s σ H Q x y dx dy d sm rx ry e q
  obtain ⟨i, j, rfl, rfl, rfl⟩ := iOp_inv e
  exact ⟨i, j, by rw [rx.int, ry.int], q _ F H sm (.int _)⟩

/-! ### isinstance(x, T), T a built-in type -/
inductive Ty where
  | int | bool | str | tuple | list
def Ty.name : Ty → String
  | .int => "int"
  | .bool => "bool"
  | .str => "str"
  | .tuple => "tuple"
  | .list => "list"
def Ty.is : Ty → D → Option Bool
  | t, .non => some false
  | .int, .bl _ => some true
  | .bool, .bl _ => some true
  | _, .bl _ => some false
  | .int, .int _ => some true
  | _, .int _ => some false
  | .str, .str _ => some true
  | _, .str _ => some false
  | .tuple, .tup _ => some true
  | _, .tup _ => some false
  | .list, .lst _ => some true
  | _, .lst _ => some false
  | _, _ => none
theorem sqT_ty {K : PySem.W.Frag} {H : Hp} {a : Addr} {vs : List V} (h : SqT K H a vs) : TyX K H (.ref a) (.type "tuple") := by
  rcases h with (h | ⟨o, h⟩) | ⟨o, its, n, h1, h2, _⟩
  · exact .base (.tup h)
  · exact .fTuple h
  · exact .kTuple h1 h2
theorem sqL_ty {K : PySem.W.Frag} {H : Hp} {a : Addr} {vs : List V} (h : SqL K H a vs) : TyX K H (.ref a) (.type "list") := by
  rcases h with (h | ⟨o, h⟩) | ⟨o, its, n, h1, h2, _⟩
  · exact .base (.lst h)
  · exact .base (.frz h)
  · exact .kList h1 h2
def tyNm : D → String
  | .non => "NoneType"
  | .bl _ => "bool"
  | .int _ => "int"
  | .str _ => "str"
  | .tup _ => "tuple"
  | .lst _ => "list"
  | .dct _ => "dict"
  | .obj _ => "object"
  | .nm _ => "object"
theorem RW.ty {K : PySem.W.Frag} {I : List Addr} {F H : Hp} {v : V} {d : D} {t : Ty} {k : Bool} (h : RW K I F H v d) (hs : Same F H) (e : t.is d = some k) : TyX K H v (.type (tyNm d)) := by
  cases d with
  | non => rw [h.non]; exact .base .non
  | bl c => rw [h.bl]; exact .base (.bl c)
  | int c => rw [h.int]; exact .base (.int c)
  | str c => rw [h.str]; exact .base (.str c)
  | tup ds =>
    obtain ⟨p, vs, rfl, h1, _⟩ := h.tup hs
    exact sqT_ty h1
  | lst ds =>
    obtain ⟨p, vs, rfl, h1, _⟩ := h.lst hs
    exact sqL_ty h1
  | dct _ => cases t <;> cases e
  | obj _ => cases t <;> cases e
  | nm _ => cases t <;> cases e
theorem kit_all : [kitB "NoneType" "int", kitB "NoneType" "bool", kitB "NoneType" "str", kitB "NoneType" "tuple", kitB "NoneType" "list", kitB "bool" "int", kitB "bool" "bool", kitB "bool" "str", kitB "bool" "tuple", kitB "bool" "list", kitB "int" "int", kitB "int" "bool", kitB "int" "str", kitB "int" "tuple", kitB "int" "list", kitB "str" "int", kitB "str" "bool", kitB "str" "str", kitB "str" "tuple", kitB "str" "list", kitB "tuple" "int", kitB "tuple" "bool", kitB "tuple" "str", kitB "tuple" "tuple", kitB "tuple" "list", kitB "list" "int", kitB "list" "bool", kitB "list" "str", kitB "list" "tuple", kitB "list" "list"] = [some false, some false, some false, some false, some false, some true, some true, some false, some false, some false, some true, some false, some false, some false, some false, some false, some false, some true, some false, some false, some false, some false, some false, some true, some false, some false, some false, some false, some false, some true] := by decide +kernel
theorem kit_is {d : D} {t : Ty} {k : Bool} (e : t.is d = some k) : kitB (tyNm d) t.name = some k := by
  have h := kit_all
  simp only [List.cons.injEq] at h
  obtain ⟨h1, h2, h3, h4, h5, h6, h7, h8, h9, h10, h11, h12, h13, h14, h15, h16, h17, h18, h19, h20, h21, h22, h23, h24, h25, h26, h27, h28, h29, h30, _⟩ := h
  cases d <;> cases t <;> first
    | (cases e; done)
    | (cases e; simp only [tyNm, Ty.name]; assumption)
def eIsi (t : Ty) (a : Opd) : M D := e1 (fun d => (t.is d).map .bl) a
theorem se_isi {T : String} (t : Ty) (hT : t.name = T) (hg : Gl X "isinstance") (hm : X.mg "isinstance" = none) (hgT : Gl X (Str.ofString T)) (hmT : X.mg (Str.ofString T) = none) (hvT : bootBuiltins (Str.ofString T) = some (.type T)) (ha : SO X W a oa)
    (hst : starEach [a, .Name (Str.ofString T) p2] X.env = (false, eval a X.env) :: starEach [.Name (Str.ofString T) p2] X.env := by rfl) (hst2 : starEach [.Name (Str.ofString T) p2] X.env = (false, eval (.Name (Str.ofString T) p2) X.env) :: starEach [] X.env := by rfl)
    (hpl : (backTo pos (starEach [.Name (Str.ofString T) p2] X.env)).any (·.1) = false := by rfl) (hn : Str.ofString T ≠ "__name__" := by decide) (hd : (Str.ofString T == ("__debug__" : Str)) = false := by decide) : SE X W (.Call (.Name "isinstance" p) [a, .Name (Str.ofString T) p2] [] pos) (eIsi t oa) := by
  obtain ⟨ta, a1, a2⟩ := ha
  refine ⟨_, pe_callB call_isi hg hm (by decide +kernel) (pa_cons a1 (pa_cons (pe_bltn (v := .ty T) hgT hmT hvT rfl hn hd) pa_nil hst2) hst) (he := hst) (hpl := hpl), fun g I F s σ H Q x hq => ?_⟩
  refine one (R := fun v H1 => rIsi X.K [v, .ty T] H1 Q) (Po := fun o => PoE X W g σ o Q) (k := fun d => lift1 ((t.is d).map .bl)) a2 (fun c s q => q) (fun q => q) x hq fun I F s H v dx x rv q => ?_
  unfold lift1 at q
  cases e : t.is dx with
  | none => rw [e] at q; exact q.elim
  | some k =>
    rw [e] at q
    subst hT
    exact ⟨v, .ty t.name, .type (tyNm dx), .type t.name, k, rfl, .ty _, rv.ty x.sub e, kit_ty (kit_is e), q _ _ _ _ x (.bl k)⟩

end
end Fw
namespace Fw
open PySem PySem.Spec PyProof.Rows L2 HT
/-! ### t[::-1] -/
section
variable {prog : Program} {w : World} {A : Around} {E : Value → Shared → Prop} {s : Shared}
theorem sliceApplied_rev {sl : Addr} {vs : Value} {n : Nat} {Q : Int × Int × Nat → Shared → Prop} (hs : s.heap.IsSliceOf sl .none .none vs) (ps : IsPart vs (some (-1)))
    (h : Q ((n : Int) - 1, -1, n) s) : wpAny (model prog w) A (Builtin.Slice.sliceApplied (.ref sl) (pure (n : Int))) Q E s := by
  obtain ⟨os, hos, hcs, hds⟩ := id hs
  unfold Builtin.Slice.sliceApplied Builtin.Slice.sliceFields
  refine wpAny_bind (wpAny_bind (wpAny_field hos hds (x := .none) rfl (wpAny_bind (wpAny_field hos hds (x := .none) rfl (wpAny_bind (wpAny_field hos hds (x := vs) rfl (wpAny_pure ?_)))))))
  refine wpAny_bind (slicePart_ ps ?_)
  show wpAny _ _ (if ((-1 : Int) == 0) = true then _ else _) _ _ s
  rw [if_neg (by decide)]
  refine wpAny_bind (slicePart_none (wpAny_bind (slicePart_none (wpAny_bind (wpAny_pure ?_)))))
  show wpAny _ _ (match Builtin.Slice.sliceAdjust none none (-1) (n : Int) with | (lo, hi) => pure (lo, (-1 : Int), Builtin.Slice.slicePlaces lo hi (-1))) _ _ s
  have e1 : Builtin.Slice.sliceAdjust none none (-1) (n : Int) = ((n : Int) - 1, -1) := by
    unfold Builtin.Slice.sliceAdjust
    rfl
  rw [e1]
  show wpAny _ _ (pure ((n : Int) - 1, (-1 : Int), Builtin.Slice.slicePlaces ((n : Int) - 1) (-1) (-1))) _ _ s
  have e2 : Builtin.Slice.slicePlaces ((n : Int) - 1) (-1) (-1) = n := by
    unfold Builtin.Slice.slicePlaces
    have h1 : ¬ ((-1 : Int) > 0) := by omega
    have h2 : -(-1 : Int) = 1 := by omega
    simp only [h1, if_false, h2, Int.ediv_one]
    split <;> omega
  rw [e2]
  exact wpAny_pure h
theorem pick_rev (xs : List Value) : ((List.range xs.length).filterMap fun (m : Nat) => xs.toArray[(((xs.length : Nat) : Int) - 1 + (m : Int) * (-1)).toNat]?).toArray = xs.reverse.toArray := by
  congr 1
  have key : ∀ k, k ≤ xs.length → ((List.range k).filterMap fun (m : Nat) => xs.toArray[(((xs.length : Nat) : Int) - 1 + (m : Int) * (-1)).toNat]?) = xs.reverse.take k := by
    intro k
    induction k with
    | zero => intro _; simp
    | succ k ih =>
      intro hk
      rw [List.range_succ, List.filterMap_append, ih (by omega), List.take_add_one]
      congr 1
      have e : (((xs.length : Nat) : Int) - 1 + (k : Int) * (-1)).toNat = xs.length - 1 - k := by omega
      have hk' : k < xs.length := by omega
      rw [List.getElem?_reverse hk']
      have e2 : xs.toArray[xs.length - 1 - k]? = some xs[xs.length - 1 - k] := by
        rw [List.getElem?_toArray, List.getElem?_eq_getElem (by omega)]
      simp only [List.filterMap_cons, List.filterMap_nil, e, e2]
      rw [List.getElem?_eq_getElem (by omega)]
      rfl
  rw [key xs.length (Nat.le_refl _), List.take_of_length_le (by simp)]
theorem getItem_tuple_rev {t sl : Addr} {items : List Value} {vs : Value} {Q : Value → Shared → Prop} (ht : IsTup s.heap t items.toArray) (hs : s.heap.IsSliceOf sl .none .none vs) (ps : IsPart vs (some (-1)))
    (hz : items.length ≤ sizeLine) (h : Q (.ref s.heap.objs.size) { s with heap := s.heap.push { cls := .type "tuple", data := .seq items.reverse.toArray } }) : wpAny (model prog w) A (getItem (.ref t) (.ref sl)) Q E s := by
  have htake : sizeOk (.seq items.reverse.toArray) := by
    show items.reverse.toArray.size ≤ sizeLine
    rw [List.size_toArray, List.length_reverse]
    exact hz
  obtain ⟨os, hos, hcs, hds⟩ := id hs
  have hTs : s.TypeIs (.ref sl) "slice" := ⟨os, hos, hcs⟩
  unfold getItem
  try with_reducible refine wpAny_holding ?_
  first | refine wpAny_bind (wpAny_pure ?_) | skip
  refine wpAny_bind (wpAny_sequenceKey ht.typeIs (by decide) ?_)
  refine wpAny_bind (wpAny_callSpecial?_slot (name := Str.ofString "__getitem__") ht.typeIs PyProof.Rows.slot_tuple_getitem
    (wpAny_call_entry PyProof.Rows.slot_tuple_getitem ht.typeIs entry_tuple_getitem ?_ (args_tuple_getitem _ _)))
  show wpAny _ _ (Builtin.Tuple.tupleItemsOf (.ref t) >>= _) _ _ s
  refine wpAny_bind (tupleItemsOf_ ht ?_)
  refine wpAny_bind (wpAny_typeOf hTs ?_)
  rw [if_pos (by decide)]
  have esz : (items.toArray.size : Int) = ((items.length : Nat) : Int) := by rw [List.size_toArray]
  rw [esz]
  refine wpAny_bind (sliceApplied_rev hs ps ?_)
  have hno : ¬ ((((items.length : Nat) : Int) - 1 == 0 && (-1 : Int) == 1 && items.length == items.toArray.size) = true) := by
    intro q
    rw [Bool.and_eq_true, Bool.and_eq_true] at q
    exact absurd q.1.2 (by decide)
  show wpAny _ _ (if (((items.length : Nat) : Int) - 1 == 0 && (-1 : Int) == 1 && items.length == items.toArray.size) = true then _ else _) _ _ s
  rw [if_neg hno, pick_rev]
  first
    | exact wpAny_bind (m := Builtin.Tuple.tupleExact _) (wpAny_newObj_type (wpAny_pure ⟨_, rfl, wpAny_pure h⟩) htake)
    | exact wpAny_bind (m := Builtin.Tuple.tupleExact _) (wpAny_newObj_type (wpAny_bind (wpAny_pure (wpAny_pure ⟨_, rfl, wpAny_pure h⟩))) htake)
    | exact wpAny_bind (wpAny_bind (m := Builtin.Tuple.tupleExact _) (wpAny_newObj_type (wpAny_pure (wpAny_pure ⟨_, rfl, wpAny_pure h⟩)) htake))
    | exact wpAny_bind (wpAny_bind (m := Builtin.Tuple.tupleExact _) (wpAny_newObj_type (wpAny_pure ⟨_, rfl, wpAny_pure h⟩) htake))
end
section
variable {X : Cx}
def tRevT (K : PySem.W.Frag) (te : TE) : TE := fun σ H Q => te σ H fun x H1 => ∃ a xs, x = .ref a ∧ SqT K H1 a xs ∧ ∀ p, H1 p = none → Q (.ref p) (upd H1 p (.tup xs.reverse))
theorem pe_revT {e : Expr} {te : TE} {k : Nat} {p1 p2 p3 pos : Pos} (he : PE X e te) : PE X (.Subscript e (.Slice none none (some (.UnaryOp .USub (.Constant (.int 1) k p1) p2)) p3) pos) (tRevT X.K te) := by
  refine ⟨fun pins s σ H Q I h => ?_⟩
  refine Subscript_ (thn (he.run pins s σ H _ I h) fun v s1 ⟨x, H1, I1, r1, q1⟩ => ?_)
  obtain ⟨a, xs, ex, hx, q⟩ := q1
  subst ex
  cases r1
  have hst : PO X (some (.UnaryOp .USub (.Constant (.int 1) k p1) p2)) (tPart (tUn (rU fun i => .int (-i)) (tC (.int 1)))) := po_some (pe_un un_neg pe_int)
  refine wpAny_Slice ?_
  rw [evalPart_none]
  refine wpAny_pure (wpAny_pure ?_)
  refine thn (hst.run pins s1 σ H1 (fun o H4 => o = some (-1) ∧ H4 = H1) I1 ⟨1, rfl, -1, rfl, rfl, rfl⟩) fun vs s4 ⟨o, H4, I4, ps, eo, e4⟩ => ?_
  subst eo e4
  have I5 : Inv X pins σ H4 { s4 with heap := s4.heap.push { cls := .type "slice", data := .fields #[.none, .none, vs] } } := I4.kept (t' := s4.toks) fun b ob q => Heap.get?_push_of_some _ q
  obtain ⟨its, r, ht, hz⟩ := I5.tuple hx
  have hlen := r.length
  show wpAny (model X.prog X.w) X.A (subscriptTail e (.Slice none none (some (.UnaryOp .USub (.Constant (.int 1) k p1) p2)) p3) (.ref a) (.ref s4.heap.objs.size)) (EP X pins σ Q) X.xe { s4 with heap := s4.heap.push { cls := .type "slice", data := .fields #[.none, .none, vs] } }
  refine tail_any (ops := [.ref a, .ref s4.heap.objs.size]) ht.typeIs (PyProof.Rows.slot_tuple_getitem.lookup) ?_ (by with_unfolding_all rfl)
  refine getItem_tuple_rev ht (Heap.IsSliceOf.new _ .none .none vs) ps (by omega) ?_
  refine ⟨.ref _, _, I5.laid (t' := s4.toks) (o := .tup xs.reverse) (fun b ob q => Heap.get?_push_of_some _ q) (Nat.le_refl _) ?_, rfl, q _ (I5.hok.fresh (Nat.le_refl _))⟩
  exact ⟨by rw [List.length_reverse]; exact hz, _, r.reverse, IsTup.new _ _⟩
end
end Fw
namespace Fw
open PySem L2
section
variable {X : Cx} {W : WX} {a b e : Expr} {oa ob : Opd} {pos p p2 : Pos}
theorem RepL.rev {K : PySem.W.Frag} {I : List Addr} {F : Hp} : ∀ {vs : List V} {ds : List D}, RepL K I F vs ds → RepL K I F vs.reverse ds.reverse
  | _, _, .nil => .nil
  | _, _, .cons a b => by
    rw [List.reverse_cons, List.reverse_cons]
    exact (RepL.rev b).append (.cons a .nil)
theorem PE.or {t u : TE} (h : PE X e t) (h' : PE X e u) : PE X e (fun σ H Q => t σ H Q ∨ u σ H Q) :=
  ⟨fun pins s σ H Q I q => q.elim (fun z => h.run pins s σ H Q I z) fun z => h'.run pins s σ H Q I z⟩
/-- one of two readings of the same text -/
def eAlt (f h : M D) : M D := fun s => match f s with
  | .stuck => h s
  | o => o
theorem se_alt {f h : M D} (ha : SE X W e f) (hb : SE X W e h) : SE X W e (eAlt f h) := by
  obtain ⟨t, a1, a2⟩ := ha
  obtain ⟨u, b1, b2⟩ := hb
  refine ⟨_, PE.or a1 b1, fun g I F s σ H Q x hq => ?_⟩
  unfold eAlt at hq
  cases e1 : f s with
  | stuck => simp only [e1] at hq; exact .inr (b2 g I F s σ H Q x hq)
  | ex c s1 => simp only [e1] at hq; exact .inl (a2 g I F s σ H Q x (by rw [e1]; exact hq))
  | ok d s1 => simp only [e1] at hq; exact .inl (a2 g I F s σ H Q x (by rw [e1]; exact hq))
def dRevT : D → Option D
  | .tup ds => some (.tup ds.reverse)
  | _ => none
theorem se_revT {k : Nat} {p1 p2 p3 : Pos} (ha : SO X W a oa) : SE X W (.Subscript a (.Slice none none (some (.UnaryOp .USub (.Constant (.int 1) k p1) p2)) p3) pos) (e1 dRevT oa) := by
  obtain ⟨ta, a1, a2⟩ := ha
  refine ⟨_, pe_revT a1, fun g I F s σ H Q x hq => ?_⟩
  refine one (Po := fun o => PoE X W g σ o Q) (k := fun d => lift1 (dRevT d)) a2 (fun c s q => q) (fun q => q) x hq fun I F s H v dx x rv q => ?_
  cases dx with
  | tup ds =>
    obtain ⟨p, vs, rfl, h1, r1, f1⟩ := rv.tup x.sub
    refine ⟨p, vs, rfl, h1, fun p hp => ?_⟩
    obtain ⟨x2, le⟩ := x.alloc (o := .tup vs.reverse) hp
    exact q _ _ _ _ x2 (.tup (TupAt.of upd_same) (repL_le le r1.rev))
  | _ => exact q.elim
def oRev : D → Option Ob
  | .lst ds => some (.lst ds.reverse)
  | _ => none
theorem sf_revL {k : Nat} {p1 p2 p3 : Pos} (ha : SO X W a oa) : SF X W (.Subscript a (.Slice none none (some (.UnaryOp .USub (.Constant (.int 1) k p1) p2)) p3) pos) (f1 oRev oa) := by
  obtain ⟨ta, a1, a2⟩ := ha
  refine ⟨_, pe_revL a1, fun g I F s σ H Q x hq => ?_⟩
  refine one (Po := fun o => PoF X W g σ o Q) (k := fun d s => match oRev d with
    | some b => .ok b s
    | none => .stuck) a2 (fun c s q => q) (fun q => q) x hq fun I F s H v dx x rv q => ?_
  cases dx with
  | lst ds =>
    obtain ⟨p, vs, rfl, h1, r1⟩ := rv.lst x.sub
    exact ⟨p, vs, rfl, h1, fun p hp => q _ _ _ _ _ x hp (.lst r1.rev)⟩
  | _ => exact q.elim

/-! ### methods that change a name's list -/
/-- the object of the slot i, and how it is changed -/
def chg (i : Nat) (k : Ob → Option (D × Ob)) : M D := fun s => match s.env[i]? with
  | some (.own b) => (match k b with
    | some (d, b') => .ok d { s with env := s.env.set i (.own b') }
    | none => .stuck)
  | some (.v (.obj n)) => (match (s.st[n]?).bind k with
    | some (d, b') => .ok d { s with st := s.st.set n b' }
    | none => .stuck)
  | _ => .stuck
theorem chg_ok {K : PySem.W.Frag} {g : Gh} {I : List Addr} {F H : Hp} {s : S} {σ : St} {i : Nat} {k : Ob → Option (D × Ob)} {w : V} {Po : Out D → Prop} {R : Prop} (x : Sim K g I F s σ H) (hw : σ[i]? = some (some w)) (hst : ¬ Po .stuck) (hq : Po (chg i k s))
    (fin : ∀ a o b d b', w = .ref a → H a = some o → HOR K I F o b → k b = some (d, b') → (∀ o', HOR K I F o' b' → ∃ s', Po (.ok d s') ∧ Sim K g I F s' σ (upd H a o')) → R) : R := by
  unfold chg at hq
  split at hq
  · rename_i b hb
    obtain ⟨a, o, q1, q2, q3, q4⟩ := x.put hb
    rw [hw] at q1
    cases q1
    cases e : k b with
    | none => rw [e] at hq; exact (hst hq).elim
    | some r =>
      obtain ⟨d, b'⟩ := r
      rw [e] at hq
      exact fin a o b d b' rfl q2 q3 e fun o' r' => ⟨_, hq, q4 o' b' r'⟩
  · rename_i n hn
    obtain ⟨w', q1, q2⟩ := x.get hn
    rw [hw] at q1
    cases q1
    cases q2 with
    | @obj a n hI =>
      cases e0 : s.st[n]? with
      | none => rw [e0] at hq; exact (hst hq).elim
      | some b =>
        rw [e0] at hq
        obtain ⟨a', o, q1, q2, q3, q4⟩ := x.putSt e0
        rw [hI] at q1
        cases q1
        cases e : k b with
        | none => simp only [Option.bind_some, e] at hq; exact (hst hq).elim
        | some r =>
          obtain ⟨d, b'⟩ := r
          simp only [Option.bind_some, e] at hq
          exact fin a o b d b' rfl q2 q3 e fun o' r' => ⟨_, hq, q4 o' b' r'⟩
  · exact (hst hq).elim
def kAppend (y : D) : Ob → Option (D × Ob)
  | .lst xs => if xs.length < sizeLine then some (.non, .lst (xs ++ [y])) else none
  | _ => none
def eAppend (i : Nat) (f : M D) : M D := fun s => match cont s i with
  | none => .stuck
  | some _ => (f s).bnd fun y => chg i (kAppend y)
theorem cont_tyL {K : PySem.W.Frag} {g : Gh} {I : List Addr} {F H : Hp} {s : S} {σ : St} {i : Nat} {ds : List D} (x : Sim K g I F s σ H) (e : cont s i = some (.lst ds)) : ∃ a vs, σ[i]? = some (some (.ref a)) ∧ SqL K H a vs := by
  obtain ⟨v, hv⟩ := cont_slot x e
  have r : RW K I F H v (.lst ds) := R1.rw (r := .i i) (show R1 K I F σ v (.i i) from hv) x e
  obtain ⟨a, vs, rfl, h1, _⟩ := r.lst x.sub
  exact ⟨a, vs, hv, h1⟩
def isLst : Option D → Bool
  | some (.lst _) => true
  | _ => false
def eMeth (i : Nat) (f : M (List D)) (k : List D → Ob → Option (D × Ob)) : M D := fun s => if isLst (cont s i) = true then (f s).bnd fun ys => chg i (k ys) else .stuck
/-- x.m(..) of a list at a name, by a rule that changes it -/
theorem se_meth {x name : Str} {i : Nat} {es : List Expr} {apos cpos npos : Pos} {r : V → List V → Hp → VK → Prop} {f : M (List D)} {k : List D → Ob → Option (D × Ob)} (hv : PE X (.Name x npos) (tVar i)) (hm : ∀ {t : TA}, PA X es t → PE X (.Call (.Attribute (.Name x npos) name apos) es [] cpos) (tBM X.K "list" r (tVar i) t)) (ha : SA X W es f)
    (hr : ∀ g I F s σ H Q a o b d b' vs ds, Sim X.K g I F s σ H → RepL X.K I F vs ds → H a = some o → HOR X.K I F o b → k ds b = some (d, b') → (∀ o' v, HOR X.K I F o' b' → Rep X.K I F v d → Q v (upd H a o')) → r (.ref a) vs H Q) :
    SE X W (.Call (.Attribute (.Name x npos) name apos) es [] cpos) (eMeth i f k) := by
  obtain ⟨t, a1, a2⟩ := ha
  refine ⟨_, hm a1, fun g I F s σ H Q x hq => ?_⟩
  unfold eMeth at hq
  by_cases hl : isLst (cont s i) = true
  · rw [if_pos hl] at hq
    cases ec : cont s i with
    | none => rw [ec] at hl; cases hl
    | some d0 =>
      cases d0 with
      | lst ds0 =>
        obtain ⟨a0, vs0, h0, t0⟩ := cont_tyL x ec
        refine ⟨_, h0, .inl ⟨rfl, _, t0⟩, a2 g I F s σ H _ x ?_⟩
        cases e1 : f s with
        | stuck => rw [e1] at hq; exact hq
        | ex c s1 => rw [e1] at hq; exact hq
        | ok ds s1 =>
          rw [e1, bnd_ok] at hq
          intro vs I1 F1 H1 x1 r1
          refine chg_ok (Po := fun o => PoE X W g σ o Q) x1 h0 (fun q => q) hq fun a o b d b' ea ho ro ek nx => ?_
          cases ea
          refine hr g I1 F1 s1 σ H1 Q a0 o b d b' vs ds x1 r1 ho ro ek fun o' v r' rv => ?_
          obtain ⟨s', q', x'⟩ := nx o' r'
          exact q' _ _ _ _ x' rv
      | _ => rw [ec] at hl; cases hl
  · rw [if_neg hl] at hq
    exact hq.elim
def k1Append : List D → Ob → Option (D × Ob)
  | [y], .lst xs => if xs.length < sizeLine then some (.non, .lst (xs ++ [y])) else none
  | _, _ => none
theorem se_append {x : Str} {i : Nat} {e : Expr} {apos cpos npos : Pos} {f : M (List D)} (hv : PE X (.Name x npos) (tVar i)) (ha : SA X W [e] f)
    (hbase : attributeBase (.Name x npos) "append" X.env (eval (.Name x npos) X.env) = eval (.Name x npos) X.env := by rfl)
    (hfew : ((backTo cpos (starEach [e] X.env)).all (fun x => !x.1) && (backToKw cpos (keywordEach [] X.env)).all (fun x => x.1.isSome) && decide (([e] : List Expr).length + ([] : List Keyword).length + (if ([] : List Keyword).isEmpty then 0 else 1) < 30)) = true := by rfl)
    (hline : (apos.endLine == cpos.line) = true := by rfl) (hs : starEach [e] X.env = (false, eval e X.env) :: starEach [] X.env := by rfl) (hpl : (backTo cpos (starEach [] X.env)).any (·.1) = false := by rfl) :
    SE X W (.Call (.Attribute (.Name x npos) "append" apos) [e] [] cpos) (eMeth i f k1Append) := by
  refine se_meth hv (fun h => pe_bm PySem.F.plainAttrs_list PySem.F.slot_list_append PySem.F.type_list_append mt_append hv h hbase hfew hline hs hpl) ha ?_
  intro g I F s σ H Q a o b d b' vs ds x r ho ro ek nx
  unfold k1Append at ek
  split at ek
  · rename_i y xs
    by_cases hl : xs.length < sizeLine
    · rw [if_pos hl] at ek
      cases ek
      cases ro with
      | @lst ws _ rl =>
        cases r with
        | cons ry rn =>
          cases rn
          exact ⟨a, ws, _, rfl, rfl, ho, by rw [rl.length]; exact hl, nx _ _ (.lst (rl.snoc ry)) .non⟩
    · rw [if_neg hl] at ek
      cases ek
  · cases ek
end
end Fw
namespace Fw
open PySem L2

/-! ### zip -/
def zipD : List D → List D → List D
  | x :: xs, y :: ys => .tup [x, y] :: zipD xs ys
  | _, _ => []
theorem zipD_len : ∀ xs ys : List D, (zipD xs ys).length = min xs.length ys.length
  | [], _ => by simp [zipD]
  | _ :: _, [] => by simp [zipD]
  | _ :: xs, _ :: ys => by simp [zipD, zipD_len xs ys]
theorem zipD_get : ∀ (xs ys : List D) (i : Nat) (d : D), (zipD xs ys)[i]? = some d → ∃ x y, xs[i]? = some x ∧ ys[i]? = some y ∧ d = .tup [x, y]
  | [], _, _, _, e => by simp [zipD] at e
  | _ :: _, [], _, _, e => by simp [zipD] at e
  | x :: _, y :: _, 0, d, e => by
    simp [zipD] at e
    exact ⟨x, y, rfl, rfl, e.symm⟩
  | _ :: xs, _ :: ys, i + 1, d, e => by
    obtain ⟨x, y, h1, h2, h3⟩ := zipD_get xs ys i d (by simpa [zipD] using e)
    exact ⟨x, y, by simpa using h1, by simpa using h2, h3⟩
section
variable {K : PySem.W.Frag} {I : List Addr} {F : Hp}
theorem pair_new {g : Gh} {I' : List Addr} {F' H : Hp} {s : S} {σ : St} {T : Addr} {x y : V} {dx dy : D} (sm : Sim K g I' F' s σ H) (hT : H T = none) (rx : Rep K I' F' x dx) (ry : Rep K I' F' y dy) :
    ∃ F2, Sim K (g.at I' F') I' F2 s σ (upd H T (.tup [x, y])) ∧ Rep K I' F2 (.ref T) (.tup [dx, dy]) := by
  obtain ⟨x2, le⟩ := sm.here.alloc (o := .tup [x, y]) hT
  exact ⟨_, x2, .tup (TupAt.of upd_same) (.cons (Rep.mono le (List.prefix_refl _) _ _ rx) (.cons (Rep.mono le (List.prefix_refl _) _ _ ry) .nil))⟩
theorem walk_zipT {a b : Addr} {vs ws : List V} {ds es : List D} (q : SqT K F a vs) (r : RepL K I F vs ds) (q' : SqT K F b ws) (r' : RepL K I F ws es) : WalkD K (RZ.ItzT K a b) I F (zipD ds es) where
  go := fun i g I' F' s σ H x le pre hi => by
    obtain ⟨dx, dy, e1, e2, _⟩ := zipD_get ds es i _ (List.getElem?_eq_getElem hi)
    obtain ⟨v, hv, _⟩ := r.get e1
    obtain ⟨w, hw, _⟩ := r'.get e2
    exact ⟨vs, ws, v, w, same_sqT x.sub (le.sqT q), same_sqT x.sub (le.sqT q'), hv, hw⟩
  stop := fun g I' F' s σ H x le pre => by
    refine ⟨vs, ws, same_sqT x.sub (le.sqT q), same_sqT x.sub (le.sqT q'), ?_⟩
    rw [zipD_len, r.length, r'.length]
    omega
  yld := fun i g I' F' s σ H y H2 d x le pre hy e => by
    obtain ⟨T, v, w, rfl, hT, rfl, h1, h2⟩ := hy
    obtain ⟨dx, dy, e1, e2, rfl⟩ := zipD_get ds es i d e
    obtain ⟨v', hv, rv⟩ := r.get e1
    obtain ⟨w', hw, rw_⟩ := r'.get e2
    have k1 := h1 vs (same_sqT x.sub (le.sqT q))
    have k2 := h2 ws (same_sqT x.sub (le.sqT q'))
    rw [hv] at k1
    rw [hw] at k2
    cases k1
    cases k2
    exact pair_new x hT (Rep.mono le pre _ _ rv) (Rep.mono le pre _ _ rw_)
theorem walk_zipL {a b : Addr} {vs ws : List V} {ds es : List D} (q : SqL K F a vs) (r : RepL K I F vs ds) (q' : SqL K F b ws) (r' : RepL K I F ws es) : WalkD K (Itz K a b) I F (zipD ds es) where
  go := fun i g I' F' s σ H x le pre hi => by
    obtain ⟨dx, dy, e1, e2, _⟩ := zipD_get ds es i _ (List.getElem?_eq_getElem hi)
    obtain ⟨v, hv, _⟩ := r.get e1
    obtain ⟨w, hw, _⟩ := r'.get e2
    exact ⟨vs, ws, v, w, same_sqL x.sub (le.sqL q), same_sqL x.sub (le.sqL q'), hv, hw⟩
  stop := fun g I' F' s σ H x le pre => by
    refine ⟨vs, ws, same_sqL x.sub (le.sqL q), same_sqL x.sub (le.sqL q'), ?_⟩
    rw [zipD_len, r.length, r'.length]
    omega
  yld := fun i g I' F' s σ H y H2 d x le pre hy e => by
    obtain ⟨T, v, w, rfl, hT, rfl, h1, h2⟩ := hy
    obtain ⟨dx, dy, e1, e2, rfl⟩ := zipD_get ds es i d e
    obtain ⟨v', hv, rv⟩ := r.get e1
    obtain ⟨w', hw, rw_⟩ := r'.get e2
    have k1 := h1 vs (same_sqL x.sub (le.sqL q))
    have k2 := h2 ws (same_sqL x.sub (le.sqL q'))
    rw [hv] at k1
    rw [hw] at k2
    cases k1
    cases k2
    exact pair_new x hT (Rep.mono le pre _ _ rv) (Rep.mono le pre _ _ rw_)
end
section
variable {X : Cx} {W : WX} {a b : Expr} {pos p tpos : Pos} {elts : List Expr} {kk : Nat}
def iZip (f : M (List D)) : M (List D) := fun s => (f s).bnd fun ds s => match ds with
  | [.tup xs, .tup ys] => .ok (zipD xs ys) s
  | [.lst xs, .lst ys] => .ok (zipD xs ys) s
  | _ => .stuck
theorem si_zip {f : M (List D)} (hg : Gl X "zip") (hm : X.mg "zip" = none) (ha : SA X W [a, b] f) (hs : starEach [a, b] X.env = (false, eval a X.env) :: starEach [b] X.env := by rfl) (hpl : (backTo pos (starEach [b] X.env)).any (·.1) = false := by rfl) :
    SI X W (.Tuple elts kk tpos) (.Call (.Name "zip" p) [a, b] [] pos) (iZip f) := by
  obtain ⟨t, a1, a2⟩ := ha
  refine ⟨_, RZ.pi_zipA hg hm a1 hs hpl, fun g I F s σ H R x hq => a2 g I F s σ H _ x ?_⟩
  unfold iZip at hq
  cases e1 : f s with
  | stuck => rw [e1] at hq; exact hq
  | ex c s1 => rw [e1] at hq; exact hq
  | ok ds s1 =>
    rw [e1, bnd_ok] at hq
    intro vs I1 F1 H1 x1 r1
    split at hq
    · rename_i xs ys
      cases r1 with
      | cons ra rr =>
        cases rr with
        | cons rb rn =>
          cases rn
          cases ra with
          | tup qa la =>
            cases rb with
            | tup qb lb => exact ⟨_, _, _, _, rfl, .inr ⟨same_sqT x1.sub qa.sq, same_sqT x1.sub qb.sq, hq _ _ _ _ x1 (walk_zipT qa.sq la qb.sq lb)⟩⟩
    · rename_i xs ys
      cases r1 with
      | cons ra rr =>
        cases rr with
        | cons rb rn =>
          cases rn
          cases ra with
          | lst qa la =>
            cases rb with
            | lst qb lb => exact ⟨_, _, _, _, rfl, .inl ⟨same_sqL x1.sub qa, same_sqL x1.sub qb, hq _ _ _ _ x1 (walk_zipL qa la qb lb)⟩⟩
    · exact hq.elim
end
end Fw
namespace Fw
open PySem L2

section
variable {X : Cx} {W : WX} {a b c e : Expr} {oa ob oc : Opd} {pos : Pos}
/-! ### comparisons as tests -/
theorem poT_E {g : Gh} {σ : St} {o : Out D} {Q : Bool → Hp → Prop} (h : PoT X W g σ (o.bnd fun d s => match d with
  | .bl b => .ok b s
  | _ => .stuck) Q) : PoE X W g σ o fun x H' => ∃ k, x = .bl k ∧ Q k H' := by
  cases o with
  | stuck => exact h
  | ex c s => exact h
  | ok d s =>
    rw [bnd_ok] at h
    intro v I F H x r
    cases r with
    | bl k => exact ⟨k, rfl, h _ _ _ x⟩
    | _ => exact h.elim
/-- whatever is read as t gives a test -/
theorem st_of {f : M D} {t : TE} (h1 : PT X e (tTest t)) (h2 : ∀ g I F s σ H Q, Sim X.K g I F s σ H → PoE X W g σ (f s) Q → t σ H Q) : ST X W e (tB1 f) :=
  ⟨_, h1, fun g I F s σ H Q x hq => h2 g I F s σ H _ x (poT_E hq)⟩
theorem op_read {r : R2} {op : D → D → Option D} {ta tb : TE} (hs : OpS X r op) (a2 : ∀ g I F s σ H Q, Sim X.K g I F s σ H → PoO X W g σ (oa.ev s) Q → ta σ H Q) (b2 : ∀ g I F s σ H Q, Sim X.K g I F s σ H → PoO X W g σ (ob.ev s) Q → tb σ H Q) :
    ∀ g I F s σ H Q, Sim X.K g I F s σ H → PoE X W g σ (e2 op oa ob s) Q → tOp r ta tb σ H Q := by
  intro g I F s σ H Q x hq
  refine two (Po := fun o => PoE X W g σ o Q) (k := fun dx dy => lift1 (op dx dy)) a2 b2 (fun c s q => q) (fun q => q) x hq fun I F s H v w dx dy x rv rw_ q => ?_
  unfold lift1 at q
  cases e : op dx dy with
  | none => rw [e] at q; exact q.elim
  | some d =>
    rw [e] at q
    exact hs g I F s σ H Q v w dx dy d x rv rw_ e fun v F' H' x' r' => q v I F' H' x' r'
theorem st_cmp {o : CmpOp} {r : R2} {op : D → D → Option D} (ho : OpR X (compareOp o) r) (hs : OpS X r op) (ha : SO X W a oa) (hb : SO X W b ob) (hm : behindInMarks o b = false) : ST X W (.Compare a [o] [b] pos) (tB1 (e2 op oa ob)) := by
  obtain ⟨ta, a1, a2⟩ := ha
  obtain ⟨tb, b1, b2⟩ := hb
  exact st_of (pt_cmpR ho a1 b1 hm) (op_read hs a2 b2)
theorem st_lt (ha : SO X W a oa) (hb : SO X W b ob) : ST X W (.Compare a [.Lt] [b] pos) (tB1 (e2 dLt oa ob)) := st_cmp or_lt ops_cmp ha hb (nomark _)
theorem st_le (ha : SO X W a oa) (hb : SO X W b ob) : ST X W (.Compare a [.LtE] [b] pos) (tB1 (e2 dLe oa ob)) := st_cmp or_le ops_cmp ha hb (nomark _)
theorem st_gt (ha : SO X W a oa) (hb : SO X W b ob) : ST X W (.Compare a [.Gt] [b] pos) (tB1 (e2 dGt oa ob)) := st_cmp or_gt ops_cmp ha hb (nomark _)
theorem st_ge (ha : SO X W a oa) (hb : SO X W b ob) : ST X W (.Compare a [.GtE] [b] pos) (tB1 (e2 dGe oa ob)) := st_cmp or_ge ops_cmp ha hb (nomark _)
theorem st_eq {k : Nat} (hr : Room k X.A) (ha : SO X W a oa) (hb : SO X W b ob) : ST X W (.Compare a [.Eq] [b] pos) (tB1 (e2 dEq oa ob)) := st_cmp (OpR.or op_eq (op_eqD (room64 hr))) ops_eq ha hb (nomark _)
theorem st_ne {k : Nat} (hr : Room k X.A) (ha : SO X W a oa) (hb : SO X W b ob) : ST X W (.Compare a [.NotEq] [b] pos) (tB1 (e2 dNe oa ob)) := st_cmp (OpR.or op_ne (op_neD (room64 hr))) ops_ne ha hb (nomark _)
theorem st_is (ha : SO X W a oa) (hb : SO X W b ob) : ST X W (.Compare a [.Is] [b] pos) (tB1 (e2 (dIs false) oa ob)) := st_cmp op_isA ops_is ha hb (nomark _)
theorem st_isnot (ha : SO X W a oa) (hb : SO X W b ob) : ST X W (.Compare a [.IsNot] [b] pos) (tB1 (e2 (dIs true) oa ob)) := st_cmp op_isnotA ops_is ha hb (nomark _)
theorem st_in {k : Nat} (hr : Room k X.A) (ha : SO X W a oa) (hb : SO X W b ob) (hm : behindInMarks .In b = false := by rfl) : ST X W (.Compare a [.In] [b] pos) (tB1 (e2 (dIn false) oa ob)) := st_cmp (op_inA (room65 hr)) ops_in ha hb hm
theorem st_notin {k : Nat} (hr : Room k X.A) (ha : SO X W a oa) (hb : SO X W b ob) (hm : behindInMarks .NotIn b = false := by rfl) : ST X W (.Compare a [.NotIn] [b] pos) (tB1 (e2 (dIn true) oa ob)) := st_cmp (op_notInA (room65 hr)) ops_in ha hb hm
theorem chain_read {r r' : R2} {op op' : D → D → Option D} {ta tb tc : TE} (hs : OpS X r op) (hs' : OpS X r' op') (hop : ∀ x y d, op x y = some d → ∃ k, d = .bl k) (a2 : ∀ g I F s σ H Q, Sim X.K g I F s σ H → PoO X W g σ (oa.ev s) Q → ta σ H Q) (b2 : ∀ g I F s σ H Q, Sim X.K g I F s σ H → PoO X W g σ (ob.ev s) Q → tb σ H Q)
    (c2 : ∀ g I F s σ H Q, Sim X.K g I F s σ H → PoO X W g σ (oc.ev s) Q → tc σ H Q) : ∀ g I F s σ H Q, Sim X.K g I F s σ H → PoE X W g σ (eChain op op' oa ob oc s) Q → tChain r r' ta tb tc σ H Q := by
  intro g I F s σ H Q x hq
  unfold eChain at hq
  refine a2 g I F s σ H _ x ?_
  cases e1 : oa.ev s with
  | stuck => rw [e1] at hq; exact hq
  | ex c s1 => rw [e1] at hq; exact hq
  | ok p s1 =>
    rw [e1, bnd_ok] at hq
    intro v I1 F1 H1 x1 r1
    refine b2 (g.at I1 F1) I1 F1 s1 σ H1 _ x1.here ?_
    cases e2 : ob.ev s1 with
    | stuck => rw [e2] at hq; exact hq
    | ex c s2 => rw [e2] at hq; exact fun I2 F2 H2 u x2 hu => hq _ _ _ _ (x1.back x2) hu
    | ok q s2 =>
      rw [e2, bnd_ok] at hq
      intro w I2 F2 H2 x2 r2
      have x2' := x1.back x2
      have r1' := r1.later x2
      cases e3 : p.rd s2 with
      | none => simp only [e3] at hq; exact hq.elim
      | some dx =>
        cases e4 : q.rd s2 with
        | none => simp only [e3, e4] at hq; exact hq.elim
        | some dy =>
          simp only [e3, e4] at hq
          cases e5 : op dx dy with
          | none => simp only [e5] at hq; exact hq.elim
          | some d =>
            obtain ⟨k, rfl⟩ := hop dx dy d e5
            refine hs (g.at I2 F2) I2 F2 s2 σ H2 _ v w dx dy (.bl k) x2'.here (r1'.rw x2' e3) (r2.rw x2' e4) e5 fun z F3 H3 x3 r3 => ?_
            cases r3
            refine ⟨k, rfl, ?_⟩
            have x3' := x2'.back x3
            have r2' := r2.later (σ := σ) x3
            cases k with
            | false =>
              simp only [e5] at hq
              rw [if_neg Bool.false_ne_true]
              exact hq _ _ _ _ x3' (.bl false)
            | true =>
              simp only [e5] at hq
              rw [if_pos rfl]
              refine c2 (g.at I2 F3) I2 F3 s2 σ H3 _ x3'.here ?_
              cases e6 : oc.ev s2 with
              | stuck => rw [e6] at hq; exact hq
              | ex c s3 => rw [e6] at hq; exact fun I2 F2 H2 u x2 hu => hq _ _ _ _ (x3'.back x2) hu
              | ok zz s3 =>
                rw [e6, bnd_ok] at hq
                intro w4 I4 F4 H4 x4 r4
                have x4' := x3'.back x4
                have r2'' := r2'.later x4
                cases e7 : q.rd s3 with
                | none => simp only [e7] at hq; exact hq.elim
                | some dy2 =>
                  cases e8 : zz.rd s3 with
                  | none => simp only [e7, e8] at hq; exact hq.elim
                  | some dz =>
                    simp only [e7, e8] at hq
                    unfold lift1 at hq
                    cases e9 : op' dy2 dz with
                    | none => simp only [e9] at hq; exact hq.elim
                    | some d9 =>
                      simp only [e9] at hq
                      exact hs' g I4 F4 s3 σ H4 Q w w4 dy2 dz d9 x4' (r2''.rw x4' e7) (r4.rw x4' e8) e9 fun v F' H' x' r' => hq v I4 F' H' x' r'
theorem st_chain {o o' : CmpOp} {r r' : R2} {op op' : D → D → Option D} (ho : OpR X (compareOp o) r) (ho' : OpR X (compareOp o') r') (hs : OpS X r op) (hs' : OpS X r' op') (hop : ∀ x y d, op x y = some d → ∃ k, d = .bl k) (ha : SO X W a oa) (hb : SO X W b ob) (hc : SO X W c oc)
    (hm : lastMarks [o, o'] [b, c] = false) : ST X W (.Compare a [o, o'] [b, c] pos) (tB1 (eChain op op' oa ob oc)) := by
  obtain ⟨ta, a1, a2⟩ := ha
  obtain ⟨tb, b1, b2⟩ := hb
  obtain ⟨tc, c1, c2⟩ := hc
  exact st_of (pt_chain ho ho' a1 b1 c1 hm) (chain_read hs hs' hop a2 b2 c2)
theorem st_lele (ha : SO X W a oa) (hb : SO X W b ob) (hc : SO X W c oc) (hm : lastMarks [.LtE, .LtE] [b, c] = false := by with_unfolding_all rfl) : ST X W (.Compare a [.LtE, .LtE] [b, c] pos) (tB1 (eChain dLe dLe oa ob oc)) := st_chain or_le or_le ops_cmp ops_cmp dCmp_bl ha hb hc hm
theorem st_lelt (ha : SO X W a oa) (hb : SO X W b ob) (hc : SO X W c oc) (hm : lastMarks [.LtE, .Lt] [b, c] = false := by with_unfolding_all rfl) : ST X W (.Compare a [.LtE, .Lt] [b, c] pos) (tB1 (eChain dLe dLt oa ob oc)) := st_chain or_le or_lt ops_cmp ops_cmp dCmp_bl ha hb hc hm
theorem st_ltle (ha : SO X W a oa) (hb : SO X W b ob) (hc : SO X W c oc) (hm : lastMarks [.Lt, .LtE] [b, c] = false := by with_unfolding_all rfl) : ST X W (.Compare a [.Lt, .LtE] [b, c] pos) (tB1 (eChain dLt dLe oa ob oc)) := st_chain or_lt or_le ops_cmp ops_cmp dCmp_bl ha hb hc hm
theorem st_ltlt (ha : SO X W a oa) (hb : SO X W b ob) (hc : SO X W c oc) (hm : lastMarks [.Lt, .Lt] [b, c] = false := by with_unfolding_all rfl) : ST X W (.Compare a [.Lt, .Lt] [b, c] pos) (tB1 (eChain dLt dLt oa ob oc)) := st_chain or_lt or_lt ops_cmp ops_cmp dCmp_bl ha hb hc hm

/-! ### several names at once -/
def gNms : List Nat → List D → S → Option S
  | [] => gN0
  | i :: is => gN1 (gNm i) (gNms is)
theorem par_core {h : M (List D)} {n : Nat} {is : List Nat} {s : S} {E : Ends} {g : Gh} {σ : St} (hn : is.length = n) (hq : PoS X W g (sAsg (eTup h) (gTp n (gNms is)) s) E) : PoA X W g σ (h s) fun vs H1 => ∃ ws : List V, vs = ws ∧ ws.length = n ∧ ∀ τ : St, (∀ I F s' s2 ds, RepL X.K I F ws ds → Sim X.K g I F s' σ H1 → gNms is ds s' = some s2 → Sim X.K g I F s2 τ H1) → E.nx τ H1 := by
  unfold sAsg at hq
  unfold eTup at hq
  cases e1 : h s with
  | stuck => rw [e1] at hq; exact hq
  | ex c s1 => rw [e1] at hq; exact fun I F H u x hu => hq I F _ H u x hu
  | ok ds s1 =>
    rw [e1, bnd_ok] at hq
    intro vs I F H x r
    by_cases hl : ds.length ≤ sizeLine
    · rw [if_pos hl, bnd_ok] at hq
      unfold gTp at hq
      by_cases hd : ds.length = n
      · simp only [hd, if_true] at hq
        cases e2 : gNms is ds s1 with
        | none => rw [e2] at hq; exact hq.elim
        | some s2 =>
          rw [e2] at hq
          exact ⟨vs, rfl, by rw [r.length, hd], fun τ ht => hq I F τ H (ht I F s1 s2 ds r x e2)⟩
      · simp only [hd, if_false] at hq
        exact hq.elim
    · rw [if_neg hl] at hq
      exact hq.elim
theorem ss_par2 {i j : Nat} {x y : Str} {h : M (List D)} {px py pt : Pos} {kt k2 : Nat} {pt2 : Pos} (hc : X.calm = true) (hN : X.N.Nodup) (hi : X.N[i]? = some x) (hj : X.N[j]? = some y) (hij : i ≠ j)
    (hx : X.env.scope.names.lookup x = some .local) (hy : X.env.scope.names.lookup y = some .local) (ha : SA X W [a, b] h)
    (hw : swappedStores [.Tuple [.Name x px, .Name y py] kt pt] (.Tuple [a, b] k2 pt2) X.env = pure (some [x, y]) := by rfl)
    (hs : swapsWithSole [.Tuple [.Name x px, .Name y py] kt pt] (.Tuple [a, b] k2 pt2) pos.line X.env = pure false := by rfl) :
    SS X W (.Assign [.Tuple [.Name x px, .Name y py] kt pt] (.Tuple [a, b] k2 pt2) pos) (sAsg (eTup h) (gTp 2 (gNms [i, j]))) := by
  obtain ⟨t, a1, a2⟩ := ha
  refine ⟨_, ps_par hc hN hi hj hij hx hy a1 hw hs, fun g I F s σ H E x hq => ?_⟩
  have k := par_core (σ := σ) (n := 2) rfl hq
  have mono : ∀ {o : Out (List D)} {Q Q' : List V → Hp → Prop}, PoA X W g σ o Q → (∀ v H, Q v H → Q' v H) → PoA X W g σ o Q' := fun {o Q Q'} h hh => by
    cases o with
    | stuck => exact h
    | ex c s => exact h
    | ok d s => exact fun vs I F H x r => hh _ _ (h vs I F H x r)
  refine a2 g I F s σ H _ x (mono k fun vs H1 ⟨ws, e, hl, q⟩ => ?_)
  subst e
  obtain ⟨v, w, rfl⟩ : ∃ v w, vs = [v, w] := by
    match vs, hl with
    | [v, w], _ => exact ⟨v, w, rfl⟩
  refine ⟨v, w, rfl, q _ fun I F s' s2 ds r x e => ?_⟩
  cases r with
  | cons r1 rr =>
    cases rr with
    | cons r2 rn =>
      cases rn
      cases e
      exact (x.set r1).set r2
theorem ss_par3 {i j l : Nat} {x y z : Str} {h : M (List D)} {px py pz pt : Pos} {kt k2 : Nat} {pt2 : Pos} (hc : X.calm = true) (hN : X.N.Nodup) (hi : X.N[i]? = some x) (hj : X.N[j]? = some y) (hl : X.N[l]? = some z) (hij : i ≠ j) (hil : i ≠ l) (hjl : j ≠ l)
    (hx : X.env.scope.names.lookup x = some .local) (hy : X.env.scope.names.lookup y = some .local) (hz : X.env.scope.names.lookup z = some .local) (ha : SA X W [a, b, c] h)
    (hw : swappedStores [.Tuple [.Name x px, .Name y py, .Name z pz] kt pt] (.Tuple [a, b, c] k2 pt2) X.env = pure (some [x, y, z]) := by rfl)
    (hs : swapsWithSole [.Tuple [.Name x px, .Name y py, .Name z pz] kt pt] (.Tuple [a, b, c] k2 pt2) pos.line X.env = pure false := by rfl) :
    SS X W (.Assign [.Tuple [.Name x px, .Name y py, .Name z pz] kt pt] (.Tuple [a, b, c] k2 pt2) pos) (sAsg (eTup h) (gTp 3 (gNms [i, j, l]))) := by
  obtain ⟨t, a1, a2⟩ := ha
  refine ⟨_, ps_par3 hc hN hi hj hl hij hil hjl hx hy hz a1 hw hs, fun g I F s σ H E x hq => ?_⟩
  have k := par_core (σ := σ) (n := 3) rfl hq
  have mono : ∀ {o : Out (List D)} {Q Q' : List V → Hp → Prop}, PoA X W g σ o Q → (∀ v H, Q v H → Q' v H) → PoA X W g σ o Q' := fun {o Q Q'} h hh => by
    cases o with
    | stuck => exact h
    | ex c s => exact h
    | ok d s => exact fun vs I F H x r => hh _ _ (h vs I F H x r)
  refine a2 g I F s σ H _ x (mono k fun vs H1 ⟨ws, e, hl, q⟩ => ?_)
  subst e
  obtain ⟨v, w, u, rfl⟩ : ∃ v w u, vs = [v, w, u] := by
    match vs, hl with
    | [v, w, u], _ => exact ⟨v, w, u, rfl⟩
  refine ⟨v, w, u, rfl, q _ fun I F s' s2 ds r x e => ?_⟩
  cases r with
  | cons r1 rr =>
    cases rr with
    | cons r2 rs =>
      cases rs with
      | cons r3 rn =>
        cases rn
        cases e
        exact ((x.set r1).set r2).set r3
end
end Fw
namespace Fw
open PySem PySem.Spec PyProof.Rows L2
/-! ### tuple * int, of any kind -/
theorem tuple_mulS (l : Addr) (items : Array Value) (n : Nat) (dd : Option Addr) (sl : Array (Option Value)) (x : Int) (u : Tok) (c0 : (decide (x < -(2 ^ 63)) || decide (x ≥ 2 ^ 63)) = false) (c1 : (items.isEmpty || x == 1) = true) :
    Meets (Builtin.«tuple.__mul__» ⟨[.ref l, .int x u], []⟩) (fun _ R s => s.heap.get? l = some { cls := .type "tuple", dict := dd, data := .seq items n, slots := sl } ∧
      R (.ok (.ret (Value.ref l))) { s with heap := s.heap, toks := s.toks }) :=
  .of_wp fun prog w A R s h => by
    obtain ⟨hp, g, d, tk, os⟩ := s
    obtain ⟨hl, h⟩ := h
    have f1 := AutoSeq1.idx_int
    wp_walk using wpAny_loadPart' hl
    repeat (first
      | (refine wpAny_ite_false (decide_eq_false (by rw [c0]; exact Bool.false_ne_true)) ?_; wp_walk using wpAny_loadPart' hl)
      | (refine wpAny_ite_true (decide_eq_true (by rw [c1])) ?_; wp_walk using wpAny_loadPart' hl))
    exact ⟨_, rfl, h⟩
theorem tuple_mulE (l : Addr) (items : Array Value) (n : Nat) (dd : Option Addr) (sl : Array (Option Value)) (x : Int) (u : Tok) (c0 : (decide (x < -(2 ^ 63)) || decide (x ≥ 2 ^ 63)) = false) (c1 : (items.isEmpty || x == 1) = false) (c2 : (decide (x ≤ 0) || items.isEmpty) = true) :
    Meets (Builtin.«tuple.__mul__» ⟨[.ref l, .int x u], []⟩) (fun _ R s => s.heap.get? l = some { cls := .type "tuple", dict := dd, data := .seq items n, slots := sl } ∧
      R (.ok (.ret (Value.ref s.heap.objs.size))) { s with heap := s.heap.push { cls := Value.type "tuple", data := Data.seq #[] }, toks := s.toks }) :=
  .of_wp fun prog w A R s h => by
    obtain ⟨hp, g, d, tk, os⟩ := s
    obtain ⟨hl, h⟩ := h
    have f1 := AutoSeq1.idx_int
    wp_walk using wpAny_loadPart' hl
    repeat (first
      | (refine wpAny_ite_false (decide_eq_false (by rw [c0]; exact Bool.false_ne_true)) ?_; wp_walk using wpAny_loadPart' hl)
      | (refine wpAny_ite_false (decide_eq_false (by rw [c1]; exact Bool.false_ne_true)) ?_; wp_walk using wpAny_loadPart' hl)
      | (refine wpAny_ite_true (decide_eq_true (by rw [c2])) ?_; wp_walk using wpAny_loadPart' hl))
    exact ⟨_, rfl, h⟩
end Fw
namespace Fw
open PySem L2
section
variable {P : Program} {w : World} {K : PySem.W.Frag} {mg : Str → Option Value} {base : Heap}
theorem runP_plain {N : Nat} {body : M Fl} {ds : List D} (h : runP N body ds ≠ .stuck) : D.plainL ds = true := by
  by_cases e : D.plainL ds = true
  · exact e
  · exact absurd (by unfold runP; rw [if_neg e]) h
theorem dp_mk {x qual : Str} {st : Stmt} {f : Addr} {fd : FuncData} {N ps : List Str} {k : Nat} {body : M Fl} (Fu : Fun K x qual st f fd) (Sc : FnScope N ps (defScope st)) {y : Str} (hm : mg y = some (.ref f)) (hbi : Binds K fd ps []) {φ : List D → POut}
    (hφ : φ = fun ds => if ds.length = ps.length then runP N.length body ds else .stuck)
    (hb : ∀ (cdv : Value) (A : Around) (outer : List Env) (s : Shared) (H : Hp) (E : XK), Room k (A.deeper (PyProof.Rows.envOfC qual (defScope st) s.heap.objs.size f cdv)) → Takes (cxF P w K mg base N qual (defScope st) f cdv A outer s H E) (wE E) →
      PassesOwn (model P w) (cxF P w K mg base N qual (defScope st) f cdv A outer s H E).A (cxF P w K mg base N qual (defScope st) f cdv A outer s H E).env (cxF P w K mg base N qual (defScope st) f cdv A outer s H E).xe →
      SB (cxF P w K mg base N qual (defScope st) f cdv A outer s H E) (wE E) (defBody st) body) : DP P w K mg base (k + 1) y φ := by
  subst hφ
  refine ⟨⟨f, fd, ps, fnP Fu Sc (fun ds h => ?_) hb, hm, Fu.kp, hbi⟩, fun ds h => ?_⟩
  · by_cases e : ds.length = ps.length
    · exact ⟨e, if_pos e⟩
    · exact absurd (if_neg e) h
  · by_cases e : ds.length = ps.length
    · simp only [e, if_true] at h
      exact runP_plain h
    · exact absurd (if_neg e) h
theorem fp_mk {x qual : Str} {st : Stmt} {f : Addr} {fd : FuncData} {N ps : List Str} {k : Nat} {body : M Fl} (Fu : Fun K x qual st f fd) (Sc : FnScope N ps (defScope st)) {φ : List D → POut}
    (hφ : φ = fun ds => if ds.length = ps.length then runP N.length body ds else .stuck)
    (hb : ∀ (cdv : Value) (A : Around) (outer : List Env) (s : Shared) (H : Hp) (E : XK), Room k (A.deeper (PyProof.Rows.envOfC qual (defScope st) s.heap.objs.size f cdv)) → Takes (cxF P w K mg base N qual (defScope st) f cdv A outer s H E) (wE E) →
      PassesOwn (model P w) (cxF P w K mg base N qual (defScope st) f cdv A outer s H E).A (cxF P w K mg base N qual (defScope st) f cdv A outer s H E).env (cxF P w K mg base N qual (defScope st) f cdv A outer s H E).xe →
      SB (cxF P w K mg base N qual (defScope st) f cdv A outer s H E) (wE E) (defBody st) body) : FnOk P w K mg base (L2.CX P w) (k + 1) f fd ps (spP K mg φ) := by
  subst hφ
  refine fnP Fu Sc (fun ds h => ?_) hb
  by_cases e : ds.length = ps.length
  · exact ⟨e, if_pos e⟩
  · exact absurd (if_neg e) h
theorem ds_mk {x qual : Str} {st : Stmt} {f : Addr} {fd : FuncData} {N ps : List Str} {k : Nat} {body : M Fl} (Fu : Fun K x qual st f fd) (Sc : FnScope N ps (defScope st)) {y : Str} (hm : mg y = some (.ref f)) (hbi : Binds K fd ps []) {φ : List D → List Ob → FOut}
    (hφ : φ = fun ds st => if ds.length = ps.length then runS N.length body ds st else .stuck)
    (hb : ∀ (cdv : Value) (A : Around) (outer : List Env) (s : Shared) (H : Hp) (E : XK), Room k (A.deeper (PyProof.Rows.envOfC qual (defScope st) s.heap.objs.size f cdv)) → Takes (cxF P w K mg base N qual (defScope st) f cdv A outer s H E) (wE E) →
      PassesOwn (model P w) (cxF P w K mg base N qual (defScope st) f cdv A outer s H E).A (cxF P w K mg base N qual (defScope st) f cdv A outer s H E).env (cxF P w K mg base N qual (defScope st) f cdv A outer s H E).xe →
      SB (cxF P w K mg base N qual (defScope st) f cdv A outer s H E) (wE E) (defBody st) body) : DS P w K mg base (k + 1) y φ := by
  subst hφ
  refine ⟨⟨f, fd, ps, fnS Fu Sc (fun ds st h => ?_) hb, hm, Fu.kp, hbi⟩⟩
  by_cases e : ds.length = ps.length
  · exact ⟨e, if_pos e⟩
  · exact absurd (if_neg e) h
theorem dp_no {x qual : Str} {st : Stmt} {f : Addr} {fd : FuncData} {ps : List Str} {k : Nat} (Fu : Fun K x qual st f fd) {y : Str} (hm : mg y = some (.ref f)) (hbi : Binds K fd ps []) {φ : List D → POut} (hφ : ∀ ds, φ ds = .stuck) : DP P w K mg base k y φ := by
  have no : ∀ vs H Q E, ¬ spP K mg φ vs H Q E := fun vs H Q E ⟨F, ds, _, _, h⟩ => by rw [hφ] at h; exact h
  exact ⟨⟨f, fd, ps, ⟨fun vs H Q E h => (no _ _ _ _ h).elim, fun A outer s H args us vs Q E _ _ _ _ h => (no _ _ _ _ h).elim⟩, hm, Fu.kp, hbi⟩, fun ds h => absurd (hφ ds) h⟩
theorem ds_no {x qual : Str} {st : Stmt} {f : Addr} {fd : FuncData} {ps : List Str} {k : Nat} (Fu : Fun K x qual st f fd) {y : Str} (hm : mg y = some (.ref f)) (hbi : Binds K fd ps []) {φ : List D → List Ob → FOut} (hφ : ∀ ds st, φ ds st = .stuck) : DS P w K mg base k y φ := by
  have no : ∀ vs H Q E, ¬ spS K mg φ vs H Q E := fun vs H Q E ⟨I, F, ds, st, _, _, h⟩ => by rw [hφ] at h; exact h
  exact ⟨⟨f, fd, ps, ⟨fun vs H Q E h => (no _ _ _ _ h).elim, fun A outer s H args us vs Q E _ _ _ _ h => (no _ _ _ _ h).elim⟩, hm, Fu.kp, hbi⟩⟩
end
section
variable {X : Cx} {W : WX} {elt tg iter : Expr} {ifs : List Expr} {scope : Scope} {own : List (Str × Nat)} {pos : Pos}
/-- y = [e for t in it if c]: as a value -/
theorem ss_setLc {i : Nat} {y : Str} {py spos : Pos} {f : M (List D)} {t : Tg} {c : M Bool} {e : M D} (hc : X.calm = true) (hN : X.N.Nodup) (hy : X.N[i]? = some y) (hyl : X.env.scope.names.lookup y = some .local)
    (hsw : swapsWith (.ListComp elt [⟨tg, iter, ifs, 0⟩] scope pos) (some (.Name y py)) spos.line X.env = pure true) (hi : SI X W tg iter f) (ok : BlkOk X.N X.env.scope scope own)
    (hg : ∀ (s : Shared) (H : Hp) (C : Addr) (cl : List (Str × Addr)) (fp : List Addr), SG (X.blk s H scope (compEnvC scope cl C X.env) fp) (own.map (·.2)) tg t)
    (ht : ∀ (s : Shared) (H : Hp) (C : Addr) (cl : List (Str × Addr)) (fp : List Addr), STs (X.blk s H scope (compEnvC scope cl C X.env) fp) W0 ifs c)
    (he : ∀ (s : Shared) (H : Hp) (C : Addr) (cl : List (Str × Addr)) (fp : List Addr), SE (X.blk s H scope (compEnvC scope cl C X.env) fp) W0 elt e)
    (hs : ∀ x, foldedSetIterable iter X.env x = pure x := by intro _; rfl) : SS X W (.Assign [.Name y py] (.ListComp elt [⟨tg, iter, ifs, 0⟩] scope pos) spos) (sAsg (eFz (fLc (own.map (·.2)) f t c e)) (gNm i)) := by
  obtain ⟨wi, i1, i2⟩ := hi
  refine ⟨_, ps_setLc hc hN hy hyl hsw i1 ok (fun s H C cl fp => (hg s H C cl fp).can) (fun s H C cl fp => (ht s H C cl fp).can) (fun s H C cl fp => (he s H C cl fp).can) hs, fun g I F s σ H E x hq => lc_parts i2 x ?_⟩
  unfold sAsg eFz at hq
  cases e1 : fLc (own.map (·.2)) f t c e s with
  | stuck => rw [e1] at hq; exact hq
  | ex c s1 => rw [e1] at hq; exact fun I F H u x hu => hq I F _ H u x hu
  | ok b s1 =>
    rw [e1, bnd_ok] at hq
    intro I F H p h x hp r
    cases e2 : b.toD with
    | none => rw [e2] at hq; exact hq.elim
    | some d =>
      rw [e2, bnd_ok] at hq
      obtain ⟨x2, le⟩ := x.alloc (o := h) hp
      exact hq I _ _ _ (gNm_ok x2 ((r.mono le (List.prefix_refl _)).toRep e2 upd_same) rfl)
end
section
variable {X : Cx} {W : WX} {a b e : Expr} {oa ob : Opd} {pos p p2 : Pos}
/-- x[::-1] -/
def eRev (oa : Opd) : M D := eAlt (e1 dRevT oa) (eFz (f1 oRev oa))
theorem se_rev {k : Nat} {p1 p2 p3 : Pos} (ha : SO X W a oa) : SE X W (.Subscript a (.Slice none none (some (.UnaryOp .USub (.Constant (.int 1) k p1) p2)) p3) pos) (eRev oa) := se_alt (se_revT ha) (se_fz (sf_revL ha))
abbrev dMax : D → D → Option D := iOp fun i j => if j > i then j else i
abbrev dMin : D → D → Option D := iOp fun i j => if j < i then j else i
end
end Fw
namespace Fw
open PySem L2
/-- a def of no default, as the head tells it -/
theorem fun_of {K : PySem.W.Frag} {x qual : Str} {st : Stmt} {f : Addr} {fd : FuncData} (F : FunD K x qual (defArgs st) (defBody st) (defScope st) [] [] f fd) : Fun K x qual st f fd := by
  obtain ⟨⟨oc, od, dV, kV, doc, pm, an, cdv, ct, osl, e, lk, hcd, hD, _⟩, kp⟩ := F
  rcases hD with ⟨_, rfl⟩ | ⟨q, _⟩
  · exact ⟨⟨oc, od, kV, doc, pm, an, cdv, ct, osl, e, lk, hcd⟩, kp⟩
  · exact absurd rfl q
/-- the law's promise at a script -/
theorem law_sp {K : PySem.W.Frag} {mg : Str → Option Value} {φ : List D → POut} {H : Hp} {a : Addr} {ns : List Int} (h : φ [.lst (ns.map .int)] = .ok (.bl true)) (hS : SqL K H a (ns.map V.int)) : spP K mg φ [.ref a] H (fun v _ => v = .bl true) fun _ _ _ => False := by
  refine ⟨H, [.lst (ns.map .int)], fun _ _ e => e, .cons (.lst hS ?_) .nil, ?_⟩
  · clear h hS
    induction ns with
    | nil => exact .nil
    | cons n ns ih => exact .cons (.int n) ih
  · rw [h]
    intro v F' H' _ _ _ r
    cases r
    rfl
theorem no_cx {P : Program} {w : World} (H : Hp) (s : Shared) (e : Value) (s' : Shared) (h : L2.CX P w [] H s (fun _ _ _ => False) e s') : False := by
  obtain ⟨c, d, n, H', m, q⟩ := h
  exact q.2.2.2.2.2.2.2
theorem walk_law {l : PySem.W.OpenLaw} {k : Nat} {q : Program} {loose : List Str} {XP : (Str → Option Value) → Heap → Prop} {YP : World → Heap → Prop} {d : DefRec} {x : Str} {φ : List D → POut}
    (hn : l.most = some 63) (hdf : d.params.defaults = []) (hr : Room k callerA) (hφ : ∀ ns : List Int, ns.length ≤ 63 → φ [.lst (ns.map .int)] = .ok (.bl true))
    (F : ∀ (w : World) (mg : Str → Option Value) (fa : Addr) (h : Heap), YP w h → h.Ns mainGlobals mg → mg d.name = some (.ref fa) →
      ∃ (K : PySem.W.Frag) (fd : FuncData), K.In h ∧ (∀ (s : Shared) (u : Value), BindsTo s fd ⟨[u], []⟩ [(x, u)]) ∧
        ∀ base : Heap, K.In base → base.Ns mainGlobals mg → FnOk l.prog w K mg base (L2.CX l.prog w) k fa fd [x] (spP K mg φ)) :
    PySem.W.WalkO q loose XP YP l.row.toRowW d [] (fun f vs => PySem.call f vs) := by
  refine Att.attach_call hn hdf fun w s0 s1 mg mb fa o pm cd doc a vs ns G Y ho hd hcd hmg hobj hints hlen hg => ?_
  obtain ⟨K, fd, KX, hb, hF⟩ := F w mg fa _ Y G.T.g hmg
  exact law_call KX G.T.g G.T.b G.T.builtins G.T.nolimit hg hobj hints (Nat.le_trans hlen (by decide)) hr hF hb (fun H hO hS => law_sp (hφ ns hlen) hS) fun H e s' => no_cx H s1 e s'
end Fw
namespace Fw
open PySem L2
@[simp] theorem sizeLine_s : sizeLine = 16777216 := sizeLine_n
/-! ### running: each construct with its rest as a word of its own, so that nothing is looked at ahead of time -/
def kSeq (h : M Fl) : Fl → M Fl := fun fl s => match fl with
  | .nx => h s
  | .rt d => .ok (.rt d) s
  | .bk => .ok .bk s
  | .ct => .ok .ct s
@[simp] theorem r_bSeq (f h : M Fl) (s : S) : bSeq f h s = (f s).bnd (kSeq h) := rfl
@[simp] theorem r_kSeq_nx (h : M Fl) (s : S) : kSeq h .nx s = h s := rfl
@[simp] theorem r_kSeq_rt (h : M Fl) (d : D) (s : S) : kSeq h (.rt d) s = .ok (.rt d) s := rfl
@[simp] theorem r_kSeq_bk (h : M Fl) (s : S) : kSeq h .bk s = .ok .bk s := rfl
@[simp] theorem r_kSeq_ct (h : M Fl) (s : S) : kSeq h .ct s = .ok .ct s := rfl
@[simp] theorem r_bNil (s : S) : bNil s = .ok .nx s := rfl
@[simp] theorem r_sPass (s : S) : sPass s = .ok .nx s := rfl
def kRet : D → M Fl := fun d s => .ok (.rt d) s
@[simp] theorem r_sRet (f : M D) (s : S) : sRet f s = (f s).bnd kRet := rfl
@[simp] theorem r_kRet (d : D) (s : S) : kRet d s = .ok (.rt d) s := rfl
def kExpr : D → M Fl := fun _ s => .ok .nx s
@[simp] theorem r_sExpr (f : M D) (s : S) : sExpr f s = (f s).bnd kExpr := rfl
@[simp] theorem r_kExpr (d : D) (s : S) : kExpr d s = .ok .nx s := rfl
def kIf {a : Type} (f h : M a) : Bool → M a := fun b s => if b = true then f s else h s
@[simp] theorem r_sIf (c : M Bool) (f h : M Fl) (s : S) : sIf c f h s = (c s).bnd (kIf f h) := rfl
@[simp] theorem r_eIf (c : M Bool) (f h : M D) (s : S) : eIf c f h s = (c s).bnd (kIf f h) := rfl
@[simp] theorem r_kIf_t {a : Type} (f h : M a) (s : S) : kIf f h true s = f s := rfl
@[simp] theorem r_kIf_f {a : Type} (f h : M a) (s : S) : kIf f h false s = h s := rfl
theorem kIf_ite {a : Type} (f h : M a) (b : Bool) (s : S) : kIf f h b s = if b = true then f s else h s := rfl
def kAsg (t : Tg) : D → M Fl := fun d s => liftS (t d s)
@[simp] theorem r_sAsg (f : M D) (t : Tg) (s : S) : sAsg f t s = (f s).bnd (kAsg t) := rfl
@[simp] theorem r_kAsg (t : Tg) (d : D) (s : S) : kAsg t d s = liftS (t d s) := rfl
@[simp] theorem r_liftS (s : S) : liftS (some s) = .ok .nx s := rfl
@[simp] theorem r_gNm (i : Nat) (d : D) (e : List Slot) (st : List Ob) : gNm i d ⟨e, st⟩ = some ⟨e.set i (.v d), st⟩ := rfl
@[simp] theorem r_gTp (n : Nat) (f : List D → S → Option S) (ds : List D) (s : S) : gTp n f (.tup ds) s = if ds.length = n then f ds s else none := rfl
@[simp] theorem r_gLs (n : Nat) (f : List D → S → Option S) (ds : List D) (s : S) : gLs n f (.lst ds) s = if ds.length = n then f ds s else none := rfl
@[simp] theorem r_gNms0 (s : S) : gNms [] [] s = some s := rfl
@[simp] theorem r_gNms1 (i : Nat) (is : List Nat) (d : D) (ds : List D) (e : List Slot) (st : List Ob) : gNms (i :: is) (d :: ds) ⟨e, st⟩ = gNms is ds ⟨e.set i (.v d), st⟩ := rfl
def kOwn (i : Nat) : Ob → M Fl := fun b s => if i < s.env.length then .ok .nx { s with env := s.env.set i (.own b) } else .stuck
@[simp] theorem r_sOwn (i : Nat) (f : M Ob) (s : S) : sOwn i f s = (f s).bnd (kOwn i) := rfl
@[simp] theorem r_kOwn (i : Nat) (b : Ob) (e : List Slot) (st : List Ob) : kOwn i b ⟨e, st⟩ = if i < e.length then .ok .nx ⟨e.set i (.own b), st⟩ else .stuck := rfl
def kNew : Ob → M D := fun b s => .ok (.obj s.st.length) { s with st := s.st ++ [b] }
@[simp] theorem r_eNew (f : M Ob) (s : S) : eNew f s = (f s).bnd kNew := rfl
@[simp] theorem r_kNew (b : Ob) (e : List Slot) (st : List Ob) : kNew b ⟨e, st⟩ = .ok (.obj st.length) ⟨e, st ++ [b]⟩ := rfl
@[simp] theorem r_eC (d : D) (s : S) : eC d s = .ok d s := rfl
def varK (i : Nat) (o : Option Slot) : M D := fun s => match o with
  | some (.v d) => .ok d s
  | some (.own b) => (match b.toD with
    | some d => .ok d { s with env := s.env.set i (.v d) }
    | none => .stuck)
  | _ => .stuck
@[simp] theorem r_eVar (i : Nat) (e : List Slot) (st : List Ob) : eVar i ⟨e, st⟩ = varK i e[i]? ⟨e, st⟩ := rfl
@[simp] theorem r_varK_v (i : Nat) (d : D) (s : S) : varK i (some (.v d)) s = .ok d s := rfl
@[simp] theorem r_varK_l (i : Nat) (xs : List D) (e : List Slot) (st : List Ob) : varK i (some (.own (.lst xs))) ⟨e, st⟩ = .ok (.lst xs) ⟨e.set i (.v (.lst xs)), st⟩ := rfl
@[simp] theorem r_varK_d (i : Nat) (xs : List (D × D)) (e : List Slot) (st : List Ob) : varK i (some (.own (.dct xs))) ⟨e, st⟩ = .ok (.dct xs) ⟨e.set i (.v (.dct xs)), st⟩ := rfl
@[simp] theorem r_ob (f : M D) (s : S) : Opd.ev (.ob f) s = (f s).bnd obK := rfl
@[simp] theorem r_obK_o (n : Nat) (s : S) : obK (.obj n) s = .ok (.o n) s := rfl
@[simp] theorem r_obK_n (s : S) : obK .non s = .ok (.d .non) s := rfl
@[simp] theorem r_obK_b (b : Bool) (s : S) : obK (.bl b) s = .ok (.d (.bl b)) s := rfl
@[simp] theorem r_obK_i (i : Int) (s : S) : obK (.int i) s = .ok (.d (.int i)) s := rfl
@[simp] theorem r_obK_s (x : Str) (s : S) : obK (.str x) s = .ok (.d (.str x)) s := rfl
@[simp] theorem r_obK_t (l : List D) (s : S) : obK (.tup l) s = .ok (.d (.tup l)) s := rfl
@[simp] theorem r_obK_l (l : List D) (s : S) : obK (.lst l) s = .ok (.d (.lst l)) s := rfl
@[simp] theorem r_obK_d (l : List (D × D)) (s : S) : obK (.dct l) s = .ok (.d (.dct l)) s := rfl
@[simp] theorem rd_o (n : Nat) (s : S) : Rd1.rd (.o n) s = (s.st[n]?).bind Ob.toD := rfl
theorem obK_of {d : D} (h : ∀ n, d ≠ .obj n) (s : S) : obK d s = .ok (.d d) s := by
  cases d <;> first
    | rfl
    | exact absurd rfl (h _)
def kEx : D → M Rd1 := fun x s => .ok (.d x) s
@[simp] theorem r_ex (f : M D) (s : S) : Opd.ev (.ex f) s = (f s).bnd kEx := rfl
@[simp] theorem r_kEx (x : D) (s : S) : kEx x s = .ok (.d x) s := rfl
def snK (i : Nat) (o : Option D) : M Rd1 := fun s => match o with
  | some _ => .ok (.i i) s
  | none => .stuck
@[simp] theorem r_sn (i : Nat) (s : S) : Opd.ev (.sn i) s = snK i (cont s i) s := rfl
@[simp] theorem r_snK (i : Nat) (d : D) (s : S) : snK i (some d) s = .ok (.i i) s := rfl
def contK (o : Option Slot) (st : List Ob) : Option D := match o with
  | some (.v (.obj n)) => (st[n]?).bind Ob.toD
  | some (.v d) => some d
  | some (.own b) => b.toD
  | _ => none
@[simp] theorem r_cont (e : List Slot) (st : List Ob) (i : Nat) : cont ⟨e, st⟩ i = contK e[i]? st := by
  unfold cont contK
  rfl
@[simp] theorem r_contK_n (st : List Ob) : contK (some (.v .non)) st = some .non := rfl
@[simp] theorem r_contK_b (st : List Ob) (i : Bool) : contK (some (.v (.bl i))) st = some (.bl i) := rfl
@[simp] theorem r_contK_i (st : List Ob) (i : Int) : contK (some (.v (.int i))) st = some (.int i) := rfl
@[simp] theorem r_contK_s (st : List Ob) (i : Str) : contK (some (.v (.str i))) st = some (.str i) := rfl
@[simp] theorem r_contK_t (st : List Ob) (i : List D) : contK (some (.v (.tup i))) st = some (.tup i) := rfl
@[simp] theorem r_contK_l (st : List Ob) (i : List D) : contK (some (.v (.lst i))) st = some (.lst i) := rfl
@[simp] theorem r_contK_d (st : List Ob) (i : List (D × D)) : contK (some (.v (.dct i))) st = some (.dct i) := rfl
@[simp] theorem r_contK_o (st : List Ob) (n : Nat) : contK (some (.v (.obj n))) st = (st[n]?).bind Ob.toD := rfl
@[simp] theorem r_contK_ol (st : List Ob) (xs : List D) : contK (some (.own (.lst xs))) st = some (.lst xs) := rfl
@[simp] theorem r_contK_od (st : List Ob) (xs : List (D × D)) : contK (some (.own (.dct xs))) st = some (.dct xs) := rfl
theorem contK_plain (st : List Ob) (d : D) (h : d.plain = true) : contK (some (.v d)) st = some d := by
  cases d <;> first
    | rfl
    | cases h
@[simp] theorem toD_lst (xs : List D) : Ob.toD (.lst xs) = some (.lst xs) := rfl
@[simp] theorem toD_dct (xs : List (D × D)) : Ob.toD (.dct xs) = some (.dct xs) := rfl
@[simp] theorem rd_d (x : D) (s : S) : Rd1.rd (.d x) s = some x := rfl
@[simp] theorem rd_i (n : Nat) (s : S) : Rd1.rd (.i n) s = cont s n := rfl
@[simp] theorem r_lift1 (d : D) (s : S) : lift1 (some d) s = .ok d s := rfl
@[simp] theorem r_liftB (d : Bool) (s : S) : liftB (some d) s = .ok d s := rfl
def kE2c (op : D → D → Option D) (x y : Option D) : M D := fun s => match x, y with
  | some dx, some dy => lift1 (op dx dy) s
  | _, _ => .stuck
def kE2b (op : D → D → Option D) (x : Rd1) : Rd1 → M D := fun y s => kE2c op (x.rd s) (y.rd s) s
def kE2a (op : D → D → Option D) (b : Opd) : Rd1 → M D := fun x s => (b.ev s).bnd (kE2b op x)
@[simp] theorem r_e2 (op : D → D → Option D) (a b : Opd) (s : S) : e2 op a b s = (a.ev s).bnd (kE2a op b) := rfl
@[simp] theorem r_kE2a (op : D → D → Option D) (b : Opd) (x : Rd1) (s : S) : kE2a op b x s = (b.ev s).bnd (kE2b op x) := rfl
@[simp] theorem r_kE2b (op : D → D → Option D) (x y : Rd1) (s : S) : kE2b op x y s = kE2c op (x.rd s) (y.rd s) s := rfl
@[simp] theorem r_kE2c (op : D → D → Option D) (x y : D) (s : S) : kE2c op (some x) (some y) s = lift1 (op x y) s := rfl
def kE1b (op : D → Option D) (x : Option D) : M D := fun s => match x with
  | some d => lift1 (op d) s
  | none => .stuck
def kE1 (op : D → Option D) : Rd1 → M D := fun x s => kE1b op (x.rd s) s
@[simp] theorem r_e1 (op : D → Option D) (a : Opd) (s : S) : e1 op a s = (a.ev s).bnd (kE1 op) := rfl
@[simp] theorem r_kE1 (op : D → Option D) (x : Rd1) (s : S) : kE1 op x s = kE1b op (x.rd s) s := rfl
@[simp] theorem r_kE1b (op : D → Option D) (x : D) (s : S) : kE1b op (some x) s = lift1 (op x) s := rfl
@[simp] theorem r_eIsi (t : Ty) (a : Opd) (s : S) : eIsi t a s = (a.ev s).bnd (kE1 fun d => (t.is d).map .bl) := rfl
def kTrub (x : Option D) : M Bool := fun s => match x with
  | some d => liftB (dTru d) s
  | none => .stuck
def kTru : Rd1 → M Bool := fun x s => kTrub (x.rd s) s
@[simp] theorem r_tTru (a : Opd) (s : S) : tTru a s = (a.ev s).bnd kTru := rfl
@[simp] theorem r_kTru (x : Rd1) (s : S) : kTru x s = kTrub (x.rd s) s := rfl
@[simp] theorem r_kTrub (x : D) (s : S) : kTrub (some x) s = liftB (dTru x) s := rfl
def kB1 : D → M Bool := fun d s => match d with
  | .bl b => .ok b s
  | _ => .stuck
@[simp] theorem r_tB1 (f : M D) (s : S) : tB1 f s = (f s).bnd kB1 := rfl
@[simp] theorem r_kB1 (b : Bool) (s : S) : kB1 (.bl b) s = .ok b s := rfl
def kNotT : Bool → M Bool := fun b s => .ok (!b) s
@[simp] theorem r_tNotM (f : M Bool) (s : S) : tNotM f s = (f s).bnd kNotT := rfl
@[simp] theorem r_kNotT (b : Bool) (s : S) : kNotT b s = .ok (!b) s := rfl
def kAndT (h : M Bool) : Bool → M Bool := fun b s => if b = true then h s else .ok false s
def kOrT (h : M Bool) : Bool → M Bool := fun b s => if b = true then .ok true s else h s
@[simp] theorem r_tAndM (f h : M Bool) (s : S) : tAndM f h s = (f s).bnd (kAndT h) := rfl
@[simp] theorem r_tOrM (f h : M Bool) (s : S) : tOrM f h s = (f s).bnd (kOrT h) := rfl
@[simp] theorem r_kAndT_t (h : M Bool) (s : S) : kAndT h true s = h s := rfl
@[simp] theorem r_kAndT_f (h : M Bool) (s : S) : kAndT h false s = .ok false s := rfl
@[simp] theorem r_kOrT_t (h : M Bool) (s : S) : kOrT h true s = .ok true s := rfl
@[simp] theorem r_kOrT_f (h : M Bool) (s : S) : kOrT h false s = h s := rfl
/-- both sides calm: the test in one word -/
theorem kAndT_ok (h : M Bool) (b c : Bool) (s : S) (e : h s = .ok c s) : kAndT h b s = .ok (b && c) s := by cases b <;> simp [e]
theorem kOrT_ok (h : M Bool) (b c : Bool) (s : S) (e : h s = .ok c s) : kOrT h b s = .ok (b || c) s := by cases b <;> simp [e]
def kAndE (h : M D) : D → M D := fun d s => match d with
  | .bl true => h s
  | .bl false => .ok (.bl false) s
  | _ => .stuck
def kOrE (h : M D) : D → M D := fun d s => match d with
  | .bl false => h s
  | .bl true => .ok (.bl true) s
  | _ => .stuck
@[simp] theorem r_eAnd (f h : M D) (s : S) : eAnd f h s = (f s).bnd (kAndE h) := rfl
@[simp] theorem r_eOr (f h : M D) (s : S) : eOr f h s = (f s).bnd (kOrE h) := rfl
@[simp] theorem r_kAndE_t (h : M D) (s : S) : kAndE h (.bl true) s = h s := rfl
@[simp] theorem r_kAndE_f (h : M D) (s : S) : kAndE h (.bl false) s = .ok (.bl false) s := rfl
@[simp] theorem r_kOrE_t (h : M D) (s : S) : kOrE h (.bl true) s = .ok (.bl true) s := rfl
@[simp] theorem r_kOrE_f (h : M D) (s : S) : kOrE h (.bl false) s = h s := rfl
theorem kAndE_ok (h : M D) (b c : Bool) (s : S) (e : h s = .ok (.bl c) s) : kAndE h (.bl b) s = .ok (.bl (b && c)) s := by cases b <;> simp [e]
theorem kOrE_ok (h : M D) (b c : Bool) (s : S) (e : h s = .ok (.bl c) s) : kOrE h (.bl b) s = .ok (.bl (b || c)) s := by cases b <;> simp [e]
def kNotE : D → M D := fun d s => match d with
  | .bl b => .ok (.bl (!b)) s
  | _ => .stuck
@[simp] theorem r_eNot (f : M D) (s : S) : eNot f s = (f s).bnd kNotE := rfl
@[simp] theorem r_kNotE (b : Bool) (s : S) : kNotE (.bl b) s = .ok (.bl (!b)) s := rfl
@[simp] theorem r_aNil (s : S) : aNil s = .ok [] s := rfl
def kCons2 (d : D) : List D → M (List D) := fun ds s => .ok (d :: ds) s
def kCons (h : M (List D)) : D → M (List D) := fun d s => (h s).bnd (kCons2 d)
@[simp] theorem r_aCons (f : M D) (h : M (List D)) (s : S) : aCons f h s = (f s).bnd (kCons h) := rfl
@[simp] theorem r_kCons (h : M (List D)) (d : D) (s : S) : kCons h d s = (h s).bnd (kCons2 d) := rfl
@[simp] theorem r_kCons2 (d : D) (ds : List D) (s : S) : kCons2 d ds s = .ok (d :: ds) s := rfl
def kTup : List D → M D := fun ds s => if ds.length ≤ sizeLine then .ok (.tup ds) s else .stuck
@[simp] theorem r_eTup (h : M (List D)) (s : S) : eTup h s = (h s).bnd kTup := rfl
@[simp] theorem r_kTup (ds : List D) (s : S) : kTup ds s = if ds.length ≤ sizeLine then .ok (.tup ds) s else .stuck := rfl
def kLst : List D → M Ob := fun ds s => if ds.length ≤ sizeLine then .ok (.lst ds) s else .stuck
@[simp] theorem r_fLst (h : M (List D)) (s : S) : fLst h s = (h s).bnd kLst := rfl
@[simp] theorem r_kLst (ds : List D) (s : S) : kLst ds s = if ds.length ≤ sizeLine then .ok (.lst ds) s else .stuck := rfl
def kFz : Ob → M D := fun b s => match b.toD with
  | some d => .ok d s
  | none => .stuck
@[simp] theorem r_eFz (f : M Ob) (s : S) : eFz f s = (f s).bnd kFz := rfl
@[simp] theorem r_kFz_l (xs : List D) (s : S) : kFz (.lst xs) s = .ok (.lst xs) s := rfl
@[simp] theorem r_kFz_d (xs : List (D × D)) (s : S) : kFz (.dct xs) s = .ok (.dct xs) s := rfl
def kCallP (f : List D → POut) : List D → M D := fun ds => (f ds).lift
@[simp] theorem r_eCallP (f : List D → POut) (h : M (List D)) (s : S) : eCallP f h s = (h s).bnd (kCallP f) := rfl
@[simp] theorem r_kCallP (f : List D → POut) (ds : List D) (s : S) : kCallP f ds s = (f ds).lift s := rfl
@[simp] theorem r_liftP (d : D) (s : S) : POut.lift (.ok d) s = .ok d s := rfl
@[simp] theorem r_liftPx (c : Str) (s : S) : POut.lift (.ex c) s = .ex c s := rfl
def kCallS (f : List D → List Ob → FOut) : List D → M D := fun ds s => (f ds s.st).lift s.env
@[simp] theorem r_eCallS (f : List D → List Ob → FOut) (h : M (List D)) (s : S) : eCallS f h s = (h s).bnd (kCallS f) := rfl
@[simp] theorem r_kCallS (f : List D → List Ob → FOut) (ds : List D) (e : List Slot) (st : List Ob) : kCallS f ds ⟨e, st⟩ = (f ds st).lift e := rfl
@[simp] theorem r_liftF (d : D) (st : List Ob) (e : List Slot) : FOut.lift (.ok d st) e = .ok d ⟨e, st⟩ := rfl
@[simp] theorem r_liftFx (c : Str) (st : List Ob) (e : List Slot) : FOut.lift (.ex c st) e = .ex c ⟨e, st⟩ := rfl
def kSeqI : D → M (List D) := fun d s => match d with
  | .tup ds => .ok ds s
  | .lst ds => .ok ds s
  | .str x => .ok (signs x) s
  | _ => .stuck
@[simp] theorem r_iSeq (f : M D) (s : S) : iSeq f s = (f s).bnd kSeqI := rfl
@[simp] theorem r_kSeqI_t (ds : List D) (s : S) : kSeqI (.tup ds) s = .ok ds s := rfl
@[simp] theorem r_kSeqI_l (ds : List D) (s : S) : kSeqI (.lst ds) s = .ok ds s := rfl
@[simp] theorem r_kSeqI_s (x : Str) (s : S) : kSeqI (.str x) s = .ok (signs x) s := rfl
def kRange1 : List D → M (List D) := fun ds s => match ds with
  | [.int j] => if -(2 ^ 62) ≤ j ∧ j < 2 ^ 62 then .ok (rangeD 0 j.toNat) s else .stuck
  | _ => .stuck
@[simp] theorem r_iRange1 (f : M (List D)) (s : S) : iRange1 f s = (f s).bnd kRange1 := rfl
@[simp] theorem r_kRange1 (j : Int) (s : S) : kRange1 [.int j] s = if -(2 ^ 62) ≤ j ∧ j < 2 ^ 62 then .ok (rangeD 0 j.toNat) s else .stuck := rfl
def kRange2 : List D → M (List D) := fun ds s => match ds with
  | [.int i, .int j] => if (-(2 ^ 62) ≤ i ∧ i < 2 ^ 62 ∧ -(2 ^ 62) ≤ j ∧ j < 2 ^ 62) then .ok (rangeD i (j - i).toNat) s else .stuck
  | _ => .stuck
@[simp] theorem r_iRange2 (f : M (List D)) (s : S) : iRange2 f s = (f s).bnd kRange2 := rfl
@[simp] theorem r_kRange2 (i j : Int) (s : S) : kRange2 [.int i, .int j] s = if (-(2 ^ 62) ≤ i ∧ i < 2 ^ 62 ∧ -(2 ^ 62) ≤ j ∧ j < 2 ^ 62) then .ok (rangeD i (j - i).toNat) s else .stuck := rfl
def kZip : List D → M (List D) := fun ds s => match ds with
  | [.tup xs, .tup ys] => .ok (zipD xs ys) s
  | [.lst xs, .lst ys] => .ok (zipD xs ys) s
  | _ => .stuck
@[simp] theorem r_iZip (f : M (List D)) (s : S) : iZip f s = (f s).bnd kZip := rfl
@[simp] theorem r_kZip_t (xs ys : List D) (s : S) : kZip [.tup xs, .tup ys] s = .ok (zipD xs ys) s := rfl
@[simp] theorem r_kZip_l (xs ys : List D) (s : S) : kZip [.lst xs, .lst ys] s = .ok (zipD xs ys) s := rfl
def kLc2 (is : List Nat) (e0 : List Slot) : List D → M Ob := fun ys s1 => match backE e0 is s1.env with
  | some env => .ok (.lst ys) { s1 with env := env }
  | none => .stuck
def kLc (is : List Nat) (t : Tg) (c : M Bool) (e : M D) : List D → M Ob := fun ds s0 => (lcL is t c e ds [] s0).bnd (kLc2 is s0.env)
@[simp] theorem r_fLc (is : List Nat) (it : M (List D)) (t : Tg) (c : M Bool) (e : M D) (s : S) : fLc is it t c e s = (it s).bnd (kLc is t c e) := rfl
theorem r_kLc (is : List Nat) (t : Tg) (c : M Bool) (e : M D) (ds : List D) (s : S) : kLc is t c e ds s = (lcL is t c e ds [] s).bnd (kLc2 is s.env) := rfl
@[simp] theorem r_tYesM (s : S) : tYesM s = .ok true s := rfl
def kFor (t : Tg) (b : M Fl) : List D → M Fl := fun ds => forL t b ds
@[simp] theorem r_sFor (it : M (List D)) (t : Tg) (b : M Fl) (s : S) : sFor it t b s = (it s).bnd (kFor t b) := rfl
theorem r_kFor (t : Tg) (b : M Fl) (ds : List D) (s : S) : kFor t b ds s = forL t b ds s := rfl
def kMeth (i : Nat) (k : List D → Ob → Option (D × Ob)) : List D → M D := fun ys => chg i (k ys)
@[simp] theorem r_eMeth (i : Nat) (f : M (List D)) (k : List D → Ob → Option (D × Ob)) (s : S) : eMeth i f k s = if isLst (cont s i) = true then (f s).bnd (kMeth i k) else .stuck := rfl
@[simp] theorem isLst_l (xs : List D) : isLst (some (.lst xs)) = true := rfl
def chgK (i : Nat) (k : Ob → Option (D × Ob)) (o : Option Slot) : M D := fun s => match o with
  | some (.own b) => (match k b with
    | some (d, b') => .ok d { s with env := s.env.set i (.own b') }
    | none => .stuck)
  | some (.v (.obj n)) => (match (s.st[n]?).bind k with
    | some (d, b') => .ok d { s with st := s.st.set n b' }
    | none => .stuck)
  | _ => .stuck
@[simp] theorem r_kMeth (i : Nat) (k : List D → Ob → Option (D × Ob)) (ys : List D) (e : List Slot) (st : List Ob) : kMeth i k ys ⟨e, st⟩ = chgK i (k ys) e[i]? ⟨e, st⟩ := rfl
def chgO (i : Nat) (r : Option (D × Ob)) : M D := fun s => match r with
  | some (d, b') => .ok d { s with env := s.env.set i (.own b') }
  | none => .stuck
def chgS (n : Nat) (r : Option (D × Ob)) : M D := fun s => match r with
  | some (d, b') => .ok d { s with st := s.st.set n b' }
  | none => .stuck
@[simp] theorem r_chgK_o (i : Nat) (k : Ob → Option (D × Ob)) (b : Ob) (s : S) : chgK i k (some (.own b)) s = chgO i (k b) s := rfl
@[simp] theorem r_chgK_s (i n : Nat) (k : Ob → Option (D × Ob)) (e : List Slot) (st : List Ob) : chgK i k (some (.v (.obj n))) ⟨e, st⟩ = chgS n ((st[n]?).bind k) ⟨e, st⟩ := rfl
@[simp] theorem r_chgO (i : Nat) (d : D) (b : Ob) (e : List Slot) (st : List Ob) : chgO i (some (d, b)) ⟨e, st⟩ = .ok d ⟨e.set i (.own b), st⟩ := rfl
@[simp] theorem r_chgS (i : Nat) (d : D) (b : Ob) (e : List Slot) (st : List Ob) : chgS i (some (d, b)) ⟨e, st⟩ = .ok d ⟨e, st.set i b⟩ := rfl
@[simp] theorem r_k1Append (y : D) (xs : List D) : k1Append [y] (.lst xs) = if xs.length < sizeLine then some (.non, .lst (xs ++ [y])) else none := rfl
/-! ### slices, chains, others -/
def poK : Rd1 → M (Option Int) := fun r s => match r.rd s with
  | some (.int i) => .ok (some i) s
  | _ => .stuck
@[simp] theorem r_po0 (s : S) : poEv none s = .ok none s := rfl
def kSl3 (x : Rd1) (l : Option Int) : Option Int → M D := fun h s => kE1b (dSl l h) (x.rd s) s
def kSl2 (x : Rd1) (hi : Option Opd) : Option Int → M D := fun l s => (poEv hi s).bnd (kSl3 x l)
def kSl1 (lo hi : Option Opd) : Rd1 → M D := fun x s => (poEv lo s).bnd (kSl2 x hi)
@[simp] theorem r_eSl (a : Opd) (lo hi : Option Opd) (s : S) : eSl a lo hi s = (a.ev s).bnd (kSl1 lo hi) := rfl
@[simp] theorem r_kSl1 (lo hi : Option Opd) (x : Rd1) (s : S) : kSl1 lo hi x s = (poEv lo s).bnd (kSl2 x hi) := rfl
@[simp] theorem r_kSl2 (x : Rd1) (hi : Option Opd) (l : Option Int) (s : S) : kSl2 x hi l s = (poEv hi s).bnd (kSl3 x l) := rfl
@[simp] theorem r_kSl3 (x : Rd1) (l h : Option Int) (s : S) : kSl3 x l h s = kE1b (dSl l h) (x.rd s) s := rfl
def altK (o : Out D) (h : M D) : M D := fun s => match o with
  | .stuck => h s
  | o => o
@[simp] theorem r_eAlt (f h : M D) (s : S) : eAlt f h s = altK (f s) h s := rfl
@[simp] theorem r_altK_ok (d : D) (s1 : S) (h : M D) (s : S) : altK (.ok d s1) h s = .ok d s1 := rfl
@[simp] theorem r_altK_st (h : M D) (s : S) : altK .stuck h s = h s := rfl
@[simp] theorem r_lift1n (s : S) : lift1 none s = .stuck := rfl
def kF1b (op : D → Option Ob) (x : Option D) : M Ob := fun s => match x with
  | some d => (match op d with
    | some b => .ok b s
    | none => .stuck)
  | none => .stuck
def kF1 (op : D → Option Ob) : Rd1 → M Ob := fun x s => kF1b op (x.rd s) s
def liftO (o : Option Ob) : M Ob := fun s => match o with
  | some b => .ok b s
  | none => .stuck
@[simp] theorem r_f1 (op : D → Option Ob) (a : Opd) (s : S) : f1 op a s = (a.ev s).bnd (kF1 op) := rfl
@[simp] theorem r_kF1 (op : D → Option Ob) (x : Rd1) (s : S) : kF1 op x s = kF1b op (x.rd s) s := rfl
@[simp] theorem r_kF1b (op : D → Option Ob) (x : D) (s : S) : kF1b op (some x) s = liftO (op x) s := rfl
@[simp] theorem r_liftO (b : Ob) (s : S) : liftO (some b) s = .ok b s := rfl
@[simp] theorem r_eRev (a : Opd) (s : S) : eRev a s = altK (e1 dRevT a s) (eFz (f1 oRev a)) s := rfl
@[simp] theorem dRevT_t (ds : List D) : dRevT (.tup ds) = some (.tup ds.reverse) := rfl
@[simp] theorem dRevT_l (ds : List D) : dRevT (.lst ds) = none := rfl
@[simp] theorem oRev_l (ds : List D) : oRev (.lst ds) = some (.lst ds.reverse) := rfl
/-! ### operators on data -/
@[simp] theorem iOp_i (f : Int → Int → Int) (i j : Int) : iOp f (.int i) (.int j) = some (.int (f i j)) := rfl
@[simp] theorem dAdd_i (i j : Int) : dAdd (.int i) (.int j) = some (.int (i + j)) := rfl
@[simp] theorem dAdd_t (i j : List D) : dAdd (.tup i) (.tup j) = if i.length + j.length ≤ sizeLine then some (.tup (i ++ j)) else none := rfl
@[simp] theorem dAdd_l (i j : List D) : dAdd (.lst i) (.lst j) = if i.length + j.length ≤ sizeLine then some (.lst (i ++ j)) else none := rfl
@[simp] theorem dMulI_i (i j : Int) : dMulI (.int i) (.int j) = if (-(2 ^ 64) < i ∧ i < 2 ^ 64) ∨ (-(2 ^ 64) < j ∧ j < 2 ^ 64) then some (.int (i * j)) else none := rfl
@[simp] theorem dFdiv_i (i j : Int) : dFdiv (.int i) (.int j) = if 0 < j ∧ j < 1073741824 then some (.int (i / j)) else none := rfl
@[simp] theorem dMod_i (i j : Int) : dMod (.int i) (.int j) = if 0 < j then some (.int (i % j)) else none := rfl
@[simp] theorem dNeg_i (i : Int) : dNeg (.int i) = some (.int (-i)) := rfl
@[simp] theorem dCmp_i (fi : Int → Int → Bool) (fs : Str → Str → Bool) (i j : Int) : dCmp fi fs (.int i) (.int j) = some (.bl (fi i j)) := rfl
@[simp] theorem dCmp_s (fi : Int → Int → Bool) (fs : Str → Str → Bool) (i j : Str) : dCmp fi fs (.str i) (.str j) = some (.bl (fs i j)) := rfl
@[simp] theorem dIs_n (neg : Bool) (x : D) : dIs neg x .non = some (.bl (neg != x.isNon)) := by cases x <;> rfl
@[simp] theorem dIs_b (neg : Bool) (x : D) (b : Bool) : dIs neg x (.bl b) = some (.bl (neg != x.isBl b)) := by cases x <;> rfl
@[simp] theorem isNon_n : D.isNon .non = true := rfl
@[simp] theorem isNon_b (b : Bool) : D.isNon (.bl b) = false := rfl
@[simp] theorem isNon_i (b : Int) : D.isNon (.int b) = false := rfl
@[simp] theorem isNon_s (b : Str) : D.isNon (.str b) = false := rfl
@[simp] theorem isNon_t (b : List D) : D.isNon (.tup b) = false := rfl
@[simp] theorem isNon_l (b : List D) : D.isNon (.lst b) = false := rfl
@[simp] theorem dLen_t (ds : List D) : dLen (.tup ds) = some (.int ds.length) := rfl
@[simp] theorem dLen_l (ds : List D) : dLen (.lst ds) = some (.int ds.length) := rfl
@[simp] theorem dTuple_t (ds : List D) : dTuple (.tup ds) = some (.tup ds) := rfl
@[simp] theorem dTuple_l (ds : List D) : dTuple (.lst ds) = some (.tup ds) := rfl
@[simp] theorem oList_t (ds : List D) : oList (.tup ds) = some (.lst ds) := rfl
@[simp] theorem oList_l (ds : List D) : oList (.lst ds) = some (.lst ds) := rfl
@[simp] theorem dSum_t (ns : List Int) : dSum (.tup (ns.map .int)) = some (.int ns.sum) := by simp [dSum]
@[simp] theorem dSum_l (ns : List Int) : dSum (.lst (ns.map .int)) = some (.int ns.sum) := by simp [dSum]
@[simp] theorem dAll_l (ns : List Bool) : dAll (.lst (ns.map .bl)) = some (.bl (ns.all id)) := by simp [dAll]
@[simp] theorem dTru_n : dTru .non = some false := rfl
@[simp] theorem dTru_b (b : Bool) : dTru (.bl b) = some b := rfl
@[simp] theorem dTru_i (b : Int) : dTru (.int b) = some (b != 0) := rfl
@[simp] theorem dTru_t (b : List D) : dTru (.tup b) = some (!b.isEmpty) := rfl
@[simp] theorem dTru_l (b : List D) : dTru (.lst b) = some (!b.isEmpty) := rfl
@[simp] theorem dInt_i (i : Int) : dInt (.int i) = some (.int i) := rfl
@[simp] theorem dInt_b (b : Bool) : dInt (.bl b) = some (.int (if b then 1 else 0)) := rfl
@[simp] theorem dAbs_i (i : Int) : dAbs (.int i) = some (.int (if i < 0 then -i else i)) := rfl
@[simp] theorem dEq_ii (i j : Int) : dEq (.int i) (.int j) = some (.bl (i == j)) := rfl
@[simp] theorem dNe_ii (i j : Int) : dNe (.int i) (.int j) = some (.bl (!(i == j))) := rfl
@[simp] theorem dEq_bb (i j : Bool) : dEq (.bl i) (.bl j) = some (.bl (i == j)) := rfl
@[simp] theorem dNe_bb (i j : Bool) : dNe (.bl i) (.bl j) = some (.bl (!(i == j))) := rfl
@[simp] theorem dEq_ss (i j : Str) : dEq (.str i) (.str j) = some (.bl (i == j)) := rfl
@[simp] theorem dNe_ss (i j : Str) : dNe (.str i) (.str j) = some (.bl (!(i == j))) := rfl
@[simp] theorem slots_len (N : Nat) (ds : List D) : slots N ds = ds.map .v ++ List.replicate (N - ds.length) .un := rfl
/-! ### a row of numbers that the law's dice has drawn -/
def twn (m : Nat) : List D := List.replicate m (.int 0)
@[simp] theorem twn_len (m : Nat) : (twn m).length = m := List.length_replicate
theorem twn_snoc (m : Nat) : twn m ++ [.int 0] = twn (m + 1) := by
  unfold twn
  rw [List.replicate_succ']
/-! ### loops -/
theorem forL_run {t : Tg} {b : M Fl} (I : Nat → S → Prop) : ∀ (ds : List D) (n : Nat) (s : S), I n s → (∀ i d s, ds[i]? = some d → I (n + i) s → ∃ s1 s2 fl, t d s = some s1 ∧ b s1 = .ok fl s2 ∧ (fl = .nx ∨ fl = .ct) ∧ I (n + i + 1) s2) → ∃ s', forL t b ds s = .ok .nx s' ∧ I (n + ds.length) s'
  | [], n, s, h, _ => ⟨s, rfl, h⟩
  | d :: ds, n, s, h, st => by
    obtain ⟨s1, s2, fl, h1, h2, h3, h4⟩ := st 0 d s rfl h
    obtain ⟨s', e, hI⟩ := forL_run I ds (n + 1) s2 h4 fun i d' s hi hI => by
      have := st (i + 1) d' s hi (by rw [show n + (i + 1) = n + 1 + i by omega]; exact hI)
      rw [show n + (i + 1) + 1 = n + 1 + i + 1 by omega] at this
      exact this
    refine ⟨s', ?_, by rw [List.length_cons, show n + (ds.length + 1) = n + 1 + ds.length by omega]; exact hI⟩
    rcases h3 with rfl | rfl
    · simp [forL, h1, h2, e]
    · simp [forL, h1, h2, e]
/-- a comprehension: each step adds one -/
theorem lcL_run {is : List Nat} {t : Tg} {c : M Bool} {e : M D} (env : List Slot) (J : List D → List Ob → Prop) : ∀ (ds acc : List D) (en : List Slot) (st : List Ob), wipeE en is = env → J acc st → acc.length + ds.length ≤ sizeLine →
    (∀ i d acc' st, ds[i]? = some d → acc'.length = acc.length + i → J acc' st → ∃ s1 s2 y en' st', t d ⟨env, st⟩ = some s1 ∧ c s1 = .ok true s2 ∧ e s2 = .ok y ⟨en', st'⟩ ∧ wipeE en' is = env ∧ J (acc' ++ [y]) st') →
    ∃ ys st', lcL is t c e ds acc ⟨en, st⟩ = .ok ys ⟨env, st'⟩ ∧ J ys st' ∧ ys.length = acc.length + ds.length
  | [], acc, en, st, hw, hj, hl, _ => ⟨acc, st, by simp [lcL, hw], hj, rfl⟩
  | d :: ds, acc, en, st, hw, hj, hl, step => by
    rw [List.length_cons] at hl
    obtain ⟨s1, s2, y, en', st', h1, h2, h3, h4, h5⟩ := step 0 d acc st rfl rfl hj
    obtain ⟨ys, st2, r1, r2, r3⟩ := lcL_run env J ds (acc ++ [y]) en' st' h4 h5 (by rw [List.length_append, List.length_singleton]; omega) fun i d' acc' st hi hlen hJ => step (i + 1) d' acc' st hi (by rw [hlen, List.length_append, List.length_singleton]; omega) hJ
    refine ⟨ys, st2, ?_, r2, by rw [r3, List.length_append, List.length_singleton, List.length_cons]; omega⟩
    have hlt : acc.length < 16777216 := by rw [sizeLine_n] at hl; omega
    rw [← hw] at h1
    simp [lcL, h1, h2, h3, hlt, r1]
/-- .. each a value of its own, the store stays -/
theorem lcL_map {is : List Nat} {t : Tg} {e : M D} (env : List Slot) (st : List Ob) (g : D → D) (en : List Slot) (ds : List D) (hw : wipeE en is = env) (hl : ds.length ≤ sizeLine)
    (step : ∀ d ∈ ds, ∃ s1 en', t d ⟨env, st⟩ = some s1 ∧ e s1 = .ok (g d) ⟨en', st⟩ ∧ wipeE en' is = env) : lcL is t tYesM e ds [] ⟨en, st⟩ = .ok (ds.map g) ⟨env, st⟩ := by
  obtain ⟨ys, st', h1, ⟨h2, h4⟩, h3⟩ := lcL_run (is := is) (t := t) (c := tYesM) (e := e) env (fun acc st' => st' = st ∧ acc = (ds.take acc.length).map g) ds [] en st hw ⟨rfl, by simp⟩ (by simpa using hl) (by
    rintro i d acc st' hi hlen ⟨rfl, ha⟩
    obtain ⟨s1, en', a1, a2, a3⟩ := step d (List.mem_of_getElem? hi)
    refine ⟨s1, s1, _, en', _, a1, rfl, a2, a3, rfl, ?_⟩
    have hil : i < ds.length := (List.getElem?_eq_some_iff.mp hi).1
    have hd : ds[i] = d := (List.getElem?_eq_some_iff.mp hi).2
    simp only [List.length_nil, Nat.zero_add] at hlen
    rw [List.length_append, List.length_singleton, hlen, List.take_add_one, List.map_append, ← hlen, ← ha, hlen, hi]
    simp)
  simp only [List.length_nil, Nat.zero_add] at h3
  rw [h1, h2, h4, h3, List.take_length]
/-! ### by statements -/
theorem seq_of {f h : M Fl} {s s1 : S} {r : Out Fl} (a : f s = .ok .nx s1) (b : h s1 = r) : bSeq f h s = r := by simp [a, b]
theorem seq_rt {f h : M Fl} {s s1 : S} {d : D} (a : f s = .ok (.rt d) s1) : bSeq f h s = .ok (.rt d) s1 := by simp [a]
theorem runS_rt {N : Nat} {body : M Fl} {ds : List D} {st st' : List Ob} {d : D} {e : List Slot} (h : body ⟨slots N ds, st⟩ = .ok (.rt d) ⟨e, st'⟩) : runS N body ds st = .ok d st' := by simp [runS, -slots_len, h]
theorem runP_rt {N : Nat} {body : M Fl} {ds : List D} {d : D} {s : S} (hp : D.plainL ds = true) (hd : d.plain = true) (h : body ⟨slots N ds, []⟩ = .ok (.rt d) s) : runP N body ds = .ok d := by simp [runP, -slots_len, h, hp, hd]
/-! ### what may be compared: nothing, truths, numbers, texts, tuples of such -/
mutual
def D.sh : D → Bool
  | .non | .bl _ | .int _ | .str _ => true
  | .tup xs => decide (xs.length < 1000000) && D.shA xs
  | _ => false
def D.shA : List D → Bool
  | [] => true
  | x :: xs => D.sh x && D.shA xs
end
def D.shL (xs : List D) : Bool := decide (xs.length < 1000000) && D.shA xs
theorem shL_len {xs : List D} (h : D.shL xs = true) : xs.length < 1000000 := by
  unfold D.shL at h
  simp at h
  exact h.1
theorem shA_mem : ∀ {xs : List D} {x : D}, D.shA xs = true → x ∈ xs → x.sh = true
  | y :: ys, x, h, hm => by
    rw [D.shA, Bool.and_eq_true] at h
    rcases List.mem_cons.mp hm with rfl | z
    · exact h.1
    · exact shA_mem h.2 z
theorem shA_of : ∀ {xs : List D}, (∀ x ∈ xs, x.sh = true) → D.shA xs = true
  | [], _ => rfl
  | x :: xs, h => by
    rw [D.shA, Bool.and_eq_true]
    exact ⟨h x List.mem_cons_self, shA_of fun y hy => h y (List.mem_cons_of_mem _ hy)⟩
theorem shL_mem {xs : List D} {x : D} (h : D.shL xs = true) (hm : x ∈ xs) : x.sh = true := by
  unfold D.shL at h
  rw [Bool.and_eq_true] at h
  exact shA_mem h.2 hm
@[simp] theorem sh_tup (xs : List D) : D.sh (.tup xs) = D.shL xs := by simp [D.sh, D.shL]
mutual
theorem sh_plain : ∀ x : D, x.sh = true → x.plain = true
  | .non, _ => rfl
  | .bl _, _ => rfl
  | .int _, _ => rfl
  | .str _, _ => rfl
  | .lst _, h => by cases h
  | .dct _, h => by cases h
  | .obj _, h => by cases h
  | .nm _, h => by cases h
  | .tup xs, h => by
    rw [D.sh, Bool.and_eq_true] at h
    show D.plainL xs = true
    exact shA_plain xs h.2
theorem shA_plain : ∀ xs : List D, D.shA xs = true → D.plainL xs = true
  | [], _ => rfl
  | x :: xs, h => by
    rw [D.shA, Bool.and_eq_true] at h
    rw [D.plainL, Bool.and_eq_true]
    exact ⟨sh_plain x h.1, shA_plain xs h.2⟩
end
theorem depL_mem : ∀ {xs : List D} {x : D}, x ∈ xs → x.dep ≤ D.depL xs
  | y :: ys, x, hm => by
    rw [D.depL]
    rcases List.mem_cons.mp hm with rfl | z
    · exact Nat.le_max_left _ _
    · exact Nat.le_trans (depL_mem z) (Nat.le_max_right _ _)
theorem depL_le {n : Nat} : ∀ {xs : List D}, (∀ x ∈ xs, x.dep ≤ n) → D.depL xs ≤ n
  | [], _ => Nat.zero_le _
  | x :: xs, h => by
    rw [D.depL]
    exact Nat.max_le.mpr ⟨h x List.mem_cons_self, depL_le fun y hy => h y (List.mem_cons_of_mem _ hy)⟩
theorem dAll_all {a : Type} (xs : List a) : dAll (.lst (List.map (fun _ => D.bl true) xs)) = some (.bl true) := by
  have e : List.map (fun _ : a => D.bl true) xs = (List.map (fun _ : a => true) xs).map .bl := by simp
  rw [e, dAll_l]
  simp
theorem plainL_ints (ns : List Int) : D.plainL (ns.map .int) = true := by
  induction ns with
  | nil => rfl
  | cons n ns ih => simp [D.plainL, D.plain, ih]
/-! ### a block that goes to its end -/
def Goes (f : M Fl) (s : S) (P : S → Prop) : Prop := ∃ s', f s = .ok .nx s' ∧ P s'
theorem goes_seq {f h : M Fl} {s s1 : S} {P : S → Prop} (a : f s = .ok .nx s1) (b : Goes h s1 P) : Goes (bSeq f h) s P := by
  obtain ⟨s', h1, h2⟩ := b
  exact ⟨s', seq_of a h1, h2⟩
theorem goes_seq2 {f h : M Fl} {s : S} {P Q : S → Prop} (a : Goes f s Q) (b : ∀ s1, Q s1 → Goes h s1 P) : Goes (bSeq f h) s P := by
  obtain ⟨s1, h1, h2⟩ := a
  exact goes_seq h1 (b s1 h2)
theorem goes_of {f : M Fl} {s s1 : S} {P : S → Prop} (a : f s = .ok .nx s1) (b : P s1) : Goes f s P := ⟨s1, a, b⟩
theorem goes_imp {f : M Fl} {s : S} {P Q : S → Prop} (a : Goes f s Q) (b : ∀ s1, Q s1 → P s1) : Goes f s P := by
  obtain ⟨s1, h1, h2⟩ := a
  exact ⟨s1, h1, b s1 h2⟩
/-- for k in a row: an own invariant -/
theorem goes_for {it : M (List D)} {t : Tg} {b : M Fl} {s s0 : S} {ds : List D} {P : S → Prop} (I : Nat → S → Prop) (hi : it s = .ok ds s0) (h0 : I 0 s0)
    (step : ∀ i d s, ds[i]? = some d → I i s → ∃ s1, t d s = some s1 ∧ Goes b s1 (I (i + 1))) (he : ∀ s, I ds.length s → P s) : Goes (sFor it t b) s P := by
  obtain ⟨s', h1, h2⟩ := forL_run (t := t) (b := b) I ds 0 s0 h0 (fun i d s hd hI => by
    rw [Nat.zero_add] at hI ⊢
    obtain ⟨s1, a1, s2, a2, a3⟩ := step i d s hd hI
    exact ⟨s1, s2, .nx, a1, a2, .inl rfl, a3⟩)
  rw [Nat.zero_add] at h2
  exact ⟨s', by simp [hi, r_kFor, h1], he s' h2⟩
end Fw
namespace Fw
open PySem PySem.Spec PyProof.Rows L2
/-! ### tuple * int -/
section
variable {X : Cx}
def rMulS (K : PySem.W.Frag) : R2 := fun x y H Q => ∃ l k xs, x = .ref l ∧ y = .int k ∧ SqT K H l xs ∧ -1000 ≤ k ∧ k ≤ 1000 ∧ (xs = [] ∨ k = 1) ∧ Q (.ref l) H
def rMulE (K : PySem.W.Frag) : R2 := fun x y H Q => ∃ l k xs, x = .ref l ∧ y = .int k ∧ SqT K H l xs ∧ -1000 ≤ k ∧ k ≤ 0 ∧ xs ≠ [] ∧ ∀ p, H p = none → Q (.ref p) (upd H p (.tup []))
theorem op_mulS : OpR X (binaryOp .Mult) (rMulS X.K) := by
  intro pins s σ H x y v u Q I rx ry h
  obtain ⟨l, k, xs, rfl, rfl, hT, k0, k1, hor, q⟩ := h
  cases rx
  obtain ⟨t, rfl⟩ := ry
  obtain ⟨its, r, ⟨⟨cls, dd, data, sl⟩, ho, hc, n, hd⟩, hs⟩ := I.tuple hT
  simp only at hc hd
  subst hc hd
  have d0 : (decide (k < -(2 ^ 63)) || decide (k ≥ 2 ^ 63)) = false := by
    rw [decide_eq_false (by omega), decide_eq_false (by omega)] <;> rfl
  have d1 : (its.toArray.isEmpty || k == 1) = true := by
    rcases hor with rfl | rfl
    · have : its = [] := List.eq_nil_of_length_eq_zero r.length.symm
      rw [this]
      rfl
    · simp
  exact wpAny_binaryOp_repeat_ref (T := "tuple") (U := "int") (by decide) ⟨_, ho, rfl⟩ (fun s' => typeIs_int s' k t) noFill_tuple_mul F.fills_int_mul F.slot_int_rmul repeat_tuple F.slot_int_index.lookup
    (call_meets F.slot_int_rmul (typeIs_int s k t) F.entry_int_rmul (F.args_int_rmul_2 _ _) (int_rmul_tuple k t l its.toArray n dd sl)
      ⟨ho, rfl, ⟨_, ho, rfl⟩, call_meets F.slot_tuple_mul ⟨_, ho, rfl⟩ F.entry_tuple_mul (F.args_tuple_mul_2 _ _) (tuple_mulS l its.toArray n dd sl k t d0 d1) ⟨ho, .ref l, H, I, rfl, q⟩⟩)
theorem op_mulE : OpR X (binaryOp .Mult) (rMulE X.K) := by
  intro pins s σ H x y v u Q I rx ry h
  obtain ⟨l, k, xs, rfl, rfl, hT, k0, k1, hne, q⟩ := h
  cases rx
  obtain ⟨t, rfl⟩ := ry
  obtain ⟨its, r, ⟨⟨cls, dd, data, sl⟩, ho, hc, n, hd⟩, hs⟩ := I.tuple hT
  simp only at hc hd
  subst hc hd
  have d0 : (decide (k < -(2 ^ 63)) || decide (k ≥ 2 ^ 63)) = false := by
    rw [decide_eq_false (by omega), decide_eq_false (by omega)] <;> rfl
  have hi : its.toArray.isEmpty = false := by
    cases its with
    | nil => exact absurd (List.eq_nil_of_length_eq_zero r.length) hne
    | cons a b => rfl
  have d1 : (its.toArray.isEmpty || k == 1) = false := by
    rw [hi, Bool.false_or]
    exact beq_eq_false_iff_ne.mpr (by omega)
  have d2 : (decide (k ≤ 0) || its.toArray.isEmpty) = true := by
    rw [decide_eq_true (by omega)]
    rfl
  refine wpAny_binaryOp_repeat_ref (T := "tuple") (U := "int") (by decide) ⟨_, ho, rfl⟩ (fun s' => typeIs_int s' k t) noFill_tuple_mul F.fills_int_mul F.slot_int_rmul repeat_tuple F.slot_int_index.lookup
    (call_meets F.slot_int_rmul (typeIs_int s k t) F.entry_int_rmul (F.args_int_rmul_2 _ _) (int_rmul_tuple k t l its.toArray n dd sl)
      ⟨ho, rfl, ⟨_, ho, rfl⟩, call_meets F.slot_tuple_mul ⟨_, ho, rfl⟩ F.entry_tuple_mul (F.args_tuple_mul_2 _ _) (tuple_mulE l its.toArray n dd sl k t d0 d1 d2) ⟨ho, ?_⟩⟩)
  exact ⟨.ref s.heap.objs.size, _, I.laid (t' := s.toks) (o := .tup []) (fun b ob e => Heap.get?_push_of_some _ e) (Nat.le_refl _) ⟨Nat.zero_le _, [], .nil, IsTup.new _ _⟩, rfl, q _ (I.hok.fresh (Nat.le_refl _))⟩
end
end Fw
namespace Fw
open PySem L2
section
variable {X : Cx} {W : WX} {a b e : Expr} {oa ob : Opd} {pos p p2 : Pos}
def dMulT : D → D → Option D
  | .tup ds, .int k => if ds.length ≤ 1000 ∧ -1000 ≤ k ∧ k ≤ 1000 then some (.tup (List.replicate k.toNat ds).flatten) else none
  | _, _ => none
theorem RepL.repl {K : PySem.W.Frag} {I : List Addr} {F : Hp} {vs : List V} {ds : List D} (r : RepL K I F vs ds) : ∀ n : Nat, RepL K I F (List.replicate n vs).flatten (List.replicate n ds).flatten
  | 0 => .nil
  | n + 1 => by
    rw [List.replicate_succ, List.replicate_succ, List.flatten_cons, List.flatten_cons]
    exact r.append (RepL.repl r n)
theorem se_mulT (ha : SO X W a oa) (hb : SO X W b ob) : SE X W (.BinOp a .Mult b pos) (e2 dMulT oa ob) := by
  refine se_bin (OpR.or op_mulS (OpR.or op_mulE op_repT)) ?_ ha hb
  intro g I F s σ H Q x y dx dy d sm rx ry e q
  unfold dMulT at e
  split at e
  · rename_i ds k
    by_cases h : ds.length ≤ 1000 ∧ -1000 ≤ k ∧ k ≤ 1000
    · rw [if_pos h] at e
      cases e
      obtain ⟨c, vs, rfl, h1, r1, f1⟩ := rx.tup sm.sub
      have hy := ry.int
      subst hy
      by_cases h0 : ds = [] ∨ k = 1
      · have e' : (List.replicate k.toNat ds).flatten = ds := by
          rcases h0 with rfl | rfl
          · simp
          · simp
        rw [e'] at q
        refine .inl ⟨c, k, vs, rfl, rfl, h1, h.2.1, h.2.2, ?_, q _ F H sm (.tup f1 r1)⟩
        rcases h0 with rfl | rfl
        · left
          cases r1
          rfl
        · exact .inr rfl
      · have hne : vs ≠ [] := fun z => by
          subst z
          cases r1
          exact h0 (.inl rfl)
        by_cases hk : k ≤ 0
        · have e' : (List.replicate k.toNat ds).flatten = [] := by
            have : k.toNat = 0 := by omega
            rw [this]
            rfl
          rw [e'] at q
          refine .inr (.inl ⟨c, k, vs, rfl, rfl, h1, h.2.1, hk, hne, fun p hp => ?_⟩)
          obtain ⟨x2, le⟩ := sm.alloc (o := .tup []) hp
          exact q _ _ _ x2 (.tup (TupAt.of upd_same) .nil)
        · refine .inr (.inr ⟨c, k, vs, rfl, rfl, h1, hne, ?_, h.2.2, by rw [r1.length]; exact h.1, fun p hp => ?_⟩)
          · have : ¬ k = 1 := fun z => h0 (.inr z)
            omega
          · obtain ⟨x2, le⟩ := sm.alloc (o := .tup (List.replicate k.toNat vs).flatten) hp
            exact q _ _ _ x2 (.tup (TupAt.of upd_same) (repL_le le (r1.repl _)))
    · rw [if_neg h] at e
      cases e
  · cases e
@[simp] theorem dMulT_t (ds : List D) (k : Int) : dMulT (.tup ds) (.int k) = if ds.length ≤ 1000 ∧ -1000 ≤ k ∧ k ≤ 1000 then some (.tup (List.replicate k.toNat ds).flatten) else none := rfl
/-! ### tuple(range(..)) -/
def dTupR1 : D → Option D
  | .int n => if -(2 ^ 62) ≤ n ∧ n ≤ 1000000 then some (.tup (rangeD 0 n.toNat)) else none
  | _ => none
def dTupR2 : D → D → Option D
  | .int i, .int j => if 0 ≤ i ∧ i ≤ 1000000 ∧ 0 ≤ j ∧ j ≤ 1000000 then some (.tup (rangeD i (j - i).toNat)) else none
  | _, _ => none
theorem rgV_rep {K : PySem.W.Frag} {I : List Addr} {F : Hp} (i j : Int) : RepL K I F (rgV i j) (rangeD i (j - i).toNat) := by
  unfold rgV rangeD
  induction (List.range (j - i).toNat) with
  | nil => exact .nil
  | cons n ns ih => exact .cons (.int _) ih
theorem se_tupr1 (hc : X.calm = true) (hg : Gl X "tuple") (hm : X.mg "tuple" = none) (hgr : Gl X "range") (hmr : X.mg "range" = none) (ha : SO X W a oa) (h1 : starEach [a] X.env = (false, eval a X.env) :: starEach [] X.env := by rfl)
    (h2 : starEach [Expr.Call (.Name "range" p2) [a] [] p] X.env = (false, eval (Expr.Call (.Name "range" p2) [a] [] p) X.env) :: starEach [] X.env := by rfl) {p3 : Pos} : SE X W (.Call (.Name "tuple" p3) [.Call (.Name "range" p2) [a] [] p] [] pos) (e1 dTupR1 oa) := by
  obtain ⟨ta, a1, a2⟩ := ha
  refine ⟨_, pe_tupRg hc hg hm (prg_1 hgr hmr a1 h1) h2, fun g I F s σ H Q x hq => ?_⟩
  refine one (Po := fun o => PoE X W g σ o Q) (k := fun d => lift1 (dTupR1 d)) a2 (fun c s q => q) (fun q => q) x hq fun I F s H v dx x rv q => ?_
  cases dx with
  | int n =>
    have q' : PoE X W g σ (lift1 (if -(2 ^ 62) ≤ n ∧ n ≤ 1000000 then some (.tup (rangeD 0 n.toNat)) else none) s) Q := q
    by_cases h : -(2 ^ 62) ≤ n ∧ n ≤ 1000000
    · rw [if_pos h] at q'
      refine ⟨n, rv.int, ⟨by omega, by omega, by omega, by omega, by omega⟩, fun r hr => ?_⟩
      obtain ⟨x2, le⟩ := x.alloc (o := .tup (rgV 0 n)) hr
      have z := rgV_rep (K := X.K) (I := I) (F := upd F r (.tup (rgV 0 n))) 0 n
      rw [Int.sub_zero] at z
      exact q' _ _ _ _ x2 (.tup (TupAt.of upd_same) z)
    · rw [if_neg h] at q'
      exact q'.elim
  | _ => exact q.elim
theorem se_tupr2 (hc : X.calm = true) (hg : Gl X "tuple") (hm : X.mg "tuple" = none) (hgr : Gl X "range") (hmr : X.mg "range" = none) (ha : SO X W a oa) (hb : SO X W b ob) (h1 : starEach [a, b] X.env = (false, eval a X.env) :: starEach [b] X.env := by rfl)
    (h3 : starEach [b] X.env = (false, eval b X.env) :: starEach [] X.env := by rfl) (h4 : (backTo p (starEach [b] X.env)).any (·.1) = false := by rfl)
    (h2 : starEach [Expr.Call (.Name "range" p2) [a, b] [] p] X.env = (false, eval (Expr.Call (.Name "range" p2) [a, b] [] p) X.env) :: starEach [] X.env := by rfl) {p3 : Pos} : SE X W (.Call (.Name "tuple" p3) [.Call (.Name "range" p2) [a, b] [] p] [] pos) (e2 dTupR2 oa ob) := by
  obtain ⟨ta, a1, a2⟩ := ha
  obtain ⟨tb, b1, b2⟩ := hb
  refine ⟨_, pe_tupRg hc hg hm (prg_2 hgr hmr a1 b1 h1 h3 h4) h2, fun g I F s σ H Q x hq => ?_⟩
  refine two (R := fun v w H => ∃ i j, v = .int i ∧ w = .int j ∧ RgOk i j ∧ ∀ q, H q = none → Q (.ref q) (upd H q (.tup (rgV i j)))) (Po := fun o => PoE X W g σ o Q) (k := fun dx dy => lift1 (dTupR2 dx dy)) a2 b2 (fun c s q => q) (fun q => q) x hq fun I F s H v w dx dy x rv rw_ q => ?_
  unfold dTupR2 at q
  split at q
  · rename_i i j
    by_cases h : 0 ≤ i ∧ i ≤ 1000000 ∧ 0 ≤ j ∧ j ≤ 1000000
    · rw [if_pos h] at q
      refine ⟨i, j, rv.int, rw_.int, ⟨by omega, by omega, by omega, by omega, by omega⟩, fun r hr => ?_⟩
      obtain ⟨x2, le⟩ := x.alloc (o := .tup (rgV i j)) hr
      exact q _ _ _ _ x2 (.tup (TupAt.of upd_same) (rgV_rep i j))
    · rw [if_neg h] at q
      exact q.elim
  · exact q.elim
@[simp] theorem dTupR1_i (n : Int) : dTupR1 (.int n) = if -(2 ^ 62) ≤ n ∧ n ≤ 1000000 then some (.tup (rangeD 0 n.toNat)) else none := rfl
@[simp] theorem dTupR2_i (i j : Int) : dTupR2 (.int i) (.int j) = if 0 ≤ i ∧ i ≤ 1000000 ∧ 0 ≤ j ∧ j ≤ 1000000 then some (.tup (rangeD i (j - i).toNat)) else none := rfl
/-! ### not x, x of any kind, as a value -/
def dNotV (d : D) : Option D := (dTru d).map fun b => .bl (!b)
def tNotA (K : PySem.W.Frag) (ta : TE) : TE := fun σ H Q => ta σ H fun x H' => ∃ k, TruV K x H' k ∧ Q (.bl (!k)) H'
theorem pe_notA {ta : TE} (ha : PE X a ta) : PE X (.UnaryOp .Not a pos) (tNotA X.K ta) := by
  refine ⟨fun pins s σ H Q I h => ?_⟩
  refine PyProof.Rows.UnaryOp_ (thn (ha.run pins s σ H _ I h) fun v s1 ⟨x, H1, I1, r1, q1⟩ => ?_)
  refine PyProof.Rows.not_of ?_
  obtain ⟨k, hk, q⟩ := q1
  exact thn (tru_ok pins s1 σ H1 x v (fun k H => Q (.bl (!k)) H) I1 r1 ⟨k, hk, q⟩) fun c s2 ⟨H2, I2, q2⟩ => ⟨.bl (!c), H2, I2, rfl, q2⟩
theorem se_notV (ha : SO X W a oa) : SE X W (.UnaryOp .Not a pos) (e1 dNotV oa) := by
  obtain ⟨ta, a1, a2⟩ := ha
  refine ⟨_, pe_notA a1, fun g I F s σ H Q x hq => ?_⟩
  refine one (Po := fun o => PoE X W g σ o Q) (k := fun d => lift1 (dNotV d)) a2 (fun c s q => q) (fun q => q) x hq fun I F s H v dx x rv q => ?_
  unfold dNotV at q
  cases e : dTru dx with
  | none => rw [e] at q; exact q.elim
  | some k =>
    rw [e] at q
    exact ⟨k, rv.tru x.sub e, q _ _ _ _ x (.bl _)⟩
@[simp] theorem dNotV_t (xs : List D) : dNotV (.tup xs) = some (.bl xs.isEmpty) := by simp [dNotV]
@[simp] theorem dNotV_l (xs : List D) : dNotV (.lst xs) = some (.bl xs.isEmpty) := by simp [dNotV]
@[simp] theorem dNotV_b (k : Bool) : dNotV (.bl k) = some (.bl (!k)) := rfl
/-! ### chains with == -/
theorem dEq_bl (x y d : D) (h : dEq x y = some d) : ∃ k, d = .bl k := by
  unfold dEq at h
  by_cases c : canEq x y = true
  · rw [if_pos c] at h
    cases h
    exact ⟨_, rfl⟩
  · rw [if_neg c] at h
    cases h
theorem dNe_bl (x y d : D) (h : dNe x y = some d) : ∃ k, d = .bl k := by
  unfold dNe at h
  by_cases c : canEq x y = true
  · rw [if_pos c] at h
    cases h
    exact ⟨_, rfl⟩
  · rw [if_neg c] at h
    cases h
theorem st_eqgt {c : Expr} {oc : Opd} {k : Nat} (hr : Room k X.A) (ha : SO X W a oa) (hb : SO X W b ob) (hc : SO X W c oc) (hm : lastMarks [.Eq, .Gt] [b, c] = false := by with_unfolding_all rfl) : ST X W (.Compare a [.Eq, .Gt] [b, c] pos) (tB1 (eChain dEq dGt oa ob oc)) :=
  st_chain (OpR.or op_eq (op_eqD (room64 hr))) or_gt ops_eq ops_cmp dEq_bl ha hb hc hm
end
end Fw
set_option maxHeartbeats 1000000
namespace Fw
open PySem PySem.Spec PyProof.Rows L2
open AutoSeq1 (wpAny_loadPart')
/-! ### enumerate(tuple) -/
theorem enumT_new (q : Addr) (xs : Array Value) (m : Nat) (dq : Option Addr) (sq : Array (Option Value)) :
    Meets (Builtin.«enumerate.__new__» ⟨[.type "enumerate", .ref q], []⟩) (fun _ R s => s.heap.get? q = some { cls := .type "tuple", dict := dq, data := .seq xs m, slots := sq } ∧
      R (.ok (.ret (.ref (s.heap.push { cls := .type "tuple_iterator", data := .fields #[.ref q, .int 0 0] }).objs.size)))
        { s with heap := (s.heap.push { cls := .type "tuple_iterator", data := .fields #[.ref q, .int 0 0] }).push { cls := .type "enumerate", data := .fields #[.none, .bool false, .ref s.heap.objs.size, rawInt 0, .none, .none] } }) :=
  .of_wp fun prog w A R s h => by
    obtain ⟨hp, g, d, tk, os⟩ := s
    obtain ⟨hq, h⟩ := h
    have hsub := sub_enumerate
    have hT : Heap.IsTuple (Shared.heap ⟨hp, g, d, tk, os⟩) q xs := ⟨_, hq, rfl, m, rfl⟩
    wp_walk using wpAny_loadPart' hq
    refine wpAny_stack_any fun st => wpAny_pure ?_
    split
    · rename_i c _ _ _ _ _
      cases (c == Value.type "enumerate")
      · wp_walk using wpAny_loadPart' hq, wpAny_pyIter_tuple hT
        exact ⟨_, rfl, h⟩
      · wp_walk using wpAny_loadPart' hq, wpAny_pyIter_tuple hT
        exact ⟨_, rfl, h⟩
    · wp_walk using wpAny_loadPart' hq, wpAny_pyIter_tuple hT
      exact ⟨_, rfl, h⟩
theorem call_enumT {prog : Program} {w : World} {A : Around} {E : Value → Shared → Prop} {s : Shared} {q : Addr} {xs : Array Value} {Q : Value → Shared → Prop} (hT : s.heap.IsTuple q xs)
    (h : ∀ h', IsEnum h' (s.heap.objs.size + 1) s.heap.objs.size 0 .none → h'.IsTupleIter s.heap.objs.size q 0 → h'.objs.size = s.heap.objs.size + 2 →
      (∀ b o, s.heap.get? b = some o → h'.get? b = some o) → Q (.ref (s.heap.objs.size + 1)) { s with heap := h' }) : wpAny (model prog w) A (call (.type "enumerate") [.ref q]) Q E s := by
  obtain ⟨⟨c, dq, dt, sq⟩, hq, hc, m, hd⟩ := hT
  replace hc : c = .type "tuple" := hc
  replace hd : dt = .seq xs m := hd
  subst hc hd
  refine callType_new F.called_enumerate (by decide) (F.typeCall_enumerate_1 _) (F.newCall_enumerate_1 _) (fun obj => F.args_object_init_2 obj _) F.entry_enumerate_new
    (enumT_new q xs m dq sq) ⟨hq, ?_⟩
  have hz : (s.heap.push { cls := .type "tuple_iterator", data := .fields #[.ref q, .int 0 0] }).objs.size = s.heap.objs.size + 1 := Heap.size_push ..
  show _ ∧ _
  rw [hz]
  have he : IsEnum ((s.heap.push { cls := .type "tuple_iterator", data := .fields #[.ref q, .int 0 0] }).push
      { cls := .type "enumerate", data := .fields #[.none, .bool false, .ref s.heap.objs.size, rawInt 0, .none, .none] }) (s.heap.objs.size + 1) s.heap.objs.size 0 .none := by
    have := Heap.get?_push_size (s.heap.push { cls := .type "tuple_iterator", data := .fields #[.ref q, .int 0 0] })
      (o := { cls := .type "enumerate", data := .fields #[.none, .bool false, .ref s.heap.objs.size, rawInt 0, .none, .none] }) rfl
    rw [hz] at this
    exact this
  refine ⟨⟨_, he, rfl⟩, h _ he ⟨_, Heap.get?_push_of_some _ (Heap.get?_push_size _ rfl), rfl, rfl⟩ (by rw [Heap.size_push, hz]) fun b o y => Heap.get?_push_of_some _ (Heap.get?_push_of_some _ y)⟩
/-- the tuple at a, each item in a new pair with its place -/
def IteT (K : PySem.W.Frag) (a : Addr) : It :=
  ⟨fun i H => ∃ (xs : List V) (x : V), SqT K H a xs ∧ xs[i]? = some x, fun i H v H' => ∃ T x, v = .ref T ∧ H T = none ∧ H' = upd H T (.tup [.int (i : Nat), x]) ∧ ∀ xs, SqT K H a xs → xs[i]? = some x, fun i H => ∃ xs : List V, SqT K H a xs ∧ xs.length = i⟩
theorem turn_enumT {P : Program} {w : World} {K : PySem.W.Frag} {elts : List Expr} {kk : Nat} {tpos : Pos} (a e it : Addr) :
    Turn P w K (.Tuple elts kk tpos) (IteT K a) [e, it] e (fun i h => (∃ old, IsEnum h e it ((i : Nat) : Int) old) ∧ h.IsTupleIter it a i ∧ e ≠ it) where
  mem := by simp
  obj := fun i h st b hb => by
    obtain ⟨⟨old, he⟩, ⟨o, ho, hc, hd⟩, _⟩ := st
    have e' : b = e ∨ b = it := by simpa using hb
    rcases e' with rfl | rfl
    · exact ⟨_, he, fun v q => nomatch q⟩
    · exact ⟨o, ho, fun v q => by rw [hd] at q; cases q⟩
  keep := fun i h h' st k => let ⟨⟨old, he⟩, hi, hne⟩ := st; ⟨⟨old, k e (by simp) _ he⟩, hi.at fun o q => k it (by simp) o q, hne⟩
  item := by
    intro X hP hw hK hc i pins s σ H E I hf st hg
    subst hP hw hK
    obtain ⟨⟨old, he⟩, hit, hne⟩ := st
    obtain ⟨xs, x, hq, hx⟩ := hg
    obtain ⟨its, rv, p, hz⟩ := I.tuple hq
    obtain ⟨u, hu, ru⟩ := rv.get hx
    have p' : s.heap.IsTuple a its.toArray := p
    have hai : a ≠ it := fun z => by
      obtain ⟨o1, g1, c1, _⟩ := p'
      obtain ⟨o2, g2, c2, _⟩ := hit
      rw [z, g2] at g1
      cases g1
      rw [c2] at c1
      exact absurd c1 (by decide)
    have hae : e ≠ a := fun z => by
      obtain ⟨o1, g1, c1, _⟩ := p'
      have g2 : s.heap.get? e = some _ := he
      rw [z, g1] at g2
      cases g2
      exact absurd (show Value.type "enumerate" = Value.type "tuple" from c1) (by decide)
    have hel : e < s.heap.objs.size := Heap.lt_size he
    have hil : it < s.heap.objs.size := by
      obtain ⟨_, q, _⟩ := hit
      exact Heap.lt_size q
    have hlt : i < its.toArray.size := by
      have := (List.getElem?_eq_some_iff.mp hu).1
      simpa using this
    refine wpAny_pyNext_enum_itemD (Draws.tuple (A := X.A.in1) (I.ok.hd hc) it a hai its.toArray) he ⟨hit, p'⟩ hlt hne (by simp [hne, hae]) fun y h' tk hP ho hst' hT hsz hk => ?_
    have hy : y = u := by
      have : its.toArray[i]? = some u := by simpa using hu
      rw [this] at hP
      cases hP
      rfl
    subst hy
    refine ⟨_, rfl, wpAny_letOwnedTupleGo_enum (s := { s with heap := h', toks := tk + 1 }) ho fun h'' he' sb => ?_⟩
    have hT2 : h''.get? s.heap.objs.size = some { cls := .type "tuple", data := .seq #[.int i tk, y] } := (sb.2 _ (Nat.ne_of_gt hel)).trans hT
    have new : ObjOk X.prog X.w (upd H s.heap.objs.size (.tup [.int (i : Nat), x])) h'' s.heap.objs.size (.tup [.int (i : Nat), x]) :=
      ⟨by show 2 ≤ sizeLine; decide, [.int i tk, y], .cons ⟨_, rfl⟩ (.cons ru .nil), ⟨_, hT2, rfl, _, rfl⟩⟩
    have I1 : Inv X pins σ (upd H s.heap.objs.size (.tup [.int (i : Nat), x])) { s with heap := h'', toks := tk + 1 } :=
      I.turnedNew (ch := [e, it]) (fun b ob hb q => (sb.2 b (fun z => hb (by simp [z]))).trans (hk b ob (fun z => hb (by simp [z])) (fun z => hb (by simp [z])) q)) hf (Nat.le_refl _) new
    refine ⟨.ref s.heap.objs.size, _, I1, rfl, ⟨_, x, rfl, I.hok.fresh (Nat.le_refl _), rfl, fun ys hy => by rw [I.tuple_inj hy hq]; exact hx⟩, ⟨⟨y, ?_⟩, hst'.1.at fun o q => (sb.2 it (Ne.symm hne)).trans q, hne⟩, fun b hb => ?_⟩
    · have e1 : ((i + 1 : Nat) : Int) = (i : Int) + 1 := by omega
      rw [e1]
      exact he'
    · have hb' : b < s.heap.objs.size := by
        have e' : b = e ∨ b = it := by simpa using hb
        rcases e' with rfl | rfl
        · exact hel
        · exact hil
      rw [upd_ne (Nat.ne_of_lt hb')]
      exact (hf b hb).1
  done := by
    intro X hP hw hK hc i pins s σ H E I hf st hg
    subst hP hw hK
    obtain ⟨⟨old, he⟩, hit, hne⟩ := st
    obtain ⟨xs, hq, hx⟩ := hg
    obtain ⟨its, rv, p, hz⟩ := I.tuple hq
    have p' : s.heap.IsTuple a its.toArray := p
    have hai : a ≠ it := fun z => by
      obtain ⟨o1, g1, c1, _⟩ := p'
      obtain ⟨o2, g2, c2, _⟩ := hit
      rw [z, g2] at g1
      cases g1
      rw [c2] at c1
      exact absurd c1 (by decide)
    obtain ⟨f0, f1, f2, f3, f4, f5⟩ := hf it (by simp)
    have hl : i = its.toArray.size := by
      rw [List.size_toArray, ← rv.length, hx]
    rw [hl] at hit
    exact wpAny_pyNext_enum_endD (Draws.tuple (A := X.A.in1) (I.ok.hd hc) it a hai its.toArray) he ⟨hit, p'⟩ fun h' eb => ⟨rfl, I.turned (t' := s.toks) (fun b o hb q => eb b o hb q) f0 f1 f3 f4 f5⟩
  self := fun A i s Q E st h => let ⟨⟨_, he⟩, _⟩ := st; wpAny_pyIter_enum he h
def iEnT (K : PySem.W.Frag) (ta : TA) : TI := fun σ H R => ta σ H fun vs H1 => ∃ a xs, vs = [.ref a] ∧ SqT K H1 a xs ∧ R (IteT K a) H1
theorem pi_enumT {X : Cx} {e : Expr} {ta : TA} {p pos tpos : Pos} {elts : List Expr} {kk : Nat} (hg : Gl X "enumerate") (hm : X.mg "enumerate" = none) (ha : PA X [e] ta) (hs : starEach [e] X.env = [(false, eval e X.env)] := by rfl) :
    PI X (.Tuple elts kk tpos) (.Call (.Name "enumerate" p) [e] [] pos) (iEnT X.K ta) := by
  refine ⟨fun pins s σ H R I h => ?_⟩
  refine Call_ (ld_blt I hg hm boot_enumerate (PyProof.Rows.callWith_type1 (thn (ha.run pos pins s σ H _ I h) fun us s1 ⟨vs, H1, I1, r1, q1⟩ => ?_) hs rfl))
  obtain ⟨a, xs, ex, hq, q⟩ := q1
  subst ex
  cases r1 with
  | cons r rr =>
    cases rr
    cases r
    obtain ⟨its, rv, p', hz⟩ := I1.tuple hq
    refine call_enumT (show s1.heap.IsTuple a its.toArray from p') fun h' he hit hsz hk => wpAny_pyIter_enum he ?_
    have I2 : Inv X pins σ H1 { s1 with heap := h' } := I1.kept (t' := s1.toks) hk
    refine ⟨s1.heap.objs.size + 1, [s1.heap.objs.size + 1, s1.heap.objs.size], _, _, H1, rfl, I2, turn_enumT a (s1.heap.objs.size + 1) s1.heap.objs.size, ⟨⟨.none, he⟩, hit, Nat.succ_ne_self _⟩, fun b hb => ?_, q⟩
    have e' : b = s1.heap.objs.size + 1 ∨ b = s1.heap.objs.size := by simpa using hb
    have hle : s1.heap.objs.size ≤ b := by
      rcases e' with rfl | rfl
      · exact Nat.le_succ _
      · exact Nat.le_refl _
    exact I1.fpOk hle (I1.hok.fresh hle)
end Fw
namespace Fw
open PySem L2
def enumD (n : Nat) : List D → List D
  | [] => []
  | x :: xs => .tup [.int (n : Int), x] :: enumD (n + 1) xs
theorem enumD_len : ∀ (xs : List D) (n : Nat), (enumD n xs).length = xs.length
  | [], _ => rfl
  | _ :: xs, n => by rw [enumD, List.length_cons, enumD_len xs, List.length_cons]
theorem enumD_get : ∀ (xs : List D) (n i : Nat) (d : D), (enumD n xs)[i]? = some d → ∃ x, xs[i]? = some x ∧ d = .tup [.int ((n + i : Nat) : Int), x]
  | [], _, _, _, e => by simp [enumD] at e
  | x :: xs, n, 0, d, e => by
    simp [enumD] at e
    exact ⟨x, rfl, by rw [← e]; rfl⟩
  | x :: xs, n, i + 1, d, e => by
    rw [enumD, List.getElem?_cons_succ] at e
    obtain ⟨y, h1, h2⟩ := enumD_get xs (n + 1) i d e
    exact ⟨y, h1, by rw [h2, show n + 1 + i = n + (i + 1) by omega]⟩
section
variable {K : PySem.W.Frag} {I : List Addr} {F : Hp}
theorem walk_enumT {a : Addr} {vs : List V} {ds : List D} (q : SqT K F a vs) (r : RepL K I F vs ds) : WalkD K (IteT K a) I F (enumD 0 ds) where
  go := fun i g I' F' s σ H x le pre hi => by
    obtain ⟨dx, e1, _⟩ := enumD_get ds 0 i _ (List.getElem?_eq_getElem hi)
    obtain ⟨v, hv, _⟩ := r.get e1
    exact ⟨vs, v, same_sqT x.sub (le.sqT q), hv⟩
  stop := fun g I' F' s σ H x le pre => ⟨vs, same_sqT x.sub (le.sqT q), by rw [enumD_len, r.length]⟩
  yld := fun i g I' F' s σ H y H2 d x le pre hy e => by
    obtain ⟨T, v, rfl, hT, rfl, h1⟩ := hy
    obtain ⟨dx, e1, rfl⟩ := enumD_get ds 0 i d e
    obtain ⟨v', hv, rv⟩ := r.get e1
    have k1 := h1 vs (same_sqT x.sub (le.sqT q))
    rw [hv] at k1
    cases k1
    rw [Nat.zero_add]
    exact pair_new x hT (.int _) (Rep.mono le pre _ _ rv)
theorem walk_enumL {a : Addr} {vs : List V} {ds : List D} (q : SqL K F a vs) (r : RepL K I F vs ds) : WalkD K (Ite K a) I F (enumD 0 ds) where
  go := fun i g I' F' s σ H x le pre hi => by
    obtain ⟨dx, e1, _⟩ := enumD_get ds 0 i _ (List.getElem?_eq_getElem hi)
    obtain ⟨v, hv, _⟩ := r.get e1
    exact ⟨vs, v, same_sqL x.sub (le.sqL q), hv⟩
  stop := fun g I' F' s σ H x le pre => ⟨vs, same_sqL x.sub (le.sqL q), by rw [enumD_len, r.length]; exact Nat.le_refl _⟩
  yld := fun i g I' F' s σ H y H2 d x le pre hy e => by
    obtain ⟨T, v, rfl, hT, rfl, h1⟩ := hy
    obtain ⟨dx, e1, rfl⟩ := enumD_get ds 0 i d e
    obtain ⟨v', hv, rv⟩ := r.get e1
    have k1 := h1 vs (same_sqL x.sub (le.sqL q))
    rw [hv] at k1
    cases k1
    rw [Nat.zero_add]
    exact pair_new x hT (.int _) (Rep.mono le pre _ _ rv)
end
section
variable {X : Cx} {W : WX} {a : Expr} {pos p tpos : Pos} {elts : List Expr} {kk : Nat}
def kEnum : List D → M (List D) := fun ds s => match ds with
  | [.tup xs] => .ok (enumD 0 xs) s
  | [.lst xs] => .ok (enumD 0 xs) s
  | _ => .stuck
def iEnum (f : M (List D)) : M (List D) := fun s => (f s).bnd kEnum
@[simp] theorem r_iEnum (f : M (List D)) (s : S) : iEnum f s = (f s).bnd kEnum := rfl
@[simp] theorem r_kEnum_t (xs : List D) (s : S) : kEnum [.tup xs] s = .ok (enumD 0 xs) s := rfl
@[simp] theorem r_kEnum_l (xs : List D) (s : S) : kEnum [.lst xs] s = .ok (enumD 0 xs) s := rfl
theorem si_enum {f : M (List D)} (hg : Gl X "enumerate") (hm : X.mg "enumerate" = none) (ha : SA X W [a] f) (hs : starEach [a] X.env = [(false, eval a X.env)] := by rfl) :
    SI X W (.Tuple elts kk tpos) (.Call (.Name "enumerate" p) [a] [] pos) (iEnum f) := by
  obtain ⟨t, a1, a2⟩ := ha
  refine ⟨_, PI.or (pi_enumT hg hm a1 hs) (pi_enum hg hm a1 hs), fun g I F s σ H R x hq => ?_⟩
  unfold iEnum at hq
  cases e1 : f s with
  | stuck => rw [e1] at hq; exact hq.elim
  | ex c s1 => rw [e1] at hq; exact .inl (a2 g I F s σ H _ x (by rw [e1]; exact hq))
  | ok ds s1 =>
    rw [e1, bnd_ok] at hq
    unfold kEnum at hq
    split at hq
    · rename_i xs
      refine .inl (a2 g I F s σ H _ x (by
        rw [e1]
        intro vs I1 F1 H1 x1 r1
        cases r1 with
        | cons ra rr =>
          cases rr
          cases ra with
          | tup qa la => exact ⟨_, _, rfl, same_sqT x1.sub qa.sq, hq _ _ _ _ x1 (walk_enumT qa.sq la)⟩))
    · rename_i xs
      refine .inr (a2 g I F s σ H _ x (by
        rw [e1]
        intro vs I1 F1 H1 x1 r1
        cases r1 with
        | cons ra rr =>
          cases rr
          cases ra with
          | lst qa la => exact ⟨_, _, rfl, same_sqL x1.sub qa, hq _ _ _ _ x1 (walk_enumL qa la)⟩))
    · exact hq.elim
end
end Fw
namespace Fw
open PySem L2
/-! ### comprehensions with a test -/
theorem lcL_gen {is : List Nat} {t : Tg} {c : M Bool} {e : M D} (env : List Slot) (J : Nat → List D → List Ob → Prop) : ∀ (ds acc : List D) (n : Nat) (en : List Slot) (st : List Ob), wipeE en is = env → J n acc st → acc.length + ds.length ≤ sizeLine →
    (∀ i d acc' st, ds[i]? = some d → J (n + i) acc' st → ∃ s1 k en2 st2, t d ⟨env, st⟩ = some s1 ∧ c s1 = .ok k ⟨en2, st2⟩ ∧ (k = false → wipeE en2 is = env ∧ J (n + i + 1) acc' st2) ∧ (k = true → ∃ y en' st', e ⟨en2, st2⟩ = .ok y ⟨en', st'⟩ ∧ wipeE en' is = env ∧ J (n + i + 1) (acc' ++ [y]) st')) →
    ∃ ys st', lcL is t c e ds acc ⟨en, st⟩ = .ok ys ⟨env, st'⟩ ∧ J (n + ds.length) ys st'
  | [], acc, n, en, st, hw, hj, hl, _ => ⟨acc, st, by simp [lcL, hw], hj⟩
  | d :: ds, acc, n, en, st, hw, hj, hl, step => by
    rw [List.length_cons] at hl
    obtain ⟨s1, k, en2, st2, h1, h2, h3, h4⟩ := step 0 d acc st rfl hj
    have rec_ : ∀ (acc' : List D) (en' : List Slot) (st' : List Ob), wipeE en' is = env → J (n + 0 + 1) acc' st' → acc'.length + ds.length ≤ sizeLine → ∃ ys st2, lcL is t c e ds acc' ⟨en', st'⟩ = .ok ys ⟨env, st2⟩ ∧ J (n + (d :: ds).length) ys st2 := fun acc' en' st' a1 a2 a3 => by
      obtain ⟨ys, st3, r1, r2⟩ := lcL_gen env J ds acc' (n + 1) en' st' a1 a2 a3 fun i d' acc'' st hi hJ => by
        have z := step (i + 1) d' acc'' st hi (by rw [show n + (i + 1) = n + 1 + i by omega]; exact hJ)
        rw [show n + (i + 1) + 1 = n + 1 + i + 1 by omega] at z
        exact z
      exact ⟨ys, st3, r1, by rw [List.length_cons, show n + (ds.length + 1) = n + 1 + ds.length by omega]; exact r2⟩
    rw [← hw] at h1
    cases k with
    | false =>
      obtain ⟨a1, a2⟩ := h3 rfl
      obtain ⟨ys, st3, r1, r2⟩ := rec_ acc en2 st2 a1 a2 (by omega)
      exact ⟨ys, st3, by simp [lcL, h1, h2, r1], r2⟩
    | true =>
      obtain ⟨y, en', st', a0, a1, a2⟩ := h4 rfl
      obtain ⟨ys, st3, r1, r2⟩ := rec_ (acc ++ [y]) en' st' a1 a2 (by rw [List.length_append, List.length_singleton]; omega)
      have hlt : acc.length < 16777216 := by rw [sizeLine_n] at hl; omega
      exact ⟨ys, st3, by simp [lcL, h1, h2, a0, hlt, r1], r2⟩
/-- [g(x) for x in xs if p(x)], the store stays -/
theorem lcL_fm {is : List Nat} {t : Tg} {c : M Bool} {e : M D} {β : Type} (enc : β → D) (env : List Slot) (st : List Ob) (p : β → Bool) (g : β → D) (en : List Slot) (xs : List β) (hw : wipeE en is = env) (hl : xs.length ≤ sizeLine)
    (step : ∀ x ∈ xs, ∃ s1 en2, t (enc x) ⟨env, st⟩ = some s1 ∧ c s1 = .ok (p x) ⟨en2, st⟩ ∧ wipeE en2 is = env ∧ (p x = true → ∃ en', e ⟨en2, st⟩ = .ok (g x) ⟨en', st⟩ ∧ wipeE en' is = env)) :
    lcL is t c e (xs.map enc) [] ⟨en, st⟩ = .ok ((xs.filter p).map g) ⟨env, st⟩ := by
  obtain ⟨ys, st', h1, h2, h3⟩ := lcL_gen (is := is) (t := t) (c := c) (e := e) env (fun i acc st' => acc = ((xs.take i).filter p).map g ∧ st' = st) (xs.map enc) [] 0 en st hw ⟨by simp, rfl⟩ (by simpa using hl) (by
    rintro i d acc st' hi ⟨ha, rfl⟩
    rw [Nat.zero_add] at ha ⊢
    rw [List.getElem?_map] at hi
    cases hx : xs[i]? with
    | none => rw [hx] at hi; cases hi
    | some x =>
      rw [hx] at hi
      cases hi
      obtain ⟨s1, en2, a1, a2, a3, a4⟩ := step x (List.mem_of_getElem? hx)
      have ht : (xs.take (i + 1)).filter p = (xs.take i).filter p ++ [x].filter p := by
        rw [List.take_add_one, List.filter_append, hx]
        rfl
      refine ⟨s1, p x, en2, st', a1, a2, fun hp => ⟨a3, ?_, rfl⟩, fun hp => ?_⟩
      · rw [ht, ha]
        simp [hp]
      · obtain ⟨en', b1, b2⟩ := a4 hp
        exact ⟨g x, en', st', b1, b2, by rw [ht, ha]; simp [hp], rfl⟩)
  rw [Nat.zero_add, List.length_map, List.take_length] at h2
  rw [h1, h2, h3]
theorem forL_foldl {α β : Type} {t : Tg} {b : M Fl} (enc : β → D) (F : α → β → α) (P : α → S → Prop) : ∀ (xs : List β) (a : α) (s : S), (∀ a x s, x ∈ xs → P a s → ∃ s1 s2, t (enc x) s = some s1 ∧ b s1 = .ok .nx s2 ∧ P (F a x) s2) → P a s → ∃ s', forL t b (xs.map enc) s = .ok .nx s' ∧ P (xs.foldl F a) s'
  | [], a, s, _, h => ⟨s, rfl, h⟩
  | x :: xs, a, s, step, h => by
    obtain ⟨s1, s2, h1, h2, h3⟩ := step a x s List.mem_cons_self h
    obtain ⟨s', e, hP⟩ := forL_foldl enc F P xs (F a x) s2 (fun a y s hy => step a y s (List.mem_cons_of_mem _ hy)) h3
    exact ⟨s', by simp [forL, h1, h2, e], hP⟩
/-- a loop that may return: .inl what it returns, .inr how it goes on -/
def foldR {α β : Type} (F : α → β → D ⊕ α) : α → List β → D ⊕ α
  | a, [] => .inr a
  | a, x :: xs => match F a x with
    | .inl d => .inl d
    | .inr a' => foldR F a' xs
theorem forL_foldR {α β : Type} {t : Tg} {b : M Fl} (enc : β → D) (F : α → β → D ⊕ α) (P : α → S → Prop) : ∀ (xs : List β) (a : α) (s : S), (∀ a x s, x ∈ xs → P a s → ∃ s1, t (enc x) s = some s1 ∧ match F a x with
      | .inl d => ∃ s2, b s1 = .ok (.rt d) s2
      | .inr a' => ∃ s2, b s1 = .ok .nx s2 ∧ P a' s2) → P a s → match foldR F a xs with
      | .inl d => ∃ s', forL t b (xs.map enc) s = .ok (.rt d) s'
      | .inr a' => ∃ s', forL t b (xs.map enc) s = .ok .nx s' ∧ P a' s'
  | [], a, s, _, h => ⟨s, rfl, h⟩
  | x :: xs, a, s, step, h => by
    obtain ⟨s1, h1, h2⟩ := step a x s List.mem_cons_self h
    unfold foldR
    cases e : F a x with
    | inl d =>
      rw [e] at h2
      obtain ⟨s2, h2⟩ := h2
      exact ⟨s2, by simp [forL, h1, h2]⟩
    | inr a' =>
      rw [e] at h2
      obtain ⟨s2, h2, h3⟩ := h2
      have := forL_foldR enc F P xs a' s2 (fun a y s hy => step a y s (List.mem_cons_of_mem _ hy)) h3
      simp only
      split
      · rename_i d hd
        rw [hd] at this
        obtain ⟨s', q⟩ := this
        exact ⟨s', by simp [forL, h1, h2, q]⟩
      · rename_i a'' hd
        rw [hd] at this
        obtain ⟨s', q, r⟩ := this
        exact ⟨s', by simp [forL, h1, h2, q], r⟩
/-- a loop over numbered things -/
theorem enumD_map {β : Type} (enc : β → D) : ∀ (xs : List β) (n : Nat), enumD n (xs.map enc) = (xs.zipIdx n).map fun p => .tup [.int (p.2 : Int), enc p.1]
  | [], _ => rfl
  | x :: xs, n => by rw [List.map_cons, enumD, enumD_map enc xs (n + 1), List.zipIdx_cons, List.map_cons]
theorem inL_ints (p : Int) (ps : List Int) : inL (.int p) (ps.map .int) = ps.contains p := by
  unfold inL
  induction ps with
  | nil => rfl
  | cons q ps ih =>
    rw [List.map_cons, List.any_cons, ih, List.contains_cons]
    congr 1
    show (q == p) = (p == q)
    exact BEq.comm
theorem flat_ints (ps : List Int) : (ps.map D.int).all D.flat = true := by
  induction ps with
  | nil => rfl
  | cons q ps ih => simp [D.flat, ih]
@[simp] theorem dIn_t (neg : Bool) (p : Int) (ps : List Int) : dIn neg (.int p) (.tup (ps.map .int)) = some (.bl (neg != ps.contains p)) := by
  show (if canIn (.int p) (ps.map .int) = true then some (D.bl (neg != inL (.int p) (ps.map .int))) else none) = _
  rw [if_pos (by unfold canIn; rw [flat_ints]; rfl), inL_ints]
@[simp] theorem dIn_l (neg : Bool) (p : Int) (ps : List Int) : dIn neg (.int p) (.lst (ps.map .int)) = some (.bl (neg != ps.contains p)) := by
  show (if canIn (.int p) (ps.map .int) = true then some (D.bl (neg != inL (.int p) (ps.map .int))) else none) = _
  rw [if_pos (by unfold canIn; rw [flat_ints]; rfl), inL_ints]
/-! ### by place -/
@[simp] theorem dIx0 (x : D) (xs : List D) : dIx (.tup (x :: xs)) (.int 0) = some x := by
  show atI _ _ = _
  unfold atI ixN
  rw [if_pos (by decide), if_pos (by rw [List.length_cons]; omega)]
  rfl
@[simp] theorem dIx1 (x y : D) (xs : List D) : dIx (.tup (x :: y :: xs)) (.int 1) = some y := by
  show atI _ _ = _
  unfold atI ixN
  rw [if_pos (by decide), if_pos (by rw [List.length_cons, List.length_cons]; omega)]
  rfl
@[simp] theorem dIx2 (x y z : D) (xs : List D) : dIx (.tup (x :: y :: z :: xs)) (.int 2) = some z := by
  show atI _ _ = _
  unfold atI ixN
  rw [if_pos (by decide), if_pos (by rw [List.length_cons, List.length_cons, List.length_cons]; omega)]
  rfl
@[simp] theorem dIxL0 (x : D) (xs : List D) : dIx (.lst (x :: xs)) (.int 0) = some x := by
  show atI _ _ = _
  unfold atI ixN
  rw [if_pos (by decide), if_pos (by rw [List.length_cons]; omega)]
  rfl
@[simp] theorem dIxL1 (x y : D) (xs : List D) : dIx (.lst (x :: y :: xs)) (.int 1) = some y := by
  show atI _ _ = _
  unfold atI ixN
  rw [if_pos (by decide), if_pos (by rw [List.length_cons, List.length_cons]; omega)]
  rfl
@[simp] theorem dIxL2 (x y z : D) (xs : List D) : dIx (.lst (x :: y :: z :: xs)) (.int 2) = some z := by
  show atI _ _ = _
  unfold atI ixN
  rw [if_pos (by decide), if_pos (by rw [List.length_cons, List.length_cons, List.length_cons]; omega)]
  rfl
theorem okL_ints (ns : List Int) : D.okL (ns.map .int) = true := by
  induction ns with
  | nil => rfl
  | cons n ns ih => simp [D.okL, D.ok, ih]
theorem depL_ints (ns : List Int) : D.depL (ns.map .int) = 0 := by
  induction ns with
  | nil => rfl
  | cons n ns ih => simp [D.depL, D.dep, ih]
theorem eqv_ints : ∀ (xs ys : List Int), D.eqvL (xs.map .int) (ys.map .int) = (xs == ys)
  | [], [] => rfl
  | [], _ :: _ => rfl
  | _ :: _, [] => rfl
  | x :: xs, y :: ys => by
    rw [List.map_cons, List.map_cons, D.eqvL, eqv_ints xs ys]
    show ((x == y) && (xs == ys)) = _
    rw [List.cons_beq_cons]
@[simp] theorem dEq_nil (xs : List Int) : dEq (.tup (xs.map .int)) (.tup []) = some (.bl xs.isEmpty) := by
  have c : canEq (.tup (xs.map .int)) (.tup []) = true := by
    have a1 := okL_ints xs
    have a2 := depL_ints xs
    unfold canEq
    simp [D.ok, D.dep, D.okL, D.depL, a1, a2]
  unfold dEq
  rw [if_pos c]
  cases xs <;> rfl
@[simp] theorem dEq_ni (i : Int) : dEq .non (.int i) = some (.bl false) := rfl
@[simp] theorem dNe_ni (i : Int) : dNe .non (.int i) = some (.bl true) := rfl
def kCh2 (op' : D → D → Option D) (y : Rd1) : Rd1 → M D := fun z s => kE2c op' (y.rd s) (z.rd s) s
def kCh1 (op' : D → D → Option D) (y : Rd1) (c : Opd) (r : Option D) : M D := fun s => match r with
  | some (.bl true) => (c.ev s).bnd (kCh2 op' y)
  | some (.bl false) => .ok (.bl false) s
  | _ => .stuck
def kChb (op op' : D → D → Option D) (c : Opd) (y : Rd1) (dx dy : Option D) : M D := fun s => match dx, dy with
  | some dx, some dy => kCh1 op' y c (op dx dy) s
  | _, _ => .stuck
def kChY (op op' : D → D → Option D) (c : Opd) (x : Rd1) : Rd1 → M D := fun y s => kChb op op' c y (x.rd s) (y.rd s) s
def kChX (op op' : D → D → Option D) (b c : Opd) : Rd1 → M D := fun x s => (b.ev s).bnd (kChY op op' c x)
@[simp] theorem r_eChain (op op' : D → D → Option D) (a b c : Opd) (s : S) : eChain op op' a b c s = (a.ev s).bnd (kChX op op' b c) := rfl
@[simp] theorem r_kChX (op op' : D → D → Option D) (b c : Opd) (x : Rd1) (s : S) : kChX op op' b c x s = (b.ev s).bnd (kChY op op' c x) := rfl
@[simp] theorem r_kChY (op op' : D → D → Option D) (c : Opd) (x y : Rd1) (s : S) : kChY op op' c x y s = kChb op op' c y (x.rd s) (y.rd s) s := rfl
@[simp] theorem r_kChb (op op' : D → D → Option D) (c : Opd) (y : Rd1) (dx dy : D) (s : S) : kChb op op' c y (some dx) (some dy) s = kCh1 op' y c (op dx dy) s := rfl
@[simp] theorem r_kCh1_t (op' : D → D → Option D) (y : Rd1) (c : Opd) (s : S) : kCh1 op' y c (some (.bl true)) s = (c.ev s).bnd (kCh2 op' y) := rfl
@[simp] theorem r_kCh1_f (op' : D → D → Option D) (y : Rd1) (c : Opd) (s : S) : kCh1 op' y c (some (.bl false)) s = .ok (.bl false) s := rfl
@[simp] theorem r_kCh2 (op' : D → D → Option D) (y z : Rd1) (s : S) : kCh2 op' y z s = kE2c op' (y.rd s) (z.rd s) s := rfl
theorem if_t {c : M Bool} {f h : M Fl} {s s1 : S} (e : c s = .ok true s1) : sIf c f h s = f s1 := by simp [e]
theorem if_f {c : M Bool} {f h : M Fl} {s s1 : S} (e : c s = .ok false s1) : sIf c f h s = h s1 := by simp [e]
@[simp] theorem isEmpty_ints (xs : List Int) : (xs.map D.int).isEmpty = xs.isEmpty := by cases xs <;> rfl
theorem r_po1 (o : Opd) (s s1 : S) (x : Rd1) (i : Int) (h : o.ev s = .ok x s1) (hx : x.rd s1 = some (.int i)) : poEv (some o) s = .ok (some i) s1 := by
  show (o.ev s).bnd _ = _
  rw [h, bnd_ok]
  simp only [hx]
theorem cutD_take {xs : List D} {n : Int} (h : 0 ≤ n) : cutD xs none (some n) = xs.take n.toNat := by
  unfold cutD HT.sIx
  simp only [Nat.sub_zero, List.drop_zero]
  by_cases hn : n < 0
  · omega
  · rw [if_neg hn]
    by_cases hl : xs.length ≤ n.toNat
    · rw [Nat.min_eq_right hl, List.take_length, List.take_of_length_le hl]
    · rw [Nat.min_eq_left (by omega)]
mutual
theorem eqv_refl : ∀ d : D, d.ok = true → D.eqv d d = true
  | .non, _ => rfl
  | .bl b, _ => by simp [D.eqv]
  | .int b, _ => by simp [D.eqv]
  | .str b, _ => by simp [D.eqv]
  | .tup xs, h => by
    rw [D.eqv]
    exact eqvL_refl xs (by simpa [D.ok] using h)
  | .lst xs, h => by
    rw [D.eqv]
    exact eqvL_refl xs (by simpa [D.ok] using h)
  | .dct _, h => by cases h
  | .obj _, h => by cases h
  | .nm _, h => by cases h
theorem eqvL_refl : ∀ xs : List D, D.okL xs = true → D.eqvL xs xs = true
  | [], _ => rfl
  | x :: xs, h => by
    rw [D.okL, Bool.and_eq_true] at h
    rw [D.eqvL, Bool.and_eq_true]
    exact ⟨eqv_refl x h.1, eqvL_refl xs h.2⟩
end
theorem canEq_ok {x y : D} (hx : x.ok = true) (hy : y.ok = true) (dx : x.dep ≤ 64) (dy : y.dep ≤ 64) : canEq x y = true := by
  unfold canEq
  rw [hx, hy, decide_eq_true dx, decide_eq_true dy]
  simp
theorem dNe_self {d : D} (h : d.ok = true) (hd : d.dep ≤ 64) : dNe d d = some (.bl false) := by
  unfold dNe
  rw [if_pos (canEq_ok h h hd hd), eqv_refl d h]
  rfl
theorem dEq_self {d : D} (h : d.ok = true) (hd : d.dep ≤ 64) : dEq d d = some (.bl true) := by
  unfold dEq
  rw [if_pos (canEq_ok h h hd hd), eqv_refl d h]
end Fw
namespace Fw
open PySem L2
section
variable {X : Cx} {W : WX}
/-! ### x.extend(a new list) -/
def kExt : Ob → Ob → Option (D × Ob)
  | .lst ys, .lst xs => if xs.length + ys.length ≤ sizeLine then some (.non, .lst (xs ++ ys)) else none
  | _, _ => none
def kExtM (i : Nat) : Ob → M D := fun b => chg i (kExt b)
def eExtF (i : Nat) (f : M Ob) : M D := fun s => if isLst (cont s i) = true then (f s).bnd (kExtM i) else .stuck
theorem se_extF {x : Str} {i : Nat} {e : Expr} {apos cpos npos : Pos} {f : M Ob} (hv : PE X (.Name x npos) (tVar i)) (ha : SF X W e f)
    (hbase : attributeBase (.Name x npos) "extend" X.env (eval (.Name x npos) X.env) = eval (.Name x npos) X.env := by rfl)
    (hfew : ((backTo cpos (starEach [e] X.env)).all (fun x => !x.1) && (backToKw cpos (keywordEach [] X.env)).all (fun x => x.1.isSome) && decide (([e] : List Expr).length + ([] : List Keyword).length + (if ([] : List Keyword).isEmpty then 0 else 1) < 30)) = true := by rfl)
    (hline : (apos.endLine == cpos.line) = true := by rfl) (hs : starEach [e] X.env = (false, eval e X.env) :: starEach [] X.env := by rfl) (hpl : (backTo cpos (starEach [] X.env)).any (·.1) = false := by rfl) :
    SE X W (.Call (.Attribute (.Name x npos) "extend" apos) [e] [] cpos) (eExtF i f) := by
  obtain ⟨t, a1, a2⟩ := ha
  refine ⟨_, pe_bm PySem.F.plainAttrs_list PySem.F.slot_list_extend PySem.F.type_list_extend mt_extend hv (pa_cons a1 pa_nil hs) hbase hfew hline hs hpl, fun g I F s σ H Q x hq => ?_⟩
  unfold eExtF at hq
  by_cases hl : isLst (cont s i) = true
  · rw [if_pos hl] at hq
    cases ec : cont s i with
    | none => rw [ec] at hl; cases hl
    | some d0 =>
      cases d0 with
      | lst ds0 =>
        obtain ⟨a0, vs0, h0, t0⟩ := cont_tyL x ec
        refine ⟨_, h0, .inl ⟨rfl, _, t0⟩, a2 g I F s σ H _ x ?_⟩
        cases e1 : f s with
        | stuck => rw [e1] at hq; exact hq
        | ex c s1 => rw [e1] at hq; exact hq
        | ok b1 s1 =>
          rw [e1, bnd_ok] at hq
          intro I1 F1 H1 p h1 x1 hp r1
          obtain ⟨x2, le⟩ := x1.alloc (o := h1) hp
          have r2 := r1.mono le (List.prefix_refl _)
          refine chg_ok (Po := fun o => PoE X W g σ o Q) x2 h0 (fun q => q) hq fun a o b d b' ea ho ro ek nx => ?_
          cases ea
          unfold kExt at ek
          split at ek
          · rename_i ys xs
            by_cases hz : xs.length + ys.length ≤ sizeLine
            · rw [if_pos hz] at ek
              cases ek
              cases ro with
              | @lst ws _ rl =>
                cases r2 with
                | @lst zs _ rz =>
                  obtain ⟨s', q', x'⟩ := nx _ (.lst (rl.append rz))
                  exact ⟨a0, p, ws, zs, rfl, rfl, ho, upd_same, by rw [rl.length, rz.length]; exact hz, q' _ _ _ _ x' .non⟩
            · rw [if_neg hz] at ek
              cases ek
          · cases ek
      | _ => rw [ec] at hl; cases hl
  · rw [if_neg hl] at hq
    exact hq.elim
@[simp] theorem r_eExtF (i : Nat) (f : M Ob) (s : S) : eExtF i f s = if isLst (cont s i) = true then (f s).bnd (kExtM i) else .stuck := rfl
@[simp] theorem r_kExtM (i : Nat) (b : Ob) (e : List Slot) (st : List Ob) : kExtM i b ⟨e, st⟩ = chgK i (kExt b) e[i]? ⟨e, st⟩ := rfl
@[simp] theorem r_kExt (ys xs : List D) : kExt (.lst ys) (.lst xs) = if xs.length + ys.length ≤ sizeLine then some (.non, .lst (xs ++ ys)) else none := rfl
/-! ### {'a': 1, 'b': 2}.get(e, 0): texts to numbers, e a text or None -/
def tDGetN (td ty tx : TE) : TE := fun σ H Q => td σ H fun x H1 => ∃ a, x = .ref a ∧ IsD H1 a ∧ ty σ H1 fun y H2 => tx σ H2 fun z H3 => (∃ o, DGet H3 a y o ∧ Q (o.getD z) H3) ∨ ∃ kvs, y = .non ∧ Rd H3 a (.dK kvs) ∧ Q z H3
theorem pe_dgetN {o e f : Expr} {apos cpos : Pos} {td ty tx : TE} (hu : X.A.units + 1 < cLine) (ho : PE X o td) (he : PE X e ty) (hf : PE X f tx) (m : M2 X o "get" apos e f cpos) : PE X (.Call (.Attribute o "get" apos) [e, f] [] cpos) (tDGetN td ty tx) := by
  refine ⟨fun pins s σ H Q I h => ?_⟩
  refine wpAny_Call_method m.base m.few m.line PySem.F.plainAttrs_dict PySem.F.slot_dict_get PySem.F.type_dict_get (thn (ho.run pins s σ H _ I h) fun u s1 ⟨x, H1, I1, rx, a, ex, d, q1⟩ => ?_)
  subst ex
  obtain rfl : u = Value.ref a := rx
  obtain ⟨t1, t2, _⟩ := isD_at I1 d
  refine ⟨t1, t2, ?_⟩
  rw [m.trees]
  refine Calls.callWith_builtin rfl (Calls.evalArgs_plain (Calls.spliced_cons (thn (he.run pins s1 σ H1 _ I1 q1) fun iv s2 ⟨y, H2, I2, ry, q2⟩ =>
    Calls.spliced_cons (thn (hf.run pins s2 σ H2 _ I2 q2) fun fv s3 ⟨z, H3, I3, rz, q3⟩ => Calls.spliced_nil ?_))))
  rcases q3 with ⟨ov, g, q3⟩ | ⟨kvs, ey, hd, q3⟩
  · exact d_get2 hu I3 g ry rz fun w' s4 I4 rw' => ⟨_, H3, I4, rw', q3⟩
  · subst ey
    cases (show iv = Value.none from ry)
    obtain ⟨_, hs, vs, _, dd⟩ := dk_rd I3.hok hd
    obtain ⟨f', hm, hf'⟩ := none_map dd
    refine call_meetsIn PySem.F.slot_dict_get dd.typeIs PySem.F.entry_dict_get (PySem.F.args_dict_get_3 _ _ _) (meets_dict_get_default (noneKind X.prog X.w) a (show (noneKind X.prog X.w).is none .none = true from rfl) hs fv) ⟨_, hm, ?_⟩
    rw [hf']
    exact ⟨_, H3, I3.tok _, rz, q3⟩
def strV (kvs : List (Str × Int)) : List (Key × V) := kvs.map fun kv => (.inr kv.1, .int kv.2)
def lookS (kvs : List (Str × Int)) (x : Str) : Option Int := (kvs.find? fun kv => decide (kv.1 = x)).map (·.2)
theorem lookS_val (x : Str) : ∀ kvs : List (Str × Int), valV (strV kvs) (.inr x) = (lookS kvs x).map .int
  | [] => rfl
  | (y, v) :: kvs => by
    have ih := lookS_val x kvs
    unfold strV valV lookS at *
    rw [List.map_cons, List.find?_cons, List.find?_cons]
    by_cases h : y = x
    · have h1 : decide ((Sum.inr y : Key) = Sum.inr x) = true := decide_eq_true (by rw [h])
      have h2 : decide (y = x) = true := decide_eq_true h
      simp only [h1, h2]
      rfl
    · have h1 : decide ((Sum.inr y : Key) = Sum.inr x) = false := decide_eq_false (fun z => h (by cases z; rfl))
      have h2 : decide (y = x) = false := decide_eq_false h
      simp only [h1, h2]
      exact ih
def kDct (kvs : List (Str × Int)) (dflt : Int) : D → M D := fun d s => match d with
  | .str x => .ok (.int ((lookS kvs x).getD dflt)) s
  | .non => .ok (.int dflt) s
  | _ => .stuck
def eDct (kvs : List (Str × Int)) (f : M D) (dflt : Int) : M D := fun s => (f s).bnd (kDct kvs dflt)
theorem se_dct {k1 k2 : Str} {v1 v2 dflt : Int} {e : Expr} {f : M D} {n1 n2 n3 n4 n5 : Nat} {p1 p2 p3 p4 p5 pos apos cpos : Pos} {k : Nat} (hr : Room k X.A) (he : SE X W e f)
    (hmg : mergeK [] (strV [(k1, v1), (k2, v2)]) = strV [(k1, v1), (k2, v2)])
    (m : M2 X (.Dict [some (.Constant (.str k1) n1 p1), some (.Constant (.str k2) n2 p2)] [.Constant (.int v1) n3 p3, .Constant (.int v2) n4 p4] pos) "get" apos e (.Constant (.int dflt) n5 p5) cpos) :
    SE X W (.Call (.Attribute (.Dict [some (.Constant (.str k1) n1 p1), some (.Constant (.str k2) n2 p2)] [.Constant (.int v1) n3 p3, .Constant (.int v2) n4 p4] pos) "get" apos) [e, .Constant (.int dflt) n5 p5] [] cpos) (eDct [(k1, v1), (k2, v2)] f dflt) := by
  obtain ⟨t, a1, a2⟩ := he
  refine ⟨_, pe_dgetN (hu_of hr) (pe_disp (pps_cons pe_str pe_int (pps_cons pe_str pe_int pps_nil)) rfl rfl (fun z => by cases z) (show 2 ≤ 15 by decide)) a1 pe_int m, fun g I F s σ H Q x hq => ?_⟩
  intro p hp
  refine ⟨upd_same, strV [(k1, v1), (k2, v2)], rfl, show 2 ≤ 15 by decide, ?_⟩
  rw [hmg, upd_upd]
  obtain ⟨x2, le⟩ := x.alloc (o := .dK (strV [(k1, v1), (k2, v2)])) hp
  have rdF : Rd (upd F p (.dK (strV [(k1, v1), (k2, v2)]))) p (.dK (strV [(k1, v1), (k2, v2)])) := .inl upd_same
  refine ⟨p, rfl, .inl ⟨_, .inl upd_same⟩, a2 (g.at I (upd F p (.dK (strV [(k1, v1), (k2, v2)])))) I _ s σ _ _ x2.here ?_⟩
  unfold eDct at hq
  cases e1 : f s with
  | stuck => rw [e1] at hq; exact hq
  | ex c s1 => rw [e1] at hq; exact fun I1 F1 H1 u x1 hu => hq _ _ _ _ (x2.back x1) hu
  | ok d s1 =>
    rw [e1, bnd_ok] at hq
    intro v I1 F1 H1 x1 r1
    have rd1 : Rd H1 p (.dK (strV [(k1, v1), (k2, v2)])) := (Le.of_same x1.sub).rd _ _ (x1.mono.rd _ _ rdF)
    cases d with
    | str y =>
      cases r1
      refine .inl ⟨_, .inl ⟨_, .inr y, rd1, rfl, rfl⟩, ?_⟩
      rw [lookS_val]
      have e2 : ((lookS [(k1, v1), (k2, v2)] y).map V.int).getD (.int dflt) = .int ((lookS [(k1, v1), (k2, v2)] y).getD dflt) := by cases lookS [(k1, v1), (k2, v2)] y <;> rfl
      rw [e2]
      exact hq _ _ _ _ (x2.back x1) (.int _)
    | non =>
      cases r1
      exact .inr ⟨_, rfl, rd1, hq _ _ _ _ (x2.back x1) (.int _)⟩
    | _ => exact hq.elim
@[simp] theorem r_eDct (kvs : List (Str × Int)) (f : M D) (dflt : Int) (s : S) : eDct kvs f dflt s = (f s).bnd (kDct kvs dflt) := rfl
@[simp] theorem r_kDct_s (kvs : List (Str × Int)) (dflt : Int) (x : Str) (s : S) : kDct kvs dflt (.str x) s = .ok (.int ((lookS kvs x).getD dflt)) s := rfl
@[simp] theorem r_kDct_n (kvs : List (Str × Int)) (dflt : Int) (s : S) : kDct kvs dflt .non s = .ok (.int dflt) s := rfl
end
theorem r_range_nat (n : Nat) (h : n ≤ 1000000) (s : S) : kRange1 [.int (n : Int)] s = .ok (rangeD 0 n) s := by
  rw [r_kRange1, if_pos ⟨by omega, by omega⟩, Int.toNat_natCast]
theorem range_nat_of {f : M (List D)} {s s1 : S} {n : Nat} (e : f s = .ok [.int (n : Int)] s1) (h : n ≤ 1000000) : iRange1 f s = .ok (rangeD 0 n) s1 := by
  rw [r_iRange1, e, bnd_ok, r_range_nat n h]
end Fw
namespace Fw
open PySem L2
/-- a statement that is never reached -/
def sNever : M Fl := fun _ => .stuck
theorem ss_never {X : Cx} {W : WX} {st : Stmt} : SS X W st sNever := ⟨_, ps_never, fun g I F s σ H E x hq => hq.elim⟩
theorem goes_while {c : M Bool} {b : M Fl} {P : S → Prop} (J : Nat → S → Prop)
    (step : ∀ m s, J m s → (c s = .ok false s ∧ P s) ∨ (c s = .ok true s ∧ ∃ m' s', m' < m ∧ b s = .ok .nx s' ∧ J m' s')) : ∀ (n m : Nat) (s : S), J m s → m < n → Goes (whileN c b n) s P
  | 0, m, s, _, h => absurd h (Nat.not_lt_zero _)
  | n + 1, m, s, hj, h => by
    rcases step m s hj with ⟨e, p⟩ | ⟨e, m', s', hm, e2, hj'⟩
    · refine ⟨s, ?_, p⟩
      rw [whileN, e, bnd_ok, if_neg Bool.false_ne_true]
    · obtain ⟨s1, e3, p⟩ := goes_while J step n m' s' hj' (by omega)
      refine ⟨s1, ?_, p⟩
      rw [whileN, e, bnd_ok, if_pos rfl, e2, bnd_ok]
      exact e3
end Fw
namespace Fw
open PySem PySem.Spec PyProof.Rows L2
/-! ### methods that change nothing: o.m(..) -/
def tyO (ty : D → Bool) : Option D → Bool
  | some d => ty d
  | none => false
def kM2 (op : D → List D → Option D) (x : Rd1) : List D → M D := fun ys s => kE1b (fun d => op d ys) (x.rd s) s
def kM1 (ty : D → Bool) (op : D → List D → Option D) (f : M (List D)) : Rd1 → M D := fun x s => if tyO ty (x.rd s) = true then (f s).bnd (kM2 op x) else .stuck
def eM (ty : D → Bool) (op : D → List D → Option D) (a : Opd) (f : M (List D)) : M D := fun s => (a.ev s).bnd (kM1 ty op f)
@[simp] theorem r_eM (ty : D → Bool) (op : D → List D → Option D) (a : Opd) (f : M (List D)) (s : S) : eM ty op a f s = (a.ev s).bnd (kM1 ty op f) := rfl
@[simp] theorem r_kM1 (ty : D → Bool) (op : D → List D → Option D) (f : M (List D)) (x : Rd1) (s : S) : kM1 ty op f x s = if tyO ty (x.rd s) = true then (f s).bnd (kM2 op x) else .stuck := rfl
@[simp] theorem r_kM2 (op : D → List D → Option D) (x : Rd1) (ys : List D) (s : S) : kM2 op x ys s = kE1b (fun d => op d ys) (x.rd s) s := rfl
@[simp] theorem r_tyO (ty : D → Bool) (d : D) : tyO ty (some d) = ty d := rfl
section
variable {X : Cx} {W : WX} {o : Expr} {es : List Expr} {oa : Opd} {pos : Pos}
def MeS (X : Cx) (r : V → List V → Hp → VK → Prop) (op : D → List D → Option D) : Prop := ∀ g I F s σ H Q x dx vs ys d, Sim X.K g I F s σ H → RW X.K I F H x dx → RepL X.K I F vs ys → op dx ys = some d →
  (∀ v F' H', Sim X.K g I F' s σ H' → Rep X.K I F' v d → Q v H') → r x vs H Q
theorem se_M {e : Expr} {T : String} {r : V → List V → Hp → VK → Prop} {ty : D → Bool} {op : D → List D → Option D} {f : M (List D)} (hp : ∀ {to : TE} {t : TA}, PE X o to → PA X es t → PE X e (tBM X.K T r to t))
    (hty : ∀ I F H v d, Same F H → RW X.K I F H v d → ty d = true → tyV X.K T v H) (hs : MeS X r op) (ha : SO X W o oa) (hb : SA X W es f) : SE X W e (eM ty op oa f) := by
  obtain ⟨ta, a1, a2⟩ := ha
  obtain ⟨tb, b1, b2⟩ := hb
  refine ⟨_, hp a1 b1, fun g I F s σ H Q x hq => a2 g I F s σ H _ x ?_⟩
  rw [r_eM] at hq
  cases e1 : oa.ev s with
  | stuck => rw [e1] at hq; exact hq
  | ex c s1 => rw [e1] at hq; exact hq
  | ok p s1 =>
    rw [e1, bnd_ok, r_kM1] at hq
    intro v I1 F1 H1 x1 r1
    cases e3 : p.rd s1 with
    | none => rw [e3, if_neg (by simp [tyO])] at hq; exact hq.elim
    | some dx =>
      rw [e3, r_tyO] at hq
      by_cases hd : ty dx = true
      · rw [if_pos hd] at hq
        refine ⟨hty _ _ _ _ _ x1.sub (r1.rw x1 e3) hd, b2 (g.at I1 F1) I1 F1 s1 σ H1 _ x1.here ?_⟩
        cases e2 : f s1 with
        | stuck => rw [e2] at hq; exact hq
        | ex c s2 => rw [e2] at hq; exact fun I2 F2 H2 u x2 hu => hq _ _ _ _ (x1.back x2) hu
        | ok ys s2 =>
          rw [e2, bnd_ok, r_kM2] at hq
          intro vs I2 F2 H2 x2 r2
          have x2' := x1.back x2
          have r1' := r1.later x2
          cases e4 : p.rd s2 with
          | none => rw [e4] at hq; exact hq.elim
          | some dy =>
            rw [e4, r_kE1b] at hq
            unfold lift1 at hq
            cases e5 : op dy ys with
            | none => rw [e5] at hq; exact hq.elim
            | some d =>
              rw [e5] at hq
              exact hs g I2 F2 s2 σ H2 Q v dy vs ys d x2' (r1'.rw x2' e4) r2 e5 fun v F' H' x' r' => hq v I2 F' H' x' r'
      · rw [if_neg hd] at hq
        exact hq.elim
def isL : D → Bool
  | .lst _ => true
  | _ => false
@[simp] theorem isL_l (xs : List D) : isL (.lst xs) = true := rfl
theorem isL_ty (I : List Addr) (F H : Hp) (v : V) (d : D) (h : Same F H) (r : RW X.K I F H v d) (hd : isL d = true) : tyV X.K "list" v H := by
  cases d with
  | lst xs =>
    obtain ⟨a, vs, rfl, h1, _⟩ := r.lst h
    exact .inl ⟨rfl, _, h1⟩
  | _ => cases hd
/-- l.count(x) -/
def rCountD (K : PySem.W.Frag) : V → List V → Hp → VK → Prop := fun x xs H Q => ∃ (a : Addr) (y : V) (d : PyData) (ds : List PyData), x = V.ref a ∧ xs = [y] ∧ Dp K H (V.ref a) (.list ds) ∧ Dp K H y d ∧
  SeqAt.shaped (.list ds) = true ∧ SeqAt.shaped d = true ∧ Q (.int ((ds.countP fun z => PyData.eqv z d : Nat) : Int)) H
theorem mt_countD (hu : X.A.units + 65 < cLine) : MtR X "list.count" (rCountD X.K) := by
  intro pins s σ H x xs v us Q I rx rxs h
  obtain ⟨a, y, d, ds, rfl, rfl, hl, hy, sl, sd, q⟩ := h
  cases rx
  cases rxs with
  | cons ry rt =>
    rename_i uy ut
    cases rt
    obtain ⟨bs, r1⟩ := Dp.reads I d y uy hy ry
    have hxs : PyData.canLayAll0 ds = true := SeqAt.canLay_of_shaped sl
    have hroom : X.A.units + 1 + min (PyData.depthAll ds) d.depth < cLine := room_in_shaped sd hu
    cases hl with
    | lst hs ha =>
      obtain ⟨its, rv, ⟨⟨cls, dd, data, sls⟩, n, ho, hc, hdn, hdt⟩, hlen⟩ := I.list hs
      simp only at hc hdt
      subst hc hdt
      obtain ⟨as, h4⟩ := Dp.readsAll I ds _ its ha rv
      have hmap : its.map (SeqAt.readOf s.heap) = ds := SeqAt.readsAll_map ds its as hxs h4
      refine call_meets PySem.F.slot_list_count ⟨_, ho, rfl⟩ PySem.F.entry_list_count (PySem.F.args_list_count_2 _ _)
        (SeqAt.list_countAt a its.toArray n dd sls uy (fun u => PyData.eqv (SeqAt.readOf s.heap u) d)) ⟨ho, SeqAt.items_eqAt (vs := its.toArray) (show ReadsAll s.heap its.toArray.toList ds as from h4) r1 hxs (SeqAt.canLay_of_shaped sd) hroom, ?_⟩
      have ec : its.toArray.toList.countP (fun u => PyData.eqv (SeqAt.readOf s.heap u) d) = ds.countP fun z => PyData.eqv z d := by
        rw [← hmap, List.countP_map]
        rfl
      refine ⟨.int ((ds.countP fun z => PyData.eqv z d : Nat) : Int), H, I.tok _, ⟨s.toks, ?_⟩, q⟩
      show Value.int ((its.toArray.toList.countP (fun u => PyData.eqv (SeqAt.readOf s.heap u) d) : Nat) : Int) s.toks = _
      rw [ec]
def cntL (ds : List D) (y : D) : Int := ((ds.countP fun z => D.eqv z y : Nat) : Int)
def oCount : D → List D → Option D := fun x ys => match x, ys with
  | .lst ds, [y] => if (D.okL ds && (y.ok && (decide (D.depL ds ≤ 60) && decide (y.dep ≤ 60)))) = true then some (.int (cntL ds y)) else none
  | _, _ => none
theorem countP_py {d : D} (h : d.ok = true) : ∀ {ds : List D}, D.okL ds = true → ((D.toPyL ds).countP fun z => PyData.eqv z d.toPy) = ds.countP fun z => D.eqv z d
  | [], _ => rfl
  | x :: xs, hx => by
    have h' : x.ok = true ∧ D.okL xs = true := by simpa [D.okL] using hx
    rw [D.toPyL, List.countP_cons, List.countP_cons, countP_py h h'.2, toPy_eqv x d h'.1 h]
theorem me_count : MeS X (rCountD X.K) oCount := by
  intro g I F s σ H Q x dx vs ys d sm rx ry e q
  unfold oCount at e
  split at e
  · rename_i ds y
    by_cases hc : (D.okL ds && (y.ok && (decide (D.depL ds ≤ 60) && decide (y.dep ≤ 60)))) = true
    · rw [if_pos hc] at e
      cases e
      simp only [Bool.and_eq_true, decide_eq_true_eq] at hc
      cases ry with
      | @cons v vs d' ds' rv rn =>
        cases rn
        obtain ⟨a, ws, rfl, h1, h2⟩ := rx.lst sm.sub
        have hdl : Dp X.K H (.ref a) (D.toPy (.lst ds)) := rx.dp sm.sub (by simpa [D.ok] using hc.1)
        have hdy : Dp X.K H v (D.toPy y) := (RW.dp (I := I) (F := F) (H := H) (.r rv) sm.sub hc.2.1)
        refine ⟨a, v, y.toPy, D.toPyL ds, rfl, rfl, hdl, hdy, (shapedL hc.1 hc.2.2.1).1, shaped_of hc.2.1 (by omega), ?_⟩
        rw [countP_py hc.2.1 hc.1]
        exact q _ F H sm (.int _)
    · rw [if_neg hc] at e
      cases e
  · cases e
theorem se_count {k : Nat} {e : Expr} {apos cpos : Pos} {f : M (List D)} (hr : Room k X.A) (ha : SO X W o oa) (hb : SA X W [e] f)
    (hbase : attributeBase o "count" X.env (eval o X.env) = eval o X.env := by rfl)
    (hfew : ((backTo cpos (starEach [e] X.env)).all (fun x => !x.1) && (backToKw cpos (keywordEach [] X.env)).all (fun x => x.1.isSome) && decide (([e] : List Expr).length + ([] : List Keyword).length + (if ([] : List Keyword).isEmpty then 0 else 1) < 30)) = true := by rfl)
    (hline : (apos.endLine == cpos.line) = true := by rfl) (hs : starEach [e] X.env = (false, eval e X.env) :: starEach [] X.env := by rfl) (hpl : (backTo cpos (starEach [] X.env)).any (·.1) = false := by rfl) :
    SE X W (.Call (.Attribute o "count" apos) [e] [] cpos) (eM isL oCount oa f) :=
  se_M (fun h1 h2 => pe_bm PySem.F.plainAttrs_list PySem.F.slot_list_count PySem.F.type_list_count (mt_countD (room65 hr)) h1 h2 hbase hfew hline hs hpl) isL_ty me_count ha hb
/-- l.index(x) -/
def idxD (y : D) : List D → Option Nat
  | [] => none
  | z :: zs => if D.eqv z y = true then some 0 else (idxD y zs).map (· + 1)
theorem idxD_at {y : D} : ∀ {ds : List D} {j : Nat}, idxD y ds = some j → (∃ z, ds[j]? = some z ∧ D.eqv z y = true) ∧ ∀ (m : Nat) (z' : D), m < j → ds[m]? = some z' → D.eqv z' y = false
  | [], j, h => by cases h
  | z :: zs, j, h => by
    unfold idxD at h
    by_cases hz : D.eqv z y = true
    · rw [if_pos hz] at h
      cases h
      exact ⟨⟨z, rfl, hz⟩, fun m _ hm => absurd hm (Nat.not_lt_zero _)⟩
    · rw [if_neg hz] at h
      cases hi : idxD y zs with
      | none => rw [hi] at h; cases h
      | some i =>
        rw [hi] at h
        cases h
        obtain ⟨⟨z', a1, a2⟩, a3⟩ := idxD_at hi
        refine ⟨⟨z', by simpa using a1, a2⟩, fun m z' hm hz' => ?_⟩
        cases m with
        | zero =>
          have : z = z' := by simpa using hz'
          rw [← this]
          simpa using hz
        | succ m => exact a3 m z' (by have : m + 1 < i + 1 := hm; omega) (by simpa using hz')
def oIndex : D → List D → Option D := fun x ys => match x, ys with
  | .lst ds, [y] => if (D.okL ds && (y.ok && (decide (D.depL ds ≤ 60) && decide (y.dep ≤ 60)))) = true then (idxD y ds).map fun j => .int (j : Int) else none
  | _, _ => none
theorem toPyL_get : ∀ {ds : List D} {j : Nat}, (D.toPyL ds)[j]? = ds[j]?.map D.toPy
  | [], j => by simp [D.toPyL]
  | x :: xs, 0 => by simp [D.toPyL]
  | x :: xs, j + 1 => by simp [D.toPyL, toPyL_get (ds := xs) (j := j)]
theorem okL_get : ∀ {ds : List D} {j : Nat} {z : D}, D.okL ds = true → ds[j]? = some z → z.ok = true
  | [], j, z, _, h => by simp at h
  | x :: xs, 0, z, h, e => by
    have h' : x.ok = true ∧ D.okL xs = true := by simpa [D.okL] using h
    have : x = z := by simpa using e
    rw [← this]; exact h'.1
  | x :: xs, j + 1, z, h, e => by
    have h' : x.ok = true ∧ D.okL xs = true := by simpa [D.okL] using h
    exact okL_get h'.2 (by simpa using e)
theorem me_index : MeS X (rIndexD X.K) oIndex := by
  intro g I F s σ H Q x dx vs ys d sm rx ry e q
  unfold oIndex at e
  split at e
  · rename_i ds y
    by_cases hc : (D.okL ds && (y.ok && (decide (D.depL ds ≤ 60) && decide (y.dep ≤ 60)))) = true
    · rw [if_pos hc] at e
      simp only [Bool.and_eq_true, decide_eq_true_eq] at hc
      cases hj : idxD y ds with
      | none => rw [hj] at e; cases e
      | some j =>
        rw [hj] at e
        cases e
        cases ry with
        | @cons v vs d' ds' rv rn =>
          cases rn
          obtain ⟨⟨z, j1, j2⟩, j3⟩ := idxD_at hj
          obtain ⟨a, ws, rfl, h1, h2⟩ := rx.lst sm.sub
          have hdl : Dp X.K H (.ref a) (D.toPy (.lst ds)) := rx.dp sm.sub (by simpa [D.ok] using hc.1)
          have hdy : Dp X.K H v (D.toPy y) := (RW.dp (I := I) (F := F) (H := H) (.r rv) sm.sub hc.2.1)
          refine ⟨a, v, y.toPy, D.toPyL ds, j, z.toPy, rfl, rfl, hdl, hdy, (shapedL hc.1 hc.2.2.1).1, shaped_of hc.2.1 (by omega), by rw [toPyL_get, j1]; rfl, by rw [toPy_eqv z y (okL_get hc.1 j1) hc.2.1]; exact j2, fun m z' hm hz' => ?_, ?_⟩
          · rw [toPyL_get] at hz'
            cases hm' : ds[m]? with
            | none => rw [hm'] at hz'; cases hz'
            | some w =>
              rw [hm'] at hz'
              cases hz'
              rw [toPy_eqv w y (okL_get hc.1 hm') hc.2.1]
              exact j3 m w hm hm'
          · exact q _ F H sm (.int _)
    · rw [if_neg hc] at e
      cases e
  · cases e
theorem se_index {k : Nat} {e : Expr} {apos cpos : Pos} {f : M (List D)} (hr : Room k X.A) (ha : SO X W o oa) (hb : SA X W [e] f)
    (hbase : attributeBase o "index" X.env (eval o X.env) = eval o X.env := by rfl)
    (hfew : ((backTo cpos (starEach [e] X.env)).all (fun x => !x.1) && (backToKw cpos (keywordEach [] X.env)).all (fun x => x.1.isSome) && decide (([e] : List Expr).length + ([] : List Keyword).length + (if ([] : List Keyword).isEmpty then 0 else 1) < 30)) = true := by rfl)
    (hline : (apos.endLine == cpos.line) = true := by rfl) (hs : starEach [e] X.env = (false, eval e X.env) :: starEach [] X.env := by rfl) (hpl : (backTo cpos (starEach [] X.env)).any (·.1) = false := by rfl) :
    SE X W (.Call (.Attribute o "index" apos) [e] [] cpos) (eM isL oIndex oa f) :=
  se_M (fun h1 h2 => pe_bm PySem.F.plainAttrs_list PySem.F.slot_list_index PySem.F.type_list_index (mt_indexD (room65 hr)) h1 h2 hbase hfew hline hs hpl) isL_ty me_index ha hb
end
end Fw
namespace Fw
open PySem PySem.Spec PyProof.Rows L2
/-! ### sorted(..) of ints -/
def insI (x : Int) : List Int → List Int
  | [] => [x]
  | y :: ys => if x ≤ y then x :: y :: ys else y :: insI x ys
def sortI : List Int → List Int
  | [] => []
  | x :: xs => insI x (sortI xs)
theorem insI_perm (x : Int) : ∀ ys, (insI x ys).Perm (x :: ys)
  | [] => List.Perm.refl _
  | y :: ys => by
    unfold insI
    split
    · exact List.Perm.refl _
    · exact ((insI_perm x ys).cons y).trans (List.Perm.swap x y ys)
theorem sortI_perm : ∀ xs, (sortI xs).Perm xs
  | [] => List.Perm.refl _
  | x :: xs => (insI_perm x _).trans ((sortI_perm xs).cons x)
theorem insI_sorted (x : Int) : ∀ ys, ys.Pairwise (· ≤ ·) → (insI x ys).Pairwise (· ≤ ·)
  | [], _ => List.pairwise_singleton _ _
  | y :: ys, h => by
    obtain ⟨h1, h2⟩ := List.pairwise_cons.mp h
    unfold insI
    split
    · rename_i hxy
      refine List.pairwise_cons.mpr ⟨fun z hz => ?_, h⟩
      rcases List.mem_cons.mp hz with rfl | hz
      · exact hxy
      · have := h1 z hz; omega
    · rename_i hxy
      refine List.pairwise_cons.mpr ⟨fun z hz => ?_, insI_sorted x ys h2⟩
      rcases List.mem_cons.mp ((insI_perm x ys).mem_iff.mp hz) with rfl | hz
      · omega
      · exact h1 z hz
theorem sortI_sorted : ∀ xs, (sortI xs).Pairwise (· ≤ ·)
  | [] => List.Pairwise.nil
  | x :: xs => insI_sorted x _ (sortI_sorted xs)
theorem sorted_eq : ∀ {xs ys : List Int}, xs.Perm ys → xs.Pairwise (· ≤ ·) → ys.Pairwise (· ≤ ·) → xs = ys
  | [], ys, hp, _, _ => by rw [List.nil_perm.mp hp]
  | x :: xs, [], hp, _, _ => by exact absurd hp.symm (by simp)
  | x :: xs, y :: ys, hp, hx, hy => by
    obtain ⟨x1, x2⟩ := List.pairwise_cons.mp hx
    obtain ⟨y1, y2⟩ := List.pairwise_cons.mp hy
    have e : x = y := by
      have a1 : x ∈ y :: ys := hp.mem_iff.mp List.mem_cons_self
      have a2 : y ∈ x :: xs := hp.mem_iff.mpr List.mem_cons_self
      rcases List.mem_cons.mp a1 with e | e
      · exact e
      · rcases List.mem_cons.mp a2 with e' | e'
        · exact e'.symm
        · have := x1 y e'; have := y1 x e; omega
    subst e
    rw [sorted_eq ((List.perm_cons x).mp hp) x2 y2]
theorem sortI_of {xs ys : List Int} (hp : ys.Perm xs) (hs : ys.Pairwise (· ≤ ·)) : ys = sortI xs := sorted_eq (hp.trans (sortI_perm xs).symm) hs (sortI_sorted xs)
theorem sortI_self {xs : List Int} (hs : xs.Pairwise (· ≤ ·)) : sortI xs = xs := (sortI_of (List.Perm.refl _) hs).symm
section
variable {prog : Program} {w : World} {A : Around} {E : Value → Shared → Prop} {s : Shared}
theorem collect_tup {l : Addr} {vs : List Value} {Q : List Value → Shared → Prop} (hl : s.heap.IsTuple l vs.toArray)
    (h : Q vs { s with heap := (s.heap.push (seqObj "list" #[] 0)).update s.heap.objs.size (Obj.mapSeq (· ++ vs.toArray)) }) (hsz : vs.length ≤ sizeLine) :
    wpAny (model prog w) A (collect (.ref l)) Q E s := by
  obtain ⟨o, ho, hc, n, hd⟩ := id hl
  unfold collect
  refine wpAny_bind (wpAny_runValue (codeAny_builtin entry_proto_collect' ?_))
  show wpAny _ _ (do again (.builtin "list.__iadd__" ⟨[← newList [], .ref l], []⟩)) _ _ s
  refine wpAny_bind (wpAny_newList (wpAny_pure ⟨Code.quiet_builtin _ (by decide +kernel), codeAny_builtin entry_list_iadd' ?_⟩))
  show wpAny _ _ (Builtin.List.listExtendWith (.ref s.heap.objs.size) (.ref l) (.ref s.heap.objs.size)) _ _ { s with heap := s.heap.push (seqObj "list" #[] 0) }
  unfold Builtin.List.listExtendWith
  have ho' : (s.heap.push (seqObj "list" #[] 0)).get? l = some o := Heap.get?_push_of_some _ ho
  refine wpAny_bind (wpAny_typeOf (T := "tuple") ⟨o, ho', hc⟩ ?_)
  have ht : (Value.type "tuple" == Value.type "tuple") = true := by rfl
  rw [if_pos (by rw [ht]; simp)]
  refine wpAny_bind (listItems_at ho' hd ?_)
  refine wpAny_bind (listItems_at (xs := #[]) (n := 0) (Heap.get?_push_size _ rfl) rfl ?_)
  rw [if_neg (by simp)]
  refine wpAny_bind (listUpdate_at (xs := #[]) (n := 0) (Heap.get?_push_size _ rfl) rfl ?_ (Nat.zero_le _) (by show (#[] ++ vs.toArray).size ≤ sizeLine + 1; simp only [Array.size_append, List.size_toArray, List.length_nil]; omega))
  refine wpAny_pure ?_
  show wpAny (model prog w) A (do
      let o ← load s.heap.objs.size
      match o.data with
      | .seq xs _ => pure xs.toList
      | _ => unsupported "internal:collect") Q E { s with heap := (s.heap.push (seqObj "list" #[] 0)).update s.heap.objs.size (Obj.mapSeq (· ++ vs.toArray)) }
  refine wpAny_bind (wpAny_load (get?_update_seq (Heap.get?_push_size _ rfl) _) ?_)
  show wpAny _ _ (pure ((#[] : Array Value) ++ vs.toArray).toList) Q E _
  rw [show ((#[] : Array Value) ++ vs.toArray).toList = vs by simp]
  exact wpAny_pure h
theorem sorted_ordT {l : Addr} {vs : List Value} {ltv : Value → Value → Bool} {Q : Value → Shared → Prop} (O : SrtO.Swo ltv) (hl : s.heap.IsTuple l vs.toArray) (hz : vs.length ≤ sizeLine)
    (hS : 2 ≤ vs.length → ∀ (h₁ : Heap) (a : Addr), h₁.get? a = some (seqObj "list" vs.toArray 0) → (∀ b o, s.heap.get? b = some o → b ≠ a ∧ h₁.get? b = some o) → SrtO.SortableO prog w A.in1.in1 { s with heap := h₁ } a vs ltv)
    (h : ∀ out : List Value, SrtO.Srtd ltv out → SrtO.Stb ltv out vs → Q (.ref (s.heap.objs.size + 1)) { s with heap := sortedAll s.heap vs out.toArray }) :
    wpAny (model prog w) A (call (.builtin "sorted") [.ref l]) Q E s := by
  refine Calls.call_function_entry kind_sorted plain_sorted entry_sorted (args_sorted1 _) ?_
  unfold Builtin.«sorted»
  refine wpAny_bind (m := checkCount "sorted" 1 1 _) (wpAny_pure ?_)
  refine wpAny_bind (collect_tup hl ?_ hz)
  refine wpAny_bind (wpAny_newList ?_ hz)
  have hsz : ((s.heap.push (seqObj "list" #[] 0)).update s.heap.objs.size (Obj.mapSeq (· ++ vs.toArray))).objs.size = s.heap.objs.size + 1 := by
    rw [Heap.size_update, size_push']
  have hoL : (((s.heap.push (seqObj "list" #[] 0)).update s.heap.objs.size (Obj.mapSeq (· ++ vs.toArray))).push (seqObj "list" vs.toArray 0)).get? (s.heap.objs.size + 1) = some (seqObj "list" vs.toArray 0) := by
    rw [← hsz]; exact Heap.get?_push_size _ rfl
  have keep : ∀ b o, s.heap.get? b = some o → b ≠ s.heap.objs.size + 1 ∧ (((s.heap.push (seqObj "list" #[] 0)).update s.heap.objs.size (Obj.mapSeq (· ++ vs.toArray))).push (seqObj "list" vs.toArray 0)).get? b = some o := fun b o q => by
    have hlt : b < s.heap.objs.size := Heap.lt_size q
    refine ⟨Nat.ne_of_lt (Nat.lt_succ_of_lt hlt), Heap.get?_push_of_some _ ?_⟩
    rw [Heap.get?_update_ne _ _ _ _ (Nat.ne_of_lt hlt)]
    exact Heap.get?_push_of_some _ q
  show wpAny _ _ _ _ _ { s with heap := ((s.heap.push (seqObj "list" #[] 0)).update s.heap.objs.size (Obj.mapSeq (· ++ vs.toArray))).push (seqObj "list" vs.toArray 0) }
  rw [hsz]
  refine wpAny_bind (wpAny_holding (wpAny_call_entry slot_list_sort ⟨_, hoL, rfl⟩ entry_list_sort (SrtO.list_sort_ord O hoL hz (fun h2 => hS h2 _ _ hoL keep) fun out hs hb => ⟨_, rfl, ?_⟩) (args_list_sort _)))
  exact wpAny_pure ⟨_, rfl, h out hs hb⟩
end
section
variable {X : Cx} {W : WX} {a : Expr} {oa : Opd} {pos p : Pos}
def rSortedT (K : PySem.W.Frag) : List V → Hp → VK → Prop := fun vs H Q => ∃ (a : Addr) (ns : List Int), vs = [V.ref a] ∧ SqT K H a (ns.map V.int) ∧
  ∀ (ns' : List Int) (p : Addr), ns'.Perm ns → ns'.Pairwise (· ≤ ·) → H p = none → Q (.ref p) (upd H p (.lst (ns'.map V.int)))
theorem cr_sortedT : CallR X (.builtin "sorted") (rSortedT X.K) := by
  intro pins s σ H vs us Q I r h
  obtain ⟨a, ns, rfl, hs, q⟩ := h
  obtain ⟨its, rv, hl, hz⟩ := I.tuple hs
  rw [Vals.ref1 r]
  have hi := rv.ints
  refine sorted_ordT SrtO.swo_int hl (by rw [← rv.length]; exact hz) (fun h2 h₁ a' _ _ => SrtO.ints_sortable hi h2) fun out h1 h2 => ?_
  obtain ⟨k1, k2, k3⟩ := SrtO.ints_out hi h1 h2
  obtain ⟨ep, he'⟩ := PyProof.Rows.sortedAll_at s.heap its out.toArray
  have hlen : ((out.map SrtO.iv).map V.int).length ≤ sizeLine := by
    rw [List.length_map, k2.length_eq]
    rw [List.length_map] at hz
    exact hz
  exact ⟨.ref _, upd H (s.heap.objs.size + 1) (.lst ((out.map SrtO.iv).map V.int)), I.laid (t' := s.toks) (fun _ _ => PyProof.Rows.sortedAll_old) (Nat.le_succ _) ⟨hlen, out, ep, vals_of_ints k1, he'⟩, rfl, q _ _ k2 k3 (I.hok.fresh (Nat.le_succ _))⟩
def oSorted : D → Option Ob
  | .lst ds => (intsD ds).map fun ns => .lst ((sortI ns).map .int)
  | .tup ds => (intsD ds).map fun ns => .lst ((sortI ns).map .int)
  | _ => none
@[simp] theorem oSorted_l (ns : List Int) : oSorted (.lst (ns.map .int)) = some (.lst ((sortI ns).map .int)) := by simp [oSorted]
@[simp] theorem oSorted_t (ns : List Int) : oSorted (.tup (ns.map .int)) = some (.lst ((sortI ns).map .int)) := by simp [oSorted]
theorem repL_ints {K : PySem.W.Frag} {I : List Addr} {F : Hp} : ∀ ns : List Int, RepL K I F (ns.map V.int) (ns.map D.int)
  | [] => .nil
  | n :: ns => .cons (.int n) (repL_ints ns)
theorem sf_sorted (hg : Gl X "sorted") (hm : X.mg "sorted" = none) (ha : SO X W a oa) (hst : starEach [a] X.env = (false, eval a X.env) :: starEach [] X.env := by rfl) : SF X W (.Call (.Name "sorted" p) [a] [] pos) (f1 oSorted oa) := by
  refine sf_c1 (fun h => pe_callB (CallR.or cr_sortedI cr_sortedT) hg hm (by decide +kernel) h (he := hst)) ?_ ha hst
  intro g I F s σ H Q x dx d sm rx e q
  cases dx with
  | tup ds =>
    cases hi : intsD ds with
    | none => simp only [oSorted, hi] at e; cases e
    | some ns =>
      simp only [oSorted, hi] at e
      cases e
      cases intsD_map hi
      obtain ⟨p, vs, rfl, h1, r1, f1⟩ := rx.tup sm.sub
      cases r1.ints
      refine .inr ⟨p, ns, rfl, h1, fun ns' p hp1 hp2 hp => ?_⟩
      rw [sortI_of hp1 hp2]
      exact q _ _ _ _ _ sm hp (.lst (repL_ints _))
  | lst ds =>
    cases hi : intsD ds with
    | none => simp only [oSorted, hi] at e; cases e
    | some ns =>
      simp only [oSorted, hi] at e
      cases e
      cases intsD_map hi
      obtain ⟨p, vs, rfl, h1, r1⟩ := rx.lst sm.sub
      cases r1.ints
      refine .inl ⟨p, ns, rfl, h1, fun ns' p hp1 hp2 hp => ?_⟩
      rw [sortI_of hp1 hp2]
      exact q _ _ _ _ _ sm hp (.lst (repL_ints _))
  | str z => cases e
  | non => cases e
  | bl _ => cases e
  | int _ => cases e
  | dct _ => cases e
  | obj _ => cases e
  | nm _ => cases e
end
end Fw
namespace Fw
open PySem L2
/-! ### two names, each with a new object of its own -/
def kOwn2b (i j : Nat) (b : Ob) : Ob → M Fl := fun b' s => if i < s.env.length ∧ j < s.env.length then .ok .nx { s with env := (s.env.set i (.own b)).set j (.own b') } else .stuck
def kOwn2a (i j : Nat) (h : M Ob) : Ob → M Fl := fun b s => (h s).bnd (kOwn2b i j b)
def sOwn2 (i j : Nat) (f h : M Ob) : M Fl := fun s => (f s).bnd (kOwn2a i j h)
@[simp] theorem r_sOwn2 (i j : Nat) (f h : M Ob) (s : S) : sOwn2 i j f h s = (f s).bnd (kOwn2a i j h) := rfl
@[simp] theorem r_kOwn2a (i j : Nat) (h : M Ob) (b : Ob) (s : S) : kOwn2a i j h b s = (h s).bnd (kOwn2b i j b) := rfl
@[simp] theorem r_kOwn2b (i j : Nat) (b b' : Ob) (e : List Slot) (st : List Ob) : kOwn2b i j b b' ⟨e, st⟩ = if i < e.length ∧ j < e.length then .ok .nx ⟨(e.set i (.own b)).set j (.own b'), st⟩ else .stuck := rfl
section
variable {X : Cx} {W : WX} {a b : Expr} {pos : Pos}
theorem own2_core {i j : Nat} {f h : M Ob} {ta tb : TE} {g : Gh} {I : List Addr} {F H : Hp} {s : S} {σ : St} {E : Ends} {R : List V → Hp → Prop} (a2 : ∀ g I F s σ H Q, Sim X.K g I F s σ H → PoF X W g σ (f s) Q → ta σ H Q) (b2 : ∀ g I F s σ H Q, Sim X.K g I F s σ H → PoF X W g σ (h s) Q → tb σ H Q)
    (x : Sim X.K g I F s σ H) (hq : PoS X W g (sOwn2 i j f h s) E)
    (hR : ∀ p p2 H2, (∀ τ H3, τ = (σ.set i (some (.ref p))).set j (some (.ref p2)) → (H3 = H2 ∨ ∃ q o, H2 q = none ∧ H3 = upd H2 q o) → E.nx τ H3) → R [.ref p, .ref p2] H2) :
    ta σ H fun v H1 => tb σ H1 fun w H2 => R [v, w] H2 := by
  refine a2 g I F s σ H _ x ?_
  rw [r_sOwn2] at hq
  cases e1 : f s with
  | stuck => rw [e1] at hq; exact hq
  | ex c s1 => rw [e1] at hq; exact fun I F H u x hu => hq I F _ H u x hu
  | ok ob s1 =>
    rw [e1, bnd_ok, r_kOwn2a] at hq
    intro I1 F1 H1 p h1 x1 hp1 r1
    have bp : (g.at I1 F1).B p = none := by
      cases eb : g.B p with
      | none => exact eb
      | some u => rw [(x1.base p u eb).2] at hp1; cases hp1
    refine b2 ((g.at I1 F1).with_ p h1) I1 F1 s1 σ (upd H1 p h1) _ (x1.here.guard hp1) ?_
    cases e2 : h s1 with
    | stuck => rw [e2] at hq; exact hq
    | ex c s2 =>
      rw [e2] at hq
      intro I2 F2 H2 u x2 hu
      obtain ⟨H0, k1, k2, k3⟩ := x2.unguard bp
      rw [k2]
      exact hq I2 F2 _ _ u ((x1.back k3).fresh k1) hu
    | ok ob2 s2 =>
      rw [e2, bnd_ok] at hq
      intro I2 F2 H2 p2 h2 x2 hp2 r2
      obtain ⟨H0, k1, k2, k3⟩ := x2.unguard bp
      obtain ⟨en, sst⟩ := s2
      rw [r_kOwn2b] at hq
      by_cases hl : i < en.length ∧ j < en.length
      · rw [if_pos hl] at hq
        refine hR p p2 _ fun τ H3 hτ hH => ?_
        have y1 := (x1.back k3).setOwn (i := i) hl.1 k1 (r1.mono k3.mono k3.pre)
        rw [← k2] at y1
        have y2 := y1.setOwn (i := j) (by show j < (en.set i _).length; rw [List.length_set]; exact hl.2) hp2 r2
        rcases hH with rfl | ⟨q, o, hq0, rfl⟩
        · rw [hτ]
          exact hq _ _ _ _ y2
        · rw [hτ]
          exact hq _ _ _ _ (y2.fresh hq0)
      · rw [if_neg hl] at hq
        exact hq.elim
theorem ss_own2 {i j : Nat} {x y : Str} {f h : M Ob} {px py pt : Pos} {kt k2 : Nat} {pt2 : Pos} (hc : X.calm = true) (hi : PG X (.Name x px) (gName i)) (hj : PG X (.Name y py) (gName j)) (ha : SF X W a f) (hb : SF X W b h)
    (h1 : starEach [a, b] X.env = (false, eval a X.env) :: starEach [b] X.env := by rfl) (h2 : starEach [b] X.env = (false, eval b X.env) :: starEach [] X.env := by rfl)
    (hs : swapsWithSole [.Tuple [.Name x px, .Name y py] kt pt] (.Tuple [a, b] k2 pt2) pos.line X.env = pure false := by rfl) (hw : swappedStores [.Tuple [.Name x px, .Name y py] kt pt] (.Tuple [a, b] k2 pt2) X.env = pure none := by rfl) :
    SS X W (.Assign [.Tuple [.Name x px, .Name y py] kt pt] (.Tuple [a, b] k2 pt2) pos) (sOwn2 i j f h) := by
  obtain ⟨ta, a1, a2⟩ := ha
  obtain ⟨tb, b1, b2⟩ := hb
  refine ⟨_, ps_asg (pe_tup (pa_cons a1 (pa_cons b1 pa_nil h2) h1)) (pg_tup hc (pgs_cons hi (pgs_cons hj pgs_nil))) hs hw, fun g I F s σ H E x hq => ?_⟩
  refine own2_core (R := fun vs H2 => vs.length ≤ sizeLine ∧ ∀ q, H2 q = none → gTup X.K 2 (gCons (gName i) (gCons (gName j) gNil)) (.ref q) σ (upd H2 q (.tup vs)) E.nx) a2 b2 x hq fun p p2 H2 hn => ⟨by rw [sizeLine_n]; simp, fun q hq0 => ?_⟩
  exact ⟨q, _, rfl, SqT.of upd_same, rfl, _, _, rfl, _, _, rfl, rfl, hn _ _ rfl (.inr ⟨q, _, hq0, rfl⟩)⟩
theorem ss_own2p {i j : Nat} {x y : Str} {f h : M Ob} {px py pt : Pos} {kt k2 : Nat} {pt2 : Pos} (hc : X.calm = true) (hN : X.N.Nodup) (hi : X.N[i]? = some x) (hj : X.N[j]? = some y) (hij : i ≠ j)
    (hx : X.env.scope.names.lookup x = some .local) (hy : X.env.scope.names.lookup y = some .local) (ha : SF X W a f) (hb : SF X W b h)
    (h1 : starEach [a, b] X.env = (false, eval a X.env) :: starEach [b] X.env := by rfl) (h2 : starEach [b] X.env = (false, eval b X.env) :: starEach [] X.env := by rfl)
    (hw : swappedStores [.Tuple [.Name x px, .Name y py] kt pt] (.Tuple [a, b] k2 pt2) X.env = pure (some [x, y]) := by rfl)
    (hs : swapsWithSole [.Tuple [.Name x px, .Name y py] kt pt] (.Tuple [a, b] k2 pt2) pos.line X.env = pure false := by rfl) :
    SS X W (.Assign [.Tuple [.Name x px, .Name y py] kt pt] (.Tuple [a, b] k2 pt2) pos) (sOwn2 i j f h) := by
  obtain ⟨ta, a1, a2⟩ := ha
  obtain ⟨tb, b1, b2⟩ := hb
  refine ⟨_, ps_par hc hN hi hj hij hx hy (pa_cons a1 (pa_cons b1 pa_nil h2) h1) hw hs, fun g I F s σ H E x hq => ?_⟩
  exact own2_core (R := fun vs H2 => ∃ v w, vs = [v, w] ∧ E.nx ((σ.set i (some v)).set j (some w)) H2) a2 b2 x hq fun p p2 H2 hn => ⟨_, _, rfl, hn _ _ rfl (.inl rfl)⟩
end
/-! ### l[a:b] as a new list, run -/
def kFSl4 (l h : Option Int) : Option D → M Ob := fun o s => match o with
  | some (.lst ds) => .ok (.lst (cutD ds l h)) s
  | _ => .stuck
def kFSl3 (x : Rd1) (l : Option Int) : Option Int → M Ob := fun h s => kFSl4 l h (x.rd s) s
def kFSl2 (x : Rd1) (hi : Option Opd) : Option Int → M Ob := fun l s => (poEv hi s).bnd (kFSl3 x l)
def kFSl1 (lo hi : Option Opd) : Rd1 → M Ob := fun x s => (poEv lo s).bnd (kFSl2 x hi)
@[simp] theorem r_fSl (a : Opd) (lo hi : Option Opd) (s : S) : fSl a lo hi s = (a.ev s).bnd (kFSl1 lo hi) := by
  unfold fSl
  congr 1
  funext x s
  unfold kFSl1
  congr 1
  funext l s
  unfold kFSl2
  congr 1
  funext h s
  unfold kFSl3 rd1
  cases x.rd s with
  | none => rfl
  | some d => cases d <;> rfl
@[simp] theorem r_kFSl1 (lo hi : Option Opd) (x : Rd1) (s : S) : kFSl1 lo hi x s = (poEv lo s).bnd (kFSl2 x hi) := rfl
@[simp] theorem r_kFSl2 (x : Rd1) (hi : Option Opd) (l : Option Int) (s : S) : kFSl2 x hi l s = (poEv hi s).bnd (kFSl3 x l) := rfl
@[simp] theorem r_kFSl3 (x : Rd1) (l h : Option Int) (s : S) : kFSl3 x l h s = kFSl4 l h (x.rd s) s := rfl
@[simp] theorem r_kFSl4 (l h : Option Int) (ds : List D) (s : S) : kFSl4 l h (some (.lst ds)) s = .ok (.lst (cutD ds l h)) s := rfl
end Fw
namespace Fw
open PySem L2
/-! ### x[i] = v, x a name's list -/
def kSet (j y : D) : Ob → Option (D × Ob)
  | .lst xs => (match j with
    | .int k => (ixN xs.length k).map fun q => (.non, .lst (xs.set q y))
    | _ => none)
  | _ => none
def kSt3 : D → M Fl := fun _ s => .ok .nx s
def kSt2 (i : Nat) (y : D) : D → M Fl := fun j s => (chg i (kSet j y) s).bnd kSt3
def kSt1 (i : Nat) (fi : M D) : D → M Fl := fun y s => if isLst (cont s i) = true then (fi s).bnd (kSt2 i y) else .stuck
def sSt (i : Nat) (fv fi : M D) : M Fl := fun s => (fv s).bnd (kSt1 i fi)
@[simp] theorem r_sSt (i : Nat) (fv fi : M D) (s : S) : sSt i fv fi s = (fv s).bnd (kSt1 i fi) := rfl
@[simp] theorem r_kSt1 (i : Nat) (fi : M D) (y : D) (s : S) : kSt1 i fi y s = if isLst (cont s i) = true then (fi s).bnd (kSt2 i y) else .stuck := rfl
@[simp] theorem r_kSt2 (i : Nat) (y j : D) (e : List Slot) (st : List Ob) : kSt2 i y j ⟨e, st⟩ = (chgK i (kSet j y) e[i]? ⟨e, st⟩).bnd kSt3 := rfl
@[simp] theorem r_kSt3 (d : D) (s : S) : kSt3 d s = .ok .nx s := rfl
@[simp] theorem r_kSet (xs : List D) (k : Int) (y : D) : kSet (.int k) y (.lst xs) = (ixN xs.length k).map fun q => (.non, .lst (xs.set q y)) := rfl
theorem RepL.set {K : PySem.W.Frag} {I : List Addr} {F : Hp} {v : V} {y : D} (r : Rep K I F v y) : ∀ {vs : List V} {ds : List D} (q : Nat), RepL K I F vs ds → RepL K I F (vs.set q v) (ds.set q y)
  | _, _, _, .nil => .nil
  | _, _, 0, .cons _ b => .cons r b
  | _, _, q + 1, .cons a b => .cons a (RepL.set r q b)
section
variable {X : Cx} {W : WX} {e v : Expr} {pos : Pos}
theorem ss_store {x : Str} {i : Nat} {npos spos : Pos} {fv fi : M D} (hn : PE X (.Name x npos) (tVar i)) (hv : SE X W v fv) (hi : SE X W e fi)
    (ha : ∀ u, assign (.Subscript (.Name x npos) e spos) X.env u = (do
      let ov ← holding [u] (eval (.Name x npos) X.env)
      let iv ← holding [u, ov] (eval e X.env)
      standAt spos
      holding [u, ov, iv] (setItem ov iv u)
      release [u, ov, iv] []) := by intro _; rfl)
    (hs : swapsWithSole [.Subscript (.Name x npos) e spos] v pos.line X.env = pure false := by rfl) (hw : swappedStores [.Subscript (.Name x npos) e spos] v X.env = pure none := by rfl)
    (h1 : (assignEach [.Subscript (.Name x npos) e spos] X.env).map (·.2) = [assign (.Subscript (.Name x npos) e spos) X.env] := by rfl) :
    SS X W (.Assign [.Subscript (.Name x npos) e spos] v pos) (sSt i fv fi) := by
  obtain ⟨tv, v1, v2⟩ := hv
  obtain ⟨ti, i1, i2⟩ := hi
  refine ⟨_, ps_asg v1 (pg_sub hn i1 set_list ha) hs hw h1, fun g I F s σ H E x hq => v2 g I F s σ H _ x ?_⟩
  rw [r_sSt] at hq
  cases e1 : fv s with
  | stuck => rw [e1] at hq; exact hq
  | ex c s1 => rw [e1] at hq; exact fun I F H u x hu => hq I F _ H u x hu
  | ok y s1 =>
    rw [e1, bnd_ok, r_kSt1] at hq
    intro vv I1 F1 H1 x1 r1
    by_cases hl : isLst (cont s1 i) = true
    · rw [if_pos hl] at hq
      cases ec : cont s1 i with
      | none => rw [ec] at hl; cases hl
      | some d0 =>
        cases d0 with
        | lst ds0 =>
          obtain ⟨a0, vs0, h0, t0⟩ := cont_tyL x1 ec
          refine ⟨_, h0, i2 (g.at I1 F1) I1 F1 s1 σ H1 _ x1.here ?_⟩
          cases e2 : fi s1 with
          | stuck => rw [e2] at hq; exact hq
          | ex c s2 => rw [e2] at hq; exact fun I2 F2 H2 u x2 hu => hq _ _ _ _ _ (x1.back x2) hu
          | ok j s2 =>
            rw [e2, bnd_ok] at hq
            intro kv I2 F2 H2 x2 r2
            have x2' := x1.back x2
            have r1' : Rep X.K I2 F2 vv y := Rep.mono x2.mono x2.pre y vv r1
            refine chg_ok (Po := fun o => PoS X W g (o.bnd kSt3) E) x2' h0 (fun q => q) hq fun a o b d b' ea ho ro ek nx => ?_
            cases ea
            unfold kSet at ek
            split at ek
            · rename_i xs
              split at ek
              · rename_i k
                cases hk : ixN xs.length k with
                | none => rw [hk] at ek; cases ek
                | some q =>
                  rw [hk] at ek
                  cases ek
                  cases r2
                  cases ro with
                  | @lst ws _ rl =>
                    obtain ⟨s', q', x'⟩ := nx _ (.lst (rl.set r1' q))
                    exact ⟨a0, ws, k, q, rfl, rfl, ho, by rw [rl.length]; exact hk, q' _ _ _ _ x'⟩
              · cases ek
            · cases ek
        | _ => rw [ec] at hl; cases hl
    · rw [if_neg hl] at hq
      exact hq.elim
/-- x.pop(k) -/
def k1Pop1 : List D → Ob → Option (D × Ob)
  | [.int k], .lst xs => if -1000000 < k ∧ k < 1000000 then (match ixN xs.length k with
    | some q => (xs[q]?).map fun y => (y, .lst (xs.eraseIdx q))
    | none => none) else none
  | _, _ => none
@[simp] theorem r_k1Pop1_0 (x : D) (xs : List D) : k1Pop1 [.int 0] (.lst (x :: xs)) = some (x, .lst xs) := by
  unfold k1Pop1
  simp only
  rw [if_pos ⟨by decide, by decide⟩]
  have : ixN (x :: xs).length 0 = some 0 := by
    unfold ixN
    rw [if_pos (by decide), if_pos (by simp only [List.length_cons]; omega)]
    rfl
  rw [this]
  rfl
theorem RepL.erase {K : PySem.W.Frag} {I : List Addr} {F : Hp} : ∀ {vs : List V} {ds : List D} (q : Nat), RepL K I F vs ds → RepL K I F (vs.eraseIdx q) (ds.eraseIdx q)
  | _, _, _, .nil => .nil
  | _, _, 0, .cons _ b => b
  | _, _, q + 1, .cons a b => .cons a (RepL.erase q b)
theorem se_pop1 {x : Str} {i : Nat} {apos cpos npos : Pos} {f : M (List D)} (hv : PE X (.Name x npos) (tVar i)) (ha : SA X W [e] f)
    (hbase : attributeBase (.Name x npos) "pop" X.env (eval (.Name x npos) X.env) = eval (.Name x npos) X.env := by rfl)
    (hfew : ((backTo cpos (starEach [e] X.env)).all (fun x => !x.1) && (backToKw cpos (keywordEach [] X.env)).all (fun x => x.1.isSome) && decide (([e] : List Expr).length + ([] : List Keyword).length + (if ([] : List Keyword).isEmpty then 0 else 1) < 30)) = true := by rfl)
    (hline : (apos.endLine == cpos.line) = true := by rfl) (hs : starEach [e] X.env = (false, eval e X.env) :: starEach [] X.env := by rfl) (hpl : (backTo cpos (starEach [] X.env)).any (·.1) = false := by rfl) :
    SE X W (.Call (.Attribute (.Name x npos) "pop" apos) [e] [] cpos) (eMeth i f k1Pop1) := by
  refine se_meth hv (fun h => pe_bm PySem.F.plainAttrs_list PySem.F.slot_list_pop PySem.F.type_list_pop mt_popAt hv h hbase hfew hline hs hpl) ha ?_
  intro g I F s σ H Q a o b d b' vs ds x r ho ro ek nx
  unfold k1Pop1 at ek
  split at ek
  · rename_i k xs
    by_cases hr : -1000000 < k ∧ k < 1000000
    case neg => rw [if_neg hr] at ek; cases ek
    rw [if_pos hr] at ek
    cases hk : ixN xs.length k with
    | none => rw [hk] at ek; cases ek
    | some q =>
      simp only [hk] at ek
      cases hy : xs[q]? with
      | none => rw [hy] at ek; cases ek
      | some y =>
        rw [hy] at ek
        cases ek
        cases ro with
        | @lst ws _ rl =>
          cases r with
          | cons ry rn =>
            cases rn
            cases ry
            obtain ⟨w, hw, rw_⟩ := rl.get hy
            exact ⟨a, ws, k, q, w, rfl, rfl, ho, by omega, by omega, by rw [rl.length]; exact (ixN_seq hk).1, hw, nx _ _ (.lst (rl.erase q)) rw_⟩
  · cases ek
end
end Fw
namespace Fw
open PySem PySem.Spec L2
/-- what is known of an own class of errors -/
structure ExcK (K : PySem.W.Frag) (mg : Str → Option Value) (x : Str) : Prop where
  g : mg x = some (.ref (He.ga K x))
  q : PySem.W.excIn K (He.ga K x) He.veBase "ValueError.__new__" = true
  kp : PySem.W.keepIn K (.ref (He.ga K x)) = true
  sb : PySem.W.subIn K (.ref (He.ga K x)) (.type "BaseException") = some true
  ty : PySem.W.typeIn K (.ref (He.ga K x)) = some (.type "type")
section
variable {X : Cx} {W : WX}
theorem pmk_own0 {C : Addr} {bmB : List Value} {B newId initId : String} {x : Str} {p pos : Pos} (F : ExcBaseFacts B newId initId bmB) (q : PySem.W.excIn X.K C bmB newId = true) (gC : X.mg x = some (.ref C)) (kC : PySem.W.keepIn X.K (.ref C) = true) (r : Raises X (.ref C)) (hg : Gl X x)
    (hdb : (x == ("__debug__" : Str)) = false := by decide) : PMk X (.Call (.Name x p) [] [] pos) (fun _ H Q => Q (.ref C) none H) := by
  intro pins s σ H Q I h
  refine wpAny_Call_Name_kw (ld_glob I hg gC ?_ hdb)
  refine PySem.W.callWith_K0 I.kIn kC ?_
  obtain ⟨bm, N, nm, qn, bs, hdct, sn, sub, ab, col, dd, k0, k1, k2, k3, k5, mN, hC, hN, hni, T⟩ := exc_obj I.kIn q
  refine wpAny_call_exc_subT F T hC hN hni (fun h' e hm => ?_) (Nat.zero_le _)
  exact mk_of I hm r h (I.hok.gone hm.new)
/-- raise X() -/
def sRaise (c : Str) : M Fl := fun s => .ex c s
theorem ss_raise {x : Str} {p pos pos' : Pos} (hc : X.calm = true) (tk : Takes X W) (hk : ExcK X.K X.mg x) (hg : Gl X x) (hdb : (x == ("__debug__" : Str)) = false := by decide) :
    SS X W (.Raise (some (.Call (.Name x p) [] [] pos)) none pos') (sRaise x) := by
  exact ⟨_, ps_raise hc tk (pmk_own0 PySem.F.excBase_ValueError hk.q hk.g hk.kp (raises_own hk.sb hk.ty) hg hdb), fun g I F s σ H E x hq => hq I F σ H _ x hk.g⟩
/-! ### try .. except -/
def tcS (X : Cx) (W : WX) (f : M Fl) : TS := fun E σ H => ∃ g I F s, Sim X.K g I F s σ H ∧ PoS X W g (f s) E
theorem SB.can {st : List Stmt} {f : M Fl} (h : SB X W st f) : PSs X st (tcS X W f) := by
  obtain ⟨t, a1, a2⟩ := h
  exact ⟨fun pins s σ H D I ⟨g, J, F, s', x, q⟩ => a1.run pins s σ H D I (a2 g J F s' σ H D x q)⟩
/-- the clauses: each with the names of the errors that it takes -/
def hdl : List (List Str × M Fl) → Str → M Fl
  | [], c => fun s => .ex c s
  | (cs, h) :: r, c => if cs.contains c = true then (fun s => match h s with
      | .ex _ _ => .stuck
      | o => o) else hdl r c
def sTry (known : List Str) (f : M Fl) (hs : List (List Str × M Fl)) : M Fl := fun s => match f s with
  | .ex c s1 => if known.contains c = true then hdl hs c s1 else .stuck
  | o => o
/-- the clauses hold -/
inductive HdsS (X : Cx) (known : List Str) : List ExceptHandler → List (List Str × M Fl) → List (Value × (Addr → Value → Option Addr → TS)) → Prop
  | nil : HdsS X known [] [] []
  | cons {x : Str} {c : Value} {b₀ : Stmt} {suite : List Stmt} {np pos' : Pos} {hds : List ExceptHandler} {cs : List Str} {h : M Fl} {hs : List (List Str × M Fl)} {l : List (Value × (Addr → Value → Option Addr → TS))} (hc : Names X x c)
      (hex : ∀ k u, k ∈ known → X.mg k = some u → PySem.W.exmOne X.K u c = some (cs.contains k))
      (hsu : ∀ (a : Addr) (pn : List (Addr × Obj)), SB (X.suite a pn) W0 (b₀ :: suite) h) (r : HdsS X known hds hs l) :
      HdsS X known (.ExceptHandler (some (.Name x np)) none (b₀ :: suite) pos' :: hds) ((cs, h) :: hs) ((c, fun _ _ _ => tcS X W0 h) :: l)
theorem HdsS.ok {known : List Str} {hds : List ExceptHandler} {hs : List (List Str × M Fl)} {l : List (Value × (Addr → Value → Option Addr → TS))} (h : HdsS X known hds hs l) : HdsOk X hds l := by
  induction h with
  | nil => exact .nil
  | cons hc hex hsu r ih => exact .cons hc (fun a oe cls d pn _ _ => (hsu a ((a, oe) :: pn)).can) ih
theorem HdsS.go {known : List Str} {hds : List ExceptHandler} {hs : List (List Str × M Fl)} {l : List (Value × (Addr → Value → Option Addr → TS))} (h : HdsS X known hds hs l) {g : Gh} {c : Str} (hk : c ∈ known) {s1 : S} {E : Ends} (hq : PoS X W g (hdl hs c s1) E)
    {I : List Addr} {F H : Hp} {σ : St} {u : Value} (x : Sim X.K g I F s1 σ H) (hu : X.mg c = some u) : wMany X.K W E l u none σ H := by
  induction h with
  | nil => exact hq I F σ H u x hu
  | @cons xx cc b₀ suite np pos' hds cs h hs l hc hex hsu r ih =>
    refine ⟨cs.contains c, hex c u hk hu, fun hb a _ => ?_, fun hb => ?_⟩
    · rw [hdl, if_pos hb] at hq
      refine ⟨g, I, F, s1, x, ?_⟩
      cases e : h s1 with
      | stuck => rw [e] at hq; exact hq
      | ex c' s2 => rw [e] at hq; exact hq.elim
      | ok fl s2 =>
        rw [e] at hq
        cases fl with
        | nx => exact hq
        | rt d => exact hq
        | bk => exact hq
        | ct => exact hq
    · rw [hdl, if_neg (by rw [hb]; exact Bool.false_ne_true)] at hq
      exact ih hq
theorem ss_try {known : List Str} {body : List Stmt} {h₀ : ExceptHandler} {hds : List ExceptHandler} {f : M Fl} {hs : List (List Str × M Fl)} {l : List (Value × (Addr → Value → Option Addr → TS))} {pos : Pos} (hst : X.stack = X.env :: X.outer) (hf : X.env.frame = some X.env.locals) (tk : Takes X W)
    (hb : ∀ (W' : WX) (pn : List (Addr × Obj)) (xe : Value → Shared → Prop), Takes (X.tr pn xe) W' → PassesOwn (model X.prog X.w) X.A X.env xe → SB (X.tr pn xe) W' body f)
    (hh : HdsS X known (h₀ :: hds) hs l) : SS X W (.Try body (h₀ :: hds) [] [] pos) (sTry known f hs) := by
  refine ⟨_, ps_try_many (tb := fun W' => tcS X W' f) hst hf tk (fun W' pn xe t p => (hb W' pn xe t p).can) hh.ok, fun g I F s σ H E x hq => ⟨g, I, F, s, x, ?_⟩⟩
  unfold sTry at hq
  cases e : f s with
  | stuck => rw [e] at hq; exact hq
  | ex c s1 =>
    rw [e] at hq
    simp only at hq
    by_cases hk : known.contains c = true
    · rw [if_pos hk] at hq
      intro I1 F1 σ1 H1 u x1 hu
      exact hh.go (by simpa using hk) hq x1 hu
    · rw [if_neg hk] at hq
      exact hq.elim
  | ok fl s1 =>
    rw [e] at hq
    cases fl with
    | nx => exact hq
    | rt d => exact hq
    | bk => exact hq
    | ct => exact hq
end
/-! ### max(l), min(l) of ints -/
def maxL : Int → List Int → Int
  | a, [] => a
  | a, x :: xs => maxL (if x > a then x else a) xs
def minL : Int → List Int → Int
  | a, [] => a
  | a, x :: xs => minL (if x < a then x else a) xs
theorem maxL_mem : ∀ (xs : List Int) (a : Int), maxL a xs ∈ a :: xs ∧ ∀ y ∈ a :: xs, y ≤ maxL a xs
  | [], a => ⟨List.mem_cons_self, fun y hy => by rw [List.mem_singleton] at hy; rw [hy]; exact Int.le_refl _⟩
  | x :: xs, a => by
    obtain ⟨h1, h2⟩ := maxL_mem xs (if x > a then x else a)
    have h3 := h2 _ List.mem_cons_self
    have h4 : a ≤ (if x > a then x else a) ∧ x ≤ (if x > a then x else a) := by split <;> omega
    unfold maxL
    refine ⟨?_, fun y hy => ?_⟩
    · rcases List.mem_cons.mp h1 with z | z
      · rw [z]
        split <;> simp
      · exact List.mem_cons_of_mem _ (List.mem_cons_of_mem _ z)
    · rcases List.mem_cons.mp hy with rfl | hy
      · exact Int.le_trans h4.1 h3
      · rcases List.mem_cons.mp hy with rfl | hy
        · exact Int.le_trans h4.2 h3
        · exact h2 y (List.mem_cons_of_mem _ hy)
theorem minL_mem : ∀ (xs : List Int) (a : Int), minL a xs ∈ a :: xs ∧ ∀ y ∈ a :: xs, minL a xs ≤ y
  | [], a => ⟨List.mem_cons_self, fun y hy => by rw [List.mem_singleton] at hy; rw [hy]; exact Int.le_refl _⟩
  | x :: xs, a => by
    obtain ⟨h1, h2⟩ := minL_mem xs (if x < a then x else a)
    have h3 := h2 _ List.mem_cons_self
    have h4 : (if x < a then x else a) ≤ a ∧ (if x < a then x else a) ≤ x := by split <;> omega
    unfold minL
    refine ⟨?_, fun y hy => ?_⟩
    · rcases List.mem_cons.mp h1 with z | z
      · rw [z]
        split <;> simp
      · exact List.mem_cons_of_mem _ (List.mem_cons_of_mem _ z)
    · rcases List.mem_cons.mp hy with rfl | hy
      · exact Int.le_trans h3 h4.1
      · rcases List.mem_cons.mp hy with rfl | hy
        · exact Int.le_trans h3 h4.2
        · exact h2 y (List.mem_cons_of_mem _ hy)
def dMaxL : D → Option D
  | .lst ds => (match intsD ds with
    | some (n :: ns) => some (.int (maxL n ns))
    | _ => none)
  | _ => none
def dMinL : D → Option D
  | .lst ds => (match intsD ds with
    | some (n :: ns) => some (.int (minL n ns))
    | _ => none)
  | _ => none
@[simp] theorem dMaxL_l (n : Int) (ns : List Int) : dMaxL (.lst ((n :: ns).map .int)) = some (.int (maxL n ns)) := by
  show (match intsD ((n :: ns).map D.int) with
    | some (n :: ns) => some (D.int (maxL n ns))
    | _ => none) = _
  rw [intsD_of]
@[simp] theorem dMinL_l (n : Int) (ns : List Int) : dMinL (.lst ((n :: ns).map .int)) = some (.int (minL n ns)) := by
  show (match intsD ((n :: ns).map D.int) with
    | some (n :: ns) => some (D.int (minL n ns))
    | _ => none) = _
  rw [intsD_of]
section
variable {X : Cx} {W : WX} {a : Expr} {oa : Opd} {p pos : Pos}
theorem se_max1 (hc : X.calm = true) (hg : Gl X "max") (hm : X.mg "max" = none) (ha : SO X W a oa) (hst : starEach [a] X.env = (false, eval a X.env) :: starEach [] X.env := by rfl) : SE X W (.Call (.Name "max" p) [a] [] pos) (e1 dMaxL oa) := by
  refine se_c1 (fun h => pe_callB (cr_max hc) hg hm (by decide +kernel) h (he := hst)) ?_ ha hst
  intro g I F s σ H Q x dx d sm rx e q
  cases dx with
  | lst ds =>
    unfold dMaxL at e
    cases hi : intsD ds with
    | none => simp only [hi] at e; cases e
    | some ns =>
      cases ns with
      | nil => simp only [hi] at e; cases e
      | cons n ns =>
        simp only [hi] at e
        cases e
        cases intsD_map hi
        obtain ⟨p, vs, rfl, h1, r1⟩ := rx.lst sm.sub
        cases r1.ints
        refine ⟨p, n :: ns, rfl, h1, by simp, fun m hm1 hm2 => ?_⟩
        obtain ⟨k1, k2⟩ := maxL_mem ns n
        have : m = maxL n ns := Int.le_antisymm (k2 m hm1) (hm2 _ k1)
        rw [this]
        exact q _ F H sm (.int _)
  | tup z => cases e
  | str z => cases e
  | non => cases e
  | bl _ => cases e
  | int _ => cases e
  | dct _ => cases e
  | obj _ => cases e
  | nm _ => cases e
theorem se_min1 (hc : X.calm = true) (hg : Gl X "min") (hm : X.mg "min" = none) (ha : SO X W a oa) (hst : starEach [a] X.env = (false, eval a X.env) :: starEach [] X.env := by rfl) : SE X W (.Call (.Name "min" p) [a] [] pos) (e1 dMinL oa) := by
  refine se_c1 (fun h => pe_callB (cr_min hc) hg hm (by decide +kernel) h (he := hst)) ?_ ha hst
  intro g I F s σ H Q x dx d sm rx e q
  cases dx with
  | lst ds =>
    unfold dMinL at e
    cases hi : intsD ds with
    | none => simp only [hi] at e; cases e
    | some ns =>
      cases ns with
      | nil => simp only [hi] at e; cases e
      | cons n ns =>
        simp only [hi] at e
        cases e
        cases intsD_map hi
        obtain ⟨p, vs, rfl, h1, r1⟩ := rx.lst sm.sub
        cases r1.ints
        refine ⟨p, n :: ns, rfl, h1, by simp, fun m hm1 hm2 => ?_⟩
        obtain ⟨k1, k2⟩ := minL_mem ns n
        have : m = minL n ns := Int.le_antisymm (hm2 _ k1) (k2 m hm1)
        rw [this]
        exact q _ F H sm (.int _)
  | tup z => cases e
  | str z => cases e
  | non => cases e
  | bl _ => cases e
  | int _ => cases e
  | dct _ => cases e
  | obj _ => cases e
  | nm _ => cases e
end
/-! ### a if c else b as a test -/
section
variable {X : Cx} {W : WX} {a b c : Expr} {pos : Pos}
def tIfTT (tc ta tb : TT) : TT := fun σ H Q => tc σ H fun d H1 => if d = true then ta σ H1 Q else tb σ H1 Q
theorem pt_ifExp {tc ta tb : TT} (hc : PT X c tc) (ha : PT X a ta) (hb : PT X b tb) : PT X (.IfExp c a b pos) (tIfTT tc ta tb) := by
  refine ⟨fun pins s σ H Q I h => ?_⟩
  rw [PySem.arm_isTrue_IfExp]
  refine wpAny_bind (thn (hc.run pins s σ H _ I h) fun d s1 ⟨H1, I1, q1⟩ => ?_)
  cases d with
  | true => exact ha.run pins s1 σ H1 Q I1 q1
  | false => exact hb.run pins s1 σ H1 Q I1 q1
def kIfT (f h : M Bool) : Bool → M Bool := fun b s => if b = true then f s else h s
def tIfM (c f h : M Bool) : M Bool := fun s => (c s).bnd (kIfT f h)
@[simp] theorem r_tIfM (c f h : M Bool) (s : S) : tIfM c f h s = (c s).bnd (kIfT f h) := rfl
@[simp] theorem r_kIfT_t (f h : M Bool) (s : S) : kIfT f h true s = f s := rfl
@[simp] theorem r_kIfT_f (f h : M Bool) (s : S) : kIfT f h false s = h s := rfl
theorem st_ifE {k f h : M Bool} (hc : ST X W c k) (ha : ST X W a f) (hb : ST X W b h) : ST X W (.IfExp c a b pos) (tIfM k f h) := by
  obtain ⟨tc, c1, c2⟩ := hc
  obtain ⟨t, a1, a2⟩ := ha
  obtain ⟨u, b1, b2⟩ := hb
  refine ⟨_, pt_ifExp c1 a1 b1, fun g I F s σ H Q x hq => c2 g I F s σ H _ x ?_⟩
  rw [r_tIfM] at hq
  cases e : k s with
  | stuck => rw [e] at hq; exact hq
  | ex c s1 => rw [e] at hq; exact hq
  | ok d s1 =>
    rw [e, bnd_ok] at hq
    intro I1 F1 H1 x1
    cases d with
    | true => rw [if_pos rfl]; exact a2 g I1 F1 s1 σ H1 Q x1 hq
    | false => rw [if_neg Bool.false_ne_true]; exact b2 g I1 F1 s1 σ H1 Q x1 hq
end
end Fw
namespace Fw
open PySem PySem.Spec PySem.W PyProof.Rows L2
/-! ### sorted(..) of data that are alike -/
def sortD (ds : List D) : List D := ds.mergeSort (dataLe false D.toPy)
def D.tupNe : D → Bool
  | .tup (_ :: _) => true
  | _ => false
def D.atomS : D → Bool
  | .bl _ | .int _ | .str _ | .lst _ => true
  | _ => false
def sortOk (ds : List D) : Bool := D.okL ds && (decide (D.depL ds ≤ 60) && (decide (ds.length ≤ 16777216) && ((ds.all fun x => ds.all fun y => alike x.toPy y.toPy) && (ds.all D.tupNe || ds.all D.atomS))))
def oSortD : D → Option Ob
  | .lst ds => if sortOk ds = true then some (.lst (sortD ds)) else none
  | .tup ds => if sortOk ds = true then some (.lst (sortD ds)) else none
  | _ => none
theorem sortOk_sortable {ds : List D} (h : (ds.all D.tupNe || ds.all D.atomS) = true) : PySem.W.Sortable (ds.map D.toPy) := by
  rw [Bool.or_eq_true, List.all_eq_true, List.all_eq_true] at h
  rcases h with h | h
  · refine .inl fun d hd => ?_
    obtain ⟨x, hx, rfl⟩ := List.mem_map.mp hd
    have := h x hx
    cases x with
    | tup xs =>
      cases xs with
      | nil => cases this
      | cons y ys => exact ⟨y.toPy, D.toPyL ys, rfl⟩
    | _ => cases this
  · refine .inr fun d hd => ?_
    obtain ⟨x, hx, rfl⟩ := List.mem_map.mp hd
    have := h x hx
    cases x with
    | bl _ => exact ⟨by simp [D.toPy], by simp [D.toPy]⟩
    | int _ => exact ⟨by simp [D.toPy], by simp [D.toPy]⟩
    | str _ => exact ⟨by simp [D.toPy], by simp [D.toPy]⟩
    | lst _ => exact ⟨by simp [D.toPy], by simp [D.toPy]⟩
    | _ => cases this
section
variable {prog : Program} {w : World} {A : Around} {E : Value → Shared → Prop} {s : Shared}
theorem sorted_of_sortT {l : Addr} {vs : List Value} {Q : Value → Shared → Prop} (hl : s.heap.IsTuple l vs.toArray) (hz : vs.length ≤ sizeLine)
    (body : ∀ E' : Value → Shared → Prop, wpAny (model prog w) A.in1.in1 (Builtin.«list.sort» ⟨[.ref (s.heap.objs.size + 1)], []⟩) (fun f s' => f = .done (.ret .none) ∧ Q (.ref (s.heap.objs.size + 1)) s') E' { s with heap := copyHeap s.heap vs }) :
    wpAny (model prog w) A (call (.builtin "sorted") [.ref l]) Q E s := by
  refine Calls.call_function_entry kind_sorted plain_sorted entry_sorted (args_sorted1 _) ?_
  unfold Builtin.«sorted»
  refine wpAny_bind (m := checkCount "sorted" 1 1 _) (wpAny_pure ?_)
  refine wpAny_bind (collect_tup hl ?_ hz)
  refine wpAny_bind (wpAny_newList ?_ hz)
  have hsz : ((s.heap.push (seqObj "list" #[] 0)).update s.heap.objs.size (Obj.mapSeq (· ++ vs.toArray))).objs.size = s.heap.objs.size + 1 := by
    rw [Heap.size_update, size_push']
  show wpAny _ _ _ _ _ { s with heap := copyHeap s.heap vs }
  rw [hsz]
  refine wpAny_bind (wpAny_holding (wpAny_call_entry slot_list_sort ⟨_, copyHeap_at s.heap vs, rfl⟩ entry_list_sort ?body (args_list_sort _)))
  refine wpAny_mono (body _) (fun f s' hf => ?_) fun _ _ x => x
  obtain ⟨rfl, hq⟩ := hf
  exact ⟨_, rfl, wpAny_pure ⟨_, rfl, hq⟩⟩
theorem sorted_dataT {l : Addr} {β : Type} {vs : List Value} {bs : List β} {enc : β → PyData} {R : Value → β → Prop} {Q : Value → Shared → Prop} (hl : s.heap.IsTuple l vs.toArray) (e : EachIs R vs bs) (er : EachIs (fun v b => ∃ as, Reads s.heap v (enc b) as) vs bs) (hal : AllAlike (bs.map enc)) (hk : PySem.W.Sortable (bs.map enc)) (hL : bs.length ≤ sizeLine)
    (hu : ∀ b, b ∈ bs → A.units + 2 + (enc b).depth < cLine) (h : ∀ out, out.length = bs.length → EachIs R out (bs.mergeSort (dataLe false enc)) → Q (.ref (s.heap.objs.size + 1)) { s with heap := sortedAll s.heap vs (List.toArray out) }) :
    wpAny (model prog w) A (call (.builtin "sorted") [.ref l]) Q E s := by
  have er' : EachIs (fun v b => ∃ as, Reads (sortingHeap (copyHeap s.heap vs) (s.heap.objs.size + 1) vs) v (enc b) as) vs bs := er.mono fun _ _ ⟨as, r⟩ => ⟨as, PyProof.Rows.Reads.keeps (fun _ _ => sorting_copy_old) r⟩
  refine sorted_of_sortT hl (by rw [e.length]; exact hL) fun E' => list_sort_vals (s := { s with heap := copyHeap s.heap vs }) (copyHeap_at s.heap vs) (SortsAt.data (s := { s with heap := sortingHeap (copyHeap s.heap vs) (s.heap.objs.size + 1) vs }) (each_map (R := fun v d => ∃ as, Reads (sortingHeap (copyHeap s.heap vs) (s.heap.objs.size + 1) vs) v d as) enc er') hal hk (bound_map hu)) (by rw [e.length]; exact hL) ⟨rfl, ?_⟩
  exact h _ (by rw [sortVals_length false rfl]; exact e.length) (sortVals_data false e er' hal)
end
section
variable {X : Cx} {W : WX} {a : Expr} {oa : Opd} {pos p : Pos}
def rSortD (K : PySem.W.Frag) : List V → Hp → VK → Prop := fun vs H Q => ∃ (a : Addr) (xs : List V) (ds : List D) (P : V → D → Prop), vs = [V.ref a] ∧ (SqL K H a xs ∨ SqT K H a xs) ∧ EachIs P xs ds ∧ EachIs (fun x d => Dp K H x d.toPy) xs ds ∧ AllAlike (ds.map D.toPy) ∧ PySem.W.Sortable (ds.map D.toPy) ∧ ds.length ≤ sizeLine ∧ (∀ d ∈ ds, d.toPy.depth ≤ 61) ∧
  ∀ (ys : List V) (p : Addr), EachIs P ys (sortD ds) → H p = none → Q (.ref p) (upd H p (.lst ys))
theorem each_vals {α : Type} {P : V → α → Prop} : ∀ {xs : List V} {us : List Value} {ds : List α}, Vals xs us → EachIs P xs ds → EachIs (fun u d => ∃ x, RelV x u ∧ P x d) us ds
  | _, _, _, .nil, .nil => .nil
  | _, _, _, .cons r t, .cons h e => .cons ⟨_, r, h⟩ (each_vals t e)
theorem vals_each {α : Type} {P : V → α → Prop} : ∀ {us : List Value} {ds : List α}, EachIs (fun u d => ∃ x, RelV x u ∧ P x d) us ds → ∃ xs, Vals xs us ∧ EachIs P xs ds
  | _, _, .nil => ⟨[], .nil, .nil⟩
  | _, _, .cons ⟨x, r, h⟩ e => by
    obtain ⟨xs, h1, h2⟩ := vals_each e
    exact ⟨x :: xs, .cons r h1, .cons h h2⟩
theorem each_reads {K' : PySem.W.Frag} {pins : List (Addr × Obj)} {s : Shared} {σ : L2.St} {H : Hp} (I : Inv X pins σ H s) : ∀ {xs : List V} {us : List Value} {ds : List D}, Vals xs us → EachIs (fun x d => Dp X.K H x d.toPy) xs ds → EachIs (fun u d => ∃ as, Reads s.heap u (D.toPy d) as) us ds
  | _, _, _, .nil, .nil => .nil
  | _, _, _, .cons r t, .cons h e => .cons (Dp.reads I _ _ _ h r) (each_reads (K' := K') I t e)
theorem cr_sortD (hu : X.A.units + 65 < cLine) : CallR X (.builtin "sorted") (rSortD X.K) := by
  intro pins s σ H vs us Q I r h
  obtain ⟨a, xs, ds, P, rfl, hs, hP, hD, hal, hk, hL, hdp, q⟩ := h
  rw [Vals.ref1 r]
  rcases hs with hs | hs
  · obtain ⟨its, rv, hl, hz⟩ := I.list hs
    refine sorted_data (enc := D.toPy) (bs := ds) hl.isList (each_vals rv hP) (each_reads (K' := X.K) I rv hD) hal hk hL (fun d hd => by have := hdp d hd; omega) (fun out ho eo => by
      obtain ⟨ys, h1, h2⟩ := vals_each eo
      obtain ⟨ep, he'⟩ := PyProof.Rows.sortedAll_at s.heap its out.toArray
      exact ⟨.ref (s.heap.objs.size + 1), upd H (s.heap.objs.size + 1) (.lst ys), I.laid (t' := s.toks) (fun _ _ => PyProof.Rows.sortedAll_old) (Nat.le_succ _) ⟨by rw [h1.length, ho]; exact hL, out, ep, h1, he'⟩, rfl, q _ _ h2 (I.hok.fresh (Nat.le_succ _))⟩)
  · obtain ⟨its, rv, hl, hz⟩ := I.tuple hs
    refine sorted_dataT (enc := D.toPy) (bs := ds) hl (each_vals rv hP) (each_reads (K' := X.K) I rv hD) hal hk hL (fun d hd => by have := hdp d hd; omega) (fun out ho eo => by
      obtain ⟨ys, h1, h2⟩ := vals_each eo
      obtain ⟨ep, he'⟩ := PyProof.Rows.sortedAll_at s.heap its out.toArray
      exact ⟨.ref (s.heap.objs.size + 1), upd H (s.heap.objs.size + 1) (.lst ys), I.laid (t' := s.toks) (fun _ _ => PyProof.Rows.sortedAll_old) (Nat.le_succ _) ⟨by rw [h1.length, ho]; exact hL, out, ep, h1, he'⟩, rfl, q _ _ h2 (I.hok.fresh (Nat.le_succ _))⟩)
theorem repL_each {K : PySem.W.Frag} {I : List Addr} {F : Hp} : ∀ {vs : List V} {ds : List D}, RepL K I F vs ds → EachIs (fun x d => Rep K I F x d) vs ds
  | _, _, .nil => .nil
  | _, _, .cons a b => .cons a (repL_each b)
theorem each_repL {K : PySem.W.Frag} {I : List Addr} {F : Hp} : ∀ {vs : List V} {ds : List D}, EachIs (fun x d => Rep K I F x d) vs ds → RepL K I F vs ds
  | _, _, .nil => .nil
  | _, _, .cons a b => .cons a (each_repL b)
theorem repL_dp {K : PySem.W.Frag} {I : List Addr} {F H : Hp} (hs : Same F H) : ∀ {vs : List V} {ds : List D}, RepL K I F vs ds → D.okL ds = true → EachIs (fun x d => Dp K H x d.toPy) vs ds
  | _, _, .nil, _ => .nil
  | _, _, .cons (d := d) (ds := ds) a b, o => by
    have o' : d.ok = true ∧ D.okL ds = true := by simpa [D.okL] using o
    exact .cons (RW.dp (I := I) (F := F) (H := H) (.r a) hs o'.1) (repL_dp hs b o'.2)
theorem okL_mem' : ∀ {ds : List D} {d : D}, D.okL ds = true → d ∈ ds → d.ok = true ∧ d.dep ≤ D.depL ds
  | x :: xs, d, h, hm => by
    have h' : x.ok = true ∧ D.okL xs = true := by simpa [D.okL] using h
    rw [D.depL]
    rcases List.mem_cons.mp hm with rfl | z
    · exact ⟨h'.1, Nat.le_max_left _ _⟩
    · exact ⟨(okL_mem' h'.2 z).1, Nat.le_trans (okL_mem' h'.2 z).2 (Nat.le_max_right _ _)⟩
theorem sortOk_pre {ds : List D} (h : sortOk ds = true) : D.okL ds = true ∧ AllAlike (ds.map D.toPy) ∧ PySem.W.Sortable (ds.map D.toPy) ∧ ds.length ≤ sizeLine ∧ ∀ d ∈ ds, d.toPy.depth ≤ 61 := by
  unfold sortOk at h
  simp only [Bool.and_eq_true, decide_eq_true_eq] at h
  obtain ⟨h1, h2, h3, h4, h5⟩ := h
  refine ⟨h1, fun x hx y hy => ?_, sortOk_sortable h5, by rw [sizeLine_n]; exact h3, fun d hd => ?_⟩
  · obtain ⟨x', hx', rfl⟩ := List.mem_map.mp hx
    obtain ⟨y', hy', rfl⟩ := List.mem_map.mp hy
    exact List.all_eq_true.mp (List.all_eq_true.mp h4 x' hx') y' hy'
  · obtain ⟨o1, o2⟩ := okL_mem' h1 hd
    rw [toPy_dep d o1]
    omega
theorem sf_sortD {k : Nat} (hr : Room k X.A) (hg : Gl X "sorted") (hm : X.mg "sorted" = none) (ha : SO X W a oa) (hst : starEach [a] X.env = (false, eval a X.env) :: starEach [] X.env := by rfl) : SF X W (.Call (.Name "sorted" p) [a] [] pos) (f1 oSortD oa) := by
  refine sf_c1 (fun h => pe_callB (cr_sortD (room65 hr)) hg hm (by decide +kernel) h (he := hst)) ?_ ha hst
  intro g I F s σ H Q x dx d sm rx e q
  cases dx with
  | tup ds =>
    by_cases hk : sortOk ds = true
    · rw [oSortD, if_pos hk] at e
      cases e
      obtain ⟨o1, o2, o3, o4, o5⟩ := sortOk_pre hk
      obtain ⟨p, vs, rfl, h1, r1, f1⟩ := rx.tup sm.sub
      exact ⟨p, vs, ds, _, rfl, .inr h1, repL_each r1, repL_dp sm.sub r1 o1, o2, o3, o4, o5, fun ys p' he hp => q _ _ _ _ _ sm hp (.lst (each_repL he))⟩
    · rw [oSortD, if_neg hk] at e
      cases e
  | lst ds =>
    by_cases hk : sortOk ds = true
    · rw [oSortD, if_pos hk] at e
      cases e
      obtain ⟨o1, o2, o3, o4, o5⟩ := sortOk_pre hk
      obtain ⟨p, vs, rfl, h1, r1⟩ := rx.lst sm.sub
      exact ⟨p, vs, ds, _, rfl, .inl h1, repL_each r1, repL_dp sm.sub r1 o1, o2, o3, o4, o5, fun ys p' he hp => q _ _ _ _ _ sm hp (.lst (each_repL he))⟩
    · rw [oSortD, if_neg hk] at e
      cases e
  | str z => cases e
  | non => cases e
  | bl _ => cases e
  | int _ => cases e
  | dct _ => cases e
  | obj _ => cases e
  | nm _ => cases e
end
end Fw
namespace Fw
open PySem L2
section
variable {X : Cx} {W : WX}
/-- x.insert(k, y) -/
def k1Insert : List D → Ob → Option (D × Ob)
  | [.int k, y], .lst xs => if xs.length < sizeLine ∧ 0 ≤ k ∧ k < 1000000 then some (.non, .lst (xs.take k.toNat ++ [y] ++ xs.drop k.toNat)) else none
  | _, _ => none
theorem RepL.app {K : PySem.W.Frag} {I : List Addr} {F : Hp} : ∀ {vs ws : List V} {ds es : List D}, RepL K I F vs ds → RepL K I F ws es → RepL K I F (vs ++ ws) (ds ++ es)
  | _, _, _, _, .nil, h => h
  | _, _, _, _, .cons a b, h => .cons a (RepL.app b h)
theorem RepL.takeN {K : PySem.W.Frag} {I : List Addr} {F : Hp} : ∀ {vs : List V} {ds : List D} (k : Nat), RepL K I F vs ds → RepL K I F (vs.take k) (ds.take k)
  | _, _, 0, _ => by rw [List.take_zero, List.take_zero]; exact .nil
  | _, _, k + 1, .nil => by rw [List.take_nil, List.take_nil]; exact .nil
  | _, _, k + 1, .cons a b => .cons a (RepL.takeN k b)
theorem RepL.dropN {K : PySem.W.Frag} {I : List Addr} {F : Hp} : ∀ {vs : List V} {ds : List D} (k : Nat), RepL K I F vs ds → RepL K I F (vs.drop k) (ds.drop k)
  | _, _, 0, h => h
  | _, _, k + 1, .nil => by rw [List.drop_nil, List.drop_nil]; exact .nil
  | _, _, k + 1, .cons a b => RepL.dropN k b
theorem se_insert {x : Str} {i : Nat} {e1 e2 : Expr} {apos cpos npos : Pos} {f : M (List D)} (hv : PE X (.Name x npos) (tVar i)) (ha : SA X W [e1, e2] f)
    (hbase : attributeBase (.Name x npos) "insert" X.env (eval (.Name x npos) X.env) = eval (.Name x npos) X.env := by rfl)
    (hfew : ((backTo cpos (starEach [e1, e2] X.env)).all (fun x => !x.1) && (backToKw cpos (keywordEach [] X.env)).all (fun x => x.1.isSome) && decide (([e1, e2] : List Expr).length + ([] : List Keyword).length + (if ([] : List Keyword).isEmpty then 0 else 1) < 30)) = true := by rfl)
    (hline : (apos.endLine == cpos.line) = true := by rfl) (hs : starEach [e1, e2] X.env = (false, eval e1 X.env) :: starEach [e2] X.env := by rfl) (hpl : (backTo cpos (starEach [e2] X.env)).any (·.1) = false := by rfl) :
    SE X W (.Call (.Attribute (.Name x npos) "insert" apos) [e1, e2] [] cpos) (eMeth i f k1Insert) := by
  refine se_meth hv (fun h => pe_bm PySem.F.plainAttrs_list PySem.F.slot_list_insert PySem.F.type_list_insert mt_insert hv h hbase hfew hline hs hpl) ha ?_
  intro g I F s σ H Q a o b d b' vs ds x r ho ro ek nx
  unfold k1Insert at ek
  split at ek
  · rename_i k y xs
    by_cases hl : xs.length < sizeLine ∧ 0 ≤ k ∧ k < 1000000
    · rw [if_pos hl] at ek
      cases ek
      cases ro with
      | @lst ws _ rl =>
        cases r with
        | cons rk rn =>
          cases rk
          cases rn with
          | cons ry rn =>
            cases rn
            exact ⟨a, ws, k, _, rfl, rfl, ho, by rw [rl.length]; exact hl.1, hl.2.1, by omega, nx _ _ (.lst (((rl.takeN _).app (.cons ry .nil)).app (rl.dropN _))) .non⟩
    · rw [if_neg hl] at ek
      cases ek
  · cases ek
@[simp] theorem r_k1Insert (k : Int) (y : D) (xs : List D) : k1Insert [.int k, y] (.lst xs) = if xs.length < sizeLine ∧ 0 ≤ k ∧ k < 1000000 then some (.non, .lst (xs.take k.toNat ++ [y] ++ xs.drop k.toNat)) else none := rfl
end
/-- a block gives a value back -/
def Ret (f : M Fl) (s : S) (d : D) : Prop := ∃ s', f s = .ok (.rt d) s'
def RetS (f : M Fl) (s : S) (d : D) (st : List Ob) : Prop := ∃ e, f s = .ok (.rt d) ⟨e, st⟩
theorem ret_seq {f h : M Fl} {s s1 : S} {d : D} (a : f s = .ok .nx s1) (b : Ret h s1 d) : Ret (bSeq f h) s d := by
  obtain ⟨s', b⟩ := b
  exact ⟨s', seq_of a b⟩
theorem ret_here {f h : M Fl} {s : S} {d : D} (a : Ret f s d) : Ret (bSeq f h) s d := by
  obtain ⟨s', a⟩ := a
  exact ⟨s', seq_rt a⟩
theorem retS_seq {f h : M Fl} {s s1 : S} {d : D} {st : List Ob} (a : f s = .ok .nx s1) (b : RetS h s1 d st) : RetS (bSeq f h) s d st := by
  obtain ⟨s', b⟩ := b
  exact ⟨s', seq_of a b⟩
theorem retS_here {f h : M Fl} {s : S} {d : D} {st : List Ob} (a : RetS f s d st) : RetS (bSeq f h) s d st := by
  obtain ⟨s', a⟩ := a
  exact ⟨s', seq_rt a⟩
theorem ret_go {f h : M Fl} {s : S} {d : D} {P : S → Prop} (a : Goes f s P) (b : ∀ s1, P s1 → Ret h s1 d) : Ret (bSeq f h) s d := by
  obtain ⟨s1, a, p⟩ := a
  exact ret_seq a (b s1 p)
theorem retS_go {f h : M Fl} {s : S} {d : D} {st : List Ob} {P : S → Prop} (a : Goes f s P) (b : ∀ s1, P s1 → RetS h s1 d st) : RetS (bSeq f h) s d st := by
  obtain ⟨s1, a, p⟩ := a
  exact retS_seq a (b s1 p)
theorem runP_e {N : Nat} {body : M Fl} {ds : List D} {d : D} (hp : D.plainL ds = true) (hd : d.plain = true) (h : Ret body ⟨slots N ds, []⟩ d) : runP N body ds = .ok d := by
  obtain ⟨s, h⟩ := h
  exact runP_rt hp hd h
theorem runS_e {N : Nat} {body : M Fl} {ds : List D} {st st' : List Ob} {d : D} (h : RetS body ⟨slots N ds, st⟩ d st') : runS N body ds st = .ok d st' := by
  obtain ⟨e, h⟩ := h
  exact runS_rt h
/-- a slot that no list is kept in -/
def slo : Option D → Slot
  | none => .un
  | some d => .v d
@[simp] theorem slo_n : slo none = .un := rfl
@[simp] theorem slo_s (d : D) : slo (some d) = .v d := rfl
/-! ### loops by what has been gone through -/
theorem forL_pre {β : Type} {t : Tg} {b : M Fl} (enc : β → D) (P : List β → S → Prop) : ∀ (xs pre : List β) (s : S), P pre s → (∀ p x q s, pre ++ xs = p ++ x :: q → P p s → ∃ s1 s2, t (enc x) s = some s1 ∧ b s1 = .ok .nx s2 ∧ P (p ++ [x]) s2) → ∃ s', forL t b (xs.map enc) s = .ok .nx s' ∧ P (pre ++ xs) s'
  | [], pre, s, h, _ => ⟨s, rfl, by rw [List.append_nil]; exact h⟩
  | x :: xs, pre, s, h, step => by
    obtain ⟨s1, s2, h1, h2, h3⟩ := step pre x xs s rfl h
    obtain ⟨s', e, hP⟩ := forL_pre enc P xs (pre ++ [x]) s2 h3 fun p y q s hpq hp => step p y q s (by rw [← hpq, List.append_assoc]; rfl) hp
    refine ⟨s', ?_, by rw [List.append_assoc] at hP; exact hP⟩
    simp [forL, h1, h2, e]
theorem for_pre {β : Type} {it : M (List D)} {t : Tg} {b : M Fl} {s s0 : S} (enc : β → D) (xs : List β) (P : List β → S → Prop) (hi : it s = .ok (xs.map enc) s0) (h0 : P [] s0)
    (step : ∀ p x q s, xs = p ++ x :: q → P p s → ∃ s1, t (enc x) s = some s1 ∧ ∃ s2, b s1 = .ok .nx s2 ∧ P (p ++ [x]) s2) : ∃ s', sFor it t b s = .ok .nx s' ∧ P xs s' := by
  obtain ⟨s', h1, h2⟩ := forL_pre (t := t) (b := b) enc P xs [] s0 h0 (fun p x q s hpq hp => by
    obtain ⟨s1, a1, s2, a2, a3⟩ := step p x q s hpq hp
    exact ⟨s1, s2, a1, a2, a3⟩)
  exact ⟨s', by simp [hi, r_kFor, h1], h2⟩
/-- a comprehension whose parts leave all as it is -/
theorem lc_fm {is : List Nat} {it : M (List D)} {t : Tg} {c : M Bool} {e : M D} {s : S} {β : Type} (enc : β → D) (en0 env : List Slot) (st : List Ob) (p : β → Bool) (g : β → D) (en1 : β → List Slot) (xs : List β) (hi : it s = .ok (xs.map enc) ⟨en0, st⟩) (hw : wipeE en0 is = env) (hb : backE en0 is env = some en0) (hl : xs.length ≤ 1000000)
    (ht : ∀ x ∈ xs, t (enc x) ⟨env, st⟩ = some ⟨en1 x, st⟩) (h1 : ∀ x, wipeE (en1 x) is = env) (hc : ∀ x ∈ xs, c ⟨en1 x, st⟩ = .ok (p x) ⟨en1 x, st⟩) (he : ∀ x ∈ xs, p x = true → e ⟨en1 x, st⟩ = .ok (g x) ⟨en1 x, st⟩) :
    fLc is it t c e s = .ok (.lst ((xs.filter p).map g)) ⟨en0, st⟩ := by
  have lc := lcL_fm (is := is) (t := t) (c := c) (e := e) enc env st p g en0 xs hw (by rw [sizeLine_n]; omega) (fun x hx => ⟨⟨en1 x, st⟩, en1 x, ht x hx, hc x hx, h1 x, fun hp => ⟨en1 x, he x hx hp, h1 x⟩⟩)
  simp [hi, r_kLc, lc, kLc2, hb]
theorem lc_map {is : List Nat} {it : M (List D)} {t : Tg} {e : M D} {s : S} {β : Type} (enc : β → D) (en0 env : List Slot) (st : List Ob) (g : β → D) (en1 : β → List Slot) (xs : List β) (hi : it s = .ok (xs.map enc) ⟨en0, st⟩) (hw : wipeE en0 is = env) (hb : backE en0 is env = some en0) (hl : xs.length ≤ 1000000)
    (ht : ∀ x ∈ xs, t (enc x) ⟨env, st⟩ = some ⟨en1 x, st⟩) (h1 : ∀ x, wipeE (en1 x) is = env) (he : ∀ x ∈ xs, e ⟨en1 x, st⟩ = .ok (g x) ⟨en1 x, st⟩) :
    fLc is it t tYesM e s = .ok (.lst (xs.map g)) ⟨en0, st⟩ := by
  have h := lc_fm (c := tYesM) (e := e) enc en0 env st (fun _ => true) g en1 xs hi hw hb hl ht h1 (fun x hx => rfl) (fun x hx _ => he x hx)
  rw [List.filter_eq_self.mpr (fun _ _ => rfl)] at h
  exact h
end Fw
namespace Fw
open PySem PySem.Spec PyProof.Rows L2
/-! ### sum(.., ()): tuples joined -/
section
variable {prog : Program} {w : World} {A : Around} {E : Value → Shared → Prop} {s : Shared}
theorem add_tupH {a b : Addr} {vs ws : List Value} {Q : Value → Shared → Prop} (p1 : s.heap.IsTuple a vs.toArray) (p2 : s.heap.IsTuple b ws.toArray) (hz : vs.length + ws.length ≤ sizeLine)
    (h : ∀ r h', h'.IsTuple r (vs ++ ws).toArray → (∀ c o, s.heap.get? c = some o → h'.get? c = some o) → (r = a ∨ r = b ∨ r = s.heap.objs.size) → Q (.ref r) { s with heap := h' }) : wpAny (model prog w) A (binaryOp .Add (.ref a) (.ref b)) Q E s := by
  by_cases hv : vs = []
  · subst hv
    exact cat_tup0 p1 p2 (h b s.heap (by rw [List.nil_append]; exact p2) (fun _ _ e => e) (.inr (.inl rfl)))
  · refine HT.cat_tup p1 p2 hv (fun e => ?_) (fun e => ?_) hz
    · subst e
      exact h a s.heap (by rw [List.append_nil]; exact p1) (fun _ _ e => e) (.inl rfl)
    · exact h _ _ ⟨_, Heap.get?_push_size _ rfl, rfl, 0, rfl⟩ (fun c o e => Heap.get?_push_of_some _ e) (.inr (.inr rfl))
end
def flatTo (val : Nat → List Value) : Nat → List Value
  | 0 => []
  | i + 1 => flatTo val i ++ val i
section
variable {prog : Program} {w : World} {A : Around} {R : Result → Shared → Prop} {I : Addr} {fp wr : List Addr} {G : Array GenState → Array GenState → Prop} {n : Nat} {P : Nat → Value → Prop} {St : Nat → Shared → Prop}
theorem sum_loopT (W : WalksS prog w A.in1 I fp wr G n P St) (h0 : Heap) (st0 : Addr) (val : Nat → List Value) (hval : ∀ i v, i < n → P i v → ∃ b, v = .ref b ∧ h0.IsTuple b (val i).toArray) (S : Addr) (hSf : ∀ b ∈ fp, b < S) (hS0 : h0.objs.size ≤ S) (hwr : ∀ b ∈ wr, h0.get? b = none) (hlen : ∀ i, i ≤ n → (flatTo val i).length ≤ sizeLine) :
    ∀ (k i : Nat) (s : Shared) (T : Addr) (c : Nat), n - i = k → i ≤ n → St i s → s.heap.get? S = some { cls := .type "list", dict := none, data := .seq #[.ref T] c, slots := #[] } → s.heap.IsTuple T (flatTo val i).toArray → T ∉ wr →
    ((T = st0 ∨ ∃ j, j < n ∧ P j (.ref T)) ∨ h0.objs.size ≤ T) → (∀ b o, h0.get? b = some o → s.heap.get? b = some o) →
    (∀ s' T', Moved (S :: wr) G s s' → s'.heap.IsTuple T' (flatTo val n).toArray → ((T' = st0 ∨ ∃ j, j < n ∧ P j (.ref T')) ∨ h0.objs.size ≤ T') → R (.ok (.ret (.ref T'))) s') → codeAny (model prog w) A (.builtin "sum.loop" ⟨[.ref I, .ref S, rawInt 2, rawInt 0], []⟩) R s := by
  have hSw : S ∉ wr := fun h => Nat.lt_irrefl _ (hSf _ (W.sub _ h))
  have hSfp : S ∉ fp := fun h => Nat.lt_irrefl _ (hSf _ h)
  have hsub : ∀ b ∈ wr, b ∈ S :: wr := fun b hb => List.mem_cons_of_mem _ hb
  intro k
  induction k with
  | zero =>
    intro i s T c hk hi hst hS hT hTw hTo hkeep hR
    have hin : i = n := by omega
    subst hin
    refine codeAny_builtin F.entry_sum_loop ?_
    rw [Around.under_plainId F.plain_sum_loop _]
    show wpAny _ A.in1 (seqItems? (.ref S) >>= _) _ _ s
    refine wpAny_bind (wpAny_seqItems hS rfl ?_)
    show wpAny _ A.in1 (tryCatch (pyNext (.ref I)) _ >>= _) _ _ s
    refine wpAny_bind (wpAny_tryCatch (W.done s _ _ hst fun s' hm => ?_))
    refine wpAny_pure (hR s' T (hm.mono hsub) ?_ hTo)
    obtain ⟨o, ho, r⟩ := hT
    exact ⟨o, hm.heap T o hTw ho, r⟩
  | succ k ih =>
    intro i s T c hk hi hst hS hT hTw hTo hkeep hR
    have hlt : i < n := by omega
    refine codeAny_builtin F.entry_sum_loop ?_
    rw [Around.under_plainId F.plain_sum_loop _]
    show wpAny _ A.in1 (seqItems? (.ref S) >>= _) _ _ s
    refine wpAny_bind (wpAny_seqItems hS rfl ?_)
    show wpAny _ A.in1 (tryCatch (pyNext (.ref I)) _ >>= _) _ _ s
    refine wpAny_bind (wpAny_tryCatch (W.item i s _ _ hlt hst fun v s' hP hst' hm => ?_))
    obtain ⟨b, rfl, hb⟩ := hval i v hlt hP
    have hS' := hm.heap S _ hSw hS
    have hT' : s'.heap.IsTuple T (flatTo val i).toArray := by
      obtain ⟨o, ho, r⟩ := hT
      exact ⟨o, hm.heap T o hTw ho, r⟩
    have hkeep' : ∀ c o, h0.get? c = some o → s'.heap.get? c = some o := fun c o e => hm.heap c o (fun hc => by rw [hwr c hc] at e; cases e) (hkeep c o e)
    have hb' : s'.heap.IsTuple b (val i).toArray := by
      obtain ⟨o, ho, r⟩ := hb
      exact ⟨o, hkeep' b o ho, r⟩
    show wpAny _ A.in1 ((holding [Value.ref b] (binaryOp .Add (.ref T) (.ref b))).attempt >>= _) _ _ _
    refine wpAny_bind (wpAny_attempt (wpAny_holding (add_tupH hT' hb' (by have := hlen (i + 1) hlt; rw [flatTo, List.length_append] at this; exact this) fun r h' hr hkp hrr => ?_)))
    have hSh : h'.get? S = some { cls := .type "list", dict := none, data := .seq #[.ref T] c, slots := #[] } := hkp _ _ hS'
    have hrS : r ≠ S := fun e => by
      obtain ⟨o, ho, hc, _⟩ := hr
      rw [e, hSh] at ho
      cases ho
      exact absurd (Value.type.inj hc) (by decide)
    have hSlt : S < s'.heap.objs.size := Heap.lt_size hS'
    have hrw : r ∉ wr := fun hc => by
      rcases hrr with e | e | e
      · exact hTw (e ▸ hc)
      · obtain ⟨o, ho, _⟩ := hb
        rw [← e, hwr r hc] at ho
        cases ho
      · exact absurd (hSf r (W.sub _ hc)) (by rw [e]; exact Nat.lt_asymm hSlt)
    have hro : (r = st0 ∨ ∃ j, j < n ∧ P j (.ref r)) ∨ h0.objs.size ≤ r := by
      rcases hrr with e | e | e
      · rw [e]; exact hTo
      · exact .inl (.inr ⟨i, hlt, by rw [e]; exact hP⟩)
      · right; rw [e]; exact Nat.le_of_lt (Nat.lt_of_le_of_lt hS0 hSlt)
    show wpAny _ A.in1 (updateSeq S (fun _ => #[.ref r]) >>= _) _ _ _
    refine wpAny_bind (wpAny_updateSeq hSh rfl ?_)
    have hS₂ := Heap.get?_update_self (Obj.mapSeq fun _ => #[Value.ref r]) hSh rfl
    refine wpAny_bind (wpAny_letGo ?_)
    refine wpAny_bind (wpAny_updateSeq hS₂ rfl (wpAny_pure ⟨plainId_quiet F.plain_sum_loop _, ih (i + 1) _ r _ (by omega) hlt (W.frame _ s' _ _ hst' (by first | exact Nat.le_refl _ | exact Nat.le_succ _ | omega) fun d hd o e => ?_) (Heap.get?_update_self _ hS₂ rfl) ?_ hrw hro (fun d o e => ?_) fun s'' t'' hm'' => ?_⟩))
    · exact (Heap.get?_update_other _ _ (fun h : S = d => hSfp (by rw [h]; exact hd))).trans ((Heap.get?_update_other _ _ (fun h : S = d => hSfp (by rw [h]; exact hd))).trans (hkp _ _ e))
    · obtain ⟨o, ho, hc⟩ := hr
      exact ⟨o, (Heap.get?_update_other _ _ hrS.symm).trans ((Heap.get?_update_other _ _ hrS.symm).trans ho), hc⟩
    · have hd : S ≠ d := fun z => by subst z; exact Nat.lt_irrefl _ (Nat.lt_of_lt_of_le (Heap.lt_size e) hS0)
      exact (Heap.get?_update_other _ _ hd).trans ((Heap.get?_update_other _ _ hd).trans (hkp _ _ (hkeep' d o e)))
    · refine hR s'' t'' (Moved.trans W.gtrans ((hm.mono hsub).then_heap (by first | exact Nat.le_refl _ | exact Nat.le_succ _ | omega) fun b o hb e => ?_) hm'')
      exact (Heap.get?_update_other _ _ (fun h : S = b => hb (by rw [h]; exact List.mem_cons_self))).trans ((Heap.get?_update_other _ _ (fun h : S = b => hb (by rw [h]; exact List.mem_cons_self))).trans (hkp _ _ e))
end
section
variable {prog : Program} {w : World} {A : Around} {E : Value → Shared → Prop} {s : Shared}
theorem args_sum2 (a b : Value) : argsOk "sum" ⟨[a, b], []⟩ := by unfold argsOk; kernel_rfl
theorem call_sum_walkT {x : Value} {st0 : Addr} {Q : Value → Shared → Prop} (h0 : s.heap.IsTuple st0 (([] : List Value).toArray))
    (h : wpAny (model prog w) A.in1 (pyIter x) (fun it s₂ => ∃ I fp wr G n P St val, it = .ref I ∧ WalksS prog w A.in1 I fp wr G n P St ∧ St 0 s₂ ∧ (∀ b ∈ fp, b < s₂.heap.objs.size) ∧ (∀ b ∈ wr, s.heap.get? b = none) ∧ (∀ b o, s.heap.get? b = some o → s₂.heap.get? b = some o) ∧ s.heap.objs.size ≤ s₂.heap.objs.size ∧
      (∀ i v, i < n → P i v → ∃ b, v = .ref b ∧ s.heap.IsTuple b (val i : List Value).toArray) ∧ (∀ i, i ≤ n → (flatTo val i).length ≤ sizeLine) ∧
      ∀ s' T', Moved wr G s₂ s' → s'.heap.IsTuple T' (flatTo val n).toArray → ((T' = st0 ∨ ∃ j, j < n ∧ P j (.ref T')) ∨ s.heap.objs.size ≤ T') → Q (.ref T') s') E s) :
    wpAny (model prog w) A (call (.builtin "sum") [x, .ref st0]) Q E s := by
  refine call_function_tree F.kind_sum F.plain_sum F.entry_sum (args_sum2 _ _) ?_
  unfold Builtin.«sum»
  simp only [List.length_cons, List.length_nil]
  rw [if_neg (by decide)]
  refine wpAny_bind (wpAny_of_eq (show Builtin.Builtins.bindParams "sum" ["start"] 0 ⟨[.ref st0], []⟩ = pure [some (.ref st0)] from rfl) ?_)
  refine wpAny_bind (wpAny_mono h (fun it s₂ h₂ => ?_) fun _ _ e => e)
  obtain ⟨I, fp, wr, G, n, P, St, val, rfl, W, hst, hfp, hwr, hkp, hsz, hval, hlen, hQ⟩ := h₂
  have h2 : s₂.heap.IsTuple st0 (([] : List Value).toArray) := by
    obtain ⟨o, ho, r⟩ := h0
    exact ⟨o, hkp _ _ ho, r⟩
  have ty : s₂.TypeIs (.ref st0) "tuple" := h2.typeIs
  refine wpAny_bind (wpAny_pure ?_)
  simp only [List.forIn_cons, List.forIn_nil]
  refine wpAny_bind (wpAny_bind (wpAny_bind (wpAny_isInstance (T := "tuple") (b := false) ty F.sub_tuple_str ?_)))
  simp only [Bool.false_eq_true, if_false]
  refine wpAny_pure (wpAny_bind (wpAny_bind (wpAny_isInstance (T := "tuple") (b := false) ty F.sub_tuple_bytes ?_)))
  simp only [Bool.false_eq_true, if_false]
  refine wpAny_pure (wpAny_bind (wpAny_bind (wpAny_isInstance (T := "tuple") (b := false) ty F.sub_tuple_bytearray ?_)))
  simp only [Bool.false_eq_true, if_false]
  refine wpAny_pure (wpAny_pure ?_)
  refine wpAny_bind (wpAny_newObj_type ?_)
  have hst0 : st0 ∉ wr := fun hm => by
    obtain ⟨o, ho, _⟩ := h0
    rw [hwr _ hm] at ho
    cases ho
  refine wpAny_pure ⟨plainId_quiet F.plain_sum_loop _, sum_loopT W s.heap st0 val hval s₂.heap.objs.size hfp hsz hwr hlen n 0 _ st0 0 rfl (Nat.zero_le _)
    (W.frame 0 s₂ _ _ hst (by first | exact Nat.le_refl _ | exact Nat.le_succ _ | omega) fun b _ o e => Heap.get?_push_of_some _ e) (Heap.get?_push_size _ rfl) ?_ hst0 (.inl (.inl rfl)) (fun b o e => Heap.get?_push_of_some _ (hkp b o e)) fun s' T' hm hT hTo => ?_⟩
  · obtain ⟨o, ho, r⟩ := h2
    exact ⟨o, Heap.get?_push_of_some _ ho, r⟩
  · exact hQ s' T' (hm.drop_new (by first | exact Nat.le_refl _ | exact Nat.le_succ _ | omega)) hT hTo
theorem moved_one {wr : List Addr} {s s' : Shared} {G : Array GenState → Array GenState → Prop} (hG : ∀ a b, G a b → b = a) (hm : Moved wr G s s') : ∃ h' tk, s' = { s with heap := h', toks := tk } ∧ ∀ b o, b ∉ wr → s.heap.get? b = some o → h'.get? b = some o := by
  obtain ⟨h', g', d', tk', os'⟩ := s'
  have e1 : g' = s.gens := hG _ _ hm.gens
  have e2 : d' = s.drawn := hm.drawn
  have e3 : os' = s.os := hm.os
  subst e1 e2 e3
  exact ⟨h', tk', rfl, hm.heap⟩
/-- what is walked over: a list or a tuple -/
theorem call_sumT {x : Addr} {st0 : Addr} {its : List Value} {Q : Value → Shared → Prop} (hh : A.handled = none) (hx : s.heap.IsTuple x its.toArray ∨ s.heap.IsList x its.toArray) (h0 : s.heap.IsTuple st0 (([] : List Value).toArray)) (val : Nat → List Value) (hval : ∀ i v, its[i]? = some v → ∃ b, v = .ref b ∧ s.heap.IsTuple b (val i).toArray) (hlen : ∀ i, i ≤ its.length → (flatTo val i).length ≤ sizeLine)
    (h : ∀ T h' tk, h'.IsTuple T (flatTo val its.length).toArray → ((T = st0 ∨ ∃ j : Nat, its[j]? = some (.ref T)) ∨ s.heap.objs.size ≤ T) → (∀ b o, s.heap.get? b = some o → h'.get? b = some o) → Q (.ref T) { s with heap := h', toks := tk }) :
    wpAny (model prog w) A (call (.builtin "sum") [.ref x, .ref st0]) Q E s := by
  refine call_sum_walkT h0 ?_
  have none_new : s.heap.get? s.heap.objs.size = none := by
    cases e : s.heap.get? s.heap.objs.size with
    | none => rfl
    | some o => exact absurd (Heap.lt_size e) (Nat.lt_irrefl _)
  rcases hx with ht | ht
  · obtain ⟨o, ho, hc, n, hd⟩ := id ht
    have hne : x ≠ s.heap.objs.size := Nat.ne_of_lt (Heap.lt_size ho)
    have W := (Walks.tuple (prog := prog) (w := w) (A := A.in1) hh s.heap.objs.size x hne its.toArray).toS
    refine wpAny_pyIter_tuple ht ?_
    refine ⟨s.heap.objs.size, _, _, _, _, _, _, val, rfl, W, ⟨⟨_, Heap.get?_push_size _ rfl, rfl, rfl⟩, ht.at fun o e => Heap.get?_push_of_some _ e⟩, fun b hb => ?_, fun b hb => ?_, fun b o e => Heap.get?_push_of_some _ e, ?_, fun i v hi hv => hval i v (by simpa using hv), by simpa using hlen, fun s' T' hm hT hTo => ?_⟩
    · rcases List.mem_cons.mp hb with rfl | hb
      · exact Heap.lt_size (Heap.get?_push_size _ rfl)
      · obtain rfl := List.mem_singleton.mp hb
        exact Heap.lt_size (Heap.get?_push_of_some _ ho)
    · obtain rfl := List.mem_singleton.mp hb
      exact none_new
    · show s.heap.objs.size ≤ (s.heap.push _).objs.size
      rw [size_push']
      exact Nat.le_succ _
    · obtain ⟨h', tk, rfl, hk⟩ := moved_one (fun a b e => e) hm
      refine h T' h' tk (by simpa using hT) ?_ (fun b o e => hk b o (fun z => ?_) (Heap.get?_push_of_some _ e))
      · rcases hTo with (z | ⟨j, _, hj⟩) | z
        · exact .inl (.inl z)
        · exact .inl (.inr ⟨j, by simpa using hj⟩)
        · exact .inr z
      · obtain rfl := List.mem_singleton.mp z
        rw [none_new] at e
        cases e
  · obtain ⟨o, ho, hc, n, hd⟩ := id ht
    have hne : x ≠ s.heap.objs.size := Nat.ne_of_lt (Heap.lt_size ho)
    have W := (Walks.list (prog := prog) (w := w) (A := A.in1) hh s.heap.objs.size x hne its.toArray).toS
    refine wpAny_pyIter_list ht ?_
    refine ⟨s.heap.objs.size, _, _, _, _, _, _, val, rfl, W, ⟨⟨_, Heap.get?_push_size _ rfl, rfl, rfl⟩, ht.at fun o e => Heap.get?_push_of_some _ e⟩, fun b hb => ?_, fun b hb => ?_, fun b o e => Heap.get?_push_of_some _ e, ?_, fun i v hi hv => hval i v (by simpa using hv), by simpa using hlen, fun s' T' hm hT hTo => ?_⟩
    · rcases List.mem_cons.mp hb with rfl | hb
      · exact Heap.lt_size (Heap.get?_push_size _ rfl)
      · obtain rfl := List.mem_singleton.mp hb
        exact Heap.lt_size (Heap.get?_push_of_some _ ho)
    · obtain rfl := List.mem_singleton.mp hb
      exact none_new
    · show s.heap.objs.size ≤ (s.heap.push _).objs.size
      rw [size_push']
      exact Nat.le_succ _
    · obtain ⟨h', tk, rfl, hk⟩ := moved_one (fun a b e => e) hm
      refine h T' h' tk (by simpa using hT) ?_ (fun b o e => hk b o (fun z => ?_) (Heap.get?_push_of_some _ e))
      · rcases hTo with (z | ⟨j, _, hj⟩) | z
        · exact .inl (.inl z)
        · exact .inl (.inr ⟨j, by simpa using hj⟩)
        · exact .inr z
      · obtain rfl := List.mem_singleton.mp z
        rw [none_new] at e
        cases e
end
end Fw
namespace Fw
open PySem PySem.Spec PyProof.Rows L2 PySem.W
theorem flatTo_take (itss : List (List Value)) : ∀ n, flatTo (fun i => itss.getD i []) n = (itss.take n).flatten
  | 0 => by rw [List.take_zero]; rfl
  | n + 1 => by
    rw [flatTo, flatTo_take itss n, List.take_add_one, List.flatten_append]
    congr 1
    rw [List.getD_eq_getElem?_getD]
    cases itss[n]? with
    | none => rfl
    | some x => simp
section
variable {X : Cx} {W : WX} {a b : Expr} {oa ob : Opd} {pos p : Pos}
theorem sum_items {pins : List (Addr × Obj)} {s : Shared} {σ : L2.St} {H : Hp} (I : Inv X pins σ H s) : ∀ {xs : List V} {its : List Value} {xss : List (List V)}, Vals xs its → EachIs (fun x ys => ∃ t, x = V.ref t ∧ SqT X.K H t ys) xs xss →
    ∃ itss : List (List Value), itss.length = its.length ∧ (∀ (i : Nat) (v : Value), its[i]? = some v → ∃ t ys vs, v = .ref t ∧ s.heap.IsTuple t vs.toArray ∧ itss[i]? = some vs ∧ xss[i]? = some ys ∧ xs[i]? = some (.ref t) ∧ Vals ys vs) ∧ Vals xss.flatten itss.flatten ∧ xss.length = its.length
  | _, _, _, .nil, .nil => ⟨[], rfl, fun i v h => by simp at h, .nil, rfl⟩
  | _, _, _, .cons r t, .cons ⟨tt, e, hs⟩ es => by
    subst e
    obtain ⟨itss, h1, h2, h3, h4⟩ := sum_items I t es
    obtain ⟨vs, rv, hv, _⟩ := I.tuple hs
    cases r
    refine ⟨vs :: itss, by simp [h1], fun i v h => ?_, ?_, by simp [h4]⟩
    · cases i with
      | zero =>
        have : v = .ref tt := by simpa using h.symm
        exact ⟨tt, _, vs, this, hv, rfl, rfl, rfl, rv⟩
      | succ i => 
        obtain ⟨t', ys, vs', k1, k2, k3, k4, k5, k6⟩ := h2 i v (by simpa using h)
        exact ⟨t', ys, vs', k1, k2, by simpa using k3, by simpa using k4, by simpa using k5, k6⟩
    · rw [List.flatten_cons, List.flatten_cons]
      exact rv.append h3
theorem tuple_same {h : Heap} {t : Addr} {vs ws : List Value} (h1 : h.IsTuple t vs.toArray) (h2 : h.IsTuple t ws.toArray) : vs = ws := by
  obtain ⟨o, e, _, n, d⟩ := h1
  obtain ⟨o', e', _, n', d'⟩ := h2
  rw [e] at e'; cases e'
  rw [d] at d'
  injection d' with d1 _
  simpa using congrArg Array.toList d1
def rSum2 (K : PySem.W.Frag) : List V → Hp → VK → Prop := fun vs H Q => ∃ (a st : Addr) (xs : List V) (xss : List (List V)), vs = [V.ref a, V.ref st] ∧ (SqL K H a xs ∨ SqT K H a xs) ∧ SqT K H st [] ∧ EachIs (fun x ys => ∃ t, x = V.ref t ∧ SqT K H t ys) xs xss ∧ xss.flatten.length ≤ sizeLine ∧
  (xss.flatten = [] → Q (.ref st) H) ∧ (∀ (j : Nat) (t : Addr), xs[j]? = some (.ref t) → xss[j]? = some xss.flatten → Q (.ref t) H) ∧ (∀ p, H p = none → Q (.ref p) (upd H p (.tup xss.flatten)))
theorem cr_sum2 (hc : X.calm = true) : CallR X (.builtin "sum") (rSum2 X.K) := by
  intro pins s σ H vs us Q I r h
  obtain ⟨a, st, xs, xss, rfl, hs, hst, he, hz, q0, q1, q2⟩ := h
  obtain ⟨u1, u2, rfl, r1, r2⟩ := r.two
  cases r1
  cases r2
  obtain ⟨vst, rst, pst, _⟩ := I.tuple hst
  cases rst
  obtain ⟨its, rv, hl⟩ : ∃ its : List Value, Vals xs its ∧ (s.heap.IsTuple a its.toArray ∨ s.heap.IsList a its.toArray) := by
    rcases hs with hs | hs
    · obtain ⟨its, rv, hl, _⟩ := I.list hs
      exact ⟨its, rv, .inr hl.isList⟩
    · obtain ⟨its, rv, hl, _⟩ := I.tuple hs
      exact ⟨its, rv, .inl hl⟩
  obtain ⟨itss, k1, k2, k3, k4⟩ := sum_items I rv he
  have hlen3 : itss.flatten.length ≤ sizeLine := by rw [← k3.length]; exact hz
  refine call_sumT (I.ok.hd hc) hl pst (fun i => itss.getD i []) (fun i v hv => ?_) (fun i hi => ?_) fun T h' tk hT hTo hk => ?_
  · obtain ⟨t, ys, vs, e1, e2, e3, _⟩ := k2 i v hv
    exact ⟨t, e1, by rw [List.getD_eq_getElem?_getD, e3]; exact e2⟩
  · rw [flatTo_take]
    have e9 : itss.flatten = (itss.take i).flatten ++ (itss.drop i).flatten := by rw [← List.flatten_append, List.take_append_drop]
    rw [e9, List.length_append] at hlen3
    exact Nat.le_trans (Nat.le_add_right _ _) hlen3
  · rw [flatTo_take, ← k1, List.take_length] at hT
    by_cases hnew : s.heap.objs.size ≤ T
    · exact ⟨.ref T, _, I.laid (o := .tup xss.flatten) (t' := tk) hk hnew ⟨hz, _, k3, hT⟩, rfl, q2 _ (I.hok.fresh hnew)⟩
    · rcases hTo with (e | ⟨j, hj⟩) | e
      · subst e
        obtain ⟨o, ho, hh⟩ := pst
        have e2 := tuple_same hT ⟨o, hk _ _ ho, hh⟩
        rw [e2] at k3
        have e3 : xss.flatten = [] := by cases hx : xss.flatten with
          | nil => rfl
          | cons _ _ => rw [hx] at k3; cases k3
        exact ⟨.ref T, H, I.kept (t' := tk) hk, rfl, q0 e3⟩
      · obtain ⟨t, ys, vs, e1, e2, e3, e4, e5, e6⟩ := k2 j _ hj
        cases e1
        obtain ⟨o, ho, hh⟩ := e2
        have e7 := tuple_same hT ⟨o, hk _ _ ho, hh⟩
        rw [← e7] at e6
        have e8 : ys = xss.flatten := e6.inj k3
        rw [e8] at e4
        exact ⟨.ref T, H, I.kept (t' := tk) hk, rfl, q1 j T e5 e4⟩
      · exact absurd e hnew
def tupsD : List D → Option (List (List D))
  | [] => some []
  | .tup xs :: ds => (tupsD ds).map (xs :: ·)
  | _ :: _ => none
def dSum2 : D → D → Option D
  | .tup ds, .tup [] => (match tupsD ds with
    | some xss => if xss.flatten.length ≤ sizeLine then some (.tup xss.flatten) else none
    | none => none)
  | .lst ds, .tup [] => (match tupsD ds with
    | some xss => if xss.flatten.length ≤ sizeLine then some (.tup xss.flatten) else none
    | none => none)
  | _, _ => none
theorem tupsD_map {xss : List (List D)} : tupsD (xss.map .tup) = some xss := by
  induction xss with
  | nil => rfl
  | cons x xss ih => rw [List.map_cons, tupsD, ih]; rfl
theorem tupsD_inv : ∀ {ds : List D} {xss : List (List D)}, tupsD ds = some xss → ds = xss.map .tup
  | [], xss, h => by cases h; rfl
  | d :: ds, xss, h => by
    cases d with
    | tup xs =>
      rw [tupsD] at h
      cases e : tupsD ds with
      | none => rw [e] at h; cases h
      | some yss => rw [e] at h; cases h; rw [tupsD_inv e]; rfl
    | _ => cases h
theorem RepL.tups {K : PySem.W.Frag} {I : List Addr} {F H : Hp} (hs : Same F H) : ∀ {xss : List (List D)} {vs : List V}, RepL K I F vs (xss.map .tup) → ∃ vss : List (List V), EachIs (fun x ys => ∃ t, x = V.ref t ∧ SqT K H t ys) vs vss ∧ RepL K I F vss.flatten xss.flatten ∧ vss.length = xss.length ∧ ∀ (j : Nat) (x : V), vs[j]? = some x → ∃ t ys ds, x = .ref t ∧ TupAt K F t ys ∧ vss[j]? = some ys ∧ xss[j]? = some ds ∧ RepL K I F ys ds
  | [], vs, h => by cases h; exact ⟨[], .nil, .nil, rfl, fun j x h => by simp at h⟩
  | xs :: xss, vs, h => by
    cases h with
    | cons h1 h2 =>
      cases h1 with
      | tup q r =>
        obtain ⟨vss, k1, k2, k3, k4⟩ := RepL.tups hs h2
        refine ⟨_ :: vss, .cons ⟨_, rfl, (Le.of_same hs).sqT q.sq⟩ k1, ?_, by simp [k3], fun j x hj => ?_⟩
        · rw [List.flatten_cons, List.flatten_cons]
          exact r.append k2
        · cases j with
          | zero =>
            have : x = _ := (Option.some.inj (by simpa using hj)).symm
            exact ⟨_, _, _, this, q, rfl, rfl, r⟩
          | succ j =>
            obtain ⟨t, ys, ds, e1, e2, e3, e4, e5⟩ := k4 j x (by simpa using hj)
            exact ⟨t, ys, ds, e1, e2, by simpa using e3, by simpa using e4, e5⟩
theorem se_sum2 (hc : X.calm = true) (hg : Gl X "sum") (hm : X.mg "sum" = none) (ha : SO X W a oa) (hb : SO X W b ob) (hst : starEach [a, b] X.env = (false, eval a X.env) :: starEach [b] X.env := by rfl) (hst2 : starEach [b] X.env = (false, eval b X.env) :: starEach [] X.env := by rfl) (hpl : (backTo pos (starEach [b] X.env)).any (·.1) = false := by rfl) : SE X W (.Call (.Name "sum" p) [a, b] [] pos) (e2 dSum2 oa ob) := by
  refine se_c2 (fun h => pe_callB (cr_sum2 hc) hg hm (by decide +kernel) h (he := hst) (hpl := hpl)) ?_ ha hb hst hst2
  intro g I F s σ H Q x y dx dy d sm rx ry e q
  have fin : ∀ (pa : Addr) (vs : List V) (xss : List (List D)), (SqL X.K H pa vs ∨ SqT X.K H pa vs) → RepL X.K I F vs (xss.map .tup) → xss.flatten.length ≤ sizeLine → d = .tup xss.flatten → dy = .tup [] → rSum2 X.K [.ref pa, y] H Q := by
    intro pa vs xss hsq hr hlen hd hdy
    subst hdy
    obtain ⟨st, ws, rfl, hst, rst, f1⟩ := ry.tup sm.sub
    cases rst
    obtain ⟨vss, k1, k2, k3, k4⟩ := RepL.tups sm.sub hr
    refine ⟨pa, st, vs, vss, rfl, hsq, hst, k1, by rw [k2.length]; exact hlen, fun hz => ?_, fun j t hj hz => ?_, fun p hp => ?_⟩
    · rw [hz] at k2
      have : xss.flatten = [] := by cases hx : xss.flatten with
        | nil => rfl
        | cons _ _ => rw [hx] at k2; cases k2
      rw [this] at hd
      exact q _ F H sm (by rw [hd]; exact .tup f1 .nil)
    · obtain ⟨t', ys, ds, e1, e2, e3, e4, e5⟩ := k4 j _ hj
      cases e1
      rw [hz] at e3
      cases e3
      exact q _ F H sm (by rw [hd]; exact .tup e2 k2)
    · obtain ⟨x2, le⟩ := sm.alloc (o := .tup vss.flatten) hp
      exact q _ _ _ x2 (by rw [hd]; exact .tup (TupAt.of upd_same) (RepL.mono le (List.prefix_refl _) _ _ k2))
  unfold dSum2 at e
  split at e
  · rename_i ds
    cases ht : tupsD ds with
    | none => simp only [ht] at e; cases e
    | some xss =>
      simp only [ht] at e
      by_cases hl : xss.flatten.length ≤ sizeLine
      · rw [if_pos hl] at e
        cases e
        obtain ⟨pa, vs, rfl, h1, r1, _⟩ := rx.tup sm.sub
        rw [tupsD_inv ht] at r1
        exact fin pa vs xss (.inr h1) r1 hl rfl rfl
      · rw [if_neg hl] at e; cases e
  · rename_i ds
    cases ht : tupsD ds with
    | none => simp only [ht] at e; cases e
    | some xss =>
      simp only [ht] at e
      by_cases hl : xss.flatten.length ≤ sizeLine
      · rw [if_pos hl] at e
        cases e
        obtain ⟨pa, vs, rfl, h1, r1⟩ := rx.lst sm.sub
        rw [tupsD_inv ht] at r1
        exact fin pa vs xss (.inl h1) r1 hl rfl rfl
      · rw [if_neg hl] at e; cases e
  · cases e
@[simp] theorem dSum2_t (xss : List (List D)) : dSum2 (.tup (xss.map .tup)) (.tup []) = if xss.flatten.length ≤ sizeLine then some (.tup xss.flatten) else none := by
  rw [dSum2, tupsD_map]
@[simp] theorem dSum2_l (xss : List (List D)) : dSum2 (.lst (xss.map .tup)) (.tup []) = if xss.flatten.length ≤ sizeLine then some (.tup xss.flatten) else none := by
  rw [dSum2, tupsD_map]
end
end Fw
namespace Fw
open PySem PySem.Spec PyProof.Rows L2
section
variable {X : Cx} {W : WX} {a b : Expr} {oa ob : Opd} {pos p : Pos}
/-! ### truths among numbers -/
def rBI (g : Int → Int → Int) : R2 := fun x y H Q => ∃ k j, x = .bl k ∧ y = .int j ∧ Q (.int (g (if k = true then 1 else 0) j)) H
theorem op_addBI : OpR X (binaryOp .Add) (rBI (· + ·)) := by
  intro pins s σ H x y v u Q I rx ry h
  obtain ⟨k, j, rfl, rfl, q⟩ := h
  cases rx
  obtain ⟨t, rfl⟩ := ry
  exact PySem.IntBool.add_bool_int ⟨.int _, H, I.tok _, ⟨_, rfl⟩, q⟩
theorem op_subBI : OpR X (binaryOp .Sub) (rBI (· - ·)) := by
  intro pins s σ H x y v u Q I rx ry h
  obtain ⟨k, j, rfl, rfl, q⟩ := h
  cases rx
  obtain ⟨t, rfl⟩ := ry
  exact PySem.IntBool.sub_bool_int ⟨.int _, H, I.tok _, ⟨_, rfl⟩, q⟩
def bOp (g : Int → Int → Int) : D → D → Option D
  | .int i, .int j => some (.int (g i j))
  | .bl k, .int j => some (.int (g (if k = true then 1 else 0) j))
  | _, _ => none
@[simp] theorem bOp_i (g : Int → Int → Int) (i j : Int) : bOp g (.int i) (.int j) = some (.int (g i j)) := rfl
@[simp] theorem bOp_b (g : Int → Int → Int) (k : Bool) (j : Int) : bOp g (.bl k) (.int j) = some (.int (g (if k = true then 1 else 0) j)) := rfl
theorem ops_bi {g : Int → Int → Int} : OpS X (fun x y H Q => rI0 (fun i j => .int (g i j)) x y H Q ∨ rBI g x y H Q) (bOp g) := by
  intro g' I F s σ H Q x y dx dy d sm rx ry e q
  unfold bOp at e
  split at e
  · cases e
    exact .inl ⟨_, _, by rw [rx.int], by rw [ry.int], q _ F H sm (.int _)⟩
  · cases e
    exact .inr ⟨_, _, by rw [rx.bl], by rw [ry.int], q _ F H sm (.int _)⟩
  · cases e
theorem se_addB (ha : SO X W a oa) (hb : SO X W b ob) : SE X W (.BinOp a .Add b pos) (e2 (bOp (· + ·)) oa ob) := se_bin (OpR.or op_add op_addBI) ops_bi ha hb
theorem se_subB (ha : SO X W a oa) (hb : SO X W b ob) : SE X W (.BinOp a .Sub b pos) (e2 (bOp (· - ·)) oa ob) := se_bin (OpR.or op_sub op_subBI) ops_bi ha hb
/-! ### str(..) -/
def rStr : List V → Hp → VK → Prop := fun xs H Q => (∃ i, xs = [.int i] ∧ i.natAbs.log2 < 1920 ∧ Q (.str (toString i)) H) ∨ (∃ k : Bool, xs = [.bl k] ∧ Q (.str (if k then "True" else "False")) H) ∨ (xs = [.non] ∧ Q (.str "None") H) ∨ ∃ a, xs = [.str a] ∧ Q (.str a) H
theorem cr_str : CallR X (.type "str") rStr := by
  intro pins s σ H xs us Q I r h
  rcases h with h | ⟨k, rfl, q⟩ | ⟨rfl, q⟩ | h
  · exact call_str_int pins s σ H xs us Q I r h
  · obtain ⟨u, rfl, r1⟩ := vals1 r
    cases r1
    exact PySem.P.str_of_bool ⟨.str _, H, I.tok _, ⟨_, rfl⟩, q⟩
  · obtain ⟨u, rfl, r1⟩ := vals1 r
    cases r1
    exact PySem.P.str_of_none ⟨.str _, H, I.tok _, ⟨_, rfl⟩, q⟩
  · exact SkE.call_str_str pins s σ H xs us Q I r h
def strI (i : Int) : Str := (toString i : String)
def dStr : D → Option D
  | .int i => if i.natAbs.log2 < 1920 then some (.str (strI i)) else none
  | .bl k => some (.str (if k then "True" else "False"))
  | .non => some (.str "None")
  | .str x => some (.str x)
  | _ => none
@[simp] theorem dStr_i (i : Int) : dStr (.int i) = if i.natAbs.log2 < 1920 then some (.str (strI i)) else none := rfl
@[simp] theorem dStr_b (k : Bool) : dStr (.bl k) = some (.str (if k then "True" else "False")) := rfl
@[simp] theorem dStr_n : dStr .non = some (.str "None") := rfl
@[simp] theorem dStr_s (x : Str) : dStr (.str x) = some (.str x) := rfl
theorem se_str1 (hg : Gl X "str") (hm : X.mg "str" = none) (ha : SO X W a oa) (hst : starEach [a] X.env = (false, eval a X.env) :: starEach [] X.env := by rfl) : SE X W (.Call (.Name "str" p) [a] [] pos) (e1 dStr oa) := by
  refine se_c1 (fun h => pe_callTy cr_str hg hm (by decide +kernel) h (he := hst)) ?_ ha hst
  intro g I F s σ H Q x dx d sm rx e q
  cases dx with
  | int i =>
    by_cases hi : i.natAbs.log2 < 1920
    · rw [dStr_i, if_pos hi] at e
      cases e
      exact .inl ⟨i, by rw [rx.int], hi, q _ F H sm (.str _)⟩
    · rw [dStr_i, if_neg hi] at e
      cases e
  | bl k =>
    cases e
    exact .inr (.inl ⟨k, by rw [rx.bl], q _ F H sm (.str _)⟩)
  | non =>
    cases e
    exact .inr (.inr (.inl ⟨by rw [rx.non], q _ F H sm (.str _)⟩))
  | str z =>
    cases e
    exact .inr (.inr (.inr ⟨z, by rw [rx.str], q _ F H sm (.str _)⟩))
  | tup _ => cases e
  | lst _ => cases e
  | dct _ => cases e
  | obj _ => cases e
  | nm _ => cases e
/-! ### [..] * k -/
def kMulF (o : Ob) (y : Option D) : M Ob := fun s => match o, y with
  | .lst xs, some (.int k) => if 0 ≤ k ∧ k ≤ 1000 ∧ xs.length ≤ 1000 then .ok (.lst (List.replicate k.toNat xs).flatten) s else .stuck
  | _, _ => .stuck
def kMulF2 (o : Ob) : Rd1 → M Ob := fun y s => kMulF o (y.rd s) s
def kMulF1 (b : Opd) : Ob → M Ob := fun o s => (b.ev s).bnd (kMulF2 o)
def fMulF (f : M Ob) (b : Opd) : M Ob := fun s => (f s).bnd (kMulF1 b)
@[simp] theorem r_fMulF (f : M Ob) (b : Opd) (s : S) : fMulF f b s = (f s).bnd (kMulF1 b) := rfl
@[simp] theorem r_kMulF1 (b : Opd) (o : Ob) (s : S) : kMulF1 b o s = (b.ev s).bnd (kMulF2 o) := rfl
@[simp] theorem r_kMulF2 (o : Ob) (y : Rd1) (s : S) : kMulF2 o y s = kMulF o (y.rd s) s := rfl
@[simp] theorem r_kMulF (xs : List D) (k : Int) (s : S) : kMulF (.lst xs) (some (.int k)) s = if 0 ≤ k ∧ k ≤ 1000 ∧ xs.length ≤ 1000 then .ok (.lst (List.replicate k.toNat xs).flatten) s else .stuck := rfl
theorem RepL.rep {K : PySem.W.Frag} {I : List Addr} {F : Hp} {vs : List V} {ds : List D} (h : RepL K I F vs ds) : ∀ n : Nat, RepL K I F (List.replicate n vs).flatten (List.replicate n ds).flatten
  | 0 => .nil
  | n + 1 => by rw [List.replicate_succ, List.replicate_succ, List.flatten_cons, List.flatten_cons]; exact h.app (h.rep n)
theorem sf_mulF {f : M Ob} (ha : SF X W a f) (hb : SO X W b ob) : SF X W (.BinOp a .Mult b pos) (fMulF f ob) := by
  obtain ⟨ta, a1, a2⟩ := ha
  obtain ⟨tb, b1, b2⟩ := hb
  refine ⟨_, pe_op op_rep a1 b1, fun g I F s σ H Q x hq => ?_⟩
  refine a2 g I F s σ H _ x ?_
  rw [r_fMulF] at hq
  cases e1 : f s with
  | stuck => rw [e1] at hq; exact hq
  | ex c s1 => rw [e1] at hq; exact hq
  | ok bo s1 =>
    rw [e1, bnd_ok, r_kMulF1] at hq
    intro I1 F1 H1 p h1 x1 hp1 r1
    have bp : (g.at I1 F1).B p = none := by
      cases eb : g.B p with
      | none => exact eb
      | some u => rw [(x1.base p u eb).2] at hp1; cases hp1
    refine b2 ((g.at I1 F1).with_ p h1) I1 F1 s1 σ (upd H1 p h1) _ (x1.here.guard hp1) ?_
    cases e2 : ob.ev s1 with
    | stuck => rw [e2] at hq; exact hq
    | ex c s2 =>
      rw [e2] at hq
      intro I2 F2 H2 u x2 hu
      obtain ⟨H0, k1, k2, k3⟩ := x2.unguard bp
      rw [k2]
      exact hq I2 F2 _ u ((x1.back k3).fresh k1) hu
    | ok y s2 =>
      rw [e2, bnd_ok, r_kMulF2] at hq
      intro v I2 F2 H2 x2 ry
      obtain ⟨H0, k1, k2, k3⟩ := x2.unguard bp
      have y1 : Sim X.K g I2 F2 s2 σ H2 := by rw [k2]; exact (x1.back k3).fresh k1
      cases ey : y.rd s2 with
      | none => rw [ey] at hq; cases bo <;> exact hq.elim
      | some dy =>
        rw [ey] at hq
        have rwy := ry.rw x2 ey
        cases bo with
        | dct _ => exact hq.elim
        | ins _ _ => exact hq.elim
        | lst xs =>
          cases dy with
          | int k =>
            rw [r_kMulF] at hq
            by_cases hl : 0 ≤ k ∧ k ≤ 1000 ∧ xs.length ≤ 1000
            · rw [if_pos hl] at hq
              have r1' := r1.mono k3.mono k3.pre
              cases r1' with
              | @lst ws _ rl =>
                have hlen := rl.length
                refine ⟨p, k, ws, rfl, by rw [rwy.int], by rw [k2]; exact upd_same, by omega, by omega, ?_, fun q hqq => ?_⟩
                · rw [hlen, sizeLine_n]
                  have : xs.length * k.toNat ≤ 1000 * 1000 := Nat.mul_le_mul hl.2.2 (by omega)
                  omega
                · exact hq _ _ _ _ _ y1 hqq (.lst (rl.rep _))
            · rw [if_neg hl] at hq
              exact hq.elim
          | _ => exact hq.elim
end
end Fw
/-! list(zip(a, b)) of two lists -/
namespace LZ
open PySem PySem.W PySem.Spec PyProof.Rows L2
theorem zip_no_len : typeLookup (.type "zip") "__len__" = pure none := by rw [typeLookup_type, builtinLookup_eq_fast]; kernel_rfl
theorem zip_no_hint : typeLookup (.type "zip") "__length_hint__" = pure none := by rw [typeLookup_type, builtinLookup_eq_fast]; kernel_rfl
theorem ne_add {S : Addr} {B j : Nat} (h : S < B) : (B + j : Nat) ≠ S := Nat.ne_of_gt (Nat.lt_of_lt_of_le h (Nat.le_add_right B j))
structure Zs (h : Heap) (z TI TO i1 i2 l1 l2 : Addr) (xs ys : Array Value) (B i : Nat) : Prop where
  zs : (IsZip h z TI TO .none ∧ ∃ a b, IsPair h TO a b) ∨ ∃ T f oT, IsZipHeld h z TI TO T f ∧ h.get? T = some oT
  ti : IsPair h TI (.ref i1) (.ref i2)
  a1 : h.IsListIter i1 l1 i
  a2 : h.IsListIter i2 l2 i
  b1 : h.IsList l1 xs
  b2 : h.IsList l2 ys
  sz : h.objs.size = B + i
  prs : ∀ j, j < i → ∃ x y, xs[j]? = some x ∧ ys[j]? = some y ∧ IsPair h (B + j) x y
theorem Zs.type {h : Heap} {z TI TO i1 i2 l1 l2 : Addr} {xs ys : Array Value} {B i : Nat} (Z : Zs h z TI TO i1 i2 l1 l2 xs ys B i) (s : Shared) (e : s.heap = h) : s.TypeIs (.ref z) "zip" := by
  subst e
  rcases Z.zs with ⟨q, _⟩ | ⟨T, f, oT, q, _⟩
  · exact ⟨_, q, rfl⟩
  · exact ⟨_, q, rfl⟩
theorem Zs.keep {h h' : Heap} {z TI TO i1 i2 l1 l2 : Addr} {xs ys : Array Value} {B i : Nat} {S : Addr} (Z : Zs h z TI TO i1 i2 l1 l2 xs ys B i) (hS : S ≠ z ∧ S ≠ TI ∧ S ≠ TO ∧ S ≠ i1 ∧ S ≠ i2 ∧ S ≠ l1 ∧ S ≠ l2 ∧ S < B) (hk : ∀ b o, b ≠ S → h.get? b = some o → h'.get? b = some o) (hs : ∀ o, h.get? S = some o → ∃ o', h'.get? S = some o') (hz : h'.objs.size = h.objs.size) : Zs h' z TI TO i1 i2 l1 l2 xs ys B i := by
  obtain ⟨n1, n2, n3, n4, n5, n6, n7, n8⟩ := hS
  refine ⟨?_, hk _ _ (Ne.symm n2) Z.ti, Z.a1.at fun o q => hk _ o (Ne.symm n4) q, Z.a2.at fun o q => hk _ o (Ne.symm n5) q, ?_, ?_, by rw [hz]; exact Z.sz, fun j hj => ?_⟩
  · rcases Z.zs with ⟨q, a, b, q2⟩ | ⟨T, f, oT, q, q2⟩
    · exact .inl ⟨hk _ _ (Ne.symm n1) q, a, b, hk _ _ (Ne.symm n3) q2⟩
    · by_cases hT : T = S
      · subst hT
        obtain ⟨o', ho'⟩ := hs _ q2
        exact .inr ⟨T, f, o', hk _ _ (Ne.symm n1) q, ho'⟩
      · exact .inr ⟨T, f, oT, hk _ _ (Ne.symm n1) q, hk _ _ hT q2⟩
  · obtain ⟨o, e, c⟩ := Z.b1
    exact ⟨o, hk _ _ (Ne.symm n6) e, c⟩
  · obtain ⟨o, e, c⟩ := Z.b2
    exact ⟨o, hk _ _ (Ne.symm n7) e, c⟩
  · obtain ⟨x, y, h1, h2, h3⟩ := Z.prs j hj
    exact ⟨x, y, h1, h2, hk _ _ (ne_add n8) h3⟩
section
variable {prog : Program} {w : World} {A : Around} {E : Value → Shared → Prop} {R : Result → Shared → Prop} {z TI TO i1 i2 l1 l2 : Addr} {xs ys : Array Value} {B : Nat}
def refsZ (B n : Nat) : List Value := (List.range n).map fun (j : Nat) => Value.ref (B + j)
/-- the iterator's step -/
theorem stepZ {s : Shared} {i : Nat} {x y : Value} {Q : Option Value → Shared → Prop} (D : ZipApart z TI TO i1 i2 l1 l2) (hlt : z < B ∧ TI < B ∧ TO < B ∧ i1 < B ∧ i2 < B ∧ l1 < B ∧ l2 < B) (Z : Zs s.heap z TI TO i1 i2 l1 l2 xs ys B i) (hx : xs[i]? = some x) (hy : ys[i]? = some y)
    (hQ : ∀ h', Zs h' z TI TO i1 i2 l1 l2 xs ys B (i + 1) → (∀ c o, c ≠ z → c ≠ TO → c ≠ i1 → c ≠ i2 → s.heap.get? c = some o → h'.get? c = some o) → Q (some (.ref (B + i))) { s with heap := h' }) : wpAny (model prog w) A (pyNext (.ref z)) Q E s := by
  obtain ⟨zs, ti, a1, a2, b1, b2, sz, prs⟩ := Z
  obtain ⟨c1, c2, c3, c4, c5, c6, c7⟩ := hlt
  have fin : ∀ h', (IsZip h' z TI TO .none ∧ ∃ a b, IsPair h' TO a b) ∨ (∃ T f oT, IsZipHeld h' z TI TO T f ∧ h'.get? T = some oT) → h'.IsListIter i1 l1 (i + 1) → h'.IsListIter i2 l2 (i + 1) → IsPair h' s.heap.objs.size x y → h'.objs.size = s.heap.objs.size + 1 →
      (∀ c o, c ≠ z → c ≠ TO → c ≠ i1 → c ≠ i2 → s.heap.get? c = some o → h'.get? c = some o) → Q (some (.ref s.heap.objs.size)) { s with heap := h' } := by
    intro h' z' h1' h2' hT hsz hk
    rw [sz] at hT ⊢
    refine hQ h' ⟨z', hk _ _ D.TIz D.TITO D.TIi1 D.TIi2 ti, h1', h2', ?_, ?_, by rw [hsz, sz]; omega, fun j hj => ?_⟩ hk
    · obtain ⟨o, e, c⟩ := b1
      exact ⟨o, hk _ _ D.l1z D.l1TO D.l1i1 D.l1i2 e, c⟩
    · obtain ⟨o, e, c⟩ := b2
      exact ⟨o, hk _ _ D.l2z D.l2TO D.l2i1 D.l2i2 e, c⟩
    · by_cases hji : j = i
      · subst hji
        exact ⟨x, y, hx, hy, hT⟩
      · obtain ⟨x', y', g1, g2, g3⟩ := prs j (by omega)
        exact ⟨x', y', g1, g2, hk _ _ (ne_add c1) (ne_add c3) (ne_add c4) (ne_add c5) g3⟩
  rcases zs with ⟨q, a, b, q2⟩ | ⟨T, f, oT, q, q2⟩
  · exact wpAny_pyNext_zip_item D q ti q2 a1 a2 b1 b2 hx hy fun h' z' TO' h1' h2' hT hsz hk => fin h' (.inr ⟨_, false, _, z', hT⟩) h1' h2' hT hsz hk
  · refine wpAny_pyNext_zip_item_held D q q2 ti a1 a2 b1 b2 hx hy fun h' z' h1' h2' hT hsz hk => fin h' ?_ h1' h2' hT hsz fun c o e1 _ e3 e4 e5 => hk c o e1 e3 e4 e5
    by_cases e1 : T = z
    · subst e1; exact .inr ⟨_, true, _, z', z'⟩
    · by_cases e3 : T = i1
      · subst e3
        obtain ⟨o, e, _⟩ := h1'
        exact .inr ⟨_, true, _, z', e⟩
      · by_cases e4 : T = i2
        · subst e4
          obtain ⟨o, e, _⟩ := h2'
          exact .inr ⟨_, true, _, z', e⟩
        · exact .inr ⟨_, true, _, z', hk _ _ e1 e3 e4 q2⟩
theorem endZ {s : Shared} {i : Nat} {Q : Option Value → Shared → Prop} (hh : A.handled = none) (D : ZipApart z TI TO i1 i2 l1 l2) (Z : Zs s.heap z TI TO i1 i2 l1 l2 xs ys B i) (he : xs[i]? = none ∨ ys[i]? = none)
    (hQ : ∀ h', (∀ c o, c ≠ z → c ≠ TO → c ≠ i1 → c ≠ i2 → s.heap.get? c = some o → h'.get? c = some o) → Q none { s with heap := h' }) : wpAny (model prog w) A (pyNext (.ref z)) Q E s := by
  obtain ⟨zs, ti, a1, a2, b1, b2, sz, prs⟩ := Z
  rcases zs with ⟨q, a, b, q2⟩ | ⟨T, f, oT, q, q2⟩
  · exact wpAny_pyNext_zip_end hh D q ti q2 a1 a2 b1 b2 he hQ
  · exact wpAny_pyNext_zip_end_held hh D q q2 ti a1 a2 b1 b2 he fun h' hk => hQ h' fun c o e1 _ e3 e4 e5 => hk c o e1 e3 e4 e5
theorem loopZ (hh : A.handled = none) (D : ZipApart z TI TO i1 i2 l1 l2) (hlt : z < B ∧ TI < B ∧ TO < B ∧ i1 < B ∧ i2 < B ∧ l1 < B ∧ l2 < B) (n : Nat) (hn : n = min xs.size ys.size) (hl : n ≤ sizeLine) (S : Addr) (hS : S ≠ z ∧ S ≠ TI ∧ S ≠ TO ∧ S ≠ i1 ∧ S ≠ i2 ∧ S ≠ l1 ∧ S ≠ l2 ∧ S < B) (res : Value) :
    ∀ (k i : Nat) (s : Shared) (acc : Array Value) (c : Nat), n - i = k → i ≤ n → Zs s.heap z TI TO i1 i2 l1 l2 xs ys B i → s.heap.get? S = some { cls := .type "list", dict := none, data := .seq acc c, slots := #[] } → acc.toList = refsZ B i →
    (∀ h' acc' c', (∀ b o, b ≠ S → b ≠ z → b ≠ TO → b ≠ i1 → b ≠ i2 → s.heap.get? b = some o → h'.get? b = some o) → (∀ j, j < n → ∃ x y, xs[j]? = some x ∧ ys[j]? = some y ∧ IsPair h' (B + j) x y) → h'.get? S = some { cls := .type "list", dict := none, data := .seq acc' c', slots := #[] } → acc'.toList = refsZ B n → R (.ok (.ret res)) { s with heap := h' }) →
    codeAny (model prog w) A (.builtin "list.extend.loop" ⟨[.ref S, .ref z, res], []⟩) R s := by
  obtain ⟨n1, n2, n3, n4, n5, n6, n7, n8⟩ := id hS
  obtain ⟨c1, c2, c3, c4, c5, c6, c7⟩ := id hlt
  intro k
  induction k with
  | zero =>
    intro i s acc c hk hi hst hSS hacc hR
    have hin : i = n := by omega
    subst hin
    refine codeAny_builtin F.entry_extend_loop ?_
    rw [Around.under_plainId F.plain_extend_loop _]
    show wpAny _ A.in1 (pyNext (.ref z) >>= _) _ _ s
    have he : xs[i]? = none ∨ ys[i]? = none := by
      by_cases hx : xs.size ≤ i
      · exact .inl (by simp; omega)
      · exact .inr (by simp; omega)
    refine wpAny_bind (endZ (show A.in1.handled = none from hh) D hst he fun h' hk => ?_)
    refine wpAny_pure (hR h' acc c (fun b o _ e1 e2 e3 e4 e5 => hk b o e1 e2 e3 e4 e5) (fun j hj => ?_) (hk _ _ n1 n3 n4 n5 hSS) hacc)
    obtain ⟨x, y, g1, g2, g3⟩ := hst.prs j hj
    exact ⟨x, y, g1, g2, hk _ _ (ne_add c1) (ne_add c3) (ne_add c4) (ne_add c5) g3⟩
  | succ k ih =>
    intro i s acc c hk hi hst hSS hacc hR
    have hlt' : i < n := by omega
    obtain ⟨x, hx⟩ : ∃ x, xs[i]? = some x := ⟨xs[i]'(by omega), Array.getElem?_eq_getElem (by omega)⟩
    obtain ⟨y, hy⟩ : ∃ y, ys[i]? = some y := ⟨ys[i]'(by omega), Array.getElem?_eq_getElem (by omega)⟩
    refine codeAny_builtin F.entry_extend_loop ?_
    rw [Around.under_plainId F.plain_extend_loop _]
    show wpAny _ A.in1 (pyNext (.ref z) >>= _) _ _ s
    refine wpAny_bind (stepZ D hlt hst hx hy fun h' hst' hk' => ?_)
    have hS' := hk' _ _ n1 n3 n4 n5 hSS
    show wpAny _ A.in1 (updateSeq S (·.push (.ref (B + i))) >>= _) _ _ _
    have hsz : acc.size = i := by
      have := congrArg List.length hacc
      simpa [refsZ] using this
    refine wpAny_bind ?_
    refine wpAny_updateSeq hS' rfl (wpAny_pure ⟨plainId_quiet F.plain_extend_loop _, ih (i + 1) _ (acc.push (.ref (B + i))) _ (by omega) hlt' (hst'.keep hS (fun b o hb e => (Heap.get?_update_other _ _ (Ne.symm hb)).trans e) (fun o _ => ⟨_, Heap.get?_update_self _ hS' rfl⟩) ?_) (Heap.get?_update_self _ hS' rfl) ?_ fun h'' acc' c' hk'' hp hS'' hacc' => ?_⟩)
      (by rw [hsz]; omega) (by show (acc.push _).size ≤ sizeLine + 1; rw [Array.size_push, hsz]; omega)
    · exact Heap.size_update ..
    · rw [Array.toList_push, hacc]
      unfold refsZ
      rw [List.range_succ, List.map_append]
      rfl
    · exact hR h'' acc' c' (fun b o e1 e2 e3 e4 e5 e6 => hk'' b o e1 e2 e3 e4 e5 ((Heap.get?_update_other _ _ (Ne.symm e1)).trans (hk' b o e2 e3 e4 e5 e6))) hp hS'' hacc'
theorem extZ {s : Shared} (hh : A.handled = none) (D : ZipApart z TI TO i1 i2 l1 l2) (hlt : z < B ∧ TI < B ∧ TO < B ∧ i1 < B ∧ i2 < B ∧ l1 < B ∧ l2 < B) (n : Nat) (hn : n = min xs.size ys.size) (hl : n ≤ sizeLine) (S : Addr) (hS : S ≠ z ∧ S ≠ TI ∧ S ≠ TO ∧ S ≠ i1 ∧ S ≠ i2 ∧ S ≠ l1 ∧ S ≠ l2 ∧ S < B) (res : Value) (c₀ : Nat)
    (Z : Zs s.heap z TI TO i1 i2 l1 l2 xs ys B 0) (hSS : s.heap.get? S = some { cls := .type "list", data := .seq #[] c₀ })
    (hR : ∀ h' acc' c', (∀ b o, b ≠ S → b ≠ z → b ≠ TO → b ≠ i1 → b ≠ i2 → s.heap.get? b = some o → h'.get? b = some o) → (∀ j, j < n → ∃ x y, xs[j]? = some x ∧ ys[j]? = some y ∧ IsPair h' (B + j) x y) → h'.get? S = some { cls := .type "list", dict := none, data := .seq acc' c', slots := #[] } → acc'.toList = refsZ B n → R (.ok (.ret res)) { s with heap := h' }) :
    wpAny (model prog w) A.in1 (Builtin.List.listExtendWith (.ref S) (.ref z) res)
      (fun fin s' => match fin with | .done f => R (.ok f) s' | .again c' => c'.quiet = true ∧ codeAny (model prog w) A c' R s') (fun e s' => R (.error e) s') s := by
  have hT := Z.type s rfl
  unfold Builtin.List.listExtendWith
  refine wpAny_bind (wpAny_typeOf hT ?_)
  have h1 : Builtin.List.listSameRef (.ref S) (.ref z) = false := by simp [Builtin.List.listSameRef, hS.1]
  have h2 : (Value.type "zip" == Value.type "list") = false := by decide
  have h3 : (Value.type "zip" == Value.type "tuple") = false := by decide
  simp only [h1, h2, h3, Bool.or_false, Bool.false_eq_true, if_false]
  have hself : ∀ {Q : Value → Shared → Prop} {E : Value → Shared → Prop}, Q (.ref z) s → wpAny (model prog w) A.in1 (pyIter (.ref z)) Q E s := fun {Q E} q => by
    rcases Z.zs with ⟨q1, _⟩ | ⟨T, f, oT, q1, _⟩
    · exact wpAny_pyIter_zip q1 q
    · refine wpAny_pyIter_slot hT F.slot_zip_iter (wpAny_call_entry F.slot_zip_iter hT F.entry_zip_iter ?_ (F.args_zip_iter_1 _))
      show wpAny _ _ (ret (.ref z)) _ _ s
      exact wpAny_pure ⟨_, rfl, "zip", _, hT, F.slot_zip_next.lookup, q⟩
  refine wpAny_bind (hself ?_)
  refine wpAny_bind (wpAny_holding ?_)
  unfold Builtin.List.listLengthHint
  refine wpAny_bind (wpAny_specialOf hT zip_no_len ?_)
  show wpAny _ A.in1 (specialOf (Value.ref z) (Str.ofString "__length_hint__") >>= _) _ _ _
  refine wpAny_bind (wpAny_specialOf hT zip_no_hint ?_)
  refine wpAny_pure ?_
  show wpAny _ A.in1 (rule "list.extend.makes-room" >>= fun _ => Builtin.List.listTouch (.ref S) >>= fun _ =>
    again (.builtin "list.extend.loop" ⟨[.ref S, .ref z, res], []⟩)) _ _ _
  refine wpAny_bind (wpAny_rule ?_)
  refine wpAny_bind ?_
  show wpAny _ A.in1 (updateSeq S (·.push .none) >>= fun _ => updateSeq S (·.pop)) _ _ _
  refine wpAny_bind (wpAny_updateSeq hSS rfl ?_)
  have hS₂ := Heap.get?_update_self (Obj.mapSeq (·.push Value.none)) hSS rfl
  refine wpAny_updateSeq (hz := by seq_fits) hS₂ rfl ?_
  have hS₃ := Heap.get?_update_self (Obj.mapSeq (·.pop)) hS₂ rfl
  have oth : ∀ b o, b ≠ S → s.heap.get? b = some o → ((s.heap.update S (Obj.mapSeq (·.push Value.none))).update S (Obj.mapSeq (·.pop))).get? b = some o :=
    fun b o hb e => (Heap.get?_update_other _ _ (Ne.symm hb)).trans ((Heap.get?_update_other _ _ (Ne.symm hb)).trans e)
  refine wpAny_pure ⟨plainId_quiet F.plain_extend_loop _, loopZ hh D hlt n hn hl S hS _ n 0 _ _ _ rfl (Nat.zero_le _)
    (Z.keep hS oth (fun o _ => ⟨_, hS₃⟩) ((Heap.size_update ..).trans (Heap.size_update ..))) hS₃ rfl fun h' acc' c' hk hp hS' hacc => ?_⟩
  exact hR h' acc' c' (fun b o e1 e2 e3 e4 e5 e6 => hk b o e1 e2 e3 e4 e5 (oth b o e1 e6)) hp hS' hacc
theorem initZ {s : Shared} (hh : A.handled = none) (D : ZipApart z TI TO i1 i2 l1 l2) (hlt : z < B ∧ TI < B ∧ TO < B ∧ i1 < B ∧ i2 < B ∧ l1 < B ∧ l2 < B) (n : Nat) (hn : n = min xs.size ys.size) (hl : n ≤ sizeLine) (S : Addr) (hS : S ≠ z ∧ S ≠ TI ∧ S ≠ TO ∧ S ≠ i1 ∧ S ≠ i2 ∧ S ≠ l1 ∧ S ≠ l2 ∧ S < B)
    (Z : Zs s.heap z TI TO i1 i2 l1 l2 xs ys B 0) (hSS : s.heap.get? S = some { cls := .type "list", data := .seq #[] })
    (hR : ∀ h' acc' c', (∀ b o, b ≠ S → b ≠ z → b ≠ TO → b ≠ i1 → b ≠ i2 → s.heap.get? b = some o → h'.get? b = some o) → (∀ j, j < n → ∃ x y, xs[j]? = some x ∧ ys[j]? = some y ∧ IsPair h' (B + j) x y) → h'.get? S = some { cls := .type "list", dict := none, data := .seq acc' c', slots := #[] } → acc'.toList = refsZ B n → R (.ok (.ret .none)) { s with heap := h' }) :
    wpAny (model prog w) A.in1 (Builtin.«list.__init__» ⟨[.ref S, .ref z], []⟩)
      (fun fin s' => match fin with | .done f => R (.ok f) s' | .again c' => c'.quiet = true ∧ codeAny (model prog w) A c' R s') (fun e s' => R (.error e) s') s := by
  show wpAny _ A.in1 (do let old ← Builtin.List.listItems (.ref S); Builtin.List.listUpdate (.ref S) (fun _ => #[]); letGo old.toList.reverse; Builtin.List.listExtendWith (.ref S) (.ref z) .none) _ _ s
  refine wpAny_bind ?_
  unfold Builtin.List.listItems
  refine wpAny_bind (wpAny_seqItems hSS rfl (wpAny_pure ?_))
  show wpAny _ A.in1 (updateSeq S (fun _ => #[]) >>= fun _ => letGo (#[] : Array Value).toList.reverse >>= fun _ => Builtin.List.listExtendWith (.ref S) (.ref z) .none) _ _ s
  refine wpAny_bind (wpAny_updateSeq hSS rfl ?_)
  have hS₂ := Heap.get?_update_self (Obj.mapSeq (fun _ => (#[] : Array Value))) hSS rfl
  have oth : ∀ b o, b ≠ S → s.heap.get? b = some o → (s.heap.update S (Obj.mapSeq (fun _ => (#[] : Array Value)))).get? b = some o :=
    fun b o hb e => (Heap.get?_update_other _ _ (Ne.symm hb)).trans e
  refine wpAny_bind (wpAny_letGo ?_)
  refine extZ hh D hlt n hn hl S hS .none _ (Z.keep hS oth (fun o _ => ⟨_, hS₂⟩) (Heap.size_update ..)) hS₂ fun h' acc' c' hk hp hS' hacc => ?_
  exact hR h' acc' c' (fun b o e1 e2 e3 e4 e5 e6 => hk b o e1 e2 e3 e4 e5 (oth b o e1 e6)) hp hS' hacc
theorem call_list_zip {s : Shared} {Q : Value → Shared → Prop} (hh : A.handled = none) (D : ZipApart z TI TO i1 i2 l1 l2) (hlt : z < s.heap.objs.size ∧ TI < s.heap.objs.size ∧ TO < s.heap.objs.size ∧ i1 < s.heap.objs.size ∧ i2 < s.heap.objs.size ∧ l1 < s.heap.objs.size ∧ l2 < s.heap.objs.size) (n : Nat) (hn : n = min xs.size ys.size) (hl : n ≤ sizeLine)
    (Z : Zs s.heap z TI TO i1 i2 l1 l2 xs ys s.heap.objs.size 0)
    (hQ : ∀ h' acc' c', (∀ b o, b ≠ z → b ≠ TO → b ≠ i1 → b ≠ i2 → s.heap.get? b = some o → h'.get? b = some o) → (∀ j, j < n → ∃ x y, xs[j]? = some x ∧ ys[j]? = some y ∧ IsPair h' (s.heap.objs.size + 1 + j) x y) → h'.get? s.heap.objs.size = some { cls := .type "list", dict := none, data := .seq acc' c', slots := #[] } → acc'.toList = refsZ (s.heap.objs.size + 1) n → Q (.ref s.heap.objs.size) { s with heap := h' }) :
    wpAny (model prog w) A (call (.type "list") [.ref z]) Q E s := by
  obtain ⟨c1, c2, c3, c4, c5, c6, c7⟩ := id hlt
  refine callType_codes (Q₁ := fun obj s₁ => obj = .ref s.heap.objs.size ∧ s₁ = { s with heap := s.heap.push { cls := .type "list", data := .seq #[] } }) F.called_list (F.typeCall_list_1 _) F.entry_list_init
    (code_list_new _ ⟨rfl, rfl⟩) fun obj s₁ h₁ => ?_
  obtain ⟨rfl, rfl⟩ := h₁
  have hS : (s.heap.push { cls := .type "list", data := .seq #[] }).get? s.heap.objs.size = some { cls := .type "list", data := .seq #[] } := Heap.get?_push_size _ rfl
  have up : ∀ {a : Addr}, a < s.heap.objs.size → a < s.heap.objs.size + 1 := fun h => Nat.lt_succ_of_lt h
  have kp : ∀ b o, s.heap.get? b = some o → (s.heap.push { cls := .type "list", data := .seq #[] }).get? b = some o := fun b o e => Heap.get?_push_of_some _ e
  refine ⟨⟨_, hS, rfl⟩, F.args_list_init_2 _ _, initZ (A := A.in1) (B := s.heap.objs.size + 1) hh D ⟨up c1, up c2, up c3, up c4, up c5, up c6, up c7⟩ n hn hl s.heap.objs.size ⟨Nat.ne_of_gt c1, Nat.ne_of_gt c2, Nat.ne_of_gt c3, Nat.ne_of_gt c4, Nat.ne_of_gt c5, Nat.ne_of_gt c6, Nat.ne_of_gt c7, Nat.lt_succ_self _⟩ ?_ hS fun h' acc' c' hk hp hS' hacc => ?_⟩
  · refine ⟨?_, kp _ _ Z.ti, Z.a1.at fun o q => kp _ o q, Z.a2.at fun o q => kp _ o q, ?_, ?_, Heap.size_push .., fun j hj => absurd hj (Nat.not_lt_zero _)⟩
    · rcases Z.zs with ⟨q, a, b, q2⟩ | ⟨T, f, oT, q, q2⟩
      · exact .inl ⟨kp _ _ q, a, b, kp _ _ q2⟩
      · exact .inr ⟨T, f, oT, kp _ _ q, kp _ _ q2⟩
    · obtain ⟨o, e, c⟩ := Z.b1
      exact ⟨o, kp _ _ e, c⟩
    · obtain ⟨o, e, c⟩ := Z.b2
      exact ⟨o, kp _ _ e, c⟩
  · exact ⟨rfl, hQ h' acc' c' (fun b o e1 e2 e3 e4 e6 => hk b o (Nat.ne_of_lt (Heap.lt_size e6)) e1 e2 e3 e4 (kp _ _ e6)) hp hS' hacc⟩
end
end LZ
namespace L2
open PySem PySem.Spec PyProof.Rows
/-- list(zip(a, b)): a new list, new pairs -/
def tLZ (K : PySem.W.Frag) (ta : TA) : TE := fun σ H Q => ta σ H fun vs H1 => ∃ a b xs ys, vs = [.ref a, .ref b] ∧ SqL K H1 a xs ∧ SqL K H1 b ys ∧
  ∀ (H2 : Hp) (l : Addr) (as : List Addr), (∀ c o, H1 c = some o → H2 c = some o) → H1 l = none → H2 l = some (.lst (as.map V.ref)) → as.length = min xs.length ys.length → l ∉ as →
    (∀ (j : Nat) (c : Addr), as[j]? = some c → ∃ x y, xs[j]? = some x ∧ ys[j]? = some y ∧ H1 c = none ∧ H2 c = some (.tup [x, y])) → Q (.ref l) H2
theorem vals_refsZ (B n : Nat) : Vals (((List.range n).map fun (j : Nat) => (B + j : Addr)).map V.ref) (LZ.refsZ B n) := by
  unfold LZ.refsZ
  have : (List.range n).map (fun (j : Nat) => Value.ref (B + j)) = ((List.range n).map fun (j : Nat) => (B + j : Addr)).map Value.ref := by rw [List.map_map]; rfl
  rw [this]
  exact vals_refs _
theorem pe_listZip {X : Cx} {e e2 : Expr} {ta : TA} {p p2 q pos : Pos} (hc : X.calm = true) (hgl : Gl X "list") (hml : X.mg "list" = none) (hg : Gl X "zip") (hm : X.mg "zip" = none) (ha : PA X [e, e2] ta)
    (hs : starEach [e, e2] X.env = (false, eval e X.env) :: starEach [e2] X.env := by rfl) (hpl : (backTo q (starEach [e2] X.env)).any (·.1) = false := by rfl)
    (hz : starEach [.Call (.Name "zip" p2) [e, e2] [] q] X.env = (false, eval (.Call (.Name "zip" p2) [e, e2] [] q) X.env) :: starEach [] X.env := by rfl) :
    PE X (.Call (.Name "list" p) [.Call (.Name "zip" p2) [e, e2] [] q] [] pos) (tLZ X.K ta) := by
  refine ⟨fun pins s σ H Q I h => ?_⟩
  refine Call_ (ld_blt I hgl hml boot_list ?_)
  refine PyProof.Rows.callWith_type1 (PyProof.Rows.args_cons ?_ hz) hz rfl
  refine Call_ (ld_blt I hg hm PyProof.Rows.boot_zip (PyProof.Rows.callWith_type1 (thn (ha.run q pins s σ H _ I h) fun us s1 ⟨vs, H1, I1, r1, q1⟩ => ?_) hs hpl))
  obtain ⟨a, b, xs, ys, ex, hqx, hqy, q1⟩ := q1
  subst ex
  cases r1 with
  | cons r rr =>
    cases rr with
    | cons r' rr =>
      cases rr
      cases r
      cases r'
      obtain ⟨its, rv, p1, hz1⟩ := I1.list hqx
      obtain ⟨its2, rv2, p2', hz2⟩ := I1.list hqy
      have la : a < s1.heap.objs.size := p1.lt
      have lb : b < s1.heap.objs.size := p2'.lt
      refine call_zip_2 p1.isList p2'.isList fun h' z' TI' TO' h1' h2' hsz hk => PyProof.Rows.args_nil ?_
      have D := zipApart_new (n := s1.heap.objs.size) la lb
      have l1 : ∀ k, k < 5 → s1.heap.objs.size + k < h'.objs.size := fun k hk => by rw [hsz]; omega
      have la' : a < h'.objs.size := by rw [hsz]; exact Nat.lt_of_lt_of_le la (Nat.le_add_right _ _)
      have lb' : b < h'.objs.size := by rw [hsz]; exact Nat.lt_of_lt_of_le lb (Nat.le_add_right _ _)
      have b1 : h'.IsList a its.toArray := by
        obtain ⟨o, e, c⟩ := p1.isList
        exact ⟨o, hk _ _ e, c⟩
      have b2 : h'.IsList b its2.toArray := by
        obtain ⟨o, e, c⟩ := p2'.isList
        exact ⟨o, hk _ _ e, c⟩
      refine LZ.call_list_zip (s := { s1 with heap := h' }) (I1.ok.hd hc) D ⟨l1 4 (by decide), l1 2 (by decide), l1 3 (by decide), l1 0 (by decide), l1 1 (by decide), la', lb'⟩ (min its.length its2.length) (by simp) ?_
        ⟨.inl ⟨z', _, _, TO'⟩, TI', h1', h2', b1, b2, rfl, fun j hj => absurd hj (Nat.not_lt_zero _)⟩ fun h'' acc c hk2 hp hS hacc => ?_
      · have := rv.length
        omega
      · have keep : ∀ c o, s1.heap.get? c = some o → h''.get? c = some o := fun c o e => by
          have hl := Heap.lt_size e
          exact hk2 c o (Nat.ne_of_lt (Nat.lt_of_lt_of_le hl (Nat.le_add_right _ _))) (Nat.ne_of_lt (Nat.lt_of_lt_of_le hl (Nat.le_add_right _ _))) (Nat.ne_of_lt hl) (Nat.ne_of_lt (Nat.lt_of_lt_of_le hl (Nat.le_add_right _ _))) (hk c o e)
        have I2 : Inv X pins σ H1 { s1 with heap := h'', toks := s1.toks } := I1.kept keep
        obtain ⟨n, hn⟩ : ∃ n, n = min its.length its2.length := ⟨_, rfl⟩
        obtain ⟨B, hB⟩ : ∃ B, B = h'.objs.size + 1 := ⟨_, rfl⟩
        have hBs : s1.heap.objs.size ≤ B := by rw [hB, hsz]; omega
        obtain ⟨as, has⟩ : ∃ as : List Addr, as = (List.range n).map fun (j : Nat) => (B + j : Addr) := ⟨_, rfl⟩
        have asget : ∀ (j : Nat) (c : Addr), as[j]? = some c → j < n ∧ c = B + j := fun j c hj => by
          rw [has, List.getElem?_map] at hj
          cases hr : (List.range n)[j]? with
          | none => rw [hr] at hj; cases hj
          | some k =>
            rw [hr] at hj
            have hlt : j < n := by
              have := (List.getElem?_eq_some_iff.mp hr).1
              simpa using this
            rw [List.getElem?_range hlt] at hr
            cases hr
            exact ⟨hlt, (Option.some.inj hj).symm⟩
        have nd : as.Nodup := by
          rw [has]
          rw [List.nodup_iff_pairwise_ne, List.pairwise_map]
          exact List.Pairwise.imp (fun h e => h (Nat.add_left_cancel e)) List.nodup_range
        have hpair : ∀ (j : Nat) (c : Addr), as[j]? = some c → ∃ x y, xs[j]? = some x ∧ ys[j]? = some y ∧ H1 c = none ∧ s1.heap.objs.size ≤ c ∧ ∀ H2, ObjOk X.prog X.w H2 h'' c (.tup [x, y]) := fun j c hj => by
          obtain ⟨hj1, rfl⟩ := asget j c hj
          obtain ⟨u, u2, g1, g2, g3⟩ := hp j (by rw [← hn]; exact hj1)
          obtain ⟨x, hx⟩ : ∃ x, xs[j]? = some x := ⟨xs[j]'(by have := rv.length; omega), List.getElem?_eq_getElem _⟩
          obtain ⟨y, hy⟩ : ∃ y, ys[j]? = some y := ⟨ys[j]'(by have := rv2.length; omega), List.getElem?_eq_getElem _⟩
          obtain ⟨v1, hv1, rv1⟩ := rv.get hx
          obtain ⟨v2, hv2, rv2'⟩ := rv2.get hy
          have e1 : v1 = u := by
            have : its.toArray[j]? = some v1 := by simpa using hv1
            rw [this] at g1; exact Option.some.inj g1
          have e2 : v2 = u2 := by
            have : its2.toArray[j]? = some v2 := by simpa using hv2
            rw [this] at g2; exact Option.some.inj g2
          subst e1 e2
          have hle : s1.heap.objs.size ≤ B + j := Nat.le_trans hBs (Nat.le_add_right _ _)
          rw [hB]
          refine ⟨x, y, hx, hy, I1.hok.fresh (by rw [← hB]; exact hle), by rw [← hB]; exact hle, fun H2 => ⟨by show 2 ≤ sizeLine; decide, [v1, v2], .cons rv1 (.cons rv2' .nil), ⟨_, g3, rfl, _, rfl⟩⟩⟩
        have hlS : s1.heap.objs.size ≤ h'.objs.size := by rw [hsz]; omega
        have hnS : h'.objs.size ∉ as := fun hm => by
          obtain ⟨j, hj⟩ := List.getElem?_of_mem hm
          have := (asget j _ hj).2
          have h2 : h'.objs.size < B + j := by rw [hB]; omega
          exact Nat.ne_of_lt h2 this
        have hH1 : H1 h'.objs.size = none := I1.hok.fresh hlS
        have hlen : as.length = n := by rw [has, List.length_map, List.length_range]
        have hn1 := rv.length
        have hn2 := rv2.length
        have newL : ObjOk X.prog X.w (upd H1 h'.objs.size (.lst (as.map V.ref))) h'' h'.objs.size (.lst (as.map V.ref)) := by
          refine ⟨by rw [List.length_map, hlen]; omega, LZ.refsZ B n, c, ?_, ?_⟩
          · rw [has]
            exact vals_refsZ B n
          · have : acc = (LZ.refsZ B n).toArray := by
              rw [← hn, ← hB] at hacc
              rw [← hacc]
            rw [← this]
            exact hS
        have I2' : Inv X pins σ (upd H1 h'.objs.size (.lst (as.map V.ref))) { s1 with heap := h'', toks := s1.toks } := I2.take (h' := h'') (t' := s1.toks) (fun b ob _ e => e) (I1.fpOk hlS hH1) newL
        obtain ⟨H2, I3, k1, k2⟩ := DX.takeT (P := fun c vs => ∀ j, as[j]? = some c → ∃ x y, xs[j]? = some x ∧ ys[j]? = some y ∧ vs = [x, y]) I1 as _ I2' nd (fun c hc => by
          obtain ⟨j, hj⟩ := List.getElem?_of_mem hc
          obtain ⟨x, y, e1, e2, e3, e4, e5⟩ := hpair j c hj
          refine ⟨e4, by rw [upd_ne (fun z => hnS (by rw [← z]; exact hc))]; exact e3, [x, y], fun j' hj' => ?_, e5⟩
          have : j' = j := by
            have a1 := (asget j c hj).2
            have a2 := (asget j' c hj').2
            rw [a1] at a2
            exact (Nat.add_left_cancel a2).symm
          subst this
          exact ⟨x, y, e1, e2, rfl⟩)
        refine ⟨.ref h'.objs.size, H2, I3, rfl, q1 H2 h'.objs.size as (fun c o e => k1 c o (by rw [upd_ne (ne_of_none e hH1)]; exact e)) hH1 (k1 _ _ upd_same) (by rw [hlen]; omega) hnS fun j c hj => ?_⟩
        obtain ⟨x, y, e1, e2, e3, e4, e5⟩ := hpair j c hj
        obtain ⟨vs, hP, hv⟩ := k2 c (List.mem_of_getElem? hj)
        obtain ⟨x', y', f1, f2, rfl⟩ := hP j hj
        exact ⟨x', y', f1, f2, e3, hv⟩
end L2
namespace Fw
open PySem L2
section
variable {X : Cx} {W : WX} {a b : Expr} {p p2 q pos : Pos}
def kLZ : List D → M D := fun ds s => match ds with
  | [.lst xs, .lst ys] => .ok (.lst (zipD xs ys)) s
  | _ => .stuck
def eLZ (f : M (List D)) : M D := fun s => (f s).bnd kLZ
@[simp] theorem r_eLZ (f : M (List D)) (s : S) : eLZ f s = (f s).bnd kLZ := rfl
@[simp] theorem r_kLZ (xs ys : List D) (s : S) : kLZ [.lst xs, .lst ys] s = .ok (.lst (zipD xs ys)) s := rfl
theorem repL_get {K : PySem.W.Frag} {I : List Addr} {F : Hp} : ∀ {vs : List V} {ds : List D} {i : Nat} {v : V}, RepL K I F vs ds → vs[i]? = some v → ∃ d, ds[i]? = some d ∧ Rep K I F v d
  | _, _, _, _, .nil, e => by simp at e
  | _, _, 0, _, .cons r _, e => by simp at e; subst e; exact ⟨_, rfl, r⟩
  | _, _, i + 1, d, .cons _ t, e => by
    obtain ⟨d, h1, h2⟩ := repL_get (i := i) t (by simpa using e)
    exact ⟨d, by simpa using h1, h2⟩
theorem repL_of {K : PySem.W.Frag} {I : List Addr} {F : Hp} : ∀ {vs : List V} {ds : List D}, vs.length = ds.length → (∀ (j : Nat) (v : V) (d : D), vs[j]? = some v → ds[j]? = some d → Rep K I F v d) → RepL K I F vs ds
  | [], [], _, _ => .nil
  | [], _ :: _, h, _ => by simp at h
  | _ :: _, [], h, _ => by simp at h
  | v :: vs, d :: ds, h, k => .cons (k 0 v d rfl rfl) (repL_of (by simpa using h) fun j v d h1 h2 => k (j + 1) v d (by simpa using h1) (by simpa using h2))
theorem se_listZip {f : M (List D)} (hc : X.calm = true) (hgl : Gl X "list") (hml : X.mg "list" = none) (hg : Gl X "zip") (hm : X.mg "zip" = none) (ha : SA X W [a, b] f)
    (hs : starEach [a, b] X.env = (false, eval a X.env) :: starEach [b] X.env := by rfl) (hpl : (backTo q (starEach [b] X.env)).any (·.1) = false := by rfl)
    (hz : starEach [.Call (.Name "zip" p2) [a, b] [] q] X.env = (false, eval (.Call (.Name "zip" p2) [a, b] [] q) X.env) :: starEach [] X.env := by rfl) :
    SE X W (.Call (.Name "list" p) [.Call (.Name "zip" p2) [a, b] [] q] [] pos) (eLZ f) := by
  obtain ⟨t, a1, a2⟩ := ha
  refine ⟨_, pe_listZip hc hgl hml hg hm a1 hs hpl hz, fun g I F s σ H Q x hq => a2 g I F s σ H _ x ?_⟩
  unfold eLZ at hq
  cases e1 : f s with
  | stuck => rw [e1] at hq; exact hq
  | ex c s1 => rw [e1] at hq; exact hq
  | ok ds s1 =>
    rw [e1, bnd_ok] at hq
    intro vs I1 F1 H1 x1 r1
    unfold kLZ at hq
    split at hq
    · rename_i xs ys
      cases r1 with
      | cons ra rr =>
        cases rr with
        | cons rb rr =>
          cases rr
          cases ra with
          | @lst pa va _ qa la =>
            cases rb with
            | @lst pb vb _ qb lb =>
              refine ⟨pa, pb, va, vb, rfl, same_sqL x1.sub qa, same_sqL x1.sub qb, fun H2 l as k1 k2 k3 k4 k5 k6 => ?_⟩
              obtain ⟨F2, hF2⟩ : ∃ F2 : Hp, F2 = fun c => if c = l ∨ c ∈ as then H2 c else F1 c := ⟨_, rfl⟩
              have new : ∀ c, (c = l ∨ c ∈ as) → H1 c = none := fun c hc => by
                rcases hc with rfl | hc
                · exact k2
                · obtain ⟨j, hj⟩ := List.getElem?_of_mem hc
                  obtain ⟨_, _, _, _, h5, _⟩ := k6 j c hj
                  exact h5
              have old : ∀ c o, F1 c = some o → F2 c = some o := fun c o e => by
                have : ¬ (c = l ∨ c ∈ as) := fun z => by have := new c z; rw [x1.sub _ _ e] at this; cases this
                rw [hF2]
                show (if c = l ∨ c ∈ as then H2 c else F1 c) = _
                rw [if_neg this]
                exact e
              have le : Le F1 F2 := Le.of_same old
              have atl : F2 l = some (.lst (as.map V.ref)) := by
                rw [hF2]
                show (if l = l ∨ l ∈ as then H2 l else F1 l) = _
                rw [if_pos (.inl rfl)]
                exact k3
              have x2 : Sim X.K g I1 F2 s1 σ H2 := by
                refine x1.grow le (fun c o e => ?_) (fun c o e nf => ?_)
                · rw [hF2] at e
                  have e' : (if c = l ∨ c ∈ as then H2 c else F1 c) = some o := e
                  by_cases z : c = l ∨ c ∈ as
                  · rw [if_pos z] at e'; exact e'
                  · rw [if_neg z] at e'; exact k1 _ _ (x1.sub _ _ e')
                · have : ¬ (c = l ∨ c ∈ as) := fun z => by have := new c z; rw [e] at this; cases this
                  refine ⟨?_, k1 _ _ e⟩
                  rw [hF2]
                  show (if c = l ∨ c ∈ as then H2 c else F1 c) = _
                  rw [if_neg this]
                  exact nf
              refine hq _ _ _ _ x2 (.lst (SqL.of atl) (repL_of ?_ fun j v d hv hd => ?_))
              · rw [List.length_map, k4, zipD_len, la.length, lb.length]
              · rw [List.getElem?_map] at hv
                cases hj : as[j]? with
                | none => rw [hj] at hv; cases hv
                | some c =>
                  rw [hj] at hv
                  cases hv
                  obtain ⟨x', y', g1, g2, _, g4⟩ := k6 j c hj
                  obtain ⟨dx, dy, f1, f2, rfl⟩ := zipD_get _ _ _ _ hd
                  obtain ⟨dx', e1', rx⟩ := repL_get la g1
                  obtain ⟨dy', e2', ry⟩ := repL_get lb g2
                  rw [f1] at e1'
                  rw [f2] at e2'
                  cases e1'
                  cases e2'
                  refine .tup (TupAt.of ?_) (.cons (Rep.mono le (List.prefix_refl _) _ _ rx) (.cons (Rep.mono le (List.prefix_refl _) _ _ ry) .nil))
                  rw [hF2]
                  show (if c = l ∨ c ∈ as then H2 c else F1 c) = _
                  rw [if_pos (.inr (List.mem_of_getElem? hj))]
                  exact g4
            | _ => exact hq.elim
          | _ => exact hq.elim
    · exact hq.elim
end
end Fw
namespace Fw
open PySem PySem.Spec PyProof.Rows L2
/-! ### dicts: keys are numbers and texts, or tuples of such (then the first entry is (None, None)) -/
def kAtom : D → Option Key
  | .int i => some (.inl i)
  | .str x => some (.inr x)
  | _ => none
def kTupL : List D → Option (List Key)
  | [] => some []
  | d :: ds => match kAtom d, kTupL ds with
    | some k, some ks => some (k :: ks)
    | _, _ => none
def keq : D → D → Bool
  | .int i, .int j => decide (i = j)
  | .str a, .str b => decide (a = b)
  | .tup xs, .tup ys => (match kTupL xs, kTupL ys with
    | some a, some b => decide (a = b)
    | _, _ => false)
  | _, _ => false
def valD (kvs : List (D × D)) (k : D) : Option D := (kvs.find? fun kv => keq kv.1 k).map (·.2)
def putD (kvs : List (D × D)) (k v : D) : List (D × D) := if (kvs.any fun kv => keq kv.1 k) = true then kvs.map (fun kv => if keq kv.1 k = true then (kv.1, v) else kv) else kvs ++ [(k, v)]
def isTd : List (D × D) → Bool
  | (.non, _) :: _ => true
  | _ => false
def txtD : D → Bool
  | .str _ => true
  | _ => false
theorem txts_kk (kk : List Key) : txtsV (kk.map kV) = (!(kk.map kD).isEmpty && (kk.map kD).all txtD) := by
  have h : ∀ kk : List Key, (kk.map kV).all txtV = (kk.map kD).all txtD := by
    intro kk
    induction kk with
    | nil => rfl
    | cons k kk ih =>
      rw [List.map_cons, List.map_cons, List.all_cons, List.all_cons, ih]
      cases k <;> rfl
  unfold txtsV
  rw [h]
  cases kk <;> rfl
def dkOk (kvs : List (D × D)) (k : D) : Bool := match k with
  | .int _ => !isTd kvs
  | .str _ => !isTd kvs
  | .tup ks => isTd kvs && ((kTupL ks).isSome && !(!ks.isEmpty && ks.all txtD))
  | _ => false
theorem keq_kD (a b : Key) : keq (kD a) (kD b) = decide (a = b) := by
  cases a <;> cases b <;> simp [kD, keq]
theorem kTupL_kD : ∀ ks : List Key, kTupL (ks.map kD) = some ks
  | [] => rfl
  | k :: ks => by
    rw [List.map_cons, kTupL, kTupL_kD ks]
    cases k <;> rfl
theorem keq_kT (a b : List Key) : keq (.tup (a.map kD)) (.tup (b.map kD)) = decide (a = b) := by
  rw [keq, kTupL_kD, kTupL_kD]
theorem kAtom_kD {d : D} {k : Key} (h : kAtom d = some k) : d = kD k := by
  cases d <;> cases h <;> rfl
theorem kTupL_inv : ∀ {ds : List D} {ks : List Key}, kTupL ds = some ks → ds = ks.map kD
  | [], ks, h => by cases h; rfl
  | d :: ds, ks, h => by
    rw [kTupL] at h
    cases e1 : kAtom d with
    | none => simp [e1] at h
    | some k =>
      cases e2 : kTupL ds with
      | none => simp [e1, e2] at h
      | some ks' =>
        simp [e1, e2] at h
        subst h
        rw [kAtom_kD e1, kTupL_inv e2]
        rfl
section
variable {K : PySem.W.Frag} {I : List Addr} {F H : Hp}
def RepO (K : PySem.W.Frag) (I : List Addr) (F : Hp) : Option V → Option D → Prop
  | some v, some d => Rep K I F v d
  | none, none => True
  | _, _ => False
theorem RepK.val : ∀ {vs : List (Key × V)} {ds : List (D × D)} (k : Key), RepK K I F vs ds → RepO K I F (valV vs k) (valD ds (kD k))
  | _, _, k, .nil => trivial
  | _, _, k, .cons (k := k') (v := v) (vs := vs) (d := d) (ds := ds) r t => by
    have ih := RepK.val k t
    unfold valV valD at ih ⊢
    rw [List.find?_cons, List.find?_cons]
    simp only [keq_kD]
    by_cases h : k' = k
    · simp only [h, decide_true]
      exact r
    · simp only [h, decide_false]
      exact ih
theorem RepT.val : ∀ {vs : List (List Key × V)} {ds : List (D × D)} (k : List Key), RepT K I F vs ds → RepO K I F (valV vs k) (valD ds (.tup (k.map kD)))
  | _, _, k, .nil => trivial
  | _, _, k, .cons (k := k') (v := v) (vs := vs) (d := d) (ds := ds) r t => by
    have ih := RepT.val k t
    unfold valV valD at ih ⊢
    rw [List.find?_cons, List.find?_cons]
    simp only [keq_kT]
    by_cases h : k' = k
    · simp only [h, decide_true]
      exact r
    · simp only [h, decide_false]
      exact ih
theorem valD_T (ds : List (D × D)) (k : List D) : valD ((.non, .non) :: ds) (.tup k) = valD ds (.tup k) := rfl
theorem RepK.isTd : ∀ {vs : List (Key × V)} {ds : List (D × D)}, RepK K I F vs ds → Fw.isTd ds = false
  | _, _, .nil => rfl
  | _, _, .cons (k := k') r t => by cases k' <;> rfl
theorem RepK.any : ∀ {vs : List (Key × V)} {ds : List (D × D)} (k : Key), RepK K I F vs ds → (vs.any fun kv => decide (kv.1 = k)) = ds.any fun kv => keq kv.1 (kD k)
  | _, _, k, .nil => rfl
  | _, _, k, .cons (k := k') r t => by rw [List.any_cons, List.any_cons, RepK.any k t, keq_kD]
theorem RepT.any : ∀ {vs : List (List Key × V)} {ds : List (D × D)} (k : List Key), RepT K I F vs ds → (vs.any fun kv => decide (kv.1 = k)) = ds.any fun kv => keq kv.1 (.tup (k.map kD))
  | _, _, k, .nil => rfl
  | _, _, k, .cons (k := k') r t => by rw [List.any_cons, List.any_cons, RepT.any k t, keq_kT]
theorem RepK.snoc {k : Key} {v : V} {d : D} (r : Rep K I F v d) : ∀ {vs : List (Key × V)} {ds : List (D × D)}, RepK K I F vs ds → RepK K I F (vs ++ [(k, v)]) (ds ++ [(kD k, d)])
  | _, _, .nil => .cons r .nil
  | _, _, .cons a b => .cons a (RepK.snoc r b)
theorem RepT.snoc {k : List Key} {v : V} {d : D} (r : Rep K I F v d) : ∀ {vs : List (List Key × V)} {ds : List (D × D)}, RepT K I F vs ds → RepT K I F (vs ++ [(k, v)]) (ds ++ [(.tup (k.map kD), d)])
  | _, _, .nil => .cons r .nil
  | _, _, .cons a b => .cons a (RepT.snoc r b)
theorem RepK.repl {k : Key} {v : V} {d : D} (r : Rep K I F v d) : ∀ {vs : List (Key × V)} {ds : List (D × D)}, RepK K I F vs ds → RepK K I F (vs.map fun kv => if kv.1 = k then (kv.1, v) else kv) (ds.map fun kv => if keq kv.1 (kD k) = true then (kv.1, d) else kv)
  | _, _, .nil => .nil
  | _, _, .cons (k := k') a b => by
    rw [List.map_cons, List.map_cons]
    simp only [keq_kD, decide_eq_true_eq]
    have ih := RepK.repl (k := k) r b
    by_cases h : k' = k
    · rw [if_pos h, if_pos h]; exact .cons r ih
    · rw [if_neg h, if_neg h]; exact .cons a ih
theorem RepT.repl {k : List Key} {v : V} {d : D} (r : Rep K I F v d) : ∀ {vs : List (List Key × V)} {ds : List (D × D)}, RepT K I F vs ds → RepT K I F (vs.map fun kv => if kv.1 = k then (kv.1, v) else kv) (ds.map fun kv => if keq kv.1 (.tup (k.map kD)) = true then (kv.1, d) else kv)
  | _, _, .nil => .nil
  | _, _, .cons (k := k') a b => by
    rw [List.map_cons, List.map_cons]
    simp only [keq_kT, decide_eq_true_eq]
    have ih := RepT.repl (k := k) r b
    by_cases h : k' = k
    · rw [if_pos h, if_pos h]; exact .cons r ih
    · rw [if_neg h, if_neg h]; exact .cons a ih
theorem RepK.put {k : Key} {v : V} {d : D} (r : Rep K I F v d) {vs : List (Key × V)} {ds : List (D × D)} (h : RepK K I F vs ds) : RepK K I F (putK vs k v) (putD ds (kD k) d) := by
  unfold putK putD
  rw [← h.any k]
  by_cases e : (vs.any fun kv => decide (kv.1 = k)) = true
  · rw [if_pos e, if_pos e]; exact h.repl r
  · rw [if_neg e, if_neg e]; exact h.snoc r
theorem RepT.put {k : List Key} {v : V} {d : D} (r : Rep K I F v d) {vs : List (List Key × V)} {ds : List (D × D)} (h : RepT K I F vs ds) : RepT K I F (putK vs k v) (putD ds (.tup (k.map kD)) d) := by
  unfold putK putD
  rw [← h.any k]
  by_cases e : (vs.any fun kv => decide (kv.1 = k)) = true
  · rw [if_pos e, if_pos e]; exact h.repl r
  · rw [if_neg e, if_neg e]; exact h.snoc r
theorem putD_T (ds : List (D × D)) (k : List D) (v : D) : putD ((.non, .non) :: ds) (.tup k) v = (.non, .non) :: putD ds (.tup k) v := by
  unfold putD
  rw [List.any_cons]
  show (if (false || _) = true then _ else _) = _
  rw [Bool.false_or]
  by_cases e : (ds.any fun kv => keq kv.1 (.tup k)) = true
  · rw [if_pos e, if_pos e, List.map_cons]
    rfl
  · rw [if_neg e, if_neg e]
    rfl
theorem RepK.length : ∀ {vs : List (Key × V)} {ds : List (D × D)}, RepK K I F vs ds → vs.length = ds.length
  | _, _, .nil => rfl
  | _, _, .cons _ t => by simp [RepK.length t]
theorem RepT.length : ∀ {vs : List (List Key × V)} {ds : List (D × D)}, RepT K I F vs ds → vs.length = ds.length
  | _, _, .nil => rfl
  | _, _, .cons _ t => by simp [RepT.length t]
theorem kVals : ∀ {ws : List V} {ks : List Key}, RepL K I F ws (ks.map kD) → ws = ks.map kV
  | _, [], h => by cases h; rfl
  | _, k :: ks, h => by
    rw [List.map_cons] at h
    cases h with
    | cons a b =>
      rw [List.map_cons, kVals b]
      cases k with
      | inl i => cases a; rfl
      | inr x => cases a; rfl
/-- what is read of a dict at a key -/
theorem RW.dget {x y : V} {kvs : List (D × D)} {k : D} (rx : RW K I F H x (.dct kvs)) (ry : RW K I F H y k) (hs : Same F H) (ok : dkOk kvs k = true) : ∃ a, x = .ref a ∧ IsD H a ∧ ∃ o, DGet H a y o ∧ RepO K I F o (valD kvs k) := by
  have fK : ∀ (a : Addr) (vs : List (Key × V)), Rd H a (.dK vs) → RepK K I F vs kvs → ∃ o, DGet H a y o ∧ RepO K I F o (valD kvs k) := fun a vs hr r => by
    have nt := r.isTd
    cases k with
    | int i =>
      rw [ry.int]
      exact ⟨_, .inl ⟨vs, .inl i, hr, rfl, rfl⟩, r.val (.inl i)⟩
    | str z =>
      rw [ry.str]
      exact ⟨_, .inl ⟨vs, .inr z, hr, rfl, rfl⟩, r.val (.inr z)⟩
    | tup ks => rw [dkOk, nt] at ok; cases ok
    | _ => cases ok
  have fT : ∀ (a : Addr) (vs : List (List Key × V)) (ds : List (D × D)), kvs = (.non, .non) :: ds → Rd H a (.dT vs) → RepT K I F vs ds → ∃ o, DGet H a y o ∧ RepO K I F o (valD kvs k) := fun a vs ds ek hr r => by
    subst ek
    cases k with
    | tup ks =>
      obtain ⟨b, ws, rfl, h1, h2, h3⟩ := ry.tup hs
      cases e : kTupL ks with
      | none => rw [dkOk, e] at ok; simp at ok
      | some kk =>
        have := kTupL_inv e
        subst this
        have e2 := kVals h2
        subst e2
        rcases h3 with h3 | ⟨ht, _⟩
        · refine ⟨_, .inr ⟨vs, kk, b, hr, rfl, hs _ _ h3, rfl⟩, ?_⟩
          rw [valD_T]
          exact r.val kk
        · rw [txts_kk] at ht
          rw [dkOk, ht] at ok
          simp at ok
    | int i => cases ok
    | str z => cases ok
    | _ => cases ok
  cases rx with
  | r q =>
    cases q with
    | @dK a vs _ hr r =>
      have hr' := (Le.of_same hs).rd _ _ hr
      exact ⟨a, rfl, .inl ⟨vs, hr'⟩, fK a vs hr' r⟩
    | @dT a vs ds hr r =>
      have hr' := (Le.of_same hs).rd _ _ hr
      exact ⟨a, rfl, .inr ⟨vs, hr'⟩, fT a vs ds rfl hr' r⟩
  | @o a h b d hh q e =>
    cases q with
    | lst _ => cases e
    | @dK vs ds r => cases e; exact ⟨a, rfl, .inl ⟨vs, .inl hh⟩, fK a vs (.inl hh) r⟩
    | @dT vs ds r => cases e; exact ⟨a, rfl, .inr ⟨vs, .inl hh⟩, fT a vs ds rfl (.inl hh) r⟩
    | ins _ => cases e
end
section
variable {X : Cx} {W : WX} {a b c : Expr} {oa ob : Opd} {pos : Pos}
theorem hu1 {k : Nat} (hr : Room k X.A) : X.A.units + 1 < cLine := by have := room64 hr; omega
/-- d[k] -/
def dGetD : D → D → Option D
  | .dct kvs, k => if dkOk kvs k = true then valD kvs k else none
  | _, _ => none
def rDGet : R2 := fun x y H Q => ∃ a v, x = .ref a ∧ DGet H a y (some v) ∧ Q v H
theorem ops_dget : OpS X rDGet dGetD := by
  intro g I F s σ H Q x y dx dy d sm rx ry e q
  cases dx with
  | dct kvs =>
    have e' : (if dkOk kvs dy = true then valD kvs dy else none) = some d := e
    by_cases ok : dkOk kvs dy = true
    · rw [if_pos ok] at e'
      obtain ⟨a, rfl, _, o, hg, ro⟩ := rx.dget ry sm.sub ok
      rw [e'] at ro
      cases o with
      | none => exact ro.elim
      | some v => exact ⟨a, v, rfl, hg, q v F H sm ro⟩
    · rw [if_neg ok] at e'; cases e'
  | _ => cases e
theorem se_dgetD {k : Nat} (hr : Room k X.A) (ha : SO X W a oa) (hb : SO X W b ob) (hx : NoSl b) : SE X W (.Subscript a b pos) (e2 dGetD oa ob) :=
  se_op (r := rDGet) (fun h1 h2 => pe_dget (hu1 hr) h1 h2 hx) ops_dget ha hb
/-- k in d, k not in d -/
def dInD (neg : Bool) : D → D → Option D
  | k, .dct kvs => if dkOk kvs k = true then some (.bl (neg != (valD kvs k).isSome)) else none
  | _, _ => none
def rDIn (neg : Bool) : R2 := fun x y H Q => ∃ a o, y = .ref a ∧ DGet H a x o ∧ Q (.bl (neg != o.isSome)) H
theorem op_inD {k : Nat} (hr : Room k X.A) : OpR X (compareOp .In) (rDIn false) := by
  intro pins s σ H x y v u Q I rx ry h
  obtain ⟨a, o, rfl, g, q⟩ := h
  obtain rfl : u = Value.ref a := ry
  exact d_in (hu1 hr) I g rx fun s3 I3 => ⟨.bl o.isSome, H, I3, rfl, by simpa using q⟩
theorem op_notinD {k : Nat} (hr : Room k X.A) : OpR X (compareOp .NotIn) (rDIn true) := by
  intro pins s σ H x y v u Q I rx ry h
  obtain ⟨a, o, rfl, g, q⟩ := h
  obtain rfl : u = Value.ref a := ry
  exact d_notIn (hu1 hr) I g rx fun s3 I3 => ⟨.bl (!o.isSome), H, I3, rfl, by simpa using q⟩
theorem ops_inD {neg : Bool} : OpS X (rDIn neg) (dInD neg) := by
  intro g I F s σ H Q x y dx dy d sm rx ry e q
  cases dy with
  | dct kvs =>
    have e' : (if dkOk kvs dx = true then some (D.bl (neg != (valD kvs dx).isSome)) else none) = some d := e
    by_cases ok : dkOk kvs dx = true
    · rw [if_pos ok] at e'
      cases e'
      obtain ⟨a, rfl, _, o, hg, ro⟩ := ry.dget rx sm.sub ok
      refine ⟨a, o, rfl, hg, ?_⟩
      have : o.isSome = (valD kvs dx).isSome := by
        revert ro
        cases o <;> cases valD kvs dx <;> intro ro <;> first | rfl | exact ro.elim
      rw [this]
      exact q _ F H sm (.bl _)
    · rw [if_neg ok] at e'; cases e'
  | _ => cases dx <;> cases e
theorem se_inD {k : Nat} (hr : Room k X.A) (ha : SO X W a oa) (hb : SO X W b ob) (hm : behindInMarks .In b = false := by rfl) : SE X W (.Compare a [.In] [b] pos) (e2 (dInD false) oa ob) := se_cmp (op_inD hr) ops_inD ha hb hm
theorem se_notinD {k : Nat} (hr : Room k X.A) (ha : SO X W a oa) (hb : SO X W b ob) (hm : behindInMarks .NotIn b = false := by rfl) : SE X W (.Compare a [.NotIn] [b] pos) (e2 (dInD true) oa ob) := se_cmp (op_notinD hr) ops_inD ha hb hm
theorem st_inD {k : Nat} (hr : Room k X.A) (ha : SO X W a oa) (hb : SO X W b ob) (hm : behindInMarks .In b = false := by rfl) : ST X W (.Compare a [.In] [b] pos) (tB1 (e2 (dInD false) oa ob)) := st_cmp (op_inD hr) ops_inD ha hb hm
theorem st_notinD {k : Nat} (hr : Room k X.A) (ha : SO X W a oa) (hb : SO X W b ob) (hm : behindInMarks .NotIn b = false := by rfl) : ST X W (.Compare a [.NotIn] [b] pos) (tB1 (e2 (dInD true) oa ob)) := st_cmp (op_notinD hr) ops_inD ha hb hm
@[simp] theorem dGetD_d (kvs : List (D × D)) (k : D) : dGetD (.dct kvs) k = if dkOk kvs k = true then valD kvs k else none := rfl
@[simp] theorem dInD_d (neg : Bool) (kvs : List (D × D)) (k : D) : dInD neg k (.dct kvs) = if dkOk kvs k = true then some (.bl (neg != (valD kvs k).isSome)) else none := by cases k <;> rfl
/-- d.get(k, x) -/
def isDd : D → Bool
  | .dct _ => true
  | _ => false
@[simp] theorem isDd_d (kvs : List (D × D)) : isDd (.dct kvs) = true := rfl
def oGetD : D → List D → Option D := fun x ys => match x, ys with
  | .dct kvs, [k, z] => if dkOk kvs k = true then some ((valD kvs k).getD z) else none
  | _, _ => none
@[simp] theorem oGetD_d (kvs : List (D × D)) (k z : D) : oGetD (.dct kvs) [k, z] = if dkOk kvs k = true then some ((valD kvs k).getD z) else none := rfl
theorem RW.isD {K : PySem.W.Frag} {I : List Addr} {F H : Hp} {v : V} {kvs : List (D × D)} (r : RW K I F H v (.dct kvs)) (hs : Same F H) : ∃ a, v = .ref a ∧ IsD H a := by
  cases r with
  | r q =>
    cases q with
    | @dK a vs _ hr r => exact ⟨a, rfl, .inl ⟨vs, (Le.of_same hs).rd _ _ hr⟩⟩
    | @dT a vs ds hr r => exact ⟨a, rfl, .inr ⟨vs, (Le.of_same hs).rd _ _ hr⟩⟩
  | @o a h b d hh q e =>
    cases q with
    | lst _ => cases e
    | @dK vs ds r => exact ⟨a, rfl, .inl ⟨vs, .inl hh⟩⟩
    | @dT vs ds r => exact ⟨a, rfl, .inr ⟨vs, .inl hh⟩⟩
    | ins _ => cases e
theorem se_getD {k : Nat} {apos cpos : Pos} {f h : M D} (hr : Room k X.A) (ha : SO X W a oa) (hb : SE X W b f) (hc : SE X W c h) (m : M2 X a "get" apos b c cpos := by exact ⟨rfl, rfl, rfl, rfl⟩) :
    SE X W (.Call (.Attribute a "get" apos) [b, c] [] cpos) (eM isDd oGetD oa (aCons f (aCons h aNil))) := by
  obtain ⟨ta, a1, a2⟩ := ha
  obtain ⟨tb, b1, b2⟩ := hb
  obtain ⟨tc, c1, c2⟩ := hc
  refine ⟨_, pe_dget2 (hu1 hr) a1 b1 c1 m, fun g I F s σ H Q x hq => a2 g I F s σ H _ x ?_⟩
  rw [r_eM] at hq
  cases e1 : oa.ev s with
  | stuck => rw [e1] at hq; exact hq
  | ex c s1 => rw [e1] at hq; exact hq
  | ok p s1 =>
    rw [e1, bnd_ok, r_kM1] at hq
    intro v I1 F1 H1 x1 r1
    cases e3 : p.rd s1 with
    | none => rw [e3, if_neg (by simp [tyO])] at hq; exact hq.elim
    | some dx =>
      rw [e3, r_tyO] at hq
      by_cases hd : isDd dx = true
      · rw [if_pos hd] at hq
        cases dx with
        | dct kvs0 =>
          obtain ⟨q0, rfl, hI⟩ := (r1.rw x1 e3).isD x1.sub
          refine ⟨q0, rfl, hI, b2 (g.at I1 F1) I1 F1 s1 σ H1 _ x1.here ?_⟩
          have u1 : (aCons f (aCons h aNil)) s1 = (f s1).bnd fun d s => ((aCons h aNil) s).bnd fun ds s => .ok (d :: ds) s := rfl
          rw [u1] at hq
          cases e2 : f s1 with
          | stuck => rw [e2] at hq; exact hq
          | ex c s2 => rw [e2] at hq; exact fun I2 F2 H2 u x2 hu => hq _ _ _ _ (x1.back x2) hu
          | ok dk s2 =>
            rw [e2, bnd_ok] at hq
            intro vk I2 F2 H2 x2 r2
            refine c2 ((g.at I1 F1).at I2 F2) I2 F2 s2 σ H2 _ x2.here ?_
            have u2 : (aCons h aNil) s2 = (h s2).bnd fun d s => (aNil s).bnd fun ds s => .ok (d :: ds) s := rfl
            rw [u2] at hq
            cases e4 : h s2 with
            | stuck => rw [e4] at hq; exact hq
            | ex c s3 => rw [e4] at hq; exact fun I3 F3 H3 u x3 hu => hq _ _ _ _ (x1.back (x2.back x3)) hu
            | ok dz s3 =>
              rw [e4] at hq
              have hq' : PoE X W g σ (kM2 oGetD p [dk, dz] s3) Q := hq
              rw [r_kM2] at hq'
              intro vz I3 F3 H3 x3 r3
              have x23 := x2.back x3
              have x3' := x1.back x23
              have r1' := r1.later x23
              have r2' : Rep X.K I3 F3 vk dk := Rep.mono x3.mono x3.pre dk vk r2
              cases e5 : p.rd s3 with
              | none => rw [e5] at hq'; exact hq'.elim
              | some dy =>
                rw [e5, r_kE1b] at hq'
                unfold lift1 at hq'
                cases e6 : oGetD dy [dk, dz] with
                | none => rw [e6] at hq'; exact hq'.elim
                | some d =>
                  rw [e6] at hq'
                  cases dy with
                  | dct kvs =>
                    rw [oGetD_d] at e6
                    by_cases ok : dkOk kvs dk = true
                    · rw [if_pos ok] at e6
                      cases e6
                      obtain ⟨a', e7, _, o, hg, ro⟩ := (r1'.rw x3' e5).dget (.r r2') x3'.sub ok
                      cases e7
                      refine ⟨o, hg, hq' _ _ _ _ x3' ?_⟩
                      revert ro
                      cases o <;> cases valD kvs dk <;> intro ro
                      · exact r3
                      · exact ro.elim
                      · exact ro.elim
                      · exact ro
                    · rw [if_neg ok] at e6; cases e6
                  | _ => cases e6
        | _ => cases hd
      · rw [if_neg hd] at hq
        exact hq.elim
end
end Fw
namespace L2
open PySem PySem.Spec PyProof.Rows
/-- the value of e, a dict, is locked from here on -/
def tLockV (t : TE) : TE := fun σ H Q => t σ H fun x H1 => ∃ (a : Addr) (kvs : List (Key × V)), x = .ref a ∧ ((∃ o, H1 a = some (.frz o (.dK kvs)) ∧ Q x H1) ∨ (H1 a = some (.dK kvs) ∧ ∀ o, Q x (upd H1 a (.frz o (.dK kvs)))))
theorem pe_lockV {X : Cx} {e : Expr} {t : TE} (h : PE X e t) : PE X e (tLockV t) := by
  refine ⟨fun pins s σ H Q I hw => ?_⟩
  refine thn (h.run pins s σ H _ I hw) fun v s1 ⟨x, H1, I1, r, a, kvs, ex, q⟩ => ?_
  subst ex
  rcases q with ⟨o, hd, q⟩ | ⟨hd, q⟩
  · exact ⟨_, H1, I1, r, q⟩
  · obtain ⟨o, I2⟩ := I1.lock hd True.intro
    exact ⟨_, _, I2, r, q o⟩
end L2
namespace Fw
open PySem PySem.Spec PyProof.Rows L2
section
variable {X : Cx} {W : WX} {a b c e tg : Expr} {oa ob : Opd} {pos : Pos}
/-! ### d[k] = v -/
def isDct : Option D → Bool
  | some (.dct _) => true
  | _ => false
def kPut (j y : D) : Ob → Option (D × Ob)
  | .dct kvs => if dkOk kvs j = true ∧ kvs.length < sizeLine then some (.non, .dct (putD kvs j y)) else none
  | _ => none
def kSD2 (i : Nat) (y : D) : D → M Fl := fun j s => (chg i (kPut j y) s).bnd kSt3
def kSD1 (i : Nat) (fi : M D) : D → M Fl := fun y s => if isDct (cont s i) = true then (fi s).bnd (kSD2 i y) else .stuck
def sSD (i : Nat) (fv fi : M D) : M Fl := fun s => (fv s).bnd (kSD1 i fi)
@[simp] theorem r_sSD (i : Nat) (fv fi : M D) (s : S) : sSD i fv fi s = (fv s).bnd (kSD1 i fi) := rfl
@[simp] theorem r_kSD1 (i : Nat) (fi : M D) (y : D) (s : S) : kSD1 i fi y s = if isDct (cont s i) = true then (fi s).bnd (kSD2 i y) else .stuck := rfl
@[simp] theorem r_kSD2 (i : Nat) (y j : D) (e : List Slot) (st : List Ob) : kSD2 i y j ⟨e, st⟩ = (chgK i (kPut j y) e[i]? ⟨e, st⟩).bnd kSt3 := rfl
@[simp] theorem r_kPut (kvs : List (D × D)) (k y : D) : kPut k y (.dct kvs) = if dkOk kvs k = true ∧ kvs.length < sizeLine then some (.non, .dct (putD kvs k y)) else none := rfl
@[simp] theorem isDct_d (kvs : List (D × D)) : isDct (some (.dct kvs)) = true := rfl
theorem ss_storeD {x : Str} {i k : Nat} {npos spos : Pos} {fv fi : M D} (hr : Room k X.A) (hn : PE X (.Name x npos) (tVar i)) (hv : SE X W a fv) (hi : SE X W e fi)
    (hs : swapsWith a (some (.Subscript (.Name x npos) e spos)) pos.line X.env = pure false := by rfl) : SS X W (.Assign [.Subscript (.Name x npos) e spos] a pos) (sSD i fv fi) := by
  obtain ⟨tv, v1, v2⟩ := hv
  obtain ⟨ti, i1, i2⟩ := hi
  refine ⟨_, ps_dput (hu1 hr) hn i1 v1 hs, fun g I F s σ H E x hq => v2 g I F s σ H _ x ?_⟩
  rw [r_sSD] at hq
  cases e1 : fv s with
  | stuck => rw [e1] at hq; exact hq
  | ex c s1 => rw [e1] at hq; exact fun I F H u x hu => hq I F _ H u x hu
  | ok y s1 =>
    rw [e1, bnd_ok, r_kSD1] at hq
    intro vv I1 F1 H1 x1 r1
    by_cases hl : isDct (cont s1 i) = true
    · rw [if_pos hl] at hq
      cases ec : cont s1 i with
      | none => rw [ec] at hl; cases hl
      | some d0 =>
        obtain ⟨w0, h0⟩ := cont_slot x1 ec
        refine ⟨w0, h0, i2 (g.at I1 F1) I1 F1 s1 σ H1 _ x1.here ?_⟩
        cases e2 : fi s1 with
        | stuck => rw [e2] at hq; exact hq
        | ex c s2 => rw [e2] at hq; exact fun I2 F2 H2 u x2 hu => hq _ _ _ _ _ (x1.back x2) hu
        | ok j s2 =>
          rw [e2, bnd_ok] at hq
          intro kv I2 F2 H2 x2 r2
          have x2' := x1.back x2
          have r1' : Rep X.K I2 F2 vv y := Rep.mono x2.mono x2.pre y vv r1
          refine chg_ok (Po := fun o => PoS X W g (o.bnd kSt3) E) x2' h0 (fun q => q) hq fun a o b d b' ea ho ro ek nx => ?_
          subst ea
          unfold kPut at ek
          split at ek
          · rename_i kvs
            by_cases hk : dkOk kvs j = true ∧ kvs.length < sizeLine
            · rw [if_pos hk] at ek
              cases ek
              obtain ⟨ok, hlen⟩ := hk
              cases ro with
              | @dK vs _ rk =>
                have nt := rk.isTd
                have hlv : vs.length < sizeLine := by rw [rk.length]; exact hlen
                cases j with
                | int i0 =>
                  cases r2
                  obtain ⟨s', q', x'⟩ := nx _ (.dK (rk.put (k := .inl i0) r1'))
                  exact ⟨a, _, rfl, .inl ⟨vs, .inl i0, ho, rfl, hlv, rfl⟩, q' _ _ _ _ x'⟩
                | str z =>
                  cases r2
                  obtain ⟨s', q', x'⟩ := nx _ (.dK (rk.put (k := .inr z) r1'))
                  exact ⟨a, _, rfl, .inl ⟨vs, .inr z, ho, rfl, hlv, rfl⟩, q' _ _ _ _ x'⟩
                | tup ks => rw [dkOk, nt] at ok; cases ok
                | _ => cases ok
              | @dT vs ds rt =>
                have hlv : vs.length < sizeLine := by rw [rt.length]; exact Nat.lt_of_succ_lt hlen
                cases j with
                | tup ks =>
                  cases r2 with
                  | @tup bb ws _ qb rb =>
                    cases e3 : kTupL ks with
                    | none => rw [dkOk, e3] at ok; simp at ok
                    | some kk =>
                      have := kTupL_inv e3
                      subst this
                      have e4 := kVals rb
                      subst e4
                      rcases qb with qb | ⟨ht, _⟩
                      · obtain ⟨s', q', x'⟩ := nx (.dT (putK vs kk vv)) (by rw [putD_T]; exact .dT (rt.put r1'))
                        exact ⟨a, _, rfl, .inr ⟨vs, kk, bb, ho, rfl, x2'.sub _ _ qb, hlv, rfl⟩, q' _ _ _ _ x'⟩
                      · rw [txts_kk] at ht
                        rw [dkOk, ht] at ok
                        simp at ok
                | int i0 => cases ok
                | str z => cases ok
                | _ => cases ok
            · rw [if_neg hk] at ek; cases ek
          · cases ek
    · rw [if_neg hl] at hq
      exact hq.elim
/-! ### new dicts -/
def fDictK : M Ob := fun s => .ok (.dct []) s
def fDictT : M Ob := fun s => .ok (.dct [(.non, .non)]) s
@[simp] theorem r_fDictK (s : S) : fDictK s = .ok (.dct []) s := rfl
@[simp] theorem r_fDictT (s : S) : fDictT s = .ok (.dct [(.non, .non)]) s := rfl
theorem sf_dictK : SF X W (.Dict [] [] pos) fDictK := ⟨_, pe_dnewK, fun g I F s σ H Q x hq p hp => hq I F H p _ x hp (.dK .nil)⟩
theorem sf_dictT : SF X W (.Dict [] [] pos) fDictT := ⟨_, pe_dnewT, fun g I F s σ H Q x hq p hp => hq I F H p _ x hp (.dT .nil)⟩
/-! ### displays -/
inductive RepPs (K : PySem.W.Frag) (I : List Addr) (F : Hp) : List (V × V) → List (D × D) → Prop
  | nil : RepPs K I F [] []
  | cons {x y : V} {vs : List (V × V)} {k d : D} {ds : List (D × D)} : Rep K I F x k → Rep K I F y d → RepPs K I F vs ds → RepPs K I F ((x, y) :: vs) ((k, d) :: ds)
def PoPs (X : Cx) (W : WX) (g : Gh) (σ : L2.St) (o : Out (List (D × D))) (Q : List (V × V) → Hp → Prop) : Prop := match o with
  | .ok ps s => ∀ vs I F H, Sim X.K g I F s σ H → RepPs X.K I F vs ps → Q vs H
  | .ex c s => ∀ I F H u, Sim X.K g I F s σ H → X.mg c = some u → W u none σ H
  | .stuck => False
def SPs (X : Cx) (W : WX) (pos : Pos) (keys : List (Option Expr)) (values : List Expr) (f : M (List (D × D))) : Prop := ∃ trs, PPs X pos keys values trs ∧ ∀ g I F s σ H Q, Sim X.K g I F s σ H → PoPs X W g σ (f s) Q → tPairs trs σ H Q
def pNil : M (List (D × D)) := fun s => .ok [] s
def kPc3 (k d : D) : List (D × D) → M (List (D × D)) := fun ps s => .ok ((k, d) :: ps) s
def kPc2 (h : M (List (D × D))) (k : D) : D → M (List (D × D)) := fun d s => (h s).bnd (kPc3 k d)
def kPc1 (fv : M D) (h : M (List (D × D))) : D → M (List (D × D)) := fun k s => (fv s).bnd (kPc2 h k)
def pCons (fk fv : M D) (h : M (List (D × D))) : M (List (D × D)) := fun s => (fk s).bnd (kPc1 fv h)
@[simp] theorem r_pNil (s : S) : pNil s = .ok [] s := rfl
@[simp] theorem r_pCons (fk fv : M D) (h : M (List (D × D))) (s : S) : pCons fk fv h s = (fk s).bnd (kPc1 fv h) := rfl
@[simp] theorem r_kPc1 (fv : M D) (h : M (List (D × D))) (k : D) (s : S) : kPc1 fv h k s = (fv s).bnd (kPc2 h k) := rfl
@[simp] theorem r_kPc2 (h : M (List (D × D))) (k d : D) (s : S) : kPc2 h k d s = (h s).bnd (kPc3 k d) := rfl
@[simp] theorem r_kPc3 (k d : D) (ps : List (D × D)) (s : S) : kPc3 k d ps s = .ok ((k, d) :: ps) s := rfl
theorem sps_nil : SPs X W pos [] [] pNil := ⟨_, pps_nil, fun g I F s σ H Q x hq => hq _ _ _ _ x .nil⟩
theorem sps_cons {ks : List (Option Expr)} {vs : List Expr} {fk fv : M D} {h : M (List (D × D))} (hk : SE X W a fk) (hv : SE X W b fv) (hr : SPs X W pos ks vs h) : SPs X W pos (some a :: ks) (b :: vs) (pCons fk fv h) := by
  obtain ⟨tk, k1, k2⟩ := hk
  obtain ⟨tv, v1, v2⟩ := hv
  obtain ⟨trs, r1, r2⟩ := hr
  refine ⟨_, pps_cons k1 v1 r1, fun g I F s σ H Q x hq => k2 g I F s σ H _ x ?_⟩
  rw [r_pCons] at hq
  cases e1 : fk s with
  | stuck => rw [e1] at hq; exact hq
  | ex c s1 => rw [e1] at hq; exact hq
  | ok k s1 =>
    rw [e1, bnd_ok, r_kPc1] at hq
    intro xk I1 F1 H1 x1 q1
    refine v2 (g.at I1 F1) I1 F1 s1 σ H1 _ x1.here ?_
    cases e2 : fv s1 with
    | stuck => rw [e2] at hq; exact hq
    | ex c s2 => rw [e2] at hq; exact fun I2 F2 H2 u x2 hu => hq _ _ _ _ (x1.back x2) hu
    | ok d s2 =>
      rw [e2, bnd_ok, r_kPc2] at hq
      intro xv I2 F2 H2 x2 q2
      refine r2 ((g.at I1 F1).at I2 F2) I2 F2 s2 σ H2 _ x2.here ?_
      cases e3 : h s2 with
      | stuck => rw [e3] at hq; exact hq
      | ex c s3 => rw [e3] at hq; exact fun I3 F3 H3 u x3 hu => hq _ _ _ _ (x1.back (x2.back x3)) hu
      | ok ps s3 =>
        rw [e3, bnd_ok, r_kPc3] at hq
        intro vs I3 F3 H3 x3 q3
        have x23 := x2.back x3
        exact hq _ _ _ _ (x1.back x23) (.cons (Rep.mono x23.mono x23.pre _ _ q1) (Rep.mono x3.mono x3.pre _ _ q2) q3)
def mergeD (kvs more : List (D × D)) : List (D × D) := more.foldl (fun acc kv => putD acc kv.1 kv.2) kvs
def allAtom (ps : List (D × D)) : Bool := ps.all fun kv => (kAtom kv.1).isSome
def kDisp : List (D × D) → M Ob := fun ps s => if allAtom ps = true ∧ ps.length ≤ 15 then .ok (.dct (mergeD [] ps)) s else .stuck
def fDisp (f : M (List (D × D))) : M Ob := fun s => (f s).bnd kDisp
@[simp] theorem r_fDisp (f : M (List (D × D))) (s : S) : fDisp f s = (f s).bnd kDisp := rfl
@[simp] theorem r_kDisp (ps : List (D × D)) (s : S) : kDisp ps s = if allAtom ps = true ∧ ps.length ≤ 15 then .ok (.dct (mergeD [] ps)) s else .stuck := rfl
theorem RepPs.atoms {K : PySem.W.Frag} {I : List Addr} {F : Hp} : ∀ {vs : List (V × V)} {ds : List (D × D)}, RepPs K I F vs ds → allAtom ds = true → ∃ kvs : List (Key × V), vs = kvs.map (fun kv => (kV kv.1, kv.2)) ∧ RepK K I F kvs ds
  | _, _, .nil, _ => ⟨[], rfl, .nil⟩
  | _, _, .cons (x := x) (y := y) (k := k) rk rd t, h => by
    unfold allAtom at h
    rw [List.all_cons, Bool.and_eq_true] at h
    obtain ⟨kvs, e, r⟩ := RepPs.atoms t h.2
    cases ek : kAtom k with
    | none => rw [ek] at h; simp at h
    | some kk =>
      have := kAtom_kD ek
      subst this
      refine ⟨(kk, y) :: kvs, ?_, .cons rd r⟩
      rw [e, List.map_cons]
      cases kk with
      | inl i => cases rk; rfl
      | inr z => cases rk; rfl
theorem RepK.merge {K : PySem.W.Frag} {I : List Addr} {F : Hp} : ∀ {ms : List (Key × V)} {mds : List (D × D)} {vs : List (Key × V)} {ds : List (D × D)}, RepK K I F ms mds → RepK K I F vs ds → RepK K I F (mergeK vs ms) (mergeD ds mds)
  | _, _, _, _, .nil, h => h
  | _, _, _, _, .cons (k := kk) r t, h => by
    have := RepK.merge t (h.put (k := kk) r)
    exact this
theorem RepPs.length {K : PySem.W.Frag} {I : List Addr} {F : Hp} : ∀ {vs : List (V × V)} {ds : List (D × D)}, RepPs K I F vs ds → vs.length = ds.length
  | _, _, .nil => rfl
  | _, _, .cons _ _ t => by simp [RepPs.length t]
theorem sf_disp {keys : List (Option Expr)} {values : List Expr} {f : M (List (D × D))} (h : SPs X W pos keys values f) (hall : keys.all (·.isSome) = true := by rfl) (hl : keys.length = values.length := by rfl) (h0 : keys ≠ [] := by intro z; cases z) (h15 : keys.length ≤ 15 := by decide) : SF X W (.Dict keys values pos) (fDisp f) := by
  obtain ⟨trs, a1, a2⟩ := h
  refine ⟨_, pe_disp a1 hall hl h0 h15, fun g I F s σ H Q x hq p hp => ?_⟩
  have gp : g.B p = none := by
    cases e : g.B p with
    | none => rfl
    | some u => rw [(x.base p u e).2] at hp; cases hp
  refine a2 (g.with_ p (.dK [])) I F s σ _ _ (x.guard hp) ?_
  rw [r_fDisp] at hq
  cases e1 : f s with
  | stuck => rw [e1] at hq; exact hq
  | ex c s1 =>
    rw [e1] at hq
    intro I1 F1 H1 u x1 hu
    obtain ⟨H0, k1, k2, k3⟩ := x1.unguard gp
    rw [k2]
    exact hq _ _ _ _ (k3.fresh k1) hu
  | ok ps s1 =>
    rw [e1, bnd_ok, r_kDisp] at hq
    intro vs I1 F1 H1 x1 r1
    by_cases hk : allAtom ps = true ∧ ps.length ≤ 15
    · rw [if_pos hk] at hq
      obtain ⟨kvs, e2, rk⟩ := r1.atoms hk.1
      obtain ⟨H0, k1, k2, k3⟩ := x1.unguard gp
      refine ⟨x1.guarded.2, kvs, e2, by rw [rk.length]; exact hk.2, ?_⟩
      rw [k2, upd_upd]
      exact hq I1 F1 H0 p _ k3 k1 (.dK (rk.merge .nil))
    · rw [if_neg hk] at hq
      exact hq.elim
/-! ### loops over a dict that changes no more -/
theorem Sim.lock {K : PySem.W.Frag} {g : Gh} {I : List Addr} {F H : Hp} {s : S} {σ : L2.St} (x : Sim K g I F s σ H) {p : Addr} {vs : List (Key × V)} (hp : F p = some (.dK vs)) (o : Obj) : Sim K g I (upd F p (.frz o (.dK vs))) s σ (upd H p (.frz o (.dK vs))) ∧ Le F (upd F p (.frz o (.dK vs))) := by
  have le : Le F (upd F p (.frz o (.dK vs))) := fun b c e => by
    by_cases hb : b = p
    · subst hb
      rw [hp] at e
      cases e
      exact .inr ⟨trivial, o, upd_same⟩
    · exact .inl (by rw [upd_ne hb]; exact e)
  refine ⟨x.grow le (fun b u e => ?_) (fun b u e nf => ?_), le⟩
  · by_cases hb : b = p
    · subst hb; rw [upd_same] at e ⊢; exact e
    · rw [upd_ne hb] at e ⊢; exact x.sub _ _ e
  · have hb : b ≠ p := fun z => by rw [z, hp] at nf; cases nf
    rw [upd_ne hb, upd_ne hb]
    exact ⟨nf, e⟩
theorem RepK.get {K : PySem.W.Frag} {I : List Addr} {F : Hp} : ∀ {vs : List (Key × V)} {ds : List (D × D)} {i : Nat} {kd : D × D}, RepK K I F vs ds → ds[i]? = some kd → ∃ k v, vs[i]? = some (k, v) ∧ kd.1 = kD k ∧ Rep K I F v kd.2
  | _, _, _, _, .nil, e => by simp at e
  | _, _, 0, _, .cons r _, e => by simp at e; subst e; exact ⟨_, _, rfl, rfl, r⟩
  | _, _, i + 1, d, .cons _ t, e => by
    obtain ⟨k, v, h1, h2, h3⟩ := RepK.get (i := i) (kd := d) t (by simpa using e)
    exact ⟨k, v, by simpa using h1, h2, h3⟩
theorem rep_kD {K : PySem.W.Frag} {I : List Addr} {F : Hp} (k : Key) : Rep K I F (kV k) (kD k) := by
  cases k with
  | inl i => exact .int i
  | inr x => exact .str x
def pairD (kv : D × D) : D := .tup [kv.1, kv.2]
theorem walk_itemsD {K : PySem.W.Frag} {I : List Addr} {F : Hp} {p : Addr} {o : Obj} {vs : List (Key × V)} {ds : List (D × D)} (q : F p = some (.frz o (.dK vs))) (r : RepK K I F vs ds) : WalkD K (Iti p o vs) I F (ds.map pairD) where
  go := fun i g' I' F' s' σ' H' x le pre hi => ⟨x.sub _ _ (le.frz q), by rw [r.length]; simpa using hi⟩
  stop := fun g' I' F' s' σ' H' x le pre => ⟨x.sub _ _ (le.frz q), by rw [r.length, List.length_map]; exact Nat.le_refl _⟩
  yld := fun i g' I' F' s' σ' H' y H2 d x le pre hy e => by
    obtain ⟨T, k, v, h1, rfl, h3, rfl⟩ := hy
    rw [List.getElem?_map] at e
    cases ed : ds[i]? with
    | none => rw [ed] at e; cases e
    | some kd =>
      rw [ed] at e
      cases e
      obtain ⟨k', v', g1, g2, g3⟩ := r.get ed
      rw [h1] at g1
      cases g1
      obtain ⟨x2, le2⟩ := x.here.alloc (o := .tup [kV k, v]) h3
      refine ⟨_, x2, .tup (TupAt.of upd_same) (.cons ?_ (.cons (Rep.mono (le.trans le2) pre _ _ g3) .nil))⟩
      rw [g2]
      exact rep_kD k
theorem walk_valsD {K : PySem.W.Frag} {I : List Addr} {F : Hp} {p : Addr} {o : Obj} {vs : List (Key × V)} {ds : List (D × D)} (q : F p = some (.frz o (.dK vs))) (r : RepK K I F vs ds) : WalkD K (Itd p o vs) I F (ds.map (·.2)) where
  go := fun i g' I' F' s' σ' H' x le pre hi => ⟨x.sub _ _ (le.frz q), by rw [r.length]; simpa using hi⟩
  stop := fun g' I' F' s' σ' H' x le pre => ⟨x.sub _ _ (le.frz q), by rw [r.length, List.length_map]; exact Nat.le_refl _⟩
  yld := fun i g' I' F' s' σ' H' y H2 d x le pre hy e => by
    obtain ⟨rfl, k, h1⟩ := hy
    rw [List.getElem?_map] at e
    cases ed : ds[i]? with
    | none => rw [ed] at e; cases e
    | some kd =>
      rw [ed] at e
      cases e
      obtain ⟨k', v', g1, g2, g3⟩ := r.get ed
      rw [h1] at g1
      cases g1
      exact ⟨F', x.here, Rep.mono le pre _ _ g3⟩
theorem walk_keysD {K : PySem.W.Frag} {I : List Addr} {F : Hp} {p : Addr} {o : Obj} {vs : List (Key × V)} {ds : List (D × D)} (q : F p = some (.frz o (.dK vs))) (r : RepK K I F vs ds) : WalkD K (Itk p o vs) I F (ds.map (·.1)) where
  go := fun i g' I' F' s' σ' H' x le pre hi => ⟨x.sub _ _ (le.frz q), by rw [r.length]; simpa using hi⟩
  stop := fun g' I' F' s' σ' H' x le pre => ⟨x.sub _ _ (le.frz q), by rw [r.length, List.length_map]; exact Nat.le_refl _⟩
  yld := fun i g' I' F' s' σ' H' y H2 d x le pre hy e => by
    obtain ⟨rfl, k, v, h1, rfl⟩ := hy
    rw [List.getElem?_map] at e
    cases ed : ds[i]? with
    | none => rw [ed] at e; cases e
    | some kd =>
      rw [ed] at e
      cases e
      obtain ⟨k', v', g1, g2, g3⟩ := r.get ed
      rw [h1] at g1
      cases g1
      exact ⟨F', x.here, by show Rep K I' F' (kV k) kd.1; rw [g2]; exact rep_kD k⟩
def kIt (h : D × D → D) : D → M (List D) := fun d s => match d with
  | .dct kvs => if isTd kvs = true then .stuck else .ok (kvs.map h) s
  | _ => .stuck
def iDct (h : D × D → D) (f : M D) : M (List D) := fun s => (f s).bnd (kIt h)
@[simp] theorem r_iDct (h : D × D → D) (f : M D) (s : S) : iDct h f s = (f s).bnd (kIt h) := rfl
@[simp] theorem r_kIt (h : D × D → D) (kvs : List (D × D)) (s : S) : kIt h (.dct kvs) s = if isTd kvs = true then .stuck else .ok (kvs.map h) s := rfl
/-- what is common to the three -/
theorem lock_core {t : TE} {f : M D} {h : D × D → D} {J : Addr → Obj → List (Key × V) → It} {g : Gh} {I : List Addr} {F H : Hp} {s : S} {σ : L2.St} {R : It → Hp → Prop} (a2 : ∀ g I F s σ H Q, Sim X.K g I F s σ H → PoE X W g σ (f s) Q → t σ H Q)
    (hw : ∀ {I : List Addr} {F : Hp} {p : Addr} {o : Obj} {vs : List (Key × V)} {ds : List (D × D)}, F p = some (.frz o (.dK vs)) → RepK X.K I F vs ds → WalkD X.K (J p o vs) I F (ds.map h)) (x : Sim X.K g I F s σ H) (hq : PoI X W g σ (iDct h f s) R) {R' : VK} (fin : ∀ d o kvs H1, H1 d = some (.frz o (.dK kvs)) → R (J d o kvs) H1 → R' (.ref d) H1) :
    tLockV t σ H R' := by
  refine a2 g I F s σ H _ x ?_
  rw [r_iDct] at hq
  cases e1 : f s with
  | stuck => rw [e1] at hq; exact hq
  | ex c s1 => rw [e1] at hq; exact hq
  | ok d s1 =>
    rw [e1, bnd_ok] at hq
    intro v I1 F1 H1 x1 r1
    unfold kIt at hq
    split at hq
    · rename_i kvs
      by_cases ht : isTd kvs = true
      · rw [if_pos ht] at hq; exact hq.elim
      · rw [if_neg ht] at hq
        cases r1 with
        | @dK p vs _ hr rk =>
          refine ⟨p, vs, rfl, ?_⟩
          rcases hr with hr | ⟨o, hr⟩
          · refine .inr ⟨x1.sub _ _ hr, fun o => ?_⟩
            obtain ⟨x2, le⟩ := x1.lock hr o
            exact fin p o vs _ upd_same (hq _ _ _ _ x2 (hw upd_same (RepK.mono le (List.prefix_refl _) _ _ rk)))
          · exact .inl ⟨o, x1.sub _ _ hr, fin p o vs _ (x1.sub _ _ hr) (hq _ _ _ _ x1 (hw hr rk))⟩
        | dT hr rt => exact absurd rfl ht
    · exact hq.elim
theorem si_items {elts : List Expr} {kk : Nat} {tpos apos cpos : Pos} {f : M D} (he : SE X W e f) (hbase : attributeBase e "items" X.env (eval e X.env) = eval e X.env := by rfl) (hline : (apos.endLine == cpos.line) = true := by rfl) :
    SI X W (.Tuple elts kk tpos) (.Call (.Attribute e "items" apos) [] [] cpos) (iDct pairD f) := by
  obtain ⟨t, a1, a2⟩ := he
  exact ⟨_, pi_items (pe_lockV a1) hbase hline, fun g I F s σ H R x hq => lock_core (J := Iti) a2 walk_itemsD x hq fun d o kvs H1 h1 h2 => ⟨d, o, kvs, rfl, h1, h2⟩⟩
theorem si_values {apos cpos : Pos} {f : M D} (he : SE X W e f) (hbase : attributeBase e "values" X.env (eval e X.env) = eval e X.env := by rfl) (hline : (apos.endLine == cpos.line) = true := by rfl) :
    SI X W tg (.Call (.Attribute e "values" apos) [] [] cpos) (iDct (·.2) f) := by
  obtain ⟨t, a1, a2⟩ := he
  exact ⟨_, pi_values (pe_lockV a1) hbase hline, fun g I F s σ H R x hq => lock_core (J := Itd) a2 walk_valsD x hq fun d o kvs H1 h1 h2 => ⟨d, o, kvs, rfl, h1, h2⟩⟩
theorem si_keys {f : M D} (he : SE X W e f) : SI X W tg e (iDct (·.1) f) := by
  obtain ⟨t, a1, a2⟩ := he
  exact ⟨_, pi_keys (pe_lockV a1), fun g I F s σ H R x hq => lock_core (J := Itk) a2 walk_keysD x hq fun d o kvs H1 h1 h2 => ⟨d, o, rfl, .inl ⟨kvs, h1, h2⟩⟩⟩
end
end Fw
namespace Fw
open PySem PySem.Spec PyProof.Rows L2
/-! ### steps of a block without naming what lies between -/
def GoK (o : Out Fl) (h : M Fl) (P : S → Prop) : Prop := match o with
  | .ok .nx s => Goes h s P
  | _ => False
theorem go_step {f h : M Fl} {s : S} {P : S → Prop} (a : GoK (f s) h P) : Goes (bSeq f h) s P := by
  unfold GoK at a
  split at a
  · next e => exact goes_seq e a
  · exact a.elim
@[simp] theorem GoK_nx (h : M Fl) (s : S) (P : S → Prop) : GoK (.ok .nx s) h P = Goes h s P := rfl
def EndK (o : Out Fl) (P : S → Prop) : Prop := match o with
  | .ok .nx s => P s
  | _ => False
theorem go_end {f : M Fl} {s : S} {P : S → Prop} (a : EndK (f s) P) : Goes f s P := by
  unfold EndK at a
  split at a
  · next e => exact ⟨_, e, a⟩
  · exact a.elim
@[simp] theorem EndK_nx (s : S) (P : S → Prop) : EndK (.ok .nx s) P = P s := rfl
def RtK (o : Out Fl) (h : M Fl) (d : D) : Prop := match o with
  | .ok .nx s => Ret h s d
  | .ok (.rt z) _ => z = d
  | _ => False
theorem rt_step {f h : M Fl} {s : S} {d : D} (a : RtK (f s) h d) : Ret (bSeq f h) s d := by
  unfold RtK at a
  split at a
  · next e => exact ret_seq e a
  · next z s2 e =>
    subst a
    exact ret_here ⟨_, e⟩
  · exact a.elim
@[simp] theorem RtK_nx (h : M Fl) (s : S) (d : D) : RtK (.ok .nx s) h d = Ret h s d := rfl
@[simp] theorem RtK_rt (h : M Fl) (s : S) (z d : D) : RtK (.ok (.rt z) s) h d = (z = d) := rfl
def RtE (o : Out Fl) (d : D) : Prop := match o with
  | .ok (.rt z) _ => z = d
  | _ => False
theorem rt_end {f : M Fl} {s : S} {d : D} (a : RtE (f s) d) : Ret f s d := by
  unfold RtE at a
  split at a
  · next z s2 e =>
    subst a
    exact ⟨_, e⟩
  · exact a.elim
@[simp] theorem RtE_rt (s : S) (z d : D) : RtE (.ok (.rt z) s) d = (z = d) := rfl
def RsK (o : Out Fl) (h : M Fl) (d : D) (st : List Ob) : Prop := match o with
  | .ok .nx s => RetS h s d st
  | .ok (.rt z) s => z = d ∧ s.st = st
  | _ => False
theorem rs_step {f h : M Fl} {s : S} {d : D} {st : List Ob} (a : RsK (f s) h d st) : RetS (bSeq f h) s d st := by
  unfold RsK at a
  split at a
  · next e => exact retS_seq e a
  · next z s2 e =>
    obtain ⟨rfl, rfl⟩ := a
    exact retS_here ⟨s2.env, e⟩
  · exact a.elim
@[simp] theorem RsK_nx (h : M Fl) (s : S) (d : D) (st : List Ob) : RsK (.ok .nx s) h d st = RetS h s d st := rfl
@[simp] theorem RsK_rt (h : M Fl) (e : List Slot) (o : List Ob) (z d : D) (st : List Ob) : RsK (.ok (.rt z) ⟨e, o⟩) h d st = (z = d ∧ o = st) := rfl
def RsE (o : Out Fl) (d : D) (st : List Ob) : Prop := match o with
  | .ok (.rt z) s => z = d ∧ s.st = st
  | _ => False
theorem rs_end {f : M Fl} {s : S} {d : D} {st : List Ob} (a : RsE (f s) d st) : RetS f s d st := by
  unfold RsE at a
  split at a
  · next z s2 e =>
    obtain ⟨rfl, rfl⟩ := a
    exact ⟨s2.env, e⟩
  · exact a.elim
@[simp] theorem RsE_rt (e : List Slot) (o : List Ob) (z d : D) (st : List Ob) : RsE (.ok (.rt z) ⟨e, o⟩) d st = (z = d ∧ o = st) := rfl
/-! ### sorted(set(t)), t a tuple of ints -/
def insU (x : Int) : List Int → List Int
  | [] => [x]
  | y :: ys => if x < y then x :: y :: ys else if x = y then y :: ys else y :: insU x ys
def setI : List Int → List Int
  | [] => []
  | x :: xs => insU x (setI xs)
theorem mem_insU {x k : Int} : ∀ {ys : List Int}, k ∈ insU x ys ↔ k = x ∨ k ∈ ys
  | [] => by simp [insU]
  | y :: ys => by
    unfold insU
    by_cases h : x < y
    · rw [if_pos h]; simp
    · by_cases e : x = y
      · rw [if_neg h, if_pos e]
        subst e
        simp
      · rw [if_neg h, if_neg e, List.mem_cons, mem_insU, List.mem_cons]
        exact ⟨fun z => by rcases z with z | z | z <;> simp [z], fun z => by rcases z with z | z | z <;> simp [z]⟩
theorem mem_setI {k : Int} : ∀ {xs : List Int}, k ∈ setI xs ↔ k ∈ xs
  | [] => by simp [setI]
  | x :: xs => by rw [setI, mem_insU, mem_setI, List.mem_cons]
theorem insU_up {x : Int} : ∀ {ys : List Int}, ys.Pairwise (· < ·) → (insU x ys).Pairwise (· < ·)
  | [], _ => by simp [insU]
  | y :: ys, h => by
    obtain ⟨h1, h2⟩ := List.pairwise_cons.mp h
    unfold insU
    by_cases hx : x < y
    · rw [if_pos hx]
      refine List.pairwise_cons.mpr ⟨fun a ha => ?_, h⟩
      rcases List.mem_cons.mp ha with z | z
      · subst z; exact hx
      · exact Int.lt_trans hx (h1 a z)
    · by_cases e : x = y
      · rw [if_neg hx, if_pos e]; exact h
      · rw [if_neg hx, if_neg e]
        refine List.pairwise_cons.mpr ⟨fun a ha => ?_, insU_up h2⟩
        rcases mem_insU.mp ha with z | z
        · subst z; omega
        · exact h1 a z
theorem setI_up : ∀ xs : List Int, (setI xs).Pairwise (· < ·)
  | [] => List.Pairwise.nil
  | _ :: xs => insU_up (setI_up xs)
theorem up_same : ∀ {xs ys : List Int}, xs.Pairwise (· < ·) → ys.Pairwise (· < ·) → (∀ k, k ∈ xs ↔ k ∈ ys) → xs = ys
  | [], [], _, _, _ => rfl
  | [], y :: ys, _, _, h => by have := (h y).mpr (by simp); cases this
  | x :: xs, [], _, _, h => by have := (h x).mp (by simp); cases this
  | x :: xs, y :: ys, hx, hy, h => by
    obtain ⟨x1, x2⟩ := List.pairwise_cons.mp hx
    obtain ⟨y1, y2⟩ := List.pairwise_cons.mp hy
    have e : x = y := by
      have a := (h x).mp (by simp)
      have b := (h y).mpr (by simp)
      rcases List.mem_cons.mp a with z | z
      · exact z
      · rcases List.mem_cons.mp b with q | q
        · exact q.symm
        · have := x1 y q
          have := y1 x z
          omega
    subst e
    rw [up_same x2 y2 fun k => ?_]
    constructor
    · intro hk
      rcases List.mem_cons.mp ((h k).mp (List.mem_cons_of_mem _ hk)) with z | z
      · subst z; exact absurd (x1 _ hk) (Int.lt_irrefl _)
      · exact z
    · intro hk
      rcases List.mem_cons.mp ((h k).mpr (List.mem_cons_of_mem _ hk)) with z | z
      · subst z; exact absurd (y1 _ hk) (Int.lt_irrefl _)
      · exact z
theorem nodup_sub_len {α : Type} : ∀ (xs ys : List α), xs.Nodup → (∀ x ∈ xs, x ∈ ys) → xs.length ≤ ys.length
  | [], ys, _, _ => Nat.zero_le _
  | x :: xs, ys, nd, h => by
    obtain ⟨n1, n2⟩ := List.nodup_cons.mp nd
    obtain ⟨a, b, rfl⟩ := List.append_of_mem (h x (by simp))
    have := nodup_sub_len xs (a ++ b) n2 fun z hz => by
      have q := h z (List.mem_cons_of_mem _ hz)
      rcases List.mem_append.mp q with q | q
      · exact List.mem_append_left _ q
      · rcases List.mem_cons.mp q with q | q
        · subst q; exact absurd hz n1
        · exact List.mem_append_right _ q
    simp only [List.length_append, List.length_cons] at this ⊢
    omega
section
variable {X : Cx} {W : WX} {a : Expr} {oa : Opd} {pos p p2 q : Pos}
def rSetT (K : PySem.W.Frag) (w : World) : List V → Hp → VK → Prop := fun vs H Q => ∃ (t : Addr) (ns : List Int), vs = [V.ref t] ∧ SqT K H t (ns.map V.int) ∧ ns.length ≤ 4000 ∧ (setI ns).length < 64 ∧
  ∀ (b : Addr) (c : Nat), c < 64 → H b = none → Q (.ref b) (upd H b (SetO w b (fun j => decide (j ∈ ns)) c))
theorem setR_small {w : World} {h : Heap} {b : Addr} {c : Nat} {ns : List Int} (R : SetR w h b (fun j => decide (j ∈ ns)) c) (hl : (setI ns).length < 64) : c < 64 := by
  obtain ⟨o, es, ep, t, _, _, _, _, nd, hm, _, _, hn, _⟩ := R
  have h1 : (es.toList.map keyOf).length ≤ (setI ns).length := nodup_sub_len _ _ nd fun z hz => by
    rw [mem_setI]
    simpa using (hm z).mpr hz
  rw [List.length_map, Array.length_toList, hn] at h1
  omega
theorem cr_setT (hc : X.calm = true) : CallR X (.type "set") (rSetT X.K X.w) := by
  intro pins s σ H vs us Q I r h
  obtain ⟨t, ns, rfl, hq, hl, h64, k⟩ := h
  rw [Vals.ref1 r]
  obtain ⟨its, rv, pt, hz⟩ := I.tuple hq
  refine call_set_tupI ns (I.ok.hd hc) (show s.heap.IsTuple t its.toArray from pt) (ints_of_vals rv) (by unfold scanBound; omega) fun h' tk c R hcn kp => ?_
  have hf : H s.heap.objs.size = none := I.hok.fresh (Nat.le_refl _)
  exact ⟨.ref _, upd H s.heap.objs.size (SetO X.w s.heap.objs.size _ c), I.laid (t' := tk) kp (Nat.le_refl _) (setO_new R), rfl, k _ c (setR_small R h64) hf⟩
def oSortSet : D → Option Ob
  | .tup ds => (match intsD ds with
    | some ns => if ns.length ≤ 4000 ∧ (setI ns).length < 64 then some (.lst ((setI ns).map .int)) else none
    | none => none)
  | _ => none
@[simp] theorem oSortSet_t (ns : List Int) : oSortSet (.tup (ns.map .int)) = if ns.length ≤ 4000 ∧ (setI ns).length < 64 then some (.lst ((setI ns).map .int)) else none := by
  unfold oSortSet
  simp only [intsD_of]
def rSoSe (K : PySem.W.Frag) (w : World) : List V → Hp → VK → Prop := fun vs H Q => rSetT K w vs H fun x H1 => rSortedSet w [x] H1 Q
theorem sf_sortSet (hc : X.calm = true) (hg : Gl X "sorted") (hm : X.mg "sorted" = none) (hg2 : Gl X "set") (hm2 : X.mg "set" = none) (ha : SO X W a oa)
    (hst : starEach [a] X.env = (false, eval a X.env) :: starEach [] X.env := by rfl)
    (hst2 : starEach [Expr.Call (.Name "set" p2) [a] [] q] X.env = (false, eval (Expr.Call (.Name "set" p2) [a] [] q) X.env) :: starEach [] X.env := by rfl) :
    SF X W (.Call (.Name "sorted" p) [.Call (.Name "set" p2) [a] [] q] [] pos) (f1 oSortSet oa) := by
  refine sf_c1 (a := a) (r := rSoSe X.K X.w) (fun {t} h => ?_) ?_ ha hst
  · have z := pe_callB (p := p) (pos := pos) (x := "sorted") (id := "sorted") (cr_sortedSet hc) hg hm (by decide +kernel) (pa_cons (pe_callTy (p := p2) (pos := q) (x := "set") (T := "set") (cr_setT hc) hg2 hm2 (by decide +kernel) h (he := hst)) pa_nil hst2) (he := hst2)
    exact z
  · intro g I F s σ H Q x dx d sm rx e k
    cases dx with
    | tup ds =>
      cases hi : intsD ds with
      | none => simp only [oSortSet, hi] at e; cases e
      | some ns =>
        cases intsD_map hi
        rw [oSortSet_t] at e
        by_cases hk : ns.length ≤ 4000 ∧ (setI ns).length < 64
        · rw [if_pos hk] at e
          cases e
          obtain ⟨t, vs, rfl, h1, r1, _⟩ := rx.tup sm.sub
          cases r1.ints
          refine ⟨t, ns, rfl, h1, hk.1, hk.2, fun b c hc64 hb => ?_⟩
          have hbb : upd H b (SetO X.w b (fun j => decide (j ∈ ns)) c) b = some (SetO X.w b (fun j => decide (j ∈ ns)) c) := by
            unfold upd
            rw [if_pos rfl]
          refine ⟨b, _, c, rfl, hbb, hc64, fun ms z hup hmem hlen hz => ?_⟩
          have e : ms = setI ns := up_same hup (setI_up ns) fun k => by rw [hmem, mem_setI]; simp
          subst e
          exact k _ _ _ _ _ (sm.fresh hb) hz (.lst (repL_ints _))
        · rw [if_neg hk] at e; cases e
    | _ => cases e
/-! ### max(d), d a dict with int keys -/
def rMaxK : List V → Hp → VK → Prop := fun vs H Q => ∃ (b : Addr) (kvs : List (Key × V)) (ms : List Int), vs = [V.ref b] ∧ Rd H b (.dK kvs) ∧ kvs.map (·.1) = ms.map Sum.inl ∧ ms ≠ [] ∧ ∀ m, m ∈ ms → (∀ j ∈ ms, j ≤ m) → Q (.int m) H
theorem getD_at {ms : List Int} {i : Nat} (h : i < ms.length) : ms.getD i 0 = ms[i] := by simp [h]
theorem cr_maxK (hc : X.calm = true) : CallR X (.builtin "max") rMaxK := by
  intro pins st σ H xs us Q I r hyp
  obtain ⟨b, kvs, ms, rfl, rd, keys, ne, k⟩ := hyp
  rw [Vals.ref1 r]
  obtain ⟨_, nsys, ws, kv, isd⟩ := rd.ok I.hok
  obtain ⟨ep, da⟩ := isd.dictAt
  have hb : b < st.heap.objs.size := by
    obtain ⟨_, _, ho, _⟩ := id da
    exact Heap.lt_size ho
  have wk : ws.map (·.1) = ms.map Sum.inl := by rw [← KV.keys kv]; exact keys
  have wl : ws.length = ms.length := by simpa using congrArg List.length wk
  have pos : 0 < ws.length := by rw [wl]; exact List.length_pos_iff.mpr ne
  have ivs : ∀ (i : Nat) (v : Value), (∃ c x, ws[i]? = some (c, x) ∧ (mixKind X.prog X.w).is c v = true) → ∃ t, v = Value.int (ms.getD i 0) t := by
    rintro i v ⟨c, x, hi, hv⟩
    have q : (ms.map (Sum.inl (β := Str)))[i]? = some c := by rw [← wk, List.getElem?_map, hi]; rfl
    rw [List.getElem?_map] at q
    obtain ⟨m, hm, rfl⟩ := Option.map_eq_some_iff.mp q
    obtain ⟨t, rfl⟩ := Value.isInt_shape (k := m) (v := v) hv
    exact ⟨t, by rw [List.getD_eq_getElem?_getD, hm]; rfl⟩
  refine call_max_walk (wpAny_pyIter_dict (knd := mixKind X.prog X.w) nsys da ?_)
  refine ⟨_, _, _, _, _, _, _, rfl, Walks.dictKeys (knd := mixKind X.prog X.w) (A := X.A.in1) (I.ok.hd hc) st.heap.objs.size b (Nat.ne_of_lt hb) ws ep, ⟨⟨_, Heap.get?_push_size _ rfl, rfl, rfl⟩, da.keep fun c u e => Heap.get?_push_of_some _ e⟩, ?_, pos, CmpOf.ints_gt (fun i => ms.getD i 0) ivs, ?_⟩
  · intro c hc2
    show c < (st.heap.push _).objs.size
    rw [Heap.size_push]
    simp only [List.mem_cons, List.not_mem_nil, or_false] at hc2
    rcases hc2 with z | z
    · rw [z]; exact Nat.lt_succ_self _
    · rw [z]; exact Nat.lt_succ_of_lt hb
  · intro v h' tk hP hk
    obtain ⟨t, rfl⟩ := ivs _ v hP
    obtain ⟨b1, b2⟩ := argBest_gt (fun i => ms.getD i 0) (ws.length - 1)
    refine ⟨.int _, H, I.kept (t' := tk) fun c u e => hk c u (fun z => ?_) (Heap.get?_push_of_some _ e), ⟨t, rfl⟩, k _ ?_ ?_⟩
    · rw [List.mem_singleton.mp z] at e
      exact absurd (Heap.lt_size e) (Nat.lt_irrefl _)
    · rw [getD_at (by omega)]
      exact List.getElem_mem _
    · intro j hj
      obtain ⟨i, hi, rfl⟩ := List.mem_iff_getElem.mp hj
      have := b2 i (by omega)
      rw [getD_at hi] at this
      exact this
def keysI : List (D × D) → Option (List Int)
  | [] => some []
  | (.int i, _) :: r => (keysI r).map (i :: ·)
  | _ :: _ => none
def dMaxD : D → Option D
  | .dct kvs => (match keysI kvs with
    | some (n :: ns) => some (.int (maxL n ns))
    | _ => none)
  | _ => none
theorem keysI_rep {K : PySem.W.Frag} {I : List Addr} {F : Hp} : ∀ {vs : List (Key × V)} {ds : List (D × D)} {ns : List Int}, RepK K I F vs ds → keysI ds = some ns → vs.map (·.1) = ns.map Sum.inl
  | _, _, ns, .nil, h => by
    simp only [keysI] at h
    cases h
    rfl
  | _, _, ns, .cons (k := k) (v := v) (vs := vs) (d := d) (ds := ds) a b, h => by
    cases k with
    | inl i =>
      simp only [kD, keysI] at h
      obtain ⟨ms, hm, rfl⟩ := Option.map_eq_some_iff.mp h
      rw [List.map_cons, keysI_rep b hm]
      rfl
    | inr x => simp only [kD, keysI] at h; cases h
theorem keysT {K : PySem.W.Frag} {ds : List (D × D)} : keysI ((D.non, D.non) :: ds) = none := rfl
theorem RW.dK {K : PySem.W.Frag} {I : List Addr} {F H : Hp} {v : V} {kvs : List (D × D)} {ns : List Int} (r : RW K I F H v (.dct kvs)) (hs : Same F H) (hk : keysI kvs = some ns) : ∃ b vs, v = .ref b ∧ Rd H b (.dK vs) ∧ RepK K I F vs kvs := by
  cases r with
  | r h =>
    cases h with
    | dK q r =>
      refine ⟨_, _, rfl, ?_, r⟩
      rcases q with q | ⟨o, q⟩
      · exact .inl (hs _ _ q)
      · exact .inr ⟨o, hs _ _ q⟩
    | dT q r => simp [keysI] at hk
  | o e hr ed =>
    cases hr with
    | dK r =>
      cases ed
      exact ⟨_, _, rfl, .inl e, r⟩
    | dT r =>
      cases ed
      simp [keysI] at hk
    | lst _ => cases ed
    | ins _ => cases ed
theorem se_maxD (hc : X.calm = true) (hg : Gl X "max") (hm : X.mg "max" = none) (ha : SO X W a oa) (hst : starEach [a] X.env = (false, eval a X.env) :: starEach [] X.env := by rfl) : SE X W (.Call (.Name "max" p) [a] [] pos) (e1 dMaxD oa) := by
  refine se_c1 (fun h => pe_callB (cr_maxK hc) hg hm (by decide +kernel) h (he := hst)) ?_ ha hst
  intro g I F s σ H Q x dx d sm rx e k
  cases dx with
  | dct kvs =>
    cases hk : keysI kvs with
    | none => simp only [dMaxD, hk] at e; cases e
    | some ms =>
      cases ms with
      | nil => simp only [dMaxD, hk] at e; cases e
      | cons n ns =>
        simp only [dMaxD, hk] at e
        cases e
        obtain ⟨b, vs, rfl, h1, r1⟩ := rx.dK sm.sub hk
        obtain ⟨m1, m2⟩ := maxL_mem ns n
        refine ⟨b, vs, n :: ns, rfl, h1, keysI_rep r1 hk, by simp, fun m hm1 hm2 => ?_⟩
        have : m = maxL n ns := Int.le_antisymm (m2 m hm1) (hm2 _ m1)
        subst this
        exact k _ _ _ sm (.int _)
  | _ => cases e
@[simp] theorem dMaxD_d {kvs : List (D × D)} {n : Int} {ns : List Int} (h : keysI kvs = some (n :: ns)) : dMaxD (.dct kvs) = some (.int (maxL n ns)) := by
  simp only [dMaxD, h]
/-! ### a if c else b, a new object -/
def fIf (c : M Bool) (f h : M Ob) : M Ob := fun s => (c s).bnd (kIf f h)
@[simp] theorem r_fIf (c : M Bool) (f h : M Ob) (s : S) : fIf c f h s = (c s).bnd (kIf f h) := rfl
theorem sf_if {c b : Expr} {f h : M Ob} {k : M Bool} (hc : ST X W c k) (ha : SF X W a f) (hb : SF X W b h) : SF X W (.IfExp c a b pos) (fIf k f h) := by
  obtain ⟨tc, c1, c2⟩ := hc
  obtain ⟨t, a1, a2⟩ := ha
  obtain ⟨u, b1, b2⟩ := hb
  refine ⟨_, pe_ifExp c1 a1 b1, fun g I F s σ H Q x hq => c2 g I F s σ H _ x ?_⟩
  rw [r_fIf] at hq
  cases e : k s with
  | stuck => rw [e] at hq; exact hq
  | ex z s1 => rw [e] at hq; exact hq
  | ok d s1 =>
    rw [e, bnd_ok, kIf_ite] at hq
    intro I1 F1 H1 x1
    cases d with
    | true => rw [if_pos rfl] at hq ⊢; exact a2 g I1 F1 s1 σ H1 Q x1 hq
    | false => rw [if_neg Bool.false_ne_true] at hq ⊢; exact b2 g I1 F1 s1 σ H1 Q x1 hq
end
end Fw
namespace Fw
open PySem L2
/-! ### comprehensions and loops at a state that is written out -/
theorem set_set_same {α : Type} (l : List α) (i : Nat) (a b : α) : (l.set i a).set i b = l.set i b := by simp
theorem set_back {α : Type} {l : List α} {i : Nat} {a x : α} (h : l[i]? = some x) : (l.set i a).set i x = l := by
  rw [set_set_same]
  exact set_self h
def PlainSlot (o : Option Slot) : Prop := o = some .un ∨ ∃ d, o = some (.v d)
theorem ps_un : PlainSlot (some .un) := .inl rfl
theorem ps_v (d : D) : PlainSlot (some (.v d)) := .inr ⟨d, rfl⟩
theorem back1 {en : List Slot} {i : Nat} (h : PlainSlot en[i]?) : backE en [i] (en.set i .un) = some en := by
  unfold backE
  rcases h with h | ⟨d, h⟩
  · simp only [backE, h]
    rw [set_back h]
  · simp only [backE, h]
    rw [set_back h]
theorem kc1f {i : Nat} {c : M Bool} {e : M D} {β : Type} (enc : β → D) (p : β → Bool) (g : β → D) (xs : List β) (en : List Slot) (st : List Ob) (hu : PlainSlot en[i]?) (hl : xs.length ≤ 1000000)
    (hc : ∀ x ∈ xs, c ⟨en.set i (.v (enc x)), st⟩ = .ok (p x) ⟨en.set i (.v (enc x)), st⟩) (he : ∀ x ∈ xs, p x = true → e ⟨en.set i (.v (enc x)), st⟩ = .ok (g x) ⟨en.set i (.v (enc x)), st⟩) :
    kLc [i] (gNm i) c e (xs.map enc) ⟨en, st⟩ = .ok (.lst ((xs.filter p).map g)) ⟨en, st⟩ := by
  have h := lc_fm (is := [i]) (it := fun s => .ok (xs.map enc) s) (t := gNm i) (c := c) (e := e) (s := ⟨en, st⟩) enc en (en.set i .un) st p g (fun x => en.set i (.v (enc x))) xs rfl rfl (back1 hu) hl
    (fun x _ => by
      show some (⟨(en.set i .un).set i (.v (enc x)), st⟩ : S) = _
      rw [set_set_same])
    (fun x => by
      show (en.set i (.v (enc x))).set i .un = _
      rw [set_set_same]) hc he
  exact h
theorem kc1 {i : Nat} {e : M D} {β : Type} (enc : β → D) (g : β → D) (xs : List β) (en : List Slot) (st : List Ob) (hu : PlainSlot en[i]?) (hl : xs.length ≤ 1000000)
    (he : ∀ x ∈ xs, e ⟨en.set i (.v (enc x)), st⟩ = .ok (g x) ⟨en.set i (.v (enc x)), st⟩) :
    kLc [i] (gNm i) tYesM e (xs.map enc) ⟨en, st⟩ = .ok (.lst (xs.map g)) ⟨en, st⟩ := by
  have h := kc1f (c := tYesM) enc (fun _ => true) g xs en st hu hl (fun x hx => rfl) (fun x hx _ => he x hx)
  rw [List.filter_eq_self.mpr (fun _ _ => rfl)] at h
  exact h
theorem back2 {en : List Slot} {i j : Nat} (hij : i ≠ j) (hi : PlainSlot en[i]?) (hj : PlainSlot en[j]?) : backE en [i, j] ((en.set j .un).set i .un) = some en := by
  have h1 : ∃ x, en[j]? = some x ∧ backE en [j] ((en.set j .un).set i .un) = some (((en.set j .un).set i .un).set j x) := by
    rcases hj with h | ⟨d, h⟩
    · exact ⟨_, h, by simp only [backE, h]⟩
    · exact ⟨_, h, by simp only [backE, h]⟩
  obtain ⟨x, hx, e1⟩ := h1
  have e2 : ((en.set j .un).set i .un).set j x = en.set i .un := by
    rw [List.set_comm _ _ hij, set_set_same, set_self hx]
  rw [e2] at e1
  unfold backE
  rw [e1]
  rcases hi with h | ⟨d, h⟩
  · simp only [h]
    rw [set_back h]
  · simp only [h]
    rw [set_back h]
theorem kc2f {i j : Nat} {c : M Bool} {e : M D} {β : Type} (a b : β → D) (p : β → Bool) (g : β → D) (xs : List β) (en : List Slot) (st : List Ob) (hij : i ≠ j) (hi : PlainSlot en[i]?) (hj : PlainSlot en[j]?) (hl : xs.length ≤ 1000000)
    (hc : ∀ x ∈ xs, c ⟨(en.set i (.v (a x))).set j (.v (b x)), st⟩ = .ok (p x) ⟨(en.set i (.v (a x))).set j (.v (b x)), st⟩) (he : ∀ x ∈ xs, p x = true → e ⟨(en.set i (.v (a x))).set j (.v (b x)), st⟩ = .ok (g x) ⟨(en.set i (.v (a x))).set j (.v (b x)), st⟩) :
    kLc [i, j] (gTp 2 (gNms [i, j])) c e (xs.map fun x => .tup [a x, b x]) ⟨en, st⟩ = .ok (.lst ((xs.filter p).map g)) ⟨en, st⟩ := by
  have h := lc_fm (is := [i, j]) (it := fun s => .ok (xs.map fun x => D.tup [a x, b x]) s) (t := gTp 2 (gNms [i, j])) (c := c) (e := e) (s := ⟨en, st⟩) (fun x => .tup [a x, b x]) en ((en.set j .un).set i .un) st p g (fun x => (en.set i (.v (a x))).set j (.v (b x))) xs rfl rfl (back2 hij hi hj) hl
    (fun x _ => by
      show some (⟨(((en.set j .un).set i .un).set i (.v (a x))).set j (.v (b x)), st⟩ : S) = _
      rw [set_set_same, List.set_comm _ _ hij.symm, set_set_same, List.set_comm _ _ hij])
    (fun x => by
      show (((en.set i (.v (a x))).set j (.v (b x))).set j .un).set i .un = _
      rw [set_set_same, List.set_comm _ _ hij, set_set_same]) hc he
  exact h
theorem kc2 {i j : Nat} {e : M D} {β : Type} (a b : β → D) (g : β → D) (xs : List β) (en : List Slot) (st : List Ob) (hij : i ≠ j) (hi : PlainSlot en[i]?) (hj : PlainSlot en[j]?) (hl : xs.length ≤ 1000000)
    (he : ∀ x ∈ xs, e ⟨(en.set i (.v (a x))).set j (.v (b x)), st⟩ = .ok (g x) ⟨(en.set i (.v (a x))).set j (.v (b x)), st⟩) :
    kLc [i, j] (gTp 2 (gNms [i, j])) tYesM e (xs.map fun x => .tup [a x, b x]) ⟨en, st⟩ = .ok (.lst (xs.map g)) ⟨en, st⟩ := by
  have h := kc2f (c := tYesM) a b (fun _ => true) g xs en st hij hi hj hl (fun x hx => rfl) (fun x hx _ => he x hx)
  rw [List.filter_eq_self.mpr (fun _ _ => rfl)] at h
  exact h
/-- the enumerated row -/
theorem enumD_zip {β : Type} (enc : β → D) (xs : List β) : enumD 0 (xs.map enc) = (xs.zipIdx 0).map fun p => .tup [.int (p.2 : Int), enc p.1] := enumD_map enc xs 0
/-! loops -/
theorem forL_go {β : Type} {t : Tg} {b : M Fl} (enc : β → D) (I : List β → S → Prop) : ∀ (xs pre : List β) (s : S), I pre s → (∀ p x q s, pre ++ xs = p ++ x :: q → I p s → ∃ s1, t (enc x) s = some s1 ∧ Goes b s1 (I (p ++ [x]))) → ∃ s', forL t b (xs.map enc) s = .ok .nx s' ∧ I (pre ++ xs) s'
  | xs, pre, s, h0, step => forL_pre enc I xs pre s h0 fun p x q s e hI => by
      obtain ⟨s1, h1, s2, h2, h3⟩ := step p x q s e hI
      exact ⟨s1, s2, h1, h2, h3⟩
theorem go_for {β : Type} {t : Tg} {b h : M Fl} {s : S} {P : S → Prop} (enc : β → D) (xs : List β) (I : List β → S → Prop) (h0 : I [] s) (step : ∀ p x q s, xs = p ++ x :: q → I p s → ∃ s1, t (enc x) s = some s1 ∧ Goes b s1 (I (p ++ [x]))) (k : ∀ s', I xs s' → Goes h s' P) : GoK (kFor t b (xs.map enc) s) h P := by
  obtain ⟨s', e, hI⟩ := forL_go (t := t) (b := b) enc I xs [] s h0 step
  rw [r_kFor, e, GoK_nx]
  exact k s' hI
theorem end_for {β : Type} {t : Tg} {b : M Fl} {s : S} {P : S → Prop} (enc : β → D) (xs : List β) (I : List β → S → Prop) (h0 : I [] s) (step : ∀ p x q s, xs = p ++ x :: q → I p s → ∃ s1, t (enc x) s = some s1 ∧ Goes b s1 (I (p ++ [x]))) (k : ∀ s', I xs s' → P s') : EndK (kFor t b (xs.map enc) s) P := by
  obtain ⟨s', e, hI⟩ := forL_go (t := t) (b := b) enc I xs [] s h0 step
  rw [r_kFor, e, EndK_nx]
  exact k s' hI
theorem rt_for {β : Type} {t : Tg} {b h : M Fl} {s : S} {d : D} (enc : β → D) (xs : List β) (I : List β → S → Prop) (h0 : I [] s) (step : ∀ p x q s, xs = p ++ x :: q → I p s → ∃ s1, t (enc x) s = some s1 ∧ Goes b s1 (I (p ++ [x]))) (k : ∀ s', I xs s' → Ret h s' d) : RtK (kFor t b (xs.map enc) s) h d := by
  obtain ⟨s', e, hI⟩ := forL_go (t := t) (b := b) enc I xs [] s h0 step
  rw [r_kFor, e, RtK_nx]
  exact k s' hI
theorem rs_for {β : Type} {t : Tg} {b h : M Fl} {s : S} {d : D} {st : List Ob} (enc : β → D) (xs : List β) (I : List β → S → Prop) (h0 : I [] s) (step : ∀ p x q s, xs = p ++ x :: q → I p s → ∃ s1, t (enc x) s = some s1 ∧ Goes b s1 (I (p ++ [x]))) (k : ∀ s', I xs s' → RetS h s' d st) : RsK (kFor t b (xs.map enc) s) h d st := by
  obtain ⟨s', e, hI⟩ := forL_go (t := t) (b := b) enc I xs [] s h0 step
  rw [r_kFor, e, RsK_nx]
  exact k s' hI
/-- the enumerated ones, by what has been gone through -/
theorem zip_pre {β : Type} {xs : List β} {p q : List (β × Nat)} {x : β × Nat} (h : xs.zipIdx 0 = p ++ x :: q) : xs = p.map (·.1) ++ x.1 :: q.map (·.1) ∧ x.2 = p.length := by
  have h1 := congrArg (List.map Prod.fst) h
  rw [List.zipIdx_map_fst, List.map_append, List.map_cons] at h1
  refine ⟨h1, ?_⟩
  have h2 := congrArg (List.map Prod.snd) h
  rw [List.zipIdx_map_snd, List.map_append, List.map_cons] at h2
  have h3 : (List.range' 0 xs.length)[p.length]? = some x.2 := by rw [h2]; simp
  rw [List.getElem?_range' (by rw [h1]; simp)] at h3
  injection h3 with h3
  omega
theorem go_assoc {f h k : M Fl} {s : S} {P : S → Prop} (a : Goes (bSeq f (bSeq h k)) s P) : Goes (bSeq (bSeq f h) k) s P := by
  obtain ⟨s', e, hp⟩ := a
  refine ⟨s', ?_, hp⟩
  unfold bSeq at e ⊢
  cases hf : f s with
  | ok fl s1 =>
    rw [hf] at e
    cases fl with
    | nx =>
      simp only [bnd_ok] at e ⊢
      exact e
    | _ => simp only [bnd_ok] at e ⊢; exact e
  | ex c s1 => rw [hf] at e; cases e
  | stuck => rw [hf] at e; cases e
theorem go_if_t {c : M Bool} {f h k : M Fl} {s s1 : S} {P : S → Prop} (e : c s = .ok true s1) (a : Goes (bSeq f k) s1 P) : Goes (bSeq (sIf c f h) k) s P := by
  obtain ⟨s', q, hp⟩ := a
  refine ⟨s', ?_, hp⟩
  unfold bSeq at q ⊢
  rw [if_t e]
  exact q
theorem go_if_f {c : M Bool} {f h k : M Fl} {s s1 : S} {P : S → Prop} (e : c s = .ok false s1) (a : Goes (bSeq h k) s1 P) : Goes (bSeq (sIf c f h) k) s P := by
  obtain ⟨s', q, hp⟩ := a
  refine ⟨s', ?_, hp⟩
  unfold bSeq at q ⊢
  rw [if_f e]
  exact q
theorem go_nil {k : M Fl} {s : S} {P : S → Prop} (a : Goes k s P) : Goes (bSeq bNil k) s P := goes_seq rfl a
end Fw
namespace Fw
open PySem PySem.Spec PySem.W PyProof.Rows L2
/-! ### a < b, a > b of tuples that are alike -/
def D.isTup : D → Bool
  | .tup _ => true
  | _ => false
def cmpOk (x y : D) : Bool := x.isTup && (y.isTup && (x.ok && (y.ok && (decide (x.dep ≤ 60) && (decide (y.dep ≤ 60) && alike x.toPy y.toPy)))))
def dLtD (x y : D) : Option D := if cmpOk x y = true then some (.bl (dataLt x.toPy y.toPy)) else none
def dGtD (x y : D) : Option D := if cmpOk x y = true then some (.bl (dataLt y.toPy x.toPy)) else none
section
variable {X : Cx} {W : WX} {a b : Expr} {oa ob : Opd} {pos : Pos}
def rCmpD (K : PySem.W.Frag) (f : PyData → PyData → Bool) : R2 := fun x y H Q => ∃ d e, Dp K H x d ∧ Dp K H y e ∧ alike d e = true ∧ d ≠ .none ∧ d.depth ≤ 60 ∧ Q (.bl (f d e)) H
theorem op_ltD (hu : X.A.units + 64 < cLine) : OpR X (compareOp .Lt) (rCmpD X.K dataLt) := by
  intro pins s σ H x y v u Q I rx ry h
  obtain ⟨d, e, hd, he, al, nn, dp, q⟩ := h
  obtain ⟨as, r1⟩ := Dp.reads I d x v hd rx
  obtain ⟨bs, r2⟩ := Dp.reads I e y u he ry
  refine lt_data r1 r2 al nn ?_ ⟨.bl _, H, I, rfl, q⟩
  have : min d.depth e.depth ≤ d.depth := Nat.min_le_left _ _
  omega
theorem op_gtD (hu : X.A.units + 64 < cLine) : OpR X (compareOp .Gt) (rCmpD X.K fun d e => dataLt e d) := by
  intro pins s σ H x y v u Q I rx ry h
  obtain ⟨d, e, hd, he, al, nn, dp, q⟩ := h
  obtain ⟨as, r1⟩ := Dp.reads I d x v hd rx
  obtain ⟨bs, r2⟩ := Dp.reads I e y u he ry
  refine gt_data r1 r2 al nn ?_ ⟨.bl _, H, I, rfl, q⟩
  have : min d.depth e.depth ≤ d.depth := Nat.min_le_left _ _
  omega
theorem cmpOk_inv {x y : D} (h : cmpOk x y = true) : x.ok = true ∧ y.ok = true ∧ x.dep ≤ 60 ∧ alike x.toPy y.toPy = true ∧ x.toPy ≠ .none := by
  unfold cmpOk at h
  simp only [Bool.and_eq_true, decide_eq_true_eq] at h
  obtain ⟨h1, _, h3, h4, h5, _, h7⟩ := h
  refine ⟨h3, h4, h5, h7, ?_⟩
  cases x with
  | tup xs => intro z; cases z
  | _ => cases h1
theorem ops_cmpD {f : PyData → PyData → Bool} {op : D → D → Option D} (hop : ∀ x y, op x y = if cmpOk x y = true then some (.bl (f x.toPy y.toPy)) else none) : OpS X (rCmpD X.K f) op := by
  intro g I F s σ H Q x y dx dy d sm rx ry e q
  rw [hop] at e
  by_cases h : cmpOk dx dy = true
  · rw [if_pos h] at e
    cases e
    obtain ⟨h1, h2, h3, h4, h5⟩ := cmpOk_inv h
    exact ⟨dx.toPy, dy.toPy, rx.dp sm.sub h1, ry.dp sm.sub h2, h4, h5, by rw [toPy_dep dx h1]; exact h3, q _ F H sm (.bl _)⟩
  · rw [if_neg h] at e
    cases e
theorem se_ltD {k : Nat} (hr : Room k X.A) (ha : SO X W a oa) (hb : SO X W b ob) : SE X W (.Compare a [.Lt] [b] pos) (e2 dLtD oa ob) := se_cmp (op_ltD (room64 hr)) (ops_cmpD fun _ _ => rfl) ha hb (nomark _)
theorem st_ltD {k : Nat} (hr : Room k X.A) (ha : SO X W a oa) (hb : SO X W b ob) : ST X W (.Compare a [.Lt] [b] pos) (tB1 (e2 dLtD oa ob)) := st_cmp (op_ltD (room64 hr)) (ops_cmpD fun _ _ => rfl) ha hb (nomark _)
theorem se_gtD {k : Nat} (hr : Room k X.A) (ha : SO X W a oa) (hb : SO X W b ob) : SE X W (.Compare a [.Gt] [b] pos) (e2 dGtD oa ob) := se_cmp (op_gtD (room64 hr)) (ops_cmpD fun _ _ => rfl) ha hb (nomark _)
theorem st_gtD {k : Nat} (hr : Room k X.A) (ha : SO X W a oa) (hb : SO X W b ob) : ST X W (.Compare a [.Gt] [b] pos) (tB1 (e2 dGtD oa ob)) := st_cmp (op_gtD (room64 hr)) (ops_cmpD fun _ _ => rfl) ha hb (nomark _)
end
end Fw
namespace Fw
open PySem PySem.Spec PyProof.Rows L2
/-! ### methods of texts with one argument -/
def isS : D → Bool
  | .str _ => true
  | _ => false
@[simp] theorem isS_s (x : Str) : isS (.str x) = true := rfl
def kS1b (op : D → D → Option D) (d : D) : D → M D := fun y s => lift1 (op d y) s
def kS1 (op : D → D → Option D) (fe : M D) : D → M D := fun d s => if isS d = true then (fe s).bnd (kS1b op d) else .stuck
def eS1 (op : D → D → Option D) (fo fe : M D) : M D := fun s => (fo s).bnd (kS1 op fe)
@[simp] theorem r_eS1 (op : D → D → Option D) (fo fe : M D) (s : S) : eS1 op fo fe s = (fo s).bnd (kS1 op fe) := rfl
@[simp] theorem r_kS1 (op : D → D → Option D) (fe : M D) (x : Str) (s : S) : kS1 op fe (.str x) s = (fe s).bnd (kS1b op (.str x)) := rfl
@[simp] theorem r_kS1b (op : D → D → Option D) (d y : D) (s : S) : kS1b op d y s = lift1 (op d y) s := rfl
def kF1s (op : D → D → Option Ob) (d : D) : D → M Ob := fun y s => liftO (op d y) s
def kFS1 (op : D → D → Option Ob) (fe : M D) : D → M Ob := fun d s => if isS d = true then (fe s).bnd (kF1s op d) else .stuck
def fS1 (op : D → D → Option Ob) (fo fe : M D) : M Ob := fun s => (fo s).bnd (kFS1 op fe)
@[simp] theorem r_fS1 (op : D → D → Option Ob) (fo fe : M D) (s : S) : fS1 op fo fe s = (fo s).bnd (kFS1 op fe) := rfl
@[simp] theorem r_kFS1 (op : D → D → Option Ob) (fe : M D) (x : Str) (s : S) : kFS1 op fe (.str x) s = (fe s).bnd (kF1s op (.str x)) := rfl
@[simp] theorem r_kF1s (op : D → D → Option Ob) (d y : D) (s : S) : kF1s op d y s = liftO (op d y) s := rfl
section
variable {X : Cx} {W : WX} {o e a b : Expr} {pos p : Pos}
theorem rep_str {K : PySem.W.Frag} {I : List Addr} {F : Hp} {v : V} {x : Str} (r : Rep K I F v (.str x)) : v = .str x := by cases r; rfl
theorem se_S1 {c : Expr} {r : V → List V → Hp → VK → Prop} {op : D → D → Option D} {fo fe : M D} (hp : ∀ {to te : TE}, PE X o to → PE X e te → PE X c (tM1 r to te))
    (hs : ∀ g I F s σ H Q x y dy d, Sim X.K g I F s σ H → Rep X.K I F y dy → op (.str x) dy = some d → (∀ v F' H', Sim X.K g I F' s σ H' → Rep X.K I F' v d → Q v H') → r (.str x) [y] H Q)
    (ha : SE X W o fo) (hb : SE X W e fe) : SE X W c (eS1 op fo fe) := by
  obtain ⟨ta, a1, a2⟩ := ha
  obtain ⟨tb, b1, b2⟩ := hb
  refine ⟨_, hp a1 b1, fun g I F s σ H Q sm hq => a2 g I F s σ H _ sm ?_⟩
  rw [r_eS1] at hq
  cases ea : fo s with
  | stuck => rw [ea] at hq; exact hq
  | ex c s1 => rw [ea] at hq; exact hq
  | ok d s1 =>
    rw [ea, bnd_ok] at hq
    intro v I1 F1 H1 sm1 r1
    cases d with
    | str x =>
      rw [r_kS1] at hq
      cases rep_str r1
      refine ⟨⟨x, rfl⟩, b2 g I1 F1 s1 σ H1 _ sm1 ?_⟩
      cases eb : fe s1 with
      | stuck => rw [eb] at hq; exact hq
      | ex c s2 => rw [eb] at hq; exact hq
      | ok y s2 =>
        rw [eb, bnd_ok, r_kS1b] at hq
        intro w I2 F2 H2 sm2 r2
        cases eo : op (.str x) y with
        | none => rw [eo] at hq; exact hq.elim
        | some d =>
          rw [eo] at hq
          exact hs g I2 F2 s2 σ H2 Q x w y d sm2 r2 eo fun v F' H' sm3 r3 => hq v I2 F' H' sm3 r3
    | _ => exact hq.elim
theorem sf_S1 {c : Expr} {r : V → List V → Hp → VK → Prop} {op : D → D → Option Ob} {fo fe : M D} (hp : ∀ {to te : TE}, PE X o to → PE X e te → PE X c (tM1 r to te))
    (hs : ∀ g I F s σ H Q x y dy d, Sim X.K g I F s σ H → Rep X.K I F y dy → op (.str x) dy = some d → (∀ I F H p h, Sim X.K g I F s σ H → H p = none → HOR X.K I F h d → Q (.ref p) (upd H p h)) → r (.str x) [y] H Q)
    (ha : SE X W o fo) (hb : SE X W e fe) : SF X W c (fS1 op fo fe) := by
  obtain ⟨ta, a1, a2⟩ := ha
  obtain ⟨tb, b1, b2⟩ := hb
  refine ⟨_, hp a1 b1, fun g I F s σ H Q sm hq => a2 g I F s σ H _ sm ?_⟩
  rw [r_fS1] at hq
  cases ea : fo s with
  | stuck => rw [ea] at hq; exact hq
  | ex c s1 => rw [ea] at hq; exact hq
  | ok d s1 =>
    rw [ea, bnd_ok] at hq
    intro v I1 F1 H1 sm1 r1
    cases d with
    | str x =>
      rw [r_kFS1] at hq
      cases rep_str r1
      refine ⟨⟨x, rfl⟩, b2 g I1 F1 s1 σ H1 _ sm1 ?_⟩
      cases eb : fe s1 with
      | stuck => rw [eb] at hq; exact hq
      | ex c s2 => rw [eb] at hq; exact hq
      | ok y s2 =>
        rw [eb, bnd_ok, r_kF1s] at hq
        intro w I2 F2 H2 sm2 r2
        cases eo : op (.str x) y with
        | none => rw [eo] at hq; exact hq.elim
        | some d =>
          rw [eo] at hq
          exact hs g I2 F2 s2 σ H2 Q x w y d sm2 r2 eo fun I F H p h sm3 hp3 r3 => hq I F H p h sm3 hp3 r3
    | _ => exact hq.elim
/-- x.split(y) -/
def oSplit : D → D → Option Ob
  | .str x, .str y => if (y.length == 0) = false ∧ x.length + 2 ≤ sizeLine then some (.lst ((Txt.split x y).map .str)) else none
  | _, _ => none
@[simp] theorem oSplit_s (x y : Str) : oSplit (.str x) (.str y) = if (y.length == 0) = false ∧ x.length + 2 ≤ sizeLine then some (.lst ((Txt.split x y).map .str)) else none := rfl
theorem repL_strs {K : PySem.W.Frag} {I : List Addr} {F : Hp} : ∀ ys : List Str, RepL K I F (ys.map V.str) (ys.map D.str)
  | [] => .nil
  | y :: ys => .cons (.str y) (repL_strs ys)
theorem sf_split {apos : Pos} {fo fe : M D} (ha : SE X W o fo) (hb : SE X W e fe) (hs : starEach [e] X.env = [(false, eval e X.env)] := by rfl) (hbase : attributeBase o "split" X.env (eval o X.env) = eval o X.env := by rfl) (hline : (apos.endLine == pos.line) = true := by rfl) : SF X W (.Call (.Attribute o "split" apos) [e] [] pos) (fS1 oSplit fo fe) := by
  refine sf_S1 (fun h1 h2 => pe_split h1 h2 hs hbase hline) ?_ ha hb
  intro g I F s σ H Q x y dy d sm ry eo k
  cases dy with
  | str y =>
    cases rep_str ry
    rw [oSplit_s] at eo
    by_cases hc : (y.length == 0) = false ∧ x.length + 2 ≤ sizeLine
    · rw [if_pos hc] at eo
      cases eo
      exact ⟨x, y, rfl, rfl, hc.1, hc.2, fun p hp => k I F H p _ sm hp (.lst (repL_strs _))⟩
    · rw [if_neg hc] at eo; cases eo
  | _ => cases eo
/-- x.join(l) -/
def strsD : List D → Option (List Str)
  | [] => some []
  | .str i :: ds => (strsD ds).map (i :: ·)
  | _ => none
theorem strsD_map : ∀ {ds : List D} {ns : List Str}, strsD ds = some ns → ds = ns.map .str
  | [], ns, e => by cases e; rfl
  | .str i :: ds, ns, e => by
    simp only [strsD] at e
    obtain ⟨ms, hm, rfl⟩ := Option.map_eq_some_iff.mp e
    rw [strsD_map hm]
    rfl
  | .non :: _, _, e => by cases e
  | .bl _ :: _, _, e => by cases e
  | .int _ :: _, _, e => by cases e
  | .tup _ :: _, _, e => by cases e
  | .lst _ :: _, _, e => by cases e
  | .dct _ :: _, _, e => by cases e
  | .obj _ :: _, _, e => by cases e
  | .nm _ :: _, _, e => by cases e
@[simp] theorem strsD_of (ns : List Str) : strsD (ns.map .str) = some ns := by
  induction ns with
  | nil => rfl
  | cons n ns ih =>
    show (strsD (ns.map .str)).map (n :: ·) = _
    rw [ih]
    rfl
theorem RepL.strs {K : PySem.W.Frag} {I : List Addr} {F : Hp} : ∀ {vs : List V} {ns : List Str}, RepL K I F vs (ns.map .str) → vs = ns.map .str
  | _, [], .nil => rfl
  | _, n :: ns, .cons a b => by
    rw [rep_str a, RepL.strs b]
    rfl
def joinOk (x : Str) (ys : List Str) : Bool := decide ((ys.map (·.length)).sum + ys.length * x.length ≤ 16777216)
def oJoin : D → D → Option D
  | .str x, .lst ds => (match strsD ds with
    | some ys => if joinOk x ys = true then some (.str (Txt.join x ys)) else none
    | none => none)
  | _, _ => none
@[simp] theorem oJoin_s (x : Str) (ys : List Str) : oJoin (.str x) (.lst (ys.map .str)) = if joinOk x ys = true then some (.str (Txt.join x ys)) else none := by
  unfold oJoin
  simp only [strsD_of]
theorem se_join {apos : Pos} {fo fe : M D} (ha : SE X W o fo) (hb : SE X W e fe) (hs : starEach [e] X.env = [(false, eval e X.env)] := by rfl) (hbase : attributeBase o "join" X.env (eval o X.env) = eval o X.env := by rfl) (hline : (apos.endLine == pos.line) = true := by rfl) : SE X W (.Call (.Attribute o "join" apos) [e] [] pos) (eS1 oJoin fo fe) := by
  refine se_S1 (fun h1 h2 => pe_join h1 h2 hs hbase hline) ?_ ha hb
  intro g I F s σ H Q x y dy d sm ry eo k
  cases dy with
  | lst ds =>
    cases hd : strsD ds with
    | none => simp only [oJoin, hd] at eo; cases eo
    | some ys =>
      cases strsD_map hd
      rw [oJoin_s] at eo
      by_cases hc : joinOk x ys = true
      · rw [if_pos hc] at eo
        cases eo
        obtain ⟨q, vs, rfl, h1, r1⟩ := (RW.r (H := H) ry).lst sm.sub
        cases r1.strs
        exact ⟨x, q, ys, rfl, rfl, .inl h1, of_decide_eq_true hc, k _ F H sm (.str _)⟩
      · rw [if_neg hc] at eo; cases eo
  | _ => cases eo
/-- x.find(y) -/
def oFind : D → D → Option D
  | .str x, .str y => some (.int (Txt.find x y))
  | _, _ => none
@[simp] theorem oFind_s (x y : Str) : oFind (.str x) (.str y) = some (.int (Txt.find x y)) := rfl
theorem se_find {apos : Pos} {fo fe : M D} (ha : SE X W o fo) (hb : SE X W e fe) (hs : starEach [e] X.env = [(false, eval e X.env)] := by rfl) (hbase : attributeBase o "find" X.env (eval o X.env) = eval o X.env := by rfl) (hline : (apos.endLine == pos.line) = true := by rfl) : SE X W (.Call (.Attribute o "find" apos) [e] [] pos) (eS1 oFind fo fe) := by
  refine se_S1 (fun h1 h2 => pe_m1 F.slot_str_find F.type_str_find mt_find h1 h2 hs hbase hline) ?_ ha hb
  intro g I F s σ H Q x y dy d sm ry eo k
  cases dy with
  | str y =>
    cases rep_str ry
    cases eo
    exact ⟨x, y, rfl, rfl, k _ F H sm (.int _)⟩
  | _ => cases eo
end
end Fw
namespace Fw
open PySem PySem.Spec PyProof.Rows L2
section
variable {X : Cx} {W : WX} {o e a b c tg : Expr} {oa ob : Opd} {pos p : Pos}
/-! ### text * number -/
def repS (x : Str) (n : Int) : Str := ⟨((List.replicate n.toNat x.cps.toList).flatten).toArray⟩
theorem foldl_app : ∀ (xs : List (Array Nat)) (acc : Array Nat), (xs.foldl (· ++ ·) acc).toList = acc.toList ++ (xs.map Array.toList).flatten
  | [], acc => by simp
  | x :: xs, acc => by rw [List.foldl_cons, foldl_app xs]; simp
theorem mul_repS (x : Str) (n : Int) : Txt.mul x n = repS x n := by
  unfold Txt.mul repS
  by_cases h1 : n < 1
  · rw [if_pos h1, show n.toNat = 0 by omega]
    rfl
  · rw [if_neg h1]
    by_cases h2 : (n == 1 || x.length == 0) = true
    · rw [if_pos h2]
      rw [Bool.or_eq_true] at h2
      rcases h2 with h2 | h2
      · have : n = 1 := by simpa using h2
        subst this
        simp
      · have hx : x.cps.size = 0 := by
          have : x.length = 0 := by simpa using h2
          exact this
        have hx2 : x.cps = #[] := Array.size_eq_zero_iff.mp hx
        cases x with
        | mk cps =>
          simp only at hx2
          subst hx2
          simp
    · rw [if_neg h2]
      congr 1
      apply Array.toList_inj.mp
      rw [foldl_app]
      simp
def dMulS : D → D → Option D
  | .str x, .int k => if x.length ≤ 1000 ∧ -1000 ≤ k ∧ k ≤ 1000 then some (.str (repS x k)) else none
  | _, _ => none
@[simp] theorem dMulS_s (x : Str) (k : Int) : dMulS (.str x) (.int k) = if x.length ≤ 1000 ∧ -1000 ≤ k ∧ k ≤ 1000 then some (.str (repS x k)) else none := rfl
def rMulStr : R2 := fun x y H Q => ∃ z k, x = .str z ∧ y = .int k ∧ z.length ≤ 1000 ∧ -1000 ≤ k ∧ k ≤ 1000 ∧ Q (.str (repS z k)) H
theorem mulOk_small {x : Str} {n : Int} (h1 : x.length ≤ 1000) (h2 : -1000 ≤ n) (h3 : n ≤ 1000) : MulOk x n := by
  refine ⟨?_, fun h _ => ?_, fun h _ => ?_⟩
  · rw [decide_eq_false (by omega), decide_eq_false (by omega)]
    rfl
  · have : (2 ^ 63 - 1) / n ≥ 1000 := by
      have hn : 0 < n := by omega
      have : 1000 * n ≤ 2 ^ 63 - 1 := by omega
      exact (Int.le_ediv_iff_mul_le hn).mpr this
    omega
  · have hk : n.toNat ≤ 1000 := by omega
    have : x.length * n.toNat ≤ 1000 * 1000 := Nat.mul_le_mul h1 hk
    have hs := sizeLine_n
    exact decide_eq_false (by omega)
theorem op_mulStr : OpR X (binaryOp .Mult) rMulStr := by
  intro pins s σ H x y v u Q I rx ry h
  obtain ⟨z, k, rfl, rfl, h1, h2, h3, q⟩ := h
  obtain ⟨t, rfl⟩ := rx
  obtain ⟨t2, rfl⟩ := ry
  refine SB.mul (mulOk_small h1 h2 h3) fun t' k' => ?_
  rw [mul_repS]
  exact ⟨.str (repS z k), H, I.tok _, ⟨t', rfl⟩, q⟩
theorem se_mulS (ha : SO X W a oa) (hb : SO X W b ob) : SE X W (.BinOp a .Mult b pos) (e2 dMulS oa ob) := by
  refine se_bin op_mulStr ?_ ha hb
  intro g I F s σ H Q x y dx dy d sm rx ry e q
  cases dx with
  | str z =>
    cases dy with
    | int k =>
      rw [dMulS_s] at e
      by_cases hc : z.length ≤ 1000 ∧ -1000 ≤ k ∧ k ≤ 1000
      · rw [if_pos hc] at e
        cases e
        exact ⟨z, k, rx.str, ry.int, hc.1, hc.2.1, hc.2.2, q _ F H sm (.str _)⟩
      · rw [if_neg hc] at e; cases e
    | _ => cases e
  | _ => cases e
/-! ### int(text) -/
def dIntS : D → Option D
  | .str x => if x.length ≤ 640 then (intText? x).map .int else none
  | .int i => some (.int i)
  | .bl k => some (.int (if k then 1 else 0))
  | _ => none
@[simp] theorem dIntS_s (x : Str) : dIntS (.str x) = if x.length ≤ 640 then (intText? x).map .int else none := rfl
theorem se_intS (hg : Gl X "int") (hm : X.mg "int" = none) (ha : SO X W a oa) (hst : starEach [a] X.env = (false, eval a X.env) :: starEach [] X.env := by rfl) : SE X W (.Call (.Name "int" p) [a] [] pos) (e1 dIntS oa) := by
  refine se_c1 (fun h => pe_callTy (CallR.or call_int1 call_int_str) hg hm (by decide +kernel) h (he := hst)) ?_ ha hst
  intro g I F s σ H Q x dx d sm rx e q
  cases dx with
  | str z =>
    rw [dIntS_s] at e
    by_cases hc : z.length ≤ 640
    · rw [if_pos hc] at e
      obtain ⟨n, hn, rfl⟩ := Option.map_eq_some_iff.mp e
      exact .inr ⟨z, n, by rw [rx.str], hn, hc, q _ F H sm (.int _)⟩
    · rw [if_neg hc] at e; cases e
  | int i =>
    cases e
    exact .inl (.inl ⟨i, by rw [rx.int], q _ F H sm (.int _)⟩)
  | bl k =>
    cases e
    exact .inl (.inr ⟨k, by rw [rx.bl], q _ F H sm (.int _)⟩)
  | _ => cases e
/-! ### range(a, b, -1) -/
def downD (i : Int) (n : Nat) : List D := (List.range n).map fun (k : Nat) => .int (i - (k : Int))
theorem walk_down {K : PySem.W.Frag} {I0 : List Addr} {F0 : Hp} {i : Int} {n : Nat} : WalkD K (Itc i (-1) n) I0 F0 (downD i n) where
  go := fun k g I F s σ H sm hL hI hk => by
    show k < n
    simpa [downD] using hk
  stop := fun g I F s σ H sm hL hI => by
    show n ≤ (downD i n).length
    simp [downD]
  yld := fun k g I F s σ H x H' d sm hL hI hy hd => by
    obtain ⟨rfl, rfl⟩ := hy
    have hd' : d = .int (i - (k : Int)) := by
      unfold downD at hd
      rw [List.getElem?_map] at hd
      obtain ⟨j, hj, rfl⟩ := Option.map_eq_some_iff.mp hd
      obtain ⟨h1, h2⟩ := List.getElem?_eq_some_iff.mp hj
      rw [List.getElem_range] at h2
      rw [h2]
    subst hd'
    refine ⟨F, sm.here, ?_⟩
    have e : i + (k : Nat) * (-1) = i - (k : Int) := by omega
    rw [e]
    exact .int _
def kRange3 : List D → M (List D) := fun ds s => match ds with
  | [.int i, .int j, .int c] => if c = -1 ∧ -1000000 ≤ i ∧ i ≤ 1000000 ∧ -1000000 ≤ j ∧ j ≤ 1000000 then .ok (downD i (i - j).toNat) s else .stuck
  | _ => .stuck
def iRange3 (f : M (List D)) : M (List D) := fun s => (f s).bnd kRange3
@[simp] theorem r_iRange3 (f : M (List D)) (s : S) : iRange3 f s = (f s).bnd kRange3 := rfl
@[simp] theorem r_kRange3 (i j c : Int) (s : S) : kRange3 [.int i, .int j, .int c] s = if c = -1 ∧ -1000000 ≤ i ∧ i ≤ 1000000 ∧ -1000000 ≤ j ∧ j ≤ 1000000 then .ok (downD i (i - j).toNat) s else .stuck := rfl
theorem si_range3 {f : M (List D)} (hg : Gl X "range") (hm : X.mg "range" = none) (ha : SA X W [a, b, c] f) (hs : starEach [a, b, c] X.env = (false, eval a X.env) :: starEach [b, c] X.env := by rfl) (hpl : (backTo pos (starEach [b, c] X.env)).any (·.1) = false := by rfl) : SI X W tg (.Call (.Name "range" p) [a, b, c] [] pos) (iRange3 f) := by
  obtain ⟨t, a1, a2⟩ := ha
  refine ⟨_, pi_range3 hg hm a1 hs hpl, fun g I F s σ H R x hq => a2 g I F s σ H _ x ?_⟩
  rw [r_iRange3] at hq
  cases ef : f s with
  | stuck => rw [ef] at hq; exact hq
  | ex c s1 => rw [ef] at hq; exact hq
  | ok ds s1 =>
    rw [ef, bnd_ok] at hq
    intro vs I1 F1 H1 x1 r1
    have key : ∀ ds, PoI X W g σ (kRange3 ds s1) R → ∃ i j, ds = [.int i, .int j, .int (-1)] ∧ -1000000 ≤ i ∧ i ≤ 1000000 ∧ -1000000 ≤ j ∧ j ≤ 1000000 ∧ PoI X W g σ (.ok (downD i (i - j).toNat) s1) R := by
      intro ds hq
      unfold kRange3 at hq
      split at hq
      · next i j c =>
        by_cases hc : c = -1 ∧ -1000000 ≤ i ∧ i ≤ 1000000 ∧ -1000000 ≤ j ∧ j ≤ 1000000
        · rw [if_pos hc] at hq
          obtain ⟨rfl, h1, h2, h3, h4⟩ := hc
          exact ⟨i, j, rfl, h1, h2, h3, h4, hq⟩
        · rw [if_neg hc] at hq
          exact hq.elim
      · exact hq.elim
    obtain ⟨i, j, rfl, h1, h2, h3, h4, hq'⟩ := key ds hq
    cases r1 with
    | cons ra rr =>
      cases rr with
      | cons rb rr =>
        cases rr with
        | cons rc rr =>
          cases rr
          cases ra
          cases rb
          cases rc
          exact ⟨i, j, -1, (i - j).toNat, rfl, RgC.neg (by omega) (by omega) (by omega) (by omega), hq' _ _ _ _ x1 walk_down⟩
/-! ### a or b as a value -/
def kOrV (h : M D) (d : D) (t : Option Bool) : M D := fun s => match t with
  | some true => .ok d s
  | some false => h s
  | none => .stuck
def kOrD (h : M D) : D → M D := fun d s => kOrV h d (dTru d) s
def eOrV (f h : M D) : M D := fun s => (f s).bnd (kOrD h)
@[simp] theorem r_eOrV (f h : M D) (s : S) : eOrV f h s = (f s).bnd (kOrD h) := rfl
@[simp] theorem r_kOrD (h : M D) (d : D) (s : S) : kOrD h d s = kOrV h d (dTru d) s := rfl
@[simp] theorem r_kOrV_t (h : M D) (d : D) (s : S) : kOrV h d (some true) s = .ok d s := rfl
@[simp] theorem r_kOrV_f (h : M D) (d : D) (s : S) : kOrV h d (some false) s = h s := rfl
theorem se_orV {f h : M D} {rest : List Expr} (ha : SE X W a f) (hb : SE X W (.BoolOp .Or (b :: rest) pos) h) : SE X W (.BoolOp .Or (a :: b :: rest) pos) (eOrV f h) := by
  obtain ⟨ta, a1, a2⟩ := ha
  obtain ⟨tb, b1, b2⟩ := hb
  refine ⟨_, pe_orT a1 b1, fun g I F s σ H Q sm hq => a2 g I F s σ H _ sm ?_⟩
  rw [r_eOrV] at hq
  cases ea : f s with
  | stuck => rw [ea] at hq; exact hq
  | ex c s1 => rw [ea] at hq; exact hq
  | ok d s1 =>
    rw [ea, bnd_ok, r_kOrD] at hq
    intro v I1 F1 H1 sm1 r1
    cases hd : dTru d with
    | none => rw [hd] at hq; exact hq.elim
    | some k =>
      rw [hd] at hq
      refine ⟨k, (RW.r r1).tru sm1.sub hd, ?_⟩
      cases k with
      | true => rw [if_pos rfl]; exact hq v I1 F1 H1 sm1 r1
      | false => rw [if_neg Bool.false_ne_true]; exact b2 g I1 F1 s1 σ H1 Q sm1 hq
end
end Fw
namespace Fw
open PySem PySem.Spec PyProof.Rows L2
section
variable {X : Cx} {W : WX} {o e a b c tg : Expr} {oa ob : Opd} {pos p : Pos}
/-! ### x.pop() -/
def k1Pop0 : List D → Ob → Option (D × Ob)
  | [], .lst xs => (match xs[xs.length - 1]? with
    | some y => some (y, .lst xs.dropLast)
    | none => none)
  | _, _ => none
@[simp] theorem r_k1Pop0 (xs : List D) (y : D) : k1Pop0 [] (.lst (xs ++ [y])) = some (y, .lst xs) := by
  unfold k1Pop0
  simp
theorem RepL.dropLast {K : PySem.W.Frag} {I : List Addr} {F : Hp} : ∀ {vs : List V} {ds : List D}, RepL K I F vs ds → RepL K I F vs.dropLast ds.dropLast
  | _, _, .nil => .nil
  | _, _, .cons a .nil => .nil
  | _, _, .cons a (.cons b r) => .cons a (RepL.dropLast (.cons b r))
theorem se_pop0 {x : Str} {i : Nat} {apos cpos npos : Pos} (hv : PE X (.Name x npos) (tVar i))
    (hbase : attributeBase (.Name x npos) "pop" X.env (eval (.Name x npos) X.env) = eval (.Name x npos) X.env := by rfl) (hline : (apos.endLine == cpos.line) = true := by rfl) :
    SE X W (.Call (.Attribute (.Name x npos) "pop" apos) [] [] cpos) (eMeth i aNil k1Pop0) := by
  refine ⟨_, pe_bm0 PySem.F.plainAttrs_list PySem.F.slot_list_pop PySem.F.type_list_pop mt_pop hv hbase hline, fun g I F s σ H Q x hq => ?_⟩
  unfold eMeth at hq
  by_cases hl : isLst (cont s i) = true
  · rw [if_pos hl] at hq
    cases ec : cont s i with
    | none => rw [ec] at hl; cases hl
    | some d0 =>
      cases d0 with
      | lst ds0 =>
        obtain ⟨a0, vs0, h0, t0⟩ := cont_tyL x ec
        refine ⟨_, h0, .inl ⟨rfl, _, t0⟩, ?_⟩
        have hq' : PoE X W g σ (chg i (k1Pop0 []) s) Q := hq
        refine chg_ok (Po := fun o => PoE X W g σ o Q) x h0 (fun q => q) hq' fun a o b d b' ea ho ro ek nx => ?_
        cases ea
        cases ro with
        | @lst ws ys rl =>
          unfold k1Pop0 at ek
          simp only at ek
          cases hy : ys[ys.length - 1]? with
          | none => rw [hy] at ek; cases ek
          | some y =>
            rw [hy] at ek
            cases ek
            obtain ⟨w, hw, rw_⟩ := rl.get hy
            obtain ⟨s', q', x'⟩ := nx _ (.lst rl.dropLast)
            refine ⟨a0, ws, w, rfl, rfl, ho, by rw [rl.length]; exact hw, q' _ _ _ _ x' rw_⟩
        | _ => simp [k1Pop0] at ek
      | _ => rw [ec] at hl; cases hl
  · rw [if_neg hl] at hq
    exact hq.elim
/-! ### two names: a new object of its own, a value -/
def kOwnVb (i j : Nat) (b : Ob) : D → M Fl := fun d s => if i < s.env.length ∧ j < s.env.length then .ok .nx { s with env := (s.env.set i (.own b)).set j (.v d) } else .stuck
def kOwnVa (i j : Nat) (h : M D) : Ob → M Fl := fun b s => (h s).bnd (kOwnVb i j b)
def sOwnV (i j : Nat) (f : M Ob) (h : M D) : M Fl := fun s => (f s).bnd (kOwnVa i j h)
@[simp] theorem r_sOwnV (i j : Nat) (f : M Ob) (h : M D) (s : S) : sOwnV i j f h s = (f s).bnd (kOwnVa i j h) := rfl
@[simp] theorem r_kOwnVa (i j : Nat) (h : M D) (b : Ob) (s : S) : kOwnVa i j h b s = (h s).bnd (kOwnVb i j b) := rfl
@[simp] theorem r_kOwnVb (i j : Nat) (b : Ob) (d : D) (e : List Slot) (st : List Ob) : kOwnVb i j b d ⟨e, st⟩ = if i < e.length ∧ j < e.length then .ok .nx ⟨(e.set i (.own b)).set j (.v d), st⟩ else .stuck := rfl
theorem ownV_core {i j : Nat} {f : M Ob} {h : M D} {ta tb : TE} {g : Gh} {I : List Addr} {F H : Hp} {s : S} {σ : L2.St} {E : Ends} {R : List V → Hp → Prop}
    (a2 : ∀ g I F s σ H Q, Sim X.K g I F s σ H → PoF X W g σ (f s) Q → ta σ H Q) (b2 : ∀ g I F s σ H Q, Sim X.K g I F s σ H → PoE X W g σ (h s) Q → tb σ H Q) (x : Sim X.K g I F s σ H) (hq : PoS X W g (sOwnV i j f h s) E)
    (hR : ∀ p v H2, (∀ τ H3, τ = (σ.set i (some (.ref p))).set j (some v) → (H3 = H2 ∨ ∃ q o, H2 q = none ∧ H3 = upd H2 q o) → E.nx τ H3) → R [.ref p, v] H2) : ta σ H fun v H1 => tb σ H1 fun w H2 => R [v, w] H2 := by
  refine a2 g I F s σ H _ x ?_
  rw [r_sOwnV] at hq
  cases e1 : f s with
  | stuck => rw [e1] at hq; exact hq
  | ex c s1 => rw [e1] at hq; exact fun I F H u x hu => hq I F _ H u x hu
  | ok ob s1 =>
    rw [e1, bnd_ok, r_kOwnVa] at hq
    intro I1 F1 H1 p h1 x1 hp1 r1
    have bp : (g.at I1 F1).B p = none := by
      cases eb : g.B p with
      | none => exact eb
      | some u => rw [(x1.base p u eb).2] at hp1; cases hp1
    refine b2 ((g.at I1 F1).with_ p h1) I1 F1 s1 σ (upd H1 p h1) _ (x1.here.guard hp1) ?_
    cases e2 : h s1 with
    | stuck => rw [e2] at hq; exact hq
    | ex c s2 =>
      rw [e2] at hq
      intro I2 F2 H2 u x2 hu
      obtain ⟨H0, k1, k2, k3⟩ := x2.unguard bp
      rw [k2]
      exact hq I2 F2 _ _ u ((x1.back k3).fresh k1) hu
    | ok d2 s2 =>
      rw [e2, bnd_ok] at hq
      intro v2 I2 F2 H2 x2 r2
      obtain ⟨H0, k1, k2, k3⟩ := x2.unguard bp
      obtain ⟨en, sst⟩ := s2
      rw [r_kOwnVb] at hq
      by_cases hl : i < en.length ∧ j < en.length
      · rw [if_pos hl] at hq
        refine hR p v2 _ fun τ H3 hτ hH => ?_
        have y1 := (x1.back k3).setOwn (i := i) hl.1 k1 (r1.mono k3.mono k3.pre)
        rw [← k2] at y1
        have y2 := y1.set (i := j) r2
        rcases hH with rfl | ⟨q, o, hq0, rfl⟩
        · rw [hτ]
          exact hq _ _ _ _ y2
        · rw [hτ]
          exact hq _ _ _ _ (y2.fresh hq0)
      · rw [if_neg hl] at hq
        exact hq.elim
theorem ss_ownV {i j : Nat} {x y : Str} {f : M Ob} {h : M D} {px py pt : Pos} {kt k2 : Nat} {pt2 : Pos} (hc : X.calm = true) (hi : PG X (.Name x px) (gName i)) (hj : PG X (.Name y py) (gName j)) (ha : SF X W a f) (hb : SE X W b h)
    (h1 : starEach [a, b] X.env = (false, eval a X.env) :: starEach [b] X.env := by rfl) (h2 : starEach [b] X.env = (false, eval b X.env) :: starEach [] X.env := by rfl)
    (hs : swapsWithSole [.Tuple [.Name x px, .Name y py] kt pt] (.Tuple [a, b] k2 pt2) pos.line X.env = pure false := by rfl) (hw : swappedStores [.Tuple [.Name x px, .Name y py] kt pt] (.Tuple [a, b] k2 pt2) X.env = pure none := by rfl) :
    SS X W (.Assign [.Tuple [.Name x px, .Name y py] kt pt] (.Tuple [a, b] k2 pt2) pos) (sOwnV i j f h) := by
  obtain ⟨ta, a1, a2⟩ := ha
  obtain ⟨tb, b1, b2⟩ := hb
  refine ⟨_, ps_asg (pe_tup (pa_cons a1 (pa_cons b1 pa_nil h2) h1)) (pg_tup hc (pgs_cons hi (pgs_cons hj pgs_nil))) hs hw, fun g I F s σ H E x hq => ?_⟩
  refine ownV_core (R := fun vs H2 => vs.length ≤ sizeLine ∧ ∀ q, H2 q = none → gTup X.K 2 (gCons (gName i) (gCons (gName j) gNil)) (.ref q) σ (upd H2 q (.tup vs)) E.nx) a2 b2 x hq fun p p2 H2 hn => ⟨by rw [sizeLine_n]; simp, fun q hq0 => ?_⟩
  exact ⟨q, _, rfl, SqT.of upd_same, rfl, _, _, rfl, _, _, rfl, rfl, hn _ _ rfl (.inr ⟨q, _, hq0, rfl⟩)⟩
theorem ss_ownVp {i j : Nat} {x y : Str} {f : M Ob} {h : M D} {px py pt : Pos} {kt k2 : Nat} {pt2 : Pos} (hc : X.calm = true) (hN : X.N.Nodup) (hi : X.N[i]? = some x) (hj : X.N[j]? = some y) (hij : i ≠ j)
    (hx : X.env.scope.names.lookup x = some .local) (hy : X.env.scope.names.lookup y = some .local) (ha : SF X W a f) (hb : SE X W b h)
    (h1 : starEach [a, b] X.env = (false, eval a X.env) :: starEach [b] X.env := by rfl) (h2 : starEach [b] X.env = (false, eval b X.env) :: starEach [] X.env := by rfl)
    (hw : swappedStores [.Tuple [.Name x px, .Name y py] kt pt] (.Tuple [a, b] k2 pt2) X.env = pure (some [x, y]) := by rfl)
    (hs : swapsWithSole [.Tuple [.Name x px, .Name y py] kt pt] (.Tuple [a, b] k2 pt2) pos.line X.env = pure false := by rfl) :
    SS X W (.Assign [.Tuple [.Name x px, .Name y py] kt pt] (.Tuple [a, b] k2 pt2) pos) (sOwnV i j f h) := by
  obtain ⟨ta, a1, a2⟩ := ha
  obtain ⟨tb, b1, b2⟩ := hb
  refine ⟨_, ps_par hc hN hi hj hij hx hy (pa_cons a1 (pa_cons b1 pa_nil h2) h1) hw hs, fun g I F s σ H E x hq => ?_⟩
  exact ownV_core (R := fun vs H2 => ∃ v w, vs = [v, w] ∧ E.nx ((σ.set i (some v)).set j (some w)) H2) a2 b2 x hq fun p p2 H2 hn => ⟨_, _, rfl, hn _ _ rfl (.inl rfl)⟩
end
end Fw
namespace Fw
open PySem L2
/-! ### comprehensions over a list that is read as it stands (a name's own list, an object's) -/
def Rd1.clear (is : List Nat) : Rd1 → Bool
  | .i j => !is.contains j
  | _ => true
theorem R1.wiped {K : PySem.W.Frag} {I : List Addr} {F : Hp} {σ : St} {v : V} {r : Rd1} {is : List Nat} (h : R1 K I F σ v r) (hc : r.clear is = true) : R1 K I F (wipe σ is) v r := by
  cases r with
  | d y => exact h
  | o n => exact h
  | i j =>
    have hj : j ∉ is := fun z => by
      have hc' : (!is.contains j) = true := hc
      rw [List.contains_iff_mem.mpr z] at hc'
      cases hc'
    show (wipe σ is)[j]? = some (some v)
    rw [wipe_out hj]
    exact h
def rdLst (o : Option D) : Option (List D) := match o with
  | some (.lst ds) => some ds
  | _ => none
theorem rdLst_ok {o : Option D} {ds : List D} (h : rdLst o = some ds) : o = some (.lst ds) := by
  unfold rdLst at h
  split at h
  · cases h; rfl
  · cases h
/-- one turn: the list as it stands, its k-th thing -/
def lcV (is : List Nat) (r : Rd1) (t : Tg) (c : M Bool) (e : M D) : Nat → Nat → List D → M (List D)
  | 0, _, _, _ => .stuck
  | n + 1, k, acc, s => match rdLst (r.rd { s with env := wipeE s.env is }) with
    | none => .stuck
    | some ds => match ds[k]? with
      | none => .ok acc { s with env := wipeE s.env is }
      | some d => match t d { s with env := wipeE s.env is } with
        | none => .stuck
        | some s1 => match c s1 with
          | .ok true s2 => (match e s2 with
            | .ok y s3 => if acc.length < sizeLine then lcV is r t c e n (k + 1) (acc ++ [y]) s3 else .stuck
            | _ => .stuck)
          | .ok false s2 => lcV is r t c e n (k + 1) acc s2
          | _ => .stuck
def lcFuel : Nat := 1000000
def kLcV (is : List Nat) (t : Tg) (c : M Bool) (e : M D) (n : Nat) : Rd1 → M Ob := fun r s0 => if r.clear is = true then (lcV is r t c e n 0 [] s0).bnd (kLc2 is s0.env) else .stuck
def fLcV (is : List Nat) (o : Opd) (t : Tg) (c : M Bool) (e : M D) (n : Nat) : M Ob := fun s => (o.ev s).bnd (kLcV is t c e n)
@[simp] theorem r_fLcV (is : List Nat) (o : Opd) (t : Tg) (c : M Bool) (e : M D) (n : Nat) (s : S) : fLcV is o t c e n s = (o.ev s).bnd (kLcV is t c e n) := rfl
section
variable {X : Cx} {W : WX} {elt tg iter : Expr} {ifs : List Expr} {scope : Scope} {own : List (Str × Nat)} {pos : Pos}
theorem lcV_read {ta : TE} {gt : TG} {tt : TT} {te : TE} {o : Opd} {t : Tg} {c : M Bool} {e : M D} {is : List Nat} {n : Nat}
    (i2 : ∀ g I F s σ H Q, Sim X.K g I F s σ H → PoO X W g σ (o.ev s) Q → ta σ H Q)
    (g2 : ∀ g I F s s' σ H (v : V) d Q, Sim X.K g I F s σ H → Rep X.K I F v d → t d s = some s' → (∀ I' F' σ' H', Sim X.K g I' F' s' σ' H' → wipe σ' is = wipe σ is → Q σ' H') → gt v σ H Q)
    (c2 : ∀ g I F s σ H Q, Sim X.K g I F s σ H → PoT X W0 g σ (c s) Q → tt σ H Q)
    (e2 : ∀ g I F s σ H Q, Sim X.K g I F s σ H → PoE X W0 g σ (e s) Q → te σ H Q)
    {g : Gh} {I : List Addr} {F H : Hp} {s : S} {σ : St} {Q : VK} (x : Sim X.K g I F s σ H) (hq : PoF X W g σ (fLcV is o t c e n s) Q) : tLc (iList X.K ta) gt tt te is σ H Q := by
  refine i2 g I F s σ H _ x ?_
  unfold fLcV at hq
  cases e1 : o.ev s with
  | stuck => rw [e1] at hq; exact hq
  | ex c s1 => rw [e1] at hq; exact hq
  | ok r s0 =>
    rw [e1, bnd_ok] at hq
    intro v I0 F0 H0 x0 r0
    unfold kLcV at hq
    by_cases hcl : r.clear is = true
    · rw [if_pos hcl] at hq
      -- the list at the start
      have r1 := r0.wiped hcl
      have first : ∃ a vs, v = .ref a ∧ SqL X.K H0 a vs := by
        cases n with
        | zero => exact hq.elim
        | succ n =>
          unfold lcV at hq
          cases hd : rdLst (r.rd { s0 with env := wipeE s0.env is }) with
          | none => rw [hd] at hq; exact hq.elim
          | some ds =>
            obtain ⟨a, vs, ha, hs, _⟩ := (r1.rw (x0.wiped is) (rdLst_ok hd)).lst x0.sub
            exact ⟨a, vs, ha, hs⟩
      obtain ⟨a, vs0, rfl, hs0⟩ := first
      refine ⟨a, rfl, ⟨vs0, hs0⟩, ?_⟩
      intro Dp hD
      have gD : g.B Dp = none := by
        cases q : g.B Dp with
        | none => rfl
        | some u => rw [(x0.base Dp u q).2] at hD; cases hD
      refine ⟨fun i m H => ∃ I F s vs acc, Sim X.K ((g.at I0 F0).with_ Dp (.lst vs)) I F { s with env := wipeE s.env is } (wipe σ is) H ∧ RepL X.K I F vs acc ∧
        PoF X W g σ ((lcV is r t c e m i acc s).bnd (kLc2 is s0.env)) Q, ⟨n, I0, F0, s0, [], [], (x0.here.guard hD).wiped is, .nil, hq⟩, ?_⟩
      rintro i m H1 ⟨I1, F1, s1, vs, acc, x1, ra, q1⟩
      have wk' : ∀ {I F s σ H}, Sim X.K ((g.at I0 F0).with_ Dp (.lst vs)) I F s σ H → ∃ Hm, Hm Dp = none ∧ H = upd Hm Dp (.lst vs) ∧ Sim X.K (g.at I0 F0) I F s σ Hm := fun x => x.unguard gD
      cases m with
      | zero => exact q1.elim
      | succ m =>
        unfold lcV at q1
        cases hd : rdLst (r.rd { s1 with env := wipeE s1.env is }) with
        | none => rw [hd] at q1; exact q1.elim
        | some ds =>
          simp only [hd] at q1
          have x1' : Sim X.K ((g.with_ Dp (.lst vs)).at I0 F0) I1 F1 { s1 with env := wipeE s1.env is } (wipe σ is) H1 := x1
          obtain ⟨a', ws, ea, hs1, rl⟩ := ((r1.later x1').rw x1' (rdLst_ok hd)).lst x1.sub
          cases ea
          cases hk : ds[i]? with
          | none =>
            simp only [hk] at q1
            refine .inl ⟨⟨ws, hs1, ?_⟩, ?_⟩
            · rw [rl.length]
              exact List.getElem?_eq_none_iff.mp hk
            · rw [bnd_ok] at q1
              unfold kLc2 at q1
              cases e3 : backE s0.env is (wipeE s1.env is) with
              | none => simp only [e3] at q1; exact q1.elim
              | some env =>
                simp only [e3] at q1
                obtain ⟨Hm, h1, h2, h3⟩ := wk' x1
                have h4 := x0.backed h3 is env e3
                rw [backS_wipe] at h4
                rw [h2]
                exact q1 I1 F1 Hm Dp (.lst vs) (x0.back h4) h1 (.lst ra)
          | some d =>
            simp only [hk] at q1
            obtain ⟨y0, hy0, ry0⟩ := rl.get hk
            refine .inr ⟨⟨ws, y0, hs1, hy0⟩, fun H' => ∃ I F s vs acc, Sim X.K ((g.at I0 F0).with_ Dp (.lst vs)) I F { s with env := wipeE s.env is } (wipe σ is) H' ∧ RepL X.K I F vs acc ∧
              PoF X W g σ ((lcV is r t c e m (i + 1) acc s).bnd (kLc2 is s0.env)) Q, fun H' n' => ⟨m, Nat.lt_succ_self _, n'⟩, ?_⟩
            rintro y H' ⟨rfl, hy⟩
            have ey := hy ws hs1
            rw [hy0] at ey
            cases ey
            cases h1 : t d { s1 with env := wipeE s1.env is } with
            | none => simp only [h1] at q1; exact q1.elim
            | some s3 =>
              simp only [h1] at q1
              refine g2 (((g.at I0 F0).with_ Dp (.lst vs)).at I1 F1) I1 F1 { s1 with env := wipeE s1.env is } s3 (wipe σ is) H' _ _ _ x1.here ry0 h1 fun I3 F3 σ3 H3 x3 w3 => ⟨by rw [w3, wipe_wipe], ?_⟩
              have ra3 := ra.later x3
              have x3 := x1.back x3
              refine c2 (((g.at I0 F0).with_ Dp (.lst vs)).at I3 F3) I3 F3 s3 σ3 H3 _ x3.here ?_
              cases h2 : c s3 with
              | stuck => simp only [h2] at q1; exact q1.elim
              | ex cc s4 => simp only [h2] at q1; exact q1.elim
              | ok bb s4 =>
                intro I4 F4 H4 x4
                have ra4 := ra3.later x4
                have x4 := x3.back x4
                cases bb with
                | false =>
                  simp only [h2] at q1
                  rw [if_neg Bool.false_ne_true]
                  refine ⟨I4, F4, s4, vs, acc, ?_, ra4, q1⟩
                  have := x4.wiped is
                  rw [w3, wipe_wipe] at this
                  exact this
                | true =>
                  simp only [h2] at q1
                  rw [if_pos rfl]
                  refine e2 (((g.at I0 F0).with_ Dp (.lst vs)).at I4 F4) I4 F4 s4 σ3 H4 _ x4.here ?_
                  cases h5 : e s4 with
                  | stuck => simp only [h5] at q1; exact q1.elim
                  | ex cc s4 => simp only [h5] at q1; exact q1.elim
                  | ok yy s5 =>
                    simp only [h5] at q1
                    intro v5 I5 F5 H5 x5 r5
                    have ra5 := ra4.later x5
                    have x5 := x4.back x5
                    by_cases hl : acc.length < sizeLine
                    · simp only [hl, if_true] at q1
                      refine ⟨vs, x5.guarded.2, by rw [ra5.length]; exact hl, I5, F5, s5, vs ++ [v5], acc ++ [yy], ?_, ra5.snoc r5, q1⟩
                      have := (x5.reguard (o' := .lst (vs ++ [v5]))).wiped is
                      rw [w3, wipe_wipe] at this
                      exact this
                    · simp only [hl, if_false] at q1
                      exact q1.elim
    · rw [if_neg hcl] at hq
      exact hq.elim
theorem lcV_parts {o : Opd} {t : Tg} {c : M Bool} {e : M D} {ta : TE} {n : Nat} (i2 : ∀ g I F s σ H Q, Sim X.K g I F s σ H → PoO X W g σ (o.ev s) Q → ta σ H Q) {is : List Nat} {g : Gh} {I : List Addr} {F H : Hp} {s : S} {σ : St} {Q : VK} (x : Sim X.K g I F s σ H) (hq : PoF X W g σ (fLcV is o t c e n s) Q) :
    tLc (iList X.K ta) (tcG X is t) (tcT X W0 c) (tcE X W0 e) is σ H Q :=
  lcV_read i2 (fun g I F s s' σ H v d Q x r e q => ⟨g, I, F, s, s', d, x, r, e, q⟩) (fun g I F s σ H Q x q => ⟨g, I, F, s, x, q⟩) (fun g I F s σ H Q x q => ⟨g, I, F, s, x, q⟩) x hq
theorem sf_lcV {o : Opd} {t : Tg} {c : M Bool} {e : M D} (n : Nat) (hc : X.calm = true) (hN : X.N.Nodup) (hi : SO X W iter o) (ok : BlkOk X.N X.env.scope scope own)
    (hg : ∀ (s : Shared) (H : Hp) (C : Addr) (cl : List (Str × Addr)) (fp : List Addr), SG (X.blk s H scope (compEnvC scope cl C X.env) fp) (own.map (·.2)) tg t)
    (ht : ∀ (s : Shared) (H : Hp) (C : Addr) (cl : List (Str × Addr)) (fp : List Addr), STs (X.blk s H scope (compEnvC scope cl C X.env) fp) W0 ifs c)
    (he : ∀ (s : Shared) (H : Hp) (C : Addr) (cl : List (Str × Addr)) (fp : List Addr), SE (X.blk s H scope (compEnvC scope cl C X.env) fp) W0 elt e)
    (hs : ∀ x, foldedSetIterable iter X.env x = pure x := by intro _; rfl) : SF X W (.ListComp elt [⟨tg, iter, ifs, 0⟩] scope pos) (fLcV (own.map (·.2)) o t c e n) := by
  obtain ⟨ta, i1, i2⟩ := hi
  exact ⟨_, pe_lc hc hN (pi_list i1) ok (fun s H C cl fp => (hg s H C cl fp).can) (fun s H C cl fp => (ht s H C cl fp).can) (fun s H C cl fp => (he s H C cl fp).can) hs, fun g I F s σ H Q x hq => lcV_parts (n := n) i2 x hq⟩
/-- y = [e for t in it if c]: the name's own list -/
theorem ss_ownLcV {i : Nat} {y : Str} {py spos : Pos} {o : Opd} {t : Tg} {c : M Bool} {e : M D} (n : Nat) (hc : X.calm = true) (hN : X.N.Nodup) (hy : X.N[i]? = some y) (hyl : X.env.scope.names.lookup y = some .local)
    (hsw : swapsWith (.ListComp elt [⟨tg, iter, ifs, 0⟩] scope pos) (some (.Name y py)) spos.line X.env = pure true) (hi : SO X W iter o) (ok : BlkOk X.N X.env.scope scope own)
    (hg : ∀ (s : Shared) (H : Hp) (C : Addr) (cl : List (Str × Addr)) (fp : List Addr), SG (X.blk s H scope (compEnvC scope cl C X.env) fp) (own.map (·.2)) tg t)
    (ht : ∀ (s : Shared) (H : Hp) (C : Addr) (cl : List (Str × Addr)) (fp : List Addr), STs (X.blk s H scope (compEnvC scope cl C X.env) fp) W0 ifs c)
    (he : ∀ (s : Shared) (H : Hp) (C : Addr) (cl : List (Str × Addr)) (fp : List Addr), SE (X.blk s H scope (compEnvC scope cl C X.env) fp) W0 elt e)
    (hs : ∀ x, foldedSetIterable iter X.env x = pure x := by intro _; rfl) : SS X W (.Assign [.Name y py] (.ListComp elt [⟨tg, iter, ifs, 0⟩] scope pos) spos) (sOwn i (fLcV (own.map (·.2)) o t c e n)) := by
  obtain ⟨ta, i1, i2⟩ := hi
  refine ⟨_, ps_setLc hc hN hy hyl hsw (pi_list i1) ok (fun s H C cl fp => (hg s H C cl fp).can) (fun s H C cl fp => (ht s H C cl fp).can) (fun s H C cl fp => (he s H C cl fp).can) hs, fun g I F s σ H E x hq => lcV_parts (n := n) i2 x ?_⟩
  unfold sOwn at hq
  cases e1 : fLcV (own.map (·.2)) o t c e n s with
  | stuck => rw [e1] at hq; exact hq
  | ex c s1 => rw [e1] at hq; exact fun I F H u x hu => hq I F _ H u x hu
  | ok b s1 =>
    rw [e1, bnd_ok] at hq
    intro I F H p h x hp r
    by_cases hl : i < s1.env.length
    · rw [if_pos hl] at hq
      exact hq I F _ _ (x.setOwn hl hp r)
    · rw [if_neg hl] at hq
      exact hq.elim
theorem ss_setLcV {i : Nat} {y : Str} {py spos : Pos} {o : Opd} {t : Tg} {c : M Bool} {e : M D} (n : Nat) (hc : X.calm = true) (hN : X.N.Nodup) (hy : X.N[i]? = some y) (hyl : X.env.scope.names.lookup y = some .local)
    (hsw : swapsWith (.ListComp elt [⟨tg, iter, ifs, 0⟩] scope pos) (some (.Name y py)) spos.line X.env = pure true) (hi : SO X W iter o) (ok : BlkOk X.N X.env.scope scope own)
    (hg : ∀ (s : Shared) (H : Hp) (C : Addr) (cl : List (Str × Addr)) (fp : List Addr), SG (X.blk s H scope (compEnvC scope cl C X.env) fp) (own.map (·.2)) tg t)
    (ht : ∀ (s : Shared) (H : Hp) (C : Addr) (cl : List (Str × Addr)) (fp : List Addr), STs (X.blk s H scope (compEnvC scope cl C X.env) fp) W0 ifs c)
    (he : ∀ (s : Shared) (H : Hp) (C : Addr) (cl : List (Str × Addr)) (fp : List Addr), SE (X.blk s H scope (compEnvC scope cl C X.env) fp) W0 elt e)
    (hs : ∀ x, foldedSetIterable iter X.env x = pure x := by intro _; rfl) : SS X W (.Assign [.Name y py] (.ListComp elt [⟨tg, iter, ifs, 0⟩] scope pos) spos) (sAsg (eFz (fLcV (own.map (·.2)) o t c e n)) (gNm i)) := by
  obtain ⟨ta, i1, i2⟩ := hi
  refine ⟨_, ps_setLc hc hN hy hyl hsw (pi_list i1) ok (fun s H C cl fp => (hg s H C cl fp).can) (fun s H C cl fp => (ht s H C cl fp).can) (fun s H C cl fp => (he s H C cl fp).can) hs, fun g I F s σ H E x hq => lcV_parts (n := n) i2 x ?_⟩
  unfold sAsg eFz at hq
  cases e1 : fLcV (own.map (·.2)) o t c e n s with
  | stuck => rw [e1] at hq; exact hq
  | ex c s1 => rw [e1] at hq; exact fun I F H u x hu => hq I F _ H u x hu
  | ok b s1 =>
    rw [e1, bnd_ok] at hq
    intro I F H p h x hp r
    cases e2 : b.toD with
    | none => rw [e2] at hq; exact hq.elim
    | some d =>
      rw [e2, bnd_ok] at hq
      obtain ⟨x2, le⟩ := x.alloc (o := h) hp
      exact hq I _ _ _ (gNm_ok x2 ((r.mono le (List.prefix_refl _)).toRep e2 upd_same) rfl)
end
/-! ### a list that stays as it is: as over a list at rest -/
theorem lcV_lcL {is : List Nat} {r : Rd1} {t : Tg} {c : M Bool} {e : M D} {xs : List D} (env : List Slot) (st : List Ob) (hr : r.rd ⟨env, st⟩ = some (.lst xs)) :
    ∀ (ds acc : List D) (k n : Nat) (en : List Slot), wipeE en is = env → xs.drop k = ds → ds.length < n →
    (∀ d ∈ ds, ∃ s1 b en2, t d ⟨env, st⟩ = some s1 ∧ c s1 = .ok b ⟨en2, st⟩ ∧ (b = false → wipeE en2 is = env) ∧ (b = true → ∃ y en', e ⟨en2, st⟩ = .ok y ⟨en', st⟩ ∧ wipeE en' is = env)) →
    lcV is r t c e n k acc ⟨en, st⟩ = lcL is t c e ds acc ⟨en, st⟩
  | [], acc, k, n + 1, en, hw, hx, _, _ => by
    have hk : xs[k]? = none := by
      rw [List.getElem?_eq_none_iff]
      have := congrArg List.length hx
      rw [List.length_drop, List.length_nil] at this
      omega
    simp only [lcV, lcL, hw, hr, rdLst, hk]
  | d :: ds, acc, k, n + 1, en, hw, hx, hn, st_ => by
    have hk : xs[k]? = some d := by
      have := congrArg (·[0]?) hx
      simpa using this
    have hx' : xs.drop (k + 1) = ds := by
      have := congrArg (List.drop 1) hx
      simpa using this
    have hn' : ds.length < n := by rw [List.length_cons] at hn; omega
    obtain ⟨s1, b, en2, h1, h2, h3, h4⟩ := st_ d List.mem_cons_self
    have st' : ∀ d ∈ ds, _ := fun d hd => st_ d (List.mem_cons_of_mem _ hd)
    cases b with
    | false =>
      have ih := lcV_lcL env st hr ds acc (k + 1) n en2 (h3 rfl) hx' hn' st'
      simp only [lcV, lcL, hw, hr, rdLst, hk, h1, h2, ih]
    | true =>
      obtain ⟨y, en', h5, h6⟩ := h4 rfl
      have ih := lcV_lcL env st hr ds (acc ++ [y]) (k + 1) n en' h6 hx' hn' st'
      simp only [lcV, lcL, hw, hr, rdLst, hk, h1, h2, h5, ih]
end Fw
namespace Fw
open PySem PySem.Spec PyProof.Rows L2
/-! ### t.index(x) of a tuple of plain things; (t + u).index(x) of a tuple that was just made -/
section
variable {X : Cx}
def rIndexT (K : PySem.W.Frag) : V → List V → Hp → VK → Prop := fun x xs H Q => ∃ (a : Addr) (ys : List V) (y : V) (j : Nat) (z : V), x = V.ref a ∧ xs = [y] ∧ SqT K H a ys ∧ flatV y = true ∧ ys.all flatV = true ∧ ys[j]? = some z ∧ eqV z y = true ∧
  (∀ (m : Nat) (z' : V), m < j → ys[m]? = some z' → eqV z' y = false) ∧ Q (.int (j : Nat)) H
theorem mt_tindex : MtR X "tuple.index" (rIndexT X.K) := by
  intro pins s σ H x xs v us Q I rx rxs h
  obtain ⟨a, ys, y, j, z, rfl, rfl, hs, fy, fys, hz, hzj, hno, q⟩ := h
  cases rx
  cases rxs with
  | cons ry rt =>
    rename_i uy ut
    cases rt
    obtain ⟨its, rv, pl, hlen⟩ := I.tuple hs
    obtain ⟨⟨cls, dd, data, sl⟩, ho, hc, n, hd⟩ := pl
    simp only at hc hd
    subst hc hd
    obtain ⟨u, hu, ru⟩ := rv.get hz
    obtain ⟨hjl, hje⟩ := List.getElem?_eq_some_iff.mp hu
    have hvl := rv.length
    have hj : j < its.toArray.size := by simpa using hjl
    refine call_meets PySem.F.slot_tuple_index ⟨_, ho, rfl⟩ PySem.F.entry_tuple_index (PySem.F.args_tuple_index_2 _ _) (TI.tuple_indexAt a its.toArray n dd sl uy (eqU y) j hj ?_ ?_)
      ⟨ho, fun u' hu' => mem_eqAt ry fy rv fys u' (by simpa using hu'), ?_⟩
    · have w1 : its.toArray[j] = u := by simpa using hje
      rw [w1, eqU_of ru (flat_at fys hz)]
      exact hzj
    · intro m hm hmj
      have hml : m < its.length := by simpa using hm
      have hmy : m < ys.length := by omega
      have hy' : ys[m]? = some ys[m] := List.getElem?_eq_getElem hmy
      obtain ⟨u2, hu2, ru2⟩ := rv.get hy'
      obtain ⟨_, hme⟩ := List.getElem?_eq_some_iff.mp hu2
      have w1 : its.toArray[m] = u2 := by simpa using hme
      rw [w1, eqU_of ru2 (flat_at fys hy')]
      exact hno m _ hmj hy'
    · exact ⟨.int (j : Nat), H, I.tok _, ⟨_, rfl⟩, q⟩
/-- a new tuple, its object without a dict -/
def EPN (X : Cx) (pins : List (Addr × Obj)) (σ : L2.St) (Q : VK) (u : Value) (s' : Shared) : Prop := ∃ v H', Inv X pins σ H' s' ∧ RelV v u ∧ Q v H' ∧ s'.TypeIs u "tuple" ∧ ∀ a, u = .ref a → ∃ ob, s'.heap.get? a = some ob ∧ ob.dict = none
def rCatN (K : PySem.W.Frag) : R2 := fun x y H Q => ∃ a b xs ys, x = .ref a ∧ y = .ref b ∧ SqT K H a xs ∧ SqT K H b ys ∧ xs ≠ [] ∧ ys ≠ [] ∧ xs.length + ys.length ≤ sizeLine ∧ ∀ p, H p = none → Q (.ref p) (upd H p (.tup (xs ++ ys)))
theorem op_catN {pins : List (Addr × Obj)} {s : Shared} {σ : L2.St} {H : Hp} {x y : V} {v u : Value} {Q : VK} (I : Inv X pins σ H s) (rx : RelV x v) (ry : RelV y u) (h : rCatN X.K x y H Q) : wpAny (model X.prog X.w) X.A (binaryOp .Add v u) (EPN X pins σ Q) X.xe s := by
  obtain ⟨a, b, xs, ys, rfl, rfl, ha, hb, hx, hy, hz, q2⟩ := h
  cases rx
  cases ry
  obtain ⟨its, r1, p1, _⟩ := I.tuple ha
  obtain ⟨its2, r2, p2, _⟩ := I.tuple hb
  refine HT.cat_tup p1 p2 (fun z => hx (r1.nil_iff.mp z)) (fun z => absurd (r2.nil_iff.mp z) hy) (fun z => ?_) (by rw [← r1.length, ← r2.length]; exact hz)
  refine ⟨.ref s.heap.objs.size, _, I.laid (t' := s.toks) (o := .tup (xs ++ ys)) (fun b ob q => Heap.get?_push_of_some _ q) (Nat.le_refl _) ?_, rfl, q2 _ (I.hok.fresh (Nat.le_refl _)), ⟨_, Heap.get?_push_size _ rfl, rfl⟩, fun c hc => ?_⟩
  · exact ⟨by rw [List.length_append]; exact hz, _, r1.append r2, IsTup.new _ _⟩
  · cases hc
    exact ⟨_, Heap.get?_push_size _ rfl, rfl⟩
def tCatIx (K : PySem.W.Frag) (ta tb : TE) (tc : TA) : TE := fun σ H Q => ta σ H fun x H1 => tb σ H1 fun y H2 => rCatN K x y H2 fun z H3 => tc σ H3 fun vs H4 => rIndexT K z vs H4 Q
theorem pe_catIx {a b c : Expr} {ta tb : TE} {tc : TA} {p1 apos cpos : Pos} (ha : PE X a ta) (hb : PE X b tb) (hc : PA X [c] tc)
    (hbase : attributeBase (.BinOp a .Add b p1) "index" X.env (eval (.BinOp a .Add b p1) X.env) = eval (.BinOp a .Add b p1) X.env := by rfl)
    (hfew : ((backTo cpos (starEach [c] X.env)).all (fun x => !x.1) && (backToKw cpos (keywordEach [] X.env)).all (fun x => x.1.isSome) && decide (([c] : List Expr).length + ([] : List Keyword).length + (if ([] : List Keyword).isEmpty then 0 else 1) < 30)) = true := by rfl)
    (hline : (apos.endLine == cpos.line) = true := by rfl) (hs : starEach [c] X.env = (false, eval c X.env) :: starEach [] X.env := by rfl) (hplain : (backTo cpos (starEach [] X.env)).any (·.1) = false := by rfl) :
    PE X (.Call (.Attribute (.BinOp a .Add b p1) "index" apos) [c] [] cpos) (tCatIx X.K ta tb tc) := by
  refine ⟨fun pins s σ H Q I h => ?_⟩
  refine wpAny_Call_method_late hbase hfew hline rfl (wpAny_BinOp (binT ha hb I h fun v u s2 x y H2 I2 rx ry q => ?_))
  refine wpAny_mono (op_catN I2 rx ry q) (fun w s3 ⟨z, H3, I3, rz, q3, ty, nd⟩ => ?_) (fun _ _ h => h)
  refine ⟨"tuple", "tuple.index", PySem.F.plainAttrs_tuple, PySem.F.slot_tuple_index, PySem.F.type_tuple_index, ty, nd, ?_⟩
  have hA := hc.run cpos pins s3 σ H3 _ I3 q3
  rw [hs] at hA ⊢
  refine Calls.callWith_builtin (by show (false || (backTo cpos (starEach [] X.env)).any (·.1)) = false; rw [hplain] <;> rfl) (Calls.evalArgs_plain ?_)
  exact thn hA fun us s4 ⟨vs, H4, I4, r4, q4⟩ => mt_tindex pins s4 σ H4 z vs w us Q I4 rz r4 q4
end
/-! ### its meaning -/
def kCI3 (xs : List D) : List D → M D := fun zs s => match zs with
  | [z] => if (z.flat && xs.all D.flat) = true then (match idxD z xs with
    | some j => .ok (.int (j : Int)) s
    | none => .stuck) else .stuck
  | _ => .stuck
def kCI2 (f : M (List D)) (x y : D) : M D := fun s => match x, y with
  | .tup xs, .tup ys => if xs ≠ [] ∧ ys ≠ [] ∧ xs.length + ys.length ≤ sizeLine then (f s).bnd (kCI3 (xs ++ ys)) else .stuck
  | _, _ => .stuck
def kCI1 (f : M (List D)) (x y : Option D) : M D := fun s => match x, y with
  | some dx, some dy => kCI2 f dx dy s
  | _, _ => .stuck
def kCIb (f : M (List D)) (x : Rd1) : Rd1 → M D := fun y s => kCI1 f (x.rd s) (y.rd s) s
def kCIa (ob : Opd) (f : M (List D)) : Rd1 → M D := fun x s => (ob.ev s).bnd (kCIb f x)
def eCatIx (oa ob : Opd) (f : M (List D)) : M D := fun s => (oa.ev s).bnd (kCIa ob f)
@[simp] theorem r_eCatIx (oa ob : Opd) (f : M (List D)) (s : S) : eCatIx oa ob f s = (oa.ev s).bnd (kCIa ob f) := rfl
@[simp] theorem r_kCIa (ob : Opd) (f : M (List D)) (x : Rd1) (s : S) : kCIa ob f x s = (ob.ev s).bnd (kCIb f x) := rfl
@[simp] theorem r_kCIb (f : M (List D)) (x y : Rd1) (s : S) : kCIb f x y s = kCI1 f (x.rd s) (y.rd s) s := rfl
@[simp] theorem r_kCI1 (f : M (List D)) (x y : D) (s : S) : kCI1 f (some x) (some y) s = kCI2 f x y s := rfl
theorem r_kCI2 (f : M (List D)) (xs ys : List D) (s : S) : kCI2 f (.tup xs) (.tup ys) s = if xs ≠ [] ∧ ys ≠ [] ∧ xs.length + ys.length ≤ sizeLine then (f s).bnd (kCI3 (xs ++ ys)) else .stuck := rfl
theorem r_kCI3 (xs : List D) (z : D) (s : S) : kCI3 xs [z] s = if (z.flat && xs.all D.flat) = true then (match idxD z xs with
    | some j => .ok (.int (j : Int)) s
    | none => .stuck) else .stuck := rfl
section
variable {X : Cx} {W : WX} {a b c : Expr} {oa ob : Opd} {p1 apos cpos : Pos}
theorem se_catIx {f : M (List D)} (ha : SO X W a oa) (hb : SO X W b ob) (hc : SA X W [c] f)
    (hbase : attributeBase (.BinOp a .Add b p1) "index" X.env (eval (.BinOp a .Add b p1) X.env) = eval (.BinOp a .Add b p1) X.env := by rfl)
    (hfew : ((backTo cpos (starEach [c] X.env)).all (fun x => !x.1) && (backToKw cpos (keywordEach [] X.env)).all (fun x => x.1.isSome) && decide (([c] : List Expr).length + ([] : List Keyword).length + (if ([] : List Keyword).isEmpty then 0 else 1) < 30)) = true := by rfl)
    (hline : (apos.endLine == cpos.line) = true := by rfl) (hs : starEach [c] X.env = (false, eval c X.env) :: starEach [] X.env := by rfl) (hplain : (backTo cpos (starEach [] X.env)).any (·.1) = false := by rfl) :
    SE X W (.Call (.Attribute (.BinOp a .Add b p1) "index" apos) [c] [] cpos) (eCatIx oa ob f) := by
  obtain ⟨ta, a1, a2⟩ := ha
  obtain ⟨tb, b1, b2⟩ := hb
  obtain ⟨tc, c1, c2⟩ := hc
  refine ⟨_, pe_catIx a1 b1 c1 hbase hfew hline hs hplain, fun g I F s σ H Q x hq => ?_⟩
  refine two (Po := fun o => PoE X W g σ o Q) (k := fun dx dy => kCI2 f dx dy) a2 b2 (fun c s q => q) (fun q => q) x ?_ fun I F s H v w dx dy x rv rw_ q => ?_
  · exact hq
  · cases dx with
    | tup xs =>
      cases dy with
      | tup ys =>
        rw [r_kCI2] at q
        by_cases hc : xs ≠ [] ∧ ys ≠ [] ∧ xs.length + ys.length ≤ sizeLine
        · rw [if_pos hc] at q
          obtain ⟨a, vs, rfl, h1, r1, _⟩ := rv.tup x.sub
          obtain ⟨b, ws, rfl, h2, r2, _⟩ := rw_.tup x.sub
          have n1 : vs ≠ [] := fun e => hc.1 (by have := r1.length; rw [e] at this; exact List.eq_nil_of_length_eq_zero this.symm)
          have n2 : ws ≠ [] := fun e => hc.2.1 (by have := r2.length; rw [e] at this; exact List.eq_nil_of_length_eq_zero this.symm)
          refine ⟨a, b, vs, ws, rfl, rfl, h1, h2, n1, n2, by rw [r1.length, r2.length]; exact hc.2.2, fun p hp => ?_⟩
          obtain ⟨x2, le⟩ := x.alloc (o := .tup (vs ++ ws)) hp
          have ra := RepL.mono le (List.prefix_refl _) _ _ (r1.append r2)
          refine c2 (g.at I (upd F p (.tup (vs ++ ws)))) I _ s σ _ _ x2.here ?_
          cases e1 : f s with
          | stuck => rw [e1] at q; exact q
          | ex c s1 => rw [e1] at q; exact fun I F H u x3 hu => q _ _ _ _ (x2.back x3) hu
          | ok zs s1 =>
            rw [e1, bnd_ok] at q
            intro us I3 F3 H3 x3 r3
            have x3' := x2.back x3
            have ra3 := ra.later x3
            match zs, r3 with
            | [z], .cons rz .nil =>
              rw [r_kCI3] at q
              by_cases hf : (z.flat && (xs ++ ys).all D.flat) = true
              · rw [if_pos hf] at q
                rw [Bool.and_eq_true] at hf
                cases hj : idxD z (xs ++ ys) with
                | none => rw [hj] at q; exact q.elim
                | some j =>
                  rw [hj] at q
                  obtain ⟨⟨y, j1, j2⟩, j3⟩ := idxD_at hj
                  obtain ⟨v', k1, k2⟩ := ra3.get j1
                  have fy : y.flat = true := List.all_eq_true.mp hf.2 y (List.mem_of_getElem? j1)
                  refine ⟨p, vs ++ ws, _, j, v', rfl, rfl, same_sqT x3'.sub (SqT.of (x3.mono.tup upd_same)), RW.flat (H := H3) (.r rz) hf.1, RepL.flat (H := H3) ra3 hf.2, k1, ?_, fun m z' hm hz' => ?_, q _ _ _ _ x3' (.int _)⟩
                  · rw [flat_eqv (H := H3) (.r k2) (.r rz) fy hf.1]
                    exact j2
                  · obtain ⟨y', m1, m2⟩ := ra3.get' hz'
                    have fy' : y'.flat = true := List.all_eq_true.mp hf.2 y' (List.mem_of_getElem? m1)
                    rw [flat_eqv (H := H3) (.r m2) (.r rz) fy' hf.1]
                    exact j3 m y' hm m1
              · rw [if_neg hf] at q
                exact q.elim
            | [], _ => exact q.elim
            | _ :: _ :: _, _ => exact q.elim
        · rw [if_neg hc] at q
          exact q.elim
      | _ => exact q.elim
    | _ => exact q.elim
end
end Fw
namespace Fw
open PySem PySem.Spec PyProof.Rows L2
/-! ### x.join(names) for a list that a name holds -/
def kS1d (op : D → D → Option D) (d : D) (s : S) : Option D → Out D
  | some y => lift1 (op d y) s
  | none => .stuck
def kS1c (op : D → D → Option D) (d : D) : Rd1 → M D := fun r s => kS1d op d s (r.rd s)
def kS1o (op : D → D → Option D) (b : Opd) : D → M D := fun d s => if isS d = true then (b.ev s).bnd (kS1c op d) else .stuck
def eS1o (op : D → D → Option D) (fo : M D) (b : Opd) : M D := fun s => (fo s).bnd (kS1o op b)
@[simp] theorem r_eS1o (op : D → D → Option D) (fo : M D) (b : Opd) (s : S) : eS1o op fo b s = (fo s).bnd (kS1o op b) := rfl
@[simp] theorem r_kS1o (op : D → D → Option D) (b : Opd) (x : Str) (s : S) : kS1o op b (.str x) s = (b.ev s).bnd (kS1c op (.str x)) := rfl
@[simp] theorem r_kS1c (op : D → D → Option D) (d : D) (r : Rd1) (s : S) : kS1c op d r s = kS1d op d s (r.rd s) := rfl
@[simp] theorem r_kS1d (op : D → D → Option D) (d y : D) (s : S) : kS1d op d s (some y) = lift1 (op d y) s := rfl
section
variable {X : Cx} {W : WX} {o e a b : Expr} {pos p : Pos}
theorem se_S1o {c : Expr} {r : V → List V → Hp → VK → Prop} {op : D → D → Option D} {fo : M D} {ob : Opd} (hp : ∀ {to te : TE}, PE X o to → PE X e te → PE X c (tM1 r to te))
    (hs : ∀ g I F s σ H Q x y dy d, Sim X.K g I F s σ H → RW X.K I F H y dy → op (.str x) dy = some d → (∀ v F' H', Sim X.K g I F' s σ H' → Rep X.K I F' v d → Q v H') → r (.str x) [y] H Q)
    (ha : SE X W o fo) (hb : SO X W e ob) : SE X W c (eS1o op fo ob) := by
  obtain ⟨ta, a1, a2⟩ := ha
  obtain ⟨tb, b1, b2⟩ := hb
  refine ⟨_, hp a1 b1, fun g I F s σ H Q sm hq => a2 g I F s σ H _ sm ?_⟩
  rw [r_eS1o] at hq
  cases ea : fo s with
  | stuck => rw [ea] at hq; exact hq
  | ex c s1 => rw [ea] at hq; exact hq
  | ok d s1 =>
    rw [ea, bnd_ok] at hq
    intro v I1 F1 H1 sm1 r1
    cases d with
    | str x =>
      rw [r_kS1o] at hq
      cases rep_str r1
      refine ⟨⟨x, rfl⟩, b2 g I1 F1 s1 σ H1 _ sm1 ?_⟩
      cases eb : ob.ev s1 with
      | stuck => rw [eb] at hq; exact hq
      | ex c s2 => rw [eb] at hq; exact hq
      | ok y s2 =>
        rw [eb, bnd_ok, r_kS1c] at hq
        intro w I2 F2 H2 sm2 r2
        cases er : y.rd s2 with
        | none => rw [er] at hq; exact hq.elim
        | some dy =>
          rw [er, r_kS1d] at hq
          cases eo : op (.str x) dy with
          | none => rw [eo] at hq; exact hq.elim
          | some d =>
            rw [eo] at hq
            exact hs g I2 F2 s2 σ H2 Q x w dy d sm2 (r2.rw sm2 er) eo fun v F' H' sm3 r3 => hq v I2 F' H' sm3 r3
    | _ => exact hq.elim
theorem se_joinO {apos : Pos} {fo : M D} {ob : Opd} (ha : SE X W o fo) (hb : SO X W e ob) (hs : starEach [e] X.env = [(false, eval e X.env)] := by rfl) (hbase : attributeBase o "join" X.env (eval o X.env) = eval o X.env := by rfl) (hline : (apos.endLine == pos.line) = true := by rfl) : SE X W (.Call (.Attribute o "join" apos) [e] [] pos) (eS1o oJoin fo ob) := by
  refine se_S1o (fun h1 h2 => pe_join h1 h2 hs hbase hline) ?_ ha hb
  intro g I F s σ H Q x y dy d sm ry eo k
  cases dy with
  | lst ds =>
    cases hd : strsD ds with
    | none => simp only [oJoin, hd] at eo; cases eo
    | some ys =>
      cases strsD_map hd
      rw [oJoin_s] at eo
      by_cases hc : joinOk x ys = true
      · rw [if_pos hc] at eo
        cases eo
        obtain ⟨q, vs, rfl, h1, r1⟩ := ry.lst sm.sub
        cases r1.strs
        exact ⟨x, q, ys, rfl, rfl, .inl h1, of_decide_eq_true hc, k _ F H sm (.str _)⟩
      · rw [if_neg hc] at eo; cases eo
  | _ => cases eo
end
end Fw
namespace Fw
open PySem PySem.Spec PySem.W PyProof.Rows L2
/-! ### set(l) of a list of whole numbers: turned from the tuple's case -/
section
variable {P : Program} {w : World} {A : Around} {E : Value → Shared → Prop} {s : Shared}
set_option maxHeartbeats 3200000 in
theorem call_set_listI {l : Addr} {items : Array Value} (ns : List Int) {Q : Value → Shared → Prop} (hh : A.handled = none) (hl : s.heap.IsList l items) (hit : IntsAre items.toList ns) (hb : ns.length + 1 < scanBound)
    (h : ∀ (h' : Heap) (tk c : Nat), SetR w h' s.heap.objs.size (fun j => decide (j ∈ ns)) c → c ≤ ns.length → (∀ b o, s.heap.get? b = some o → h'.get? b = some o) → Q (.ref s.heap.objs.size) { s with heap := h', toks := tk }) :
    wpAny (model P w) A (call (.type "set") [.ref l]) Q E s := by
  have hisz : items.size = ns.length := by
    have q := IntsAre.length hit
    rw [Array.length_toList] at q
    exact q
  obtain ⟨c, tl, hmro⟩ := PySem.F.called_set.mro
  have hmade := PySem.F.called_set.made
  have hsub := PySem.F.called_set.sub
  refine wpAny_call (codeAny_of_tree ?_)
  show wpAny _ _ (callAny (.type "set") _) _ _ _
  refine wpAny_pure ⟨Code.quiet_builtin _ (by decide +kernel), codeAny_builtin PySem.F.entry_type_call ?_⟩
  rw [Around.under_plain (weight_type_call_type "set" [.ref l] []) rfl]
  have h1 := PySem.F.called_set.notType
  have h2 := PySem.F.called_set.canCreate
  have hct := PySem.F.typeCall_set_1 (.ref l)
  repeat (any_goals (first | assumption | wp_step))

  refine codeAny_mono (code_set_led1 (.ref l) (E := E) (Q₁ := fun obj s₁ => obj = .ref s.heap.objs.size ∧ s₁ = { s with heap := s.heap.push { cls := .type "set", dict := none, data := .set #[] 0 (.fresh 0 0 (!w.params.followText "set-order")) } }) ⟨rfl, rfl⟩) fun r s₁ hr => ?_
  cases r with
  | error e => exact hr
  | ok fl =>
    cases fl with
    | ret obj =>
      obtain ⟨rfl, rfl⟩ := hr
      have hS : (s.heap.push { cls := .type "set", dict := none, data := .set #[] 0 (.fresh 0 0 (!w.params.followText "set-order")) }).get? s.heap.objs.size = some { cls := .type "set", dict := none, data := .set #[] 0 (.fresh 0 0 (!w.params.followText "set-order")) } := Heap.get?_push_size _ rfl
      have hT : Shared.TypeIs { s with heap := s.heap.push { cls := .type "set", dict := none, data := .set #[] 0 (.fresh 0 0 (!w.params.followText "set-order")) } } (.ref s.heap.objs.size) "set" := ⟨_, hS, rfl⟩
      have hli := PySem.F.called_set.init.lookup
      have hbi := PySem.F.called_set.init.bind (.ref s.heap.objs.size)
      repeat (any_goals (first | assumption | wp_step))

      refine codeAny_mono (codeAny_call_builtin (R := wants (fun r s₂ => r = .none ∧ ∃ h' tk c, s₂ = { s with heap := h', toks := tk } ∧ SetR w h' s.heap.objs.size (fun j => decide (j ∈ ns)) c ∧ c ≤ ns.length ∧
          (∀ b o, s.heap.get? b = some o → h'.get? b = some o)) E) PySem.F.called_set.init.plain PySem.F.entry_set_init (check_set_init_1 hT ?_)) fun r₂ s₂ hr₂ => ?_
      · obtain ⟨ol, hol, hcl, nl, hdl⟩ := hl
        obtain ⟨ocls, odict, odata, oslots⟩ := ol
        simp only at hcl hdl
        subst hcl; subst hdl
        have hol' : (s.heap.push { cls := .type "set", dict := none, data := .set #[] 0 (.fresh 0 0 (!w.params.followText "set-order")) }).get? l = some { cls := .type "list", dict := odict, data := .seq items nl, slots := oslots } := Heap.get?_push_of_some _ hol
        have hsls := PySem.F.sub_list_set
        have hslf := PySem.F.sub_list_frozenset
        have hne : (Value.type "list" == Value.type "dict") = false := by decide
        have hl1 : (s.heap.push { cls := .type "set", dict := none, data := .set #[] 0 (.fresh 0 0 (!w.params.followText "set-order")) }).IsList l items := ⟨_, hol', rfl, nl, rfl⟩
        unfold Builtin.«set.__init__» noKeywords Builtin.Frozenset.updateFrom
        generalize hPI : pyIter = PI
        wp_walk
        subst hPI

        refine wpAny_pyIter_list hl1 ?_
        refine wpAny_bind (wpAny_runValue ?_)
        have hlS : l < s.heap.objs.size := Heap.lt_size hol
        have hh3 : A.in1.in1.in1.handled = none := by simp [hh]
        have hz1 : (s.heap.push { cls := .type "set", dict := none, data := .set #[] 0 (.fresh 0 0 (!w.params.followText "set-order")) }).objs.size = s.heap.objs.size + 1 := Heap.size_push ..
        have hneI : l ≠ (s.heap.push { cls := .type "set", dict := none, data := .set #[] 0 (.fresh 0 0 (!w.params.followText "set-order")) }).objs.size := by
          rw [Heap.size_push]; exact Nat.ne_of_lt (Nat.lt_succ_of_lt hlS)
        have hSf : s.heap.objs.size ∉ [(s.heap.push { cls := .type "set", dict := none, data := .set #[] 0 (.fresh 0 0 (!w.params.followText "set-order")) }).objs.size, l] := by
          rw [Heap.size_push]; simp only [List.mem_cons, List.mem_singleton, List.not_mem_nil, or_false, not_or]
          exact ⟨Nat.ne_of_lt (Nat.lt_succ_self _), Nat.ne_of_gt hlS⟩
        have hval : ∀ (i : Nat) (v : Value), items[i]? = some v → ∃ k t, ns[i]? = some k ∧ v = .int k t := fun i v hv => by
          have hi : i < ns.length := by rw [← hisz]; exact (Array.getElem?_eq_some_iff.mp hv).1
          obtain ⟨t, e⟩ := PyProof.Rows.IntsAre.int_at hit i v (by rw [Array.getElem?_toList]; exact hv)
          refine ⟨ns[i], t, List.getElem?_eq_getElem hi, ?_⟩
          rw [e, List.getD_eq_getElem?_getD, List.getElem?_eq_getElem hi] <;> rfl
        refine set_update_ints ((Walks.list hh3 _ l hneI items).toS) s.heap.objs.size
          hSf ns hisz hb hval (items.size - 0) 0 _ (by omega) (Nat.zero_le _)
          ⟨⟨_, Heap.get?_push_size _ rfl, rfl, rfl⟩, (hl1.push _)⟩ ?hS0 ?hR
        case hS0 =>
          have hget : ((s.heap.push { cls := .type "set", dict := none, data := .set #[] 0 (.fresh 0 0 (!w.params.followText "set-order")) }).push { cls := .type "list_iterator", data := .fields #[.ref l, .int 0 0] }).get? s.heap.objs.size
              = some { cls := .type "set", dict := none, data := .set #[] 0 (.fresh 0 0 (!w.params.followText "set-order")) } := Heap.get?_push_of_some _ hS
          exact ⟨0, Nat.le_refl 0, setR_new_at hget⟩
        case hR =>
          intro s' c' hm hc' hS'
          obtain ⟨h', g2, d', tk', os'⟩ := s'
          have eg : g2 = s.gens := hm.gens
          have ed : d' = s.drawn := hm.drawn
          have eo : os' = s.os := hm.os
          subst eg; subst ed; subst eo
          show wpAny _ _ _ _ _ _
          refine wpAny_pure ?_
          show wpAny _ _ (ret Value.none) _ _ _
          rw [hisz] at hc'
          refine wpAny_pure ⟨rfl, h', tk', c', rfl, hS', hc', fun b o e => ?_⟩
          have hb0 : b < s.heap.objs.size := Heap.lt_size e
          have hb1 : b ≠ s.heap.objs.size := Nat.ne_of_lt hb0
          have hb2 : b ≠ (s.heap.push { cls := .type "set", dict := none, data := .set #[] 0 (.fresh 0 0 (!w.params.followText "set-order")) }).objs.size := by
            rw [Heap.size_push]; exact Nat.ne_of_lt (Nat.lt_succ_of_lt hb0)
          exact hm.heap b o (by simp only [List.mem_cons, List.mem_singleton, List.not_mem_nil, or_false, not_or]; exact ⟨hb1, hb2⟩) (Heap.get?_push_of_some _ (Heap.get?_push_of_some _ e))

      · cases r₂ with
        | error e => exact hr₂
        | ok fl₂ =>
          cases fl₂ with
          | ret r =>
            obtain ⟨rfl, h', tk, c', rfl, hS', hc', hk'⟩ := hr₂
            repeat (any_goals (first | assumption | wp_step))
            exact h _ _ _ hS' hc' hk'
          | _ => exact hr₂.elim
    | _ => exact hr.elim

/-- min(l) of data that are alike: the first of the least, by its place -/
theorem min_list_at {l : Addr} {vs : Array Value} {x : PyData} {xs : List PyData} {as : List Addr} {Q : Value → Shared → Prop} (hh : A.handled = none) (hl : s.heap.IsList l vs) (hr : ReadsAll s.heap vs.toList (x :: xs) as) (ha : AlikeAll (x :: xs)) (hu : A.units + 1 + PyData.depthAll (x :: xs) < cLine)
    (h : ∀ v h' tk, vs[argBest (fun i j => dataLt ((x :: xs).getD i .none) ((x :: xs).getD j .none)) xs.length]? = some v → (∀ b o, s.heap.get? b = some o → h'.get? b = some o) → Q v { s with heap := h', toks := tk }) :
    wpAny (model P w) A (call (.builtin "min") [.ref l]) Q E s := by
  have hn : vs.size = xs.length + 1 := readsAll_len hr
  refine call_min_walkH (iter_listW (A := A.in1) hh hl fun s₂ e W st hfp hw hk => ?_)
  refine ⟨_, _, _, _, _, _, _, s.heap, _, rfl, W, st, hfp, by omega, hw, hk, cmpIn_lt (A := A.in1) hr ha (by show A.units + 1 + _ < _; exact hu), fun v s' hP m => ?_⟩
  obtain ⟨h', tk, rfl, hk'⟩ := moved_old e rfl m
  have e1 : vs.size - 1 = xs.length := by omega
  rw [e1] at hP
  exact h v h' tk hP hk'
end
section
variable {X : Cx} {W : WX} {a : Expr} {oa : Opd} {pos p p2 q : Pos}
def rSetL (K : PySem.W.Frag) (w : World) : List V → Hp → VK → Prop := fun vs H Q => ∃ (t : Addr) (ns : List Int), vs = [V.ref t] ∧ SqL K H t (ns.map V.int) ∧ ns.length ≤ 4000 ∧ (setI ns).length < 64 ∧
  ∀ (b : Addr) (c : Nat), c < 64 → H b = none → Q (.ref b) (upd H b (SetO w b (fun j => decide (j ∈ ns)) c))
theorem cr_setL (hc : X.calm = true) : CallR X (.type "set") (rSetL X.K X.w) := by
  intro pins s σ H vs us Q I r h
  obtain ⟨t, ns, rfl, hq, hl, h64, k⟩ := h
  rw [Vals.ref1 r]
  obtain ⟨its, rv, pt, hz⟩ := I.list hq
  refine call_set_listI ns (I.ok.hd hc) (show s.heap.IsList t its.toArray from pt.isList) (ints_of_vals rv) (by unfold scanBound; omega) fun h' tk c R hcn kp => ?_
  have hf : H s.heap.objs.size = none := I.hok.fresh (Nat.le_refl _)
  exact ⟨.ref _, upd H s.heap.objs.size (SetO X.w s.heap.objs.size _ c), I.laid (t' := tk) kp (Nat.le_refl _) (setO_new R), rfl, k _ c (setR_small R h64) hf⟩
def oSortSetL : D → Option Ob
  | .lst ds => (match intsD ds with
    | some ns => if ns.length ≤ 4000 ∧ (setI ns).length < 64 then some (.lst ((setI ns).map .int)) else none
    | none => none)
  | _ => none
@[simp] theorem oSortSetL_l (ns : List Int) : oSortSetL (.lst (ns.map .int)) = if ns.length ≤ 4000 ∧ (setI ns).length < 64 then some (.lst ((setI ns).map .int)) else none := by
  unfold oSortSetL
  simp only [intsD_of]
def rSoSeL (K : PySem.W.Frag) (w : World) : List V → Hp → VK → Prop := fun vs H Q => rSetL K w vs H fun x H1 => rSortedSet w [x] H1 Q
theorem sf_sortSetL (hc : X.calm = true) (hg : Gl X "sorted") (hm : X.mg "sorted" = none) (hg2 : Gl X "set") (hm2 : X.mg "set" = none) (ha : SO X W a oa)
    (hst : starEach [a] X.env = (false, eval a X.env) :: starEach [] X.env := by rfl)
    (hst2 : starEach [Expr.Call (.Name "set" p2) [a] [] q] X.env = (false, eval (Expr.Call (.Name "set" p2) [a] [] q) X.env) :: starEach [] X.env := by rfl) :
    SF X W (.Call (.Name "sorted" p) [.Call (.Name "set" p2) [a] [] q] [] pos) (f1 oSortSetL oa) := by
  refine sf_c1 (a := a) (r := rSoSeL X.K X.w) (fun {t} h => ?_) ?_ ha hst
  · have z := pe_callB (p := p) (pos := pos) (x := "sorted") (id := "sorted") (cr_sortedSet hc) hg hm (by decide +kernel) (pa_cons (pe_callTy (p := p2) (pos := q) (x := "set") (T := "set") (cr_setL hc) hg2 hm2 (by decide +kernel) h (he := hst)) pa_nil hst2) (he := hst2)
    exact z
  · intro g I F s σ H Q x dx d sm rx e k
    cases dx with
    | lst ds =>
      cases hi : intsD ds with
      | none => simp only [oSortSetL, hi] at e; cases e
      | some ns =>
        cases intsD_map hi
        rw [oSortSetL_l] at e
        by_cases hk : ns.length ≤ 4000 ∧ (setI ns).length < 64
        · rw [if_pos hk] at e
          cases e
          obtain ⟨t, vs, rfl, h1, r1⟩ := rx.lst sm.sub
          cases r1.ints
          refine ⟨t, ns, rfl, h1, hk.1, hk.2, fun b c hc64 hb => ?_⟩
          have hbb : upd H b (SetO X.w b (fun j => decide (j ∈ ns)) c) b = some (SetO X.w b (fun j => decide (j ∈ ns)) c) := by
            unfold upd
            rw [if_pos rfl]
          refine ⟨b, _, c, rfl, hbb, hc64, fun ms z hup hmem hlen hz => ?_⟩
          have e : ms = setI ns := up_same hup (setI_up ns) fun k => by rw [hmem, mem_setI]; simp
          subst e
          exact k _ _ _ _ _ (sm.fresh hb) hz (.lst (repL_ints _))
        · rw [if_neg hk] at e; cases e
    | _ => cases e
/-! ### min(l) of data that are alike -/
def minIx (ds : List D) : Nat := argBest (fun i j => dataLt ((D.toPyL ds).getD i .none) ((D.toPyL ds).getD j .none)) (ds.length - 1)
def minOk (ds : List D) : Bool := D.okL ds && (decide (D.depL ds ≤ 60) && ((ds.all fun x => ds.all fun y => alike x.toPy y.toPy) && ds.all D.isTup))
def dMinD : D → Option D
  | .lst ds => if minOk ds = true ∧ ds ≠ [] then ds[minIx ds]? else none
  | _ => none
def rMinD (K : PySem.W.Frag) : List V → Hp → VK → Prop := fun vs H Q => ∃ (a : Addr) (xs : List V) (ds : List D), vs = [V.ref a] ∧ SqL K H a xs ∧ xs.length = ds.length ∧ EachIs (fun x d => Dp K H x d.toPy) xs ds ∧ minOk ds = true ∧ ds ≠ [] ∧ ∀ v, xs[minIx ds]? = some v → Q v H
theorem toPyL_map : ∀ ds : List D, D.toPyL ds = ds.map D.toPy
  | [] => by rw [D.toPyL]; rfl
  | d :: ds => by rw [D.toPyL, toPyL_map ds]; rfl
theorem each_readsAll {s : Heap} : ∀ {us : List Value} {ds : List D}, EachIs (fun u d => ∃ as, Reads s u (D.toPy d) as) us ds → ∃ as, ReadsAll s us (ds.map D.toPy) as
  | _, _, .nil => ⟨[], by first | exact .nil | simp [ReadsAll] | exact trivial⟩
  | _, _, .cons h e => by
    obtain ⟨as, h⟩ := h
    obtain ⟨bs, h2⟩ := each_readsAll e
    first | exact ⟨_, .cons h h2⟩ | exact ⟨as ++ bs, ⟨as, bs, rfl, h, h2⟩⟩
end
end Fw
namespace Fw
open PySem PySem.Spec PySem.W PyProof.Rows L2
section
variable {X : Cx} {W : WX} {a : Expr} {oa : Opd} {pos p : Pos}
theorem depthAll_le : ∀ (xs : List PyData) (k : Nat), (∀ x ∈ xs, x.depth ≤ k) → PyData.depthAll xs ≤ k
  | [], k, _ => by simp [PyData.depthAll]
  | x :: xs, k, h => by
    have h1 := h x (by simp)
    have h2 := depthAll_le xs k fun y hy => h y (List.mem_cons_of_mem _ hy)
    simp only [PyData.depthAll]
    exact Nat.max_le.mpr ⟨h1, h2⟩
theorem minOk_pre {ds : List D} (h : minOk ds = true) : D.okL ds = true ∧ AllAlike (ds.map D.toPy) ∧ (∀ d ∈ ds, d.toPy.depth ≤ 61) ∧ ds.all D.isTup = true := by
  unfold minOk at h
  simp only [Bool.and_eq_true, decide_eq_true_eq] at h
  obtain ⟨h1, h2, h4, h5⟩ := h
  refine ⟨h1, fun x hx y hy => ?_, fun d hd => ?_, h5⟩
  · obtain ⟨x', hx', rfl⟩ := List.mem_map.mp hx
    obtain ⟨y', hy', rfl⟩ := List.mem_map.mp hy
    exact List.all_eq_true.mp (List.all_eq_true.mp h4 x' hx') y' hy'
  · obtain ⟨o1, o2⟩ := okL_mem' h1 hd
    rw [toPy_dep d o1]
    omega
theorem cr_minD (hc : X.calm = true) (hu : X.A.units + 65 < cLine) : CallR X (.builtin "min") (rMinD X.K) := by
  intro pins s σ H vs us Q I r h
  obtain ⟨a, xs, ds, rfl, hs, hl, hD, hk, hne, q⟩ := h
  rw [Vals.ref1 r]
  obtain ⟨its, rv, hli, hz⟩ := I.list hs
  obtain ⟨as, hra⟩ := each_readsAll (each_reads (K' := X.K) I rv hD)
  obtain ⟨o1, o2, o5, o6⟩ := minOk_pre hk
  obtain ⟨d0, ds', rfl⟩ : ∃ d0 ds', ds = d0 :: ds' := by
    cases ds with
    | nil => exact absurd rfl hne
    | cons d0 ds' => exact ⟨d0, ds', rfl⟩
  have hnn : ∀ x ∈ (d0 :: ds').map D.toPy, x ≠ .none := by
    intro x hx
    obtain ⟨d, hd, rfl⟩ := List.mem_map.mp hx
    have := List.all_eq_true.mp o6 d hd
    cases d with
    | tup ys => simp [D.toPy]
    | _ => cases this
  have hdp : PyData.depthAll ((d0 :: ds').map D.toPy) ≤ 61 := depthAll_le _ _ fun x hx => by
    obtain ⟨d, hd, rfl⟩ := List.mem_map.mp hx
    exact o5 d hd
  have hra' : ReadsAll s.heap its.toArray.toList (D.toPy d0 :: ds'.map D.toPy) as := by
    simpa using hra
  have hdp' : PyData.depthAll (D.toPy d0 :: ds'.map D.toPy) ≤ 61 := hdp
  refine min_list_at (I.ok.hd hc) hli.isList hra' ⟨o2, hnn⟩ (by omega) fun v h' tk hv kp => ?_
  have hix : its[minIx (d0 :: ds')]? = some v := by
    unfold minIx
    rw [toPyL_map]
    have : ds'.length = (ds'.map D.toPy).length := by rw [List.length_map]
    show its[argBest _ ds'.length]? = some v
    rw [this]
    simpa using hv
  obtain ⟨x, hx1, hx2⟩ : ∃ x, xs[minIx (d0 :: ds')]? = some x ∧ RelV x v := by
    have : ∀ {xs : List V} {us : List Value}, Vals xs us → ∀ (i : Nat) (u : Value), us[i]? = some u → ∃ x, xs[i]? = some x ∧ RelV x u := by
      intro xs us r
      induction r with
      | nil => intro i u hu; simp at hu
      | @cons v0 u0 l1 l2 r t ih =>
        intro i u hu
        cases i with
        | zero =>
          have e : u0 = u := by simpa using hu
          exact ⟨v0, rfl, e ▸ r⟩
        | succ i => exact ih i u (by simpa using hu)
    exact this rv _ _ hix
  exact ⟨x, H, I.kept (t' := tk) kp, hx2, q x hx1⟩
theorem se_minD {k : Nat} (hc : X.calm = true) (hr : Room k X.A) (hg : Gl X "min") (hm : X.mg "min" = none) (ha : SO X W a oa) (hst : starEach [a] X.env = (false, eval a X.env) :: starEach [] X.env := by rfl) : SE X W (.Call (.Name "min" p) [a] [] pos) (e1 dMinD oa) := by
  refine se_c1 (fun h => pe_callB (cr_minD hc (room65 hr)) hg hm (by decide +kernel) h (he := hst)) ?_ ha hst
  intro g I F s σ H Q x dx d sm rx e q
  cases dx with
  | lst ds =>
    by_cases hk : minOk ds = true ∧ ds ≠ []
    · rw [dMinD, if_pos hk] at e
      obtain ⟨o1, o2, o5, o6⟩ := minOk_pre hk.1
      obtain ⟨p, vs, rfl, h1, r1⟩ := rx.lst sm.sub
      refine ⟨p, vs, ds, rfl, h1, r1.length, repL_dp sm.sub r1 o1, hk.1, hk.2, fun v hv => ?_⟩
      obtain ⟨v', k1, k2⟩ := r1.get e
      rw [hv] at k1
      cases k1
      exact q _ F H sm k2
    · rw [dMinD, if_neg hk] at e
      cases e
  | tup z => cases e
  | str z => cases e
  | non => cases e
  | bl _ => cases e
  | int _ => cases e
  | dct _ => cases e
  | obj _ => cases e
  | nm _ => cases e
end
end Fw
namespace Fw
open PySem PySem.Spec PySem.W PyProof.Rows L2
/-! ### instances: objects of the store -/
theorem FsR.get {K : PySem.W.Frag} {I : List Addr} {F : Hp} {f : Str} {d : D} : ∀ {vs : List (Str × V)} {ds : List (Str × D)}, FsR K I F vs ds → ds.lookup f = some d → ∃ v, vs.lookup f = some v ∧ Rep K I F v d
  | _, _, .nil, h => by cases h
  | _, _, .cons (x := x) (v := v) (d := e) a b, h => by
    by_cases q : f = x
    · subst q
      have h' : e = d := by simpa [List.lookup] using h
      subst h'
      exact ⟨v, by simp [List.lookup], a⟩
    · have hb : (f == x) = false := beq_eq_false_iff_ne.mpr q
      simp only [List.lookup, hb] at h ⊢
      exact b.get h
theorem FsR.miss {K : PySem.W.Frag} {I : List Addr} {F : Hp} {f : Str} : ∀ {vs : List (Str × V)} {ds : List (Str × D)}, FsR K I F vs ds → ds.lookup f = none → vs.lookup f = none
  | _, _, .nil, _ => rfl
  | _, _, .cons (x := x) a b, h => by
    by_cases q : f = x
    · subst q
      simp [List.lookup] at h
    · have hb : (f == x) = false := beq_eq_false_iff_ne.mpr q
      simp only [List.lookup, hb] at h ⊢
      exact b.miss h
theorem FsR.len {K : PySem.W.Frag} {I : List Addr} {F : Hp} : ∀ {vs : List (Str × V)} {ds : List (Str × D)}, FsR K I F vs ds → vs.length = ds.length
  | _, _, .nil => rfl
  | _, _, .cons a b => congrArg (· + 1) b.len
def putFD (f : Str) (v : D) : List (Str × D) → List (Str × D)
  | [] => [(f, v)]
  | (g, x) :: r => if g = f then (g, v) :: r else (g, x) :: putFD f v r
theorem FsR.put {K : PySem.W.Frag} {I : List Addr} {F : Hp} {f : Str} {w : V} {e : D} (r : Rep K I F w e) : ∀ {vs : List (Str × V)} {ds : List (Str × D)}, FsR K I F vs ds → FsR K I F (putF f w vs) (putFD f e ds)
  | _, _, .nil => .cons r .nil
  | _, _, .cons (x := x) a b => by
    unfold putF putFD
    by_cases q : x = f
    · rw [if_pos q, if_pos q]; exact .cons r b
    · rw [if_neg q, if_neg q]; exact .cons a (b.put r)
/-- what an object holds under a name -/
def attOf (C f : Str) (st : List Ob) : D → Option D
  | .obj n => (match st[n]? with
    | some (.ins C' fs) => if C' = C then fs.lookup f else none
    | _ => none)
  | _ => none
def attK1 (o : Option D) : M D := fun s => match o with
  | some d => .ok d s
  | none => .stuck
def attK (C f : Str) : D → M D := fun d s => attK1 (attOf C f s.st d) s
def eAtt (C : Str) (fo : M D) (f : Str) : M D := fun s => (fo s).bnd (attK C f)
@[simp] theorem r_eAtt (C : Str) (fo : M D) (f : Str) (s : S) : eAtt C fo f s = (fo s).bnd (attK C f) := rfl
@[simp] theorem r_attK (C f : Str) (d : D) (s : S) : attK C f d s = attK1 (attOf C f s.st d) s := rfl
@[simp] theorem r_attK1 (d : D) (s : S) : attK1 (some d) s = .ok d s := rfl
/-- an object takes another thing under a name -/
def sAttK (C f : Str) (v : D) : D → M Fl := fun d s => match d with
  | .obj n => (match s.st[n]? with
    | some (.ins C' fs) => if C' = C ∧ fs.length < 1000 then .ok .nx { s with st := s.st.set n (.ins C' (putFD f v fs)) } else .stuck
    | _ => .stuck)
  | _ => .stuck
def sAttV (C f : Str) (fo : M D) : D → M Fl := fun v s => (fo s).bnd (sAttK C f v)
def sAtt (C f : Str) (fo fv : M D) : M Fl := fun s => (fv s).bnd (sAttV C f fo)
@[simp] theorem r_sAtt (C f : Str) (fo fv : M D) (s : S) : sAtt C f fo fv s = (fv s).bnd (sAttV C f fo) := rfl
@[simp] theorem r_sAttV (C f : Str) (fo : M D) (v : D) (s : S) : sAttV C f fo v s = (fo s).bnd (sAttK C f v) := rfl
section
variable {X : Cx} {W : WX} {o e value : Expr} {C f m : Str} {pos p pos' apos : Pos}
theorem attOf_ex {st : List Ob} {d z : D} (h : attOf C f st d = some z) : ∃ n fs, d = .obj n ∧ st[n]? = some (.ins C fs) ∧ fs.lookup f = some z := by
  cases d with
  | obj n =>
    unfold attOf at h
    cases q : st[n]? with
    | none => simp only [q] at h; cases h
    | some b =>
      cases b with
      | ins C' fs =>
        simp only [q] at h
        by_cases hc : C' = C
        · rw [if_pos hc] at h
          subst hc
          exact ⟨n, fs, rfl, q, h⟩
        · rw [if_neg hc] at h; cases h
      | _ => simp only [q] at h; cases h
  | _ => cases h
theorem se_att {fo : M D} (hc : Cls X.K (He.ga X.K C)) (hn : NoAttr X.K (He.ga X.K C) f) (ha : SE X W o fo) (hb : attributeBase o f X.env (eval o X.env) = eval o X.env := by rfl) : SE X W (.Attribute o f pos) (eAtt C fo f) := by
  obtain ⟨ta, a1, a2⟩ := ha
  refine ⟨_, pe_fld a1 hb, fun g I F s σ H Q sm hq => a2 g I F s σ H _ sm ?_⟩
  rw [r_eAtt] at hq
  cases ea : fo s with
  | stuck => rw [ea] at hq; exact hq
  | ex c s1 => rw [ea] at hq; exact hq
  | ok d s1 =>
    rw [ea, bnd_ok, r_attK] at hq
    intro v I1 F1 H1 sm1 r1
    cases eo : attOf C f s1.st d with
    | none => rw [eo] at hq; exact hq.elim
    | some z =>
      rw [eo, r_attK1] at hq
      obtain ⟨n, fs, rfl, e1, e2⟩ := attOf_ex eo
      obtain ⟨a, k1, ⟨nf, h, k2, k3⟩⟩ := sm1.getSt e1
      cases r1 with
      | obj hI =>
        rw [hI] at k1
        cases k1
        cases k3 with
        | ins r =>
          obtain ⟨w, w1, w2⟩ := r.get e2
          exact ⟨_, _, _, _, w, rfl, k2, hc, hn, w1, hq w I1 F1 H1 sm1 w2⟩
theorem ss_att {fo fv : M D} (hc : Cls X.K (He.ga X.K C)) (hn : NoAttr X.K (He.ga X.K C) f) (ha : SE X W o fo) (hv : SE X W value fv) (hs : swapsWith value (some (.Attribute o f pos')) pos.line X.env = pure false := by rfl) : SS X W (.Assign [.Attribute o f pos'] value pos) (sAtt C f fo fv) := by
  obtain ⟨ta, a1, a2⟩ := ha
  obtain ⟨tv, b1, b2⟩ := hv
  refine ⟨_, ps_fld a1 b1 hs, fun g I F s σ H E sm hq => b2 g I F s σ H _ sm ?_⟩
  rw [r_sAtt] at hq
  cases eb : fv s with
  | stuck => rw [eb] at hq; exact hq
  | ex c s1 => rw [eb] at hq; exact fun I F H u x hu => hq I F _ H u x hu
  | ok z s1 =>
    rw [eb, bnd_ok, r_sAttV] at hq
    intro w I1 F1 H1 sm1 rw1
    refine a2 (g.at I1 F1) I1 F1 s1 σ H1 _ sm1.here ?_
    cases ea : fo s1 with
    | stuck => rw [ea] at hq; exact hq
    | ex c s2 =>
      rw [ea] at hq
      exact fun I F H u x hu => hq I F _ H u (sm1.back x) hu
    | ok d s2 =>
      rw [ea, bnd_ok] at hq
      intro v I2 F2 H2 sm2 r2
      have rw2 := rw1.later sm2
      have sm2 := sm1.back sm2
      cases d with
      | obj n =>
        unfold sAttK at hq
        cases q : s2.st[n]? with
        | none => simp only [q] at hq; exact hq.elim
        | some b =>
          cases b with
          | ins C' fs =>
            simp only [q] at hq
            by_cases hcc : C' = C ∧ fs.length < 1000
            · rw [if_pos hcc] at hq
              obtain ⟨rfl, hl⟩ := hcc
              obtain ⟨a, h, k1, k2, k3, k4⟩ := sm2.putSt q
              cases r2 with
              | obj hI =>
                rw [hI] at k1
                cases k1
                cases k3 with
                | ins r => exact ⟨_, _, _, _, rfl, k2, hc, hn, by rw [r.len]; exact hl, hq _ _ _ _ (k4 _ _ (.ins (r.put rw2)))⟩
            · rw [if_neg hcc] at hq; exact hq.elim
          | _ => simp only [q] at hq; exact hq.elim
      | _ => exact hq.elim
end
end Fw
namespace Fw
open PySem PySem.Spec PySem.W PyProof.Rows L2
/-! ### methods of instances: calls that may let exceptions out -/
def tMethS (C : Addr) (m : Str) (sp : Sp) (E : L2.St → XK) (ta : TE) (t : TA) : TE := fun σ H Q => ta σ H fun x H1 => ∃ a dx fs, x = .ref a ∧ H1 a = some (.ins C dx fs) ∧ fs.lookup m = none ∧ t σ H1 fun vs H2 => sp (.ref a :: vs) H2 Q (E σ)
section
variable {X : Cx} {CX : CXT} {k : Nat} {f C : Addr} {fd : FuncData} {ps : List Str} {sp : Sp} {E : L2.St → XK} {x m : Str} {p pos apos : Pos} {e o : Expr} {es : List Expr} {ta : TE} {t : TA}
theorem pe_methS {pl : Sem Bool} (he : PE X o ta) (c : Cls X.K C) (hm : Meth X.K C m f) (F : FnOk X.prog X.w X.K X.mg X.base CX k f fd ps sp) (hr : Room k X.A) (hb : Binds X.K fd ps []) (hx : ∀ σ, PassesAt CX X σ (E σ)) (ha : PA X (e :: es) t)
    (hst : starEach (e :: es) X.env = (false, eval e X.env) :: starEach es X.env := by rfl) (hpl : (backTo pos (starEach es X.env)).any (·.1) = false := by rfl)
    (ht : eval (.Call (.Attribute o m apos) (e :: es) [] pos) X.env = (do
      let ov ← eval o X.env
      standAt apos.atName
      let (f, first) ← holding [ov] (getMethod ov m pl)
      callWith pos f first (backTo pos (starEach (e :: es) X.env)) (backToKw pos (keywordEach [] X.env))) := by rfl) :
    PE X (.Call (.Attribute o m apos) (e :: es) [] pos) (tMethS C m sp E ta t) := by
  refine ⟨fun pins s σ H Q I h => ?_⟩
  refine PySem.W.methodCall_KW (pl := pl) (thn (he.run pins s σ H _ I h) fun u s1 ⟨x, H1, I1, rx, a, dx, fs, ex, ea, l, q⟩ => ?_) ht
  subst ex
  obtain rfl : u = Value.ref a := rx
  refine getmeth_ok I1 ea c hm l ?_
  refine PySem.W.callWith_K (first := [.ref a]) (h₀ := X.base) I.ok.mod.kin hm.kp (thn (ha.run pos pins s1 σ H1 _ I1 q) fun us s2 ⟨vs, H2, I2, r, q2⟩ => ⟨I2.kIn, ?_⟩) hst hpl
  exact run_fnS (us := .ref a :: us) (vs := .ref a :: vs) F hr hb (hx σ) I2 (.cons rfl r) q2
theorem pe_methS0 {pl : Sem Bool} (he : PE X o ta) (c : Cls X.K C) (hm : Meth X.K C m f) (F : FnOk X.prog X.w X.K X.mg X.base CX k f fd ps sp) (hr : Room k X.A) (hb : Binds X.K fd ps []) (hx : ∀ σ, PassesAt CX X σ (E σ))
    (ht : eval (.Call (.Attribute o m apos) [] [] pos) X.env = (do
      let ov ← eval o X.env
      standAt apos.atName
      let (f, first) ← holding [ov] (getMethod ov m pl)
      callWith pos f first (backTo pos (starEach [] X.env)) (backToKw pos (keywordEach [] X.env))) := by rfl) :
    PE X (.Call (.Attribute o m apos) [] [] pos) (tMethS C m sp E ta tNil) := by
  refine ⟨fun pins s σ H Q I h => ?_⟩
  refine PySem.W.methodCall_KW (pl := pl) (thn (he.run pins s σ H _ I h) fun u s1 ⟨x, H1, I1, rx, a, dx, fs, ex, ea, l, q⟩ => ?_) ht
  subst ex
  obtain rfl : u = Value.ref a := rx
  refine getmeth_ok I1 ea c hm l ?_
  exact PySem.W.callWith_K0 (first := [.ref a]) I1.kIn hm.kp (run_fnS (us := [.ref a]) (vs := [.ref a]) F hr hb (hx σ) I1 (.cons rfl .nil) q)
end
/-- a method of a class of the head -/
structure DM (P : Program) (w : World) (K : PySem.W.Frag) (mg : Str → Option Value) (base : Heap) (k : Nat) (C m : Str) (φ : List D → List Ob → FOut) : Prop where
  ex : ∃ f fd ps, FnOk P w K mg base (L2.CX P w) k f fd ps (spS K mg φ) ∧ Meth K (He.ga K C) m f ∧ Binds K fd ps []
theorem DM.mono {P : Program} {w : World} {K : PySem.W.Frag} {mg : Str → Option Value} {base : Heap} {j k : Nat} {C m : Str} {φ : List D → List Ob → FOut} (d : DM P w K mg base j C m φ) (h : j ≤ k) : DM P w K mg base k C m φ := by
  obtain ⟨⟨f, fd, ps, h1, h2⟩⟩ := d
  exact ⟨⟨f, fd, ps, h1.mono h, h2⟩⟩
def insOk (C m : Str) (st : List Ob) : D → Bool
  | .obj n => (match st[n]? with
    | some (.ins C' fs) => decide (C' = C) && (fs.lookup m).isNone
    | _ => false)
  | _ => false
theorem insOk_ex {C m : Str} {st : List Ob} {d : D} (h : insOk C m st d = true) : ∃ n fs, d = .obj n ∧ st[n]? = some (.ins C fs) ∧ fs.lookup m = none := by
  cases d with
  | obj n =>
    unfold insOk at h
    cases q : st[n]? with
    | none => simp only [q] at h; cases h
    | some b =>
      cases b with
      | ins C' fs =>
        simp only [q, Bool.and_eq_true, decide_eq_true_eq] at h
        obtain ⟨rfl, h2⟩ := h
        exact ⟨n, fs, rfl, q, by cases z : fs.lookup m with
          | none => rfl
          | some _ => rw [z] at h2; cases h2⟩
      | _ => simp only [q] at h; cases h
  | _ => cases h
def kMethB (φ : List D → List Ob → FOut) (d : D) : List D → M D := fun ds s => (φ (d :: ds) s.st).lift s.env
def kMethA (C m : Str) (φ : List D → List Ob → FOut) (h : M (List D)) : D → M D := fun d s => if insOk C m s.st d = true then (h s).bnd (kMethB φ d) else .stuck
def eMethS (C m : Str) (φ : List D → List Ob → FOut) (fo : M D) (h : M (List D)) : M D := fun s => (fo s).bnd (kMethA C m φ h)
@[simp] theorem r_eMethS (C m : Str) (φ : List D → List Ob → FOut) (fo : M D) (h : M (List D)) (s : S) : eMethS C m φ fo h s = (fo s).bnd (kMethA C m φ h) := rfl
@[simp] theorem r_kMethA (C m : Str) (φ : List D → List Ob → FOut) (h : M (List D)) (d : D) (s : S) : kMethA C m φ h d s = if insOk C m s.st d = true then (h s).bnd (kMethB φ d) else .stuck := rfl
@[simp] theorem r_kMethB (φ : List D → List Ob → FOut) (d : D) (ds : List D) (s : S) : kMethB φ d ds s = (φ (d :: ds) s.st).lift s.env := rfl
section
variable {X : Cx} {W : WX} {e o : Expr} {es : List Expr} {pos apos : Pos} {C m : Str} {k : Nat}
/-- what stands behind the arguments -/
theorem meth_core {g : Gh} {I1 : List Addr} {F1 H1 : Hp} {s1 : S} {σ : L2.St} {Q : VK} {n : Nat} {φ : List D → List Ob → FOut} {h : M (List D)} {t : TA} (a2 : ∀ g I F s σ H Q, Sim X.K g I F s σ H → PoA X W g σ (h s) Q → t σ H Q) (sm1 : Sim X.K g I1 F1 s1 σ H1) {a : Addr} (hI : I1[n]? = some a)
    (hq : PoE X W g σ ((h s1).bnd (kMethB φ (.obj n))) Q) : t σ H1 fun vs H2 => spS X.K X.mg φ (.ref a :: vs) H2 Q (WE W σ) := by
  refine a2 (g.at I1 F1) I1 F1 s1 σ H1 _ sm1.here ?_
  cases e1 : h s1 with
  | stuck => rw [e1] at hq; exact hq
  | ex c s2 => rw [e1] at hq; exact fun I F H u x hu => hq I F H u (sm1.back x) hu
  | ok ds s2 =>
    rw [e1, bnd_ok, r_kMethB] at hq
    intro vs I2 F2 H2 x2 r2
    have ro : Rep X.K I2 F2 (.ref a) (.obj n) := Rep.later (v := .ref a) (d := .obj n) (.obj hI) x2
    have x2 := sm1.back x2
    refine ⟨I2, F2, .obj n :: ds, s2.st, x2.calling, .cons ro r2, ?_⟩
    cases e2 : φ (.obj n :: ds) s2.st with
    | stuck => rw [e2] at hq; exact hq
    | ok d st' =>
      rw [e2] at hq
      exact fun v I' F' H' y r => hq v I' F' H' (x2.called y) r
    | ex c st' =>
      rw [e2] at hq
      exact fun I' F' H' u y hu => hq I' F' H' u (x2.called y) hu
theorem se_methS {pl : Sem Bool} {φ : List D → List Ob → FOut} {fo : M D} {h : M (List D)} (d : DM X.prog X.w X.K X.mg X.base k C m φ) (hc : Cls X.K (He.ga X.K C)) (hr : Room k X.A) (tk : Takes X W) (hov : SE X W o fo) (ha : SA X W (e :: es) h)
    (hst : starEach (e :: es) X.env = (false, eval e X.env) :: starEach es X.env := by rfl) (hpl : (backTo pos (starEach es X.env)).any (·.1) = false := by rfl)
    (ht : eval (.Call (.Attribute o m apos) (e :: es) [] pos) X.env = (do
      let ov ← eval o X.env
      standAt apos.atName
      let (f, first) ← holding [ov] (getMethod ov m pl)
      callWith pos f first (backTo pos (starEach (e :: es) X.env)) (backToKw pos (keywordEach [] X.env))) := by rfl) :
    SE X W (.Call (.Attribute o m apos) (e :: es) [] pos) (eMethS C m φ fo h) := by
  obtain ⟨⟨f, fd, ps, F1, hm, hb⟩⟩ := d
  obtain ⟨to, o1, o2⟩ := hov
  obtain ⟨t, a1, a2⟩ := ha
  refine ⟨_, pe_methS (E := WE W) (pl := pl) o1 hc hm F1 hr hb (fun σ => passAt tk σ) a1 hst hpl ht, fun g I F s σ H Q sm hq => o2 g I F s σ H _ sm ?_⟩
  rw [r_eMethS] at hq
  cases e0 : fo s with
  | stuck => rw [e0] at hq; exact hq
  | ex c s1 => rw [e0] at hq; exact hq
  | ok d s1 =>
    rw [e0, bnd_ok, r_kMethA] at hq
    intro v I1 F1 H1 sm1 r1
    by_cases hk : insOk C m s1.st d = true
    · rw [if_pos hk] at hq
      obtain ⟨n, fs, rfl, q1, q2⟩ := insOk_ex hk
      obtain ⟨a, k1, ⟨nf, ho, k2, k3⟩⟩ := sm1.getSt q1
      cases r1 with
      | obj hI =>
        rw [hI] at k1
        cases k1
        cases k3 with
        | ins r => exact ⟨_, _, _, rfl, k2, r.miss q2, meth_core a2 sm1 hI hq⟩
    · rw [if_neg hk] at hq
      exact hq.elim
theorem se_methS0 {pl : Sem Bool} {φ : List D → List Ob → FOut} {fo : M D} (d : DM X.prog X.w X.K X.mg X.base k C m φ) (hc : Cls X.K (He.ga X.K C)) (hr : Room k X.A) (tk : Takes X W) (hov : SE X W o fo)
    (ht : eval (.Call (.Attribute o m apos) [] [] pos) X.env = (do
      let ov ← eval o X.env
      standAt apos.atName
      let (f, first) ← holding [ov] (getMethod ov m pl)
      callWith pos f first (backTo pos (starEach [] X.env)) (backToKw pos (keywordEach [] X.env))) := by rfl) :
    SE X W (.Call (.Attribute o m apos) [] [] pos) (eMethS C m φ fo aNil) := by
  obtain ⟨⟨f, fd, ps, F1, hm, hb⟩⟩ := d
  obtain ⟨to, o1, o2⟩ := hov
  refine ⟨_, pe_methS0 (E := WE W) (pl := pl) o1 hc hm F1 hr hb (fun σ => passAt tk σ) ht, fun g I F s σ H Q sm hq => o2 g I F s σ H _ sm ?_⟩
  rw [r_eMethS] at hq
  cases e0 : fo s with
  | stuck => rw [e0] at hq; exact hq
  | ex c s1 => rw [e0] at hq; exact hq
  | ok d s1 =>
    rw [e0, bnd_ok, r_kMethA] at hq
    intro v I1 F1 H1 sm1 r1
    by_cases hk : insOk C m s1.st d = true
    · rw [if_pos hk] at hq
      obtain ⟨n, fs, rfl, q1, q2⟩ := insOk_ex hk
      obtain ⟨a, k1, ⟨nf, ho, k2, k3⟩⟩ := sm1.getSt q1
      cases r1 with
      | obj hI =>
        rw [hI] at k1
        cases k1
        cases k3 with
        | ins r => exact ⟨_, _, _, rfl, k2, r.miss q2, meth_core (h := aNil) (fun g I F s σ H Q x hq => hq [] I F H x .nil) sm1 hI hq⟩
    · rw [if_neg hk] at hq
      exact hq.elim
end
end Fw
namespace Fw
open PySem PySem.Spec PySem.W PyProof.Rows L2
/-! ### a new instance -/
def tMakeS (C : Addr) (sp : Sp) (E : L2.St → XK) (t : TA) : TE := fun σ H Q => t σ H fun vs H1 => ∀ x dx, H1 x = none → H1 dx = none → dx ≠ x → sp (.ref x :: vs) (upd (upd H1 dx (.own x)) x (.ins C dx [])) (fun v H2 => v = .non ∧ Q (.ref x) H2) (E σ)
section
variable {X : Cx} {CX : CXT} {k : Nat} {f C : Addr} {fd : FuncData} {ps : List Str} {sp : Sp} {E : L2.St → XK} {x m : Str} {p pos apos : Pos} {e o : Expr} {es : List Expr} {ta : TE} {t : TA}
theorem run_makeS {pins : List (Addr × Obj)} {σ : L2.St} {H : Hp} {s : Shared} {Q : VK} {us : List Value} {vs : List V} (M : Mk X.K C f) (F : FnOk X.prog X.w X.K X.mg X.base CX k f fd ps sp) (hr : Room (k + 1) X.A) (hb : L2.Binds X.K fd ps [])
    (hx : PassesAt CX X σ (E σ)) (I : Inv X pins σ H s) (r : Vals vs us)
    (h : ∀ x dx, H x = none → H dx = none → dx ≠ x → sp (.ref x :: vs) (upd (upd H dx (.own x)) x (.ins C dx [])) (fun v H2 => v = .non ∧ Q (.ref x) H2) (E σ)) :
    wpAny (model X.prog X.w) X.A (call (.ref C) us) (EP X pins σ Q) X.xe s := by
  have hq := h (s.heap.objs.size + 1) s.heap.objs.size (I.hok.fresh (Nat.le_succ _)) (I.hok.fresh (Nat.le_refl _)) (Nat.ne_of_lt (Nat.lt_succ_self _))
  have I2 := Inv.made (C := C) I
  have r2 : Vals (V.ref (s.heap.objs.size + 1) :: vs) (Value.ref (s.heap.objs.size + 1) :: us) := .cons rfl r
  have hl : (Value.ref (s.heap.objs.size + 1) :: us ++ []).length = ps.length := by
    rw [List.append_nil]
    have e := r2.length
    rw [F.len _ _ _ _ hq] at e
    exact e.symm
  have b := hb _ (Value.ref (s.heap.objs.size + 1) :: us) I2.kIn hl
  rw [List.append_nil] at b
  refine wpAny_call (make_map (f := f) I.kIn M.makes M.init (beq_iff_eq.mp M.fn) (codeAny_mono (F.run _ X.stack _ _ ⟨Value.ref (s.heap.objs.size + 1) :: us, []⟩ (Value.ref (s.heap.objs.size + 1) :: us) _ _ (E σ) (hr.make C us [])
    (I2.env0.make C us []) b r2 hq) fun r s' hq' => ?_))
  cases r with
  | error e => exact hx pins _ _ e s' I2 hq'
  | ok fl =>
    cases fl with
    | ret u =>
      obtain ⟨v, H', I3, rv, ev, q3⟩ := I2.after hq'
      subst ev
      exact ⟨rv, ⟨V.ref (s.heap.objs.size + 1), H', I3, rfl, q3⟩⟩
    | next => exact False.elim hq'
    | brk => exact False.elim hq'
    | cont => exact False.elim hq'
theorem pe_makeS (M : Mk X.K C f) (F : FnOk X.prog X.w X.K X.mg X.base CX k f fd ps sp) (hr : Room (k + 1) X.A) (hg : Gl X x) (hm : X.mg x = some (.ref C)) (hb : L2.Binds X.K fd ps []) (hx : ∀ σ, PassesAt CX X σ (E σ))
    (ha : PA X (e :: es) t) (hdb : (x == ("__debug__" : Str)) = false := by decide) (he : starEach (e :: es) X.env = (false, eval e X.env) :: starEach es X.env := by rfl) (hpl : (backTo pos (starEach es X.env)).any (·.1) = false := by rfl) :
    PE X (.Call (.Name x p) (e :: es) [] pos) (tMakeS C sp E t) := by
  refine ⟨fun pins s σ H Q I h => ?_⟩
  refine wpAny_Call_Name_kw (ld_glob I hg hm ?_ hdb)
  refine PySem.W.callWith_K (h₀ := X.base) I.ok.mod.kin M.kp (thn (ha.run pos pins s σ H _ I h) fun us s1 ⟨vs, H1, I1, r, q⟩ => ⟨I1.kIn, ?_⟩) he hpl
  exact run_makeS M F hr hb (hx σ) I1 r q
end
/-- a class of the head, made by its __init__ -/
structure DK (P : Program) (w : World) (K : PySem.W.Frag) (mg : Str → Option Value) (base : Heap) (k : Nat) (C : Str) (φ : List D → List Ob → FOut) : Prop where
  ex : ∃ f fd ps, FnOk P w K mg base (L2.CX P w) k f fd ps (spS K mg φ) ∧ Mk K (He.ga K C) f ∧ mg C = some (.ref (He.ga K C)) ∧ L2.Binds K fd ps []
theorem DK.mono {P : Program} {w : World} {K : PySem.W.Frag} {mg : Str → Option Value} {base : Heap} {j k : Nat} {C : Str} {φ : List D → List Ob → FOut} (d : DK P w K mg base j C φ) (h : j ≤ k) : DK P w K mg base k C φ := by
  obtain ⟨⟨f, fd, ps, h1, h2⟩⟩ := d
  exact ⟨⟨f, fd, ps, h1.mono h, h2⟩⟩
/-- __init__ gives nothing back: the instance is what there is -/
def FOut.made (n : Nat) (env : List Slot) : FOut → Out D
  | .ok .non st => .ok (.obj n) ⟨env, st⟩
  | .ex c st => .ex c ⟨env, st⟩
  | _ => .stuck
@[simp] theorem made_ok (n : Nat) (env : List Slot) (st : List Ob) : FOut.made n env (.ok .non st) = .ok (.obj n) ⟨env, st⟩ := rfl
@[simp] theorem made_ex (n : Nat) (env : List Slot) (c : Str) (st : List Ob) : FOut.made n env (.ex c st) = .ex c ⟨env, st⟩ := rfl
def kMake (C : Str) (φ : List D → List Ob → FOut) : List D → M D := fun ds s => (φ (.obj s.st.length :: ds) (s.st ++ [.ins C []])).made s.st.length s.env
def eMake (C : Str) (φ : List D → List Ob → FOut) (h : M (List D)) : M D := fun s => (h s).bnd (kMake C φ)
@[simp] theorem r_eMake (C : Str) (φ : List D → List Ob → FOut) (h : M (List D)) (s : S) : eMake C φ h s = (h s).bnd (kMake C φ) := rfl
@[simp] theorem r_kMake (C : Str) (φ : List D → List Ob → FOut) (ds : List D) (s : S) : kMake C φ ds s = (φ (.obj s.st.length :: ds) (s.st ++ [.ins C []])).made s.st.length s.env := rfl
section
variable {X : Cx} {W : WX} {e o : Expr} {es : List Expr} {p pos apos : Pos} {C m : Str} {k : Nat}
theorem se_make {φ : List D → List Ob → FOut} {h : M (List D)} (d : DK X.prog X.w X.K X.mg X.base k C φ) (hr : Room (k + 1) X.A) (hg : Gl X C) (tk : Takes X W) (ha : SA X W (e :: es) h)
    (hdb : (C == ("__debug__" : Str)) = false := by decide) (he : starEach (e :: es) X.env = (false, eval e X.env) :: starEach es X.env := by rfl) (hpl : (backTo pos (starEach es X.env)).any (·.1) = false := by rfl) :
    SE X W (.Call (.Name C p) (e :: es) [] pos) (eMake C φ h) := by
  obtain ⟨⟨f, fd, ps, F1, hmk, hm, hb⟩⟩ := d
  obtain ⟨t, a1, a2⟩ := ha
  refine ⟨_, pe_makeS (E := WE W) hmk F1 hr hg hm hb (fun σ => passAt tk σ) a1 hdb he hpl, fun g I F s σ H Q sm hq => a2 g I F s σ H _ sm ?_⟩
  rw [r_eMake] at hq
  cases e1 : h s with
  | stuck => rw [e1] at hq; exact hq
  | ex c s1 => rw [e1] at hq; exact hq
  | ok ds s1 =>
    rw [e1, bnd_ok, r_kMake] at hq
    intro vs I1 F1 H1 x1 r1 x dx hx hdx hne
    have y1 := x1.fresh (o := HO.own x) hdx
    have hx2 : upd H1 dx (.own x) x = none := by rw [upd_ne (Ne.symm hne)]; exact hx
    obtain ⟨y2, pre, at_⟩ := y1.allocSt (o := .ins (He.ga X.K C) dx []) (b := .ins C []) hx2 (.ins .nil)
    refine ⟨I1 ++ [x], F1, .obj s1.st.length :: ds, s1.st ++ [.ins C []], y2.calling, .cons (.obj at_) (RepL.mono (Le.refl _) pre _ _ r1), ?_⟩
    cases e2 : φ (.obj s1.st.length :: ds) (s1.st ++ [.ins C []]) with
    | stuck => rw [e2] at hq; exact hq
    | ok dd st' =>
      rw [e2] at hq
      cases dd with
      | non =>
        intro v I' F' H' y r
        cases r
        refine ⟨rfl, hq _ I' F' H' (y2.called y) (.obj ?_)⟩
        have hp : I1 ++ [x] <+: I' := y.pre
        obtain ⟨z, hz⟩ := hp
        rw [← hz, List.getElem?_append_left (List.getElem?_eq_some_iff.mp at_).1]
        exact at_
      | _ => exact hq.elim
    | ex c st' =>
      rw [e2] at hq
      exact fun I' F' H' u y hu => hq I' F' H' u (y2.called y) hu
end
end Fw
namespace Fw
open PySem PySem.Spec PySem.W PyProof.Rows L2
/-! ### methods of a list of the store that an expression tells -/
def lstAt (st : List Ob) (n : Nat) : Bool := match st[n]? with
  | some (.lst _) => true
  | _ => false
def chgO1 (n : Nat) (k : Ob → Option (D × Ob)) : Option Ob → M D
  | some b => fun s => (match k b with
    | some (d, b') => .ok d { s with st := s.st.set n b' }
    | none => .stuck)
  | none => fun _ => .stuck
def kMethO2 (n : Nat) (k : List D → Ob → Option (D × Ob)) : List D → M D := fun ys s => chgO1 n (k ys) s.st[n]? s
def kMethO1 (f : M (List D)) (k : List D → Ob → Option (D × Ob)) : D → M D := fun d s => match d with
  | .obj n => if lstAt s.st n = true then (f s).bnd (kMethO2 n k) else .stuck
  | _ => .stuck
def eMethO (fo : M D) (f : M (List D)) (k : List D → Ob → Option (D × Ob)) : M D := fun s => (fo s).bnd (kMethO1 f k)
@[simp] theorem r_eMethO (fo : M D) (f : M (List D)) (k : List D → Ob → Option (D × Ob)) (s : S) : eMethO fo f k s = (fo s).bnd (kMethO1 f k) := rfl
@[simp] theorem r_kMethO1 (f : M (List D)) (k : List D → Ob → Option (D × Ob)) (n : Nat) (s : S) : kMethO1 f k (.obj n) s = if lstAt s.st n = true then (f s).bnd (kMethO2 n k) else .stuck := rfl
@[simp] theorem r_kMethO2 (n : Nat) (k : List D → Ob → Option (D × Ob)) (ys : List D) (s : S) : kMethO2 n k ys s = chgO1 n (k ys) s.st[n]? s := rfl
theorem chgO1_ok {n : Nat} {k : Ob → Option (D × Ob)} {b b' : Ob} {d : D} (s : S) (h : k b = some (d, b')) : chgO1 n k (some b) s = .ok d { s with st := s.st.set n b' } := by simp only [chgO1, h]
section
variable {X : Cx} {W : WX} {o e : Expr} {pos apos cpos : Pos}
theorem obj_list {g : Gh} {I : List Addr} {F H : Hp} {s : S} {σ : L2.St} {v : V} {n : Nat} (x : Sim X.K g I F s σ H) (r : Rep X.K I F v (.obj n)) (h : lstAt s.st n = true) : ∃ a vs, v = .ref a ∧ I[n]? = some a ∧ SqL X.K H a vs := by
  unfold lstAt at h
  cases q : s.st[n]? with
  | none => rw [q] at h; cases h
  | some b =>
    cases b with
    | lst ds =>
      obtain ⟨a, k1, ⟨nf, ho, k2, k3⟩⟩ := x.getSt q
      cases r with
      | obj hI =>
        rw [hI] at k1
        cases k1
        obtain ⟨q', vs, e, h1, _⟩ := (RW.o k2 k3 (rfl : (Ob.lst ds).toD = some (.lst ds))).lst x.sub
        cases e
        exact ⟨_, vs, rfl, hI, h1⟩
    | _ => rw [q] at h; cases h
theorem se_appendO {fo : M D} {f : M (List D)} (hv : SE X W o fo) (ha : SA X W [e] f)
    (hbase : attributeBase o "append" X.env (eval o X.env) = eval o X.env := by rfl)
    (hfew : ((backTo cpos (starEach [e] X.env)).all (fun x => !x.1) && (backToKw cpos (keywordEach [] X.env)).all (fun x => x.1.isSome) && decide (([e] : List Expr).length + ([] : List Keyword).length + (if ([] : List Keyword).isEmpty then 0 else 1) < 30)) = true := by rfl)
    (hline : (apos.endLine == cpos.line) = true := by rfl) (hs : starEach [e] X.env = (false, eval e X.env) :: starEach [] X.env := by rfl) (hpl : (backTo cpos (starEach [] X.env)).any (·.1) = false := by rfl) :
    SE X W (.Call (.Attribute o "append" apos) [e] [] cpos) (eMethO fo f k1Append) := by
  obtain ⟨to, o1, o2⟩ := hv
  obtain ⟨t, a1, a2⟩ := ha
  refine ⟨_, pe_bm PySem.F.plainAttrs_list PySem.F.slot_list_append PySem.F.type_list_append mt_append o1 a1 hbase hfew hline hs hpl, fun g I F s σ H Q sm hq => o2 g I F s σ H _ sm ?_⟩
  rw [r_eMethO] at hq
  cases e0 : fo s with
  | stuck => rw [e0] at hq; exact hq
  | ex c s1 => rw [e0] at hq; exact hq
  | ok d s1 =>
    rw [e0, bnd_ok] at hq
    intro v I1 F1 H1 sm1 r1
    cases d with
    | obj n =>
      rw [r_kMethO1] at hq
      by_cases hl : lstAt s1.st n = true
      · rw [if_pos hl] at hq
        obtain ⟨a, vs0, rfl, hI, t0⟩ := obj_list sm1 r1 hl
        refine ⟨.inl ⟨rfl, _, t0⟩, a2 (g.at I1 F1) I1 F1 s1 σ H1 _ sm1.here ?_⟩
        cases e1 : f s1 with
        | stuck => rw [e1] at hq; exact hq
        | ex c s2 => rw [e1] at hq; exact fun I F H u x hu => hq I F H u (sm1.back x) hu
        | ok ds s2 =>
          rw [e1, bnd_ok, r_kMethO2] at hq
          intro vs I2 F2 H2 x2 r2
          have ro : Rep X.K I2 F2 (.ref a) (.obj n) := Rep.later (v := .ref a) (d := .obj n) (.obj hI) x2
          have x2 := sm1.back x2
          cases q : s2.st[n]? with
          | none => rw [q] at hq; exact hq.elim
          | some b =>
            rw [q] at hq
            obtain ⟨a', ho, k1, k2, k3, k4⟩ := x2.putSt q
            cases ro with
            | obj hI2 =>
              rw [hI2] at k1
              cases k1
              cases ek : k1Append ds b with
              | none => simp only [chgO1, ek] at hq; exact hq.elim
              | some p =>
                obtain ⟨d, b'⟩ := p
                rw [chgO1_ok _ ek] at hq
                unfold k1Append at ek
                split at ek
                · rename_i y xs
                  by_cases hz : xs.length < sizeLine
                  · rw [if_pos hz] at ek
                    cases ek
                    cases k3 with
                    | @lst ws _ rl =>
                      cases r2 with
                      | cons ry rn =>
                        cases rn
                        exact ⟨_, ws, _, rfl, rfl, k2, by rw [rl.length]; exact hz, hq _ _ _ _ (k4 _ _ (.lst (rl.snoc ry))) .non⟩
                  · rw [if_neg hz] at ek
                    cases ek
                · cases ek
      · rw [if_neg hl] at hq; exact hq.elim
    | _ => exact hq.elim
theorem se_popO {fo : M D} (hv : SE X W o fo) (hbase : attributeBase o "pop" X.env (eval o X.env) = eval o X.env := by rfl) (hline : (apos.endLine == cpos.line) = true := by rfl) :
    SE X W (.Call (.Attribute o "pop" apos) [] [] cpos) (eMethO fo aNil k1Pop0) := by
  obtain ⟨to, o1, o2⟩ := hv
  refine ⟨_, pe_bm0 PySem.F.plainAttrs_list PySem.F.slot_list_pop PySem.F.type_list_pop mt_pop o1 hbase hline, fun g I F s σ H Q sm hq => o2 g I F s σ H _ sm ?_⟩
  rw [r_eMethO] at hq
  cases e0 : fo s with
  | stuck => rw [e0] at hq; exact hq
  | ex c s1 => rw [e0] at hq; exact hq
  | ok d s1 =>
    rw [e0, bnd_ok] at hq
    intro v I1 F1 H1 sm1 r1
    cases d with
    | obj n =>
      rw [r_kMethO1] at hq
      by_cases hl : lstAt s1.st n = true
      · rw [if_pos hl] at hq
        obtain ⟨a, vs0, rfl, hI, t0⟩ := obj_list sm1 r1 hl
        refine ⟨.inl ⟨rfl, _, t0⟩, ?_⟩
        have hq : PoE X W g σ (kMethO2 n k1Pop0 [] s1) Q := hq
        rw [r_kMethO2] at hq
        cases q : s1.st[n]? with
        | none => rw [q] at hq; exact hq.elim
        | some b =>
          rw [q] at hq
          obtain ⟨a', ho, k1, k2, k3, k4⟩ := sm1.putSt q
          rw [hI] at k1
          cases k1
          cases ek : k1Pop0 [] b with
          | none => simp only [chgO1, ek] at hq; exact hq.elim
          | some p =>
            obtain ⟨d, b'⟩ := p
            rw [chgO1_ok _ ek] at hq
            cases k3 with
            | @lst ws ys rl =>
              unfold k1Pop0 at ek
              simp only at ek
              cases hy : ys[ys.length - 1]? with
              | none => rw [hy] at ek; cases ek
              | some y =>
                rw [hy] at ek
                cases ek
                obtain ⟨w, hw, rw_⟩ := rl.get hy
                exact ⟨_, ws, w, rfl, rfl, k2, by rw [rl.length]; exact hw, hq _ _ _ _ (k4 _ _ (.lst rl.dropLast)) rw_⟩
            | _ => simp [k1Pop0] at ek
      · rw [if_neg hl] at hq; exact hq.elim
    | _ => exact hq.elim
end
end Fw
namespace Fw
open PySem PySem.Spec PySem.W PyProof.Rows L2
/-! ### names: tuples of texts whose object has no dict (for .index) -/
mutual
def wkD : D → D
  | .nm xs => .tup (xs.map .str)
  | .tup ds => .tup (wkL ds)
  | d => d
def wkL : List D → List D
  | [] => []
  | d :: ds => wkD d :: wkL ds
end
@[simp] theorem wkD_nm (xs : List Str) : wkD (.nm xs) = .tup (xs.map .str) := by simp only [wkD]
@[simp] theorem wkD_non : wkD .non = .non := by simp only [wkD]
@[simp] theorem wkD_bl (b : Bool) : wkD (.bl b) = .bl b := by simp only [wkD]
@[simp] theorem wkD_int (i : Int) : wkD (.int i) = .int i := by simp only [wkD]
@[simp] theorem wkD_str (x : Str) : wkD (.str x) = .str x := by simp only [wkD]
@[simp] theorem wkD_tup (ds : List D) : wkD (.tup ds) = .tup (wkL ds) := by simp only [wkD]
@[simp] theorem wkL_nil : wkL [] = [] := by simp only [wkL]
@[simp] theorem wkL_cons (d : D) (ds : List D) : wkL (d :: ds) = wkD d :: wkL ds := by simp only [wkL]
section
variable {K : PySem.W.Frag} {I : List Addr} {F : Hp}
theorem txts_map {xs : List Str} (h : xs ≠ []) : txtsV (xs.map V.str) = true := by
  cases xs with
  | nil => exact absurd rfl h
  | cons x xs =>
    show (xs.map V.str).all txtV = true
    rw [List.all_eq_true]
    intro v hv
    obtain ⟨y, _, rfl⟩ := List.mem_map.mp hv
    rfl
mutual
theorem Rep.wk : ∀ (d : D) (v : V), Rep K I F v d → Rep K I F v (wkD d)
  | .nm xs, _, h => by
    cases h with
    | nm q r ne => exact .tup (.inr ⟨txts_map ne, _, q⟩) (repL_strs xs)
  | .tup ds, _, h => by
    cases h with
    | tup q r => exact .tup q (RepL.wk ds _ r)
  | .non, _, h => h
  | .bl _, _, h => h
  | .int _, _, h => h
  | .str _, _, h => h
  | .lst _, _, h => h
  | .dct _, _, h => h
  | .obj _, _, h => h
theorem RepL.wk : ∀ (ds : List D) (vs : List V), RepL K I F vs ds → RepL K I F vs (wkL ds)
  | [], _, h => by cases h; exact .nil
  | d :: ds, _, h => by
    cases h with
    | cons a b => exact .cons (Rep.wk d _ a) (RepL.wk ds _ b)
end
end
def kWk : D → M D := fun d s => .ok (wkD d) s
def eWk (f : M D) : M D := fun s => (f s).bnd kWk
@[simp] theorem r_eWk (f : M D) (s : S) : eWk f s = (f s).bnd kWk := rfl
@[simp] theorem r_kWk (d : D) (s : S) : kWk d s = .ok (wkD d) s := rfl
def dAddN : D → D → Option D
  | .nm xs, .tup ds => (match strsD ds with
    | some ys => if xs ≠ [] ∧ ys ≠ [] ∧ xs.length + ys.length ≤ sizeLine then some (.nm (xs ++ ys)) else none
    | none => none)
  | _, _ => none
def dTupleN : D → Option D
  | .lst ds => (match strsD ds with
    | some ys => if ys ≠ [] then some (.nm ys) else none
    | none => none)
  | _ => none
section
variable {X : Cx} {W : WX} {a b o e : Expr} {oa ob : Opd} {pos p apos cpos : Pos}
theorem se_wk {f : M D} (h : SE X W e f) : SE X W e (eWk f) := by
  obtain ⟨t, a1, a2⟩ := h
  refine ⟨t, a1, fun g I F s σ H Q x hq => a2 g I F s σ H Q x ?_⟩
  rw [r_eWk] at hq
  cases e1 : f s with
  | stuck => rw [e1] at hq; exact hq
  | ex c s1 => rw [e1] at hq; exact hq
  | ok d s1 =>
    rw [e1, bnd_ok, r_kWk] at hq
    intro v I1 F1 H1 x1 r1
    exact hq v I1 F1 H1 x1 (Rep.wk d v r1)
def rCatF (K : PySem.W.Frag) : R2 := fun x y H Q => ∃ a b xs ys, x = .ref a ∧ y = .ref b ∧ SqT K H a xs ∧ SqT K H b ys ∧ xs ≠ [] ∧ ys ≠ [] ∧ xs.length + ys.length ≤ sizeLine ∧ ∀ p (ob : Obj), H p = none → ob.dict = none → Q (.ref p) (upd H p (.frz ob (.tup (xs ++ ys))))
theorem op_catF : OpR X (binaryOp .Add) (rCatF X.K) := by
  intro pins s σ H x y v u Q I rx ry h
  obtain ⟨a, b, xs, ys, rfl, rfl, ha, hb, hx, hy, hz, q2⟩ := h
  cases rx
  cases ry
  obtain ⟨its, r1, p1, _⟩ := I.tuple ha
  obtain ⟨its2, r2, p2, _⟩ := I.tuple hb
  refine HT.cat_tup p1 p2 (fun z => hx (r1.nil_iff.mp z)) (fun z => absurd (r2.nil_iff.mp z) hy) (fun z => ?_) (by rw [← r1.length, ← r2.length]; exact hz)
  refine ⟨.ref s.heap.objs.size, _, I.laid (t' := s.toks) (o := .frz { cls := .type "tuple", data := .seq (its ++ its2).toArray } (.tup (xs ++ ys))) (fun b ob q => Heap.get?_push_of_some _ q) (Nat.le_refl _) ?_, rfl, q2 _ _ (I.hok.fresh (Nat.le_refl _)) rfl⟩
  exact ⟨Heap.get?_push_size _ rfl, by rw [List.length_append]; exact hz, _, r1.append r2, IsTup.new _ _⟩
theorem ops_addN : OpS X (rCatF X.K) dAddN := by
  intro g I F s σ H Q x y dx dy d sm rx ry e q
  unfold dAddN at e
  split at e
  · rename_i xs ds
    cases hd : strsD ds with
    | none => rw [hd] at e; cases e
    | some ys =>
      rw [hd] at e
      have e : (if xs ≠ [] ∧ ys ≠ [] ∧ xs.length + ys.length ≤ sizeLine then some (D.nm (xs ++ ys)) else none) = some d := e
      cases strsD_map hd
      by_cases hc : xs ≠ [] ∧ ys ≠ [] ∧ xs.length + ys.length ≤ sizeLine
      · rw [if_pos hc] at e
        cases e
        obtain ⟨p', ws, rfl, h2, r2, f2⟩ := ry.tup sm.sub
        cases r2.strs
        cases rx with
        | r rr =>
          cases rr with
          | @nm a ob _ h1 hd1 hn1 =>
            refine ⟨a, p', xs.map .str, ys.map .str, rfl, rfl, .inl (.inr ⟨ob, sm.sub _ _ h1⟩), h2, ?_, ?_, by rw [List.length_map, List.length_map]; exact hc.2.2, fun p o hp hdo => ?_⟩
            · exact fun z => hc.1 (List.map_eq_nil_iff.mp z)
            · exact fun z => hc.2.1 (List.map_eq_nil_iff.mp z)
            · obtain ⟨x2, le⟩ := sm.alloc (o := .frz o (.tup (xs.map .str ++ ys.map .str))) hp
              exact q _ _ _ x2 (.nm (by rw [List.map_append]; exact upd_same) hdo (fun z => hc.1 (List.append_eq_nil_iff.mp z).1))
        | o h1 h2 h3 =>
          rename_i hh bb
          cases bb <;> cases h3
      · rw [if_neg hc] at e; cases e
  · cases e
theorem se_addN (ha : SO X W a oa) (hb : SO X W b ob) : SE X W (.BinOp a .Add b pos) (e2 dAddN oa ob) := se_bin op_catF ops_addN ha hb
theorem call_tuple_ofF : CallR X (.type "tuple") (fun xs H Q => ∃ p ys, xs = [.ref p] ∧ SqL X.K H p ys ∧ ∀ l (o : Obj), H l = none → o.dict = none → Q (.ref l) (upd H l (.frz o (.tup ys)))) := by
  intro pins s σ H xs us Q I r h
  obtain ⟨p, ys, rfl, hq, q⟩ := h
  obtain ⟨u, rfl, rx⟩ := vals1 r
  cases rx
  obtain ⟨its, r', pl, hz⟩ := I.list hq
  have hlen := r'.length
  refine call_tuple_list pl.isList (fun h' kp => ?_) (by simp only [List.size_toArray] <;> omega)
  have I1 : Inv X pins σ H { s with heap := h' } := I.kept (t' := s.toks) kp
  have I2 : Inv X pins σ (upd H h'.objs.size (.frz { cls := .type "tuple", data := .seq its.toArray } (.tup ys))) { s with heap := h'.push { cls := .type "tuple", data := .seq its.toArray } } :=
    I1.laid (t' := s.toks) (fun b o e => Heap.get?_push_of_some _ e) (Nat.le_refl _) ⟨Heap.get?_push_size _ rfl, hz, its, r', IsTup.new _ _⟩
  exact ⟨.ref h'.objs.size, _, I2, rfl, q _ _ (I1.hok.fresh (Nat.le_refl _)) rfl⟩
theorem se_tupleN (hg : Gl X "tuple") (hm : X.mg "tuple" = none) (ha : SO X W a oa) (hst : starEach [a] X.env = (false, eval a X.env) :: starEach [] X.env := by rfl) : SE X W (.Call (.Name "tuple" p) [a] [] pos) (e1 dTupleN oa) := by
  refine se_c1 (fun h => pe_callTy call_tuple_ofF hg hm (by decide +kernel) h (he := hst)) ?_ ha hst
  intro g I F s σ H Q x dx d sm rx e q
  cases dx with
  | lst ds =>
    cases hd : strsD ds with
    | none => simp only [dTupleN, hd] at e; cases e
    | some ys =>
      cases strsD_map hd
      by_cases hc : ys ≠ []
      · simp only [dTupleN, hd] at e
        rw [if_pos hc] at e
        cases e
        obtain ⟨p, vs, rfl, h1, r1⟩ := rx.lst sm.sub
        cases r1.strs
        refine ⟨p, ys.map .str, rfl, h1, fun l o hl hdo => ?_⟩
        obtain ⟨x2, le⟩ := sm.alloc (o := .frz o (.tup (ys.map .str))) hl
        exact q _ _ _ x2 (.nm upd_same hdo hc)
      · simp only [dTupleN, hd] at e
        rw [if_neg hc] at e; cases e
  | _ => cases e
/-- names.index(x) -/
def tIxN (K : PySem.W.Frag) (to : TE) (t : TA) : TE := fun σ H Q => to σ H fun x H1 => ∃ a ob zs, x = .ref a ∧ H1 a = some (.frz ob (.tup zs)) ∧ ob.dict = none ∧ t σ H1 fun vs H2 => rIndexT K x vs H2 Q
theorem pe_ixN {to : TE} {tc : TA} (ho : PE X o to) (hc : PA X [e] tc)
    (hbase : attributeBase o "index" X.env (eval o X.env) = eval o X.env := by rfl)
    (hfew : ((backTo cpos (starEach [e] X.env)).all (fun x => !x.1) && (backToKw cpos (keywordEach [] X.env)).all (fun x => x.1.isSome) && decide (([e] : List Expr).length + ([] : List Keyword).length + (if ([] : List Keyword).isEmpty then 0 else 1) < 30)) = true := by rfl)
    (hline : (apos.endLine == cpos.line) = true := by rfl) (hs : starEach [e] X.env = (false, eval e X.env) :: starEach [] X.env := by rfl) (hplain : (backTo cpos (starEach [] X.env)).any (·.1) = false := by rfl) :
    PE X (.Call (.Attribute o "index" apos) [e] [] cpos) (tIxN X.K to tc) := by
  refine ⟨fun pins s σ H Q I h => ?_⟩
  refine wpAny_Call_method_late hbase hfew hline rfl (thn (ho.run pins s σ H _ I h) fun w s3 ⟨z, H3, I3, rz, a, ob, zs, ez, e3, hd, q3⟩ => ?_)
  subst ez
  obtain rfl : w = Value.ref a := rz
  obtain ⟨k1, k2⟩ : s3.heap.get? a = some ob ∧ ObjOk X.prog X.w H3 s3.heap a (.tup zs) := I3.hok _ _ e3
  obtain ⟨_, its, _, o2, k3, k4, _⟩ := k2
  rw [k1] at k3
  cases k3
  refine ⟨"tuple", "tuple.index", PySem.F.plainAttrs_tuple, PySem.F.slot_tuple_index, PySem.F.type_tuple_index, ⟨ob, k1, k4⟩, fun c hc => ?_, ?_⟩
  · cases hc
    exact ⟨ob, k1, hd⟩
  · have hA := hc.run cpos pins s3 σ H3 _ I3 q3
    rw [hs] at hA ⊢
    refine Calls.callWith_builtin (by show (false || (backTo cpos (starEach [] X.env)).any (·.1)) = false; rw [hplain] <;> rfl) (Calls.evalArgs_plain ?_)
    exact thn hA fun us s4 ⟨vs, H4, I4, r4, q4⟩ => mt_tindex pins s4 σ H4 (.ref a) vs _ us Q I4 rfl r4 q4
def kIxN1 (xs : List Str) : List D → M D := fun ds s => match ds with
  | [.str y] => (match idxD (.str y) (xs.map .str) with
    | some j => .ok (.int (j : Int)) s
    | none => .stuck)
  | _ => .stuck
def kIxN (f : M (List D)) : D → M D := fun d s => match d with
  | .nm xs => (f s).bnd (kIxN1 xs)
  | _ => .stuck
def eIxN (fo : M D) (f : M (List D)) : M D := fun s => (fo s).bnd (kIxN f)
@[simp] theorem r_eIxN (fo : M D) (f : M (List D)) (s : S) : eIxN fo f s = (fo s).bnd (kIxN f) := rfl
@[simp] theorem r_kIxN (f : M (List D)) (xs : List Str) (s : S) : kIxN f (.nm xs) s = (f s).bnd (kIxN1 xs) := rfl
theorem se_ixN {fo : M D} {f : M (List D)} (ho : SE X W o fo) (hc : SA X W [e] f)
    (hbase : attributeBase o "index" X.env (eval o X.env) = eval o X.env := by rfl)
    (hfew : ((backTo cpos (starEach [e] X.env)).all (fun x => !x.1) && (backToKw cpos (keywordEach [] X.env)).all (fun x => x.1.isSome) && decide (([e] : List Expr).length + ([] : List Keyword).length + (if ([] : List Keyword).isEmpty then 0 else 1) < 30)) = true := by rfl)
    (hline : (apos.endLine == cpos.line) = true := by rfl) (hs : starEach [e] X.env = (false, eval e X.env) :: starEach [] X.env := by rfl) (hplain : (backTo cpos (starEach [] X.env)).any (·.1) = false := by rfl) :
    SE X W (.Call (.Attribute o "index" apos) [e] [] cpos) (eIxN fo f) := by
  obtain ⟨to, o1, o2⟩ := ho
  obtain ⟨tc, c1, c2⟩ := hc
  refine ⟨_, pe_ixN o1 c1 hbase hfew hline hs hplain, fun g I F s σ H Q sm hq => o2 g I F s σ H _ sm ?_⟩
  rw [r_eIxN] at hq
  cases e0 : fo s with
  | stuck => rw [e0] at hq; exact hq
  | ex c s1 => rw [e0] at hq; exact hq
  | ok d s1 =>
    rw [e0, bnd_ok] at hq
    intro v I1 F1 H1 sm1 r1
    cases d with
    | nm xs =>
      rw [r_kIxN] at hq
      cases r1 with
      | @nm a ob _ h1 hd hne =>
        refine ⟨a, ob, xs.map .str, rfl, sm1.sub _ _ h1, hd, c2 (g.at I1 F1) I1 F1 s1 σ H1 _ sm1.here ?_⟩
        cases e1 : f s1 with
        | stuck => rw [e1] at hq; exact hq
        | ex c s2 => rw [e1] at hq; exact fun I F H u x hu => hq I F H u (sm1.back x) hu
        | ok zs s2 =>
          rw [e1, bnd_ok] at hq
          intro us I2 F2 H2 x2 r2
          have ro : Rep X.K I2 F2 (.ref a) (.nm xs) := Rep.later (v := .ref a) (d := .nm xs) (.nm h1 hd hne) x2
          have x2 := sm1.back x2
          cases zs with
          | nil => exact hq.elim
          | cons z zs =>
            cases zs with
            | cons _ _ => cases z <;> exact hq.elim
            | nil =>
              cases z with
              | str y =>
                cases r2 with
                | cons rz rn =>
                  cases rn
                  cases ro with
                  | @nm _ ob2 _ h2 hd2 hn2 =>
                    have ra : RepL X.K I2 F2 (xs.map V.str) (xs.map D.str) := repL_strs xs
                    have hf : (xs.map D.str).all D.flat = true := by
                      rw [List.all_eq_true]
                      intro w hw
                      obtain ⟨x, _, rfl⟩ := List.mem_map.mp hw
                      rfl
                    have hq : PoE X W g σ (match idxD (.str y) (xs.map .str) with
                      | some j => .ok (.int (j : Int)) s2
                      | none => .stuck) Q := hq
                    cases hj : idxD (.str y) (xs.map .str) with
                    | none => rw [hj] at hq; exact hq.elim
                    | some j =>
                      rw [hj] at hq
                      obtain ⟨⟨w, j1, j2⟩, j3⟩ := idxD_at hj
                      obtain ⟨v', k1, k2⟩ := ra.get j1
                      have fy : w.flat = true := List.all_eq_true.mp hf w (List.mem_of_getElem? j1)
                      refine ⟨a, xs.map .str, _, j, v', rfl, rfl, .inl (.inr ⟨ob2, x2.sub _ _ h2⟩), RW.flat (H := H2) (.r rz) rfl, RepL.flat (H := H2) ra hf, k1, ?_, fun m z' hm hz' => ?_, hq _ _ _ _ x2 (.int _)⟩
                      · rw [flat_eqv (H := H2) (.r k2) (.r rz) fy rfl]
                        exact j2
                      · obtain ⟨y', m1, m2⟩ := ra.get' hz'
                        have fy' : y'.flat = true := List.all_eq_true.mp hf y' (List.mem_of_getElem? m1)
                        rw [flat_eqv (H := H2) (.r m2) (.r rz) fy' rfl]
                        exact j3 m y' hm m1
              | _ => exact hq.elim
    | _ => exact hq.elim
end
end Fw
namespace Fw
open PySem PySem.Spec PyProof.Rows L2
/-! ### exceptions that leave the block of a list comprehension -/
theorem noteFrame_at {env env' : Env} (h : env.frame = env'.frame) (e : Value) : noteFrame e env = noteFrame e env' := by
  unfold noteFrame PySem.frameOf
  rw [h]
theorem passOn_at {α : Type} {what : String} {env env' : Env} (h : env.frame = env'.frame) (e : Value) : (PySem.passOn what e env : Sem α) = PySem.passOn what e env' := by
  unfold PySem.passOn
  rw [h]
section
variable {M : Model} {A : Around} {E : Value → Shared → Prop} {s : Shared} {Z : Obj → Prop} {B : Heap} {env : Env} {outer : List Env} {L e : Addr}
/-- noted by a frame, whatever its flight was -/
theorem look_any {fl : Value} {Q : Unit → Shared → Prop} (st : HandSPX.Steady Z) (fr : A.frames = some (env :: outer)) (ef : env.frame = some L)
    (kb : B.StaysIn s.heap) (bn : B.get? e = none) (ff : s.heap.FunFrames B (env :: outer)) (tr : HandSPX.TracedZ s.heap B e Z fl)
    (q : ∀ h', HandSPX.HeldZ B (env :: outer) e Z L h' → s.heap.UpToSlots h' → Q () { s with heap := h' }) : wpAny M A (noteFrame (.ref e) env) Q E s := by
  by_cases hfl : fl = rawInt L
  · subst hfl
    exact HandSPX.againZ ef tr (q s.heap ⟨kb, bn, ff, tr⟩ (Heap.UpToSlots.refl _))
  obtain ⟨oe, vs, T, oT, ts, he, hz, hd, h1, nT, te, gT, dT, h3⟩ := tr
  have ne : ∀ b o, s.heap.get? b = some o → (∀ vs, o.data ≠ .fields vs) → T ≠ b := fun b o hb hn z => by
    subst z
    rw [gT] at hb
    cases hb
    exact hn ts dT
  have ot : ∀ b, T ≠ b → (s.heap.update T (Obj.mapFields (·.setIfInBounds 3 Value.none))).get? b = s.heap.get? b := fun b hb => Heap.get?_update_other _ _ hb
  unfold noteFrame
  simp only [ef]
  refine wpAny_bind (wpAny_field he hd h1 ?_)
  rw [if_pos (by simp)]
  refine wpAny_bind (wpAny_field gT dT h3 ?_)
  rw [if_neg (by simpa using hfl)]
  refine wpAny_bind (wpAny_setField gT dT (Array.getElem?_eq_some_iff.mp h3).1 ?_)
  refine HandSPX.wpAny_entryZ (base := B) st fr (ff.of_keeps fun b o hb hn => ⟨o, by rw [ot b (ne b o hb hn)]; exact hb, rfl⟩) ef (by rw [ot e te]; exact he) (fun b o hb => ?_) bn hd (Array.getElem?_eq_some_iff.mp h1).1 hz fun h' n => ?_
  · rw [ot b fun z => by rw [← z, nT] at hb; cases hb]
    exact kb b o hb
  · exact q h' ⟨n.1, bn, n.2.1, n.2.2.1⟩ fun b o hb hn => n.2.2.2 b o (by rw [ot b (ne b o hb hn)]; exact hb) hn
end

/-- what a comprehension's block leaves, at its own env -/
def blkEnd (M : Model) (A : Around) (E : Value → Shared → Prop) (use : Option (Value → Sem Unit)) (Q : Value → Shared → Prop) (acc : Value) (ce : Env) (r : Result) (s' : Shared) : Prop :=
  match r with
  | .ok fl => compPost M A E use Q acc ce.locals (.ok fl) s'
  | .error x => ∃ m, s'.heap.Ns ce.locals m ∧ ∀ h', Heap.SameBut ce.locals s'.heap h' → wpAny M A (PySem.passOn "comprehension.variables-let-go" x ce : Sem Value) (fun _ _ => False) E { s' with heap := h' }
section
variable {M : Model} {A : Around} {E : Value → Shared → Prop} {s : Shared} {env : Env}
theorem comp_letting {e : Expr} {scope : Scope} {pos : Pos} {newAcc first : Sem Value} {g : Comprehension} {gs : List Comprehension} {cl : List (Str × Addr)} {use : Option (Value → Sem Unit)} {Q : Value → Shared → Prop}
    (hcl : clausesOf e = g :: gs) (hs : ∀ x, foldedSetIterable g.iter env x = pure x) (hclos : closureFor scope env = pure cl) (hkind : scope.kind = .function) (hnames : ∀ x ∈ scope.names, x.2 = .local → scope.names.lookup x.1 = some .local)
    (h : wpAny M A first (fun x s₁ => wpAny M A (pyIter x) (fun it s₂ => wpAny M A newAcc (fun acc s₃ => wpAny M A (newFunctionEnv scope env.globals cl [] env.qual none .none (some env))
      (fun c s₄ => codeAny M A (.compStart e 0 it acc { c with scope := relabel scope env }) (blkEnd M A E use Q acc { c with scope := relabel scope env }) s₄) E s₃) E s₂) E s₁) E s) :
    wpAny M A (comprehension e scope env pos newAcc false first use) Q E s := by
  unfold comprehension
  rw [hclos, hcl]
  have up : ∀ {α : Type} {t : Sem α} {P P' : α → Shared → Prop} {s : Shared}, wpAny M A t P E s → (∀ a s, P a s → P' a s) → wpAny M A t P' E s := fun h q => wpAny_mono h q fun _ _ z => z
  refine wpAny_bind (up h fun x s₁ h₁ => wpAny_bind (wpAny_standAt (wpAny_bind (wpAny_of_eq (hs x) (wpAny_bind (wpAny_holding (up h₁ fun it s₂ h₂ => wpAny_standIf (wpAny_bind (up h₂ fun acc s₃ h₃ =>
    wpAny_bind (wpAny_pure (wpAny_bind (up h₃ fun c s₄ h₄ => ?_))))))))))))
  dsimp only
  have loc : ∀ x ∈ (scope.names.filter fun x => (x.2 == .local || x.2 == .cell) && x.1 != (".0" : Str)), x.2 = .local → Env.kindOf { c with scope := relabel scope env } x.1 = some .local := fun x hx hl =>
    lookup_relabel_local (hnames x (List.mem_filter.mp hx).1 hl)
  refine wpAny_holding (wpAny_bind (wpAny_attempt (wpAny_holding (wpAny_run (codeAny_mono h₄ fun r s' hr => ?_)))))
  cases r with
  | ok f =>
    cases use with
    | none =>
      obtain ⟨m, hn, hq⟩ := hr
      exact wpAny_bind (wpAny_holding (wpAny_comp_letGo (cenv := { c with scope := relabel scope env }) hkind _ s' m (fun x hx => loc x (List.mem_reverse.mp hx)) hn fun h' m' _ sb => wpAny_pure (hq h' sb)))
    | some u =>
      refine wpAny_bind (wpAny_rule (wpAny_bind (wpAny_holding (up hr fun _ s'' hr' => ?_))))
      obtain ⟨m, hn, hq⟩ := hr'
      refine wpAny_bind (wpAny_comp_letGo (cenv := { c with scope := relabel scope env }) hkind _ s'' m (fun x hx => ?_) hn fun h' m' _ sb => wpAny_pure (hq h' sb))
      rcases List.mem_append.mp hx with z | z
      · exact loc x (List.mem_reverse.mp (List.mem_of_mem_drop z))
      · exact loc x (List.mem_reverse.mp (List.mem_of_mem_take z))
  | error x =>
    have hr' : ∃ m, s'.heap.Ns c.locals m ∧ ∀ h', Heap.SameBut c.locals s'.heap h' → wpAny M A (PySem.passOn "comprehension.variables-let-go" x { c with scope := relabel scope env } : Sem Value) (fun _ _ => False) E { s' with heap := h' } := hr
    obtain ⟨m, hn, hq⟩ := hr'
    exact wpAny_bind (wpAny_holding (wpAny_comp_letGo (cenv := { c with scope := relabel scope env }) hkind _ s' m (fun x hx => loc x (List.mem_reverse.mp hx)) hn fun h' m' _ sb => wpAny_mono (hq h' sb) (fun _ _ f => f.elim) fun _ _ y => y))
end

/-- an exception, noted at the frame L, in the air of X -/
def XEH (X : Cx) (W : WX) (L : Addr) (u : Value) (s' : Shared) : Prop :=
  ∃ (a : Addr) (B : Heap) (sI : Shared) (pins : List (Addr × Obj)) (σ : L2.St) (H : Hp) (cls : Value) (d : Option Addr),
    u = .ref a ∧ Inv X pins σ H sI ∧ (∀ b o, sI.heap.get? b = some o → b ∉ frs X.stack → B.get? b = some o) ∧ sI.heap.UpToSlots s'.heap ∧
      HandSPX.HeldZ B X.stack a (Zc cls d) L s'.heap ∧ H a = none ∧ s'.os = sI.os ∧ AllBare s'.gens ∧ W cls d σ H
structure TakesC (X : Cx) (W : WX) : Prop where
  ex : ∃ E0 out L, X.stack = E0 :: out ∧ E0.frame = some L ∧ X.env.frame = some L ∧ ∀ u s', XEH X W L u s' → X.xe u s'
theorem TakesC.of_def {X : Cx} {W : WX} (hs : X.stack = X.env :: X.outer) (hf : X.env.frame = some X.env.locals) (tk : Takes X W) : TakesC X W :=
  ⟨_, _, _, hs, hf, hf, fun u s' ⟨a, B, sI, pins, σ, H, cls, d, e, I, nb, up, hh, na, os, ag, w⟩ => tk u s' ⟨a, B, sI, pins, σ, H, cls, d, e, I, nb, up, .inr (.inr hh), na, os, ag, w⟩⟩
/-- an exception in a block: fresh, or with a traceback -/
def Air (X : Cx) (W : XK) (u : Value) (s' : Shared) : Prop :=
  ∃ (a : Addr) (B : Heap) (sI : Shared) (pins : List (Addr × Obj)) (σ : L2.St) (H : Hp) (cls : Value) (d : Option Addr),
    u = .ref a ∧ Inv X pins σ H sI ∧ (∀ b o, sI.heap.get? b = some o → b ∉ frs X.stack → B.get? b = some o) ∧ sI.heap.UpToSlots s'.heap ∧
      (B.StaysIn s'.heap ∧ B.get? a = none ∧ s'.heap.FunFrames B X.stack ∧ ((∃ oe vs, s'.heap.get? a = some oe ∧ Zc cls d oe ∧ oe.data = .fields vs ∧ vs[1]? = some .none) ∨ ∃ fl, HandSPX.TracedZ s'.heap B a (Zc cls d) fl)) ∧
      H a = none ∧ s'.os = sI.os ∧ AllBare s'.gens ∧ W cls d H
abbrev _root_.L2.Cx.blkX (X : Cx) (s : Shared) (H : Hp) (scope : Scope) (ce : Env) (fp : List Addr) (xe : Value → Shared → Prop) : Cx := (X.blk s H scope ce fp).wish xe
theorem Air.of_XE {X : Cx} {xe : Value → Shared → Prop} {W : XK} {u : Value} {s' : Shared} (x : XE (X.wish xe) (fun c d _ H => W c d H) u s') : Air X W u s' := by
  obtain ⟨a, B, sI, pins, σ, H, cls, d, e, I, nb, up, sky, na, os, ag, w⟩ := x
  refine ⟨a, B, sI, pins, σ, H, cls, d, e, I.unwish, nb, up, ?_, na, os, ag, w⟩
  rcases sky with ⟨k1, k2, k3, k4⟩ | ⟨k1, k2, k3, k4⟩ | ⟨k1, k2, k3, k4⟩
  · exact ⟨k1, k2, k3, .inl k4⟩
  · exact ⟨k1, k2, k3, .inr ⟨_, k4⟩⟩
  · exact ⟨k1, k2, k3, .inr ⟨_, k4⟩⟩
theorem Air.of_XEH {X : Cx} {xe : Value → Shared → Prop} {W : XK} {L : Addr} {u : Value} {s' : Shared} (x : XEH (X.wish xe) (fun c d _ H => W c d H) L u s') : Air X W u s' := by
  obtain ⟨a, B, sI, pins, σ, H, cls, d, e, I, nb, up, ⟨k1, k2, k3, k4⟩, na, os, ag, w⟩ := x
  exact ⟨a, B, sI, pins, σ, H, cls, d, e, I.unwish, nb, up, ⟨k1, k2, k3, .inr ⟨_, k4⟩⟩, na, os, ag, w⟩
theorem frames_at {h h' B B' : Heap} : ∀ {l : List Env}, h.FunFrames B l → (∀ b ∈ frs l, h'.get? b = h.get? b) → (∀ b, B.get? b = none → B'.get? b = none) → h'.FunFrames B' l
  | [], _, _, _ => trivial
  | env :: l, ⟨hk, ⟨L, o, hf, hn, ho, hd⟩, hr⟩, k, kb => by
    have m : L ∈ frs (env :: l) := List.mem_filterMap.mpr ⟨env, List.mem_cons_self, hf⟩
    refine ⟨hk, ⟨L, o, hf, kb L hn, by rw [k L m]; exact ho, hd⟩, frames_at hr (fun b hb => ?_) kb⟩
    obtain ⟨e, he, q⟩ := List.mem_filterMap.mp hb
    exact k b (List.mem_filterMap.mpr ⟨e, List.mem_cons_of_mem _ he, q⟩)
section
variable {X : Cx} {W : WX} {pins : List (Addr × Obj)} {σ : L2.St} {H3 : Hp} {s3 s' : Shared} {scope : Scope} {ce : Env} {fp : List Addr} {u acc : Value} {use : Option (Value → Sem Unit)} {Q : Value → Shared → Prop}
/-- .. leaves the block -/
theorem Air.leave (tc : TakesC X W) (I3 : Inv X pins σ H3 s3) (f3 : ∀ b ∈ fp, FpOk X pins H3 b ∧ b < s3.heap.objs.size) (hC : ce.locals = s3.heap.objs.size) (hF : ce.frame = X.env.frame)
    (x : Air (X.blk s3 H3 scope ce fp) (fun cls d H => W cls d σ H) u s') :
    notedBy (model X.prog X.w) X.A ce (fun e s'' => blkEnd (model X.prog X.w) X.A X.xe use Q acc ce (.error e) s'') u s' := by
  obtain ⟨E0, out, L, hst, hf0, hfL, tkc⟩ := tc
  obtain ⟨a, B, sI, pins', σ', H, cls, d, rfl, I, nb, up, ⟨b1, b2, b3, b4⟩, na, os, ag, w⟩ := x
  have hfr : X.A.frames = some (E0 :: out) := by rw [I3.ok.frames, hst]
  have b3 : s'.heap.FunFrames B (E0 :: out) := by rw [← hst]; exact b3
  have eF : ce.frame = E0.frame := by rw [hF, hfL, hf0]
  -- the block's namespace
  obtain ⟨m, nsI, _⟩ := I.loc
  have nsI : sI.heap.Ns ce.locals m := nsI
  have HC : H ce.locals = none := I.free
  have notold : ∀ b o, s3.heap.get? b = some o → b ≠ ce.locals := fun b o e z => by
    have := Heap.lt_size e
    rw [z, hC] at this
    exact absurd this (Nat.lt_irrefl _)
  have frne : ∀ b ∈ frs (E0 :: out), b ≠ ce.locals := fun b hb => by
    rw [← hst] at hb
    obtain ⟨_, o, e, _⟩ := I3.stack.mem hb
    exact notold b o e
  -- without it
  have hg : ∀ {h : Heap} {b : Addr} {o : Obj}, (PySem.W.hideAll h [ce.locals]).get? b = some o → h.get? b = some o ∧ b ≠ ce.locals := fun {h b o} e => ⟨PySem.W.of_hideAll _ e, fun z => by
    rw [PySem.W.hideAll_none [ce.locals] (by rw [z]; exact List.mem_singleton.mpr rfl)] at e
    cases e⟩
  have hk : ∀ {h : Heap} {b : Addr} {o : Obj}, h.get? b = some o → b ≠ ce.locals → (PySem.W.hideAll h [ce.locals]).get? b = some o := fun e n => PySem.W.hideAll_get _ e fun z => n (List.mem_singleton.mp z)
  have bI := I.base
  have J : Inv X pins σ H { sI with heap := PySem.W.hideAll sI.heap [ce.locals] } := by
    refine I3.call' (ch := fp) I.os ⟨fun b o e n hb hc => ?_, fun b o e n hb hc => ?_, fun b o e n hc => bI.free b o e n hc, fun b o e hc => ?_, bI.tups, bI.frzs, bI.tbls⟩ ?_ I.bare fun b hb => ⟨(f3 b hb).1.2.2.2.1, (f3 b hb).1.2.1, (f3 b hb).1.2.2.2.2.1, (f3 b hb).1.2.2.2.2.2⟩
    · exact hk (bI.keep b o e n hb hc) (notold b o e)
    · obtain ⟨sl, q⟩ := bI.slot b o e n hb hc
      exact ⟨sl, hk q (notold b o e)⟩
    · obtain ⟨o', q⟩ := bI.there b o e hc
      exact ⟨o', hk q (notold b o e)⟩
    · intro b o e
      refine (I.hok b o e).stay (fun c v hc q => hk q fun z => ?_) (fun _ q => q) fun _ _ q => q
      subst z
      rcases hc with z | z
      · rw [z] at HC; rw [HC] at e; cases e
      · rw [HC] at z; cases z
  have fin : ∀ h1, HandSPX.HeldZ B (E0 :: out) a (Zc cls d) L h1 → s'.heap.UpToSlots h1 → blkEnd (model X.prog X.w) X.A X.xe use Q acc ce (.error (.ref a)) { s' with heap := h1 } := fun h1 ⟨g1, g2, g3, oe, vs, T, oT, ts, e1, e2, e3, e4, e5, e6, e7, e8, e9⟩ up1 => by
    have ns1 : h1.Ns ce.locals m := up1.ns (up.ns nsI)
    refine ⟨m, ns1, fun h2 sb => ?_⟩
    have isn : ∀ {b : Addr} {o : Obj} {vs : Array Value}, h1.get? b = some o → o.data = .fields vs → h2.get? b = some o := fun {b o vs} e dd => by
      rw [sb.2 b fun z => ?_]
      · exact e
      · obtain ⟨oC, _, _, k1, k2, _⟩ := ns1
        rw [← z, e] at k1
        cases k1
        rw [dd] at k2
        cases k2
    have t2 : HandSPX.TracedZ h2 (PySem.W.hideAll B [ce.locals]) a (Zc cls d) (rawInt L) := by
      refine ⟨oe, vs, T, oT, ts, isn e1 e3, e2, e3, e4, ?_, e6, isn e7 e8, e8, e9⟩
      cases q : (PySem.W.hideAll B [ce.locals]).get? T with
      | none => rfl
      | some o => rw [(hg q).1] at e5; cases e5
    have s2 : (PySem.W.hideAll B [ce.locals]).StaysIn h2 := fun b o e => by
      rw [sb.2 b (hg e).2]
      exact g1 b o (hg e).1
    have none_ : ∀ b, B.get? b = none → (PySem.W.hideAll B [ce.locals]).get? b = none := fun b e => by
      cases q : (PySem.W.hideAll B [ce.locals]).get? b with
      | none => rfl
      | some o => rw [(hg q).1] at e; cases e
    have fr2 : h2.FunFrames (PySem.W.hideAll B [ce.locals]) (E0 :: out) := frames_at g3 (fun b hb => sb.2 b (frne b hb)) none_
    rw [passOn_at eF]
    unfold PySem.passOn
    refine wpAny_bind (wpAny_field (isn e1 e3) e3 e4 ?_)
    rw [if_neg (by simp)]
    have last : wpAny (model X.prog X.w) X.A (setFlight (.ref a) E0.frame) (fun _ s4 => wpAny (model X.prog X.w) X.A (throw (.ref a) : Sem Value) (fun _ _ => False) X.xe s4) X.xe { s' with heap := h2 } := by
      rw [hf0]
      refine HandSPX.setFlight_anyZ (s := { s' with heap := h2 }) (fr := some L) s2 fr2 t2 fun h4 k1 k2 k3 k4 => wpAny_throw (tkc _ _ ?_)
      refine ⟨a, PySem.W.hideAll B [ce.locals], _, pins, σ, H, cls, d, rfl, J, fun b o e hb => hk (nb b o (hg e).1 hb) (hg e).2, fun b o e hn => ?_, by rw [hst]; exact ⟨k1, none_ a g2, k2, k3⟩, na, os, ag, w⟩
      obtain ⟨sl, q1⟩ := up b o (hg e).1 hn
      obtain ⟨sl2, q2⟩ := up1 b _ q1 hn
      have q3 : h2.get? b = _ := (sb.2 b (hg e).2).trans q2
      obtain ⟨sl3, q4⟩ := k4 b _ q3 hn
      exact ⟨sl3, q4⟩
    first
      | exact wpAny_bind (wpAny_pure (wpAny_bind last))
      | exact wpAny_bind last
  show wpAny (model X.prog X.w) X.A (noteFrame (.ref a) ce) _ _ s'
  rw [noteFrame_at eF]
  rcases b4 with ⟨oe, vs, he, hz, hd, h1⟩ | ⟨fl, tr⟩
  · exact HandSPX.look_newZ Zc.steady hfr b3 hf0 he b1 b2 hd h1 hz fin
  · exact look_any Zc.steady hfr hf0 b1 b2 b3 tr fin
end
end Fw
namespace Fw
open PySem PySem.Spec PyProof.Rows L2
/-! ### [elt for target in iter if ..] whose parts may raise -/
section
variable {X : Cx} {W : WX}
def tLcX (wi : TI) (g : TG) (tt : L2.St → TT) (te : L2.St → TE) (vs : List Nat) : TE := fun σ H Q => tLc wi g (tt σ) (te σ) vs σ H Q
def wAt (W : WX) (σ : L2.St) : WX := fun c d _ H => W c d σ H
theorem lc_letting {pins : List (Addr × Obj)} {s : Shared} {σ : L2.St} {H : Hp} {Q : VK} {elt tg iter : Expr} {ifs : List Expr} {scope : Scope} {own : List (Str × Nat)} {pos pos' : Pos} {wi : TI} {g : TG} {tt : TT} {te : TE} {use : Option (Value → Sem Unit)} {Qf : Value → Shared → Prop}
    (hc : X.calm = true) (hN : X.N.Nodup) (tc : TakesC X W) (I : Inv X pins σ H s) (hi : PI X tg iter wi) (ok : BlkOk X.N X.env.scope scope own)
    (hg : ∀ (s : Shared) (H : Hp) (C : Addr) (cl : List (Str × Addr)) (fp : List Addr) (xe : Value → Shared → Prop), PG (X.blkX s H scope (compEnvC scope cl C X.env) fp xe) tg g)
    (ht : ∀ (s : Shared) (H : Hp) (C : Addr) (cl : List (Str × Addr)) (fp : List Addr) (xe : Value → Shared → Prop), Takes (X.blkX s H scope (compEnvC scope cl C X.env) fp xe) (wAt W σ) → TakesC (X.blkX s H scope (compEnvC scope cl C X.env) fp xe) (wAt W σ) → PTs (X.blkX s H scope (compEnvC scope cl C X.env) fp xe) ifs tt)
    (he : ∀ (s : Shared) (H : Hp) (C : Addr) (cl : List (Str × Addr)) (fp : List Addr) (xe : Value → Shared → Prop), Takes (X.blkX s H scope (compEnvC scope cl C X.env) fp xe) (wAt W σ) → TakesC (X.blkX s H scope (compEnvC scope cl C X.env) fp xe) (wAt W σ) → PE (X.blkX s H scope (compEnvC scope cl C X.env) fp xe) elt te)
    (hs : ∀ x, foldedSetIterable iter X.env x = pure x) (h : tLc wi g tt te (own.map (·.2)) σ H Q)
    (last : ∀ D C s' m H', Inv X pins σ H' s' → Q (.ref D) H' → s'.heap.Ns C m → FpOk X pins H' C → compPost (model X.prog X.w) X.A X.xe use Qf (.ref D) C (.ok .next) s') :
    wpAny (model X.prog X.w) X.A (comprehension (.ListComp elt [⟨tg, iter, ifs, 0⟩] scope pos) scope X.env pos' (newList []) false (eval iter X.env) use) Qf X.xe s := by
  have free : ∀ y ∈ scope.names, y.2 = .free → ∃ c, X.env.cells.lookup y.1 = some c := fun y hy e => (ok.free y hy e).elim (fun k => I.ok.has _ (.inl k)) fun k => I.ok.has _ (.inr k)
  refine comp_letting (use := use) rfl hs (closure_ok free) ok.kind (fun y hy e => by rw [ok.uniq y hy, e]) (thn (hi.run pins s σ H _ I h) fun xv s1 h1 => thn h1 fun itv s2 h2 => ?_)
  obtain ⟨it, fp, tn, J, H2, rfl, I2, T, st2, f2, q⟩ := h2
  refine wpAny_newObj_type (newEnv_comp ?_) (by show 0 ≤ sizeLine; decide)
  obtain ⟨D, hD⟩ : ∃ D, D = s2.heap.objs.size := ⟨_, rfl⟩
  rw [← hD]
  obtain ⟨Wt, ⟨m0, w0⟩, turn⟩ := q D (I2.hok.fresh (Nat.le_of_eq hD.symm))
  -- the new list
  obtain ⟨s3, hs3⟩ : ∃ t : Shared, t = { s2 with heap := s2.heap.push { cls := .type "list", data := .seq ([] : List Value).toArray } } := ⟨_, rfl⟩
  obtain ⟨H3, hH3⟩ : ∃ K : Hp, K = upd H2 D (.lst []) := ⟨_, rfl⟩
  rw [← hH3] at w0
  rw [← hs3]
  have hp3 : s3.heap = s2.heap.push { cls := .type "list", data := .seq ([] : List Value).toArray } := by rw [hs3]
  have I3 : Inv X pins σ H3 s3 := by
    rw [hs3, hH3]
    exact I2.laid (t' := s2.toks) (fun b o e => Heap.get?_push_of_some _ e) (Nat.le_of_eq hD.symm) ⟨Nat.zero_le _, [], 0, .nil, by rw [hD]; exact Heap.get?_push_size _ rfl⟩
  have lt : ∀ b ∈ fp, b < s2.heap.objs.size := fun b hb => by
    obtain ⟨o, e, _⟩ := T.obj _ _ st2 b hb
    exact Heap.lt_size e
  have f3 : ∀ b ∈ fp, FpOk X pins H3 b ∧ b < s3.heap.objs.size := fun b hb => by
    have hl := lt b hb
    refine ⟨⟨?_, (f2 b hb).2⟩, by rw [hp3, Heap.size_push]; exact Nat.lt_succ_of_lt hl⟩
    rw [hH3, upd_ne (by rw [hD]; exact Nat.ne_of_lt hl)]
    exact (f2 b hb).1
  have st3 : tn 0 s3.heap := T.keep _ _ _ st2 fun b _ o e => by rw [hp3]; exact Heap.get?_push_of_some _ e
  -- the block's context
  have I4 := block_start I3 ok hN f3
  obtain ⟨ce, hce⟩ : ∃ e, e = compEnvC scope (cellsFrom (s3.heap.objs.size + 1) scope.names (cloFrom X.env.cells scope.names [])) s3.heap.objs.size X.env := ⟨_, rfl⟩
  obtain ⟨s4, hs4⟩ : ∃ t : Shared, t = { s3 with heap := pushCells (s3.heap.push { cls := .type "dict", data := .dict #[] }) scope.names } := ⟨_, rfl⟩
  rw [← hce] at I4
  rw [← hs4] at I4
  have cL : ce.locals = s3.heap.objs.size := by rw [hce]; rfl
  have cF : ce.frame = X.env.frame := by rw [hce]; rfl
  obtain ⟨xe, hxe⟩ : ∃ z, z = Air (X.blk s3 H3 scope ce fp) (fun cls d H => W cls d σ H) := ⟨_, rfl⟩
  have I4 : Inv (X.blkX s3 H3 scope ce fp xe) [] (wipe σ (own.map (·.2))) H3 s4 := I4.wish xe
  have tk : Takes (X.blkX s3 H3 scope ce fp xe) (wAt W σ) := fun u s' x => by
    show xe u s'
    rw [hxe]
    exact Air.of_XE x
  have tk2 : TakesC (X.blkX s3 H3 scope ce fp xe) (wAt W σ) := by
    obtain ⟨E0, out, L, k1, k2, k3, _⟩ := tc.ex
    refine ⟨E0, out, L, k1, k2, cF.trans k3, fun u s' x => ?_⟩
    show xe u s'
    rw [hxe]
    exact Air.of_XEH x
  have pg := hg s3 H3 s3.heap.objs.size (cellsFrom (s3.heap.objs.size + 1) scope.names (cloFrom X.env.cells scope.names [])) fp xe
  have pt := ht s3 H3 s3.heap.objs.size (cellsFrom (s3.heap.objs.size + 1) scope.names (cloFrom X.env.cells scope.names [])) fp xe
  have pe := he s3 H3 s3.heap.objs.size (cellsFrom (s3.heap.objs.size + 1) scope.names (cloFrom X.env.cells scope.names [])) fp xe
  rw [← hce] at pg pt pe
  have pt := pt tk tk2
  have pe := pe tk tk2
  have goal : codeAny (model X.prog X.w) X.A (.compStart (.ListComp elt [⟨tg, iter, ifs, 0⟩] scope pos) 0 (.ref it) (.ref D) ce) (blkEnd (model X.prog X.w) X.A X.xe use Qf (.ref D) ce) s4 := by
    have st4 : tn 0 s4.heap := T.keep _ _ _ st3 fun b _ o e => by rw [hs4]; exact pushCells_keeps _ _ _ _ (Heap.get?_push_of_some _ e)
    have stat : ∀ {σ' : L2.St} {H' : Hp} {s' : Shared}, Inv (X.blkX s3 H3 scope ce fp xe) [] σ' H' s' → (∀ b ∈ fp, H' b = none) → ∀ b ∈ fp, FpOk (X.blkX s3 H3 scope ce fp xe) [] H' b := fun {σ' H' s'} I' hn b hb =>
      ⟨hn b hb, (I'.ok.exf b hb).1, I'.ok.exfs b hb, .inl hb, fun x c e => (I'.ok.exf b hb).2 x c e, fun p hp => absurd (show p ∈ ([] : List (Addr × Obj)) ++ [] from hp) (by simp)⟩
    have out_ : ∀ u s', xe u s' → notedBy (model X.prog X.w) X.A ce (fun e s'' => blkEnd (model X.prog X.w) X.A X.xe use Qf (.ref D) ce (.error e) s'') u s' := fun u s' x => Air.leave tc I3 f3 cL cF (hxe ▸ x)
    have thnX : ∀ {α : Type} {t : Sem α} {P P' : α → Shared → Prop} {s : Shared}, wpAny (model X.prog X.w) X.A t P xe s → (∀ a s, P a s → P' a s) → wpAny (model X.prog X.w) X.A t P' (notedBy (model X.prog X.w) X.A ce (fun e s'' => blkEnd (model X.prog X.w) X.A X.xe use Qf (.ref D) ce (.error e) s'')) s :=
      fun h q => wpAny_mono h q out_
    have loop : codeAny (model X.prog X.w) X.A (.compLoop (.ListComp elt [⟨tg, iter, ifs, 0⟩] scope pos) 0 (.ref it) (.ref D) ce) (blkEnd (model X.prog X.w) X.A X.xe use Qf (.ref D) ce) s4 := by
      refine compLoop_any (fun n s' => ∃ i H', Inv (X.blkX s3 H3 scope ce fp xe) [] (wipe σ (own.map (·.2))) H' s' ∧ tn i s'.heap ∧ (∀ b ∈ fp, H' b = none) ∧ Wt i n H') ?_ m0 ⟨0, H3, I4, st4, fun b hb => (f3 b hb).1.1, w0⟩
      rintro n s5 ⟨i, H5, I5, st5, n5, w5⟩
      rcases turn i n H5 w5 with ⟨stop, qq⟩ | ⟨go, Nx, hNx, step⟩
      · refine thnF (T.done (X.blkX s3 H3 scope ce fp xe) rfl rfl rfl hc i [] s5 _ H5 (fun _ _ => False) I5 (stat I5 n5) st5 stop) fun r s6 ⟨hr, I6⟩ => ?_
        subst hr
        have I7 : Inv X pins σ H5 s6 := I3.call' (ch := fp) I6.os I6.base I6.hok I6.bare fun b hb => ⟨(f3 b hb).1.2.2.2.1, (f3 b hb).1.2.1, (f3 b hb).1.2.2.2.2.1, (f3 b hb).1.2.2.2.2.2⟩
        have nC : H5 ce.locals = none := I6.free
        obtain ⟨m, hn, _⟩ := I6.loc
        have hn : s6.heap.Ns ce.locals m := hn
        show compPost (model X.prog X.w) X.A X.xe use Qf (.ref D) ce.locals (.ok .next) s6
        refine last D ce.locals s6 m H5 I7 qq hn ?_
        rw [cL] at nC ⊢
        exact I3.fpOk (Nat.le_refl _) nC
      · refine thnF (T.item (X.blkX s3 H3 scope ce fp xe) rfl rfl rfl hc i [] s5 _ H5 (fun _ _ => False) I5 (stat I5 n5) st5 go) fun r s6 ⟨u, hr, h6⟩ => ?_
        subst hr
        refine thnF h6 fun _ s7 ⟨x, H7, I7, r7, y7, st7, n7⟩ => ?_
        refine thnX (pg.run _ s7 _ H7 x u _ (I7.pinned (stat I7 n7) (T.obj _ _ st7)) r7 (step x H7 y7)) fun _ s8 ⟨σ8, H8, I8, hw8, q8⟩ => ?_
        refine thnX (pt.run _ s8 σ8 H8 _ I8 q8) fun b s9 ⟨H9, I9, q9⟩ => ?_
        have fin : ∀ {s' : Shared} {H' : Hp}, Inv (X.blkX s3 H3 scope ce fp xe) ([] ++ pinsAt fp s7.heap) σ8 H' s' → Nx H' → ∃ m, m < n ∧ ∃ i H', Inv (X.blkX s3 H3 scope ce fp xe) [] (wipe σ (own.map (·.2))) H' s' ∧ tn i s'.heap ∧ (∀ b ∈ fp, H' b = none) ∧ Wt i m H' := fun {s' H'} I' nx => by
          obtain ⟨m', hm, w'⟩ := hNx H' nx
          have pin' : ∀ b ∈ fp, ∀ o, s7.heap.get? b = some o → s'.heap.get? b = some o ∧ H' b = none := fun b hb o e =>
            ⟨(I'.pin (b, o) (List.mem_append_right _ (List.mem_append_right _ (mem_pinsAt hb e)))).1, (I'.pin (b, o) (List.mem_append_right _ (List.mem_append_right _ (mem_pinsAt hb e)))).2.1⟩
          refine ⟨m', hm, i + 1, H', (I'.unpinned (pins := [])).weak (by rw [← hw8, wipe_length]) (fun j v e => ?_), T.keep _ _ _ st7 fun b hb o e => (pin' b hb o e).1, fun b hb => ?_, w'⟩
          · rw [← hw8] at e
            exact (wipe_some e).1
          · obtain ⟨o, e, _⟩ := T.obj _ _ st7 b hb
            exact (pin' b hb o e).2
        cases b with
        | false =>
          simp only [Bool.false_eq_true, if_false] at q9 ⊢
          exact fin I9 q9
        | true =>
          simp only [if_true] at q9 ⊢
          refine thnX (pe.run _ s9 σ8 H9 _ I9 q9) fun z s10 ⟨yv, H10, I10, r10, acc, hD10, hz10, nx⟩ => ?_
          exact app_ok (X := X.blkX s3 H3 scope ce fp xe) I10 hD10 hz10 r10 fun s11 I11 => fin I11 nx
    exact codeAny_compStart_list loop (T.self X.A 0 _ _ _ st4 loop)
  rw [hce, hs4] at goal
  exact goal
/-- .. as a value -/
theorem pe_lcX {elt tg iter : Expr} {ifs : List Expr} {scope : Scope} {own : List (Str × Nat)} {pos : Pos} {wi : TI} {g : TG} {tt : L2.St → TT} {te : L2.St → TE} (hc : X.calm = true) (hN : X.N.Nodup) (tc : TakesC X W) (hi : PI X tg iter wi) (ok : BlkOk X.N X.env.scope scope own)
    (hg : ∀ (s : Shared) (H : Hp) (C : Addr) (cl : List (Str × Addr)) (fp : List Addr) (xe : Value → Shared → Prop), PG (X.blkX s H scope (compEnvC scope cl C X.env) fp xe) tg g)
    (ht : ∀ (σ : L2.St) (s : Shared) (H : Hp) (C : Addr) (cl : List (Str × Addr)) (fp : List Addr) (xe : Value → Shared → Prop), Takes (X.blkX s H scope (compEnvC scope cl C X.env) fp xe) (wAt W σ) → TakesC (X.blkX s H scope (compEnvC scope cl C X.env) fp xe) (wAt W σ) → PTs (X.blkX s H scope (compEnvC scope cl C X.env) fp xe) ifs (tt σ))
    (he : ∀ (σ : L2.St) (s : Shared) (H : Hp) (C : Addr) (cl : List (Str × Addr)) (fp : List Addr) (xe : Value → Shared → Prop), Takes (X.blkX s H scope (compEnvC scope cl C X.env) fp xe) (wAt W σ) → TakesC (X.blkX s H scope (compEnvC scope cl C X.env) fp xe) (wAt W σ) → PE (X.blkX s H scope (compEnvC scope cl C X.env) fp xe) elt (te σ))
    (hs : ∀ x, foldedSetIterable iter X.env x = pure x := by intro _; rfl) :
    PE X (.ListComp elt [⟨tg, iter, ifs, 0⟩] scope pos) (tLcX wi g tt te (own.map (·.2))) := by
  refine ⟨fun pins s σ H Q I h => ?_⟩
  rw [eval_ListComp]
  refine lc_letting hc hN tc I hi ok hg (ht σ) (he σ) hs h fun D C s' m H' I' q hn f => ⟨m, hn, fun h'' sb => ?_⟩
  exact ⟨.ref D, H', I'.turned (t' := s'.toks) (fun b o hb e => (sb.2 b hb).trans e) f.1 f.2.1 f.2.2.2.1 f.2.2.2.2.1 f.2.2.2.2.2, rfl, q⟩
end
end Fw
namespace Fw
open PySem PySem.Spec PyProof.Rows L2
def lcLX (is : List Nat) (t : Tg) (c : M Bool) (e : M D) : List D → List D → M (List D)
  | [], acc, s => .ok acc { s with env := wipeE s.env is }
  | d :: ds, acc, s => match t d { s with env := wipeE s.env is } with
    | none => .stuck
    | some s1 => match c s1 with
      | .ok true s2 => (match e s2 with
        | .ok y s3 => if acc.length < sizeLine then lcLX is t c e ds (acc ++ [y]) s3 else .stuck
        | .ex x s3 => .ex x s3
        | .stuck => .stuck)
      | .ok false s2 => lcLX is t c e ds acc s2
      | .ex x s2 => .ex x s2
      | .stuck => .stuck
/-- behind the block -/
def lcEnd (is : List Nat) (env0 : List Slot) : Out (List D) → Out Ob
  | .ok ys s1 => (match backE env0 is s1.env with
    | some env => .ok (.lst ys) { s1 with env := env }
    | none => .stuck)
  | .ex x s1 => (match backE env0 is (wipeE s1.env is) with
    | some env => .ex x { s1 with env := env }
    | none => .stuck)
  | .stuck => .stuck
def fLcX (is : List Nat) (it : M (List D)) (t : Tg) (c : M Bool) (e : M D) : M Ob := fun s => (it s).bnd fun ds s0 => lcEnd is s0.env (lcLX is t c e ds [] s0)
section
variable {X : Cx} {W : WX} {elt tg iter : Expr} {ifs : List Expr} {scope : Scope} {own : List (Str × Nat)} {pos : Pos}
theorem lc_readX {wi : TI} {gt : TG} {tt : L2.St → TT} {te : L2.St → TE} {f : M (List D)} {t : Tg} {c : M Bool} {e : M D} {is : List Nat}
    (i2 : ∀ g I F s σ H R, Sim X.K g I F s σ H → PoI X W g σ (f s) R → wi σ H R)
    (g2 : ∀ g I F s s' σ H (v : V) d Q, Sim X.K g I F s σ H → Rep X.K I F v d → t d s = some s' → (∀ I' F' σ' H', Sim X.K g I' F' s' σ' H' → wipe σ' is = wipe σ is → Q σ' H') → gt v σ H Q)
    (c2 : ∀ σ0 g I F s σ H Q, Sim X.K g I F s σ H → PoT X (wAt W σ0) g σ (c s) Q → tt σ0 σ H Q)
    (e2 : ∀ σ0 g I F s σ H Q, Sim X.K g I F s σ H → PoE X (wAt W σ0) g σ (e s) Q → te σ0 σ H Q)
    {g : Gh} {I : List Addr} {F H : Hp} {s : S} {σ : L2.St} {Q : VK} (x : Sim X.K g I F s σ H) (hq : PoF X W g σ (fLcX is f t c e s) Q) : tLcX wi gt tt te is σ H Q := by
  refine i2 g I F s σ H _ x ?_
  unfold fLcX at hq
  cases e1 : f s with
  | stuck => rw [e1] at hq; exact hq
  | ex c s1 => rw [e1] at hq; exact hq
  | ok ds s0 =>
    rw [e1, bnd_ok] at hq
    intro I0 F0 H0 J x0 wk Dp hD
    have gD : g.B Dp = none := by
      cases q : g.B Dp with
      | none => rfl
      | some u => rw [(x0.base Dp u q).2] at hD; cases hD
    -- out of the block by an exception
    have out_ : ∀ {vs : List V} {I1 : List Addr} {F1 : Hp} {s1 : S} {σ1 : L2.St} {H1 : Hp} {cc : Str} {s5 : S}, Sim X.K ((g.at I0 F0).with_ Dp (.lst vs)) I1 F1 s1 σ1 H1 → wipe σ1 is = wipe σ is → PoF X W g σ (lcEnd is s0.env (.ex cc s1)) Q →
        ∀ u, X.mg cc = some u → wAt W σ u none σ1 H1 := fun {vs I1 F1 s1 σ1 H1 cc s5} y hw hq u hu => by
      unfold lcEnd at hq
      cases e3 : backE s0.env is (wipeE s1.env is) with
      | none => simp only [e3] at hq; exact hq.elim
      | some env =>
        simp only [e3] at hq
        have y2 := y.wiped is
        rw [hw] at y2
        obtain ⟨Hm, h1, h2, h3⟩ := y2.unguard (g := g.at I0 F0) gD
        have h4 := x0.backed h3 is env e3
        rw [backS_wipe] at h4
        rw [h2]
        exact hq _ _ _ u ((x0.back h4).fresh h1) hu
    refine ⟨fun i m H => m = ds.length - i ∧ i ≤ ds.length ∧ ∃ I F s vs acc, Sim X.K ((g.at I0 F0).with_ Dp (.lst vs)) I F { s with env := wipeE s.env is } (wipe σ is) H ∧ RepL X.K I F vs acc ∧
      PoF X W g σ (lcEnd is s0.env (lcLX is t c e (ds.drop i) acc s)) Q, ⟨ds.length, by simp, Nat.zero_le _, I0, F0, s0, [], [], (x0.here.guard hD).wiped is, .nil, by simpa using hq⟩, ?_⟩
    rintro i m H1 ⟨rfl, hi, I1, F1, s1, vs, acc, x1, ra, q1⟩
    by_cases hlt : i < ds.length
    · refine .inr ⟨wk.go i _ _ _ _ _ _ x1 x1.mono x1.pre hlt, fun H' => ∃ I F s vs acc, Sim X.K ((g.at I0 F0).with_ Dp (.lst vs)) I F { s with env := wipeE s.env is } (wipe σ is) H' ∧ RepL X.K I F vs acc ∧
        PoF X W g σ (lcEnd is s0.env (lcLX is t c e (ds.drop (i + 1)) acc s)) Q, fun H' n' => ⟨ds.length - (i + 1), by omega, rfl, hlt, n'⟩, fun y H' hy => ?_⟩
      obtain ⟨F2, x2, r2⟩ := wk.yld i _ _ _ _ _ _ y H' _ x1 x1.mono x1.pre hy (List.getElem?_eq_getElem hlt)
      have ra2 := ra.later x2
      have x2 := x1.back x2
      rw [List.drop_eq_getElem_cons hlt] at q1
      have q1' : PoF X W g σ (lcEnd is s0.env (match t ds[i] { s1 with env := wipeE s1.env is } with
        | none => .stuck
        | some s1 => match c s1 with
          | .ok true s2 => (match e s2 with
            | .ok y s3 => if acc.length < sizeLine then lcLX is t c e (ds.drop (i + 1)) (acc ++ [y]) s3 else .stuck
            | .ex x s3 => .ex x s3
            | .stuck => .stuck)
          | .ok false s2 => lcLX is t c e (ds.drop (i + 1)) acc s2
          | .ex x s2 => .ex x s2
          | .stuck => .stuck)) Q := q1
      cases h1 : t ds[i] { s1 with env := wipeE s1.env is } with
      | none => simp only [h1] at q1'; exact q1'.elim
      | some s3 =>
        simp only [h1] at q1'
        refine g2 (((g.at I0 F0).with_ Dp (.lst vs)).at I1 F2) I1 F2 { s1 with env := wipeE s1.env is } s3 (wipe σ is) H' y _ _ x2.here r2 h1 fun I3 F3 σ3 H3 x3 w3 => ⟨by rw [w3, wipe_wipe], ?_⟩
        rw [wipe_wipe] at w3
        have ra3 := ra2.later x3
        have x3 := x2.back x3
        refine c2 σ (((g.at I0 F0).with_ Dp (.lst vs)).at I3 F3) I3 F3 s3 σ3 H3 _ x3.here ?_
        cases h2 : c s3 with
        | stuck => simp only [h2] at q1'; exact q1'.elim
        | ex cc s4 =>
          simp only [h2] at q1'
          exact fun I4 F4 H4 u x4 hu => out_ (s5 := s4) (x3.back x4) w3 q1' u hu
        | ok bb s4 =>
          intro I4 F4 H4 x4
          have ra4 := ra3.later x4
          have x4 := x3.back x4
          cases bb with
          | false =>
            simp only [h2] at q1'
            rw [if_neg Bool.false_ne_true]
            refine ⟨I4, F4, s4, vs, acc, ?_, ra4, q1'⟩
            have := x4.wiped is
            rw [w3] at this
            exact this
          | true =>
            simp only [h2] at q1'
            rw [if_pos rfl]
            refine e2 σ (((g.at I0 F0).with_ Dp (.lst vs)).at I4 F4) I4 F4 s4 σ3 H4 _ x4.here ?_
            cases h5 : e s4 with
            | stuck => simp only [h5] at q1'; exact q1'.elim
            | ex cc s5 =>
              simp only [h5] at q1'
              exact fun I5 F5 H5 u x5 hu => out_ (s5 := s5) (x4.back x5) w3 q1' u hu
            | ok yy s5 =>
              simp only [h5] at q1'
              intro v5 I5 F5 H5 x5 r5
              have ra5 := ra4.later x5
              have x5 := x4.back x5
              by_cases hl : acc.length < sizeLine
              · simp only [hl, if_true] at q1'
                refine ⟨vs, x5.guarded.2, by rw [ra5.length]; exact hl, I5, F5, s5, vs ++ [v5], acc ++ [yy], ?_, ra5.snoc r5, q1'⟩
                have := (x5.reguard (o' := .lst (vs ++ [v5]))).wiped is
                rw [w3] at this
                exact this
              · simp only [hl, if_false] at q1'
                exact q1'.elim
    · have e : i = ds.length := by omega
      subst e
      rw [List.drop_length] at q1
      refine .inl ⟨wk.stop _ _ _ _ _ _ x1 x1.mono x1.pre, ?_⟩
      unfold lcLX lcEnd at q1
      cases e3 : backE s0.env is (wipeE s1.env is) with
      | none => simp only [e3] at q1; exact q1.elim
      | some env =>
        simp only [e3] at q1
        obtain ⟨Hm, h1, h2, h3⟩ := x1.unguard (g := g.at I0 F0) gD
        have h4 := x0.backed h3 is env e3
        rw [backS_wipe] at h4
        rw [h2]
        exact q1 I1 F1 Hm Dp (.lst vs) (x0.back h4) h1 (.lst ra)
theorem sf_lcX {f : M (List D)} {t : Tg} {c : M Bool} {e : M D} (hc : X.calm = true) (hN : X.N.Nodup) (tc : TakesC X W) (hi : SI X W tg iter f) (ok : BlkOk X.N X.env.scope scope own)
    (hg : ∀ (s : Shared) (H : Hp) (C : Addr) (cl : List (Str × Addr)) (fp : List Addr) (xe : Value → Shared → Prop), SG (X.blkX s H scope (compEnvC scope cl C X.env) fp xe) (own.map (·.2)) tg t)
    (ht : ∀ (V : WX) (s : Shared) (H : Hp) (C : Addr) (cl : List (Str × Addr)) (fp : List Addr) (xe : Value → Shared → Prop), Takes (X.blkX s H scope (compEnvC scope cl C X.env) fp xe) V → TakesC (X.blkX s H scope (compEnvC scope cl C X.env) fp xe) V → STs (X.blkX s H scope (compEnvC scope cl C X.env) fp xe) V ifs c)
    (he : ∀ (V : WX) (s : Shared) (H : Hp) (C : Addr) (cl : List (Str × Addr)) (fp : List Addr) (xe : Value → Shared → Prop), Takes (X.blkX s H scope (compEnvC scope cl C X.env) fp xe) V → TakesC (X.blkX s H scope (compEnvC scope cl C X.env) fp xe) V → SE (X.blkX s H scope (compEnvC scope cl C X.env) fp xe) V elt e)
    (hs : ∀ x, foldedSetIterable iter X.env x = pure x := by intro _; rfl) : SF X W (.ListComp elt [⟨tg, iter, ifs, 0⟩] scope pos) (fLcX (own.map (·.2)) f t c e) := by
  obtain ⟨wi, i1, i2⟩ := hi
  refine ⟨tLcX wi (tcG X (own.map (·.2)) t) (fun σ => tcT X (wAt W σ) c) (fun σ => tcE X (wAt W σ) e) (own.map (·.2)), pe_lcX hc hN tc i1 ok (fun s H C cl fp xe => (hg s H C cl fp xe).can) (fun σ s H C cl fp xe a b => (ht _ s H C cl fp xe a b).can) (fun σ s H C cl fp xe a b => (he _ s H C cl fp xe a b).can) hs, fun g I F s σ H Q x hq => ?_⟩
  exact lc_readX i2 (fun g I F s s' σ H v d Q x r e q => ⟨g, I, F, s, s', d, x, r, e, q⟩) (fun _ g I F s σ H Q x q => ⟨g, I, F, s, x, q⟩) (fun _ g I F s σ H Q x q => ⟨g, I, F, s, x, q⟩) x hq
end
/-! ### running -/
theorem lcLX_ok {is : List Nat} {t : Tg} {c : M Bool} {e : M D} : ∀ (ds acc : List D) (s : S) {ys : List D} {s' : S}, lcL is t c e ds acc s = .ok ys s' → lcLX is t c e ds acc s = .ok ys s'
  | [], _, _, _, _, h => h
  | d :: ds, acc, s, ys, s', h => by
    unfold lcL at h
    unfold lcLX
    cases h1 : t d { s with env := wipeE s.env is } with
    | none => simp only [h1] at h; cases h
    | some s1 =>
      simp only [h1] at h ⊢
      cases h2 : c s1 with
      | stuck => simp only [h2] at h; cases h
      | ex x s2 => simp only [h2] at h; cases h
      | ok b s2 =>
        cases b with
        | false =>
          simp only [h2] at h ⊢
          exact lcLX_ok ds acc s2 h
        | true =>
          simp only [h2] at h ⊢
          cases h3 : e s2 with
          | stuck => simp only [h3] at h; cases h
          | ex x s3 => simp only [h3] at h; cases h
          | ok y s3 =>
            simp only [h3] at h ⊢
            by_cases hl : acc.length < sizeLine
            · simp only [hl, if_true] at h ⊢
              exact lcLX_ok ds _ s3 h
            · simp only [hl, if_false] at h
              cases h
theorem fLcX_ok {is : List Nat} {it : M (List D)} {t : Tg} {c : M Bool} {e : M D} {s : S} {b : Ob} {s' : S} (h : fLc is it t c e s = .ok b s') : fLcX is it t c e s = .ok b s' := by
  unfold fLc at h
  unfold fLcX
  cases e1 : it s with
  | stuck => rw [e1] at h; cases h
  | ex x s1 => rw [e1] at h; cases h
  | ok ds s0 =>
    rw [e1, bnd_ok] at h
    rw [bnd_ok]
    cases e2 : lcL is t c e ds [] s0 with
    | stuck => rw [e2] at h; cases h
    | ex x s1 => rw [e2] at h; cases h
    | ok ys s1 =>
      rw [e2, bnd_ok] at h
      rw [lcLX_ok ds [] s0 e2]
      exact h
def mapO {α β : Type} (f : α → Option β) : List α → Option (List β)
  | [] => some []
  | x :: xs => match f x with
    | none => none
    | some y => (match mapO f xs with
      | none => none
      | some ys => some (y :: ys))
theorem lcLX_map {is : List Nat} {t : Tg} {e : M D} {β : Type} (enc : β → D) (f : β → Option D) (k : Str) (env : List Slot) (st : List Ob) (en1 : β → List Slot) (h1 : ∀ x, wipeE (en1 x) is = env) : ∀ (xs : List β) (acc : List D) (en : List Slot), wipeE en is = env → acc.length + xs.length ≤ 1000000 →
    (∀ x ∈ xs, t (enc x) ⟨env, st⟩ = some ⟨en1 x, st⟩) → (∀ x ∈ xs, e ⟨en1 x, st⟩ = match f x with
      | some y => .ok y ⟨en1 x, st⟩
      | none => .ex k ⟨en1 x, st⟩) →
    match mapO f xs with
    | some ys => lcLX is t tYesM e (xs.map enc) acc ⟨en, st⟩ = .ok (acc ++ ys) ⟨env, st⟩
    | none => ∃ en', lcLX is t tYesM e (xs.map enc) acc ⟨en, st⟩ = .ex k ⟨en', st⟩ ∧ wipeE en' is = env
  | [], acc, en, hw, _, _, _ => by
    show lcLX is t tYesM e [] acc ⟨en, st⟩ = _
    rw [List.append_nil, lcLX, hw]
  | x :: xs, acc, en, hw, hl, ht, he => by
    rw [List.length_cons] at hl
    have ih := fun y => lcLX_map enc f k env st en1 h1 xs (acc ++ [y]) (en1 x) (h1 x) (by rw [List.length_append, List.length_singleton]; omega) (fun x hx => ht x (List.mem_cons_of_mem _ hx)) (fun x hx => he x (List.mem_cons_of_mem _ hx))
    have t1 := ht x List.mem_cons_self
    have e1 := he x List.mem_cons_self
    have hlt : acc.length < 16777216 := by omega
    rw [← hw] at t1
    unfold mapO
    cases hf : f x with
    | none =>
      rw [hf] at e1
      exact ⟨_, by simp [lcLX, t1, tYesM, e1], h1 x⟩
    | some y =>
      rw [hf] at e1
      have ih := ih y
      cases hm : mapO f xs with
      | none =>
        rw [hm] at ih
        obtain ⟨en', q1, q2⟩ := ih
        exact ⟨en', by simp [lcLX, t1, tYesM, e1, hlt, q1], q2⟩
      | some ys =>
        rw [hm] at ih
        have ih : lcLX is t tYesM e (xs.map enc) (acc ++ [y]) ⟨en1 x, st⟩ = .ok (acc ++ [y] ++ ys) ⟨env, st⟩ := ih
        simp [lcLX, t1, tYesM, e1, hlt, ih]
theorem lcX_map {is : List Nat} {it : M (List D)} {t : Tg} {e : M D} {s : S} {β : Type} (enc : β → D) (f : β → Option D) (k : Str) (en0 env : List Slot) (st : List Ob) (en1 : β → List Slot) (xs : List β) (hi : it s = .ok (xs.map enc) ⟨en0, st⟩) (hw : wipeE en0 is = env) (hb : backE en0 is env = some en0) (hl : xs.length ≤ 1000000)
    (ht : ∀ x ∈ xs, t (enc x) ⟨env, st⟩ = some ⟨en1 x, st⟩) (h1 : ∀ x, wipeE (en1 x) is = env) (he : ∀ x ∈ xs, e ⟨en1 x, st⟩ = match f x with
      | some y => .ok y ⟨en1 x, st⟩
      | none => .ex k ⟨en1 x, st⟩) :
    fLcX is it t tYesM e s = match mapO f xs with
      | some ys => .ok (.lst ys) ⟨en0, st⟩
      | none => .ex k ⟨en0, st⟩ := by
  have lc := lcLX_map enc f k env st en1 h1 xs [] en0 hw (by simpa using hl) ht he
  unfold fLcX
  rw [hi, bnd_ok]
  cases hm : mapO f xs with
  | none =>
    rw [hm] at lc
    obtain ⟨en', q1, q2⟩ := lc
    simp only [q1, lcEnd, q2, hb]
  | some ys =>
    rw [hm] at lc
    have lc : lcLX is t tYesM e (xs.map enc) [] ⟨en0, st⟩ = .ok ([] ++ ys) ⟨env, st⟩ := lc
    rw [List.nil_append] at lc
    simp only [lc, lcEnd, hb]
theorem mapO_some {α β : Type} {f : α → Option β} : ∀ {xs : List α} {ys : List β}, mapO f xs = some ys ↔ xs.map f = ys.map some
  | [], [] => by simp [mapO]
  | [], _ :: _ => by simp [mapO]
  | x :: xs, ys => by
    unfold mapO
    cases hf : f x with
    | none => cases ys <;> simp [hf]
    | some y =>
      cases hm : mapO f xs with
      | none =>
        have ih := @mapO_some α β f xs
        rw [hm] at ih
        cases ys with
        | nil => simp
        | cons z zs =>
          have := ih (ys := zs)
          simp [hf]
          intro _ h
          exact absurd (this.mpr h) (by simp)
      | some ws =>
        have ih := @mapO_some α β f xs
        rw [hm] at ih
        cases ys with
        | nil => simp
        | cons z zs =>
          have := ih (ys := zs)
          simp [hf]
          intro _
          rw [← this]
          simp
@[simp] theorem r_fLcX (is : List Nat) (it : M (List D)) (t : Tg) (c : M Bool) (e : M D) (s : S) : fLcX is it t c e s = (it s).bnd fun ds s0 => lcEnd is s0.env (lcLX is t c e ds [] s0) := rfl
end Fw
namespace Fw
open PySem PySem.Spec PyProof.Rows L2
/-! ### zip of a list and a tuple -/
def ItzM (K : PySem.W.Frag) (a b : Addr) : It :=
  ⟨fun i H => ∃ (xs ys : List V) (x y : V), SqL K H a xs ∧ SqT K H b ys ∧ xs[i]? = some x ∧ ys[i]? = some y,
    fun i H v H' => ∃ T x y, v = .ref T ∧ H T = none ∧ H' = upd H T (.tup [x, y]) ∧ (∀ xs, SqL K H a xs → xs[i]? = some x) ∧ ∀ ys, SqT K H b ys → ys[i]? = some y,
    fun i H => ∃ xs ys : List V, SqL K H a xs ∧ SqT K H b ys ∧ i = min xs.length ys.length⟩
theorem sepM (p a b : Nat) (ha : a < p) (hb : b < p) : ZipSep2 (p + 4) (p + 2) (p + 3) p (p + 1) [p, a] [p + 1, b] ∧ a ≠ p ∧ b ≠ p + 1 ∧ p + 2 ≠ p + 4 ∧ p + 2 ≠ p + 3 ∧ p + 2 ≠ p ∧ p + 2 ≠ p + 1 ∧ p + 3 ≠ p + 4 ∧ p ≠ p + 4 ∧ p + 1 ≠ p + 4 :=
  have n2 : ∀ x y z : Nat, x ≠ y → x ≠ z → x ∉ [y, z] := fun x y z h1 h2 h => by
    rcases List.mem_cons.mp h with e | h
    · exact h1 e
    · exact h2 (List.mem_singleton.mp h)
  have e1 : (p + 2 : Nat) ≠ p + 4 := by omega
  have e2 : (p + 3 : Nat) ≠ p + 4 := by omega
  have e3 : (p + 2 : Nat) ≠ p + 3 := by omega
  have e4 : (p + 2 : Nat) ≠ p := by omega
  have e5 : (p + 2 : Nat) ≠ p + 1 := by omega
  have e6 : (p : Nat) ≠ p + 4 := by omega
  have e7 : (p + 1 : Nat) ≠ p + 4 := by omega
  have e8 : (a : Nat) ≠ p := by omega
  have e9 : (b : Nat) ≠ p + 1 := by omega
  ⟨⟨e1, e2, e3, e4, List.mem_cons_self, n2 _ _ _ (by omega) (by omega), n2 _ _ _ (by omega) (by omega), e5, List.mem_cons_self, n2 _ _ _ (by omega) (by omega), n2 _ _ _ (by omega) (by omega), n2 _ _ _ (by omega) (by omega), n2 _ _ _ (by omega) (by omega)⟩, e8, e9, e1, e3, e4, e5, e2, e6, e7⟩
theorem ltM (p c n : Nat) (h : p + 4 < n) (e : c = p + 4 ∨ c = p + 2 ∨ c = p + 3 ∨ c = p ∨ c = p + 1) : c < n := by omega
theorem leM (p c : Nat) (e : c = p + 4 ∨ c = p + 2 ∨ c = p + 3 ∨ c = p ∨ c = p + 1) : p ≤ c := by omega
theorem turn_zipM {P : Program} {w : World} {K : PySem.W.Frag} {elts : List Expr} {kk : Nat} {tpos : Pos} (a b p : Addr) (ha : a < p) (hb : b < p) :
    Turn P w K (.Tuple elts kk tpos) (ItzM K a b) [p + 4, p + 2, p + 3, p, p + 1] (p + 4) (fun i h => IsZip h (p + 4) (p + 2) (p + 3) .none ∧ IsTupOf2 h (p + 2) (.ref p) (.ref (p + 1)) ∧ (∃ x y, IsTupOf2 h (p + 3) x y) ∧ h.IsListIter p a i ∧ h.IsTupleIter (p + 1) b i) where
  mem := by simp
  obj := fun i h st c hc => by
    obtain ⟨z1, z2, ⟨x, y, z3⟩, ⟨o1, e1, _, d1⟩, ⟨o2, e2, _, d2⟩⟩ := st
    have e' : c = p + 4 ∨ c = p + 2 ∨ c = p + 3 ∨ c = p ∨ c = p + 1 := by simpa using hc
    rcases e' with rfl | rfl | rfl | rfl | rfl
    · exact ⟨_, z1, fun v q => nomatch q⟩
    · exact ⟨_, z2, fun v q => nomatch q⟩
    · exact ⟨_, z3, fun v q => nomatch q⟩
    · exact ⟨o1, e1, fun v q => by rw [d1] at q; cases q⟩
    · exact ⟨o2, e2, fun v q => by rw [d2] at q; cases q⟩
  keep := fun i h h' st k => by
    obtain ⟨z1, z2, ⟨x, y, z3⟩, i1, i2⟩ := st
    exact ⟨k _ (by simp) _ z1, k _ (by simp) _ z2, ⟨x, y, k _ (by simp) _ z3⟩, i1.at fun o q => k p (by simp) o q, i2.at fun o q => k (p + 1) (by simp) o q⟩
  item := by
    intro X hP hw hK hc i pins s σ H E I hf st hg
    subst hP hw hK
    obtain ⟨z1, z2, ⟨x0, y0, z3⟩, i1, i2⟩ := st
    obtain ⟨xs, ys, x, y, q1, q2, hx, hy⟩ := hg
    obtain ⟨its, r1, p1, _⟩ := I.list q1
    obtain ⟨its2, r2, p2, _⟩ := I.tuple q2
    obtain ⟨u, hu, ru⟩ := r1.get hx
    obtain ⟨v, hv, rv⟩ := r2.get hy
    have p1' : s.heap.IsList a its.toArray := p1.isList
    have p2' : s.heap.IsTuple b its2.toArray := p2
    obtain ⟨S, n1, n2, n3, n4, n5, n6, n7, n8, n9⟩ := sepM p a b ha hb
    have lt1 : i < its.toArray.size := by have := (List.getElem?_eq_some_iff.mp hu).1; simpa using this
    have lt2 : i < its2.toArray.size := by have := (List.getElem?_eq_some_iff.mp hv).1; simpa using this
    have zl : p + 4 < s.heap.objs.size := Heap.lt_size z1
    refine wpAny_pyNext_zipD2_item S (Draws.list (A := X.A.in1) (I.ok.hd hc) p a n1 its.toArray) (Draws.tuple (A := X.A.in1) (I.ok.hd hc) (p + 1) b n2 its2.toArray) z1 z2 z3 ⟨i1, p1'⟩ ⟨i2, p2'⟩ lt1 lt2 fun x1 x2 h' tk k1 k2 z1' z3' s1' s2' hT hsz hk => ?_
    have e1 : x1 = u := by
      have : its.toArray[i]? = some u := by simpa using hu
      rw [this] at k1
      cases k1
      rfl
    have e2 : x2 = v := by
      have : its2.toArray[i]? = some v := by simpa using hv
      rw [this] at k2
      cases k2
      rfl
    subst e1 e2
    refine ⟨_, rfl, wpAny_letOwnedTupleGo_zip (s := { s with heap := h', toks := tk }) z1' fun h'' z1'' sb => ?_⟩
    have hT2 : h''.get? s.heap.objs.size = some { cls := .type "tuple", data := .seq #[x1, x2] } := (sb.2 _ (Nat.ne_of_gt zl)).trans hT
    have new : ObjOk X.prog X.w (upd H s.heap.objs.size (.tup [x, y])) h'' s.heap.objs.size (.tup [x, y]) :=
      ⟨by show 2 ≤ sizeLine; decide, [x1, x2], .cons ru (.cons rv .nil), ⟨_, hT2, rfl, _, rfl⟩⟩
    have I1 : Inv X pins σ (upd H s.heap.objs.size (.tup [x, y])) { s with heap := h'', toks := tk } :=
      I.turnedNew (t' := tk) (ch := [p + 4, p + 2, p + 3, p, p + 1]) (fun c o hb q => (sb.2 c (fun z => hb (by simp [z]))).trans (hk c o (fun z => hb (by simp [z])) (fun z => hb (by simp [z])) (fun z => hb (by simp [z])) (fun z => hb (by simp [z])) q)) hf (Nat.le_refl _) new
    refine ⟨.ref s.heap.objs.size, _, I1, rfl, ⟨_, x, y, rfl, I.hok.fresh (Nat.le_refl _), rfl, fun l hl => by rw [I.list_inj hl q1]; exact hx, fun l hl => by rw [I.tuple_inj hl q2]; exact hy⟩, ⟨z1'', ?_, ⟨x1, x2, ?_⟩, ?_, ?_⟩, fun c hcm => ?_⟩
    · exact (sb.2 _ n3).trans (hk _ _ n3 n4 n5 n6 z2)
    · exact (sb.2 _ n7).trans z3'
    · exact s1'.1.at fun o q => (sb.2 _ n8).trans q
    · exact s2'.1.at fun o q => (sb.2 _ n9).trans q
    · have hlt : c < s.heap.objs.size := ltM p c _ zl (by simpa using hcm)
      rw [upd_ne (Nat.ne_of_lt hlt)]
      exact (hf c hcm).1
  done := by
    intro X hP hw hK hc i pins s σ H E I hf st hg
    subst hP hw hK
    obtain ⟨z1, z2, ⟨x0, y0, z3⟩, i1, i2⟩ := st
    obtain ⟨xs, ys, q1, q2, hend⟩ := hg
    obtain ⟨its, r1, p1, _⟩ := I.list q1
    obtain ⟨its2, r2, p2, _⟩ := I.tuple q2
    have l1 := r1.length
    have l2 := r2.length
    have p1' : s.heap.IsList a its.toArray := p1.isList
    have p2' : s.heap.IsTuple b its2.toArray := p2
    obtain ⟨S, n1, n2, n3, n4, n5, n6, n7, n8, n9⟩ := sepM p a b ha hb
    refine wpAny_pyNext_zipD2_end (i := i) S (Draws.list (A := X.A.in1) (I.ok.hd hc) p a n1 its.toArray) (Draws.tuple (A := X.A.in1) (I.ok.hd hc) (p + 1) b n2 its2.toArray) z1 z2 z3 ⟨i1, p1'⟩ ⟨i2, p2'⟩ (by simp; omega) (by simp; omega) (by simp; omega) fun h' tk hk => ?_
    exact ⟨rfl, I.turnedL (t' := tk) (ch := [p + 4, p + 2, p + 3, p, p + 1]) (fun c o hb q => hk c o (fun z => hb (by simp [z])) (fun z => hb (by simp [z])) (fun z => hb (by simp [z])) (fun z => hb (by simp [z])) q) hf⟩
  self := fun A i s Q E st h => wpAny_pyIter_zip st.1 h
def iZipMI (K : PySem.W.Frag) (ta : TA) : TI := fun σ H R => ta σ H fun vs H1 => ∃ a b xs ys, vs = [.ref a, .ref b] ∧ SqL K H1 a xs ∧ SqT K H1 b ys ∧ R (ItzM K a b) H1
theorem pi_zipM {X : Cx} {e e2 : Expr} {ta : TA} {p pos tpos : Pos} {elts : List Expr} {kk : Nat} (hg : Gl X "zip") (hm : X.mg "zip" = none) (ha : PA X [e, e2] ta)
    (hs : starEach [e, e2] X.env = (false, eval e X.env) :: starEach [e2] X.env := by rfl) (hpl : (backTo pos (starEach [e2] X.env)).any (·.1) = false := by rfl) :
    PI X (.Tuple elts kk tpos) (.Call (.Name "zip" p) [e, e2] [] pos) (iZipMI X.K ta) := by
  refine ⟨fun pins s σ H R I h => ?_⟩
  refine Call_ (ld_blt I hg hm PyProof.Rows.boot_zip (PyProof.Rows.callWith_type1 (thn (ha.run pos pins s σ H _ I h) fun us s1 ⟨vs, H1, I1, r1, a, b, xs, ys, ex, qa, qb, q⟩ => ?_) hs hpl))
  subst ex
  cases r1 with
  | cons r rr =>
    cases rr with
    | cons r' rr =>
      cases rr
      cases r
      cases r'
      obtain ⟨its, rv, p1, _⟩ := I1.list qa
      obtain ⟨its2, rv2, p2, _⟩ := I1.tuple qb
      have p2' : s1.heap.IsTuple b its2.toArray := p2
      have la : a < s1.heap.objs.size := p1.lt
      have lb : b < s1.heap.objs.size := by obtain ⟨o, ho, _⟩ := p2'; exact Heap.lt_size ho
      refine zip_begins2 (begins_list a its.toArray) (begins_tuple b its2.toArray) p1.isList p2' fun h' z1 z2 z3 g1 g2 hsz hk => wpAny_pyIter_zip z1 ?_
      have I2 : Inv X pins σ H1 { s1 with heap := h' } := I1.kept (t' := s1.toks) hk
      refine ⟨s1.heap.objs.size + 4, _, _, _, H1, rfl, I2, turn_zipM a b s1.heap.objs.size la lb, ⟨z1, z2, ⟨_, _, z3⟩, ⟨_, g1, rfl, rfl⟩, ⟨_, g2, rfl, rfl⟩⟩, fun c hc => ?_, q⟩
      have e' : c = s1.heap.objs.size + 4 ∨ c = s1.heap.objs.size + 2 ∨ c = s1.heap.objs.size + 3 ∨ c = s1.heap.objs.size ∨ c = s1.heap.objs.size + 1 := by simpa using hc
      have hle : s1.heap.objs.size ≤ c := leM _ _ e'
      exact I1.fpOk hle (I1.hok.fresh hle)
section
variable {K : PySem.W.Frag} {I : List Addr} {F : Hp}
theorem walk_zipM {a b : Addr} {vs ws : List V} {ds es : List D} (q : SqL K F a vs) (r : RepL K I F vs ds) (q' : SqT K F b ws) (r' : RepL K I F ws es) : WalkD K (ItzM K a b) I F (zipD ds es) where
  go := fun i g I' F' s σ H x le pre hi => by
    obtain ⟨dx, dy, e1, e2, _⟩ := zipD_get ds es i _ (List.getElem?_eq_getElem hi)
    obtain ⟨v, hv, _⟩ := r.get e1
    obtain ⟨w, hw, _⟩ := r'.get e2
    exact ⟨vs, ws, v, w, same_sqL x.sub (le.sqL q), same_sqT x.sub (le.sqT q'), hv, hw⟩
  stop := fun g I' F' s σ H x le pre => ⟨vs, ws, same_sqL x.sub (le.sqL q), same_sqT x.sub (le.sqT q'), by rw [zipD_len, r.length, r'.length]⟩
  yld := fun i g I' F' s σ H y H2 d x le pre hy e => by
    obtain ⟨T, v, w, rfl, hT, rfl, h1, h2⟩ := hy
    obtain ⟨dx, dy, e1, e2, rfl⟩ := zipD_get ds es i d e
    obtain ⟨v', hv, rv⟩ := r.get e1
    obtain ⟨w', hw, rw_⟩ := r'.get e2
    have k1 := h1 vs (same_sqL x.sub (le.sqL q))
    have k2 := h2 ws (same_sqT x.sub (le.sqT q'))
    rw [hv] at k1
    rw [hw] at k2
    cases k1
    cases k2
    exact pair_new x hT (Rep.mono le pre _ _ rv) (Rep.mono le pre _ _ rw_)
end
section
variable {X : Cx} {W : WX} {a b : Expr} {pos p tpos : Pos} {elts : List Expr} {kk : Nat}
def kZipM : List D → M (List D) := fun ds s => match ds with
  | [.lst xs, .tup ys] => .ok (zipD xs ys) s
  | _ => .stuck
def iZipM (f : M (List D)) : M (List D) := fun s => (f s).bnd kZipM
@[simp] theorem r_iZipM (f : M (List D)) (s : S) : iZipM f s = (f s).bnd kZipM := rfl
@[simp] theorem r_kZipM (xs ys : List D) (s : S) : kZipM [.lst xs, .tup ys] s = .ok (zipD xs ys) s := rfl
theorem si_zipM {f : M (List D)} (hg : Gl X "zip") (hm : X.mg "zip" = none) (ha : SA X W [a, b] f) (hs : starEach [a, b] X.env = (false, eval a X.env) :: starEach [b] X.env := by rfl) (hpl : (backTo pos (starEach [b] X.env)).any (·.1) = false := by rfl) :
    SI X W (.Tuple elts kk tpos) (.Call (.Name "zip" p) [a, b] [] pos) (iZipM f) := by
  obtain ⟨t, a1, a2⟩ := ha
  refine ⟨_, pi_zipM hg hm a1 hs hpl, fun g I F s σ H R x hq => a2 g I F s σ H _ x ?_⟩
  rw [r_iZipM] at hq
  cases e1 : f s with
  | stuck => rw [e1] at hq; exact hq
  | ex c s1 => rw [e1] at hq; exact hq
  | ok ds s1 =>
    rw [e1, bnd_ok] at hq
    unfold kZipM at hq
    intro vs I1 F1 H1 x1 r1
    split at hq
    · rename_i xs ys
      cases r1 with
      | cons ra rr =>
        cases rr with
        | cons rb rn =>
          cases rn
          cases ra with
          | lst qa la =>
            cases rb with
            | tup qb lb => exact ⟨_, _, _, _, rfl, same_sqL x1.sub qa, same_sqT x1.sub qb.sq, hq _ _ _ _ x1 (walk_zipM qa la qb.sq lb)⟩
    · exact hq.elim
end
end Fw
namespace Fw
open PySem PySem.Spec PyProof.Rows L2
/-! ### d.setdefault(k, []): the list of the store that stands there, or a new one -/
def kSetd2 (i : Nat) (k : Int) : Option Slot → M D
  | some (.own (.dct kvs)) => fun s => if isTd kvs = false ∧ kvs.length < sizeLine then (match valD kvs (.int k) with
    | some v => .ok v s
    | none => .ok (.obj s.st.length) { env := s.env.set i (.own (.dct (putD kvs (.int k) (.obj s.st.length)))), st := s.st ++ [.lst []] }) else .stuck
  | _ => fun _ => .stuck
def kSetd1 (i : Nat) : D → M D
  | .int k => fun s => kSetd2 i k s.env[i]? s
  | _ => fun _ => .stuck
def eSetd (i : Nat) (fk : M D) : M D := fun s => if isDct (cont s i) = true then (fk s).bnd (kSetd1 i) else .stuck
@[simp] theorem r_eSetd (i : Nat) (fk : M D) (s : S) : eSetd i fk s = if isDct (cont s i) = true then (fk s).bnd (kSetd1 i) else .stuck := rfl
@[simp] theorem r_kSetd1 (i : Nat) (k : Int) (s : S) : kSetd1 i (.int k) s = kSetd2 i k s.env[i]? s := rfl
theorem setd_there {i : Nat} {k : Int} {kvs : List (D × D)} {v : D} (s : S) (h : valD kvs (.int k) = some v) (h2 : isTd kvs = false ∧ kvs.length < sizeLine) : kSetd2 i k (some (.own (.dct kvs))) s = .ok v s := by simp only [kSetd2, h, if_pos h2]
theorem setd_new {i : Nat} {k : Int} {kvs : List (D × D)} (s : S) (h : valD kvs (.int k) = none) (h2 : isTd kvs = false ∧ kvs.length < sizeLine) : kSetd2 i k (some (.own (.dct kvs))) s = .ok (.obj s.st.length) { env := s.env.set i (.own (.dct (putD kvs (.int k) (.obj s.st.length)))), st := s.st ++ [.lst []] } := by simp only [kSetd2, h, if_pos h2]
section
variable {X : Cx} {W : WX} {e : Expr} {npos lpos apos cpos : Pos}
theorem se_setd {x : Str} {i k : Nat} {fk : M D} (hr : Room k X.A) (hn : PE X (.Name x npos) (tVar i)) (hk : SE X W e fk) (hl : SF X W (.List [] lpos) (fLst aNil))
    (m : M2 X (.Name x npos) "setdefault" apos e (.List [] lpos) cpos := by exact ⟨rfl, rfl, rfl, rfl⟩) :
    SE X W (.Call (.Attribute (.Name x npos) "setdefault" apos) [e, .List [] lpos] [] cpos) (eSetd i fk) := by
  obtain ⟨tk, k1, k2⟩ := hk
  obtain ⟨tl, l1, l2⟩ := hl
  refine ⟨_, pe_dsetd hn k1 l1 m, fun g I F s σ H Q x hq => ?_⟩
  rw [r_eSetd] at hq
  by_cases hd : isDct (cont s i) = true
  · rw [if_pos hd] at hq
    cases ec : cont s i with
    | none => rw [ec] at hd; cases hd
    | some d0 =>
      rw [ec] at hd
      cases d0 with
      | dct kv0 =>
        obtain ⟨w0, h0⟩ := cont_slot x ec
        have rw0 : RW X.K I F H w0 (.dct kv0) := R1.rw (r := .i i) h0 x ec
        obtain ⟨a, rfl, isd⟩ := rw0.isD x.sub
        refine ⟨_, h0, a, rfl, isd, k2 (g.at I F) I F s σ H _ x.here ?_⟩
        cases e1 : fk s with
        | stuck => rw [e1] at hq; exact hq
        | ex c s1 => rw [e1] at hq; exact fun I F H u y hu => hq I F H u (x.back y) hu
        | ok j s1 =>
          rw [e1, bnd_ok] at hq
          intro kv I1 F1 H1 x1 r1
          have x1 := x.back x1
          cases j with
          | int kk =>
            cases r1
            rw [r_kSetd1] at hq
            cases es : s1.env[i]? with
            | none => rw [es] at hq; exact hq.elim
            | some sl =>
              rw [es] at hq
              cases sl with
              | own b =>
                cases b with
                | dct kvs =>
                  by_cases hn0 : ¬ (isTd kvs = false ∧ kvs.length < sizeLine)
                  · simp only [kSetd2, if_neg hn0] at hq
                    exact hq.elim
                  have hc : isTd kvs = false ∧ kvs.length < sizeLine := Classical.not_not.mp hn0
                  refine l2 (g.at I1 F1) I1 F1 s1 σ H1 _ x1.here ?_
                  rw [r_fLst, r_aNil, bnd_ok, r_kLst, if_pos (show ([] : List D).length ≤ sizeLine from Nat.zero_le _)]
                  intro I2 F2 H2 p h x2 hp rh
                  have x2 := x1.back x2
                  obtain ⟨a', o, q1, q2, q3, q4⟩ := x2.put es
                  rw [h0] at q1
                  cases q1
                  cases q3 with
                  | @dK vs _ rk =>
                    have hap : a ≠ p := fun z => by rw [z, hp] at q2; cases q2
                    have rv := rk.val (.inl kk)
                    have hl2 := rk.length
                    refine ⟨vs, .inl kk, by rw [upd_ne hap]; exact q2, rfl, ?_, fun v hv => ?_, fun hv => ?_⟩
                    · rw [hl2]; exact hc.2
                    · cases ev : valD kvs (.int kk) with
                      | none =>
                        rw [hv, show valD kvs (kD (.inl kk)) = none from ev] at rv
                        exact rv.elim
                      | some d =>
                        rw [setd_there _ ev hc] at hq
                        rw [hv, show valD kvs (kD (.inl kk)) = some d from ev] at rv
                        exact hq _ _ _ _ (x2.fresh hp) rv
                    · cases ev : valD kvs (.int kk) with
                      | some d =>
                        rw [hv, show valD kvs (kD (.inl kk)) = some d from ev] at rv
                        exact rv.elim
                      | none =>
                        rw [setd_new _ ev hc] at hq
                        obtain ⟨y, pre, at_⟩ := x2.allocSt hp rh
                        obtain ⟨a2, o2, z1, z2, z3, z4⟩ := y.put (i := i) (b := .dct kvs) es
                        rw [h0] at z1
                        cases z1
                        have z5 : o2 = .dK vs := by
                          rw [upd_ne hap, q2] at z2
                          exact (Option.some.inj z2).symm
                        subst z5
                        have ro : Rep X.K (I2 ++ [p]) F2 (.ref p) (.obj s1.st.length) := .obj at_
                        have rk2 : RepK X.K (I2 ++ [p]) F2 vs kvs := RepK.mono (Le.refl _) pre _ _ rk
                        exact hq _ _ _ _ (z4 (.dK (putK vs (.inl kk) (.ref p))) (.dct (putD kvs (.int kk) (.obj s1.st.length))) (.dK (rk2.put (k := .inl kk) ro))) ro
                  | dT rt => exact absurd (show true = false from hc.1) (by decide)
                | _ => exact hq.elim
              | _ => exact hq.elim
          | _ => exact hq.elim
      | _ => cases hd
  · rw [if_neg hd] at hq
    exact hq.elim
end
end Fw
namespace Fw
open PySem PySem.Spec PyProof.Rows L2
/-! ### dict(l) of a list of pairs: keys numbers and texts, or tuples of such -/
def mergeT (kvs more : List (List Key × V)) : List (List Key × V) := more.foldl (fun acc kv => putK acc kv.1 kv.2) kvs
theorem length_mergeT : ∀ (more kvs : List (List Key × V)), (mergeT kvs more).length ≤ kvs.length + more.length
  | [], _ => Nat.le_refl _
  | p :: r, kvs => by
    have h1 := length_putK kvs p.1 p.2
    have h2 := length_mergeT r (putK kvs p.1 p.2)
    rw [List.length_cons]
    show (mergeT (putK kvs p.1 p.2) r).length ≤ _
    omega
inductive TPairs (K : PySem.W.Frag) (H : Hp) : List Addr → List (List Key × V) → Prop
  | nil : TPairs K H [] []
  | cons {p b : Addr} {k : List Key} {v : V} {ps : List Addr} {kvs : List (List Key × V)} : SqT K H p [.ref b, v] → H b = some (.tup (k.map kV)) → TPairs K H ps kvs → TPairs K H (p :: ps) ((k, v) :: kvs)
theorem KT.merge {H : Hp} : ∀ {more : List (List Key × V)} {rs : List (List Key × Addr × Value)} {kvs : List (List Key × V)} {xs : List (List Key × Addr × Value)}, KT H more rs → KT H kvs xs → KT H (mergeT kvs more) (storedAllH xs rs)
  | _, _, _, _, .nil, h => h
  | _, _, _, _, .cons (a := p) (b := q) ⟨e, hb, rv⟩ t, h => by
    show KT H (mergeT (putK _ p.1 p.2) _) (storedAllH (storedH _ q.1 q.2.1 q.2.2) _)
    rw [← e]
    exact KT.merge t (KT.put h p.1 hb rv)
section
variable {X : Cx}
theorem tpairs_of {pins : List (Addr × Obj)} {σ : L2.St} {H : Hp} {s : Shared} (I : Inv X pins σ H s) : ∀ {ps : List Addr} {kvs : List (List Key × V)}, TPairs X.K H ps kvs →
    ∃ prs : List (List Key × Addr × Value), KT H kvs prs ∧ prs.length = ps.length ∧ ∀ (j : Nat) (q : List Key × Addr × Value), prs[j]? = some q → ∃ (b : Addr), ps[j]? = some b ∧ IsTup s.heap b #[.ref q.2.1, q.2.2] ∧ H q.2.1 = some (.tup (q.1.map kV))
  | _, _, .nil => ⟨[], .nil, rfl, fun j q e => by simp at e⟩
  | _, _, .cons (p := p) (b := b) (k := k) (v := v) h hb t => by
    obtain ⟨prs, r, hl, hp⟩ := tpairs_of I t
    obtain ⟨its, rv, ht, _⟩ := I.tuple h
    obtain ⟨u, y, ei, ru, ry⟩ := vals2 rv
    subst ei
    cases (show u = Value.ref b from ru)
    refine ⟨(k, b, y) :: prs, .cons ⟨rfl, hb, ry⟩ r, by rw [List.length_cons, List.length_cons, hl], fun j q e => ?_⟩
    cases j with
    | zero =>
      have e' : (k, b, y) = q := Option.some.inj e
      subst e'
      exact ⟨p, rfl, ht, hb⟩
    | succ j =>
      obtain ⟨b', e1, e2, e3⟩ := hp j q (by simpa using e)
      exact ⟨b', by simpa using e1, e2, e3⟩
def rDictT (K : PySem.W.Frag) : List V → Hp → VK → Prop := fun xs H Q => ∃ (a : Addr) (ps : List Addr) (kvs : List (List Key × V)), xs = [.ref a] ∧ SqL K H a (ps.map V.ref) ∧ TPairs K H ps kvs ∧ ∀ p, H p = none → Q (.ref p) (upd H p (.dT (mergeT [] kvs)))
theorem call_dictT {k : Nat} (hr : Room k X.A) (hcalm : X.calm = true) : CallR X (.type "dict") (rDictT X.K) := by
  intro pins s σ H xs us Q I r q
  obtain ⟨a, ps, kvs, ex, hq, hp, q⟩ := q
  subst ex
  obtain ⟨u, eu, rx⟩ := vals1 r
  subst eu
  cases rx
  obtain ⟨its, rv, pl, hz⟩ := I.list hq
  have ei := refs_at rv
  subst ei
  rw [List.length_map] at hz
  obtain ⟨prs, rel, hl, hpr⟩ := tpairs_of I hp
  obtain ⟨o, n, ho, hc, hd, hdat⟩ := pl
  have P := PairArg.list (prog := X.prog) (w := X.w) a (ps.map Value.ref).toArray (fun j => (ps[j]?).getD 0) (prs.map fun q => (Value.ref q.2.1, q.2.2))
  have hok : PlainSeq "list" s.heap a (ps.map Value.ref).toArray ∧ PairItems s.heap (ps.map Value.ref).toArray (fun j => (ps[j]?).getD 0) (prs.map fun q => (Value.ref q.2.1, q.2.2)) := by
    refine ⟨⟨o, n, ho, hc, hd, hdat⟩, by simp [hl], fun j k v e => ?_⟩
    rw [List.getElem?_map] at e
    obtain ⟨q', hq', e'⟩ := Option.map_eq_some_iff.mp e
    obtain ⟨b, e1, e2, e3⟩ := hpr j q' hq'
    injection e' with e4 e5
    subst e4 e5
    refine ⟨by simp [e1], ?_⟩
    show PairAt s.heap ((ps[j]?).getD 0) _ _
    rw [e1]
    exact .inl e2
  refine call_dict_pairsH (knd := tupleKind (mixKind X.prog X.w)) (ps := prs) P (I.ok.hd hcalm) ?_ hok ⟨by simp, ?_⟩ ?_ (by rw [List.length_map, hl]; exact hz) fun h' tk hd' kk => ?_
  · exact tupleKind_room_in1 (A := X.A.in1) (by have := room64 hr; show X.A.units + 1 + 1 < cLine; omega)
  · intro i key v e
    have e : (prs.map fun q => (Value.ref q.2.1, q.2.2))[i]? = some (key, v) := e
    rw [List.getElem?_map] at e
    obtain ⟨q', hq', e'⟩ := Option.map_eq_some_iff.mp e
    injection e' with e4 e5
    subst e4 e5
    exact ⟨q'.1, q'.2.1, hq', rfl⟩
  · intro h' hk x hx
    obtain ⟨j, hj⟩ := List.getElem?_of_mem hx
    obtain ⟨b, e1, e2, e3⟩ := hpr j x hj
    obtain ⟨o', its', n', h1, h2, h3, h4⟩ := key_of I.hok e3
    have hlt := Heap.lt_size h1
    exact ⟨o', its', n', hk _ _ (Nat.ne_of_lt hlt) (by simp) h1, h2, h3, h4⟩
  · have hm : (s.heap.objs.size == sysModules) = false := beq_eq_false_iff_ne.mpr (Nat.ne_of_gt I.big)
    have hlen : (mergeT [] kvs).length ≤ sizeLine := by
      refine Nat.le_trans (length_mergeT kvs []) ?_
      rw [List.length_nil, Nat.zero_add, Paired.length rel, hl]
      exact hz
    obtain ⟨q1, es, ep, hq1, h2, h3, h4, _, h5⟩ := hd'
    have hnew : H s.heap.objs.size = none := I.hok.fresh (Nat.le_refl _)
    refine ⟨.ref s.heap.objs.size, upd H s.heap.objs.size (.dT (mergeT [] kvs)), I.laid (t' := tk) (fun b o e => kk b o (by simp) e) (Nat.le_refl _) (show ObjOk X.prog X.w _ _ _ (.dT (mergeT [] kvs)) from ⟨hlen, hm, storedAllH [] prs, KT.keeps (KT.merge rel .nil) fun b ys eb => ?_, q1, es, ep, hq1, h2, h3, h4, h5⟩), rfl, q _ hnew⟩
    rw [upd_ne (ne_of_none eb hnew)]
    exact eb
end
end Fw
namespace Fw
open PySem PySem.Spec PyProof.Rows L2
/-! ### dict(l) of a list of pairs, sorted(d), len(d) -/
def pairsI : List D → Option (List (Int × D))
  | [] => some []
  | .tup [.int i, v] :: r => (pairsI r).map ((i, v) :: ·)
  | _ :: _ => none
def pairsT : List D → Option (List (List Key × D))
  | [] => some []
  | .tup [.tup ks, v] :: r => (match kTupL ks, pairsT r with
    | some kk, some q => if (!ks.isEmpty && ks.all txtD) = true then none else some ((kk, v) :: q)
    | _, _ => none)
  | _ :: _ => none
def oDictI : D → Option Ob
  | .lst ds => (pairsI ds).map fun ps => .dct (ps.foldl (fun acc p => putD acc (.int p.1) p.2) [])
  | _ => none
def oDictT : D → Option Ob
  | .lst ds => (pairsT ds).map fun ps => .dct ((.non, .non) :: ps.foldl (fun acc p => putD acc (.tup (p.1.map kD)) p.2) [])
  | _ => none
section
variable {K : PySem.W.Frag} {I : List Addr} {F H : Hp}
inductive RepPI (K : PySem.W.Frag) (I : List Addr) (F : Hp) : List (Key × V) → List (Int × D) → Prop
  | nil : RepPI K I F [] []
  | cons {i : Int} {v : V} {d : D} {vs : List (Key × V)} {ds : List (Int × D)} : Rep K I F v d → RepPI K I F vs ds → RepPI K I F ((.inl i, v) :: vs) ((i, d) :: ds)
inductive RepPT (K : PySem.W.Frag) (I : List Addr) (F : Hp) : List (List Key × V) → List (List Key × D) → Prop
  | nil : RepPT K I F [] []
  | cons {k : List Key} {v : V} {d : D} {vs : List (List Key × V)} {ds : List (List Key × D)} : Rep K I F v d → RepPT K I F vs ds → RepPT K I F ((k, v) :: vs) ((k, d) :: ds)
theorem pairsI_rep (hs : Same F H) : ∀ {ds : List D} {vs : List V} {ps : List (Int × D)}, RepL K I F vs ds → pairsI ds = some ps → ∃ (as : List Addr) (kvs : List (Key × V)), vs = as.map V.ref ∧ Paired (fun p kv => SqT K H p [kV kv.1, kv.2]) as kvs ∧ RepPI K I F kvs ps
  | [], _, _, .nil, h => by
    simp only [pairsI] at h
    cases h
    exact ⟨[], [], rfl, .nil, .nil⟩
  | d :: ds, _, ps, .cons r t, h => by
    match d, h with
    | .tup [.int i, x], h =>
      simp only [pairsI] at h
      obtain ⟨q, hq, rfl⟩ := Option.map_eq_some_iff.mp h
      obtain ⟨as, kvs, rfl, h2, h3⟩ := pairsI_rep hs t hq
      cases r with
      | tup qb rb =>
        cases rb with
        | cons r1 rb =>
          cases r1
          cases rb with
          | cons r2 rb =>
            cases rb
            exact ⟨_ :: as, (.inl i, _) :: kvs, rfl, .cons (same_sqT hs qb.sq) h2, .cons r2 h3⟩
theorem pairsT_rep (hs : Same F H) : ∀ {ds : List D} {vs : List V} {ps : List (List Key × D)}, RepL K I F vs ds → pairsT ds = some ps → ∃ (as : List Addr) (kvs : List (List Key × V)), vs = as.map V.ref ∧ TPairs K H as kvs ∧ RepPT K I F kvs ps
  | [], _, _, .nil, h => by
    simp only [pairsT] at h
    cases h
    exact ⟨[], [], rfl, .nil, .nil⟩
  | d :: ds, _, ps, .cons r t, h => by
    match d, h with
    | .tup [.tup ks, x], h =>
      simp only [pairsT] at h
      cases e1 : kTupL ks with
      | none => simp only [e1] at h; cases h
      | some kk =>
        cases e2 : pairsT ds with
        | none => simp only [e1, e2] at h; cases h
        | some q =>
          simp only [e1, e2] at h
          by_cases ht : (!ks.isEmpty && ks.all txtD) = true
          · rw [if_pos ht] at h; cases h
          · rw [if_neg ht] at h
            cases h
            obtain ⟨as, kvs, rfl, h2, h3⟩ := pairsT_rep hs t e2
            cases r with
            | tup qb rb =>
              cases rb with
              | cons r1 rb =>
                cases rb with
                | cons r2 rb =>
                  cases rb
                  cases r1 with
                  | @tup bb ws _ qb1 rb1 =>
                    have := kTupL_inv e1
                    subst this
                    have e4 := kVals rb1
                    subst e4
                    rcases qb1 with qb1 | ⟨hx, _⟩
                    · exact ⟨_ :: as, (kk, _) :: kvs, rfl, .cons (same_sqT hs qb.sq) (hs _ _ qb1) h2, .cons r2 h3⟩
                    · rw [txts_kk] at hx
                      exact absurd hx ht
theorem repK_merge : ∀ {more : List (Key × V)} {ps : List (Int × D)} {vs : List (Key × V)} {ds : List (D × D)}, RepPI K I F more ps → RepK K I F vs ds → RepK K I F (mergeK vs more) (ps.foldl (fun acc p => putD acc (.int p.1) p.2) ds)
  | _, _, _, _, .nil, h => h
  | _, _, _, _, .cons (i := i) (v := v) (d := d) (vs := ms) (ds := qs) r t, h => repK_merge (more := ms) (ps := qs) t (RepK.put (k := .inl i) r h)
theorem repT_merge : ∀ {more : List (List Key × V)} {ps : List (List Key × D)} {vs : List (List Key × V)} {ds : List (D × D)}, RepPT K I F more ps → RepT K I F vs ds → RepT K I F (mergeT vs more) (ps.foldl (fun acc p => putD acc (.tup (p.1.map kD)) p.2) ds)
  | _, _, _, _, .nil, h => h
  | _, _, _, _, .cons (vs := ms) (ds := qs) r t, h => repT_merge (more := ms) (ps := qs) t (RepT.put r h)
end
section
variable {X : Cx} {W : WX} {a b : Expr} {oa : Opd} {pos p : Pos}
theorem sf_dictPI (hc : X.calm = true) (hg : Gl X "dict") (hm : X.mg "dict" = none) (ha : SO X W a oa) (hst : starEach [a] X.env = (false, eval a X.env) :: starEach [] X.env := by rfl) : SF X W (.Call (.Name "dict" p) [a] [] pos) (f1 oDictI oa) := by
  refine sf_c1 (fun h => pe_callTy (call_dictP hc) hg hm (by decide +kernel) h (he := hst)) ?_ ha hst
  intro g I F s σ H Q x dx d sm rx e q
  cases dx with
  | lst ds =>
    simp only [oDictI] at e
    obtain ⟨ps, hp, rfl⟩ := Option.map_eq_some_iff.mp e
    obtain ⟨l, vs, rfl, h1, r1⟩ := rx.lst sm.sub
    obtain ⟨as, kvs, rfl, h2, h3⟩ := pairsI_rep sm.sub r1 hp
    exact ⟨l, as, kvs, rfl, h1, h2, fun p hp => q _ _ _ _ _ sm hp (.dK (repK_merge h3 .nil))⟩
  | _ => cases e
theorem sf_dictPT {k : Nat} (hr : Room k X.A) (hc : X.calm = true) (hg : Gl X "dict") (hm : X.mg "dict" = none) (ha : SO X W a oa) (hst : starEach [a] X.env = (false, eval a X.env) :: starEach [] X.env := by rfl) : SF X W (.Call (.Name "dict" p) [a] [] pos) (f1 oDictT oa) := by
  refine sf_c1 (fun h => pe_callTy (call_dictT hr hc) hg hm (by decide +kernel) h (he := hst)) ?_ ha hst
  intro g I F s σ H Q x dx d sm rx e q
  cases dx with
  | lst ds =>
    simp only [oDictT] at e
    obtain ⟨ps, hp, rfl⟩ := Option.map_eq_some_iff.mp e
    obtain ⟨l, vs, rfl, h1, r1⟩ := rx.lst sm.sub
    obtain ⟨as, kvs, rfl, h2, h3⟩ := pairsT_rep sm.sub r1 hp
    exact ⟨l, as, kvs, rfl, h1, h2, fun p hp => q _ _ _ _ _ sm hp (.dT (repT_merge h3 .nil))⟩
  | _ => cases e
/-! len(d), the keys numbers -/
def rLenK : List V → Hp → VK → Prop := fun xs H Q => ∃ (a : Addr) (kvs : List (Key × V)), xs = [V.ref a] ∧ Rd H a (.dK kvs) ∧ Q (.int kvs.length) H
theorem cr_lenK : CallR X (.builtin "len") rLenK := by
  intro pins s σ H xs us Q I r h
  obtain ⟨a, kvs, rfl, ha, q⟩ := h
  obtain ⟨u, rfl, ru⟩ := vals1 r
  cases ru
  exact d_len I ha fun t s' I' => ⟨.int kvs.length, H, I', ⟨t, rfl⟩, q⟩
def dLenK : D → Option D
  | .dct kvs => (keysI kvs).map fun _ => .int kvs.length
  | _ => none
theorem se_lenK (hg : Gl X "len") (hm : X.mg "len" = none) (ha : SO X W a oa) (hst : starEach [a] X.env = (false, eval a X.env) :: starEach [] X.env := by rfl) : SE X W (.Call (.Name "len" p) [a] [] pos) (e1 dLenK oa) := by
  refine se_c1 (fun h => pe_callB cr_lenK hg hm PySem.boot_len h (he := hst)) ?_ ha hst
  intro g I F s σ H Q x dx d sm rx e k
  cases dx with
  | dct kvs =>
    simp only [dLenK] at e
    obtain ⟨ns, hk, rfl⟩ := Option.map_eq_some_iff.mp e
    obtain ⟨b, vs, rfl, h1, r1⟩ := rx.dK sm.sub hk
    refine ⟨b, vs, rfl, h1, ?_⟩
    rw [r1.length]
    exact k _ _ _ sm (.int _)
  | _ => cases e
@[simp] theorem dLenK_d {kvs : List (D × D)} {ns : List Int} (h : keysI kvs = some ns) : dLenK (.dct kvs) = some (.int kvs.length) := by
  simp only [dLenK, h, Option.map_some]
/-! sorted(d), the keys numbers -/
def oSortK : D → Option Ob
  | .dct kvs => (match keysI kvs with
    | some ns => if ns.length < 64 then some (.lst ((sortI ns).map .int)) else none
    | none => none)
  | _ => none
theorem sf_sortK (hc : X.calm = true) (hg : Gl X "sorted") (hm : X.mg "sorted" = none) (ha : SO X W a oa) (hst : starEach [a] X.env = (false, eval a X.env) :: starEach [] X.env := by rfl) : SF X W (.Call (.Name "sorted" p) [a] [] pos) (f1 oSortK oa) := by
  refine sf_c1 (fun h => pe_callB (call_sortedDI hc) hg hm (by decide +kernel) h (he := hst)) ?_ ha hst
  intro g I F s σ H Q x dx d sm rx e q
  cases dx with
  | dct kvs =>
    cases hk : keysI kvs with
    | none => simp only [oSortK, hk] at e; cases e
    | some ns =>
      simp only [oSortK, hk] at e
      by_cases hl : ns.length < 64
      · rw [if_pos hl] at e
        cases e
        obtain ⟨b, vs, rfl, h1, r1⟩ := rx.dK sm.sub hk
        refine ⟨b, vs, ns, rfl, h1, keysI_rep r1 hk, hl, fun ns' p hp1 hp2 hp => ?_⟩
        rw [sortI_of hp1 hp2]
        exact q _ _ _ _ _ sm hp (.lst (repL_ints _))
      · rw [if_neg hl] at e; cases e
  | _ => cases e
@[simp] theorem oSortK_d {kvs : List (D × D)} {ns : List Int} (h : keysI kvs = some ns) (hl : ns.length < 64) : oSortK (.dct kvs) = some (.lst ((sortI ns).map .int)) := by
  simp only [oSortK, h, if_pos hl]
end
end Fw
/-! ### set(l), l a list of numbers -/
namespace L2
open PySem PySem.Spec PyProof.Rows
section
variable {P : Program} {w : World} {A : Around} {E : Value → Shared → Prop} {s : Shared}
abbrev noneYet (w : World) : Obj := { cls := .type "set", dict := none, data := .set #[] 0 (.fresh 0 0 (!w.params.followText "set-order")) }
theorem two_news {h : Heap} {b : Addr} {o p q : Obj} (e : h.get? b = some o) : ((h.push p).push q).get? b = some o := Heap.get?_push_of_some _ (Heap.get?_push_of_some _ e)
set_option maxHeartbeats 3200000 in
theorem set_of_list {l : Addr} {items : Array Value} (ns : List Int) {Q : Value → Shared → Prop} (hh : A.handled = none) (hl : s.heap.IsList l items) (hit : IntsAre items.toList ns) (hb : ns.length + 1 < scanBound)
    (h : ∀ (h' : Heap) (tk c : Nat), SetR w h' s.heap.objs.size (fun j => decide (j ∈ ns)) c → (∀ b o, s.heap.get? b = some o → h'.get? b = some o) → Q (.ref s.heap.objs.size) { s with heap := h', toks := tk }) :
    wpAny (model P w) A (call (.type "set") [.ref l]) Q E s := by
  have size : items.size = ns.length := by rw [← Array.length_toList, IntsAre.length hit]
  obtain ⟨ol, hol, hcl, nl, hdl⟩ := hl
  have old : l < s.heap.objs.size := Heap.lt_size hol
  obtain ⟨ocls, odict, odata, oslots⟩ := ol
  simp only at hcl hdl
  subst hcl hdl
  obtain ⟨c, tl, hmro⟩ := PySem.F.called_set.mro
  have k1 := PySem.F.called_set.made
  have k2 := PySem.F.called_set.sub
  have k3 := PySem.F.called_set.notType
  have k4 := PySem.F.called_set.canCreate
  have k5 := PySem.F.typeCall_set_1 (.ref l)
  refine wpAny_call (codeAny_of_tree ?_)
  show wpAny _ _ (callAny (.type "set") _) _ _ _
  refine wpAny_pure ⟨Code.quiet_builtin _ (by decide +kernel), codeAny_builtin PySem.F.entry_type_call ?_⟩
  rw [Around.under_plain (weight_type_call_type "set" [.ref l] []) rfl]
  repeat (any_goals (first | assumption | wp_step))
  refine codeAny_mono (code_set_led1 (.ref l) (E := E) (Q₁ := fun obj s₁ => obj = .ref s.heap.objs.size ∧ s₁ = { s with heap := s.heap.push (noneYet w) }) ⟨rfl, rfl⟩) fun r s₁ hr => ?_
  match r, hr with
  | .error e, hr => exact hr
  | .ok (.ret obj), hr =>
    obtain ⟨rfl, rfl⟩ := hr
    have here : (s.heap.push (noneYet w)).get? s.heap.objs.size = some (noneYet w) := Heap.get?_push_size _ rfl
    have hT : Shared.TypeIs { s with heap := s.heap.push (noneYet w) } (.ref s.heap.objs.size) "set" := ⟨_, here, rfl⟩
    have k6 := PySem.F.called_set.init.lookup
    have k7 := PySem.F.called_set.init.bind (.ref s.heap.objs.size)
    repeat (any_goals (first | assumption | wp_step))
    refine codeAny_mono (codeAny_call_builtin (R := wants (fun r s₂ => r = .none ∧ ∃ h' tk c, s₂ = { s with heap := h', toks := tk } ∧ SetR w h' s.heap.objs.size (fun j => decide (j ∈ ns)) c ∧ ∀ b o, s.heap.get? b = some o → h'.get? b = some o) E) PySem.F.called_set.init.plain PySem.F.entry_set_init (check_set_init_1 hT ?_)) fun r₂ s₂ hr₂ => ?_
    · have hol' : (s.heap.push (noneYet w)).get? l = some { cls := .type "list", dict := odict, data := .seq items nl, slots := oslots } := Heap.get?_push_of_some _ hol
      have k8 := PySem.F.sub_list_set
      have k9 := PySem.F.sub_list_frozenset
      have k10 : (Value.type "list" == Value.type "dict") = false := by decide
      have isl : (s.heap.push (noneYet w)).IsList l items := ⟨_, hol', rfl, nl, rfl⟩
      unfold Builtin.«set.__init__» noKeywords Builtin.Frozenset.updateFrom
      generalize hPI : pyIter = PI
      wp_walk
      subst hPI
      refine wpAny_pyIter_list isl ?_
      refine wpAny_bind (wpAny_runValue ?_)
      have k11 : A.in1.in1.in1.handled = none := by simp [hh]
      have k12 : (s.heap.push (noneYet w)).objs.size = s.heap.objs.size + 1 := Heap.size_push ..
      have ne1 : l ≠ (s.heap.push (noneYet w)).objs.size := by rw [k12]; exact Nat.ne_of_lt (Nat.lt_succ_of_lt old)
      have ne2 : s.heap.objs.size ∉ [(s.heap.push (noneYet w)).objs.size, l] := by
        intro hx
        rw [k12] at hx
        rcases List.mem_cons.mp hx with e | e
        · exact Nat.ne_of_lt (Nat.lt_succ_self _) e
        · exact Nat.ne_of_gt old (List.mem_singleton.mp e)
      have vals : ∀ (i : Nat) (v : Value), items[i]? = some v → ∃ k t, ns[i]? = some k ∧ v = .int k t := fun i v hv => by
        have hi : i < ns.length := by rw [← size]; exact (Array.getElem?_eq_some_iff.mp hv).1
        obtain ⟨t, e⟩ := PyProof.Rows.IntsAre.int_at hit i v (by rw [Array.getElem?_toList]; exact hv)
        refine ⟨ns[i], t, List.getElem?_eq_getElem hi, ?_⟩
        rw [e, List.getD_eq_getElem?_getD, List.getElem?_eq_getElem hi] <;> rfl
      refine set_update_ints ((Walks.list k11 _ l ne1 items).toS) s.heap.objs.size ne2 ns size hb vals items.size 0 _ (by omega) (Nat.zero_le _) ⟨⟨_, Heap.get?_push_size _ rfl, rfl, rfl⟩, isl.push _⟩ ⟨0, Nat.le_refl 0, setR_new_at (Heap.get?_push_of_some _ here)⟩ fun s' c' hm hc' hS' => ?_
      obtain ⟨h', g2, d', tk', os'⟩ := s'
      have eg : g2 = s.gens := hm.gens
      have ed : d' = s.drawn := hm.drawn
      have eo : os' = s.os := hm.os
      subst eg ed eo
      show wpAny _ _ _ _ _ _
      refine wpAny_pure ?_
      show wpAny _ _ (ret Value.none) _ _ _
      refine wpAny_pure ⟨rfl, h', tk', c', rfl, hS', fun b o e => hm.heap b o ?_ (two_news e)⟩
      have lb := Heap.lt_size e
      intro hx
      rcases List.mem_cons.mp hx with z | z
      · exact Nat.ne_of_lt lb z
      · have z2 := List.mem_singleton.mp z
        rw [k12] at z2
        exact Nat.ne_of_lt (Nat.lt_succ_of_lt lb) z2
    · match r₂, hr₂ with
      | .error e, hr₂ => exact hr₂
      | .ok (.ret r), hr₂ =>
        obtain ⟨rfl, h', tk', c', rfl, hS', hk'⟩ := hr₂
        repeat (any_goals (first | assumption | wp_step))
        exact h _ _ _ hS' hk'
end
end L2
/-! ### sorted(set(list(d.values()))) -/
namespace L2
open PySem PySem.Spec PyProof.Rows
section
variable {X : Cx} {o : Expr} {p pos apos mpos : Pos} {td : TE}
def kLstVals (x : V) (H : Hp) (Q : VK) : Prop := ∃ (a : Addr) (kvs : List (Key × V)), x = V.ref a ∧ Rd H a (.dK kvs) ∧ ∀ p, H p = none → Q (.ref p) (upd H p (.lst (kvs.map (·.2))))
theorem pe_lstVals (hc : X.calm = true) (hg : Gl X "list") (hm : X.mg "list" = none) (hd : PE X o td) (hbase : attributeBase o "values" X.env (eval o X.env) = eval o X.env := by rfl) (hline : (apos.endLine == mpos.line) = true := by rfl)
    (hse : starEach [Expr.Call (.Attribute o "values" apos) [] [] mpos] X.env = [(false, eval (Expr.Call (.Attribute o "values" apos) [] [] mpos) X.env)] := by rfl) :
    PE X (.Call (.Name "list" p) [.Call (.Attribute o "values" apos) [] [] mpos] [] pos) (fun σ H Q => td σ H fun x H1 => kLstVals x H1 Q) := by
  refine ⟨fun pins s σ H Q I h => ?_⟩
  refine wpAny_Call_Name_kw (ld_blt I hg hm (u := .type "list") (by first | rfl | decide +kernel) ?_ (by first | decide +kernel | decide) (by first | decide +kernel | decide))
  rw [hse]
  refine PySem.callWith_type1 (wpAny_Call_method0_late hbase hline (thn (hd.run pins s σ H _ I h) fun v s1 ⟨x, H1, I1, r1, a, kvs, ex, ha, q⟩ => ?_))
  subst ex
  obtain rfl : v = Value.ref a := r1
  obtain ⟨hz, hsys, vs, rel, dof⟩ := dk_rd I1.hok ha
  obtain ⟨es, ep, raw, hes, hval⟩ := dof.raw
  have dof' := dof
  obtain ⟨ob, _, _, ho, ex, _⟩ := dof'
  refine ⟨"dict", "dict.values", PySem.F.plainAttrs_dict, PySem.F.slot_dict_values, PySem.F.type_dict_values, ⟨ob, ho, ex.1⟩, fun b e => ?_, Calls.callWith_builtin rfl (PySem.evalArgs_none ?_)⟩
  · cases e
    exact ⟨ob, ho, ex.2.1⟩
  refine call_meetsIn PySem.F.slot_dict_values ⟨ob, ho, ex.1⟩ PySem.F.entry_dict_values (PySem.F.args_dict_values_1 _) (meets_dict_values (mixKind X.prog X.w) a hsys) ⟨⟨vs, dof⟩, ?_⟩
  have k1 : ∀ b u, s1.heap.get? b = some u → (s1.heap.push { cls := .type "dict_values", data := .fields #[.ref a] }).get? b = some u := fun b u e => Heap.get?_push_of_some _ e
  have hsz : (s1.heap.push { cls := .type "dict_values", data := .fields #[.ref a] }).objs.size = s1.heap.objs.size + 1 := Heap.size_push _ _
  have hn : es.size ≤ sizeLine := by rw [hes, ← KV.length rel]; exact hz
  refine PySem.W.kdl_call (KdlSrc.rawValues (r := s1.heap.objs.size) (d := a) (es := es) (ep := ep)) (I.ok.hd hc) ⟨⟨_, Heap.get?_push_size _ rfl, rfl, rfl⟩, raw.push _⟩ hn fun h' tk acc c hk hnew items => ?_
  have hv : Vals (kvs.map (·.2)) acc.toList := by
    refine vals_of_at (by
      have := items.1
      have := KV.length rel
      rw [List.length_map]
      show kvs.length = acc.size
      omega) fun j x u e1 e2 => ?_
    rw [Array.getElem?_toList] at e2
    obtain ⟨hi, rfl⟩ := items.2 j u e2
    obtain ⟨⟨k, w⟩, hw⟩ : ∃ z, vs[j]? = some z := ⟨_, List.getElem?_eq_getElem (by omega)⟩
    obtain ⟨_, h2⟩ := hval j hi k w hw
    obtain ⟨y, h3, h4⟩ := KV.at' rel hw
    rw [List.getElem?_map, h3] at e1
    have e1 := Option.some.inj e1
    subst e1
    rw [h2]
    exact h4
  have fr : H1 (s1.heap.objs.size + 1) = none := I1.hok.fresh (Nat.le_succ _)
  rw [hsz] at hnew ⊢
  exact ⟨.ref (s1.heap.objs.size + 1), upd H1 (s1.heap.objs.size + 1) (.lst (kvs.map (·.2))), I1.laid (t' := tk) (fun b u e => hk b u (k1 b u e)) (Nat.le_succ _) (show ObjOk X.prog X.w _ _ _ (.lst _) from ⟨by rw [List.length_map]; exact hz, acc.toList, c, hv, by rw [Array.toArray_toList]; exact hnew⟩), rfl, q _ fr⟩
def rSetLI (K : PySem.W.Frag) (w : World) : List V → Hp → VK → Prop := fun vs H Q => ∃ (t : Addr) (ns : List Int), vs = [V.ref t] ∧ SqL K H t (ns.map V.int) ∧ ns.length ≤ 4000 ∧ (Fw.setI ns).length < 64 ∧
  ∀ (b : Addr) (c : Nat), c < 64 → H b = none → Q (.ref b) (upd H b (SetO w b (fun j => decide (j ∈ ns)) c))
theorem cr_setLI (hc : X.calm = true) : CallR X (.type "set") (rSetLI X.K X.w) := by
  intro pins s σ H vs us Q I r h
  obtain ⟨t, ns, rfl, hq, hl, h64, k⟩ := h
  rw [Vals.ref1 r]
  obtain ⟨its, rv, ⟨o, n, ho, hcl, _, hdat⟩, hz⟩ := I.list hq
  refine set_of_list ns (I.ok.hd hc) ⟨o, ho, hcl, n, hdat⟩ (Vals.ints rv) (by unfold scanBound; omega) fun h' tk c R kp => ?_
  have hf : H s.heap.objs.size = none := I.hok.fresh (Nat.le_refl _)
  exact ⟨.ref _, upd H s.heap.objs.size (SetO X.w s.heap.objs.size _ c), I.laid (t' := tk) kp (Nat.le_refl _) (setO_new R), rfl, k _ c (Fw.setR_small R h64) hf⟩
end
end L2
namespace Fw
open PySem PySem.Spec PyProof.Rows L2
def valsI : List (D × D) → Option (List Int)
  | [] => some []
  | (.int _, .int v) :: r => (valsI r).map (v :: ·)
  | _ :: _ => none
theorem valsI_keys : ∀ {kvs : List (D × D)} {ns : List Int}, valsI kvs = some ns → ∃ ks, keysI kvs = some ks
  | [], _, _ => ⟨[], rfl⟩
  | (k, v) :: r, ns, h => by
    match k, v, h with
    | .int i, .int j, h =>
      simp only [valsI] at h
      obtain ⟨q, hq, rfl⟩ := Option.map_eq_some_iff.mp h
      obtain ⟨ks, hks⟩ := valsI_keys hq
      exact ⟨i :: ks, by simp only [keysI, hks, Option.map_some]⟩
theorem valsI_rep {K : PySem.W.Frag} {I : List Addr} {F : Hp} : ∀ {vs : List (Key × V)} {ds : List (D × D)} {ns : List Int}, RepK K I F vs ds → valsI ds = some ns → vs.map (·.2) = ns.map V.int
  | _, _, ns, .nil, h => by
    simp only [valsI] at h
    cases h
    rfl
  | _, _, ns, .cons (k := k) (v := v) (d := d) a b, h => by
    cases k with
    | inl i =>
      match d, h, a with
      | .int j, h, a =>
        simp only [kD, valsI] at h
        obtain ⟨ms, hm, rfl⟩ := Option.map_eq_some_iff.mp h
        cases a
        rw [List.map_cons, valsI_rep b hm]
        rfl
    | inr x => simp only [kD, valsI] at h; cases h
def oSortVals : D → Option Ob
  | .dct kvs => (match valsI kvs with
    | some ns => if ns.length ≤ 4000 ∧ (setI ns).length < 64 then some (.lst ((setI ns).map .int)) else none
    | none => none)
  | _ => none
@[simp] theorem oSortVals_d {kvs : List (D × D)} {ns : List Int} (h : valsI kvs = some ns) (h1 : ns.length ≤ 4000) (h2 : (setI ns).length < 64) : oSortVals (.dct kvs) = some (.lst ((setI ns).map .int)) := by
  simp only [oSortVals, h]
  rw [if_pos ⟨h1, h2⟩]
section
variable {X : Cx} {W : WX} {o : Expr} {oa : Opd} {p p2 p3 pos q q2 apos mpos : Pos}
theorem sf_sortVals (hc : X.calm = true) (hg : Gl X "sorted") (hm : X.mg "sorted" = none) (hg2 : Gl X "set") (hm2 : X.mg "set" = none) (hg3 : Gl X "list") (hm3 : X.mg "list" = none) (ha : SO X W o oa)
    (hbase : attributeBase o "values" X.env (eval o X.env) = eval o X.env := by rfl) (hline : (apos.endLine == mpos.line) = true := by rfl)
    (hse : starEach [Expr.Call (.Attribute o "values" apos) [] [] mpos] X.env = [(false, eval (Expr.Call (.Attribute o "values" apos) [] [] mpos) X.env)] := by rfl)
    (hs2 : starEach [Expr.Call (.Name "list" p3) [.Call (.Attribute o "values" apos) [] [] mpos] [] q2] X.env = (false, eval (Expr.Call (.Name "list" p3) [.Call (.Attribute o "values" apos) [] [] mpos] [] q2) X.env) :: starEach [] X.env := by rfl)
    (hs3 : starEach [Expr.Call (.Name "set" p2) [.Call (.Name "list" p3) [.Call (.Attribute o "values" apos) [] [] mpos] [] q2] [] q] X.env = (false, eval (Expr.Call (.Name "set" p2) [.Call (.Name "list" p3) [.Call (.Attribute o "values" apos) [] [] mpos] [] q2] [] q) X.env) :: starEach [] X.env := by rfl) :
    SF X W (.Call (.Name "sorted" p) [.Call (.Name "set" p2) [.Call (.Name "list" p3) [.Call (.Attribute o "values" apos) [] [] mpos] [] q2] [] q] [] pos) (f1 oSortVals oa) := by
  obtain ⟨ta, a1, a2⟩ := ha
  have e1 := pe_lstVals (p := p3) (pos := q2) hc hg3 hm3 a1 hbase hline hse
  have e2 := pe_callTy (p := p2) (pos := q) (x := "set") (T := "set") (cr_setLI hc) hg2 hm2 (by decide +kernel) (pa_cons e1 pa_nil hs2) (he := hs2)
  have e3 := pe_callB (p := p) (pos := pos) (x := "sorted") (id := "sorted") (cr_sortedSet hc) hg hm (by decide +kernel) (pa_cons e2 pa_nil hs3) (he := hs3)
  refine ⟨_, e3, fun g I F s σ H Q x hq => ?_⟩
  refine one (R := fun v H1 => kLstVals v H1 fun v2 H2 => rSetLI X.K X.w [v2] H2 fun v3 H3 => rSortedSet X.w [v3] H3 Q) (Po := fun o => PoF X W g σ o Q) (k := fun d s => match oSortVals d with
    | some b => .ok b s
    | none => .stuck) a2 (fun c s q => q) (fun q => q) x hq fun I F s H v dx sm rx k => ?_
  cases e : oSortVals dx with
  | none => simp only [e] at k; exact k.elim
  | some b =>
    simp only [e] at k
    cases dx with
    | dct kvs =>
      cases hi : valsI kvs with
      | none => simp only [oSortVals, hi] at e; cases e
      | some ns =>
        simp only [oSortVals, hi] at e
        by_cases hk : ns.length ≤ 4000 ∧ (setI ns).length < 64
        · rw [if_pos hk] at e
          cases e
          obtain ⟨ks, hks⟩ := valsI_keys hi
          obtain ⟨t, vs, rfl, h1, r1⟩ := rx.dK sm.sub hks
          have hvs := valsI_rep r1 hi
          refine ⟨t, vs, rfl, h1, fun b1 hb1 => ?_⟩
          rw [hvs]
          refine ⟨b1, ns, rfl, SqL.of upd_same, hk.1, hk.2, fun b2 c hc64 hb2 => ?_⟩
          refine ⟨b2, _, c, rfl, upd_same, hc64, fun ms z hup hmem hlen hz => ?_⟩
          have e : ms = setI ns := up_same hup (setI_up ns) fun k => by rw [hmem, mem_setI]; simp
          subst e
          have s1 := sm.fresh (o := .lst (ns.map V.int)) hb1
          exact k _ _ _ _ _ (s1.fresh hb2) hz (.lst (repL_ints _))
        · rw [if_neg hk] at e; cases e
    | _ => cases e
end
end Fw
namespace Fw
open PySem PySem.Spec PyProof.Rows L2
/-! ### methods and classes from their texts; dict(d) -/
section
variable {P : Program} {w : World} {K : PySem.W.Frag} {mg : Str → Option Value} {base : Heap}
theorem dm_mk {x qual C m : Str} {st : Stmt} {f : Addr} {fd : FuncData} {N ps : List Str} {k : Nat} {body : M Fl} (Fu : Fun K x qual st f fd) (Sc : FnScope N ps (defScope st)) (hm : Meth K (He.ga K C) m f) (hbi : Binds K fd ps []) {φ : List D → List Ob → FOut}
    (hφ : φ = fun ds st => if ds.length = ps.length then runS N.length body ds st else .stuck)
    (hb : ∀ (cdv : Value) (A : Around) (outer : List Env) (s : Shared) (H : Hp) (E : XK), Room k (A.deeper (PyProof.Rows.envOfC qual (defScope st) s.heap.objs.size f cdv)) → Takes (cxF P w K mg base N qual (defScope st) f cdv A outer s H E) (wE E) →
      PassesOwn (model P w) (cxF P w K mg base N qual (defScope st) f cdv A outer s H E).A (cxF P w K mg base N qual (defScope st) f cdv A outer s H E).env (cxF P w K mg base N qual (defScope st) f cdv A outer s H E).xe →
      SB (cxF P w K mg base N qual (defScope st) f cdv A outer s H E) (wE E) (defBody st) body) : DM P w K mg base (k + 1) C m φ := by
  subst hφ
  refine ⟨⟨f, fd, ps, fnS Fu Sc (fun ds st h => ?_) hb, hm, hbi⟩⟩
  by_cases e : ds.length = ps.length
  · exact ⟨e, if_pos e⟩
  · exact absurd (if_neg e) h
theorem dk_mk {x qual C : Str} {st : Stmt} {f : Addr} {fd : FuncData} {N ps : List Str} {k : Nat} {body : M Fl} (Fu : Fun K x qual st f fd) (Sc : FnScope N ps (defScope st)) (hk : Mk K (He.ga K C) f) (hm : mg C = some (.ref (He.ga K C))) (hbi : Binds K fd ps []) {φ : List D → List Ob → FOut}
    (hφ : φ = fun ds st => if ds.length = ps.length then runS N.length body ds st else .stuck)
    (hb : ∀ (cdv : Value) (A : Around) (outer : List Env) (s : Shared) (H : Hp) (E : XK), Room k (A.deeper (PyProof.Rows.envOfC qual (defScope st) s.heap.objs.size f cdv)) → Takes (cxF P w K mg base N qual (defScope st) f cdv A outer s H E) (wE E) →
      PassesOwn (model P w) (cxF P w K mg base N qual (defScope st) f cdv A outer s H E).A (cxF P w K mg base N qual (defScope st) f cdv A outer s H E).env (cxF P w K mg base N qual (defScope st) f cdv A outer s H E).xe →
      SB (cxF P w K mg base N qual (defScope st) f cdv A outer s H E) (wE E) (defBody st) body) : DK P w K mg base (k + 1) C φ := by
  subst hφ
  refine ⟨⟨f, fd, ps, fnS Fu Sc (fun ds st h => ?_) hb, hk, hm, hbi⟩⟩
  by_cases e : ds.length = ps.length
  · exact ⟨e, if_pos e⟩
  · exact absurd (if_neg e) h
/-- the def that stands at i of a class's body -/
def inCls (st : Stmt) (i : Nat) : Stmt := match st with
  | .ClassDef _ _ _ body _ _ _ _ _ _ _ => body.getD i (.Pass ⟨0, 0, 0, 0⟩)
  | st => st
theorem RW.dKt {I : List Addr} {F H : Hp} {v : V} {kvs : List (D × D)} (r : RW K I F H v (.dct kvs)) (hs : Same F H) (hk : isTd kvs = false) : ∃ b vs, v = .ref b ∧ Rd H b (.dK vs) ∧ RepK K I F vs kvs := by
  cases r with
  | r h =>
    cases h with
    | dK q r =>
      refine ⟨_, _, rfl, ?_, r⟩
      rcases q with q | ⟨o, q⟩
      · exact .inl (hs _ _ q)
      · exact .inr ⟨o, hs _ _ q⟩
    | dT q r => simp [isTd] at hk
  | o e hr ed =>
    cases hr with
    | dK r =>
      cases ed
      exact ⟨_, _, rfl, .inl e, r⟩
    | dT r =>
      cases ed
      simp [isTd] at hk
    | lst _ => cases ed
    | ins _ => cases ed
end
section
variable {X : Cx} {W : WX} {a : Expr} {oa : Opd} {pos p : Pos}
def oDictD : D → Option Ob
  | .dct kvs => if isTd kvs = false then some (.dct kvs) else none
  | _ => none
theorem sf_dictD (hg : Gl X "dict") (hm : X.mg "dict" = none) (ha : SO X W a oa) (hst : starEach [a] X.env = (false, eval a X.env) :: starEach [] X.env := by rfl) : SF X W (.Call (.Name "dict" p) [a] [] pos) (f1 oDictD oa) := by
  refine sf_c1 (fun h => pe_callTy call_dictD hg hm (by decide +kernel) h (he := hst)) ?_ ha hst
  intro g I F s σ H Q x dx d sm rx e q
  cases dx with
  | dct kvs =>
    simp only [oDictD] at e
    by_cases hk : isTd kvs = false
    · rw [if_pos hk] at e
      cases e
      obtain ⟨b, vs, rfl, h1, r1⟩ := rx.dKt sm.sub hk
      exact ⟨b, vs, rfl, h1, fun p hp => q _ _ _ _ _ sm hp (.dK r1)⟩
    · rw [if_neg hk] at e; cases e
  | _ => cases e
@[simp] theorem oDictD_d {kvs : List (D × D)} (h : isTd kvs = false) : oDictD (.dct kvs) = some (.dct kvs) := if_pos h
end
end Fw
namespace Fw
open PySem PySem.Spec PyProof.Rows L2
/-! ### a def that is told a caught exception: isinstance(e, c) where the exception is pinned -/
theorem cr_isX {X : Cx} {ad cl : Addr} {ob : Obj} (hp : (ad, ob) ∈ X.pn) (ec : ExcC X.K cl) (zc : Zc (.ref cl) none ob) (fv : ∃ ws, ob.data = .fields ws) : CallR X (.builtin "isinstance") (rIsE X.K cl ad) := by
  intro pn0 st0 sg0 hp0 ys ws0 Q0 J0 r0 h0
  obtain ⟨y, yv, yes, rfl, only, kit, fin⟩ := h0
  cases r0 with
  | cons q1 q2 =>
    cases q2 with
    | cons q3 q4 =>
      cases q4
      cases q1
      have same := only _ q3
      subst same
      have got := (J0.pin (ad, ob) (List.mem_append.mpr (.inl hp))).1
      obtain ⟨ws, dat⟩ := fv
      have inst : PySem.W.InstAt st0.heap ad ob cl none := by
        obtain ⟨o1, o2, o3, o4⟩ := ob
        obtain ⟨z1, z2⟩ := zc
        dsimp only at z1 z2 dat
        subst z1 z2 dat
        exact ⟨got, rfl, rfl, trivial⟩
      exact PySem.W.kia_one (PySem.W.handS_kitx_exc ec.hg ec.hk ec.hs ec.hd ec.ha ec.hn ec.ht ec.hm) J0.kIn inst kit (fun z => nomatch z) fun tk => ⟨.bl yes, hp0, J0.kept (t' := tk) fun _ _ z => z, rfl, fin⟩
def tIsE (K : PySem.W.Frag) (cl ad : Addr) (y : V) : TE := tCB (rIsE K cl ad) (tCons (tVar 0) (tCons (tC y) tNil))
section
variable {X : Cx} {ad cl : Addr} {ob : Obj} {y : Str} {v : V} {u : Value} {p p1 p2 pos : Pos}
theorem pe_isX (hp : (ad, ob) ∈ X.pn) (ec : ExcC X.K cl) (zc : Zc (.ref cl) none ob) (fv : ∃ ws, ob.data = .fields ws) (hg : Gl X "isinstance") (hm : X.mg "isinstance" = none) (he : PE X (.Name "e" p1) (tVar 0)) (hy : PE X (.Name y p2) (tC v))
    (s1 : starEach [.Name "e" p1, .Name y p2] X.env = (false, eval (.Name "e" p1) X.env) :: starEach [.Name y p2] X.env := by rfl) (s2 : starEach [.Name y p2] X.env = (false, eval (.Name y p2) X.env) :: starEach [] X.env := by rfl)
    (s3 : (backTo pos (starEach [.Name y p2] X.env)).any (·.1) = false := by rfl) : PE X (.Call (.Name "isinstance" p) [.Name "e" p1, .Name y p2] [] pos) (tIsE X.K cl ad v) :=
  pe_callB (cr_isX hp ec zc fv) hg hm (by decide +kernel) (pa_cons he (pa_cons hy pa_nil s2) s1) (he := s1) (hpl := s3)
end
theorem isE_go {K : PySem.W.Frag} {cl ad : Addr} {v : V} {cv : Value} {b : Bool} {σ : L2.St} {H : Hp} {Q : VK} (e : σ[0]? = some (some (.ref ad))) (only : ∀ u, RelV v u → u = cv) (kit : PySem.W.kitOne K (.ref cl) cv = some b) (h : Q (.bl b) H) : tIsE K cl ad v σ H Q := by
  unfold tIsE tCB tCons tVar tC tNil
  exact ⟨.ref ad, e, v, cv, b, rfl, only, kit, h⟩
/-- a def of one name, called with the exception that an except clause holds: its class as a text -/
structure DE (P : Program) (w : World) (K : PySem.W.Frag) (mg : Str → Option Value) (base : Heap) (k : Nat) (x : Str) (cs : List Str) : Prop where
  ex : ∃ f fd, mg x = some (.ref f) ∧ PySem.W.keepIn K (.ref f) = true ∧ Binds K fd ["e"] [] ∧
    ∀ (A : Around) (outer : List Env) (s : Shared) (H : Hp) (args : Args) (ad : Addr) (ob : Obj) (c : Str) (Q : VK), L2H.RoomH k A → L2H.PinOk outer H s (ad, ob) → Env0 P w K mg base A outer s H → BindsTo s fd args [("e", .ref ad)] → c ∈ cs →
      Zc (.ref (He.ga K c)) none ob → (∃ ws, ob.data = .fields ws) → (∀ H', Same H H' → Q (.str c) H') → codeAny (model P w) A (.call (.ref f) args) (CR (L2.CX P w) outer P w H s Q fun _ _ _ => False) s
theorem DE.mono {P : Program} {w : World} {K : PySem.W.Frag} {mg : Str → Option Value} {base : Heap} {j k : Nat} {x : Str} {cs : List Str} (d : DE P w K mg base j x cs) (h : j ≤ k) : DE P w K mg base k x cs := by
  obtain ⟨⟨f, fd, h1, h2, h3, h4⟩⟩ := d
  exact ⟨⟨f, fd, h1, h2, h3, fun A outer s H args ad ob c Q hr => h4 A outer s H args ad ob c Q (hr.mono h)⟩⟩
theorem de_mk {P : Program} {w : World} {K : PySem.W.Frag} {mg : Str → Option Value} {base : Heap} {x qual : Str} {st : Stmt} {f : Addr} {fd : FuncData} {N : List Str} {k : Nat} {cs : List Str} (Fu : Fun K x qual st f fd) (Sc : FnScope N ["e"] (defScope st)) {y : Str} (hm : mg y = some (.ref f)) (hbi : Binds K fd ["e"] [])
    (hb : ∀ (cdv : Value) (A : Around) (outer : List Env) (s : Shared) (H : Hp) (ad : Addr) (ob : Obj) (c : Str) (Q : VK), L2H.RoomH k (A.deeper (envOfC qual (defScope st) s.heap.objs.size f cdv)) → c ∈ cs → Zc (.ref (He.ga K c)) none ob → (∃ ws, ob.data = .fields ws) → (∀ H', Same H H' → Q (.str c) H') →
      ∃ t, PSs (L2H.cxH (L2.CX P w) P w K mg base N qual (defScope st) f cdv A outer s H (fun _ _ _ => False) (ad, ob)) (defBody st) t ∧ t { nx := fun _ H' => Q .non H', rt := Q } (L2.start N [.ref ad]) H) : DE P w K mg base (k + 1) y cs := by
  refine ⟨⟨f, fd, hm, Fu.kp, hbi, ?_⟩⟩
  intro Ar fs0 st0 hp0 ar ad ob c Q0 room pin en bt mem zc fv fin
  obtain ⟨oc, od, kV, doc, pm, an, cdv, ct, osl, rfl, lk, hcd⟩ := Fu.ex
  have kin := en.mod.kin.keeps fun b o e => (en.bs b o e).1
  have lim := en.mod.nolimit.keeps fun b o e => (en.bs b o e).1
  have hk : ∀ z ∈ (["e"] : List Str).zip [Value.ref ad], (defScope st).names.lookup z.1 = some .local ∨ ((defScope st).names.lookup z.1 = some .cell ∧ ((cellsFrom (st0.heap.objs.size + 1) (defScope st).names []).lookup z.1).isSome = true) := by
    intro ⟨z1, z2⟩ hz
    rcases Sc.par z1 (List.of_mem_zip hz).1 with q | q
    · exact .inl q
    · exact .inr ⟨q, PySem.W.cellsFrom_some _ _ _ (.inl q)⟩
  refine codeAny_call_function room.depth (kin _ _ lk) rfl Sc.co Sc.gen rfl (PySem.W.codeRec_of kin hcd) (bt _ _ _ _ ?_)
  refine wpAny_newFunctionEnv_cells Sc.kind hk fun ev hev st1 call => ?_
  subst hev
  refine ⟨lim.keeps call.toInCall.keep, codeAny_func ?_⟩
  obtain ⟨t, ht, hq⟩ := hb cdv Ar fs0 st0 hp0 ad ob c Q0 (room.deeper _) mem zc fv fin
  have J := L2H.inv_startH (CX := L2.CX P w) (E := fun _ _ _ => False) (vs := [.ref ad]) (us := [.ref ad]) Sc pin en rfl (.cons rfl .nil) call
  refine wpAny_mono (ht.run [] st1 _ hp0 _ J hq) (fun fl s' hs => ?_) fun e s' hs => hs
  have done : ∀ {σ' : L2.St} {H' : Hp} {v : V} {u : Value}, Inv (L2H.cxH (L2.CX P w) P w K mg base N qual (defScope st) f cdv Ar fs0 st0 hp0 (fun _ _ _ => False) (ad, ob)) [] σ' H' s' → RelV v u → Q0 v H' → CE fs0 P w hp0 st0 Q0 u s' :=
    fun {σ' H' v u} J1 rv q => ⟨v, H', J1.os, J1.bare, J1.base, J1.hok, rv, q⟩
  cases fl with
  | next =>
    obtain ⟨σ', H', J1, q⟩ := hs
    exact done (v := V.non) (u := Value.none) J1 rfl q
  | ret u =>
    obtain ⟨v, σ', H', J1, rv, q⟩ := hs
    exact done J1 rv q
  | brk =>
    obtain ⟨_, _, _, z⟩ := hs
    exact False.elim z
  | cont =>
    obtain ⟨_, _, _, z⟩ := hs
    exact False.elim z
/-- the call within the suite -/
def tWord (K : PySem.W.Frag) (cs : List Str) (cl : Value) (d : Option Addr) (ad : Addr) (i : Nat) : TE := fun σ H Q => σ[i]? = some (some (.ref ad)) ∧ d = none ∧ ∃ c, c ∈ cs ∧ cl = .ref (He.ga K c) ∧ ∀ H', Same H H' → Q (.str c) H'
theorem pe_word {X : Cx} {k : Nat} {x y : Str} {cs : List Str} {ad : Addr} {ob : Obj} {cl : Value} {d : Option Addr} {i : Nat} {p p1 pos : Pos} (D : DE X.prog X.w X.K X.mg X.base k x cs) (hr : L2H.RoomH k X.A) (hp : (ad, ob) ∈ X.pn) (zc : Zc cl d ob) (fv : ∃ ws, ob.data = .fields ws) (hg : Gl X x) (he : PE X (.Name y p1) (tVar i))
    (hdb : (x == ("__debug__" : Str)) = false := by decide) (s1 : starEach [.Name y p1] X.env = (false, eval (.Name y p1) X.env) :: starEach [] X.env := by rfl) (s2 : (backTo pos (starEach [] X.env)).any (·.1) = false := by rfl) :
    PE X (.Call (.Name x p) [.Name y p1] [] pos) (tWord X.K cs cl d ad i) := by
  obtain ⟨⟨f, fd, hm, hk, hb, run⟩⟩ := D
  refine ⟨fun pn0 st0 sg0 hp0 Q0 J0 h0 => ?_⟩
  obtain ⟨e0, rfl, c, mem, rfl, fin⟩ := h0
  have ha : PA X [.Name y p1] (tCons (tVar i) tNil) := pa_cons he pa_nil s1
  refine wpAny_Call_Name_kw (ld_glob J0 hg hm ?_ hdb)
  refine PySem.W.callWith_K (h₀ := X.base) J0.ok.mod.kin hk (thn (ha.run pos pn0 st0 sg0 hp0 (fun vs H1 => vs = [V.ref ad] ∧ hp0 = H1) J0 ⟨_, e0, rfl, rfl⟩) fun us s1 ⟨vs, H1, J1, r1, ev, eH⟩ => ⟨J1.kIn, ?_⟩) s1 s2
  subst ev
  rw [← eH] at J1
  cases r1 with
  | cons r2 r3 =>
    cases r3
    obtain rfl := (show _ = Value.ref ad from r2)
    have b := hb s1 [Value.ref ad] J1.kIn rfl
    rw [List.append_nil] at b
    have P1 := J1.pin (ad, ob) (List.mem_append_left _ hp)
    refine wpAny_call (codeAny_mono (run X.A X.stack s1 hp0 ⟨[Value.ref ad], []⟩ ad ob c Q0 hr ⟨P1.1, P1.2.1, fun hm => (List.mem_cons.mp (J1.stkSub ad hm)).elim P1.2.2.1 P1.2.2.2.1, P1.2.2.2.2⟩ J1.env0 b mem zc fv fin) fun r s' hq => ?_)
    cases r with
    | error e =>
      obtain ⟨_, _, _, _, _, _, _, _, _, _, _, _, z⟩ := hq
      exact z.elim
    | ok fl =>
      cases fl with
      | ret u => exact J1.after hq
      | next => exact False.elim hq
      | brk => exact False.elim hq
      | cont => exact False.elim hq
/-! ### a slot of no value may hold anything -/
theorem Sim.unAt {K : PySem.W.Frag} {g : Gh} {I : List Addr} {F H : Hp} {s : S} {σ : L2.St} (x : Sim K g I F s σ H) {i : Nat} (e : s.env[i]? = some .un) (z : Option V) : Sim K g I F s (σ.set i z) H := by
  obtain ⟨A, h1, h2, h3⟩ := x.sl
  obtain ⟨y, P, Ai, Q, q1, q2, q3, q4⟩ := h1.split e
  cases q2
  have h := q4 .un z [] .un
  rw [set_self e, ← q3] at h
  exact ⟨x.sub, ⟨A, h, h2, h3⟩, x.st, x.base, x.mono, x.pre⟩
/-- try: .. except X as e: got = word(e) -/
def unB : Option Slot → Bool
  | some .un => true
  | _ => false
theorem unB_ok {o : Option Slot} (h : unB o = true) : o = some .un := by
  unfold unB at h
  split at h
  · rfl
  · cases h
def sTryW (cs : List Str) (ie ig : Nat) (f : M Fl) : M Fl := fun s => match f s with
  | .ex c s1 => if (cs.contains c && (ie != ig && unB s1.env[ie]?)) = true then .ok .nx { s1 with env := s1.env.set ig (.v (.str c)) } else .stuck
  | o => o
@[simp] theorem r_sTryW (cs : List Str) (ie ig : Nat) (f : M Fl) (s : S) : sTryW cs ie ig f s = match f s with
  | .ex c s1 => if (cs.contains c && (ie != ig && unB s1.env[ie]?)) = true then .ok .nx { s1 with env := s1.env.set ig (.v (.str c)) } else .stuck
  | o => o := rfl
theorem ss_tryW {X : Cx} {W : WX} {k ie ig : Nat} {x y n z : Str} {cl : Value} {cs : List Str} {body : List Stmt} {f : M Fl} {np p0 p1 p2 p3 p4 pos pos' : Pos} (hst : X.stack = X.env :: X.outer) (hf : X.env.frame = some X.env.locals) (tk : Takes X W) (hr : Room k X.A)
    (nd : X.N.Nodup) (hie : X.N[ie]? = some n) (hle : X.env.kindOf n = some .local) (hig : X.N[ig]? = some z) (hlg : Loc X.env.scope z) (hfg : X.fn z = true ∨ X.env.scope.names.lookup z = some .local) (hvn : Vis X.env.scope n) (hc : Names X x cl) (hex : ∀ c u, c ∈ cs → X.mg c = some u → u = .ref (He.ga X.K c) ∧ PySem.W.exmOne X.K u cl = some true)
    (D : DE X.prog X.w X.K X.mg X.base k y cs) (hg : Gl X y) (hdn : (n == ("__debug__" : Str)) = false) (hdc : (n == ("__classdict__" : Str)) = false) (hdy : (y == ("__debug__" : Str)) = false)
    (hb : ∀ (W' : WX) (pn : List (Addr × Obj)) (xe : Value → Shared → Prop), Takes (X.tr pn xe) W' → PassesOwn (model X.prog X.w) X.A X.env xe → SB (X.tr pn xe) W' body f)
    (hsw : swapsWith (.Call (.Name y p1) [.Name n p2] [] p3) (some (.Name z p0)) p4.line X.env = pure false) :
    SS X W (.Try body [.ExceptHandler (some (.Name x np)) (some n) [.Assign [.Name z p0] (.Call (.Name y p1) [.Name n p2] [] p3) p4] pos'] [] [] pos) (sTryW cs ie ig f) := by
  refine ⟨_, ps_try_as (i := ie) (tb := fun W' => tcS X W' f) (ts := fun ad cl d => tAsg (tWord X.K cs cl d ad ie) (gName ig)) hst hf nd hie hle hc tk (fun W' pn xe t p => (hb W' pn xe t p).can) (fun ad ob cl d pn zc fv => ?_), fun g I F s σ H E sm hq => ⟨g, I, F, s, sm, ?_⟩⟩
  · refine pss_one (ps_set (X := X.suite ad ((ad, ob) :: pn)) nd hig hlg (pe_word (X := X.suite ad ((ad, ob) :: pn)) (k := k) D ⟨hr.dp, hr.un⟩ List.mem_cons_self zc fv hg (pe_var hie hvn hdn hdc) hdy) hsw hfg)
  · unfold sTryW at hq
    cases e : f s with
    | stuck => rw [e] at hq; exact hq
    | ex c s1 =>
      rw [e] at hq
      simp only at hq
      intro I1 F1 σ1 H1 u x1 hu
      by_cases hk : (cs.contains c && (ie != ig && unB s1.env[ie]?)) = true
      · rw [if_pos hk] at hq
        rw [Bool.and_eq_true, Bool.and_eq_true] at hk
        obtain ⟨h1, h2, h3⟩ := hk
        have mem : c ∈ cs := by simpa using h1
        have ne : ie ≠ ig := by simpa using h2
        have un := unB_ok h3
        obtain ⟨rfl, ee⟩ := hex c u mem hu
        refine ⟨true, ee, fun _ ad na => ?_, fun z => by cases z⟩
        have lt : ie < σ1.length := by
          obtain ⟨A, a1, _⟩ := x1.sl
          rw [← a1.length]
          exact (List.getElem?_eq_some_iff.mp un).1
        refine ⟨by rw [List.getElem?_set_self lt], rfl, c, mem, rfl, fun H' hs => ?_⟩
        have x2 := x1.unAt un (some (.ref ad))
        have x3 : Sim X.K g I1 F1 s1 (σ1.set ie (some (.ref ad))) H' := x2.grow (Le.refl _) (fun b o q => hs _ _ (x2.sub b o q)) fun b o q nf => ⟨nf, hs _ _ q⟩
        have x4 := x3.set (i := ig) (w := .str c) (d := .str c) (.str c)
        have x5 := x4.unAt (i := ie) (by rw [List.getElem?_set_ne (Ne.symm ne)]; exact un) none
        exact hq I1 F1 _ H' x5
      · rw [if_neg hk] at hq
        exact hq.elim
    | ok fl s1 =>
      rw [e] at hq
      cases fl with
      | nx => exact hq
      | rt d => exact hq
      | bk => exact hq
      | ct => exact hq
/-! ### the word of an error -/
def cs8 : List Str := ["BadThrow", "Over", "NoName", "Known", "Full", "NoThrow", "BadMend", "NothingBack"]
structure WordF (K : PySem.W.Frag) : Prop where
  ec : ∀ x, x ∈ cs8 → ExcC K (He.ga K x)
  cc : ∀ x y, x ∈ cs8 → y ∈ cs8 → PySem.W.kitOne K (.ref (He.ga K x)) (.ref (He.ga K y)) = some (decide (x = y))
  ve : ∀ x, x ∈ cs8 → PySem.W.kitOne K (.ref (He.ga K x)) (.type "ValueError") = some true
def tIs4 (K : PySem.W.Frag) (cl ad : Addr) (a b c d : Str) : TE := tLst (tCons (tIsE K cl ad (.ref (He.ga K a))) (tCons (tIsE K cl ad (.ref (He.ga K b))) (tCons (tIsE K cl ad (.ref (He.ga K c))) (tCons (tIsE K cl ad (.ref (He.ga K d))) tNil))))
def tWordB (K : PySem.W.Frag) (cl ad : Addr) : TS :=
  tSeq (tAsg (tIs4 K cl ad "BadThrow" "Over" "NoName" "Known") (gName 1))
    (tSeq (tAsg (tOp (rCatL K) (tVar 1) (tIs4 K cl ad "Full" "NoThrow" "BadMend" "NothingBack")) (gName 1))
      (tSeq (tAsg (tTup (tCons (tC (.str "BadThrow")) (tCons (tC (.str "Over")) (tCons (tC (.str "NoName")) (tCons (tC (.str "Known")) (tCons (tC (.str "Full")) (tCons (tC (.str "NoThrow")) (tCons (tC (.str "BadMend")) (tCons (tC (.str "NothingBack")) tNil))))))))) (gName 2))
        (tSeq (tIfS (tOr (tTest (tOp rNe (tBM K "list" (rCountD K) (tVar 1) (tCons (tC (.bl true)) tNil)) (tC (.int 1)))) (tNot (tB (tIsE K cl ad (.ty "ValueError"))))) (tRet (tC (.str "none of these"))) tNext)
          (tRet (tOp (rIx K) (tVar 2) (tBM K "list" (rIndexD K) (tVar 1) (tCons (tC (.bl true)) tNil)))))))
theorem is4_go {K : PySem.W.Frag} {ad : Addr} (F : WordF K) {x a b c d : Str} (hx : x ∈ cs8) (ha : a ∈ cs8) (hb : b ∈ cs8) (hc : c ∈ cs8) (hd : d ∈ cs8) {σ : L2.St} {H : Hp} {Q : VK} (e : σ[0]? = some (some (.ref ad)))
    (h : ∀ p, H p = none → Q (.ref p) (upd H p (.lst [.bl (decide (x = a)), .bl (decide (x = b)), .bl (decide (x = c)), .bl (decide (x = d))]))) : tIs4 K (He.ga K x) ad a b c d σ H Q := by
  unfold tIs4 tLst
  show tIsE K (He.ga K x) ad (.ref (He.ga K a)) σ H _
  refine isE_go e (fun u r => r) (F.cc x a hx ha) ?_
  show tIsE K (He.ga K x) ad (.ref (He.ga K b)) σ H _
  refine isE_go e (fun u r => r) (F.cc x b hx hb) ?_
  show tIsE K (He.ga K x) ad (.ref (He.ga K c)) σ H _
  refine isE_go e (fun u r => r) (F.cc x c hx hc) ?_
  show tIsE K (He.ga K x) ad (.ref (He.ga K d)) σ H _
  refine isE_go e (fun u r => r) (F.cc x d hx hd) ?_
  exact ⟨by show 4 ≤ sizeLine; rw [sizeLine_eq]; omega, fun p hp => h p hp⟩
theorem eight_dp {K : PySem.W.Frag} {H : Hp} {p : Addr} {l : List Bool} (h : H p = some (.lst (l.map .bl))) : Dp K H (.ref p) (.list (l.map .bool)) := by
  refine .lst (SqL.of h) ?_
  clear h
  induction l with
  | nil => exact .nil
  | cons b l ih => exact .cons (.bl b) ih
theorem same_upd {H : Hp} {p : Addr} {o : HO} (h : H p = none) : Same H (upd H p o) := fun b u e => by rw [upd_ne (ne_of_none e h)]; exact e
def firstT : List Bool → Option Nat
  | [] => none
  | b :: l => if b = true then some 0 else (firstT l).map (· + 1)
theorem firstT_at : ∀ {l : List Bool} {j : Nat}, firstT l = some j → l[j]? = some true ∧ ∀ (m : Nat) (z : Bool), m < j → l[m]? = some z → z = false
  | [], j, h => by cases h
  | b :: l, j, h => by
    unfold firstT at h
    cases b with
    | true =>
      cases h
      exact ⟨rfl, fun m _ hm => absurd hm (Nat.not_lt_zero _)⟩
    | false =>
      cases q : firstT l with
      | none => rw [q] at h; cases h
      | some i =>
        rw [q] at h
        cases h
        obtain ⟨a1, a2⟩ := firstT_at q
        refine ⟨by simpa using a1, fun m z hm hz => ?_⟩
        cases m with
        | zero => have : false = z := by simpa using hz
                  exact this.symm
        | succ m => exact a2 m z (by have : m + 1 < i + 1 := hm; omega) (by simpa using hz)
theorem word_tail {K : PySem.W.Frag} {ad p3 p4 : Addr} (F : WordF K) {c : Str} (hc : c ∈ cs8) {H4 : Hp} {D : Ends} (l3 : H4 p3 = some (.lst ((cs8.map fun y => decide (c = y)).map .bl))) (l4 : H4 p4 = some (.tup (cs8.map .str))) (fin : D.rt (.str c) H4) :
    tSeq (tIfS (tOr (tTest (tOp rNe (tBM K "list" (rCountD K) (tVar 1) (tCons (tC (.bl true)) tNil)) (tC (.int 1)))) (tNot (tB (tIsE K (He.ga K c) ad (.ty "ValueError"))))) (tRet (tC (.str "none of these"))) tNext)
          (tRet (tOp (rIx K) (tVar 2) (tBM K "list" (rIndexD K) (tVar 1) (tCons (tC (.bl true)) tNil)))) D [some (.ref ad), some (.ref p3), some (.ref p4)] H4 := by
  have fs : ((((cs8.map fun y => decide (c = y)).map PyData.bool).countP fun z => PyData.eqv z (.bool true)) = 1 ∧ SeqAt.shaped (.list ((cs8.map fun y => decide (c = y)).map .bool)) = true) ∧ ∃ j : Nat, firstT (cs8.map fun y => decide (c = y)) = some j ∧ atI (cs8.map V.str) (j : Int) = some (.str c) := by
    have hc' := hc
    unfold cs8 at hc'
    simp only [List.mem_cons, List.not_mem_nil, or_false] at hc'
    rcases hc' with rfl | rfl | rfl | rfl | rfl | rfl | rfl | rfl
    · exact ⟨by decide +kernel, 0, by decide +kernel, by decide +kernel⟩
    · exact ⟨by decide +kernel, 1, by decide +kernel, by decide +kernel⟩
    · exact ⟨by decide +kernel, 2, by decide +kernel, by decide +kernel⟩
    · exact ⟨by decide +kernel, 3, by decide +kernel, by decide +kernel⟩
    · exact ⟨by decide +kernel, 4, by decide +kernel, by decide +kernel⟩
    · exact ⟨by decide +kernel, 5, by decide +kernel, by decide +kernel⟩
    · exact ⟨by decide +kernel, 6, by decide +kernel, by decide +kernel⟩
    · exact ⟨by decide +kernel, 7, by decide +kernel, by decide +kernel⟩
  generalize (cs8.map fun y => decide (c = y)) = L at *
  obtain ⟨⟨f1, sh⟩, j, j0, j3⟩ := fs
  obtain ⟨j1, j2⟩ := firstT_at j0
  have dl : Dp K H4 (.ref p3) (.list (L.map .bool)) := eight_dp l3
  have ty : tyV K "list" (.ref p3) H4 := .inl ⟨rfl, _, SqL.of l3⟩
  unfold tSeq tIfS tOr tTest tOp tBM tVar tCons tC tNil
  refine ⟨.ref p3, rfl, ty, p3, .bl true, .bool true, L.map .bool, rfl, rfl, dl, .bl true, sh, by decide +kernel, ?_⟩
  rw [f1]
  refine ⟨rfl, ⟨false, rfl, ?_⟩⟩
  show tIsE K (He.ga K c) ad (.ty "ValueError") _ _ _
  refine isE_go (K := K) rfl (fun u r => r) (F.ve c hc) ⟨true, rfl, ?_⟩
  refine ⟨.ref p4, rfl, .ref p3, rfl, ty, p3, .bl true, .bool true, L.map .bool, j, .bool true, rfl, rfl, dl, .bl true, sh, by decide +kernel, by rw [List.getElem?_map, j1]; rfl, by decide +kernel, fun m z hm hz => ?_, ?_⟩
  · rw [List.getElem?_map] at hz
    cases q : L[m]? with
    | none => rw [q] at hz; cases hz
    | some b =>
      rw [q] at hz
      have : PyData.bool b = z := Option.some.inj hz
      rw [← this, j2 m b hm q]
      decide +kernel
  · exact .inr (.inl ⟨p4, _, _, _, rfl, rfl, SqT.of l4, j3, fin⟩)
theorem word_go {K : PySem.W.Frag} {ad : Addr} (F : WordF K) {c : Str} (hc : c ∈ cs8) {H : Hp} {Q : VK} (h : ∀ H', Same H H' → Q (.str c) H') : tWordB K (He.ga K c) ad { nx := fun _ H' => Q .non H', rt := Q } (L2.start ["e", "sorts", "names"] [.ref ad]) H := by
  have m : ∀ y : Str, decide (y ∈ cs8) = true → y ∈ cs8 := fun y z => of_decide_eq_true z
  have st0 : L2.start ["e", "sorts", "names"] [.ref ad] = [some (.ref ad), none, none] := by
    unfold L2.start
    rfl
  rw [st0]
  clear st0
  unfold tWordB tSeq tAsg
  refine is4_go F hc (m _ (by decide)) (m _ (by decide)) (m _ (by decide)) (m _ (by decide)) rfl fun p1 h1 => ?_
  unfold gName tOp
  refine ⟨.ref p1, rfl, ?_⟩
  refine is4_go F hc (m _ (by decide)) (m _ (by decide)) (m _ (by decide)) (m _ (by decide)) rfl fun p2 h2 => ?_
  have s1 := same_upd (o := .lst [.bl (decide (c = "BadThrow")), .bl (decide (c = "Over")), .bl (decide (c = "NoName")), .bl (decide (c = "Known"))]) h1
  generalize hA : upd H p1 (.lst [.bl (decide (c = "BadThrow")), .bl (decide (c = "Over")), .bl (decide (c = "NoName")), .bl (decide (c = "Known"))]) = H1 at *
  have l1 : H1 p1 = some (.lst [.bl (decide (c = "BadThrow")), .bl (decide (c = "Over")), .bl (decide (c = "NoName")), .bl (decide (c = "Known"))]) := by rw [← hA]; exact upd_same
  have s2 := same_upd (o := .lst [.bl (decide (c = "Full")), .bl (decide (c = "NoThrow")), .bl (decide (c = "BadMend")), .bl (decide (c = "NothingBack"))]) h2
  generalize hB : upd H1 p2 (.lst [.bl (decide (c = "Full")), .bl (decide (c = "NoThrow")), .bl (decide (c = "BadMend")), .bl (decide (c = "NothingBack"))]) = H2 at *
  have l2 : H2 p2 = some (.lst [.bl (decide (c = "Full")), .bl (decide (c = "NoThrow")), .bl (decide (c = "BadMend")), .bl (decide (c = "NothingBack"))]) := by rw [← hB]; exact upd_same
  refine ⟨p1, p2, _, _, rfl, rfl, SqL.of (s2 _ _ l1), SqL.of l2, by show 8 ≤ sizeLine; rw [sizeLine_eq]; omega, fun p3 h3 => ?_⟩
  have e8 : ([.bl (decide (c = "BadThrow")), .bl (decide (c = "Over")), .bl (decide (c = "NoName")), .bl (decide (c = "Known"))] ++ [.bl (decide (c = "Full")), .bl (decide (c = "NoThrow")), .bl (decide (c = "BadMend")), .bl (decide (c = "NothingBack"))] : List V) = (cs8.map fun y => decide (c = y)).map .bl := by simp only [cs8, List.map_cons, List.map_nil, List.cons_append, List.nil_append]
  rw [e8]
  generalize hL : cs8.map (fun y => decide (c = y)) = L at *
  have s3 := same_upd (o := .lst (L.map .bl)) h3
  generalize hC : upd H2 p3 (.lst (L.map .bl)) = H3 at *
  have l3 : H3 p3 = some (.lst (L.map .bl)) := by rw [← hC]; exact upd_same
  show (8 ≤ sizeLine) ∧ _
  refine ⟨by rw [sizeLine_eq]; omega, fun p4 h4 => ?_⟩
  have s4 := same_upd (o := .tup (cs8.map .str)) h4
  have sg : ((([some (.ref ad), none, none] : L2.St).set 1 (some (.ref p1))).set 1 (some (.ref p3))).set 2 (some (.ref p4)) = [some (.ref ad), some (.ref p3), some (.ref p4)] := rfl
  dsimp only
  rw [sg]
  have e9 : ([.str "BadThrow", .str "Over", .str "NoName", .str "Known", .str "Full", .str "NoThrow", .str "BadMend", .str "NothingBack"] : List V) = cs8.map .str := by simp only [cs8, List.map_cons, List.map_nil]
  rw [e9]
  generalize hD : upd H3 p4 (.tup (cs8.map .str)) = H4 at *
  have l4 : H4 p4 = some (.tup (cs8.map .str)) := by rw [← hD]; exact upd_same
  subst hL
  exact word_tail F hc (D := { nx := fun _ H' => Q .non H', rt := Q }) (s4 _ _ l3) l4 (h H4 ((s1.trans s2).trans (s3.trans s4)))
theorem room65H {k : Nat} {A : Around} (r : L2H.RoomH k A) : A.units + 65 < cLine := by have := r.un; omega
/-! ### what the head tells of the errors' classes -/
def excB (K : PySem.W.Frag) (a : Addr) : Bool :=
  (He.eqO (PySem.W.findIn K (.ref a) "__getattribute__") (some (some (.builtin "BaseException.__getattribute__"))) && He.eqO (PySem.W.findIn K (.ref a) "__getattr__") (some none)) &&
  ((decide (PySem.W.subIn K (.ref a) (.type "BaseException") = some true) && PySem.W.hasDictIn K a) && (He.eqO (PySem.W.findIn K (.ref a) "__class__") (some (some (.builtin "object.__class__"))) && decide (PySem.W.mroIn K a (.type "object") = some true)))
def wordB (K : PySem.W.Frag) : Bool :=
  (He.eqO (PySem.W.specialIn K (.builtin "object.__class__") "__get__") (some (some (.builtin "getset_descriptor.__get__"))) && decide (PySem.W.takesIn K (.builtin "object.__class__") = some true)) &&
  cs8.all fun x => excB K (He.ga K x) && (decide (PySem.W.kitOne K (.ref (He.ga K x)) (.type "ValueError") = some true) && cs8.all fun y => decide (PySem.W.kitOne K (.ref (He.ga K x)) (.ref (He.ga K y)) = some (decide (x = y))))
theorem wordB_ok {K : PySem.W.Frag} (h : wordB K = true) : WordF K := by
  unfold wordB at h
  simp only [Bool.and_eq_true, decide_eq_true_eq, List.all_eq_true] at h
  obtain ⟨⟨h1, h2⟩, h3⟩ := h
  refine ⟨fun x hx => ?_, fun x y hx hy => (h3 x hx).2.2 y hy, fun x hx => (h3 x hx).2.1⟩
  have e := (h3 x hx).1
  unfold excB at e
  simp only [Bool.and_eq_true, decide_eq_true_eq] at e
  obtain ⟨⟨e1, e2⟩, ⟨e3, e4⟩, e5, e6⟩ := e
  exact ⟨He.eqO_ok e1, He.eqO_ok e2, e3, e4, He.eqO_ok e5, He.eqO_ok h1, h2, e6⟩
def obsW (n : Nat) (fa : List He.Fa) (fn : List He.DefD) (gt : Addr → Option Obj) : He.AlD × Bool := (He.obsD fa fn (He.frG gt (He.asD gt n)), wordB (He.frG gt (He.asD gt n)))
def hookW (n : Nat) (fa : List He.Fa) (fn : List He.DefD) : PySem.W.Hook :=
  { α := He.AlD × Bool, obs := fun z => obsW n fa fn z.heap.get?, val := fun _ => (He.valD fn, true), says := fun _ hp => ∃ K : PySem.W.Frag, K.In hp ∧ (He.SaysD fa fn K ∧ wordB K = true),
    of := fun _ _ e => ⟨_, He.frG_in, congrArg Prod.fst e, congrArg Prod.snd e⟩, keeps := fun _ _ _ ⟨K, a, b⟩ k => ⟨K, PySem.W.Frag.In.keeps a k, b⟩ }
theorem obsW_eq {n : Nat} {fa : List He.Fa} {fn : List He.DefD} {gt : Addr → Option Obj} {z : Shared} (h : ∀ a, gt a = z.heap.get? a) : obsW n fa fn gt = (hookW n fa fn).obs z := by
  obtain rfl : gt = z.heap.get? := funext h
  rfl
end Fw
namespace Lk01
open PySem L2 Fw
def b_pins_of : M Fl :=
  (sRet (e2 dFdiv (.ex (e2 dMulI (.ex (e2 dIx (.sn 0) (.ex (eC (.int 0))))) (.ex (e2 dAdd (.ex (e2 dIx (.sn 0) (.ex (eC (.int 0))))) (.ex (eC (.int 1))))))) (.ex (eC (.int 2)))))
def f_pins_of (ds : List D) : POut := if ds.length = 1 then runP 1 b_pins_of ds else .stuck

def b_row_of : M Fl :=
  (bSeq (sAsg (eC (.int 1)) (gNm 1))
    (bSeq (whileN (tB1 (e2 dLt (.ex (e2 dFdiv (.ex (e2 dMulI (.sn 1) (.ex (e2 dAdd (.sn 1) (.ex (eC (.int 1))))))) (.ex (eC (.int 2))))) (.sn 0))) (sAsg (e2 dAdd (.sn 1) (.ex (eC (.int 1)))) (gNm 1)) 1000000)
    (sRet (eVar 1))))
def f_row_of (ds : List D) : POut := if ds.length = 1 then runP 2 b_row_of ds else .stuck

def b_pin_at : M Fl :=
  (bSeq (sIf (tNotM (tB1 (eChain dLe dLe (.ex (eC (.int 1))) (.sn 1) (.sn 0)))) (sRet (eC (.int 0))) bNil)
    (sRet (e2 dAdd (.ex (e2 dFdiv (.ex (e2 dMulI (.sn 0) (.ex (e2 (iOp (· - ·)) (.sn 0) (.ex (eC (.int 1))))))) (.ex (eC (.int 2))))) (.sn 1))))
def f_pin_at (ds : List D) : POut := if ds.length = 2 then runP 2 b_pin_at ds else .stuck

def b_beside : M Fl :=
  (bSeq (sAsg (eCallP f_row_of (aCons (eVar 1) aNil)) (gNm 2))
    (bSeq (sAsg (e2 (iOp (· - ·)) (.sn 1) (.ex (e2 dFdiv (.ex (e2 dMulI (.sn 2) (.ex (e2 (iOp (· - ·)) (.sn 2) (.ex (eC (.int 1))))))) (.ex (eC (.int 2)))))) (gNm 3))
    (bSeq (sAsg (eFz (fLst (aCons (eCallP f_pin_at (aCons (eVar 2) (aCons (e2 (iOp (· - ·)) (.sn 3) (.ex (eC (.int 1)))) aNil))) (aCons (eCallP f_pin_at (aCons (eVar 2) (aCons (e2 dAdd (.sn 3) (.ex (eC (.int 1)))) aNil))) (aCons (eCallP f_pin_at (aCons (e2 (iOp (· - ·)) (.sn 2) (.ex (eC (.int 1)))) (aCons (e2 (iOp (· - ·)) (.sn 3) (.ex (eC (.int 1)))) aNil))) (aCons (eCallP f_pin_at (aCons (e2 (iOp (· - ·)) (.sn 2) (.ex (eC (.int 1)))) (aCons (eVar 3) aNil))) aNil)))))) (gNm 4))
    (bSeq (sIf (tB1 (e2 dLt (.sn 2) (.ex (e2 dIx (.sn 0) (.ex (eC (.int 0))))))) (sAsg (e2 dAdd (.sn 4) (.ex (eFz (fLst (aCons (eCallP f_pin_at (aCons (e2 dAdd (.sn 2) (.ex (eC (.int 1)))) (aCons (eVar 3) aNil))) (aCons (eCallP f_pin_at (aCons (e2 dAdd (.sn 2) (.ex (eC (.int 1)))) (aCons (e2 dAdd (.sn 3) (.ex (eC (.int 1)))) aNil))) aNil)))))) (gNm 4)) bNil)
    (sRet (e1 dTuple (.ex (eFz (f1 oSorted (.ex (eFz (fLc [5] (iSeq (eVar 4)) (gNm 5) (tB1 (e2 dGt (.sn 5) (.ex (eC (.int 0))))) (eVar 5)))))))))))))
def f_beside (ds : List D) : POut := if ds.length = 2 then runP 6 b_beside ds else .stuck

def b_clumps : M Fl :=
  (bSeq (sAsg (eTup aNil) (gNm 2))
    (bSeq (sOwn 3 (f1 oList (.sn 1)))
    (bSeq (whileN (tTru (.sn 3)) (bSeq (sAsg (eFz (fLst (aCons (eMeth 3 (aCons (eC (.int 0)) aNil) k1Pop1) aNil))) (gNm 4))
    (bSeq (sAsg (eC (.int 0)) (gNm 5))
    (bSeq (whileN (tB1 (e2 dLt (.sn 5) (.ex (e1 dLen (.sn 4))))) (bSeq (sAsg (eFz (fLc [7] (iSeq (eVar 3)) (gNm 7) (tB1 (e2 (dIn false) (.sn 7) (.ex (eCallP f_beside (aCons (eVar 0) (aCons (e2 dIx (.sn 4) (.sn 5)) aNil)))))) (eVar 7))) (gNm 6))
    (bSeq (sOwn 3 (fLc [7] (iSeq (eVar 3)) (gNm 7) (tB1 (e2 (dIn true) (.sn 7) (.sn 6))) (eVar 7)))
    (bSeq (sAsg (e2 dAdd (.sn 4) (.sn 6)) (gNm 4))
    (sAsg (e2 dAdd (.sn 5) (.ex (eC (.int 1)))) (gNm 5))))) 1000000)
    (sAsg (e2 dAdd (.sn 2) (.ex (eTup (aCons (e1 dTuple (.ex (eFz (f1 oSorted (.sn 4))))) aNil)))) (gNm 2))))) 1000000)
    (sRet (eVar 2)))))
def f_clumps (ds : List D) : POut := if ds.length = 2 then runP 8 b_clumps ds else .stuck

def b_is_parted : M Fl :=
  (sRet (eAnd (e2 (dIn true) (.ex (eC (.int 1))) (.sn 1)) (e2 dGt (.ex (e1 dLen (.ex (eCallP f_clumps (aCons (eVar 0) (aCons (eVar 1) aNil)))))) (.ex (eC (.int 1))))))
def f_is_parted (ds : List D) : POut := if ds.length = 2 then runP 2 b_is_parted ds else .stuck

def b_is_wide : M Fl :=
  (sRet (eAnd (e2 (dIn false) (.ex (eC (.int 1))) (.sn 1)) (e2 dGt (.ex (e1 dLen (.ex (eCallP f_clumps (aCons (eVar 0) (aCons (eVar 1) aNil)))))) (.ex (eC (.int 1))))))
def f_is_wide (ds : List D) : POut := if ds.length = 2 then runP 2 b_is_wide ds else .stuck

def b_mirrored_f1 : M Fl :=
  (bSeq (sAsg (eCallP f_row_of (aCons (eVar 3) aNil)) (gNm 4))
    (bSeq (sAsg (e2 dAdd (.ex (e2 dFdiv (.ex (e2 dMulI (.sn 4) (.ex (e2 (iOp (· - ·)) (.sn 4) (.ex (eC (.int 1))))))) (.ex (eC (.int 2))))) (.ex (eC (.int 1)))) (gNm 5))
    (sExpr (eMeth 2 (aCons (e2 (iOp (· - ·)) (.ex (e2 (iOp (· - ·)) (.ex (e2 dAdd (.ex (e2 dAdd (.sn 5) (.sn 5))) (.sn 4))) (.ex (eC (.int 1))))) (.sn 3)) aNil) k1Append))))
def b_mirrored : M Fl :=
  (bSeq (sOwn 2 (fLst aNil))
    (bSeq (sFor (iSeq (eVar 1)) (gNm 3) b_mirrored_f1)
    (sRet (e1 dTuple (.ex (eFz (f1 oSorted (.sn 2))))))))
def f_mirrored (ds : List D) : POut := if ds.length = 2 then runP 6 b_mirrored ds else .stuck

def b__law_same (rec : List D → POut) : M Fl :=
  (bSeq (sIf (tB1 (e2 (dIs false) (.sn 1) (.ex (eC .non)))) (sRet (e2 (dIs false) (.sn 0) (.ex (eC .non)))) bNil)
    (bSeq (sIf (tTru (.ex (eIsi .bool (.sn 1)))) (sRet (eAnd (eIsi .bool (.sn 0)) (e2 dEq (.sn 0) (.sn 1)))) bNil)
    (bSeq (sIf (tTru (.ex (eIsi .tuple (.sn 1)))) (bSeq (sIf (tOrM (tNotM (tTru (.ex (eIsi .tuple (.sn 0))))) (tB1 (e2 dNe (.ex (e1 dLen (.sn 0))) (.ex (e1 dLen (.sn 1)))))) (sRet (eC (.bl false))) bNil)
    (sRet (e1 dAll (.ex (eFz (fLc [2, 3] (iZip (aCons (eVar 0) (aCons (eVar 1) aNil))) (gTp 2 (gNms [2, 3])) tYesM (eCallP rec (aCons (eVar 2) (aCons (eVar 3) aNil))))))))) bNil)
    (bSeq (sIf (tTru (.ex (eIsi .str (.sn 1)))) (sRet (eAnd (eIsi .str (.sn 0)) (e2 dEq (.sn 0) (.sn 1)))) bNil)
    (sRet (eAnd (eIsi .int (.sn 0)) (eAnd (eNot (eIsi .bool (.sn 0))) (e2 dEq (.sn 0) (.sn 1)))))))))
def f__law_same : Nat → List D → POut
  | 0, _ => .stuck
  | n + 1, ds => if ds.length = 2 then runP 4 (b__law_same (f__law_same n)) ds else .stuck

def b__law_draw : M Fl :=
  (bSeq (sExpr (eMeth 1 (aCons (eC (.int 0)) aNil) k1Append))
    (bSeq (sAsg (e1 dLen (.sn 1)) (gNm 3))
    (bSeq (sAsg (eC (.int 0)) (gNm 4))
    (bSeq (sIf (tTru (.sn 0)) (sAsg (e2 dIx (.sn 0) (.ex (e2 dMod (.sn 3) (.ex (e1 dLen (.sn 0)))))) (gNm 4)) bNil)
    (bSeq (sAsg (e2 dMod (.ex (e2 dAdd (.sn 4) (.ex (e2 dMulI (.ex (eC (.int 104729))) (.sn 3))))) (.ex (eC (.int 4294967291)))) (gNm 5))
    (bSeq (sAsg (e2 dMod (.ex (e2 dMulI (.ex (e2 dMod (.ex (e2 dMulI (.sn 5) (.sn 5))) (.ex (eC (.int 4294967279))))) (.ex (eC (.int 48271))))) (.ex (eC (.int 4294967291)))) (gNm 5))
    (bSeq (sAsg (e2 dMod (.ex (e2 dMulI (.ex (e2 dMod (.ex (e2 dMulI (.sn 5) (.sn 5))) (.ex (eC (.int 4294967279))))) (.ex (eC (.int 69621))))) (.ex (eC (.int 4294967291)))) (gNm 6))
    (sRet (e2 dMod (.ex (e2 dAdd (.ex (e2 dMulI (.ex (e2 dFdiv (.sn 5) (.ex (eC (.int 64))))) (.ex (eC (.int 67108864))))) (.ex (e2 dFdiv (.sn 6) (.ex (eC (.int 64))))))) (.sn 2))))))))))
def f__law_draw (ds : List D) (st : List Ob) : FOut := if ds.length = 3 then runS 7 b__law_draw ds st else .stuck

def b__law_every : M Fl :=
  (sRet (e2 dTupR2 (.ex (eC (.int 1))) (.ex (e2 dAdd (.ex (e2 dFdiv (.ex (e2 dMulI (.ex (e2 dIx (.sn 0) (.ex (eC (.int 0))))) (.ex (e2 dAdd (.ex (e2 dIx (.sn 0) (.ex (eC (.int 0))))) (.ex (eC (.int 1))))))) (.ex (eC (.int 2))))) (.ex (eC (.int 1)))))))
def f__law_every (ds : List D) : POut := if ds.length = 1 then runP 1 b__law_every ds else .stuck

def b__law_few : M Fl :=
  (bSeq (sAsg (eCallS f__law_draw (aCons (eVar 0) (aCons (eVar 1) (aCons (eC (.int 7)) aNil)))) (gNm 3))
    (bSeq (sIf (tB1 (e2 dLt (.sn 3) (.ex (eC (.int 2))))) (sRet (e2 dMulT (.sn 2) (.sn 3))) bNil)
    (bSeq (sIf (tB1 (e2 dEq (.sn 3) (.ex (eC (.int 2))))) (sRet (eVar 2)) bNil)
    (sRet (e1 dTuple (.ex (eFz (fLc [4] (iSeq (eVar 2)) (gNm 4) (tB1 (e2 dEq (.ex (eCallS f__law_draw (aCons (eVar 0) (aCons (eVar 1) (aCons (eC (.int 2)) aNil))))) (.ex (eC (.int 0))))) (eVar 4)))))))))
def f__law_few (ds : List D) (st : List Ob) : FOut := if ds.length = 3 then runS 5 b__law_few ds st else .stuck

def b__law_spots_f1 : M Fl :=
  (bSeq (sAsg (e2 dAdd (.sn 2) (.ex (eC (.int 1)))) (gNm 2))
    (sSD 1 (eTup (aCons (eVar 3) (aCons (e2 (iOp (· - ·)) (.ex (e2 dMulI (.ex (eC (.int 2))) (.sn 4))) (.sn 3)) aNil))) (eVar 2)))
def b__law_spots_f2 : M Fl :=
  (sFor (iRange1 (aCons (e2 dAdd (.sn 3) (.ex (eC (.int 1)))) aNil)) (gNm 4) b__law_spots_f1)
def b__law_spots : M Fl :=
  (bSeq (sOwnV 1 2 fDictK (eC (.int 0)))
    (bSeq (sFor (iRange1 (aCons (e2 dIx (.sn 0) (.ex (eC (.int 0)))) aNil)) (gNm 3) b__law_spots_f2)
    (sRet (eVar 1))))
def f__law_spots (ds : List D) : POut := if ds.length = 1 then runP 5 b__law_spots ds else .stuck

def b__law_touch : M Fl :=
  (bSeq (sAsg (e1 dAbs (.ex (e2 (iOp (· - ·)) (.ex (e2 dIx (.ex (e2 dGetD (.sn 0) (.sn 1))) (.ex (eC (.int 0))))) (.ex (e2 dIx (.ex (e2 dGetD (.sn 0) (.sn 2))) (.ex (eC (.int 0)))))))) (gNm 3))
    (bSeq (sAsg (e1 dAbs (.ex (e2 (iOp (· - ·)) (.ex (e2 dIx (.ex (e2 dGetD (.sn 0) (.sn 1))) (.ex (eC (.int 1))))) (.ex (e2 dIx (.ex (e2 dGetD (.sn 0) (.sn 2))) (.ex (eC (.int 1)))))))) (gNm 4))
    (sRet (eOr (eAnd (e2 dEq (.sn 3) (.ex (eC (.int 0)))) (e2 dEq (.sn 4) (.ex (eC (.int 2))))) (eAnd (e2 dEq (.sn 3) (.ex (eC (.int 1)))) (e2 dEq (.sn 4) (.ex (eC (.int 1)))))))))
def f__law_touch (ds : List D) : POut := if ds.length = 3 then runP 5 b__law_touch ds else .stuck

def b__law_clumps_e1 : M D :=
  (eTup (aCons (eVar 7) (aCons (eVar 7) aNil)))
def b__law_clumps_f1 : M Fl :=
  (sIf (tTru (.ex (eCallP f__law_touch (aCons (eVar 0) (aCons (eVar 4) (aCons (eVar 5) aNil)))))) (sSD 2 (e2 dMin (.ex (e2 dGetD (.sn 2) (.sn 4))) (.ex (e2 dGetD (.sn 2) (.sn 5)))) (eVar 4)) bNil)
def b__law_clumps_f2 : M Fl :=
  (sFor (iSeq (eVar 1)) (gNm 5) b__law_clumps_f1)
def b__law_clumps_f3 : M Fl :=
  (sFor (iSeq (eVar 1)) (gNm 4) b__law_clumps_f2)
def b__law_clumps_c1 : M Bool :=
  (tB1 (e2 dEq (.ex (e2 dGetD (.sn 2) (.sn 7))) (.sn 8)))
def b__law_clumps_e2 : M D :=
  (e1 dTuple (.ex (eFz (fLc [7] (iSeq (eVar 1)) (gNm 7) b__law_clumps_c1 (eVar 7)))))
def b__law_clumps : M Fl :=
  (bSeq (sOwn 2 (f1 oDictI (.ex (eFz (fLc [7] (iSeq (eVar 1)) (gNm 7) tYesM b__law_clumps_e1)))))
    (bSeq (sFor (iRange1 (aCons (e1 dLen (.sn 1)) aNil)) (gNm 3) b__law_clumps_f3)
    (bSeq (sAsg (eFz (f1 oSortVals (.sn 2))) (gNm 6))
    (sRet (e1 dTuple (.ex (eFz (fLc [8] (iSeq (eVar 6)) (gNm 8) tYesM b__law_clumps_e2))))))))
def f__law_clumps (ds : List D) : POut := if ds.length = 2 then runP 9 b__law_clumps ds else .stuck

def b_law_c1 : M Bool :=
  (tTru (.ex (eCallP f__law_touch (aCons (eVar 4) (aCons (eVar 5) (aCons (eVar 9) aNil))))))
def b_law_f1 : M Fl :=
  (bSeq (sAsg (e1 dTuple (.ex (eFz (fLc [9] (iSeq (eFz (f1 oSortK (.sn 4)))) (gNm 9) b_law_c1 (eVar 9))))) (gNm 6))
    (sIf (tOrM (tNotM (tTru (.ex (eCallP (f__law_same 12) (aCons (eCallP f_row_of (aCons (eVar 5) aNil)) (aCons (e2 dAdd (.ex (e2 dIx (.ex (e2 dGetD (.sn 4) (.sn 5))) (.ex (eC (.int 0))))) (.ex (eC (.int 1)))) aNil)))))) (tNotM (tTru (.ex (eCallP (f__law_same 12) (aCons (eCallP f_beside (aCons (eVar 3) (aCons (eVar 5) aNil))) (aCons (eVar 6) aNil))))))) (sRet (eC (.bl false))) bNil))
def b_law_e1 : M D :=
  (eTup (aCons (e2 dGetD (.sn 4) (.sn 5)) (aCons (eVar 5) aNil)))
def b_law_e2 : M D :=
  (e2 dGetD (.sn 8) (.ex (eTup (aCons (e2 dIx (.ex (e2 dGetD (.sn 4) (.sn 5))) (.ex (eC (.int 0)))) (aCons (e2 (iOp (· - ·)) (.ex (eC (.int 0))) (.ex (e2 dIx (.ex (e2 dGetD (.sn 4) (.sn 5))) (.ex (eC (.int 1)))))) aNil)))))
def b_law_r1 : M Fl :=
  (bSeq (sAsg (eCallS f__law_few (aCons (eVar 0) (aCons (eVar 1) (aCons (eCallP f__law_every (aCons (eVar 3) aNil)) aNil)))) (gNm 7))
    (bSeq (sAsg (eCallP f__law_clumps (aCons (eVar 4) (aCons (eVar 7) aNil))) (gNm 6))
    (bSeq (sIf (tNotM (tTru (.ex (eCallP (f__law_same 12) (aCons (eCallP f_clumps (aCons (eVar 3) (aCons (eVar 7) aNil))) (aCons (eVar 6) aNil)))))) (sRet (eC (.bl false))) bNil)
    (bSeq (sIf (tNotM (tTru (.ex (eCallP (f__law_same 12) (aCons (eCallP f_is_parted (aCons (eVar 3) (aCons (eVar 7) aNil))) (aCons (eAnd (e2 (dIn true) (.ex (eC (.int 1))) (.sn 7)) (e2 dGt (.ex (e1 dLen (.sn 6))) (.ex (eC (.int 1))))) aNil)))))) (sRet (eC (.bl false))) bNil)
    (bSeq (sIf (tNotM (tTru (.ex (eCallP (f__law_same 12) (aCons (eCallP f_is_wide (aCons (eVar 3) (aCons (eVar 7) aNil))) (aCons (eAnd (e2 (dIn false) (.ex (eC (.int 1))) (.sn 7)) (e2 dGt (.ex (e1 dLen (.sn 6))) (.ex (eC (.int 1))))) aNil)))))) (sRet (eC (.bl false))) bNil)
    (bSeq (sAsg (eFz (f1 oDictT (.ex (eFz (fLc [5] (iDct (·.1) (eVar 4)) (gNm 5) tYesM b_law_e1))))) (gNm 8))
    (bSeq (sAsg (e1 dTuple (.ex (eFz (f1 oSorted (.ex (eFz (fLc [5] (iSeq (eVar 7)) (gNm 5) tYesM b_law_e2))))))) (gNm 6))
    (sIf (tNotM (tTru (.ex (eCallP (f__law_same 12) (aCons (eCallP f_mirrored (aCons (eVar 3) (aCons (eVar 7) aNil))) (aCons (eVar 6) aNil)))))) (sRet (eC (.bl false))) bNil))))))))
def b_law_f2 : M Fl :=
  (bSeq (sAsg (eTup (aCons (e2 dAdd (.ex (eC (.int 1))) (.ex (eCallS f__law_draw (aCons (eVar 0) (aCons (eVar 1) (aCons (eC (.int 4)) aNil)))))) (aCons (eC (.int 2)) (aCons (eC (.int 3)) aNil)))) (gNm 3))
    (bSeq (sAsg (eCallP f__law_spots (aCons (eVar 3) aNil)) (gNm 4))
    (bSeq (sIf (tNotM (tTru (.ex (eCallP (f__law_same 12) (aCons (eCallP f_pins_of (aCons (eVar 3) aNil)) (aCons (e1 dLenK (.sn 4)) aNil)))))) (sRet (eC (.bl false))) bNil)
    (bSeq (sFor (iDct (·.1) (eVar 4)) (gNm 5) b_law_f1)
    b_law_r1))))
def b_law : M Fl :=
  (bSeq (sAsg (eNew (fLst aNil)) (gNm 1))
    (bSeq (sFor (iRange1 (aCons (eC (.int 12)) aNil)) (gNm 2) b_law_f2)
    (sRet (eC (.bl true)))))
def f_law (ds : List D) : POut := if ds.length = 1 then runP 10 b_law ds else .stuck
end Lk01
namespace Lk01
open PySem L2 Fw
/-! ### a law's own shape: the dice, a loop, True -/
theorem law_loop {body : M Fl} {sc : D} (N n : Nat) (hn : n ≤ 1000) (P : Nat → S → Prop) (h0 : P 0 ⟨.v sc :: .v (.obj 0) :: List.replicate N .un, [.lst (twn 0)]⟩)
    (step : ∀ i d s, i < n → d = .int (i : Int) → P i s → ∃ s1, gNm 2 d s = some s1 ∧ Goes body s1 (P (i + 1))) :
    Ret (bSeq (sAsg (eNew (fLst aNil)) (gNm 1)) (bSeq (sFor (iRange1 (aCons (eC (.int (n : Int))) aNil)) (gNm 2) body) (sRet (eC (.bl true))))) ⟨slots (N + 2) [sc], []⟩ (.bl true) := by
  have es : slots (N + 2) [sc] = .v sc :: .un :: List.replicate N .un := by
    show [Slot.v sc] ++ List.replicate (N + 2 - 1) Slot.un = _
    rw [show N + 2 - 1 = N + 1 by omega, List.replicate_succ]
    rfl
  rw [es]
  refine ret_seq (s1 := ⟨.v sc :: .v (.obj 0) :: List.replicate N .un, [.lst (twn 0)]⟩) (by simp [twn]) ?_
  refine ret_go (P := fun _ => True) ?_ (fun s _ => ⟨s, rfl⟩)
  refine goes_for P (s0 := ⟨.v sc :: .v (.obj 0) :: List.replicate N .un, [.lst (twn 0)]⟩) (ds := rangeD 0 n) ?_ h0 ?_ (fun _ _ => trivial)
  · exact range_nat_of rfl (by omega)
  · intro i d s hd hP
    have hi : i < n := by
      have := (List.getElem?_eq_some_iff.mp hd).1
      simpa [rangeD] using this
    have he : d = .int (i : Int) := by
      unfold rangeD at hd
      rw [List.getElem?_map, List.getElem?_range hi] at hd
      have := Option.some.inj hd
      rw [← this]
      simp
    exact step i d s hi he hP
theorem law_run {sc : D} {N : Nat} {body : M Fl} {ns : List Int} (hsc : sc = .lst (ns.map .int)) (h : Ret body ⟨slots N [sc], []⟩ (.bl true)) : runP N body [.lst (ns.map .int)] = .ok (.bl true) := by
  rw [hsc] at h
  exact runP_e (by simp [D.plainL, D.plain, plainL_ints]) rfl h
/-- for i, x in enumerate(..) -/
theorem zip_split {β : Type} {xs : List β} {p q : List (β × Nat)} {x : β × Nat} (h : xs.zipIdx 0 = p ++ x :: q) : xs = p.map (·.1) ++ x.1 :: q.map (·.1) ∧ x.2 = p.length := by
  have e1 : (xs.zipIdx 0).map (·.1) = xs := by simp
  constructor
  · rw [h, List.map_append, List.map_cons] at e1
    exact e1.symm
  · have e2 : (xs.zipIdx 0)[p.length]? = some x := by rw [h]; simp
    rw [List.getElem?_zipIdx] at e2
    cases hx : xs[p.length]? with
    | none => rw [hx] at e2; cases e2
    | some y => rw [hx] at e2; simp at e2; rw [← e2]
theorem for_enum {β : Type} {it : M (List D)} {t : Tg} {b : M Fl} {s s0 : S} (enc : β → D) (xs : List β) (P : List β → S → Prop) (hi : it s = .ok (enumD 0 (xs.map enc)) s0) (h0 : P [] s0)
    (step : ∀ p x q s, xs = p ++ x :: q → P p s → ∃ s1, t (.tup [.int (p.length : Int), enc x]) s = some s1 ∧ ∃ s2, b s1 = .ok .nx s2 ∧ P (p ++ [x]) s2) : ∃ s', sFor it t b s = .ok .nx s' ∧ P xs s' := by
  rw [enumD_map] at hi
  obtain ⟨s', h1, h2⟩ := for_pre (it := it) (t := t) (b := b) (fun p : β × Nat => .tup [.int (p.2 : Int), enc p.1]) (xs.zipIdx 0) (fun p s => P (p.map (·.1)) s) hi h0 (fun p x q s hpq hp => by
    obtain ⟨a1, a2⟩ := zip_split hpq
    obtain ⟨s1, b1, s2, b2, b3⟩ := step (p.map (·.1)) x.1 (q.map (·.1)) s a1 hp
    rw [List.length_map, ← a2] at b1
    exact ⟨s1, b1, s2, b2, by rw [List.map_append]; exact b3⟩)
  refine ⟨s', h1, ?_⟩
  have e1 : (xs.zipIdx 0).map (·.1) = xs := by simp
  rw [e1] at h2
  exact h2
/-- a loop that may give a value back -/
theorem forL_preR {β : Type} {t : Tg} {b : M Fl} (enc : β → D) (P : List β → S → Prop) (res : D) : ∀ (xs pre : List β) (s : S), P pre s → (∀ p x q s, pre ++ xs = p ++ x :: q → P p s → ∃ s1, t (enc x) s = some s1 ∧ ((∃ s2, b s1 = .ok (.rt res) s2) ∨ ∃ s2, b s1 = .ok .nx s2 ∧ P (p ++ [x]) s2)) → (∃ s', forL t b (xs.map enc) s = .ok (.rt res) s') ∨ ∃ s', forL t b (xs.map enc) s = .ok .nx s' ∧ P (pre ++ xs) s'
  | [], pre, s, h, _ => .inr ⟨s, rfl, by rw [List.append_nil]; exact h⟩
  | x :: xs, pre, s, h, step => by
    obtain ⟨s1, h1, h2⟩ := step pre x xs s rfl h
    rcases h2 with ⟨s2, h2⟩ | ⟨s2, h2, h3⟩
    · exact .inl ⟨s2, by simp [forL, h1, h2]⟩
    · rcases forL_preR enc P res xs (pre ++ [x]) s2 h3 (fun p y q s hpq hp => step p y q s (by rw [← hpq, List.append_assoc]; rfl) hp) with ⟨s', e⟩ | ⟨s', e, hP⟩
      · exact .inl ⟨s', by simp [forL, h1, h2, e]⟩
      · exact .inr ⟨s', by simp [forL, h1, h2, e], by rw [List.append_assoc] at hP; exact hP⟩
theorem for_enumR {β : Type} {it : M (List D)} {t : Tg} {b : M Fl} {s s0 : S} (enc : β → D) (xs : List β) (P : List β → S → Prop) (res : D) (hi : it s = .ok (enumD 0 (xs.map enc)) s0) (h0 : P [] s0)
    (step : ∀ p x q s, xs = p ++ x :: q → P p s → ∃ s1, t (.tup [.int (p.length : Int), enc x]) s = some s1 ∧ ((∃ s2, b s1 = .ok (.rt res) s2) ∨ ∃ s2, b s1 = .ok .nx s2 ∧ P (p ++ [x]) s2)) : (∃ s', sFor it t b s = .ok (.rt res) s') ∨ ∃ s', sFor it t b s = .ok .nx s' ∧ P xs s' := by
  rw [enumD_map] at hi
  have := forL_preR (t := t) (b := b) (fun p : β × Nat => .tup [.int (p.2 : Int), enc p.1]) (fun p s => P (p.map (·.1)) s) res (xs.zipIdx 0) [] s0 h0 (fun p x q s hpq hp => by
    obtain ⟨a1, a2⟩ := zip_split hpq
    obtain ⟨s1, b1, b2⟩ := step (p.map (·.1)) x.1 (q.map (·.1)) s a1 hp
    rw [List.length_map, ← a2] at b1
    refine ⟨s1, b1, ?_⟩
    rcases b2 with b2 | ⟨s2, b2, b3⟩
    · exact .inl b2
    · exact .inr ⟨s2, b2, by rw [List.map_append]; exact b3⟩)
  rcases this with ⟨s', h1⟩ | ⟨s', h1, h2⟩
  · exact .inl ⟨s', by simp [hi, r_kFor, h1]⟩
  · refine .inr ⟨s', by simp [hi, r_kFor, h1], ?_⟩
    have e1 : (xs.zipIdx 0).map (·.1) = xs := by simp
    rw [List.nil_append, e1] at h2
    exact h2
theorem for_preR {β : Type} {it : M (List D)} {t : Tg} {b : M Fl} {s s0 : S} (enc : β → D) (xs : List β) (P : List β → S → Prop) (res : D) (hi : it s = .ok (xs.map enc) s0) (h0 : P [] s0)
    (step : ∀ p x q s, xs = p ++ x :: q → P p s → ∃ s1, t (enc x) s = some s1 ∧ ((∃ s2, b s1 = .ok (.rt res) s2) ∨ ∃ s2, b s1 = .ok .nx s2 ∧ P (p ++ [x]) s2)) : (∃ s', sFor it t b s = .ok (.rt res) s') ∨ ∃ s', sFor it t b s = .ok .nx s' ∧ P xs s' := by
  rcases forL_preR (t := t) (b := b) enc P res xs [] s0 h0 step with ⟨s', h1⟩ | ⟨s', h1, h2⟩
  · exact .inl ⟨s', by simp [hi, r_kFor, h1]⟩
  · exact .inr ⟨s', by simp [hi, r_kFor, h1], h2⟩
theorem forL_or {t : Tg} {b : M Fl} (I : Nat → S → Prop) (R : D → S → Prop) : ∀ (ds : List D) (n : Nat) (s : S), I n s → (∀ i d s, ds[i]? = some d → I (n + i) s → ∃ s1, t d s = some s1 ∧ ((∃ z s2, b s1 = .ok (.rt z) s2 ∧ R z s2) ∨ ∃ s2, b s1 = .ok .nx s2 ∧ I (n + i + 1) s2)) → (∃ z s', forL t b ds s = .ok (.rt z) s' ∧ R z s') ∨ ∃ s', forL t b ds s = .ok .nx s' ∧ I (n + ds.length) s'
  | [], n, s, h, _ => .inr ⟨s, rfl, h⟩
  | d :: ds, n, s, h, st => by
    obtain ⟨s1, h1, h2⟩ := st 0 d s rfl h
    rcases h2 with ⟨z, s2, h2, h3⟩ | ⟨s2, h2, h3⟩
    · exact .inl ⟨z, s2, by simp [forL, h1, h2], h3⟩
    · rcases forL_or I R ds (n + 1) s2 h3 (fun i d' s hi hI => by
        have := st (i + 1) d' s hi (by rw [show n + (i + 1) = n + 1 + i by omega]; exact hI)
        rw [show n + (i + 1) + 1 = n + 1 + i + 1 by omega] at this
        exact this) with ⟨z, s', e, hR⟩ | ⟨s', e, hI⟩
      · exact .inl ⟨z, s', by simp [forL, h1, h2, e], hR⟩
      · exact .inr ⟨s', by simp [forL, h1, h2, e], by rw [List.length_cons, show n + (ds.length + 1) = n + 1 + ds.length by omega]; exact hI⟩
theorem for_or {it : M (List D)} {t : Tg} {b : M Fl} {s s0 : S} {ds : List D} (I : Nat → S → Prop) (R : D → S → Prop) (hi : it s = .ok ds s0) (h0 : I 0 s0)
    (step : ∀ i d s, ds[i]? = some d → I i s → ∃ s1, t d s = some s1 ∧ ((∃ z s2, b s1 = .ok (.rt z) s2 ∧ R z s2) ∨ ∃ s2, b s1 = .ok .nx s2 ∧ I (i + 1) s2)) : (∃ z s', sFor it t b s = .ok (.rt z) s' ∧ R z s') ∨ ∃ s', sFor it t b s = .ok .nx s' ∧ I ds.length s' := by
  rcases forL_or (t := t) (b := b) I R ds 0 s0 h0 (fun i d s hd hI => by
    rw [Nat.zero_add] at hI ⊢
    exact step i d s hd hI) with ⟨z, s', h1, h2⟩ | ⟨s', h1, h2⟩
  · exact .inl ⟨z, s', by simp [hi, r_kFor, h1], h2⟩
  · rw [Nat.zero_add] at h2
    exact .inr ⟨s', by simp [hi, r_kFor, h1], h2⟩
theorem for_enum_or {β : Type} {it : M (List D)} {t : Tg} {b : M Fl} {s s0 : S} (enc : β → D) (xs : List β) (P : List β → S → Prop) (R : D → Prop) (hi : it s = .ok (enumD 0 (xs.map enc)) s0) (h0 : P [] s0)
    (step : ∀ p x q s, xs = p ++ x :: q → P p s → ∃ s1, t (.tup [.int (p.length : Int), enc x]) s = some s1 ∧ ((∃ z s2, b s1 = .ok (.rt z) s2 ∧ R z) ∨ ∃ s2, b s1 = .ok .nx s2 ∧ P (p ++ [x]) s2)) : (∃ z s', sFor it t b s = .ok (.rt z) s' ∧ R z) ∨ ∃ s', sFor it t b s = .ok .nx s' ∧ P xs s' := by
  rw [enumD_map] at hi
  rcases for_or (it := it) (t := t) (b := b) (fun i s => P (xs.take i) s) (fun z _ => R z) hi h0 (fun i d s hd hI => by
    rw [List.getElem?_map, List.getElem?_zipIdx] at hd
    cases hx : xs[i]? with
    | none => rw [hx] at hd; cases hd
    | some x =>
      rw [hx] at hd
      have he : D.tup [.int ((0 + i : Nat) : Int), enc x] = d := by simpa using hd
      rw [Nat.zero_add] at he
      have hil := (List.getElem?_eq_some_iff.mp hx).1
      have hxi := (List.getElem?_eq_some_iff.mp hx).2
      have hsp : xs = xs.take i ++ x :: xs.drop (i + 1) := by rw [← hxi, ← List.drop_eq_getElem_cons hil, List.take_append_drop]
      obtain ⟨s1, b1, b2⟩ := step (xs.take i) x (xs.drop (i + 1)) s hsp hI
      rw [List.length_take, Nat.min_eq_left (by omega), he] at b1
      refine ⟨s1, b1, ?_⟩
      rcases b2 with b2 | ⟨s2, b2, b3⟩
      · left
        obtain ⟨z, s2, b2, b3⟩ := b2
        exact ⟨z, s2, b2, b3⟩
      · right
        refine ⟨s2, b2, ?_⟩
        have e2 : xs.take (i + 1) = xs.take i ++ [x] := by rw [List.take_add_one, hx]; rfl
        rw [e2]
        exact b3) with ⟨z, s', h1, h2⟩ | ⟨s', h1, h2⟩
  · exact .inl ⟨z, s', h1, h2⟩
  · refine .inr ⟨s', h1, ?_⟩
    simp only [List.length_map, List.length_zipIdx, List.take_length] at h2
    exact h2
theorem for_or_pre {β : Type} {it : M (List D)} {t : Tg} {b : M Fl} {s s0 : S} (enc : β → D) (xs : List β) (P : List β → S → Prop) (R : D → Prop) (hi : it s = .ok (xs.map enc) s0) (h0 : P [] s0)
    (step : ∀ p x q s, xs = p ++ x :: q → P p s → ∃ s1, t (enc x) s = some s1 ∧ ((∃ z s2, b s1 = .ok (.rt z) s2 ∧ R z) ∨ ∃ s2, b s1 = .ok .nx s2 ∧ P (p ++ [x]) s2)) : (∃ z s', sFor it t b s = .ok (.rt z) s' ∧ R z) ∨ ∃ s', sFor it t b s = .ok .nx s' ∧ P xs s' := by
  rcases for_or (it := it) (t := t) (b := b) (fun i s => P (xs.take i) s) (fun z _ => R z) hi h0 (fun i d s hd hI => by
    rw [List.getElem?_map] at hd
    cases hx : xs[i]? with
    | none => rw [hx] at hd; cases hd
    | some x =>
      rw [hx] at hd
      have he : enc x = d := by simpa using hd
      have hil := (List.getElem?_eq_some_iff.mp hx).1
      have hxi := (List.getElem?_eq_some_iff.mp hx).2
      have hsp : xs = xs.take i ++ x :: xs.drop (i + 1) := by rw [← hxi, ← List.drop_eq_getElem_cons hil, List.take_append_drop]
      obtain ⟨s1, b1, b2⟩ := step (xs.take i) x (xs.drop (i + 1)) s hsp hI
      rw [he] at b1
      refine ⟨s1, b1, ?_⟩
      rcases b2 with ⟨z, s2, b2, b3⟩ | ⟨s2, b2, b3⟩
      · exact .inl ⟨z, s2, b2, b3⟩
      · right
        refine ⟨s2, b2, ?_⟩
        have e2 : xs.take (i + 1) = xs.take i ++ [x] := by rw [List.take_add_one, hx]; rfl
        rw [e2]
        exact b3) with ⟨z, s', h1, h2⟩ | ⟨s', h1, h2⟩
  · exact .inl ⟨z, s', h1, h2⟩
  · refine .inr ⟨s', h1, ?_⟩
    simp only [List.length_map, List.take_length] at h2
    exact h2
theorem map_injS {α β : Type} {f : α → β} (hf : ∀ a b, f a = f b → a = b) : ∀ {xs ys : List α}, xs.map f = ys.map f → xs = ys
  | [], [], _ => rfl
  | [], _ :: _, h => by simp at h
  | _ :: _, [], h => by simp at h
  | x :: xs, y :: ys, h => by
    rw [List.map_cons, List.map_cons] at h
    injection h with h1 h2
    rw [hf _ _ h1, map_injS hf h2]
theorem split_mapS {α β : Type} {f : α → β} {p q : List β} {x : β} {g : List α} (h : p ++ x :: q = g.map f) : ∃ a y b, g = a ++ y :: b ∧ p = a.map f ∧ x = f y ∧ q = b.map f := by
  refine ⟨g.take p.length, ?_⟩
  have hl : p.length < g.length := by
    have := congrArg List.length h
    simp at this
    omega
  refine ⟨g[p.length], g.drop (p.length + 1), by rw [← List.drop_eq_getElem_cons hl, List.take_append_drop], ?_, ?_, ?_⟩
  · rw [List.map_take, ← h, List.take_left]
  · have : (p ++ x :: q)[p.length]? = some x := by simp
    rw [h, List.getElem?_map, List.getElem?_eq_getElem hl] at this
    exact (Option.some.inj this).symm
  · rw [List.map_drop, ← h]
    simp
theorem rng_get {n i : Nat} {d : D} (h : (rangeD 0 n)[i]? = some d) : i < n ∧ d = .int (i : Int) := by
  have hi : i < n := by
    have := (List.getElem?_eq_some_iff.mp h).1
    simpa [rangeD] using this
  refine ⟨hi, ?_⟩
  unfold rangeD at h
  rw [List.getElem?_map, List.getElem?_range hi] at h
  have := Option.some.inj h
  rw [← this]
  simp

def rn1 (c k : Int) : Int := (c + 104729 * k) % 4294967291
def rn2 (x : Int) : Int := x * x % 4294967279 * 48271 % 4294967291
def rn3 (x : Int) : Int := x * x % 4294967279 * 69621 % 4294967291
def rn (c k many : Int) : Int := (rn2 (rn1 c k) / 64 * 67108864 + rn3 (rn2 (rn1 c k)) / 64) % many
def rnd (ns : List Int) (k : Nat) (many : Int) : Int := rn (ns.getD (k % ns.length) 0) (k : Int) many
theorem rnd_pos (ns : List Int) (k : Nat) {many : Int} (h : 0 < many) : 0 ≤ rnd ns k many := Int.emod_nonneg _ (by omega)
theorem rnd_lt (ns : List Int) (k : Nat) {many : Int} (h : 0 < many) : rnd ns k many < many := Int.emod_lt_of_pos _ h
theorem rn1_lt (c k : Int) : -18446744073709551616 < rn1 c k ∧ rn1 c k < 18446744073709551616 := by unfold rn1; omega
theorem rn2_lt (c : Int) : -18446744073709551616 < rn2 c ∧ rn2 c < 18446744073709551616 := by unfold rn2; omega
theorem rnm_lt (c : Int) : -18446744073709551616 < c % 4294967279 ∧ c % 4294967279 < 18446744073709551616 := by omega
theorem draw_tail (a0 a1 x5 x6 : Slot) (many k c : Int) (st : List Ob) (h : 0 < many) :
    (bSeq (sAsg (e2 dMod (.ex (e2 dAdd (.sn 4) (.ex (e2 dMulI (.ex (eC (.int 104729))) (.sn 3))))) (.ex (eC (.int 4294967291)))) (gNm 5))
    (bSeq (sAsg (e2 dMod (.ex (e2 dMulI (.ex (e2 dMod (.ex (e2 dMulI (.sn 5) (.sn 5))) (.ex (eC (.int 4294967279))))) (.ex (eC (.int 48271))))) (.ex (eC (.int 4294967291)))) (gNm 5))
    (bSeq (sAsg (e2 dMod (.ex (e2 dMulI (.ex (e2 dMod (.ex (e2 dMulI (.sn 5) (.sn 5))) (.ex (eC (.int 4294967279))))) (.ex (eC (.int 69621))))) (.ex (eC (.int 4294967291)))) (gNm 6))
    (sRet (e2 dMod (.ex (e2 dAdd (.ex (e2 dMulI (.ex (e2 dFdiv (.sn 5) (.ex (eC (.int 64))))) (.ex (eC (.int 67108864))))) (.ex (e2 dFdiv (.sn 6) (.ex (eC (.int 64))))))) (.sn 2)))))) ⟨[a0, a1, .v (.int many), .v (.int k), .v (.int c), x5, x6], st⟩
    = .ok (.rt (.int (rn c k many))) ⟨[a0, a1, .v (.int many), .v (.int k), .v (.int c), .v (.int (rn2 (rn1 c k))), .v (.int (rn3 (rn2 (rn1 c k))))], st⟩ := by
  have f1 : ∀ a b : Int, (a + 104729 * b) % 4294967291 = rn1 a b := fun _ _ => rfl
  have f2 : ∀ a : Int, a * a % 4294967279 * 48271 % 4294967291 = rn2 a := fun _ => rfl
  have f3 : ∀ a : Int, a * a % 4294967279 * 69621 % 4294967291 = rn3 a := fun _ => rfl
  simp [rn1_lt, rn2_lt, rnm_lt, f1, f2, f3, h]
  rfl
theorem draw_at (n : Int) (ns : List Int) (m : Nat) : dIx (.lst ((n :: ns).map .int)) (.int (((m : Nat) : Int) % (((ns.length + 1 : Nat)) : Int))) = some (.int ((n :: ns).getD (m % (ns.length + 1)) 0)) := by
  have hl : m % (ns.length + 1) < ns.length + 1 := Nat.mod_lt _ (by omega)
  show atI _ _ = _
  unfold atI ixN
  rw [← Int.natCast_emod, if_pos (by omega), if_pos (by rw [List.length_map, List.length_cons]; omega), Option.bind_some, Int.toNat_natCast, List.getElem?_map, List.getD_eq_getElem?_getD, List.getElem?_eq_getElem (by rw [List.length_cons]; exact hl)]
  rfl
theorem draw_eq (ns : List Int) (m : Nat) (many : Int) (st : List Ob) (h : 0 < many) (hm : m < 1000000) : f__law_draw [.lst (ns.map .int), .obj 0, .int many] (.lst (twn m) :: st) = .ok (.int (rnd ns (m + 1) many)) (.lst (twn (m + 1)) :: st) := by
  have hs : m < 16777216 := by omega
  unfold f__law_draw
  rw [if_pos (show [D.lst (ns.map .int), .obj 0, .int many].length = 3 from rfl)]
  obtain ⟨k, hk⟩ : ∃ k : Int, k = ((m + 1 : Nat) : Int) := ⟨_, rfl⟩
  refine runS_rt (e := [.v (.lst (ns.map .int)), .v (.obj 0), .v (.int many), .v (.int k), .v (.int (ns.getD ((m + 1) % ns.length) 0)), .v (.int (rn2 (rn1 (ns.getD ((m + 1) % ns.length) 0) k))), .v (.int (rn3 (rn2 (rn1 (ns.getD ((m + 1) % ns.length) 0) k))))]) ?_
  unfold b__law_draw
  refine seq_of (s1 := ⟨[.v (.lst (ns.map .int)), .v (.obj 0), .v (.int many), .un, .un, .un, .un], .lst (twn (m + 1)) :: st⟩) (by simp [hs, twn_snoc]) ?_
  refine seq_of (s1 := ⟨[.v (.lst (ns.map .int)), .v (.obj 0), .v (.int many), .v (.int k), .un, .un, .un], .lst (twn (m + 1)) :: st⟩) (by simp [hk]) ?_
  refine seq_of (s1 := ⟨[.v (.lst (ns.map .int)), .v (.obj 0), .v (.int many), .v (.int k), .v (.int 0), .un, .un], .lst (twn (m + 1)) :: st⟩) (by simp) ?_
  refine seq_of (s1 := ⟨[.v (.lst (ns.map .int)), .v (.obj 0), .v (.int many), .v (.int k), .v (.int (ns.getD ((m + 1) % ns.length) 0)), .un, .un], .lst (twn (m + 1)) :: st⟩) ?_ ?_
  · cases ns with
    | nil => simp
    | cons n ns =>
      have e := draw_at n ns (m + 1)
      rw [← hk] at e
      have l0 : (0 : Int) < ((ns.length + 1 : Nat) : Int) := by omega
      have e0 : ((n :: ns).map D.int).length = ns.length + 1 := by simp
      have e1 : ((n :: ns).map D.int).isEmpty = false := rfl
      simp only [r_sIf, r_tTru, r_sn, r_cont, List.getElem?_cons_zero, r_contK_l, r_snK, bnd_ok, r_kTru, rd_i, r_kTrub, dTru_l, e1, r_liftB, Bool.not_false, r_kIf_t, r_sAsg, r_e2, r_ex, r_kE2a, r_e1, r_kE1, r_kE1b, dLen_l, e0, r_lift1, List.getElem?_cons_succ, r_contK_i, r_kEx, r_kE2b, r_kE2c, dMod_i, if_pos l0, rd_d, e, r_kAsg, r_gNm, List.set_cons_succ, List.set_cons_zero, r_liftS, List.length_cons]
  · rw [draw_tail _ _ _ _ _ _ _ _ h]
    unfold rnd
    rw [hk]
/-- a row of draws -/
theorem draws_lc {is : List Nat} {t : Tg} {e : M D} (ns : List Int) (top : Int) (env : List Slot) (st0 : List Ob) (h0 : 0 < top) (ds : List D) (m : Nat) (en : List Slot) (hw : wipeE en is = env) (hm : m + ds.length < 1000000)
    (he : ∀ d m', d ∈ ds → m' < 1000000 → ∃ s1 en', t d ⟨env, .lst (twn m') :: st0⟩ = some s1 ∧ e s1 = .ok (.int (rnd ns (m' + 1) top)) ⟨en', .lst (twn (m' + 1)) :: st0⟩ ∧ wipeE en' is = env) :
    ∃ xs : List Int, lcL is t tYesM e ds [] ⟨en, .lst (twn m) :: st0⟩ = .ok (xs.map .int) ⟨env, .lst (twn (m + ds.length)) :: st0⟩ ∧ xs.length = ds.length ∧ ∀ x ∈ xs, 0 ≤ x ∧ x < top := by
  obtain ⟨ys, st', h1, ⟨xs, h2, h4, h5⟩, h3⟩ := lcL_run (is := is) (t := t) (c := tYesM) (e := e) env (fun acc st' => ∃ xs : List Int, acc = xs.map .int ∧ st' = .lst (twn (m + acc.length)) :: st0 ∧ ∀ x ∈ xs, 0 ≤ x ∧ x < top) ds [] en (.lst (twn m) :: st0) hw ⟨[], rfl, rfl, by simp⟩ (by rw [sizeLine_n, List.length_nil]; omega) (by
    rintro i d acc st' hi hlen ⟨xs, rfl, rfl, hx⟩
    have hil := (List.getElem?_eq_some_iff.mp hi).1
    simp only [List.length_nil, Nat.zero_add] at hlen
    obtain ⟨s1, en', a1, a2, a3⟩ := he d (m + (xs.map D.int).length) (List.mem_of_getElem? hi) (by omega)
    refine ⟨s1, s1, _, en', _, a1, rfl, a2, a3, xs ++ [rnd ns (m + (xs.map D.int).length + 1) top], by simp, by simp [Nat.add_assoc], ?_⟩
    intro x hx'
    rcases List.mem_append.mp hx' with z | z
    · exact hx x z
    · rw [List.mem_singleton] at z
      subst z
      exact ⟨rnd_pos _ _ h0, rnd_lt _ _ h0⟩)
  simp only [List.length_nil, Nat.zero_add] at h3
  subst h2
  refine ⟨xs, ?_, by simpa using h3, h5⟩
  rw [h1, h4, h3]

theorem same_refl : ∀ (n : Nat) (x : D), x.sh = true → x.dep < n → f__law_same n [x, x] = .ok (.bl true)
  | 0, x, _, h => by omega
  | n + 1, x, hs, hd => by
    have hp : x.plain = true := sh_plain x hs
    unfold f__law_same
    rw [if_pos (show [x, x].length = 2 from rfl)]
    have core : ∃ s, b__law_same (f__law_same n) ⟨slots 4 [x, x], []⟩ = .ok (.rt (.bl true)) s := by
      cases x with
      | non => exact ⟨_, by simp [b__law_same]; rfl⟩
      | bl b => exact ⟨_, by simp [b__law_same, Ty.is]; rfl⟩
      | int b => exact ⟨_, by simp [b__law_same, Ty.is]; rfl⟩
      | str b => exact ⟨_, by simp [b__law_same, Ty.is]; rfl⟩
      | lst b => cases hs
      | dct b => cases hs
      | obj b => cases hs
      | nm b => cases hs
      | tup xs =>
        have hx : D.shL xs = true := by rw [← sh_tup]; exact hs
        have hl : xs.length < 1000000 := shL_len hx
        have hl' : (zipD xs xs).length ≤ sizeLine := by rw [zipD_len, sizeLine_n]; omega
        have hdd : D.depL xs + 1 < n + 1 := by simpa [D.dep] using hd
        have lc := lcL_map (is := [2, 3]) (t := gTp 2 (gNms [2, 3])) (e := eCallP (f__law_same n) (aCons (eVar 2) (aCons (eVar 3) aNil))) [.v (.tup xs), .v (.tup xs), .un, .un] [] (fun _ => .bl true) [.v (.tup xs), .v (.tup xs), .un, .un] (zipD xs xs) rfl hl' (by
          intro d hm
          obtain ⟨i, hi⟩ := List.getElem?_of_mem hm
          obtain ⟨y, z, h1, h2, rfl⟩ := zipD_get xs xs i d hi
          rw [h1] at h2
          cases h2
          have hy := List.mem_of_getElem? h1
          have ih := same_refl n y (shL_mem hx hy) (by have := depL_mem hy; omega)
          exact ⟨⟨[.v (.tup xs), .v (.tup xs), .v y, .v y], []⟩, [.v (.tup xs), .v (.tup xs), .v y, .v y], by simp, by simp [ih], rfl⟩)
        have ha : dAll (.lst (List.map (fun _ => D.bl true) (zipD xs xs))) = some (.bl true) := dAll_all (zipD xs xs)
        refine ⟨⟨[.v (.tup xs), .v (.tup xs), .un, .un], []⟩, ?_⟩
        simp [b__law_same, Ty.is, r_kLc, lc, kLc2, backE, ha]
    obtain ⟨s, e⟩ := core
    refine runP_rt ?_ rfl e
    simp [D.plainL, hp]

def rulesD (r t n : Int) : D := .tup [.int r, .int t, .int n]
def pinsD (ps : List Int) : D := .tup (ps.map .int)
abbrev Th := List Int × Bool
def thD (x : Th) : D := .tup [pinsD x.1, .bl x.2]
def turnD (ts : List Th) : D := .tup (ts.map thD)
abbrev Ws := List Int × Int × Int
def wsD (s : Ws) : D := .tup [pinsD s.1, .int s.2.1, .int s.2.2]
def every (r : Int) : List Int := (List.range (r * (r + 1) / 2).toNat).map fun (k : Nat) => 1 + (k : Int)
def felled (stand : List Int) (x : Th) : List Int := if x.2 = true then stand else stand.filter fun p => !x.1.contains p
def extraFor (empty : Bool) (done : Int) (last : Bool) : Int := if (!last || (!empty || decide (2 < done))) = true then 0 else 3 - done
def nextEx (t : Int) (last : Bool) (st : List Int) (d ex : Int) : Int := if 0 < ex then ex - 1 else if (st.isEmpty || d == t) = true then extraFor st.isEmpty d last else ex
def goneOn (r t : Int) (last : Bool) (s : Ws) (x : Th) : Ws :=
  (if (decide (0 < nextEx t last (felled s.1 x) (s.2.1 + 1) s.2.2) && (felled s.1 x).isEmpty) = true then every r else felled s.1 x, s.2.1 + 1, nextEx t last (felled s.1 x) (s.2.1 + 1) s.2.2)
def Rok (r t : Int) : Prop := 1 ≤ r ∧ r ≤ 4 ∧ 2 ≤ t ∧ t ≤ 3
theorem plain_pins (ps : List Int) : (pinsD ps).plain = true := plainL_ints ps
theorem plain_rules (r t n : Int) : (rulesD r t n).plain = true := rfl
theorem plain_th (x : Th) : (thD x).plain = true := by
  show D.plainL [pinsD x.1, .bl x.2] = true
  rw [D.plainL, plain_pins]
  rfl
theorem plain_ths : ∀ ts : List Th, D.plainL (ts.map thD) = true
  | [] => rfl
  | x :: ts => by rw [List.map_cons, D.plainL, plain_th, plain_ths ts]; rfl
theorem plain_turn (ts : List Th) : (turnD ts).plain = true := plain_ths ts
theorem plain_ws (s : Ws) : (wsD s).plain = true := by
  show D.plainL [pinsD s.1, .int s.2.1, .int s.2.2] = true
  rw [D.plainL, plain_pins]
  rfl
theorem np_small {r : Int} (h : 1 ≤ r ∧ r ≤ 4) : 0 ≤ r * (r + 1) / 2 ∧ r * (r + 1) / 2 ≤ 10 := by
  have : r = 1 ∨ r = 2 ∨ r = 3 ∨ r = 4 := by omega
  rcases this with rfl | rfl | rfl | rfl <;> decide
theorem every_len {r : Int} (h : 1 ≤ r ∧ r ≤ 4) : (every r).length ≤ 10 := by
  have := np_small h
  simp only [every, List.length_map, List.length_range]
  omega
theorem every_ne {r : Int} (h : 1 ≤ r ∧ r ≤ 4) : (every r).isEmpty = false := by
  have : r = 1 ∨ r = 2 ∨ r = 3 ∨ r = 4 := by omega
  rcases this with rfl | rfl | rfl | rfl <;> decide
theorem rangeD_every (r : Int) : rangeD 1 (r * (r + 1) / 2).toNat = (every r).map .int := by
  unfold rangeD every
  rw [List.map_map]
  rfl
theorem felled_len (st : List Int) (x : Th) : (felled st x).length ≤ st.length := by
  unfold felled
  by_cases h : x.2 = true
  · rw [if_pos h]; exact Nat.le_refl _
  · rw [if_neg h]; exact List.length_filter_le _ _
theorem pins_of_eq {r t n : Int} (h : 1 ≤ r ∧ r ≤ 4) : f_pins_of [rulesD r t n] = .ok (.int (r * (r + 1) / 2)) := by
  have g : -18446744073709551616 < r ∧ r < 18446744073709551616 := by omega
  simp [f_pins_of, runP, b_pins_of, rulesD, D.plainL, D.plain, g]
/-- [pin for pin in stand if pin not in throw[0]] -/
theorem fell_lc {i j : Nat} {w : D} (ps : List Int) (x : Th) (env : List Slot) (st : List Ob) (hx : x.2 = false) (hw : ∀ d, wipeE (env.set i (.v d)) [i] = env) (h1 : ∀ d, (env.set i (.v d))[i]? = some (.v d)) (h2 : ∀ d, (env.set i (.v d))[j]? = some (.v (thD x))) (h0 : wipeE env [i] = env) (hl : ps.length ≤ 1000) :
    lcL [i] (gNm i) (tB1 (e2 (dIn true) (.sn i) (.ex (e2 dIx (.sn j) (.ex (eC (.int 0))))))) (eVar i) (ps.map .int) [] ⟨env, st⟩ = .ok ((felled ps x).map .int) ⟨env, st⟩ := by
  have e := lcL_fm (is := [i]) (t := gNm i) (c := tB1 (e2 (dIn true) (.sn i) (.ex (e2 dIx (.sn j) (.ex (eC (.int 0))))))) (e := eVar i) D.int env st (fun p => !x.1.contains p) .int env ps h0 (by rw [sizeLine_n]; omega) (fun p hp => by
    refine ⟨⟨env.set i (.v (.int p)), st⟩, env.set i (.v (.int p)), rfl, ?_, hw _, fun hpp => ⟨env.set i (.v (.int p)), ?_, hw _⟩⟩
    · simp [h1, h2, thD, pinsD]
    · simp [h1])
  rw [e]
  unfold felled
  rw [if_neg (by rw [hx]; exact Bool.false_ne_true)]
theorem goneOn_len {r t : Int} (h : 1 ≤ r ∧ r ≤ 4) (last : Bool) (s : Ws) (x : Th) (hs : s.1.length ≤ 10) : (goneOn r t last s x).1.length ≤ 10 := by
  unfold goneOn
  have a := every_len h
  have b := felled_len s.1 x
  simp only
  split
  · exact a
  · omega
def walkT (r t : Int) (last : Bool) (ts : List Th) : Ws := ts.foldl (goneOn r t last) (every r, 0, -1)
theorem foldl_len {r t : Int} (h : 1 ≤ r ∧ r ≤ 4) (last : Bool) : ∀ (ts : List Th) (s : Ws), s.1.length ≤ 10 → (ts.foldl (goneOn r t last) s).1.length ≤ 10
  | [], s, hs => hs
  | x :: ts, s, hs => foldl_len h last ts _ (goneOn_len h last s x hs)
theorem walkT_len {r t : Int} (h : 1 ≤ r ∧ r ≤ 4) (last : Bool) (ts : List Th) : (walkT r t last ts).1.length ≤ 10 := foldl_len h last ts _ (every_len h)
theorem walkT_snoc (r t : Int) (last : Bool) (ts : List Th) (x : Th) : walkT r t last (ts ++ [x]) = goneOn r t last (walkT r t last ts) x := by
  unfold walkT
  rw [List.foldl_append]
  rfl
/-! kinds -/
def kStep (r t : Int) (s : Ws) (x : Th) : Ws := if s.2.2 = 0 then s else goneOn r t false s x
def kindW (r t : Int) (ts : List Th) : Ws := ts.foldl (kStep r t) (every r, 0, -1)
theorem kindW_snoc (r t : Int) (ts : List Th) (x : Th) : kindW r t (ts ++ [x]) = kStep r t (kindW r t ts) x := by
  unfold kindW
  rw [List.foldl_append]
  rfl
def kName (d : Int) : D := if d = 1 then .str "strike" else if d = 2 then .str "spare" else .str "late"
def kindD (s : Ws) : D := if s.2.2 = 0 then (if s.1.isEmpty = true then kName s.2.1 else .str "open") else .non
def KI (t : Int) (s : Ws) : Prop := s.1.length ≤ 10 ∧ ((s.2.2 = -1 ∧ 0 ≤ s.2.1 ∧ s.2.1 < t ∧ s.1.isEmpty = false) ∨ (s.2.2 = 0 ∧ 1 ≤ s.2.1 ∧ s.2.1 ≤ t))
theorem extraFor_false (k : Bool) (d : Int) : extraFor k d false = 0 := rfl
theorem KI_step {r t : Int} (h : Rok r t) (s : Ws) (x : Th) (hs : KI t s) : KI t (kStep r t s x) := by
  unfold kStep
  by_cases h0 : s.2.2 = 0
  · rw [if_pos h0]; exact hs
  · rw [if_neg h0]
    obtain ⟨hl, hk⟩ := hs
    refine ⟨goneOn_len ⟨h.1, h.2.1⟩ false s x hl, ?_⟩
    rcases hk with ⟨k1, k2, k3, k4⟩ | ⟨k1, _⟩
    · have hn : nextEx t false (felled s.1 x) (s.2.1 + 1) s.2.2 = if ((felled s.1 x).isEmpty || s.2.1 + 1 == t) = true then 0 else -1 := by
        unfold nextEx
        rw [if_neg (by omega), k1]
        rfl
      by_cases hc : ((felled s.1 x).isEmpty || s.2.1 + 1 == t) = true
      · right
        rw [if_pos hc] at hn
        unfold goneOn
        simp only [hn]
        exact ⟨trivial, by omega, by omega⟩
      · left
        rw [if_neg hc] at hn
        rw [Bool.or_eq_true, not_or, Bool.not_eq_true] at hc
        have : s.2.1 + 1 ≠ t := by simpa using hc.2
        unfold goneOn
        simp only [hn]
        refine ⟨trivial, by omega, by omega, ?_⟩
        simp [hc.1]
    · exact absurd k1 h0
theorem KI_fold {r t : Int} (h : Rok r t) : ∀ (ts : List Th) (s : Ws), KI t s → KI t (ts.foldl (kStep r t) s)
  | [], _, hs => hs
  | x :: ts, s, hs => KI_fold h ts _ (KI_step h s x hs)
theorem KI_begun {r t : Int} (h : Rok r t) : KI t (every r, 0, -1) := ⟨every_len ⟨h.1, h.2.1⟩, .inl ⟨rfl, Int.le_refl _, by obtain ⟨_, _, _, _⟩ := h; show (0 : Int) < t; omega, every_ne ⟨h.1, h.2.1⟩⟩⟩
theorem kName_ix (d : Int) (h1 : 1 ≤ d) (h2 : d ≤ 3) : dIx (.tup [.str "strike", .str "spare", .str "late"]) (.int (d - 1)) = some (kName d) := by
  have : d = 1 ∨ d = 2 ∨ d = 3 := by omega
  rcases this with rfl | rfl | rfl
  · exact dIx0 _ _
  · exact dIx1 _ _ _
  · exact dIx2 _ _ _ _
theorem kName_plain (d : Int) : (kName d).plain = true := by
  unfold kName
  split
  · rfl
  · split <;> rfl
theorem kindD_plain (s : Ws) : (kindD s).plain = true := by
  unfold kindD
  split
  · split
    · exact kName_plain _
    · rfl
  · rfl
theorem levery_eq {r t n : Int} (h : 1 ≤ r ∧ r ≤ 4) : f__law_every [rulesD r t n] = .ok (pinsD (every r)) := by
  have g := np_small h
  have g1 : -18446744073709551616 < r ∧ r < 18446744073709551616 := by omega
  have hs : (r * (r + 1) / 2 + 1 - 1).toNat = (r * (r + 1) / 2).toNat := by omega
  have g2 : 0 ≤ r * (r + 1) / 2 + 1 ∧ r * (r + 1) / 2 + 1 ≤ 1000000 := by omega
  unfold f__law_every
  rw [if_pos (show [rulesD r t n].length = 1 from rfl)]
  refine runP_rt (s := ⟨[.v (rulesD r t n)], []⟩) rfl (plain_pins _) ?_
  simp only [b__law_every, slots, List.map_cons, List.map_nil, List.length_cons, List.length_nil, rulesD]
  simp [g1, g2, -Int.add_sub_cancel, hs, rangeD_every, pinsD]

/-- some of the pins, by draws -/
theorem few_eq (ns : List Int) (ps : List Int) (m : Nat) (st : List Ob) (hl : ps.length ≤ 10) (hm : m < 900000) : ∃ zs k, f__law_few [.lst (ns.map .int), .obj 0, pinsD ps] (.lst (twn m) :: st) = .ok (pinsD zs) (.lst (twn (m + k)) :: st) ∧ zs.Sublist ps ∧ k ≤ 11 := by
  obtain ⟨sc, hsc⟩ : ∃ sc : D, sc = .lst (ns.map .int) := ⟨_, rfl⟩
  have e := draw_eq ns m 7 st (by decide) (by omega)
  obtain ⟨w, hw⟩ : ∃ w : Int, w = rnd ns (m + 1) 7 := ⟨_, rfl⟩
  have w0 : 0 ≤ w := by rw [hw]; exact rnd_pos _ _ (by decide)
  have w1 : w < 7 := by rw [hw]; exact rnd_lt _ _ (by decide)
  rw [← hw] at e
  have hd : ∀ m', m' < 1000000 → f__law_draw [sc, .obj 0, .int 2] (.lst (twn m') :: st) = .ok (.int (rnd ns (m' + 1) 2)) (.lst (twn (m' + 1)) :: st) := fun m' h' => by rw [hsc]; exact draw_eq ns m' 2 st (by decide) h'
  rw [← hsc] at e ⊢
  have hlen : f__law_few [sc, .obj 0, pinsD ps] (.lst (twn m) :: st) = runS 5 b__law_few [sc, .obj 0, pinsD ps] (.lst (twn m) :: st) := by unfold f__law_few; exact if_pos rfl
  rw [hlen]
  have first : ∀ h, bSeq (sAsg (eCallS f__law_draw (aCons (eVar 0) (aCons (eVar 1) (aCons (eC (.int 7)) aNil)))) (gNm 3)) h ⟨slots 5 [sc, .obj 0, pinsD ps], .lst (twn m) :: st⟩ = h ⟨[.v sc, .v (.obj 0), .v (pinsD ps), .v (.int w), .un], .lst (twn (m + 1)) :: st⟩ := fun h => seq_of (by simp [e]) rfl
  by_cases h2 : w < 2
  · refine ⟨(List.replicate w.toNat ps).flatten, 1, runS_rt (e := [.v sc, .v (.obj 0), .v (pinsD ps), .v (.int w), .un]) ?_, ?_, by omega⟩
    · unfold b__law_few
      rw [first]
      refine seq_rt ?_
      have hf : (List.replicate w.toNat (ps.map D.int)).flatten = ((List.replicate w.toNat ps).flatten).map .int := by
        rw [List.map_flatten, List.map_replicate]
      simp [h2, pinsD, show ps.length ≤ 1000 ∧ -1000 ≤ w ∧ w ≤ 1000 by omega]
    · have : w = 0 ∨ w = 1 := by omega
      rcases this with rfl | rfl
      · exact List.nil_sublist _
      · show (List.replicate 1 ps).flatten.Sublist ps
        simp
  · by_cases h3 : w = 2
    · subst h3
      refine ⟨ps, 1, runS_rt (e := [.v sc, .v (.obj 0), .v (pinsD ps), .v (.int 2), .un]) ?_, List.Sublist.refl _, by omega⟩
      unfold b__law_few
      rw [first]
      simp
    · have h3' : (w == 2) = false := by simpa using h3
      obtain ⟨ys, st', q1, ⟨zs, q2, q3, q4⟩⟩ := lcL_gen (is := [4]) (t := gNm 4) (c := tB1 (e2 dEq (.ex (eCallS f__law_draw (aCons (eVar 0) (aCons (eVar 1) (aCons (eC (.int 2)) aNil))))) (.ex (eC (.int 0))))) (e := eVar 4) [.v sc, .v (.obj 0), .v (pinsD ps), .v (.int w), .un]
        (fun i acc st' => ∃ zs : List Int, acc = zs.map .int ∧ st' = .lst (twn (m + 1 + i)) :: st ∧ zs.Sublist (ps.take i)) (ps.map .int) [] 0 [.v sc, .v (.obj 0), .v (pinsD ps), .v (.int w), .un] (.lst (twn (m + 1)) :: st) rfl ⟨[], rfl, rfl, List.nil_sublist _⟩ (by simp; omega) (by
        rintro i d acc st' hi ⟨zs, rfl, rfl, hz⟩
        rw [Nat.zero_add] at hz ⊢
        have hil : i < ps.length := by
          have := (List.getElem?_eq_some_iff.mp hi).1
          simpa using this
        have hdv : d = .int ps[i] := by
          rw [List.getElem?_map, List.getElem?_eq_getElem hil] at hi
          cases hi
          rfl
        subst hdv
        have ed := hd (m + 1 + i) (by omega)
        refine ⟨⟨[.v sc, .v (.obj 0), .v (pinsD ps), .v (.int w), .v (.int ps[i])], .lst (twn (m + 1 + i)) :: st⟩, rnd ns (m + 1 + i + 1) 2 == 0, [.v sc, .v (.obj 0), .v (pinsD ps), .v (.int w), .v (.int ps[i])], .lst (twn (m + 1 + i + 1)) :: st, rfl, by simp [ed], fun _ => ⟨rfl, zs, rfl, rfl, ?_⟩, fun _ => ⟨.int ps[i], [.v sc, .v (.obj 0), .v (pinsD ps), .v (.int w), .v (.int ps[i])], .lst (twn (m + 1 + (i + 1))) :: st, by simp [Nat.add_assoc], rfl, zs ++ [ps[i]], by simp, rfl, ?_⟩⟩
        · rw [List.take_add_one]
          exact hz.trans (List.sublist_append_left _ _)
        · rw [List.take_add_one, List.getElem?_eq_getElem hil]
          exact hz.append (List.Sublist.refl _))
      rw [Nat.zero_add, List.length_map] at q3
      rw [Nat.zero_add, List.length_map, List.take_length] at q4
      refine ⟨zs, 1 + ps.length, runS_rt (e := [.v sc, .v (.obj 0), .v (pinsD ps), .v (.int w), .un]) ?_, q4, by omega⟩
      unfold b__law_few
      rw [first]
      subst q2
      rw [q3] at q1
      refine seq_of (s1 := ⟨[.v sc, .v (.obj 0), .v (pinsD ps), .v (.int w), .un], .lst (twn (m + 1)) :: st⟩) (by simp [h2]) ?_
      refine seq_of (s1 := ⟨[.v sc, .v (.obj 0), .v (pinsD ps), .v (.int w), .un], .lst (twn (m + 1)) :: st⟩) (by simp [h3']) ?_
      simp only [pinsD] at q1 ⊢
      simp [r_kLc, q1, kLc2, backE, Nat.add_assoc]
/-! ### clumps as plain lists -/
theorem every_cases {r p : Int} (h : 1 ≤ r ∧ r ≤ 4) (hp : p ∈ every r) : (r = 1 ∧ p = 1) ∨ (r = 2 ∧ (p = 1 ∨ p = 2 ∨ p = 3)) ∨ (r = 3 ∧ (p = 1 ∨ p = 2 ∨ p = 3 ∨ p = 4 ∨ p = 5 ∨ p = 6)) ∨ (r = 4 ∧ (p = 1 ∨ p = 2 ∨ p = 3 ∨ p = 4 ∨ p = 5 ∨ p = 6 ∨ p = 7 ∨ p = 8 ∨ p = 9 ∨ p = 10)) := by
  have : r = 1 ∨ r = 2 ∨ r = 3 ∨ r = 4 := by omega
  rcases this with rfl | rfl | rfl | rfl
  · exact .inl ⟨rfl, by have : p ∈ [1] := hp; simpa using this⟩
  · exact .inr (.inl ⟨rfl, by have : p ∈ [1, 2, 3] := hp; simpa using this⟩)
  · exact .inr (.inr (.inl ⟨rfl, by have : p ∈ [1, 2, 3, 4, 5, 6] := hp; simpa using this⟩))
  · exact .inr (.inr (.inr ⟨rfl, by have : p ∈ [1, 2, 3, 4, 5, 6, 7, 8, 9, 10] := hp; simpa using this⟩))
def besT : List (List (List Int)) := [[], [[], []], [[], [2, 3], [1, 3], [1, 2]], [[], [2, 3], [1, 3, 4, 5], [1, 2, 5, 6], [2, 5], [2, 3, 4, 6], [3, 5]], [[], [2, 3], [1, 3, 4, 5], [1, 2, 5, 6], [2, 5, 7, 8], [2, 3, 4, 6, 8, 9], [3, 5, 9, 10], [4, 8], [4, 5, 7, 9], [5, 6, 8, 10], [6, 9]]]
def bes (r p : Int) : List Int := (besT.getD r.toNat []).getD p.toNat []
theorem bes_1_1 (t n : Int) : f_beside [rulesD 1 t n, .int 1] = .ok (pinsD (bes 1 1)) := by kernel_rfl
theorem bes_2_1 (t n : Int) : f_beside [rulesD 2 t n, .int 1] = .ok (pinsD (bes 2 1)) := by kernel_rfl
theorem bes_2_2 (t n : Int) : f_beside [rulesD 2 t n, .int 2] = .ok (pinsD (bes 2 2)) := by kernel_rfl
theorem bes_2_3 (t n : Int) : f_beside [rulesD 2 t n, .int 3] = .ok (pinsD (bes 2 3)) := by kernel_rfl
theorem bes_3_1 (t n : Int) : f_beside [rulesD 3 t n, .int 1] = .ok (pinsD (bes 3 1)) := by kernel_rfl
theorem bes_3_2 (t n : Int) : f_beside [rulesD 3 t n, .int 2] = .ok (pinsD (bes 3 2)) := by kernel_rfl
theorem bes_3_3 (t n : Int) : f_beside [rulesD 3 t n, .int 3] = .ok (pinsD (bes 3 3)) := by kernel_rfl
theorem bes_3_4 (t n : Int) : f_beside [rulesD 3 t n, .int 4] = .ok (pinsD (bes 3 4)) := by kernel_rfl
theorem bes_3_5 (t n : Int) : f_beside [rulesD 3 t n, .int 5] = .ok (pinsD (bes 3 5)) := by kernel_rfl
theorem bes_3_6 (t n : Int) : f_beside [rulesD 3 t n, .int 6] = .ok (pinsD (bes 3 6)) := by kernel_rfl
theorem bes_4_1 (t n : Int) : f_beside [rulesD 4 t n, .int 1] = .ok (pinsD (bes 4 1)) := by kernel_rfl
theorem bes_4_2 (t n : Int) : f_beside [rulesD 4 t n, .int 2] = .ok (pinsD (bes 4 2)) := by kernel_rfl
theorem bes_4_3 (t n : Int) : f_beside [rulesD 4 t n, .int 3] = .ok (pinsD (bes 4 3)) := by kernel_rfl
theorem bes_4_4 (t n : Int) : f_beside [rulesD 4 t n, .int 4] = .ok (pinsD (bes 4 4)) := by kernel_rfl
theorem bes_4_5 (t n : Int) : f_beside [rulesD 4 t n, .int 5] = .ok (pinsD (bes 4 5)) := by kernel_rfl
theorem bes_4_6 (t n : Int) : f_beside [rulesD 4 t n, .int 6] = .ok (pinsD (bes 4 6)) := by kernel_rfl
theorem bes_4_7 (t n : Int) : f_beside [rulesD 4 t n, .int 7] = .ok (pinsD (bes 4 7)) := by kernel_rfl
theorem bes_4_8 (t n : Int) : f_beside [rulesD 4 t n, .int 8] = .ok (pinsD (bes 4 8)) := by kernel_rfl
theorem bes_4_9 (t n : Int) : f_beside [rulesD 4 t n, .int 9] = .ok (pinsD (bes 4 9)) := by kernel_rfl
theorem bes_4_10 (t n : Int) : f_beside [rulesD 4 t n, .int 10] = .ok (pinsD (bes 4 10)) := by kernel_rfl
theorem beside_eq {r t n p : Int} (h : 1 ≤ r ∧ r ≤ 4) (hp : p ∈ every r) : f_beside [rulesD r t n, .int p] = .ok (pinsD (bes r p)) := by
  rcases every_cases h hp with ⟨rfl, rfl⟩ | ⟨rfl, rfl | rfl | rfl⟩ | ⟨rfl, rfl | rfl | rfl | rfl | rfl | rfl⟩ | ⟨rfl, rfl | rfl | rfl | rfl | rfl | rfl | rfl | rfl | rfl | rfl⟩
  · exact bes_1_1 t n
  · exact bes_2_1 t n
  · exact bes_2_2 t n
  · exact bes_2_3 t n
  · exact bes_3_1 t n
  · exact bes_3_2 t n
  · exact bes_3_3 t n
  · exact bes_3_4 t n
  · exact bes_3_5 t n
  · exact bes_3_6 t n
  · exact bes_4_1 t n
  · exact bes_4_2 t n
  · exact bes_4_3 t n
  · exact bes_4_4 t n
  · exact bes_4_5 t n
  · exact bes_4_6 t n
  · exact bes_4_7 t n
  · exact bes_4_8 t n
  · exact bes_4_9 t n
  · exact bes_4_10 t n
theorem in_pins (p : Int) (zs : List Int) : dIn false (.int p) (pinsD zs) = some (.bl (zs.contains p)) := by
  unfold pinsD
  rw [dIn_t]
  simp
theorem split_len (p : Int → Bool) : ∀ l : List Int, (l.filter fun x => !p x).length + (l.filter fun x => p x).length = l.length
  | [] => rfl
  | x :: l => by
    have ih := split_len p l
    cases h : p x with
    | true =>
      rw [List.filter_cons_of_neg (by simp [h]), List.filter_cons_of_pos (by exact h)]
      simp only [List.length_cons]
      omega
    | false =>
      rw [List.filter_cons_of_pos (by simp [h]), List.filter_cons_of_neg (by simp [h])]
      simp only [List.length_cons]
      omega
theorem bes_sub {r p : Int} (h : 1 ≤ r ∧ r ≤ 4) (hp : p ∈ every r) : ∀ q ∈ bes r p, q ∈ every r := by
  rcases every_cases h hp with ⟨rfl, rfl⟩ | ⟨rfl, rfl | rfl | rfl⟩ | ⟨rfl, rfl | rfl | rfl | rfl | rfl | rfl⟩ | ⟨rfl, rfl | rfl | rfl | rfl | rfl | rfl | rfl | rfl | rfl | rfl⟩ <;> decide
def grow (r : Int) : Nat → List Int → List Int → Nat → List Int × List Int
  | 0, left, clump, _ => (left, clump)
  | k + 1, left, clump, at_ => match clump[at_]? with
    | none => (left, clump)
    | some q => grow r k (left.filter fun p => !(bes r q).contains p) (clump ++ left.filter fun p => (bes r q).contains p) (at_ + 1)
def clN (r : Int) : Nat → List Int → List (List Int)
  | 0, _ => []
  | _ + 1, [] => []
  | m + 1, p :: left => sortI (grow r 20 left [p] 0).2 :: clN r m (grow r 20 left [p] 0).1
def clumpsP (r : Int) (st : List Int) : List (List Int) := clN r 10 st

theorem clumps_in {r t n : Int} (h : 1 ≤ r ∧ r ≤ 4) {R : D} (hR : R = rulesD r t n) (ST F : D) : ∀ (k : Nat) (left clump : List Int) (at_ : Nat) (a6 : Fw.Slot), (∀ p ∈ left, p ∈ every r) → (∀ p ∈ clump, p ∈ every r) → left.length + clump.length ≤ 10 → at_ ≤ clump.length → left.length + clump.length < at_ + k → ∃ (left' clump' : List Int) (at' : Nat) (a6' : Fw.Slot), (left', clump') = grow r k left clump at_ ∧ left'.length ≤ left.length ∧ (∀ p ∈ left', p ∈ every r) ∧ (∀ p ∈ clump', p ∈ every r) ∧ left'.length + clump'.length ≤ 10 ∧ ∀ fu : Nat, k ≤ fu → 
    whileN (tB1 (e2 dLt (.sn 5) (.ex (e1 dLen (.sn 4))))) (bSeq (sAsg (eFz (fLc [7] (iSeq (eVar 3)) (gNm 7) (tB1 (e2 (dIn false) (.sn 7) (.ex (eCallP f_beside (aCons (eVar 0) (aCons (e2 dIx (.sn 4) (.sn 5)) aNil)))))) (eVar 7))) (gNm 6))
    (bSeq (sOwn 3 (fLc [7] (iSeq (eVar 3)) (gNm 7) (tB1 (e2 (dIn true) (.sn 7) (.sn 6))) (eVar 7)))
    (bSeq (sAsg (e2 dAdd (.sn 4) (.sn 6)) (gNm 4))
    (sAsg (e2 dAdd (.sn 5) (.ex (eC (.int 1)))) (gNm 5))))) fu ⟨[.v R, .v ST, .v F, .own (.lst (left.map .int)), .v (.lst (clump.map .int)), .v (.int (at_ : Int)), a6, .un], []⟩ = .ok .nx ⟨[.v R, .v ST, .v F, .own (.lst (left'.map .int)), .v (.lst (clump'.map .int)), .v (.int (at' : Int)), a6', .un], []⟩
  | 0, left, clump, at_, a6, hl, hc, hn, ha, hk => by omega
  | k + 1, left, clump, at_, a6, hl, hc, hn, ha, hk => by
    have lenC : dLen (.lst (clump.map D.int)) = some (.int (clump.length : Int)) := by
      show some (D.int ((clump.map D.int).length : Int)) = _
      rw [List.length_map]
    by_cases hlt : at_ < clump.length
    · have d1 : decide ((at_ : Int) < (clump.length : Int)) = true := decide_eq_true (by omega)
      obtain ⟨q, hq⟩ : ∃ q, clump[at_]? = some q := ⟨_, List.getElem?_eq_getElem hlt⟩
      have hqe := hc q (List.mem_of_getElem? hq)
      obtain ⟨zs, hzs⟩ : ∃ zs, zs = bes r q := ⟨_, rfl⟩
      have ez := beside_eq (t := t) (n := n) h hqe
      rw [← hzs] at ez
      rw [← hR] at ez
      have ixq : dIx (.lst (clump.map D.int)) (.int (at_ : Int)) = some (.int q) := by
        show atI (clump.map D.int) (at_ : Int) = _
        unfold atI ixN
        rw [if_pos (by omega), if_pos (by rw [List.length_map]; omega), Option.bind_some, Int.toNat_natCast, List.getElem?_map, hq]
        rfl
      obtain ⟨more, hmore⟩ : ∃ more, more = left.filter fun p => zs.contains p := ⟨_, rfl⟩
      obtain ⟨left2, hleft2⟩ : ∃ left2, left2 = left.filter fun p => !more.contains p := ⟨_, rfl⟩
      obtain ⟨ai, hai⟩ : ∃ ai : Int, ai = (at_ : Int) := ⟨_, rfl⟩
      have lc1 := lcL_fm (is := [7]) (t := gNm 7) (c := tB1 (e2 (dIn false) (.sn 7) (.ex (eCallP f_beside (aCons (eVar 0) (aCons (e2 dIx (.sn 4) (.sn 5)) aNil)))))) (e := eVar 7) D.int [.v R, .v ST, .v F, .v (.lst (left.map .int)), .v (.lst (clump.map .int)), .v (.int (at_ : Int)), a6, .un] [] (fun p => zs.contains p) D.int [.v R, .v ST, .v F, .v (.lst (left.map .int)), .v (.lst (clump.map .int)), .v (.int (at_ : Int)), a6, .un] left rfl (by rw [sizeLine_n]; omega) (fun p hp => ⟨⟨[.v R, .v ST, .v F, .v (.lst (left.map .int)), .v (.lst (clump.map .int)), .v (.int (at_ : Int)), a6, .v (.int p)], []⟩, [.v R, .v ST, .v F, .v (.lst (left.map .int)), .v (.lst (clump.map .int)), .v (.int (at_ : Int)), a6, .v (.int p)], rfl, by
          have ip := in_pins p zs
          rw [← hai] at ixq ⊢
          generalize clump.map D.int = CD at *
          generalize left.map D.int = LD at *
          simp [ixq, ez, ip], rfl, fun _ => ⟨[.v R, .v ST, .v F, .v (.lst (left.map .int)), .v (.lst (clump.map .int)), .v (.int (at_ : Int)), a6, .v (.int p)], by simp, rfl⟩⟩)
      rw [← hmore] at lc1
      have lc2 := lcL_fm (is := [7]) (t := gNm 7) (c := tB1 (e2 (dIn true) (.sn 7) (.sn 6))) (e := eVar 7) D.int [.v R, .v ST, .v F, .v (.lst (left.map .int)), .v (.lst (clump.map .int)), .v (.int (at_ : Int)), .v (.lst (more.map .int)), .un] [] (fun p => !more.contains p) D.int [.v R, .v ST, .v F, .v (.lst (left.map .int)), .v (.lst (clump.map .int)), .v (.int (at_ : Int)), .v (.lst (more.map .int)), .un] left rfl (by rw [sizeLine_n]; omega) (fun p hp => ⟨⟨[.v R, .v ST, .v F, .v (.lst (left.map .int)), .v (.lst (clump.map .int)), .v (.int (at_ : Int)), .v (.lst (more.map .int)), .v (.int p)], []⟩, [.v R, .v ST, .v F, .v (.lst (left.map .int)), .v (.lst (clump.map .int)), .v (.int (at_ : Int)), .v (.lst (more.map .int)), .v (.int p)], rfl, by
          rw [← hai]
          simp [dIn_l], rfl, fun _ => ⟨[.v R, .v ST, .v F, .v (.lst (left.map .int)), .v (.lst (clump.map .int)), .v (.int (at_ : Int)), .v (.lst (more.map .int)), .v (.int p)], by simp, rfl⟩⟩)
      rw [← hleft2] at lc2
      have hml : more.length ≤ left.length := by rw [hmore]; exact List.length_filter_le _ _
      have hflt : left.filter (fun p => !more.contains p) = left.filter (fun p => !zs.contains p) := List.filter_congr fun p hp => by
          congr 1
          rw [hmore]
          cases hz : zs.contains p with
          | true => simpa using ⟨hp, by simpa using hz⟩
          | false =>
            have : p ∉ left.filter fun p => zs.contains p := fun z => by
              have := (List.mem_filter.mp z).2
              rw [hz] at this
              cases this
            simpa using this
      have hsplit : left2.length + more.length ≤ left.length := by
        rw [hleft2, hflt, hmore]
        exact Nat.le_of_eq (split_len _ left)
      have hcm : (clump ++ more).length = clump.length + more.length := List.length_append
      obtain ⟨l', c', t', a', b0, b1, b2, b3, b4, b5⟩ := clumps_in h hR ST F k left2 (clump ++ more) (at_ + 1) (.v (.lst (more.map .int))) (fun p hp => hl p (by rw [hleft2] at hp; exact (List.mem_filter.mp hp).1)) (fun p hp => by
        rcases List.mem_append.mp hp with z | z
        · exact hc p z
        · exact hl p (by rw [hmore] at z; exact (List.mem_filter.mp z).1)) (by omega) (by omega) (by omega)
      have hl2 : left2.length ≤ left.length := by omega
      refine ⟨l', c', t', a', ?_, by omega, b2, b3, b4, fun fu hfu => ?_⟩
      · rw [b0, grow, hq]
        show _ = grow r k (left.filter fun p => !(bes r q).contains p) (clump ++ left.filter fun p => (bes r q).contains p) (at_ + 1)
        rw [← hzs]
        rw [← hmore, ← hflt, ← hleft2]
      obtain ⟨fv, rfl⟩ : ∃ fv, fu = fv + 1 := ⟨fu - 1, by omega⟩
      have b5 := b5 fv (by omega)
      have addC : dAdd (.lst (clump.map D.int)) (.lst (more.map D.int)) = some (.lst ((clump ++ more).map D.int)) := by
        rw [dAdd_l, if_pos (by rw [sizeLine_n, List.length_map, List.length_map]; omega), List.map_append]
      have ebd : (bSeq (sAsg (eFz (fLc [7] (iSeq (eVar 3)) (gNm 7) (tB1 (e2 (dIn false) (.sn 7) (.ex (eCallP f_beside (aCons (eVar 0) (aCons (e2 dIx (.sn 4) (.sn 5)) aNil)))))) (eVar 7))) (gNm 6))
        (bSeq (sOwn 3 (fLc [7] (iSeq (eVar 3)) (gNm 7) (tB1 (e2 (dIn true) (.sn 7) (.sn 6))) (eVar 7)))
        (bSeq (sAsg (e2 dAdd (.sn 4) (.sn 6)) (gNm 4))
        (sAsg (e2 dAdd (.sn 5) (.ex (eC (.int 1)))) (gNm 5))))) ⟨[.v R, .v ST, .v F, .own (.lst (left.map .int)), .v (.lst (clump.map .int)), .v (.int (at_ : Int)), a6, .un], []⟩ = .ok .nx ⟨[.v R, .v ST, .v F, .own (.lst (left2.map .int)), .v (.lst ((clump ++ more).map .int)), .v (.int ((at_ + 1 : Nat) : Int)), .v (.lst (more.map .int)), .un], []⟩ := by
        have hai' : ((at_ + 1 : Nat) : Int) = ai + 1 := by omega
        rw [hai', ← hai]
        rw [← hai] at lc1 lc2
        refine seq_of (s1 := ⟨[.v R, .v ST, .v F, .v (.lst (left.map .int)), .v (.lst (clump.map .int)), .v (.int ai), .v (.lst (more.map .int)), .un], []⟩) (by
          generalize clump.map D.int = CD at *
          generalize more.map D.int = MD at *
          simp [r_kLc, lc1, kLc2, backE]) ?_
        refine seq_of (s1 := ⟨[.v R, .v ST, .v F, .own (.lst (left2.map .int)), .v (.lst (clump.map .int)), .v (.int ai), .v (.lst (more.map .int)), .un], []⟩) (by
          generalize clump.map D.int = CD at *
          generalize more.map D.int = MD at *
          simp [r_kLc, lc2, kLc2, backE]) ?_
        generalize (clump ++ more).map D.int = CM at *
        generalize clump.map D.int = CD at *
        generalize more.map D.int = MD at *
        simp [-dAdd_l, addC]
      have ec : (tB1 (e2 dLt (.sn 5) (.ex (e1 dLen (.sn 4))))) ⟨[.v R, .v ST, .v F, .own (.lst (left.map .int)), .v (.lst (clump.map .int)), .v (.int (at_ : Int)), a6, .un], []⟩ = .ok true ⟨[.v R, .v ST, .v F, .own (.lst (left.map .int)), .v (.lst (clump.map .int)), .v (.int (at_ : Int)), a6, .un], []⟩ := by
        generalize clump.map D.int = CD at *
        generalize left.map D.int = LD at *
        generalize (at_ : Int) = aa at *
        generalize (clump.length : Int) = cc at *
        simp [lenC, d1]
      rw [whileN, ec, bnd_ok, if_pos rfl, ebd, bnd_ok]
      exact b5
    · have d1 : decide ((at_ : Int) < (clump.length : Int)) = false := decide_eq_false (by omega)
      refine ⟨left, clump, at_, a6, by rw [grow, List.getElem?_eq_none (by omega)], Nat.le_refl _, hl, hc, hn, fun fu hfu => ?_⟩
      obtain ⟨fv, rfl⟩ : ∃ fv, fu = fv + 1 := ⟨fu - 1, by omega⟩
      have ec : (tB1 (e2 dLt (.sn 5) (.ex (e1 dLen (.sn 4))))) ⟨[.v R, .v ST, .v F, .own (.lst (left.map .int)), .v (.lst (clump.map .int)), .v (.int (at_ : Int)), a6, .un], []⟩ = .ok false ⟨[.v R, .v ST, .v F, .own (.lst (left.map .int)), .v (.lst (clump.map .int)), .v (.int (at_ : Int)), a6, .un], []⟩ := by
        generalize clump.map D.int = CD at *
        generalize left.map D.int = LD at *
        generalize (at_ : Int) = aa at *
        generalize (clump.length : Int) = cc at *
        simp [lenC, d1]
      rw [whileN, ec, bnd_ok, if_neg Bool.false_ne_true]
theorem plain_pinss : ∀ zs : List (List Int), D.plainL (zs.map pinsD) = true
  | [] => rfl
  | x :: xs => by rw [List.map_cons, D.plainL, plain_pins, plain_pinss xs]; rfl
theorem clumps_eq {r t n : Int} (h : 1 ≤ r ∧ r ≤ 4) (st : List Int) (hs : st.Sublist (every r)) : f_clumps [rulesD r t n, pinsD st] = .ok (.tup ((clumpsP r st).map pinsD)) := by
  obtain ⟨R, hR⟩ : ∃ R, R = rulesD r t n := ⟨_, rfl⟩
  have hRp : R.plain = true := by rw [hR]; rfl
  have hl10 : st.length ≤ 10 := Nat.le_trans hs.length_le (every_len h)
  rw [← hR]
  obtain ⟨ST, hST⟩ : ∃ ST, ST = pinsD st := ⟨_, rfl⟩
  have lenE : f_clumps [R, pinsD st] = runP 8 b_clumps [R, pinsD st] := by unfold f_clumps; exact if_pos rfl
  rw [lenE, ← hST]
  have lp := goes_while (c := tTru (.sn 3)) (b := bSeq (sAsg (eFz (fLst (aCons (eMeth 3 (aCons (eC (.int 0)) aNil) k1Pop1) aNil))) (gNm 4))
    (bSeq (sAsg (eC (.int 0)) (gNm 5))
    (bSeq (whileN (tB1 (e2 dLt (.sn 5) (.ex (e1 dLen (.sn 4))))) (bSeq (sAsg (eFz (fLc [7] (iSeq (eVar 3)) (gNm 7) (tB1 (e2 (dIn false) (.sn 7) (.ex (eCallP f_beside (aCons (eVar 0) (aCons (e2 dIx (.sn 4) (.sn 5)) aNil)))))) (eVar 7))) (gNm 6))
    (bSeq (sOwn 3 (fLc [7] (iSeq (eVar 3)) (gNm 7) (tB1 (e2 (dIn true) (.sn 7) (.sn 6))) (eVar 7)))
    (bSeq (sAsg (e2 dAdd (.sn 4) (.sn 6)) (gNm 4))
    (sAsg (e2 dAdd (.sn 5) (.ex (eC (.int 1)))) (gNm 5))))) 1000000)
    (sAsg (e2 dAdd (.sn 2) (.ex (eTup (aCons (e1 dTuple (.ex (eFz (f1 oSorted (.sn 4))))) aNil)))) (gNm 2))))) (P := fun s => ∃ (zs : List (List Int)) (b3 a4 a5 a6 : Fw.Slot), zs = clumpsP r st ∧ s = ⟨[.v R, .v ST, .v (.tup (zs.map pinsD)), b3, a4, a5, a6, .un], []⟩)
    (fun m s => ∃ (zs : List (List Int)) (left : List Int) (a4 a5 a6 : Fw.Slot), s = ⟨[.v R, .v ST, .v (.tup (zs.map pinsD)), .own (.lst (left.map .int)), a4, a5, a6, .un], []⟩ ∧ (∀ p ∈ left, p ∈ every r) ∧ left.length ≤ m ∧ zs.length + left.length ≤ 10 ∧ zs ++ clN r m left = clumpsP r st) (by
      rintro m s ⟨zs, left, a4, a5, a6, rfl, hl, hm, hz, hcl⟩
      cases left with
      | nil =>
        left
        exact ⟨by simp, zs, _, _, _, _, by rw [← hcl]; cases m <;> simp [clN], rfl⟩
      | cons p left =>
        right
        refine ⟨by simp, ?_⟩
        simp only [List.length_cons] at hm hz
        obtain ⟨l', c', t', a', b0, b1, b2, b3, b4, b5⟩ := clumps_in h hR ST (.tup (zs.map pinsD)) 20 left [p] 0 a6 (fun q hq => hl q (List.mem_cons_of_mem _ hq)) (fun q hq => by rw [List.mem_singleton] at hq; subst hq; exact hl q List.mem_cons_self) (by simp only [List.length_singleton]; omega) (Nat.zero_le _) (by simp only [List.length_singleton]; omega)
        have b5 := b5 1000000 (by decide)
        have hso : oSorted (.lst (c'.map D.int)) = some (.lst ((sortI c').map .int)) := oSorted_l c'
        have add : dAdd (.tup (zs.map pinsD)) (.tup [.tup ((sortI c').map .int)]) = some (.tup ((zs ++ [sortI c']).map pinsD)) := by
          rw [dAdd_t, if_pos (by rw [sizeLine_n, List.length_map, List.length_singleton]; omega), List.map_append]
          rfl
        refine ⟨m - 1, ⟨[.v R, .v ST, .v (.tup ((zs ++ [sortI c']).map pinsD)), .own (.lst (l'.map .int)), .v (.lst (c'.map .int)), .v (.int (t' : Int)), a', .un], []⟩, by omega, ?_, zs ++ [sortI c'], l', _, _, _, rfl, b2, by omega, by rw [List.length_append, List.length_singleton]; omega, ?_⟩
        rotate_left
        · obtain ⟨m', rfl⟩ : ∃ m', m = m' + 1 := ⟨m - 1, by omega⟩
          rw [← hcl, clN, ← b0, List.append_assoc]
          rfl
        have z0 : ((0 : Nat) : Int) = 0 := rfl
        rw [z0] at b5
        refine seq_of (s1 := ⟨[.v R, .v ST, .v (.tup (zs.map pinsD)), .own (.lst (left.map .int)), .v (.lst [.int p]), a5, a6, .un], []⟩) (by simp) ?_
        refine seq_of (s1 := ⟨[.v R, .v ST, .v (.tup (zs.map pinsD)), .own (.lst (left.map .int)), .v (.lst ([p].map .int)), .v (.int 0), a6, .un], []⟩) (by simp) ?_
        refine seq_of b5 ?_
        generalize (zs ++ [sortI c']).map pinsD = Z2 at *
        generalize zs.map pinsD = ZD at *
        generalize (sortI c').map D.int = SC at *
        generalize c'.map D.int = CD at *
        generalize (t' : Int) = ti at *
        simp [-dAdd_t, -oSorted_l, hso, add]) 1000000 10 ⟨[.v R, .v ST, .v (.tup []), .own (.lst (st.map .int)), .un, .un, .un, .un], []⟩ ⟨[], st, _, _, _, rfl, fun p hp => hs.subset hp, hl10, by simp only [List.length_nil]; omega, rfl⟩ (by decide)
  obtain ⟨s1, q1, zs, b3, a4, a5, a6, q0, q2⟩ := lp
  rw [← q0]
  have hzp : (D.tup (zs.map pinsD)).plain = true := by
    exact plain_pinss zs
  refine runP_rt (s := s1) (by rw [hST]; simp only [D.plainL, hRp, plain_pins]; rfl) hzp ?_
  unfold b_clumps
  refine seq_of (s1 := ⟨[.v R, .v ST, .v (.tup []), .un, .un, .un, .un, .un], []⟩) (by simp) ?_
  refine seq_of (s1 := ⟨[.v R, .v ST, .v (.tup []), .own (.lst (st.map .int)), .un, .un, .un, .un], []⟩) (by rw [hST]; simp [pinsD, oList]) (seq_of q1 ?_)
  rw [q2]
  simp

end Lk01
namespace Lk01
open PySem L2 Fw
/-! ### clumps: the plain facts, looked through one by one -/
def ltB : List Int → List Int → Bool
  | _, [] => false
  | [], _ :: _ => true
  | x :: xs, y :: ys => if x = y then ltB xs ys else decide (x < y)
def insL (x : List Int) : List (List Int) → List (List Int)
  | [] => [x]
  | y :: ys => cond (ltB y x) (y :: insL x ys) (x :: y :: ys)
def sortL : List (List Int) → List (List Int)
  | [] => []
  | x :: xs => insL x (sortL xs)
def mirT : List Int := [0, 1, 3, 2, 6, 5, 4, 10, 9, 8, 7]
def mir (p : Int) : Int := mirT.getD p.toNat 0
def mirP (st : List Int) : List Int := sortI (st.map mir)
def subs : List Int → List (List Int)
  | [] => [[]]
  | x :: xs => (subs xs).map (x :: ·) ++ subs xs
theorem mem_subs : ∀ {xs l : List Int}, l.Sublist xs → l ∈ subs xs
  | _, _, .slnil => List.mem_singleton.mpr rfl
  | _, _, .cons _ h => List.mem_append.mpr (.inr (mem_subs h))
  | _, _, .cons_cons _ h => List.mem_append.mpr (.inl (List.mem_map.mpr ⟨_, mem_subs h, rfl⟩))
def seenP (r : Int) (clump : List Int) : Nat → List Int
  | 0 => [clump.headD 0]
  | k + 1 => seenP r clump k ++ clump.filter fun p => !(seenP r clump k).contains p && ((seenP r clump k).map (bes r)).flatten.contains p
def seenI (r : Int) (clump : List Int) : Nat → List Int → List Int
  | 0, s => s
  | k + 1, s => seenI r clump k (s ++ clump.filter fun p => !s.contains p && s.any fun q => (bes r q).contains p)
def holdC (r : Int) (st clump : List Int) : Bool := !clump.isEmpty && clump.all (fun p => (bes r p).all fun q => !(st.contains q && !clump.contains q)) && sortI (seenI r clump clump.length [clump.headD 0]) == clump
def dueP (found : List (List Int)) (some : List Int) (pin : Int) : List (List Int) := (found.filter fun c => !c.any fun q => some.contains q) ++ [sortI ((found.filter fun c => c.any fun q => some.contains q).flatten ++ [pin])]
def chk1 (r : Int) (st : List Int) (found : List (List Int)) : Bool := sortI found.flatten == st && sortL found == found && found.all (holdC r st) && decide (found.length ≤ 10)
def chk2 (r : Int) (st : List Int) (found : List (List Int)) : Bool := mirP (mirP st) == st && clumpsP r (mirP st) == sortL (found.map mirP) && (mirP st).contains 1 == st.contains 1 && (clumpsP r (mirP st)).length == found.length
def chk3 (r : Int) (st : List Int) (found : List (List Int)) : Bool := (every r).all fun p => st.contains p || clumpsP r (insI p st) == sortL (dueP found (bes r p) p)
def chk (r : Int) (st : List Int) : Bool := chk1 r st (clumpsP r st) && chk2 r st (clumpsP r st) && chk3 r st (clumpsP r st)

end Lk01
namespace Lk01
open PySem L2 Fw
theorem ltB_eq : ∀ xs ys : List Int, ltB xs ys = decide (xs < ys)
  | [], [] => by simp [ltB]
  | _ :: _, [] => by simp [ltB]
  | [], _ :: _ => by simp [ltB]
  | x :: xs, y :: ys => by
    rw [ltB]
    by_cases h : x = y
    · rw [if_pos h, ltB_eq xs ys]
      simp [h, List.cons_lt_cons_iff]
    · rw [if_neg h]
      simp [h, List.cons_lt_cons_iff]
def leL (a b : List Int) : Bool := !ltB b a
theorem leL_eq (a b : List Int) : leL a b = decide (a ≤ b) := by
  unfold leL
  rw [ltB_eq]
  by_cases h : b < a
  · have : ¬ a ≤ b := fun z => z h
    simp [h, this]
  · have : a ≤ b := h
    simp [h, this]
theorem leL_trans (a b c : List Int) (h1 : leL a b = true) (h2 : leL b c = true) : leL a c = true := by
  rw [leL_eq] at *
  exact decide_eq_true (List.le_trans (of_decide_eq_true h1) (of_decide_eq_true h2))
theorem leL_total (a b : List Int) : (leL a b || leL b a) = true := by
  rw [leL_eq, leL_eq]
  rcases List.le_total a b with h | h
  · simp [h]
  · simp [h]
theorem leL_anti (a b : List Int) (h1 : leL a b = true) (h2 : leL b a = true) : a = b := by
  rw [leL_eq] at *
  exact List.le_antisymm (of_decide_eq_true h1) (of_decide_eq_true h2)
theorem insL_perm (x : List Int) : ∀ ys, (insL x ys).Perm (x :: ys)
  | [] => List.Perm.refl _
  | y :: ys => by
    unfold insL
    cases ltB y x with
    | false => exact List.Perm.refl _
    | true => exact ((insL_perm x ys).cons y).trans (List.Perm.swap x y ys)
theorem sortL_perm : ∀ xs, (sortL xs).Perm xs
  | [] => List.Perm.refl _
  | x :: xs => (insL_perm x _).trans ((sortL_perm xs).cons x)
theorem insL_sorted (x : List Int) : ∀ ys, ys.Pairwise (fun a b => leL a b = true) → (insL x ys).Pairwise (fun a b => leL a b = true)
  | [], _ => List.pairwise_singleton _ _
  | y :: ys, h => by
    obtain ⟨h1, h2⟩ := List.pairwise_cons.mp h
    unfold insL
    cases hyx : ltB y x with
    | false =>
      refine List.pairwise_cons.mpr ⟨fun z hz => ?_, h⟩
      have hxy : leL x y = true := by unfold leL; rw [hyx]; rfl
      rcases List.mem_cons.mp hz with rfl | hz
      · exact hxy
      · exact leL_trans _ _ _ hxy (h1 z hz)
    | true =>
      refine List.pairwise_cons.mpr ⟨fun z hz => ?_, insL_sorted x ys h2⟩
      rcases List.mem_cons.mp ((insL_perm x ys).mem_iff.mp hz) with rfl | hz
      · have t := leL_total y z
        have f : leL z y = false := by unfold leL; rw [hyx]; rfl
        rw [f, Bool.or_false] at t
        exact t
      · exact h1 z hz
theorem sortL_sorted : ∀ xs, (sortL xs).Pairwise (fun a b => leL a b = true)
  | [] => List.Pairwise.nil
  | x :: xs => insL_sorted x _ (sortL_sorted xs)
theorem perm_eqL {α : Type} {le : α → α → Bool} (anti : ∀ a b, le a b = true → le b a = true → a = b) : ∀ {xs ys : List α}, xs.Perm ys → xs.Pairwise (fun a b => le a b = true) → ys.Pairwise (fun a b => le a b = true) → xs = ys
  | [], ys, h, _, _ => h.symm.eq_nil.symm
  | x :: xs, [], h, _, _ => h.eq_nil
  | x :: xs, y :: ys, h, hx, hy => by
    obtain ⟨a1, a2⟩ := List.pairwise_cons.mp hx
    obtain ⟨b1, b2⟩ := List.pairwise_cons.mp hy
    have e : x = y := by
      rcases List.mem_cons.mp (h.mem_iff.mp List.mem_cons_self) with z | z
      · exact z
      · rcases List.mem_cons.mp (h.mem_iff.mpr (List.mem_cons_self (a := y))) with w | w
        · exact w.symm
        · exact anti _ _ (a1 y w) (b1 x z)
    subst e
    rw [perm_eqL anti (List.perm_cons x |>.mp h) a2 b2]
theorem le_pins (a b : List Int) : PySem.W.dataLe false D.toPy (pinsD a) (pinsD b) = leL a b := by
  show (!PySem.W.dataLt (.tuple (D.toPyL (b.map .int))) (.tuple (D.toPyL (a.map .int)))) = !ltB b a
  have e : ∀ xs : List Int, D.toPyL (xs.map .int) = xs.map .int := by
    intro xs
    induction xs with
    | nil => rfl
    | cons x xs ih => simp only [List.map_cons, D.toPyL, D.toPy, ih]
  rw [e, e, ltB_eq, ← PySem.W.dataLt_ints]
  rfl
theorem sortD_pins (xs : List (List Int)) : sortD (xs.map pinsD) = (sortL xs).map pinsD := by
  unfold sortD
  rw [← List.map_mergeSort (r := leL) (s := PySem.W.dataLe false D.toPy) (fun a _ b _ => (le_pins a b).symm)]
  congr 1
  exact perm_eqL leL_anti ((List.mergeSort_perm _ _).trans (sortL_perm xs).symm) (List.pairwise_mergeSort leL_trans leL_total xs) (sortL_sorted xs)
theorem okL_pinss : ∀ xs : List (List Int), D.okL (xs.map pinsD) = true
  | [] => rfl
  | x :: xs => by
    rw [List.map_cons, D.okL, okL_pinss xs, Bool.and_true]
    exact okL_ints x
theorem depL_pinss : ∀ xs : List (List Int), D.depL (xs.map pinsD) ≤ 1
  | [] => Nat.zero_le _
  | x :: xs => by
    rw [List.map_cons, D.depL]
    have h1 := depL_pinss xs
    have h2 : (pinsD x).dep = 1 := by
      show D.depL (x.map .int) + 1 = 1
      rw [depL_ints]
    omega
theorem alike_pins (a b : List Int) : PySem.W.alike (pinsD a).toPy (pinsD b).toPy = true := by
  show PySem.W.alikeAll (D.toPyL (a.map .int)) (D.toPyL (b.map .int)) = true
  have e : ∀ xs : List Int, D.toPyL (xs.map .int) = xs.map .int := by
    intro xs
    induction xs with
    | nil => rfl
    | cons x xs ih => simp only [List.map_cons, D.toPyL, D.toPy, ih]
  rw [e, e]
  exact PySem.W.alike_ints a b
theorem sortOk_pins {xs : List (List Int)} (h : ∀ x ∈ xs, x ≠ []) (hl : xs.length ≤ 1000) : sortOk (xs.map pinsD) = true := by
  unfold sortOk
  have h1 : (xs.map pinsD).all D.tupNe = true := by
    rw [List.all_eq_true]
    intro d hd
    obtain ⟨x, hx, rfl⟩ := List.mem_map.mp hd
    have := h x hx
    cases x with
    | nil => exact absurd rfl this
    | cons y ys => rfl
  have h2 : ((xs.map pinsD).all fun x => (xs.map pinsD).all fun y => PySem.W.alike x.toPy y.toPy) = true := by
    rw [List.all_eq_true]
    intro d hd
    rw [List.all_eq_true]
    intro e he
    obtain ⟨x, hx, rfl⟩ := List.mem_map.mp hd
    obtain ⟨y, hy, rfl⟩ := List.mem_map.mp he
    exact alike_pins x y
  rw [okL_pinss, h1, h2]
  have d1 : decide (D.depL (xs.map pinsD) ≤ 60) = true := decide_eq_true (by have := depL_pinss xs; omega)
  have d2 : decide ((xs.map pinsD).length ≤ 16777216) = true := decide_eq_true (by rw [List.length_map]; omega)
  rw [d1, d2]
  rfl
theorem oSortD_pinsL {xs : List (List Int)} (h : ∀ x ∈ xs, x ≠ []) (hl : xs.length ≤ 1000) : oSortD (.lst (xs.map pinsD)) = some (.lst ((sortL xs).map pinsD)) := by
  show (if sortOk (xs.map pinsD) = true then some (Ob.lst (sortD (xs.map pinsD))) else none) = _
  rw [if_pos (sortOk_pins h hl), sortD_pins]
theorem oSortD_pinsT {xs : List (List Int)} (h : ∀ x ∈ xs, x ≠ []) (hl : xs.length ≤ 1000) : oSortD (.tup (xs.map pinsD)) = some (.lst ((sortL xs).map pinsD)) := by
  show (if sortOk (xs.map pinsD) = true then some (Ob.lst (sortD (xs.map pinsD))) else none) = _
  rw [if_pos (sortOk_pins h hl), sortD_pins]

end Lk01
namespace Lk01
open PySem L2 Fw
/-! ### the mirror -/
def rowO (p : Int) : Int := if p ≤ 1 then 1 else if p ≤ 3 then 2 else if p ≤ 6 then 3 else 4
theorem ten_cases {p : Int} (h : 1 ≤ p ∧ p ≤ 10) : p = 1 ∨ p = 2 ∨ p = 3 ∨ p = 4 ∨ p = 5 ∨ p = 6 ∨ p = 7 ∨ p = 8 ∨ p = 9 ∨ p = 10 := by omega
theorem row_of_eq {p : Int} (h : 1 ≤ p ∧ p ≤ 10) : f_row_of [.int p] = .ok (.int (rowO p)) := by
  rcases ten_cases h with rfl | rfl | rfl | rfl | rfl | rfl | rfl | rfl | rfl | rfl <;> kernel_rfl
theorem mir_is {p : Int} (h : 1 ≤ p ∧ p ≤ 10) : (rowO p * (rowO p - 1) / 2 + 1) + (rowO p * (rowO p - 1) / 2 + 1) + rowO p - 1 - p = mir p := by
  rcases ten_cases h with rfl | rfl | rfl | rfl | rfl | rfl | rfl | rfl | rfl | rfl <;> decide
theorem rowO_is {p : Int} : 1 ≤ rowO p ∧ rowO p ≤ 4 := by
  unfold rowO
  split
  · omega
  · split
    · omega
    · split <;> omega
theorem mirrored_eq (R : D) (hR : R.plain = true) (l : List Int) (hl : ∀ p ∈ l, 1 ≤ p ∧ p ≤ 10) (hn : l.length ≤ 1000) : f_mirrored [R, pinsD l] = .ok (pinsD (mirP l)) := by
  have lenE : f_mirrored [R, pinsD l] = runP 6 b_mirrored [R, pinsD l] := by unfold f_mirrored; exact if_pos rfl
  rw [lenE]
  have hp : D.plainL [R, pinsD l] = true := by simp only [D.plainL, hR, plain_pins]; rfl
  refine runP_e hp (plain_pins _) ?_
  unfold b_mirrored
  obtain ⟨LD, hLD⟩ : ∃ LD, LD = pinsD l := ⟨_, rfl⟩
  show Ret _ ⟨[.v R, .v (pinsD l), .un, .un, .un, .un], []⟩ _
  refine ret_seq (s1 := ⟨[.v R, .v (pinsD l), .own (.lst []), .un, .un, .un], []⟩) (by simp) ?_
  have lp := for_pre (it := iSeq (eVar 1)) (t := gNm 3) (b := b_mirrored_f1) (s := ⟨[.v R, .v (pinsD l), .own (.lst []), .un, .un, .un], []⟩) (s0 := ⟨[.v R, .v (pinsD l), .own (.lst []), .un, .un, .un], []⟩) D.int l (fun pre s => ∃ a3 a4 a5, s = ⟨[.v R, .v (pinsD l), .own (.lst ((pre.map mir).map .int)), a3, a4, a5], []⟩) (by simp [pinsD]) ⟨_, _, _, rfl⟩ (by
    rintro pre p q s hpq ⟨a3, a4, a5, rfl⟩
    have hpb := hl p (by rw [hpq]; simp)
    refine ⟨⟨[.v R, .v (pinsD l), .own (.lst ((pre.map mir).map .int)), .v (.int p), a4, a5], []⟩, rfl, ⟨[.v R, .v (pinsD l), .own (.lst (((pre ++ [p]).map mir).map .int)), .v (.int p), .v (.int (rowO p)), .v (.int (rowO p * (rowO p - 1) / 2 + 1))], []⟩, ?_, _, _, _, rfl⟩
    have hrow := row_of_eq hpb
    have hm := mir_is hpb
    have hlen : ((pre.map mir).map D.int).length < 1000000 := by
      rw [List.length_map, List.length_map]
      have := congrArg List.length hpq
      simp only [List.length_append, List.length_cons] at this
      omega
    have hap : ((pre ++ [p]).map mir).map D.int = (pre.map mir).map D.int ++ [.int (mir p)] := by simp
    rw [hap]
    unfold b_mirrored_f1
    have hro := rowO_is (p := p)
    generalize rowO p = ro at *
    generalize (pre.map mir).map D.int = PD at *
    rw [← hm]
    rw [← hLD]
    have hro' : ro = 1 ∨ ro = 2 ∨ ro = 3 ∨ ro = 4 := by omega
    rcases hro' with rfl | rfl | rfl | rfl
    all_goals simp [hrow, show PD.length < 16777216 by omega])
  obtain ⟨s', l1, a3, a4, a5, rfl⟩ := lp
  refine ret_seq l1 ?_
  refine ⟨⟨[.v R, .v (pinsD l), .own (.lst ((l.map mir).map .int)), a3, a4, a5], []⟩, ?_⟩
  have hso := oSorted_l (l.map mir)
  show _ = Out.ok (Fl.rt (.tup ((mirP l).map .int))) _
  unfold mirP
  generalize (sortI (l.map mir)).map D.int = SD at *
  generalize (l.map mir).map D.int = MD at *
  simp [hso]

end Lk01
namespace Lk01
open PySem L2 Fw
theorem every_ten {r p : Int} (h : 1 ≤ r ∧ r ≤ 4) (hp : p ∈ every r) : 1 ≤ p ∧ p ≤ 10 := by
  rcases every_cases h hp with ⟨rfl, rfl⟩ | ⟨rfl, rfl | rfl | rfl⟩ | ⟨rfl, rfl | rfl | rfl | rfl | rfl | rfl⟩ | ⟨rfl, rfl | rfl | rfl | rfl | rfl | rfl | rfl | rfl | rfl | rfl⟩ <;> decide
theorem bes_len {r p : Int} (h : 1 ≤ r ∧ r ≤ 4) (hp : p ∈ every r) : (bes r p).length ≤ 6 := by
  rcases every_cases h hp with ⟨rfl, rfl⟩ | ⟨rfl, rfl | rfl | rfl⟩ | ⟨rfl, rfl | rfl | rfl | rfl | rfl | rfl⟩ | ⟨rfl, rfl | rfl | rfl | rfl | rfl | rfl | rfl | rfl | rfl | rfl⟩ <;> decide
theorem flat_pins (xs : List (List Int)) : (xs.map fun l => l.map D.int).flatten = xs.flatten.map D.int := by
  induction xs with
  | nil => rfl
  | cons x xs ih => simp only [List.map_cons, List.flatten_cons, List.map_append, ih]
theorem sum_pinsL (xs : List (List Int)) (h : xs.flatten.length ≤ 10000) : dSum2 (.lst (xs.map pinsD)) (.tup []) = some (pinsD xs.flatten) := by
  have e : xs.map pinsD = (xs.map fun l => l.map D.int).map .tup := by rw [List.map_map]; rfl
  rw [e, dSum2_l, flat_pins, if_pos (by rw [List.length_map, sizeLine_n]; omega)]
  rfl
theorem sum_pinsT (xs : List (List Int)) (h : xs.flatten.length ≤ 10000) : dSum2 (.tup (xs.map pinsD)) (.tup []) = some (pinsD xs.flatten) := by
  have e : xs.map pinsD = (xs.map fun l => l.map D.int).map .tup := by rw [List.map_map]; rfl
  rw [e, dSum2_t, flat_pins, if_pos (by rw [List.length_map, sizeLine_n]; omega)]
  rfl
def sStep (r : Int) (clump s : List Int) : List Int := s ++ clump.filter fun p => !s.contains p && s.any fun q => (bes r q).contains p
theorem seenI_succ (r : Int) (clump : List Int) : ∀ (k : Nat) (s : List Int), seenI r clump (k + 1) s = sStep r clump (seenI r clump k s)
  | 0, s => rfl
  | k + 1, s => by
    rw [seenI, seenI_succ r clump k]
    rfl
theorem any_flat (r : Int) (s : List Int) (p : Int) : (s.map (bes r)).flatten.contains p = s.any fun q => (bes r q).contains p := by
  induction s with
  | nil => rfl
  | cons x s ih =>
    rw [List.map_cons, List.flatten_cons, List.any_cons, ← ih]
    rw [Bool.eq_iff_iff]
    simp
theorem flat_len {r : Int} (h : 1 ≤ r ∧ r ≤ 4) : ∀ s : List Int, (∀ p ∈ s, p ∈ every r) → (s.map (bes r)).flatten.length ≤ 6 * s.length
  | [], _ => Nat.zero_le _
  | x :: s, hs => by
    have := flat_len h s fun p hp => hs p (List.mem_cons_of_mem _ hp)
    have := bes_len h (hs x List.mem_cons_self)
    simp only [List.map_cons, List.flatten_cons, List.length_append, List.length_cons]
    omega
theorem ne_ints (xs : List Int) : dNe (.lst (xs.map .int)) (.lst (xs.map .int)) = some (.bl false) := dNe_self (okL_ints _) (by rw [D.dep, depL_ints]; decide)
theorem rangeD0 (n : Nat) : rangeD 0 n = (List.range n).map fun k : Nat => D.int (k : Int) := by
  unfold rangeD
  exact List.map_congr_left fun k _ => by rw [Int.zero_add]
theorem mirP_ne {c : List Int} (h : c ≠ []) : mirP c ≠ [] := by
  intro e
  have := (sortI_perm (c.map mir)).length_eq
  unfold mirP at e
  rw [e, List.length_map] at this
  exact h (List.eq_nil_of_length_eq_zero this.symm)
theorem partedE {r t n : Int} (h : 1 ≤ r ∧ r ≤ 4) (st : List Int) (hs : st.Sublist (every r)) : f_is_parted [rulesD r t n, pinsD st] = .ok (.bl (!st.contains 1 && decide (1 < ((clumpsP r st).length : Int)))) := by
  have ez := clumps_eq (t := t) (n := n) h st hs
  generalize hzs : clumpsP r st = zs at *
  have lenE : f_is_parted [rulesD r t n, pinsD st] = runP 2 b_is_parted [rulesD r t n, pinsD st] := by unfold f_is_parted; exact if_pos rfl
  rw [lenE]
  have hRp : (rulesD r t n).plain = true := rfl
  have lenZ : dLen (.tup (zs.map pinsD)) = some (.int (zs.length : Int)) := by
    show some (D.int ((zs.map pinsD).length : Int)) = _
    rw [List.length_map]
  have inS : dIn true (.int 1) (pinsD st) = some (.bl (!st.contains 1)) := by
    unfold pinsD
    rw [dIn_t]
    simp
  have cS : ∀ o : List Ob, contK (some (.v (pinsD st))) o = some (pinsD st) := fun _ => rfl
  have hp : D.plainL [rulesD r t n, pinsD st] = true := by simp only [D.plainL, hRp, plain_pins]; rfl
  generalize rulesD r t n = R at *
  generalize pinsD st = ST at *
  generalize zs.map pinsD = ZD at *
  generalize (zs.length : Int) = zl at *
  refine runP_rt (s := ⟨[.v R, .v ST], []⟩) hp rfl ?_
  unfold b_is_parted
  cases hb : st.contains 1 with
  | true =>
    rw [hb] at inS
    simp [cS, inS]
  | false =>
    rw [hb] at inS
    simp [cS, inS, ez, lenZ]
theorem wideE {r t n : Int} (h : 1 ≤ r ∧ r ≤ 4) (st : List Int) (hs : st.Sublist (every r)) : f_is_wide [rulesD r t n, pinsD st] = .ok (.bl (st.contains 1 && decide (1 < ((clumpsP r st).length : Int)))) := by
  have ez := clumps_eq (t := t) (n := n) h st hs
  generalize hzs : clumpsP r st = zs at *
  have lenE : f_is_wide [rulesD r t n, pinsD st] = runP 2 b_is_wide [rulesD r t n, pinsD st] := by unfold f_is_wide; exact if_pos rfl
  rw [lenE]
  have hRp : (rulesD r t n).plain = true := rfl
  have lenZ : dLen (.tup (zs.map pinsD)) = some (.int (zs.length : Int)) := by
    show some (D.int ((zs.map pinsD).length : Int)) = _
    rw [List.length_map]
  have inS := in_pins 1 st
  have cS : ∀ o : List Ob, contK (some (.v (pinsD st))) o = some (pinsD st) := fun _ => rfl
  have hp : D.plainL [rulesD r t n, pinsD st] = true := by simp only [D.plainL, hRp, plain_pins]; rfl
  generalize rulesD r t n = R at *
  generalize pinsD st = ST at *
  generalize zs.map pinsD = ZD at *
  generalize (zs.length : Int) = zl at *
  refine runP_rt (s := ⟨[.v R, .v ST], []⟩) hp rfl ?_
  unfold b_is_wide
  cases hb : st.contains 1 with
  | false =>
    rw [hb] at inS
    simp [cS, inS]
  | true =>
    rw [hb] at inS
    simp [cS, inS, ez, lenZ]

end Lk01
namespace Lk01
open PySem L2 Fw
/-! ### all stands, one by one -/
def chkS (r : Int) (st : List Int) : Bool := mirP st == (every r).filter (fun p => (mirP st).contains p) && (every r).all fun p => st.contains p || insI p st == (every r).filter fun q => (insI p st).contains q
def chkE (r : Int) (st : List Int) : Bool := chk1 r st (clumpsP r st) && chk2 r st (clumpsP r st)
theorem all_S : ([1, 2, 3, 4].all fun r => (subs (every r)).all fun st => chkS r st) = true := by decide +kernel
theorem all_123 : ([1, 2, 3].all fun r => (subs (every r)).all fun st => chkE r st) = true := by decide +kernel
theorem cE_0 : ((subs [5, 6, 7, 8, 9, 10]).all fun t => chkE 4 ([1, 2, 3, 4] ++ t)) = true := by decide +kernel
theorem cE_1 : ((subs [5, 6, 7, 8, 9, 10]).all fun t => chkE 4 ([1, 2, 3] ++ t)) = true := by decide +kernel
theorem cE_2 : ((subs [5, 6, 7, 8, 9, 10]).all fun t => chkE 4 ([1, 2, 4] ++ t)) = true := by decide +kernel
theorem cE_3 : ((subs [5, 6, 7, 8, 9, 10]).all fun t => chkE 4 ([1, 2] ++ t)) = true := by decide +kernel
theorem cE_4 : ((subs [5, 6, 7, 8, 9, 10]).all fun t => chkE 4 ([1, 3, 4] ++ t)) = true := by decide +kernel
theorem cE_5 : ((subs [5, 6, 7, 8, 9, 10]).all fun t => chkE 4 ([1, 3] ++ t)) = true := by decide +kernel
theorem cE_6 : ((subs [5, 6, 7, 8, 9, 10]).all fun t => chkE 4 ([1, 4] ++ t)) = true := by decide +kernel
theorem cE_7 : ((subs [5, 6, 7, 8, 9, 10]).all fun t => chkE 4 ([1] ++ t)) = true := by decide +kernel
theorem cE_8 : ((subs [5, 6, 7, 8, 9, 10]).all fun t => chkE 4 ([2, 3, 4] ++ t)) = true := by decide +kernel
theorem cE_9 : ((subs [5, 6, 7, 8, 9, 10]).all fun t => chkE 4 ([2, 3] ++ t)) = true := by decide +kernel
theorem cE_10 : ((subs [5, 6, 7, 8, 9, 10]).all fun t => chkE 4 ([2, 4] ++ t)) = true := by decide +kernel
theorem cE_11 : ((subs [5, 6, 7, 8, 9, 10]).all fun t => chkE 4 ([2] ++ t)) = true := by decide +kernel
theorem cE_12 : ((subs [5, 6, 7, 8, 9, 10]).all fun t => chkE 4 ([3, 4] ++ t)) = true := by decide +kernel
theorem cE_13 : ((subs [5, 6, 7, 8, 9, 10]).all fun t => chkE 4 ([3] ++ t)) = true := by decide +kernel
theorem cE_14 : ((subs [5, 6, 7, 8, 9, 10]).all fun t => chkE 4 ([4] ++ t)) = true := by decide +kernel
theorem cE_15 : ((subs [5, 6, 7, 8, 9, 10]).all fun t => chkE 4 (([] : List Int) ++ t)) = true := by decide +kernel
theorem cE_all {st : List Int} (h : st.Sublist (every 4)) : chkE 4 st = true := by
  obtain ⟨a, b, rfl, ha, hb⟩ := List.sublist_append_iff.mp (show st.Sublist (([1, 2, 3, 4] : List Int) ++ [5, 6, 7, 8, 9, 10]) from h)
  have ma := mem_subs ha
  have mb := mem_subs hb
  simp only [subs, List.map_cons, List.map_nil, List.cons_append, List.nil_append, List.mem_cons, List.not_mem_nil, or_false] at ma
  rcases ma with rfl | rfl | rfl | rfl | rfl | rfl | rfl | rfl | rfl | rfl | rfl | rfl | rfl | rfl | rfl | rfl
  · exact List.all_eq_true.mp cE_0 b mb
  · exact List.all_eq_true.mp cE_1 b mb
  · exact List.all_eq_true.mp cE_2 b mb
  · exact List.all_eq_true.mp cE_3 b mb
  · exact List.all_eq_true.mp cE_4 b mb
  · exact List.all_eq_true.mp cE_5 b mb
  · exact List.all_eq_true.mp cE_6 b mb
  · exact List.all_eq_true.mp cE_7 b mb
  · exact List.all_eq_true.mp cE_8 b mb
  · exact List.all_eq_true.mp cE_9 b mb
  · exact List.all_eq_true.mp cE_10 b mb
  · exact List.all_eq_true.mp cE_11 b mb
  · exact List.all_eq_true.mp cE_12 b mb
  · exact List.all_eq_true.mp cE_13 b mb
  · exact List.all_eq_true.mp cE_14 b mb
  · exact List.all_eq_true.mp cE_15 b mb
theorem chk_of {r : Int} (h : 1 ≤ r ∧ r ≤ 4) {st : List Int} (hs : st.Sublist (every r)) : chkE r st = true := by
  have : r = 4 ∨ r ∈ [1, 2, 3] := by simp; omega
  rcases this with rfl | h'
  · exact cE_all hs
  · exact List.all_eq_true.mp (List.all_eq_true.mp all_123 r h') st (mem_subs hs)
theorem chkS_of {r : Int} (h : 1 ≤ r ∧ r ≤ 4) {st : List Int} (hs : st.Sublist (every r)) : chkS r st = true := by
  have : r ∈ [1, 2, 3, 4] := by simp; omega
  exact List.all_eq_true.mp (List.all_eq_true.mp all_S r this) st (mem_subs hs)
theorem mir_sub {r : Int} (h : 1 ≤ r ∧ r ≤ 4) {st : List Int} (hs : st.Sublist (every r)) : (mirP st).Sublist (every r) := by
  have := chkS_of h hs
  unfold chkS at this
  rw [Bool.and_eq_true] at this
  have e : mirP st = (every r).filter (fun p => (mirP st).contains p) := by simpa using this.1
  rw [e]
  exact List.filter_sublist
theorem ins_sub {r : Int} (h : 1 ≤ r ∧ r ≤ 4) {st : List Int} (hs : st.Sublist (every r)) {p : Int} (hp : p ∈ every r) (hn : st.contains p = false) : (insI p st).Sublist (every r) := by
  have := chkS_of h hs
  unfold chkS at this
  rw [Bool.and_eq_true] at this
  have e := List.all_eq_true.mp this.2 p hp
  rw [hn, Bool.false_or] at e
  have e : insI p st = (every r).filter (fun q => (insI p st).contains q) := by simpa using e
  rw [e]
  exact List.filter_sublist
structure ClF (r : Int) (st : List Int) (found : List (List Int)) : Prop where
  flat : sortI found.flatten = st
  srt : sortL found = found
  hold : ∀ c ∈ found, holdC r st c = true
  len : found.length ≤ 10
  mm : mirP (mirP st) = st
  cm : clumpsP r (mirP st) = sortL (found.map mirP)
  one : (mirP st).contains 1 = st.contains 1
  cl : (clumpsP r (mirP st)).length = found.length
theorem clF {r : Int} (h : 1 ≤ r ∧ r ≤ 4) {st : List Int} (hs : st.Sublist (every r)) : ClF r st (clumpsP r st) := by
  have := chk_of h hs
  unfold chkE at this
  generalize clumpsP r st = found at *
  unfold chk1 chk2 at this
  simp only [Bool.and_eq_true, beq_iff_eq, decide_eq_true_eq, List.all_eq_true] at this
  obtain ⟨⟨⟨⟨a1, a2⟩, a3⟩, a4⟩, ⟨⟨b1, b2⟩, b3⟩, b4⟩ := this
  exact ⟨a1, a2, a3, a4, b1, b2, b3, b4⟩
theorem ClF.mem {r : Int} {st : List Int} {found : List (List Int)} (c : ClF r st found) {x : List Int} (hx : x ∈ found) : x ≠ [] ∧ (∀ p ∈ x, p ∈ st) ∧ x.length ≤ st.length := by
  refine ⟨?_, fun p hp => ?_, ?_⟩
  · intro e
    have := c.hold x hx
    rw [e] at this
    simp [holdC] at this
  · rw [← c.flat]
    exact (sortI_perm _).mem_iff.mpr (List.mem_flatten.mpr ⟨x, hx, hp⟩)
  · rw [← c.flat, (sortI_perm _).length_eq]
    exact (List.sublist_flatten_of_mem hx).length_le

end Lk01
namespace Lk01
open PySem L2 Fw
theorem dep_le : ∀ (xs : List D) (k : Nat), (∀ x ∈ xs, x.dep ≤ k) → D.depL xs ≤ k
  | [], k, _ => Nat.zero_le _
  | x :: xs, k, h => by
    rw [D.depL]
    exact Nat.max_le.mpr ⟨h x List.mem_cons_self, dep_le xs k fun y hy => h y (List.mem_cons_of_mem _ hy)⟩
theorem dep_pins (ps : List Int) : (pinsD ps).dep ≤ 2 := by
  show D.depL (ps.map .int) + 1 ≤ 2
  have := dep_le (ps.map .int) 1 fun x hx => by
    obtain ⟨i, _, rfl⟩ := List.mem_map.mp hx
    exact Nat.zero_le _
  omega
theorem shL_of {xs : List D} (hl : xs.length < 1000000) (h : ∀ x ∈ xs, x.sh = true) : (D.tup xs).sh = true := by
  rw [sh_tup]
  unfold D.shL
  rw [Bool.and_eq_true]
  exact ⟨decide_eq_true hl, shA_of h⟩

/-! ### where the pins stand, and parted by hand -/
def spT : List (Int × Int) := [(0, 0), (0, 0), (1, -1), (1, 1), (2, -2), (2, 0), (2, 2), (3, -3), (3, -1), (3, 1), (3, 3)]
def spot (p : Int) : Int × Int := spT.getD p.toNat (0, 0)
def pairD (p : Int × Int) : D := .tup [.int p.1, .int p.2]
def spotsD (r : Int) : D := .dct ((every r).map fun p => (.int p, pairD (spot p)))
theorem sp_1 (t n : Int) : f__law_spots [rulesD 1 t n] = .ok (spotsD 1) := by kernel_rfl
theorem sp_2 (t n : Int) : f__law_spots [rulesD 2 t n] = .ok (spotsD 2) := by kernel_rfl
theorem sp_3 (t n : Int) : f__law_spots [rulesD 3 t n] = .ok (spotsD 3) := by kernel_rfl
theorem sp_4 (t n : Int) : f__law_spots [rulesD 4 t n] = .ok (spotsD 4) := by kernel_rfl
theorem spots_eq {r t n : Int} (h : 1 ≤ r ∧ r ≤ 4) : f__law_spots [rulesD r t n] = .ok (spotsD r) := by
  have : r = 1 ∨ r = 2 ∨ r = 3 ∨ r = 4 := by omega
  rcases this with rfl | rfl | rfl | rfl
  · exact sp_1 t n
  · exact sp_2 t n
  · exact sp_3 t n
  · exact sp_4 t n
theorem spot_at {r p : Int} (h : 1 ≤ r ∧ r ≤ 4) (hp : p ∈ every r) : dGetD (spotsD r) (.int p) = some (pairD (spot p)) := by
  rcases every_cases h hp with ⟨rfl, rfl⟩ | ⟨rfl, rfl | rfl | rfl⟩ | ⟨rfl, rfl | rfl | rfl | rfl | rfl | rfl⟩ | ⟨rfl, rfl | rfl | rfl | rfl | rfl | rfl | rfl | rfl | rfl | rfl⟩ <;> kernel_rfl
def stepOf (p o : Int) : Int × Int := (((spot o).1 - (spot p).1).natAbs, ((spot o).2 - (spot p).2).natAbs)
def nearB (p o : Int) : Bool := stepOf p o == (0, 2) || stepOf p o == (1, 1)
def seeP (seen : List Int) (p : Int) : List Int := if (!seen.contains p && seen.any (nearB p)) = true then seen ++ [p] else seen
def seenL (st : List Int) : List Int := (List.replicate st.length st).flatten.foldl seeP (st.take 1)
def lpart (st : List Int) : Bool := !st.contains 1 && decide ((seenL st).length < st.length)
theorem okL_pairs (l : List (Int × Int)) : D.okL (l.map pairD) = true ∧ D.depL (l.map pairD) ≤ 1 := by
  induction l with
  | nil => exact ⟨rfl, Nat.zero_le _⟩
  | cons x l ih =>
    refine ⟨?_, dep_le _ _ fun y hy => ?_⟩
    · rw [List.map_cons, D.okL, ih.1]
      rfl
    · obtain ⟨z, _, rfl⟩ := List.mem_map.mp hy
      exact Nat.le_refl _
theorem in_pairs (a b : Int) (l : List (Int × Int)) : dIn false (.tup [.int a, .int b]) (.lst (l.map pairD)) = some (.bl (l.any (· == (a, b)))) := by
  have h := okL_pairs l
  have hc : canIn (.tup [.int a, .int b]) (l.map pairD) = true := by
    unfold canIn
    rw [h.1, show (D.tup [.int a, .int b]).ok = true from rfl, decide_eq_true (show D.depL (l.map pairD) ≤ 60 by omega)]
    simp
    right
    show (0 : Nat) + 1 ≤ 64
    omega
  show (if canIn _ (l.map pairD) = true then _ else none) = _
  rw [if_pos hc]
  congr 2
  show (false != (l.map pairD).any _) = _
  rw [Bool.false_bne, List.any_map]
  congr 1
  funext p
  obtain ⟨x, y⟩ := p
  show D.eqv (.tup [.int x, .int y]) (.tup [.int a, .int b]) = ((x, y) == (a, b))
  show (decide (x = a) && (decide (y = b) && true)) = _
  rw [Bool.and_true]
  rfl

end Lk01
namespace Lk01
open PySem L2 Fw
/-! ### the law's clumps: names that the pins hand on -/
def ab (i : Int) : Int := if i < 0 then -i else i
theorem dAbs_ab (i : Int) : dAbs (.int i) = some (.int (ab i)) := rfl
def nr (p o : Int) : Bool := ((ab ((spot p).1 - (spot o).1) == 0) && (ab ((spot p).2 - (spot o).2) == 2)) || ((ab ((spot p).1 - (spot o).1) == 1) && (ab ((spot p).2 - (spot o).2) == 1))
theorem touch_st {WD : D} {p o a b c d : Int} (cW : ∀ st : List Ob, contK (some (.v WD)) st = some WD) (h1 : dGetD WD (.int p) = some (.tup [.int a, .int b])) (h2 : dGetD WD (.int o) = some (.tup [.int c, .int d])) :
    Ret b__law_touch ⟨[.v WD, .v (.int p), .v (.int o), .un, .un], []⟩ (.bl ((ab (a - c) == 0) && (ab (b - d) == 2) || (ab (a - c) == 1) && (ab (b - d) == 1))) := by
  unfold b__law_touch
  have i0 : ∀ x y : Int, dIx (.tup [.int x, .int y]) (.int 0) = some (.int x) := fun _ _ => rfl
  have i1 : ∀ x y : Int, dIx (.tup [.int x, .int y]) (.int 1) = some (.int y) := fun _ _ => rfl
  refine ret_seq (s1 := ⟨[.v WD, .v (.int p), .v (.int o), .v (.int (ab (a - c))), .un], []⟩) (by simp [cW, h1, h2, i0, i1, ab]) ?_
  refine ret_seq (s1 := ⟨[.v WD, .v (.int p), .v (.int o), .v (.int (ab (a - c))), .v (.int (ab (b - d)))], []⟩) (by simp [cW, h1, h2, i0, i1, ab]) ?_
  generalize ab (a - c) = u
  generalize ab (b - d) = v
  refine rt_end ?_
  simp
  cases h3 : (u == 0) <;> cases h4 : (v == 2) <;> cases h5 : (u == 1) <;> cases h6 : (v == 1) <;> simp [h3, h4, h5, h6]
theorem touch_eq {r p o : Int} (h : 1 ≤ r ∧ r ≤ 4) (hp : p ∈ every r) (ho : o ∈ every r) : f__law_touch [spotsD r, .int p, .int o] = .ok (.bl (nr p o)) := by
  have lenE : f__law_touch [spotsD r, .int p, .int o] = runP 5 b__law_touch [spotsD r, .int p, .int o] := by unfold f__law_touch; exact if_pos rfl
  have pl : (spotsD r).plain = true := by
    have : r = 1 ∨ r = 2 ∨ r = 3 ∨ r = 4 := by omega
    rcases this with rfl | rfl | rfl | rfl <;> kernel_rfl
  rw [lenE]
  refine runP_e (by simp only [D.plainL, pl]; rfl) rfl ?_
  exact touch_st (fun _ => rfl) (spot_at h hp) (spot_at h ho)
abbrev NL := List (Int × Int)
def nmD (N : NL) : List (D × D) := N.map fun e => (.int e.1, .int e.2)
def getN : NL → Int → Int
  | [], _ => 0
  | e :: r, p => if e.1 = p then e.2 else getN r p
def setN (N : NL) (p m : Int) : NL := N.map fun e => if e.1 = p then (e.1, m) else e
def inN (p : Int) (N : NL) (o : Int) : NL := if nr p o = true then setN N p (min (getN N p) (getN N o)) else N
def rowN (st : List Int) (N : NL) (p : Int) : NL := st.foldl (inN p) N
def allN (st : List Int) (N : NL) : NL := st.foldl (rowN st) N
def namesP (st : List Int) : NL := (List.range st.length).foldl (fun N _ => allN st N) (st.map fun p => (p, p))
def lclP (st : List Int) : List (List Int) := (setI ((namesP st).map (·.2))).map fun f => st.filter fun p => getN (namesP st) p == f
def chkL (r : Int) (st : List Int) : Bool := lclP st == clumpsP r st
set_option maxRecDepth 1000000 in
theorem all_L123 : ([1, 2, 3].all fun r => (subs (every r)).all fun st => chkL r st) = true := by decide +kernel
theorem cL_0 : ((subs [5, 6, 7, 8, 9, 10]).all fun t => chkL 4 ([1, 2, 3, 4] ++ t)) = true := by decide +kernel
theorem cL_1 : ((subs [5, 6, 7, 8, 9, 10]).all fun t => chkL 4 ([1, 2, 3] ++ t)) = true := by decide +kernel
theorem cL_2 : ((subs [5, 6, 7, 8, 9, 10]).all fun t => chkL 4 ([1, 2, 4] ++ t)) = true := by decide +kernel
theorem cL_3 : ((subs [5, 6, 7, 8, 9, 10]).all fun t => chkL 4 ([1, 2] ++ t)) = true := by decide +kernel
theorem cL_4 : ((subs [5, 6, 7, 8, 9, 10]).all fun t => chkL 4 ([1, 3, 4] ++ t)) = true := by decide +kernel
theorem cL_5 : ((subs [5, 6, 7, 8, 9, 10]).all fun t => chkL 4 ([1, 3] ++ t)) = true := by decide +kernel
theorem cL_6 : ((subs [5, 6, 7, 8, 9, 10]).all fun t => chkL 4 ([1, 4] ++ t)) = true := by decide +kernel
theorem cL_7 : ((subs [5, 6, 7, 8, 9, 10]).all fun t => chkL 4 ([1] ++ t)) = true := by decide +kernel
theorem cL_8 : ((subs [5, 6, 7, 8, 9, 10]).all fun t => chkL 4 ([2, 3, 4] ++ t)) = true := by decide +kernel
theorem cL_9 : ((subs [5, 6, 7, 8, 9, 10]).all fun t => chkL 4 ([2, 3] ++ t)) = true := by decide +kernel
theorem cL_10 : ((subs [5, 6, 7, 8, 9, 10]).all fun t => chkL 4 ([2, 4] ++ t)) = true := by decide +kernel
theorem cL_11 : ((subs [5, 6, 7, 8, 9, 10]).all fun t => chkL 4 ([2] ++ t)) = true := by decide +kernel
theorem cL_12 : ((subs [5, 6, 7, 8, 9, 10]).all fun t => chkL 4 ([3, 4] ++ t)) = true := by decide +kernel
theorem cL_13 : ((subs [5, 6, 7, 8, 9, 10]).all fun t => chkL 4 ([3] ++ t)) = true := by decide +kernel
theorem cL_14 : ((subs [5, 6, 7, 8, 9, 10]).all fun t => chkL 4 ([4] ++ t)) = true := by decide +kernel
theorem cL_15 : ((subs [5, 6, 7, 8, 9, 10]).all fun t => chkL 4 (([] : List Int) ++ t)) = true := by decide +kernel
theorem cL_all {st : List Int} (h : st.Sublist (every 4)) : chkL 4 st = true := by
  obtain ⟨a, b, rfl, ha, hb⟩ := List.sublist_append_iff.mp (show st.Sublist (([1, 2, 3, 4] : List Int) ++ [5, 6, 7, 8, 9, 10]) from h)
  have ma := mem_subs ha
  have mb := mem_subs hb
  simp only [subs, List.map_cons, List.map_nil, List.cons_append, List.nil_append, List.mem_cons, List.not_mem_nil, or_false] at ma
  rcases ma with rfl | rfl | rfl | rfl | rfl | rfl | rfl | rfl | rfl | rfl | rfl | rfl | rfl | rfl | rfl | rfl
  · exact List.all_eq_true.mp cL_0 b mb
  · exact List.all_eq_true.mp cL_1 b mb
  · exact List.all_eq_true.mp cL_2 b mb
  · exact List.all_eq_true.mp cL_3 b mb
  · exact List.all_eq_true.mp cL_4 b mb
  · exact List.all_eq_true.mp cL_5 b mb
  · exact List.all_eq_true.mp cL_6 b mb
  · exact List.all_eq_true.mp cL_7 b mb
  · exact List.all_eq_true.mp cL_8 b mb
  · exact List.all_eq_true.mp cL_9 b mb
  · exact List.all_eq_true.mp cL_10 b mb
  · exact List.all_eq_true.mp cL_11 b mb
  · exact List.all_eq_true.mp cL_12 b mb
  · exact List.all_eq_true.mp cL_13 b mb
  · exact List.all_eq_true.mp cL_14 b mb
  · exact List.all_eq_true.mp cL_15 b mb
theorem lclP_eq {r : Int} (h : 1 ≤ r ∧ r ≤ 4) {st : List Int} (hs : st.Sublist (every r)) : lclP st = clumpsP r st := by
  have : r = 4 ∨ r ∈ [1, 2, 3] := by simp; omega
  have q : chkL r st = true := by
    rcases this with rfl | h'
    · exact cL_all hs
    · exact List.all_eq_true.mp (List.all_eq_true.mp all_L123 r h') st (mem_subs hs)
  unfold chkL at q
  exact eq_of_beq q

end Lk01
namespace Lk01
open PySem L2 Fw
theorem pairsI_map : ∀ st : List Int, pairsI (st.map fun p => D.tup [.int p, .int p]) = some (st.map fun p => (p, D.int p))
  | [] => rfl
  | p :: st => by
    rw [List.map_cons, pairsI, pairsI_map st]
    rfl
theorem put_new : ∀ (kvs : List (D × D)) (k v : D), (∀ e ∈ kvs, keq e.1 k = false) → putD kvs k v = kvs ++ [(k, v)] := by
  intro kvs k v h
  unfold putD
  have : (kvs.any fun kv => keq kv.1 k) = false := by
    rw [List.any_eq_false]
    intro e he
    rw [h e he]
    simp
  rw [this]
  rfl
theorem fold_new : ∀ (st pre : List Int), (pre ++ st).Nodup → (st.map fun p => (p, D.int p)).foldl (fun acc p => putD acc (.int p.1) p.2) (pre.map fun p => (D.int p, D.int p)) = (pre ++ st).map fun p => (D.int p, D.int p)
  | [], pre, _ => by rw [List.append_nil]; rfl
  | p :: st, pre, h => by
    rw [List.map_cons, List.foldl_cons, put_new _ _ _ (fun e he => by
      obtain ⟨q, hq, rfl⟩ := List.mem_map.mp he
      have hne : q ≠ p := (List.nodup_append.mp h).2.2 q hq p (by simp)
      simp [keq, hne])]
    have e : (pre.map fun p => (D.int p, D.int p)) ++ [(D.int p, D.int p)] = (pre ++ [p]).map fun p => (D.int p, D.int p) := by simp
    rw [e, fold_new st (pre ++ [p]) (by rw [List.append_assoc]; exact h), List.append_assoc]
    rfl
theorem dict_start {st : List Int} (h : st.Nodup) : oDictI (.lst (st.map fun p => D.tup [.int p, .int p])) = some (.dct (nmD (st.map fun p => (p, p)))) := by
  have e := fold_new st [] (by simpa using h)
  show ((pairsI _).map _) = _
  rw [pairsI_map, Option.map_some]
  have e' : ((st.map fun p => (p, D.int p)).foldl (fun acc p => putD acc (.int p.1) p.2) []) = ([] ++ st).map fun p => (D.int p, D.int p) := e
  rw [e']
  unfold nmD
  rw [List.map_map]
  rfl
def ks (N : NL) : List Int := N.map (·.1)
theorem get_nm (p : Int) : ∀ {N : NL}, p ∈ ks N → valD (nmD N) (.int p) = some (.int (getN N p))
  | [], h => by cases h
  | e :: N, h => by
    unfold valD nmD
    rw [List.map_cons, List.find?_cons, getN]
    by_cases z : e.1 = p
    · have hk : keq (D.int e.1) (.int p) = true := by simp [keq, z]
      rw [hk, if_pos z]
      rfl
    · have hk : keq (D.int e.1) (.int p) = false := by simp [keq, z]
      rw [hk, if_neg z]
      have : p ∈ ks N := by
        rcases List.mem_cons.mp h with q | q
        · exact absurd q.symm z
        · exact q
      exact get_nm p this
theorem td_nm (N : NL) : isTd (nmD N) = false := by cases N <;> rfl
theorem dget_nm {p : Int} {N : NL} (h : p ∈ ks N) : dGetD (.dct (nmD N)) (.int p) = some (.int (getN N p)) := by
  show (if dkOk (nmD N) (.int p) = true then _ else _) = _
  have : dkOk (nmD N) (.int p) = true := by
    show (!isTd (nmD N)) = true
    rw [td_nm]
    rfl
  rw [if_pos this, get_nm p h]
theorem put_nm {p m : Int} {N : NL} (h : p ∈ ks N) : putD (nmD N) (.int p) (.int m) = nmD (setN N p m) := by
  unfold putD nmD setN
  have : ((N.map fun e => (D.int e.1, D.int e.2)).any fun kv => keq kv.1 (.int p)) = true := by
    rw [List.any_map, List.any_eq_true]
    obtain ⟨e, he, z⟩ := List.mem_map.mp h
    refine ⟨e, he, ?_⟩
    simp [keq, z]
  rw [this, if_pos rfl, List.map_map, List.map_map]
  refine List.map_congr_left fun e _ => ?_
  by_cases z : e.1 = p
  · simp [keq, z]
  · simp [keq, z]
theorem ks_set (N : NL) (p m : Int) : ks (setN N p m) = ks N := by
  unfold ks setN
  rw [List.map_map]
  refine List.map_congr_left fun e _ => ?_
  show (if e.1 = p then (e.1, m) else e).1 = e.1
  split <;> rfl
theorem ks_in (p : Int) (N : NL) (o : Int) : ks (inN p N o) = ks N := by
  unfold inN
  split
  · exact ks_set _ _ _
  · rfl
theorem ks_row (p : Int) : ∀ (st : List Int) (N : NL), ks (st.foldl (inN p) N) = ks N
  | [], _ => rfl
  | o :: st, N => by rw [List.foldl_cons, ks_row p st, ks_in]
theorem ks_all (st0 : List Int) : ∀ (st : List Int) (N : NL), ks (st.foldl (rowN st0) N) = ks N
  | [], _ => rfl
  | o :: st, N => by
    rw [List.foldl_cons, ks_all st0 st]
    exact ks_row o st0 N
theorem vals_nm : ∀ N : NL, valsI (nmD N) = some (N.map (·.2))
  | [] => rfl
  | e :: N => by
    show (valsI (nmD N)).map (e.2 :: ·) = _
    rw [vals_nm N]
    rfl
def CS (W : D) (ST : D) (N : NL) (x3 x4 x5 x6 x7 x8 : Fw.Slot) : S := ⟨[.v W, .v ST, .own (.dct (nmD N)), x3, x4, x5, x6, x7, x8], []⟩
theorem lc_f1 {r : Int} (h : 1 ≤ r ∧ r ≤ 4) {st : List Int} (hs : ∀ p ∈ st, p ∈ every r) (hl : st.length ≤ 10) {N : NL} (hN : ks N = st) {p o : Int} (hp : p ∈ st) (ho : o ∈ st) (x3 x6 x7 x8 : Fw.Slot) :
    b__law_clumps_f1 (CS (spotsD r) (pinsD st) N x3 (.v (.int p)) (.v (.int o)) x6 x7 x8) = .ok .nx (CS (spotsD r) (pinsD st) (inN p N o) x3 (.v (.int p)) (.v (.int o)) x6 x7 x8) := by
  have et := touch_eq h (hs p hp) (hs o ho)
  have g1 := dget_nm (N := N) (p := p) (by rw [hN]; exact hp)
  have g2 := dget_nm (N := N) (p := o) (by rw [hN]; exact ho)
  have pt := put_nm (N := N) (p := p) (m := min (getN N p) (getN N o)) (by rw [hN]; exact hp)
  have dk : dkOk (nmD N) (.int p) = true := by
    show (!isTd (nmD N)) = true
    rw [td_nm]
    rfl
  have ln : (nmD N).length < 16777216 := by
    unfold nmD
    have := congrArg List.length hN
    unfold ks at this
    rw [List.length_map] at this ⊢
    omega
  have cW : ∀ s : List Ob, contK (some (.v (spotsD r))) s = some (spotsD r) := fun _ => rfl
  unfold b__law_clumps_f1 CS inN
  generalize spotsD r = W at *
  generalize pinsD st = ST at *
  cases hn : nr p o with
  | true =>
    rw [hn] at et
    have mn : min (getN N p) (getN N o) = if getN N o < getN N p then getN N o else getN N p := by
      split <;> omega
    rw [mn] at pt ⊢
    generalize nmD N = KV at *
    simp [et, g1, g2, dk, ln, pt]
  | false =>
    rw [hn] at et
    simp [et]
theorem lc_f2 {r : Int} (h : 1 ≤ r ∧ r ≤ 4) {st : List Int} (hs : ∀ p ∈ st, p ∈ every r) (hl : st.length ≤ 10) {N : NL} (hN : ks N = st) {p : Int} (hp : p ∈ st) (x3 x5 x6 x7 x8 : Fw.Slot) :
    ∃ y5, b__law_clumps_f2 (CS (spotsD r) (pinsD st) N x3 (.v (.int p)) x5 x6 x7 x8) = .ok .nx (CS (spotsD r) (pinsD st) (rowN st N p) x3 (.v (.int p)) y5 x6 x7 x8) := by
  obtain ⟨s', e, y5, rfl⟩ := forL_pre (t := gNm 5) (b := b__law_clumps_f1) D.int (fun q s => ∃ y5, s = CS (spotsD r) (pinsD st) (q.foldl (inN p) N) x3 (.v (.int p)) y5 x6 x7 x8) st [] (CS (spotsD r) (pinsD st) N x3 (.v (.int p)) x5 x6 x7 x8) ⟨x5, rfl⟩ (by
    rintro q o q2 s hq ⟨y5, rfl⟩
    rw [List.nil_append] at hq
    have f := lc_f1 h hs hl (N := q.foldl (inN p) N) (by rw [ks_row, hN]) hp (o := o) (by rw [hq]; simp) x3 x6 x7 x8
    refine ⟨CS (spotsD r) (pinsD st) (q.foldl (inN p) N) x3 (.v (.int p)) (.v (.int o)) x6 x7 x8, _, rfl, f, .v (.int o), ?_⟩
    rw [List.foldl_append]
    rfl)
  exact ⟨y5, e⟩
theorem lc_f3 {r : Int} (h : 1 ≤ r ∧ r ≤ 4) {st : List Int} (hs : ∀ p ∈ st, p ∈ every r) (hl : st.length ≤ 10) {N : NL} (hN : ks N = st) (x3 x4 x5 x6 x7 x8 : Fw.Slot) :
    ∃ y4 y5, b__law_clumps_f3 (CS (spotsD r) (pinsD st) N x3 x4 x5 x6 x7 x8) = .ok .nx (CS (spotsD r) (pinsD st) (allN st N) x3 y4 y5 x6 x7 x8) := by
  obtain ⟨s', e, y4, y5, rfl⟩ := forL_pre (t := gNm 4) (b := b__law_clumps_f2) D.int (fun q s => ∃ y4 y5, s = CS (spotsD r) (pinsD st) (q.foldl (rowN st) N) x3 y4 y5 x6 x7 x8) st [] (CS (spotsD r) (pinsD st) N x3 x4 x5 x6 x7 x8) ⟨x4, x5, rfl⟩ (by
    rintro q p q2 s hq ⟨y4, y5, rfl⟩
    rw [List.nil_append] at hq
    obtain ⟨z5, f⟩ := lc_f2 h hs hl (N := q.foldl (rowN st) N) (by rw [ks_all, hN]) (p := p) (by rw [hq]; simp) x3 y5 x6 x7 x8
    refine ⟨CS (spotsD r) (pinsD st) (q.foldl (rowN st) N) x3 (.v (.int p)) y5 x6 x7 x8, _, rfl, f, .v (.int p), z5, ?_⟩
    rw [List.foldl_append]
    rfl)
  exact ⟨y4, y5, e⟩

end Lk01
namespace Lk01
open PySem L2 Fw
theorem lc_loop {r : Int} (h : 1 ≤ r ∧ r ≤ 4) {st : List Int} (hs : ∀ p ∈ st, p ∈ every r) (hl : st.length ≤ 10) {N : NL} (hN : ks N = st) (x3 x4 x5 x6 x7 x8 : Fw.Slot) :
    Goes (sFor (iRange1 (aCons (e1 dLen (.sn 1)) aNil)) (gNm 3) b__law_clumps_f3) (CS (spotsD r) (pinsD st) N x3 x4 x5 x6 x7 x8) (fun s => ∃ y3 y4 y5, s = CS (spotsD r) (pinsD st) ((List.range st.length).foldl (fun N _ => allN st N) N) y3 y4 y5 x6 x7 x8) := by
  have hi : (iRange1 (aCons (e1 dLen (.sn 1)) aNil)) (CS (spotsD r) (pinsD st) N x3 x4 x5 x6 x7 x8) = .ok (rangeD 0 st.length) (CS (spotsD r) (pinsD st) N x3 x4 x5 x6 x7 x8) := by
    have ha : (aCons (e1 dLen (.sn 1)) aNil) (CS (spotsD r) (pinsD st) N x3 x4 x5 x6 x7 x8) = .ok [.int (st.length : Int)] (CS (spotsD r) (pinsD st) N x3 x4 x5 x6 x7 x8) := by
      have cP : ∀ s : List Ob, contK (some (.v (pinsD st))) s = some (pinsD st) := fun _ => rfl
      have dl : dLen (pinsD st) = some (.int (st.length : Int)) := by
        show some (D.int (st.map D.int).length) = _
        rw [List.length_map]
      generalize pinsD st = ST at *
      generalize spotsD r = W at *
      generalize nmD N = KV
      unfold CS
      simp [cP, dl]
    rw [r_iRange1, ha, bnd_ok]
    exact r_range_nat st.length (by omega) _
  have ff : ∀ k : Nat, (List.range (k + 1)).foldl (fun N _ => allN st N) N = allN st ((List.range k).foldl (fun N _ => allN st N) N) := by
    intro k
    rw [List.range_succ, List.foldl_append]
    rfl
  have kk : ∀ k : Nat, ks ((List.range k).foldl (fun N _ => allN st N) N) = st := by
    intro k
    induction k with
    | zero => exact hN
    | succ k ih =>
      rw [ff]
      unfold allN
      rw [ks_all]
      exact ih
  refine goes_for (ds := rangeD 0 st.length) (s0 := CS (spotsD r) (pinsD st) N x3 x4 x5 x6 x7 x8) (fun k s => ∃ y3 y4 y5, s = CS (spotsD r) (pinsD st) ((List.range k).foldl (fun N _ => allN st N) N) y3 y4 y5 x6 x7 x8) hi ⟨_, _, _, rfl⟩ ?_ ?_
  · rintro k d s hd ⟨y3, y4, y5, rfl⟩
    obtain ⟨hk, rfl⟩ := rng_get hd
    obtain ⟨z4, z5, e⟩ := lc_f3 h hs hl (kk k) (.v (.int (k : Int))) y4 y5 x6 x7 x8
    refine ⟨CS (spotsD r) (pinsD st) ((List.range k).foldl (fun N _ => allN st N) N) (.v (.int (k : Int))) y4 y5 x6 x7 x8, rfl, _, e, .v (.int (k : Int)), z4, z5, ?_⟩
    rw [ff]
  · rw [rangeD_len]
    exact fun s h => h
theorem lclumps_eq {r : Int} (h : 1 ≤ r ∧ r ≤ 4) {st : List Int} (hss : st.Sublist (every r)) : f__law_clumps [spotsD r, pinsD st] = .ok (.tup ((lclP st).map pinsD)) := by
  have hs : ∀ p ∈ st, p ∈ every r := fun p hp => hss.subset hp
  have hl : st.length ≤ 10 := Nat.le_trans hss.length_le (every_len h)
  have nd : st.Nodup := hss.nodup (by
    have : r = 1 ∨ r = 2 ∨ r = 3 ∨ r = 4 := by omega
    rcases this with rfl | rfl | rfl | rfl <;> decide)
  have lenE : f__law_clumps [spotsD r, pinsD st] = runP 9 b__law_clumps [spotsD r, pinsD st] := by unfold f__law_clumps; exact if_pos rfl
  have pl : (spotsD r).plain = true := by
    have : r = 1 ∨ r = 2 ∨ r = 3 ∨ r = 4 := by omega
    rcases this with rfl | rfl | rfl | rfl <;> kernel_rfl
  have pl2 : (pinsD st).plain = true := plain_pins st
  rw [lenE]
  refine runP_e (by simp only [D.plainL, pl, pl2]; rfl) (plain_pinss _) ?_
  clear lenE pl pl2
  have kc := kc1 (i := 7) (e := b__law_clumps_e1) D.int (fun p => D.tup [.int p, .int p]) st [.v (spotsD r), .v (pinsD st), .un, .un, .un, .un, .un, .un, .un] [] ps_un (by omega) (fun p _ => by
    generalize spotsD r = W
    generalize pinsD st = ST
    simp [b__law_clumps_e1])
  have od := dict_start nd
  have hk0 : ks (st.map fun p => (p, p)) = st := by
    unfold ks
    rw [List.map_map]
    exact List.map_id _
  obtain ⟨s', lp, y3, y4, y5, rfl⟩ := lc_loop h hs hl hk0 .un .un .un .un .un .un
  obtain ⟨NP, hNP⟩ : ∃ NP, NP = namesP st := ⟨_, rfl⟩
  have hNP' : (List.range st.length).foldl (fun N _ => allN st N) (st.map fun p => (p, p)) = NP := hNP.symm
  rw [hNP'] at lp
  have hkN : ks NP = st := by
    rw [hNP]
    unfold namesP
    have gen : ∀ l : List Nat, ks (l.foldl (fun N _ => allN st N) (st.map fun p => (p, p))) = st := by
      intro l
      have gen2 : ∀ (l : List Nat) (N : NL), ks N = st → ks (l.foldl (fun N _ => allN st N) N) = st := by
        intro l
        induction l with
        | nil => intro N hN; exact hN
        | cons k l ih =>
          intro N hN
          rw [List.foldl_cons]
          refine ih _ ?_
          unfold allN
          rw [ks_all, hN]
      exact gen2 l _ hk0
    exact gen _
  have lN : NP.length = st.length := by
    have := congrArg List.length hkN
    unfold ks at this
    rw [List.length_map] at this
    exact this
  have sl : (setI (NP.map (·.2))).length ≤ NP.length := by
    have := nodup_sub_len (setI (NP.map (·.2))) (NP.map (·.2)) ((setI_up _).imp fun h => by omega) (fun x hx => mem_setI.mp hx)
    rw [List.length_map] at this
    exact this
  have os := oSortVals_d (vals_nm NP) (by rw [List.length_map]; omega) (by omega)
  obtain ⟨FS, hFS⟩ : ∃ FS, FS = setI (NP.map (·.2)) := ⟨_, rfl⟩
  rw [← hFS] at os sl
  have inner : ∀ f : Int, ∀ x3 x4 x5 x6 : Fw.Slot, b__law_clumps_e2 (CS (spotsD r) (pinsD st) NP x3 x4 x5 x6 .un (.v (.int f))) = .ok (pinsD (st.filter fun p => getN NP p == f)) (CS (spotsD r) (pinsD st) NP x3 x4 x5 x6 .un (.v (.int f))) := by
    intro f x3 x4 x5 x6
    have k2 := kc1f (i := 7) (c := b__law_clumps_c1) (e := eVar 7) D.int (fun p => getN NP p == f) D.int st [.v (spotsD r), .v (pinsD st), .own (.dct (nmD NP)), x3, x4, x5, x6, .un, .v (.int f)] [] ps_un (by omega) (fun p hp => by
      have g1 := dget_nm (N := NP) (p := p) (by rw [hkN]; exact hp)
      generalize spotsD r = W at *
      generalize pinsD st = ST at *
      generalize nmD NP = KV at *
      unfold b__law_clumps_c1
      simp [g1]) (fun p _ _ => by
      generalize spotsD r = W at *
      generalize pinsD st = ST at *
      generalize nmD NP = KV at *
      simp)
    have pe : pinsD (st.filter fun p => getN NP p == f) = .tup ((st.filter fun p => getN NP p == f).map .int) := rfl
    rw [pe]
    clear kc od lp os
    rw [show pinsD st = D.tup (st.map D.int) from rfl] at k2 ⊢
    generalize ((st.filter fun p => getN NP p == f).map D.int) = RS at *
    generalize st.map D.int = SD at *
    generalize spotsD r = W at *
    unfold CS
    generalize nmD NP = KV at *
    unfold b__law_clumps_e2
    simp [k2]
  have k3 := kc1 (i := 8) (e := b__law_clumps_e2) D.int (fun f => pinsD (st.filter fun p => getN NP p == f)) FS [.v (spotsD r), .v (pinsD st), .own (.dct (nmD NP)), y3, y4, y5, .v (.lst (FS.map .int)), .un, .un] [] ps_un (by omega) (fun f _ => inner f _ _ _ _)
  have res : (lclP st).map pinsD = FS.map fun f => pinsD (st.filter fun p => getN NP p == f) := by
    unfold lclP
    rw [← hNP, ← hFS, List.map_map]
    rfl
  rw [res]
  clear res inner sl lN hkN hk0 nd
  have s1 : (sOwn 2 (f1 oDictI (.ex (eFz (fLc [7] (iSeq (eVar 1)) (gNm 7) tYesM b__law_clumps_e1))))) ⟨[.v (spotsD r), .v (pinsD st), .un, .un, .un, .un, .un, .un, .un], []⟩ = .ok .nx (CS (spotsD r) (pinsD st) (st.map fun p => (p, p)) .un .un .un .un .un .un) := by
    rw [show pinsD st = D.tup (st.map D.int) from rfl] at kc ⊢
    generalize (st.map fun p => D.tup [.int p, .int p]) = PL at *
    clear lp os k3
    generalize st.map D.int = SD at *
    generalize spotsD r = W at *
    unfold CS
    generalize nmD (st.map fun p => (p, p)) = KV at *
    simp [kc, od, sOwn]
  unfold b__law_clumps
  refine ret_seq s1 ?_
  refine ret_seq lp ?_
  generalize (FS.map fun f => pinsD (st.filter fun p => getN NP p == f)) = RS at *
  generalize FS.map D.int = FD at *
  generalize spotsD r = W at *
  generalize pinsD st = ST at *
  unfold CS
  generalize nmD NP = KV at *
  refine ret_seq (s1 := ⟨[.v W, .v ST, .own (.dct KV), y3, y4, y5, .v (.lst FD), .un, .un], []⟩) (by simp [os]) ?_
  refine rt_end ?_
  simp [k3]

end Lk01
namespace Lk01
open PySem L2 Fw
theorem sh_pinsA (ps : List Int) (h : ps.length < 1000000) : (pinsD ps).sh = true := shL_of (by rw [List.length_map]; exact h) fun x hx => by
  obtain ⟨i, _, rfl⟩ := List.mem_map.mp hx
  rfl
theorem same_pins (ps : List Int) (h : ps.length < 1000000) : f__law_same 12 [pinsD ps, pinsD ps] = .ok (.bl true) := same_refl 12 _ (sh_pinsA ps h) (by have := dep_pins ps; omega)
theorem same_pinss (cs : List (List Int)) (h : cs.length < 1000000) (hc : ∀ c ∈ cs, c.length < 1000000) : f__law_same 12 [.tup (cs.map pinsD), .tup (cs.map pinsD)] = .ok (.bl true) := by
  refine same_refl 12 _ (shL_of (by rw [List.length_map]; exact h) fun x hx => ?_) ?_
  · obtain ⟨c, hcc, rfl⟩ := List.mem_map.mp hx
    exact sh_pinsA c (hc c hcc)
  · have := dep_le (cs.map pinsD) 2 fun x hx => by
      obtain ⟨c, _, rfl⟩ := List.mem_map.mp hx
      exact dep_pins c
    show D.depL (cs.map pinsD) + 1 < 12
    omega
theorem same_b (b : Bool) : f__law_same 12 [.bl b, .bl b] = .ok (.bl true) := same_refl 12 _ rfl (Nat.zero_lt_succ _)
theorem same_i (i : Int) : f__law_same 12 [.int i, .int i] = .ok (.bl true) := same_refl 12 _ rfl (Nat.zero_lt_succ _)
def spK (r : Int) : List (D × D) := (every r).map fun p => (.int p, pairD (spot p))
theorem keys_sp (r : Int) : keysI (spK r) = some (every r) := by
  unfold spK
  generalize every r = l
  induction l with
  | nil => rfl
  | cons p l ih =>
    show (keysI _).map (p :: ·) = _
    rw [ih]
    rfl
theorem sort_every {r : Int} (h : 1 ≤ r ∧ r ≤ 4) : sortI (every r) = every r ∧ (every r).length < 64 ∧ (spotsD r).plain = true := by
  have : r = 1 ∨ r = 2 ∨ r = 3 ∨ r = 4 := by omega
  rcases this with rfl | rfl | rfl | rfl <;> exact ⟨by decide, by decide, by kernel_rfl⟩
theorem nr_bes {r p : Int} (h : 1 ≤ r ∧ r ≤ 4) (hp : p ∈ every r) : (every r).filter (nr p) = bes r p := by
  rcases every_cases h hp with ⟨rfl, rfl⟩ | ⟨rfl, rfl | rfl | rfl⟩ | ⟨rfl, rfl | rfl | rfl | rfl | rfl | rfl⟩ | ⟨rfl, rfl | rfl | rfl | rfl | rfl | rfl | rfl | rfl | rfl | rfl⟩ <;> decide +kernel
theorem spot_row {p : Int} (h : 1 ≤ p ∧ p ≤ 10) : (spot p).1 + 1 = rowO p := by
  rcases ten_cases h with rfl | rfl | rfl | rfl | rfl | rfl | rfl | rfl | rfl | rfl <;> decide +kernel
def plK (r : Int) : List (D × D) := (.non, .non) :: (every r).map fun p => (pairD (spot p), .int p)
theorem places_eq {r : Int} (h : 1 ≤ r ∧ r ≤ 4) : oDictT (.lst ((every r).map fun p => .tup [pairD (spot p), .int p])) = some (.dct (plK r)) := by
  have : r = 1 ∨ r = 2 ∨ r = 3 ∨ r = 4 := by omega
  rcases this with rfl | rfl | rfl | rfl <;> kernel_rfl
theorem place_mir {r p : Int} (h : 1 ≤ r ∧ r ≤ 4) (hp : p ∈ every r) : dGetD (.dct (plK r)) (.tup [.int (spot p).1, .int (0 - (spot p).2)]) = some (.int (mir p)) := by
  rcases every_cases h hp with ⟨rfl, rfl⟩ | ⟨rfl, rfl | rfl | rfl⟩ | ⟨rfl, rfl | rfl | rfl | rfl | rfl | rfl⟩ | ⟨rfl, rfl | rfl | rfl | rfl | rfl | rfl | rfl | rfl | rfl | rfl⟩ <;> kernel_rfl
theorem notin_pins (p : Int) (zs : List Int) : dIn true (.int p) (pinsD zs) = some (.bl (!zs.contains p)) := by
  unfold pinsD
  rw [dIn_t]
  simp

end Lk01
namespace Lk01
open PySem L2 Fw
def EK (c d : D) (R W : D) (x5 x6 x7 x8 x9 : Fw.Slot) (st : List Ob) : S := ⟨[.v c, .v (.obj 0), .v d, .v R, .v W, x5, x6, x7, x8, x9], st⟩
theorem l_f1 {r : Int} (h : 1 ≤ r ∧ r ≤ 4) {p : Int} (hp : p ∈ every r) (c d : D) (x6 x7 x8 : Fw.Slot) (st : List Ob) :
    b_law_f1 (EK c d (rulesD r 2 3) (spotsD r) (.v (.int p)) x6 x7 x8 .un st) = .ok .nx (EK c d (rulesD r 2 3) (spotsD r) (.v (.int p)) (.v (pinsD (bes r p))) x7 x8 .un st) := by
  have k2 := kc1f (i := 9) (c := b_law_c1) (e := eVar 9) D.int (nr p) D.int (every r) [.v c, .v (.obj 0), .v d, .v (rulesD r 2 3), .v (spotsD r), .v (.int p), x6, x7, x8, .un] st ps_un (by have := every_len h; omega) (fun o ho => by
    have et := touch_eq h hp ho
    generalize spotsD r = W at *
    generalize rulesD r 2 3 = R at *
    unfold b_law_c1
    simp [et]) (fun o _ _ => by
    generalize spotsD r = W at *
    generalize rulesD r 2 3 = R at *
    simp)
  rw [nr_bes h hp] at k2
  obtain ⟨q1, q2, _⟩ := sort_every h
  have os := oSortK_d (keys_sp r) q2
  rw [q1] at os
  have os' : oSortK (spotsD r) = some (.lst ((every r).map .int)) := os
  have h10 := every_ten h hp
  have er := row_of_eq h10
  have eb := beside_eq (t := 2) (n := 3) h hp
  have sa := spot_at h hp
  have sr := spot_row h10
  have s1 := same_i (rowO p)
  have s2 := same_pins (bes r p) (by have := bes_len h hp; omega)
  have i0 : dIx (pairD (spot p)) (.int 0) = some (.int (spot p).1) := rfl
  have cW : ∀ s : List Ob, contK (some (.v (spotsD r))) s = some (spotsD r) := fun _ => rfl
  have pb : pinsD (bes r p) = .tup ((bes r p).map .int) := rfl
  rw [pb] at eb s2 ⊢
  generalize (bes r p).map D.int = BD at *
  generalize (every r).map D.int = ED at *
  generalize pairD (spot p) = PP at *
  generalize spotsD r = W at *
  generalize rulesD r 2 3 = R at *
  unfold b_law_f1 EK
  refine seq_of (s1 := ⟨[.v c, .v (.obj 0), .v d, .v R, .v W, .v (.int p), .v (.tup BD), x7, x8, .un], st⟩) (by simp [cW, os', k2]) ?_
  simp [er, sa, i0, sr, s1, cW, eb, s2]
theorem l_keys {r : Int} (c d : D) (x5 x6 x7 x8 x9 : Fw.Slot) (st : List Ob) : (iDct (·.1) (eVar 4)) (EK c d (rulesD r 2 3) (spotsD r) x5 x6 x7 x8 x9 st) = .ok ((every r).map .int) (EK c d (rulesD r 2 3) (spotsD r) x5 x6 x7 x8 x9 st) := by
  have e : kIt (fun x => x.1) (spotsD r) (EK c d (rulesD r 2 3) (spotsD r) x5 x6 x7 x8 x9 st) = .ok ((every r).map .int) (EK c d (rulesD r 2 3) (spotsD r) x5 x6 x7 x8 x9 st) := by
    show (if isTd (spK r) = true then Out.stuck else .ok ((spK r).map (·.1)) _) = _
    have t : isTd (spK r) = false := by unfold spK; cases every r <;> rfl
    rw [t]
    unfold spK
    rw [List.map_map]
    rfl
  rw [r_iDct]
  exact e
theorem l_places {r : Int} (h : 1 ≤ r ∧ r ≤ 4) (c d : D) (x5 x6 x7 x8 x9 : Fw.Slot) (h5 : PlainSlot (some x5)) (st : List Ob) :
    (sAsg (eFz (f1 oDictT (.ex (eFz (fLc [5] (iDct (·.1) (eVar 4)) (gNm 5) tYesM b_law_e1))))) (gNm 8)) (EK c d (rulesD r 2 3) (spotsD r) x5 x6 x7 x8 x9 st) = .ok .nx (EK c d (rulesD r 2 3) (spotsD r) x5 x6 x7 (.v (.dct (plK r))) x9 st) := by
  have k2 := kc1 (i := 5) (e := b_law_e1) D.int (fun p => D.tup [pairD (spot p), .int p]) (every r) [.v c, .v (.obj 0), .v d, .v (rulesD r 2 3), .v (spotsD r), x5, x6, x7, x8, x9] st h5 (by have := every_len h; omega) (fun p hp => by
    have sa := spot_at h hp
    have cW : ∀ s : List Ob, contK (some (.v (spotsD r))) s = some (spotsD r) := fun _ => rfl
    generalize pairD (spot p) = PP at *
    generalize spotsD r = W at *
    generalize rulesD r 2 3 = R at *
    unfold b_law_e1
    simp [cW, sa])
  have ke := l_keys (r := r) c d x5 x6 x7 x8 x9 st
  have pe := places_eq h
  generalize ((every r).map fun p => D.tup [pairD (spot p), .int p]) = PL at *
  generalize (every r).map D.int = ED at *
  generalize plK r = PK at *
  have e1 : (fLc [5] (iDct (·.1) (eVar 4)) (gNm 5) tYesM b_law_e1) (EK c d (rulesD r 2 3) (spotsD r) x5 x6 x7 x8 x9 st) = .ok (.lst PL) (EK c d (rulesD r 2 3) (spotsD r) x5 x6 x7 x8 x9 st) := by
    rw [r_fLc, ke, bnd_ok]
    exact k2
  generalize (fLc [5] (iDct (·.1) (eVar 4)) (gNm 5) tYesM b_law_e1) = LC at *
  generalize spotsD r = W at *
  generalize rulesD r 2 3 = R at *
  unfold EK at e1 ⊢
  simp [e1, pe]
theorem l_due {r : Int} (h : 1 ≤ r ∧ r ≤ 4) {st0 : List Int} (hs : ∀ p ∈ st0, p ∈ every r) (hl : st0.length ≤ 10) (c d : D) (x5 x6 x9 : Fw.Slot) (h5 : PlainSlot (some x5)) (st : List Ob) :
    (sAsg (e1 dTuple (.ex (eFz (f1 oSorted (.ex (eFz (fLc [5] (iSeq (eVar 7)) (gNm 5) tYesM b_law_e2))))))) (gNm 6)) (EK c d (rulesD r 2 3) (spotsD r) x5 x6 (.v (pinsD st0)) (.v (.dct (plK r))) x9 st) = .ok .nx (EK c d (rulesD r 2 3) (spotsD r) x5 (.v (pinsD (mirP st0))) (.v (pinsD st0)) (.v (.dct (plK r))) x9 st) := by
  have k2 := kc1 (i := 5) (e := b_law_e2) D.int (fun p => D.int (mir p)) st0 [.v c, .v (.obj 0), .v d, .v (rulesD r 2 3), .v (spotsD r), x5, x6, .v (pinsD st0), .v (.dct (plK r)), x9] st h5 (by omega) (fun p hp => by
    have sa := spot_at h (hs p hp)
    have pm := place_mir h (hs p hp)
    have i0 : dIx (pairD (spot p)) (.int 0) = some (.int (spot p).1) := rfl
    have i1 : dIx (pairD (spot p)) (.int 1) = some (.int (spot p).2) := rfl
    have cW : ∀ s : List Ob, contK (some (.v (spotsD r))) s = some (spotsD r) := fun _ => rfl
    generalize plK r = PK at *
    generalize pairD (spot p) = PP at *
    generalize pinsD st0 = ST at *
    generalize spotsD r = W at *
    generalize rulesD r 2 3 = R at *
    unfold b_law_e2
    have z : ∀ x : Int, (0 : Int) - x = -x := fun x => by omega
    simp only [z] at pm
    simp [cW, sa, i0, i1, pm])
  have k3 : kLc [5] (gNm 5) tYesM b_law_e2 (st0.map .int) ⟨[.v c, .v (.obj 0), .v d, .v (rulesD r 2 3), .v (spotsD r), x5, x6, .v (.tup (st0.map .int)), .v (.dct (plK r)), x9], st⟩ = .ok (.lst ((st0.map mir).map .int)) ⟨[.v c, .v (.obj 0), .v d, .v (rulesD r 2 3), .v (spotsD r), x5, x6, .v (.tup (st0.map .int)), .v (.dct (plK r)), x9], st⟩ := by
    rw [List.map_map]
    exact k2
  clear k2
  have so := oSorted_l (st0.map mir)
  have pm : pinsD (mirP st0) = .tup ((sortI (st0.map mir)).map .int) := rfl
  rw [pm, show pinsD st0 = D.tup (st0.map D.int) from rfl]
  generalize (sortI (st0.map mir)).map D.int = MD at *
  generalize (st0.map mir).map D.int = LD at *
  generalize st0.map D.int = SD at *
  generalize plK r = PK at *
  generalize spotsD r = W at *
  generalize rulesD r 2 3 = R at *
  unfold EK
  simp [k3, so, -oSorted_l]

end Lk01
namespace Lk01
open PySem L2 Fw
theorem l_step {r : Int} (h : 1 ≤ r ∧ r ≤ 4) (ns : List Int) (d : D) (m : Nat) (hm : m < 800000) (x3 x4 x5 x6 x7 x8 : Fw.Slot) (h5 : PlainSlot (some x5)) (hr : r = 1 + rnd ns (m + 1) 4) :
    Goes b_law_f2 ⟨[.v (.lst (ns.map .int)), .v (.obj 0), .v d, x3, x4, x5, x6, x7, x8, .un], [.lst (twn m)]⟩ (fun s => ∃ M x3 x4 x5 x6 x7 x8, PlainSlot (some x5) ∧ s = ⟨[.v (.lst (ns.map .int)), .v (.obj 0), .v d, x3, x4, x5, x6, x7, x8, .un], [.lst (twn M)]⟩ ∧ M ≤ m + 20) := by
  have dr := draw_eq ns m 4 [] (by decide) (by omega)
  have sp := spots_eq (t := 2) (n := 3) h
  have pn := pins_of_eq (t := 2) (n := 3) h
  have lk := dLenK_d (keys_sp r)
  have lk' : dLenK (spotsD r) = some (.int ((spK r).length : Int)) := lk
  have pe : ((spK r).length : Int) = r * (r + 1) / 2 := by
    have : r = 1 ∨ r = 2 ∨ r = 3 ∨ r = 4 := by omega
    rcases this with rfl | rfl | rfl | rfl <;> decide +kernel
  rw [pe] at lk'
  have s1 := same_i (r * (r + 1) / 2)
  have cW : ∀ s : List Ob, contK (some (.v (spotsD r))) s = some (spotsD r) := fun _ => rfl
  unfold b_law_f2
  refine goes_seq (s1 := ⟨[.v (.lst (ns.map .int)), .v (.obj 0), .v d, .v (rulesD r 2 3), x4, x5, x6, x7, x8, .un], [.lst (twn (m + 1))]⟩) (by
    rw [hr]
    unfold rulesD
    clear sp pn lk lk' pe s1 cW hr
    generalize twn (m + 1) = w1 at *
    generalize twn m = w0 at *
    generalize ns.map D.int = ND at *
    generalize rnd ns (m + 1) 4 = z at *
    simp [dr]) ?_
  clear dr hr
  refine goes_seq (s1 := EK (.lst (ns.map .int)) d (rulesD r 2 3) (spotsD r) x5 x6 x7 x8 .un [.lst (twn (m + 1))]) (by
    generalize twn (m + 1) = w1 at *
    generalize ns.map D.int = ND at *
    generalize spotsD r = W at *
    generalize rulesD r 2 3 = R at *
    unfold EK
    simp [sp]) ?_
  refine goes_seq (s1 := EK (.lst (ns.map .int)) d (rulesD r 2 3) (spotsD r) x5 x6 x7 x8 .un [.lst (twn (m + 1))]) (by
    generalize twn (m + 1) = w1 at *
    generalize ns.map D.int = ND at *
    generalize spotsD r = W at *
    generalize rulesD r 2 3 = R at *
    generalize r * (r + 1) / 2 = z at *
    unfold EK
    simp [pn, lk', cW, s1]) ?_
  refine goes_seq2 (Q := fun s => ∃ x5 x6, PlainSlot (some x5) ∧ s = EK (.lst (ns.map .int)) d (rulesD r 2 3) (spotsD r) x5 x6 x7 x8 .un [.lst (twn (m + 1))]) ?_ ?_
  · have ke := l_keys (r := r) (.lst (ns.map .int)) d x5 x6 x7 x8 .un [.lst (twn (m + 1))]
    obtain ⟨s', e, hP⟩ := for_pre (it := iDct (·.1) (eVar 4)) (t := gNm 5) (b := b_law_f1) (s := EK (.lst (ns.map .int)) d (rulesD r 2 3) (spotsD r) x5 x6 x7 x8 .un [.lst (twn (m + 1))]) D.int (every r) (fun _ s => ∃ x5 x6, PlainSlot (some x5) ∧ s = EK (.lst (ns.map .int)) d (rulesD r 2 3) (spotsD r) x5 x6 x7 x8 .un [.lst (twn (m + 1))]) ke ⟨x5, x6, h5, rfl⟩ (by
      rintro q p q2 s hq ⟨y5, y6, _, rfl⟩
      have f := l_f1 h (p := p) (by rw [hq]; simp) (.lst (ns.map .int)) d y6 x7 x8 [.lst (twn (m + 1))]
      exact ⟨EK (.lst (ns.map .int)) d (rulesD r 2 3) (spotsD r) (.v (.int p)) y6 x7 x8 .un [.lst (twn (m + 1))], rfl, _, f, _, _, ps_v _, rfl⟩)
    exact ⟨s', e, hP⟩
  · rintro s ⟨y5, y6, hy5, rfl⟩
    obtain ⟨stn, k, ef, hs, hk⟩ := few_eq ns (every r) (m + 1) [] (every_len h) (by omega)
    have hev := levery_eq (t := 2) (n := 3) h
    have hl10 : stn.length ≤ 10 := Nat.le_trans hs.length_le (every_len h)
    have hin : ∀ p ∈ stn, p ∈ every r := fun p hp => hs.subset hp
    have cf := clF h hs
    have ce := clumps_eq (t := 2) (n := 3) h stn hs
    have lc := lclumps_eq h hs
    rw [lclP_eq h hs] at lc
    have pa := partedE (t := 2) (n := 3) h stn hs
    have wa := wideE (t := 2) (n := 3) h stn hs
    have mi := mirrored_eq (rulesD r 2 3) rfl stn (fun p hp => every_ten h (hin p hp)) (by omega)
    have i1 := in_pins 1 stn
    have i2 := notin_pins 1 stn
    have sc := same_pinss (clumpsP r stn) (by have := cf.len; omega) (fun c hc => by have := (cf.mem hc).2.2; omega)
    have sm := same_pins (mirP stn) (by
      have : (mirP stn).length = stn.length := by
        unfold mirP
        rw [(sortI_perm _).length_eq, List.length_map]
      omega)
    have dl : dLen (.tup ((clumpsP r stn).map pinsD)) = some (.int ((clumpsP r stn).length : Int)) := by rw [dLen_t, List.length_map]
    have a1 : (sAsg (eCallS f__law_few (aCons (eVar 0) (aCons (eVar 1) (aCons (eCallP f__law_every (aCons (eVar 3) aNil)) aNil)))) (gNm 7)) (EK (.lst (ns.map .int)) d (rulesD r 2 3) (spotsD r) y5 y6 x7 x8 .un [.lst (twn (m + 1))]) = .ok .nx (EK (.lst (ns.map .int)) d (rulesD r 2 3) (spotsD r) y5 y6 (.v (pinsD stn)) x8 .un [.lst (twn (m + 1 + k))]) := by
      generalize twn (m + 1 + k) = w2 at *
      generalize twn (m + 1) = w1 at *
      generalize ns.map D.int = ND at *
      generalize pinsD (every r) = EV at *
      generalize pinsD stn = ST at *
      generalize spotsD r = W at *
      generalize rulesD r 2 3 = R at *
      unfold EK
      simp [hev, ef]
    have lp := l_places h (.lst (ns.map .int)) d y5 (.v (.tup ((clumpsP r stn).map pinsD))) (.v (pinsD stn)) x8 .un hy5 [.lst (twn (m + 1 + k))]
    have ld := l_due h hin hl10 (.lst (ns.map .int)) d y5 (.v (.tup ((clumpsP r stn).map pinsD))) .un hy5 [.lst (twn (m + 1 + k))]
    clear ef hev s1 lk' lk pe pn sp
    unfold b_law_r1
    refine goes_seq a1 ?_
    clear a1
    refine goes_seq (s1 := EK (.lst (ns.map .int)) d (rulesD r 2 3) (spotsD r) y5 (.v (.tup ((clumpsP r stn).map pinsD))) (.v (pinsD stn)) x8 .un [.lst (twn (m + 1 + k))]) (by
      clear lp ld ce pa wa mi i1 i2 sc sm dl
      generalize (clumpsP r stn).map pinsD = CD at *
      generalize twn (m + 1 + k) = w2 at *
      generalize ns.map D.int = ND at *
      generalize pinsD stn = ST at *
      generalize spotsD r = W at *
      generalize rulesD r 2 3 = R at *
      unfold EK
      simp [lc]) ?_
    refine goes_seq (s1 := EK (.lst (ns.map .int)) d (rulesD r 2 3) (spotsD r) y5 (.v (.tup ((clumpsP r stn).map pinsD))) (.v (pinsD stn)) x8 .un [.lst (twn (m + 1 + k))]) (by
      clear lp ld pa wa mi i1 i2 sm dl lc
      generalize (clumpsP r stn).map pinsD = CD at *
      generalize twn (m + 1 + k) = w2 at *
      generalize ns.map D.int = ND at *
      generalize pinsD stn = ST at *
      generalize spotsD r = W at *
      generalize rulesD r 2 3 = R at *
      unfold EK
      simp [ce, sc]) ?_
    have cP : ∀ s : List Ob, contK (some (.v (pinsD stn))) s = some (pinsD stn) := fun _ => rfl
    refine goes_seq (s1 := EK (.lst (ns.map .int)) d (rulesD r 2 3) (spotsD r) y5 (.v (.tup ((clumpsP r stn).map pinsD))) (.v (pinsD stn)) x8 .un [.lst (twn (m + 1 + k))]) (by
      clear lp ld ce wa mi sm lc
      have sb := same_b (!stn.contains 1 && decide (1 < ((clumpsP r stn).length : Int)))
      generalize ((clumpsP r stn).length : Int) = L at *
      generalize (clumpsP r stn).map pinsD = CD at *
      generalize twn (m + 1 + k) = w2 at *
      generalize ns.map D.int = ND at *
      generalize stn.contains 1 = one at *
      generalize pinsD stn = ST at *
      generalize spotsD r = W at *
      generalize rulesD r 2 3 = R at *
      unfold EK
      cases one
      · simp only [Bool.not_false, Bool.true_and] at pa sb i2
        simp [pa, cP, i2, dl, sb]
      · simp only [Bool.not_true, Bool.false_and] at pa sb i2
        simp [pa, cP, i2, dl, sb]) ?_
    refine goes_seq (s1 := EK (.lst (ns.map .int)) d (rulesD r 2 3) (spotsD r) y5 (.v (.tup ((clumpsP r stn).map pinsD))) (.v (pinsD stn)) x8 .un [.lst (twn (m + 1 + k))]) (by
      clear lp ld ce pa mi sm lc
      have sb := same_b (stn.contains 1 && decide (1 < ((clumpsP r stn).length : Int)))
      generalize ((clumpsP r stn).length : Int) = L at *
      generalize (clumpsP r stn).map pinsD = CD at *
      generalize twn (m + 1 + k) = w2 at *
      generalize ns.map D.int = ND at *
      generalize stn.contains 1 = one at *
      generalize pinsD stn = ST at *
      generalize spotsD r = W at *
      generalize rulesD r 2 3 = R at *
      unfold EK
      cases one
      · simp only [Bool.false_and] at wa sb
        simp [wa, cP, i1, dl, sb]
      · simp only [Bool.true_and] at wa sb
        simp [wa, cP, i1, dl, sb]) ?_
    refine goes_seq lp ?_
    refine goes_seq ld ?_
    refine goes_of (s1 := EK (.lst (ns.map .int)) d (rulesD r 2 3) (spotsD r) y5 (.v (pinsD (mirP stn))) (.v (pinsD stn)) (.v (.dct (plK r))) .un [.lst (twn (m + 1 + k))]) (by
      clear lp ld ce pa wa lc sc i1 i2 dl cP cW
      generalize twn (m + 1 + k) = w2 at *
      generalize ns.map D.int = ND at *
      generalize pinsD (mirP stn) = MD at *
      generalize pinsD stn = ST at *
      generalize plK r = PK at *
      generalize spotsD r = W at *
      generalize rulesD r 2 3 = R at *
      unfold EK
      simp [mi, sm]) ?_
    exact ⟨m + 1 + k, _, _, _, _, _, _, hy5, rfl, by omega⟩
theorem law_true (ns : List Int) (h : ns.length ≤ 63) : f_law [.lst (ns.map .int)] = .ok (.bl true) := by
  unfold f_law
  rw [if_pos (show [D.lst (ns.map .int)].length = 1 from rfl)]
  obtain ⟨sc, hsc⟩ : ∃ sc : D, sc = .lst (ns.map .int) := ⟨_, rfl⟩
  refine law_run hsc ?_
  unfold b_law
  refine law_loop 8 12 (by decide) (fun i s => ∃ m k x3 x4 x5 x6 x7 x8, PlainSlot (some x5) ∧ s = ⟨[.v sc, .v (.obj 0), k, x3, x4, x5, x6, x7, x8, .un], [.lst (twn m)]⟩ ∧ m ≤ 20 * i) ⟨0, .un, .un, .un, .un, .un, .un, .un, ps_un, rfl, by omega⟩ ?_
  rintro i d s hi hd ⟨m, k, x3, x4, x5, x6, x7, x8, h5, rfl, hm⟩
  have r0 := rnd_pos ns (m + 1) (many := 4) (by decide)
  have r1 := rnd_lt ns (m + 1) (many := 4) (by decide)
  have hs := l_step (r := 1 + rnd ns (m + 1) 4) (by omega) ns d m (by omega) x3 x4 x5 x6 x7 x8 h5 rfl
  rw [← hsc] at hs
  refine ⟨_, rfl, goes_imp hs ?_⟩
  rintro s1 ⟨M, y3, y4, y5, y6, y7, y8, h5', e, hM⟩
  exact ⟨M, _, y3, y4, y5, y6, y7, y8, h5', e, by omega⟩

end Lk01
namespace Lk01
open PySem L2 Fw
def top (i : Nat) : Stmt := PySem.Challenge.pw_skittlehall_k01_whole_pins_that_touch.main.body.getD i (.Pass ⟨0, 0, 0, 0⟩)
abbrev s_pins_of : Stmt := top 1
abbrev s_row_of : Stmt := top 2
abbrev s_pin_at : Stmt := top 3
abbrev s_beside : Stmt := top 4
abbrev s_clumps : Stmt := top 5
abbrev s_is_parted : Stmt := top 6
abbrev s_is_wide : Stmt := top 7
abbrev s_mirrored : Stmt := top 8
abbrev s__law_same : Stmt := top 10
abbrev s__law_draw : Stmt := top 11
abbrev s__law_every : Stmt := top 12
abbrev s__law_few : Stmt := top 13
abbrev s__law_spots : Stmt := top 14
abbrev s__law_touch : Stmt := top 15
abbrev s__law_clumps : Stmt := top 16
abbrev s_law : Stmt := top 17
structure Txt (K : PySem.W.Frag) (mg : Str → Option Value) : Prop where
  m_tuple : mg "tuple" = none
  m_sorted : mg "sorted" = none
  m_list : mg "list" = none
  m_len : mg "len" = none
  m_isinstance : mg "isinstance" = none
  m_bool : mg "bool" = none
  m_str : mg "str" = none
  m_all : mg "all" = none
  m_int : mg "int" = none
  m_zip : mg "zip" = none
  m_range : mg "range" = none
  m_abs : mg "abs" = none
  m_dict : mg "dict" = none
  m_set : mg "set" = none
  m_min : mg "min" = none
section
variable {P : Program} {w : World} {K : PySem.W.Frag} {mg : Str → Option Value} {base : Heap}
theorem sc_pins_of : FnScope ["rules"] ["rules"] (defScope s_pins_of) := ⟨rfl, rfl, rfl, by decide +kernel, rfl, by decide +kernel, by decide +kernel⟩
theorem d_pins_of (T : Txt K mg) {f : Addr} {fd : FuncData} (Fu : Fun K "pins_of" "pins_of" s_pins_of f fd) (hm : mg "pins_of" = some (.ref f)) : DP P w K mg base 1 "pins_of" f_pins_of := by
  refine dp_mk (N := ["rules"]) (ps := ["rules"]) Fu sc_pins_of hm (Fu.binds (ps := ["rules"]) (fun _ _ _ _ _ _ us hl => match us, hl with | [_], _ => rfl)) rfl ?_
  intro cdv A outer s H E hr tk po
  exact (sb_one (ss_ret (se_fdiv (so_ex (se_mulI (so_ex (se_at (so_sn (pv 0 rfl (Or.inl rfl) rfl rfl)) (so_ex se_int))) (so_ex (se_add (so_ex (se_at (so_sn (pv 0 rfl (Or.inl rfl) rfl rfl)) (so_ex se_int))) (so_ex se_int))))) (so_ex se_int))))
theorem sc_row_of : FnScope ["pin", "row"] ["pin"] (defScope s_row_of) := ⟨rfl, rfl, rfl, by decide +kernel, rfl, by decide +kernel, by decide +kernel⟩
theorem d_row_of (T : Txt K mg) {f : Addr} {fd : FuncData} (Fu : Fun K "row_of" "row_of" s_row_of f fd) (hm : mg "row_of" = some (.ref f)) : DP P w K mg base 1 "row_of" f_row_of := by
  refine dp_mk (N := ["pin", "row"]) (ps := ["pin"]) Fu sc_row_of hm (Fu.binds (ps := ["pin"]) (fun _ _ _ _ _ _ us hl => match us, hl with | [_], _ => rfl)) rfl ?_
  intro cdv A outer s H E hr tk po
  exact (sb_cons (ss_set (fun h => ps_set (i := 1) sc_row_of.nd rfl (Or.inl rfl) h) se_int)
    (sb_cons (ss_while 1000000 po (st_lt (so_ex (se_fdiv (so_ex (se_mulI (so_sn (pv 1 rfl (Or.inl rfl) rfl rfl)) (so_ex (se_add (so_sn (pv 1 rfl (Or.inl rfl) rfl rfl)) (so_ex se_int))))) (so_ex se_int))) (so_sn (pv 0 rfl (Or.inl rfl) rfl rfl))) (sb_one (ss_set (fun h => ps_set (i := 1) sc_row_of.nd rfl (Or.inl rfl) h) (se_add (so_sn (pv 1 rfl (Or.inl rfl) rfl rfl)) (so_ex se_int)))))
    (sb_one (ss_ret (se_var (pv 1 rfl (Or.inl rfl) rfl rfl))))))
theorem sc_pin_at : FnScope ["row", "place"] ["row", "place"] (defScope s_pin_at) := ⟨rfl, rfl, rfl, by decide +kernel, rfl, by decide +kernel, by decide +kernel⟩
theorem d_pin_at (T : Txt K mg) {f : Addr} {fd : FuncData} (Fu : Fun K "pin_at" "pin_at" s_pin_at f fd) (hm : mg "pin_at" = some (.ref f)) : DP P w K mg base 1 "pin_at" f_pin_at := by
  refine dp_mk (N := ["row", "place"]) (ps := ["row", "place"]) Fu sc_pin_at hm (Fu.binds (ps := ["row", "place"]) (fun _ _ _ _ _ _ us hl => match us, hl with | [_, _], _ => rfl)) rfl ?_
  intro cdv A outer s H E hr tk po
  exact (sb_cons (ss_if (st_not (st_lele (so_ex se_int) (so_sn (pv 1 rfl (Or.inl rfl) rfl rfl)) (so_sn (pv 0 rfl (Or.inl rfl) rfl rfl)))) (sb_one (ss_ret se_int)) sb_nil)
    (sb_one (ss_ret (se_add (so_ex (se_fdiv (so_ex (se_mulI (so_sn (pv 0 rfl (Or.inl rfl) rfl rfl)) (so_ex (se_sub (so_sn (pv 0 rfl (Or.inl rfl) rfl rfl)) (so_ex se_int))))) (so_ex se_int))) (so_sn (pv 1 rfl (Or.inl rfl) rfl rfl))))))
theorem sc_beside : FnScope ["rules", "pin", "row", "place", "some", "one"] ["rules", "pin"] (defScope s_beside) := ⟨rfl, rfl, rfl, by decide +kernel, rfl, by decide +kernel, by decide +kernel⟩
theorem d_beside (T : Txt K mg) (d_row_of : DP P w K mg base 1 "row_of" f_row_of) (d_pin_at : DP P w K mg base 1 "pin_at" f_pin_at) {f : Addr} {fd : FuncData} (Fu : Fun K "beside" "beside" s_beside f fd) (hm : mg "beside" = some (.ref f)) : DP P w K mg base 2 "beside" f_beside := by
  refine dp_mk (N := ["rules", "pin", "row", "place", "some", "one"]) (ps := ["rules", "pin"]) Fu sc_beside hm (Fu.binds (ps := ["rules", "pin"]) (fun _ _ _ _ _ _ us hl => match us, hl with | [_, _], _ => rfl)) rfl ?_
  intro cdv A outer s H E hr tk po
  exact (sb_cons (ss_set (fun h => ps_set (i := 2) sc_beside.nd rfl (Or.inl rfl) h) (se_callP d_row_of (hr.mono (by decide)) (by rfl) tk (sa_cons (se_var (pv 1 rfl (Or.inl rfl) rfl rfl)) sa_nil)))
    (sb_cons (ss_set (fun h => ps_set (i := 3) sc_beside.nd rfl (Or.inl rfl) h) (se_sub (so_sn (pv 1 rfl (Or.inl rfl) rfl rfl)) (so_ex (se_fdiv (so_ex (se_mulI (so_sn (pv 2 rfl (Or.inl rfl) rfl rfl)) (so_ex (se_sub (so_sn (pv 2 rfl (Or.inl rfl) rfl rfl)) (so_ex se_int))))) (so_ex se_int)))))
    (sb_cons (ss_set (fun h => ps_set (i := 4) sc_beside.nd rfl (Or.inl rfl) h) (se_fz (sf_lst (sa_cons (se_callP d_pin_at (hr.mono (by decide)) (by rfl) tk (sa_cons (se_var (pv 2 rfl (Or.inl rfl) rfl rfl)) (sa_cons (se_sub (so_sn (pv 3 rfl (Or.inl rfl) rfl rfl)) (so_ex se_int)) sa_nil))) (sa_cons (se_callP d_pin_at (hr.mono (by decide)) (by rfl) tk (sa_cons (se_var (pv 2 rfl (Or.inl rfl) rfl rfl)) (sa_cons (se_add (so_sn (pv 3 rfl (Or.inl rfl) rfl rfl)) (so_ex se_int)) sa_nil))) (sa_cons (se_callP d_pin_at (hr.mono (by decide)) (by rfl) tk (sa_cons (se_sub (so_sn (pv 2 rfl (Or.inl rfl) rfl rfl)) (so_ex se_int)) (sa_cons (se_sub (so_sn (pv 3 rfl (Or.inl rfl) rfl rfl)) (so_ex se_int)) sa_nil))) (sa_cons (se_callP d_pin_at (hr.mono (by decide)) (by rfl) tk (sa_cons (se_sub (so_sn (pv 2 rfl (Or.inl rfl) rfl rfl)) (so_ex se_int)) (sa_cons (se_var (pv 3 rfl (Or.inl rfl) rfl rfl)) sa_nil))) sa_nil)))))))
    (sb_cons (ss_if (st_lt (so_sn (pv 2 rfl (Or.inl rfl) rfl rfl)) (so_ex (se_at (so_sn (pv 0 rfl (Or.inl rfl) rfl rfl)) (so_ex se_int)))) (sb_one (ss_set (fun h => ps_set (i := 4) sc_beside.nd rfl (Or.inl rfl) h) (se_add (so_sn (pv 4 rfl (Or.inl rfl) rfl rfl)) (so_ex (se_fz (sf_lst (sa_cons (se_callP d_pin_at (hr.mono (by decide)) (by rfl) tk (sa_cons (se_add (so_sn (pv 2 rfl (Or.inl rfl) rfl rfl)) (so_ex se_int)) (sa_cons (se_var (pv 3 rfl (Or.inl rfl) rfl rfl)) sa_nil))) (sa_cons (se_callP d_pin_at (hr.mono (by decide)) (by rfl) tk (sa_cons (se_add (so_sn (pv 2 rfl (Or.inl rfl) rfl rfl)) (so_ex se_int)) (sa_cons (se_add (so_sn (pv 3 rfl (Or.inl rfl) rfl rfl)) (so_ex se_int)) sa_nil))) sa_nil)))))))) sb_nil)
    (sb_one (ss_ret (se_tuple (by rfl) T.m_tuple (so_ex (se_fz (sf_sorted (by rfl) T.m_sorted (so_ex (se_fz (sf_lc (own := [("one", 5)]) rfl sc_beside.nd (si_seq (se_var (pv 4 rfl (Or.inl rfl) rfl rfl))) (blkOk_by (own := [("one", 5)]) (by kernel_rfl)) (fun _ _ _ _ _ => (sg_name (pg_name (i := 5) sc_beside.nd rfl (Or.inl rfl)) (by decide))) (fun _ _ _ _ _ => (sts_one (st_gt (so_sn (pv 5 rfl (Or.inl rfl) rfl rfl)) (so_ex se_int)))) (fun _ _ _ _ _ => (se_var (pv 5 rfl (Or.inl rfl) rfl rfl))))))))))))))))
theorem sc_clumps : FnScope ["rules", "stand", "found", "left", "clump", "at", "more", "pin"] ["rules", "stand"] (defScope s_clumps) := ⟨rfl, rfl, rfl, by decide +kernel, rfl, by decide +kernel, by decide +kernel⟩
theorem d_clumps (T : Txt K mg) (d_beside : DP P w K mg base 2 "beside" f_beside) {f : Addr} {fd : FuncData} (Fu : Fun K "clumps" "clumps" s_clumps f fd) (hm : mg "clumps" = some (.ref f)) : DP P w K mg base 3 "clumps" f_clumps := by
  refine dp_mk (N := ["rules", "stand", "found", "left", "clump", "at", "more", "pin"]) (ps := ["rules", "stand"]) Fu sc_clumps hm (Fu.binds (ps := ["rules", "stand"]) (fun _ _ _ _ _ _ us hl => match us, hl with | [_, _], _ => rfl)) rfl ?_
  intro cdv A outer s H E hr tk po
  exact (sb_cons (ss_set (fun h => ps_set (i := 2) sc_clumps.nd rfl (Or.inl rfl) h) (se_tup sa_nil))
    (sb_cons (ss_own (fun h => ps_set (i := 3) sc_clumps.nd rfl (Or.inl rfl) h) (sf_list (by rfl) T.m_list (so_sn (pv 1 rfl (Or.inl rfl) rfl rfl))))
    (sb_cons (ss_while 1000000 po (st_tru (so_sn (pv 3 rfl (Or.inl rfl) rfl rfl)) (by intro _; rfl)) (sb_cons (ss_set (fun h => ps_set (i := 4) sc_clumps.nd rfl (Or.inr rfl) h) (se_fz (sf_lst (sa_cons (se_pop1 (pv 3 rfl (Or.inl rfl) rfl rfl) (sa_cons se_int sa_nil)) sa_nil))))
    (sb_cons (ss_set (fun h => ps_set (i := 5) sc_clumps.nd rfl (Or.inr rfl) h) se_int)
    (sb_cons (ss_while 1000000 po (st_lt (so_sn (pv 5 rfl (Or.inr (Or.inl rfl)) rfl rfl)) (so_ex (se_len (by rfl) T.m_len (so_sn (pv 4 rfl (Or.inr (Or.inl rfl)) rfl rfl))))) (sb_cons (ss_set (fun h => ps_set (i := 6) sc_clumps.nd rfl (Or.inr rfl) h) (se_fz (sf_lc (own := [("pin", 7)]) rfl sc_clumps.nd (si_seq (se_var (pv 3 rfl (Or.inl rfl) rfl rfl))) (blkOk_by (own := [("pin", 7)]) (by kernel_rfl)) (fun _ _ _ _ _ => (sg_name (pg_name (i := 7) sc_clumps.nd rfl (Or.inl rfl)) (by decide))) (fun _ _ _ _ _ => (sts_one (st_in hr (so_sn (pv 7 rfl (Or.inl rfl) rfl rfl)) (so_ex (se_callP d_beside (hr.mono (by decide)) (by rfl) takes0 (sa_cons (se_var (pv 0 rfl (Or.inr (Or.inl rfl)) rfl rfl)) (sa_cons (se_at (so_sn (pv 4 rfl (Or.inr (Or.inl rfl)) rfl rfl)) (so_sn (pv 5 rfl (Or.inr (Or.inl rfl)) rfl rfl))) sa_nil))))))) (fun _ _ _ _ _ => (se_var (pv 7 rfl (Or.inl rfl) rfl rfl))))))
    (sb_cons (ss_ownLc (i := 3) (own := [("pin", 7)]) rfl sc_clumps.nd rfl rfl (by rfl) (si_seq (se_var (pv 3 rfl (Or.inl rfl) rfl rfl))) (blkOk_by (own := [("pin", 7)]) (by kernel_rfl)) (fun _ _ _ _ _ => (sg_name (pg_name (i := 7) sc_clumps.nd rfl (Or.inl rfl)) (by decide))) (fun _ _ _ _ _ => (sts_one (st_notin hr (so_sn (pv 7 rfl (Or.inl rfl) rfl rfl)) (so_sn (pv 6 rfl (Or.inr (Or.inl rfl)) rfl rfl))))) (fun _ _ _ _ _ => (se_var (pv 7 rfl (Or.inl rfl) rfl rfl))))
    (sb_cons (ss_set (fun h => ps_set (i := 4) sc_clumps.nd rfl (Or.inr rfl) h) (se_add (so_sn (pv 4 rfl (Or.inr (Or.inl rfl)) rfl rfl)) (so_sn (pv 6 rfl (Or.inr (Or.inl rfl)) rfl rfl))))
    (sb_one (ss_set (fun h => ps_set (i := 5) sc_clumps.nd rfl (Or.inr rfl) h) (se_add (so_sn (pv 5 rfl (Or.inr (Or.inl rfl)) rfl rfl)) (so_ex se_int))))))))
    (sb_one (ss_set (fun h => ps_set (i := 2) sc_clumps.nd rfl (Or.inl rfl) h) (se_add (so_sn (pv 2 rfl (Or.inl rfl) rfl rfl)) (so_ex (se_tup (sa_cons (se_tuple (by rfl) T.m_tuple (so_ex (se_fz (sf_sorted (by rfl) T.m_sorted (so_sn (pv 4 rfl (Or.inr (Or.inl rfl)) rfl rfl)))))) sa_nil))))))))))
    (sb_one (ss_ret (se_var (pv 2 rfl (Or.inl rfl) rfl rfl)))))))
theorem sc_is_parted : FnScope ["rules", "stand"] ["rules", "stand"] (defScope s_is_parted) := ⟨rfl, rfl, rfl, by decide +kernel, rfl, by decide +kernel, by decide +kernel⟩
theorem d_is_parted (T : Txt K mg) (d_clumps : DP P w K mg base 3 "clumps" f_clumps) {f : Addr} {fd : FuncData} (Fu : Fun K "is_parted" "is_parted" s_is_parted f fd) (hm : mg "is_parted" = some (.ref f)) : DP P w K mg base 4 "is_parted" f_is_parted := by
  refine dp_mk (N := ["rules", "stand"]) (ps := ["rules", "stand"]) Fu sc_is_parted hm (Fu.binds (ps := ["rules", "stand"]) (fun _ _ _ _ _ _ us hl => match us, hl with | [_, _], _ => rfl)) rfl ?_
  intro cdv A outer s H E hr tk po
  exact (sb_one (ss_ret (se_and (se_notin hr (so_ex se_int) (so_sn (pv 1 rfl (Or.inl rfl) rfl rfl))) (se_one (se_gt (so_ex (se_len (by rfl) T.m_len (so_ex (se_callP d_clumps (hr.mono (by decide)) (by rfl) tk (sa_cons (se_var (pv 0 rfl (Or.inl rfl) rfl rfl)) (sa_cons (se_var (pv 1 rfl (Or.inl rfl) rfl rfl)) sa_nil)))))) (so_ex se_int))))))
theorem sc_is_wide : FnScope ["rules", "stand"] ["rules", "stand"] (defScope s_is_wide) := ⟨rfl, rfl, rfl, by decide +kernel, rfl, by decide +kernel, by decide +kernel⟩
theorem d_is_wide (T : Txt K mg) (d_clumps : DP P w K mg base 3 "clumps" f_clumps) {f : Addr} {fd : FuncData} (Fu : Fun K "is_wide" "is_wide" s_is_wide f fd) (hm : mg "is_wide" = some (.ref f)) : DP P w K mg base 4 "is_wide" f_is_wide := by
  refine dp_mk (N := ["rules", "stand"]) (ps := ["rules", "stand"]) Fu sc_is_wide hm (Fu.binds (ps := ["rules", "stand"]) (fun _ _ _ _ _ _ us hl => match us, hl with | [_, _], _ => rfl)) rfl ?_
  intro cdv A outer s H E hr tk po
  exact (sb_one (ss_ret (se_and (se_in hr (so_ex se_int) (so_sn (pv 1 rfl (Or.inl rfl) rfl rfl))) (se_one (se_gt (so_ex (se_len (by rfl) T.m_len (so_ex (se_callP d_clumps (hr.mono (by decide)) (by rfl) tk (sa_cons (se_var (pv 0 rfl (Or.inl rfl) rfl rfl)) (sa_cons (se_var (pv 1 rfl (Or.inl rfl) rfl rfl)) sa_nil)))))) (so_ex se_int))))))
theorem sc_mirrored : FnScope ["rules", "some", "found", "pin", "row", "first"] ["rules", "some"] (defScope s_mirrored) := ⟨rfl, rfl, rfl, by decide +kernel, rfl, by decide +kernel, by decide +kernel⟩
theorem d_mirrored (T : Txt K mg) (d_row_of : DP P w K mg base 1 "row_of" f_row_of) {f : Addr} {fd : FuncData} (Fu : Fun K "mirrored" "mirrored" s_mirrored f fd) (hm : mg "mirrored" = some (.ref f)) : DP P w K mg base 2 "mirrored" f_mirrored := by
  refine dp_mk (N := ["rules", "some", "found", "pin", "row", "first"]) (ps := ["rules", "some"]) Fu sc_mirrored hm (Fu.binds (ps := ["rules", "some"]) (fun _ _ _ _ _ _ us hl => match us, hl with | [_, _], _ => rfl)) rfl ?_
  intro cdv A outer s H E hr tk po
  exact (sb_cons (ss_own (fun h => ps_set (i := 2) sc_mirrored.nd rfl (Or.inl rfl) h) (sf_lst sa_nil))
    (sb_cons (ss_for (is := [3]) po rfl (si_seq (se_var (pv 1 rfl (Or.inl rfl) rfl rfl))) (sg_name (pg_name (i := 3) sc_mirrored.nd rfl (Or.inl rfl)) (by decide)) (sb_cons (ss_set (fun h => ps_set (i := 4) sc_mirrored.nd rfl (Or.inl rfl) h) (se_callP d_row_of (hr.mono (by decide)) (by rfl) tk (sa_cons (se_var (pv 3 rfl (Or.inl rfl) rfl rfl)) sa_nil)))
    (sb_cons (ss_set (fun h => ps_set (i := 5) sc_mirrored.nd rfl (Or.inl rfl) h) (se_add (so_ex (se_fdiv (so_ex (se_mulI (so_sn (pv 4 rfl (Or.inl rfl) rfl rfl)) (so_ex (se_sub (so_sn (pv 4 rfl (Or.inl rfl) rfl rfl)) (so_ex se_int))))) (so_ex se_int))) (so_ex se_int)))
    (sb_one (ss_expr (se_append (pv 2 rfl (Or.inl rfl) rfl rfl) (sa_cons (se_sub (so_ex (se_sub (so_ex (se_add (so_ex (se_add (so_sn (pv 5 rfl (Or.inl rfl) rfl rfl)) (so_sn (pv 5 rfl (Or.inl rfl) rfl rfl)))) (so_sn (pv 4 rfl (Or.inl rfl) rfl rfl)))) (so_ex se_int))) (so_sn (pv 3 rfl (Or.inl rfl) rfl rfl))) sa_nil)))))))
    (sb_one (ss_ret (se_tuple (by rfl) T.m_tuple (so_ex (se_fz (sf_sorted (by rfl) T.m_sorted (so_sn (pv 2 rfl (Or.inl rfl) rfl rfl))))))))))
theorem sc__law_same : FnScope ["got", "due", "one", "other"] ["got", "due"] (defScope s__law_same) := ⟨rfl, rfl, rfl, by decide +kernel, rfl, by decide +kernel, by decide +kernel⟩
theorem d__law_same (T : Txt K mg) {f : Addr} {fd : FuncData} (Fu : Fun K "_law_same" "_law_same" s__law_same f fd) (hm : mg "_law_same" = some (.ref f)) : DP P w K mg base 13 "_law_same" (f__law_same 12) := by
  have hb : Binds K fd ["got", "due"] [] := Fu.binds (ps := ["got", "due"]) (fun _ _ _ _ _ _ us hl => match us, hl with | [_, _], _ => rfl)
  have all : ∀ n, DP P w K mg base (1 + n) "_law_same" (f__law_same n) := by
    intro n
    induction n with
    | zero => exact dp_no Fu hm hb (fun _ => rfl)
    | succ n hrec =>
      refine dp_mk (N := ["got", "due", "one", "other"]) (ps := ["got", "due"]) Fu sc__law_same hm hb rfl ?_
      intro cdv A outer s H E hr tk po
      exact (sb_cons (ss_if (st_is (so_sn (pv 1 rfl (Or.inl rfl) rfl rfl)) (so_ex se_non)) (sb_one (ss_ret (se_is (so_sn (pv 0 rfl (Or.inl rfl) rfl rfl)) (so_ex se_non)))) sb_nil)
    (sb_cons (ss_if (st_tru (so_ex (se_isi .bool rfl (by rfl) T.m_isinstance (by rfl) T.m_bool (by decide +kernel) (so_sn (pv 1 rfl (Or.inl rfl) rfl rfl)))) (by intro _; rfl)) (sb_one (ss_ret (se_and (se_isi .bool rfl (by rfl) T.m_isinstance (by rfl) T.m_bool (by decide +kernel) (so_sn (pv 0 rfl (Or.inl rfl) rfl rfl))) (se_one (se_eq hr (so_sn (pv 0 rfl (Or.inl rfl) rfl rfl)) (so_sn (pv 1 rfl (Or.inl rfl) rfl rfl))))))) sb_nil)
    (sb_cons (ss_if (st_tru (so_ex (se_isi .tuple rfl (by rfl) T.m_isinstance (by rfl) T.m_tuple (by decide +kernel) (so_sn (pv 1 rfl (Or.inl rfl) rfl rfl)))) (by intro _; rfl)) (sb_cons (ss_if ((sw_or (st_not (st_tru (so_ex (se_isi .tuple rfl (by rfl) T.m_isinstance (by rfl) T.m_tuple (by decide +kernel) (so_sn (pv 0 rfl (Or.inl rfl) rfl rfl)))) (by intro _; rfl))) (sw_or1 (st_ne hr (so_ex (se_len (by rfl) T.m_len (so_sn (pv 0 rfl (Or.inl rfl) rfl rfl)))) (so_ex (se_len (by rfl) T.m_len (so_sn (pv 1 rfl (Or.inl rfl) rfl rfl)))))))).st (sb_one (ss_ret se_bl)) sb_nil)
    (sb_one (ss_ret (se_all rfl (by rfl) T.m_all (so_ex (se_fz (sf_lc (own := [("one", 2), ("other", 3)]) rfl sc__law_same.nd (si_zip (by rfl) T.m_zip (sa_cons (se_var (pv 0 rfl (Or.inl rfl) rfl rfl)) (sa_cons (se_var (pv 1 rfl (Or.inl rfl) rfl rfl)) sa_nil))) (blkOk_by (own := [("one", 2), ("other", 3)]) (by kernel_rfl)) (fun _ _ _ _ _ => (sg_tup rfl (sgs_cons (sg_name (pg_name (i := 2) sc__law_same.nd rfl (Or.inl rfl)) (by decide)) (sgs_cons (sg_name (pg_name (i := 3) sc__law_same.nd rfl (Or.inl rfl)) (by decide)) sgs_nil)))) (fun _ _ _ _ _ => sts_nil) (fun _ _ _ _ _ => (se_callP hrec (hr.mono (Nat.le_refl _)) (by rfl) takes0 (sa_cons (se_var (pv 2 rfl (Or.inl rfl) rfl rfl)) (sa_cons (se_var (pv 3 rfl (Or.inl rfl) rfl rfl)) sa_nil))))))))))) sb_nil)
    (sb_cons (ss_if (st_tru (so_ex (se_isi .str rfl (by rfl) T.m_isinstance (by rfl) T.m_str (by decide +kernel) (so_sn (pv 1 rfl (Or.inl rfl) rfl rfl)))) (by intro _; rfl)) (sb_one (ss_ret (se_and (se_isi .str rfl (by rfl) T.m_isinstance (by rfl) T.m_str (by decide +kernel) (so_sn (pv 0 rfl (Or.inl rfl) rfl rfl))) (se_one (se_eq hr (so_sn (pv 0 rfl (Or.inl rfl) rfl rfl)) (so_sn (pv 1 rfl (Or.inl rfl) rfl rfl))))))) sb_nil)
    (sb_one (ss_ret (se_and (se_isi .int rfl (by rfl) T.m_isinstance (by rfl) T.m_int (by decide +kernel) (so_sn (pv 0 rfl (Or.inl rfl) rfl rfl))) (se_and (se_not (se_isi .bool rfl (by rfl) T.m_isinstance (by rfl) T.m_bool (by decide +kernel) (so_sn (pv 0 rfl (Or.inl rfl) rfl rfl)))) (se_one (se_eq hr (so_sn (pv 0 rfl (Or.inl rfl) rfl rfl)) (so_sn (pv 1 rfl (Or.inl rfl) rfl rfl))))))))))))
  exact all 12
theorem sc__law_draw : FnScope ["script", "town", "many", "k", "cell", "number", "more"] ["script", "town", "many"] (defScope s__law_draw) := ⟨rfl, rfl, rfl, by decide +kernel, rfl, by decide +kernel, by decide +kernel⟩
theorem d__law_draw (T : Txt K mg) {f : Addr} {fd : FuncData} (Fu : Fun K "_law_draw" "_law_draw" s__law_draw f fd) (hm : mg "_law_draw" = some (.ref f)) : DS P w K mg base 1 "_law_draw" f__law_draw := by
  refine ds_mk (N := ["script", "town", "many", "k", "cell", "number", "more"]) (ps := ["script", "town", "many"]) Fu sc__law_draw hm (Fu.binds (ps := ["script", "town", "many"]) (fun _ _ _ _ _ _ us hl => match us, hl with | [_, _, _], _ => rfl)) rfl ?_
  intro cdv A outer s H E hr tk po
  exact (sb_cons (ss_expr (se_append (pv 1 rfl (Or.inl rfl) rfl rfl) (sa_cons se_int sa_nil)))
    (sb_cons (ss_set (fun h => ps_set (i := 3) sc__law_draw.nd rfl (Or.inl rfl) h) (se_len (by rfl) T.m_len (so_sn (pv 1 rfl (Or.inl rfl) rfl rfl))))
    (sb_cons (ss_set (fun h => ps_set (i := 4) sc__law_draw.nd rfl (Or.inl rfl) h) se_int)
    (sb_cons (ss_if (st_tru (so_sn (pv 0 rfl (Or.inl rfl) rfl rfl)) (by intro _; rfl)) (sb_one (ss_set (fun h => ps_set (i := 4) sc__law_draw.nd rfl (Or.inl rfl) h) (se_at (so_sn (pv 0 rfl (Or.inl rfl) rfl rfl)) (so_ex (se_mod (so_sn (pv 3 rfl (Or.inl rfl) rfl rfl)) (so_ex (se_len (by rfl) T.m_len (so_sn (pv 0 rfl (Or.inl rfl) rfl rfl))))))))) sb_nil)
    (sb_cons (ss_set (fun h => ps_set (i := 5) sc__law_draw.nd rfl (Or.inl rfl) h) (se_mod (so_ex (se_add (so_sn (pv 4 rfl (Or.inl rfl) rfl rfl)) (so_ex (se_mulI (so_ex se_int) (so_sn (pv 3 rfl (Or.inl rfl) rfl rfl)))))) (so_ex se_int)))
    (sb_cons (ss_set (fun h => ps_set (i := 5) sc__law_draw.nd rfl (Or.inl rfl) h) (se_mod (so_ex (se_mulI (so_ex (se_mod (so_ex (se_mulI (so_sn (pv 5 rfl (Or.inl rfl) rfl rfl)) (so_sn (pv 5 rfl (Or.inl rfl) rfl rfl)))) (so_ex se_int))) (so_ex se_int))) (so_ex se_int)))
    (sb_cons (ss_set (fun h => ps_set (i := 6) sc__law_draw.nd rfl (Or.inl rfl) h) (se_mod (so_ex (se_mulI (so_ex (se_mod (so_ex (se_mulI (so_sn (pv 5 rfl (Or.inl rfl) rfl rfl)) (so_sn (pv 5 rfl (Or.inl rfl) rfl rfl)))) (so_ex se_int))) (so_ex se_int))) (so_ex se_int)))
    (sb_one (ss_ret (se_mod (so_ex (se_add (so_ex (se_mulI (so_ex (se_fdiv (so_sn (pv 5 rfl (Or.inl rfl) rfl rfl)) (so_ex se_int))) (so_ex se_int))) (so_ex (se_fdiv (so_sn (pv 6 rfl (Or.inl rfl) rfl rfl)) (so_ex se_int))))) (so_sn (pv 2 rfl (Or.inl rfl) rfl rfl))))))))))))
theorem sc__law_every : FnScope ["rules"] ["rules"] (defScope s__law_every) := ⟨rfl, rfl, rfl, by decide +kernel, rfl, by decide +kernel, by decide +kernel⟩
theorem d__law_every (T : Txt K mg) {f : Addr} {fd : FuncData} (Fu : Fun K "_law_every" "_law_every" s__law_every f fd) (hm : mg "_law_every" = some (.ref f)) : DP P w K mg base 1 "_law_every" f__law_every := by
  refine dp_mk (N := ["rules"]) (ps := ["rules"]) Fu sc__law_every hm (Fu.binds (ps := ["rules"]) (fun _ _ _ _ _ _ us hl => match us, hl with | [_], _ => rfl)) rfl ?_
  intro cdv A outer s H E hr tk po
  exact (sb_one (ss_ret (se_tupr2 rfl (by rfl) T.m_tuple (by rfl) T.m_range (so_ex se_int) (so_ex (se_add (so_ex (se_fdiv (so_ex (se_mulI (so_ex (se_at (so_sn (pv 0 rfl (Or.inl rfl) rfl rfl)) (so_ex se_int))) (so_ex (se_add (so_ex (se_at (so_sn (pv 0 rfl (Or.inl rfl) rfl rfl)) (so_ex se_int))) (so_ex se_int))))) (so_ex se_int))) (so_ex se_int))))))
theorem sc__law_few : FnScope ["script", "town", "pins", "way", "pin"] ["script", "town", "pins"] (defScope s__law_few) := ⟨rfl, rfl, rfl, by decide +kernel, rfl, by decide +kernel, by decide +kernel⟩
theorem d__law_few (T : Txt K mg) (d__law_draw : DS P w K mg base 1 "_law_draw" f__law_draw) {f : Addr} {fd : FuncData} (Fu : Fun K "_law_few" "_law_few" s__law_few f fd) (hm : mg "_law_few" = some (.ref f)) : DS P w K mg base 2 "_law_few" f__law_few := by
  refine ds_mk (N := ["script", "town", "pins", "way", "pin"]) (ps := ["script", "town", "pins"]) Fu sc__law_few hm (Fu.binds (ps := ["script", "town", "pins"]) (fun _ _ _ _ _ _ us hl => match us, hl with | [_, _, _], _ => rfl)) rfl ?_
  intro cdv A outer s H E hr tk po
  exact (sb_cons (ss_set (fun h => ps_set (i := 3) sc__law_few.nd rfl (Or.inl rfl) h) (se_callS d__law_draw (hr.mono (by decide)) (by rfl) tk (sa_cons (se_var (pv 0 rfl (Or.inr (Or.inl rfl)) rfl rfl)) (sa_cons (se_var (pv 1 rfl (Or.inr (Or.inl rfl)) rfl rfl)) (sa_cons se_int sa_nil)))))
    (sb_cons (ss_if (st_lt (so_sn (pv 3 rfl (Or.inl rfl) rfl rfl)) (so_ex se_int)) (sb_one (ss_ret (se_mulT (so_sn (pv 2 rfl (Or.inl rfl) rfl rfl)) (so_sn (pv 3 rfl (Or.inl rfl) rfl rfl))))) sb_nil)
    (sb_cons (ss_if (st_eq hr (so_sn (pv 3 rfl (Or.inl rfl) rfl rfl)) (so_ex se_int)) (sb_one (ss_ret (se_var (pv 2 rfl (Or.inl rfl) rfl rfl)))) sb_nil)
    (sb_one (ss_ret (se_tuple (by rfl) T.m_tuple (so_ex (se_fz (sf_lc (own := [("pin", 4)]) rfl sc__law_few.nd (si_seq (se_var (pv 2 rfl (Or.inl rfl) rfl rfl))) (blkOk_by (own := [("pin", 4)]) (by kernel_rfl)) (fun _ _ _ _ _ => (sg_name (pg_name (i := 4) sc__law_few.nd rfl (Or.inl rfl)) (by decide))) (fun _ _ _ _ _ => (sts_one (st_eq hr (so_ex (se_callS d__law_draw (hr.mono (by decide)) (by rfl) takes0 (sa_cons (se_var (pv 0 rfl (Or.inr (Or.inl rfl)) rfl rfl)) (sa_cons (se_var (pv 1 rfl (Or.inr (Or.inl rfl)) rfl rfl)) (sa_cons se_int sa_nil))))) (so_ex se_int)))) (fun _ _ _ _ _ => (se_var (pv 4 rfl (Or.inl rfl) rfl rfl))))))))))))
theorem sc__law_spots : FnScope ["rules", "found", "pin", "row", "place"] ["rules"] (defScope s__law_spots) := ⟨rfl, rfl, rfl, by decide +kernel, rfl, by decide +kernel, by decide +kernel⟩
theorem d__law_spots (T : Txt K mg) {f : Addr} {fd : FuncData} (Fu : Fun K "_law_spots" "_law_spots" s__law_spots f fd) (hm : mg "_law_spots" = some (.ref f)) : DP P w K mg base 1 "_law_spots" f__law_spots := by
  refine dp_mk (N := ["rules", "found", "pin", "row", "place"]) (ps := ["rules"]) Fu sc__law_spots hm (Fu.binds (ps := ["rules"]) (fun _ _ _ _ _ _ us hl => match us, hl with | [_], _ => rfl)) rfl ?_
  intro cdv A outer s H E hr tk po
  exact (sb_cons (ss_ownVp (i := 1) (j := 2) rfl sc__law_spots.nd rfl rfl (by decide) rfl rfl sf_dictK se_int)
    (sb_cons (ss_for (is := [3]) po rfl (si_range1 (by rfl) T.m_range (sa_cons (se_at (so_sn (pv 0 rfl (Or.inl rfl) rfl rfl)) (so_ex se_int)) sa_nil)) (sg_name (pg_name (i := 3) sc__law_spots.nd rfl (Or.inl rfl)) (by decide)) (sb_one (ss_for (is := [4]) po rfl (si_range1 (by rfl) T.m_range (sa_cons (se_add (so_sn (pv 3 rfl (Or.inl rfl) rfl rfl)) (so_ex se_int)) sa_nil)) (sg_name (pg_name (i := 4) sc__law_spots.nd rfl (Or.inl rfl)) (by decide)) (sb_cons (ss_set (fun h => ps_set (i := 2) sc__law_spots.nd rfl (Or.inl rfl) h) (se_add (so_sn (pv 2 rfl (Or.inl rfl) rfl rfl)) (so_ex se_int)))
    (sb_one (ss_storeD hr (pv 1 rfl (Or.inl rfl) rfl rfl) (se_tup (sa_cons (se_var (pv 3 rfl (Or.inl rfl) rfl rfl)) (sa_cons (se_sub (so_ex (se_mulI (so_ex se_int) (so_sn (pv 4 rfl (Or.inl rfl) rfl rfl)))) (so_sn (pv 3 rfl (Or.inl rfl) rfl rfl))) sa_nil))) (se_var (pv 2 rfl (Or.inl rfl) rfl rfl))))))))
    (sb_one (ss_ret (se_var (pv 1 rfl (Or.inl rfl) rfl rfl))))))
theorem sc__law_touch : FnScope ["where", "one", "other", "rows", "across"] ["where", "one", "other"] (defScope s__law_touch) := ⟨rfl, rfl, rfl, by decide +kernel, rfl, by decide +kernel, by decide +kernel⟩
theorem d__law_touch (T : Txt K mg) {f : Addr} {fd : FuncData} (Fu : Fun K "_law_touch" "_law_touch" s__law_touch f fd) (hm : mg "_law_touch" = some (.ref f)) : DP P w K mg base 1 "_law_touch" f__law_touch := by
  refine dp_mk (N := ["where", "one", "other", "rows", "across"]) (ps := ["where", "one", "other"]) Fu sc__law_touch hm (Fu.binds (ps := ["where", "one", "other"]) (fun _ _ _ _ _ _ us hl => match us, hl with | [_, _, _], _ => rfl)) rfl ?_
  intro cdv A outer s H E hr tk po
  exact (sb_cons (ss_set (fun h => ps_set (i := 3) sc__law_touch.nd rfl (Or.inl rfl) h) (se_abs (by rfl) T.m_abs (so_ex (se_sub (so_ex (se_at (so_ex (se_dgetD hr (so_sn (pv 0 rfl (Or.inl rfl) rfl rfl)) (so_sn (pv 1 rfl (Or.inl rfl) rfl rfl)) (fun _ _ => rfl))) (so_ex se_int))) (so_ex (se_at (so_ex (se_dgetD hr (so_sn (pv 0 rfl (Or.inl rfl) rfl rfl)) (so_sn (pv 2 rfl (Or.inl rfl) rfl rfl)) (fun _ _ => rfl))) (so_ex se_int)))))))
    (sb_cons (ss_set (fun h => ps_set (i := 4) sc__law_touch.nd rfl (Or.inl rfl) h) (se_abs (by rfl) T.m_abs (so_ex (se_sub (so_ex (se_at (so_ex (se_dgetD hr (so_sn (pv 0 rfl (Or.inl rfl) rfl rfl)) (so_sn (pv 1 rfl (Or.inl rfl) rfl rfl)) (fun _ _ => rfl))) (so_ex se_int))) (so_ex (se_at (so_ex (se_dgetD hr (so_sn (pv 0 rfl (Or.inl rfl) rfl rfl)) (so_sn (pv 2 rfl (Or.inl rfl) rfl rfl)) (fun _ _ => rfl))) (so_ex se_int)))))))
    (sb_one (ss_ret (se_or (se_and (se_eq hr (so_sn (pv 3 rfl (Or.inl rfl) rfl rfl)) (so_ex se_int)) (se_one (se_eq hr (so_sn (pv 4 rfl (Or.inl rfl) rfl rfl)) (so_ex se_int)))) (se_one (se_and (se_eq hr (so_sn (pv 3 rfl (Or.inl rfl) rfl rfl)) (so_ex se_int)) (se_one (se_eq hr (so_sn (pv 4 rfl (Or.inl rfl) rfl rfl)) (so_ex se_int))))))))))
theorem sc__law_clumps : FnScope ["where", "stand", "names", "k", "one", "other", "firsts", "pin", "first"] ["where", "stand"] (defScope s__law_clumps) := ⟨rfl, rfl, rfl, by decide +kernel, rfl, by decide +kernel, by decide +kernel⟩
theorem d__law_clumps (T : Txt K mg) (d__law_touch : DP P w K mg base 1 "_law_touch" f__law_touch) {f : Addr} {fd : FuncData} (Fu : Fun K "_law_clumps" "_law_clumps" s__law_clumps f fd) (hm : mg "_law_clumps" = some (.ref f)) : DP P w K mg base 2 "_law_clumps" f__law_clumps := by
  refine dp_mk (N := ["where", "stand", "names", "k", "one", "other", "firsts", "pin", "first"]) (ps := ["where", "stand"]) Fu sc__law_clumps hm (Fu.binds (ps := ["where", "stand"]) (fun _ _ _ _ _ _ us hl => match us, hl with | [_, _], _ => rfl)) rfl ?_
  intro cdv A outer s H E hr tk po
  exact (sb_cons (ss_own (fun h => ps_set (i := 2) sc__law_clumps.nd rfl (Or.inr rfl) h) (sf_dictPI rfl (by rfl) T.m_dict (so_ex (se_fz (sf_lc (own := [("pin", 7)]) rfl sc__law_clumps.nd (si_seq (se_var (pv 1 rfl (Or.inr (Or.inl rfl)) rfl rfl))) (blkOk_by (own := [("pin", 7)]) (by kernel_rfl)) (fun _ _ _ _ _ => (sg_name (pg_name (i := 7) sc__law_clumps.nd rfl (Or.inl rfl)) (by decide))) (fun _ _ _ _ _ => sts_nil) (fun _ _ _ _ _ => (se_tup (sa_cons (se_var (pv 7 rfl (Or.inl rfl) rfl rfl)) (sa_cons (se_var (pv 7 rfl (Or.inl rfl) rfl rfl)) sa_nil)))))))))
    (sb_cons (ss_for (is := [3]) po rfl (si_range1 (by rfl) T.m_range (sa_cons (se_len (by rfl) T.m_len (so_sn (pv 1 rfl (Or.inr (Or.inl rfl)) rfl rfl))) sa_nil)) (sg_name (pg_name (i := 3) sc__law_clumps.nd rfl (Or.inl rfl)) (by decide)) (sb_one (ss_for (is := [4]) po rfl (si_seq (se_var (pv 1 rfl (Or.inr (Or.inl rfl)) rfl rfl))) (sg_name (pg_name (i := 4) sc__law_clumps.nd rfl (Or.inl rfl)) (by decide)) (sb_one (ss_for (is := [5]) po rfl (si_seq (se_var (pv 1 rfl (Or.inr (Or.inl rfl)) rfl rfl))) (sg_name (pg_name (i := 5) sc__law_clumps.nd rfl (Or.inl rfl)) (by decide)) (sb_one (ss_if (st_tru (so_ex (se_callP d__law_touch (hr.mono (by decide)) (by rfl) tk (sa_cons (se_var (pv 0 rfl (Or.inl rfl) rfl rfl)) (sa_cons (se_var (pv 4 rfl (Or.inl rfl) rfl rfl)) (sa_cons (se_var (pv 5 rfl (Or.inl rfl) rfl rfl)) sa_nil))))) (by intro _; rfl)) (sb_one (ss_storeD hr (pv 2 rfl (Or.inr (Or.inl rfl)) rfl rfl) (se_min2 rfl (by rfl) T.m_min (so_ex (se_dgetD hr (so_sn (pv 2 rfl (Or.inr (Or.inl rfl)) rfl rfl)) (so_sn (pv 4 rfl (Or.inl rfl) rfl rfl)) (fun _ _ => rfl))) (so_ex (se_dgetD hr (so_sn (pv 2 rfl (Or.inr (Or.inl rfl)) rfl rfl)) (so_sn (pv 5 rfl (Or.inl rfl) rfl rfl)) (fun _ _ => rfl)))) (se_var (pv 4 rfl (Or.inl rfl) rfl rfl)))) sb_nil)))))))
    (sb_cons (ss_set (fun h => ps_set (i := 6) sc__law_clumps.nd rfl (Or.inl rfl) h) (se_fz (sf_sortVals rfl (by rfl) T.m_sorted (by rfl) T.m_set (by rfl) T.m_list (so_sn (pv 2 rfl (Or.inr (Or.inl rfl)) rfl rfl)))))
    (sb_one (ss_ret (se_tuple (by rfl) T.m_tuple (so_ex (se_fz (sf_lc (own := [("first", 8)]) rfl sc__law_clumps.nd (si_seq (se_var (pv 6 rfl (Or.inl rfl) rfl rfl))) (blkOk_by (own := [("first", 8)]) (by kernel_rfl)) (fun _ _ _ _ _ => (sg_name (pg_name (i := 8) sc__law_clumps.nd rfl (Or.inr rfl)) (by decide))) (fun _ _ _ _ _ => sts_nil) (fun _ _ _ _ _ => (se_tuple (by rfl) T.m_tuple (so_ex (se_fz (sf_lc (own := [("pin", 7)]) rfl sc__law_clumps.nd (si_seq (se_var (pv 1 rfl (Or.inr (Or.inl rfl)) rfl rfl))) (blkOk_by (own := [("pin", 7)]) (by kernel_rfl)) (fun _ _ _ _ _ => (sg_name (pg_name (i := 7) sc__law_clumps.nd rfl (Or.inl rfl)) (by decide))) (fun _ _ _ _ _ => (sts_one (st_eq hr (so_ex (se_dgetD hr (so_sn (pv 2 rfl (Or.inr (Or.inl rfl)) rfl rfl)) (so_sn (pv 7 rfl (Or.inl rfl) rfl rfl)) (fun _ _ => rfl))) (so_sn (pv 8 rfl (Or.inr (Or.inl rfl)) rfl rfl))))) (fun _ _ _ _ _ => (se_var (pv 7 rfl (Or.inl rfl) rfl rfl)))))))))))))))))
theorem sc_law : FnScope ["script", "town", "k", "rules", "where", "pin", "due", "stand", "places", "other"] ["script"] (defScope s_law) := ⟨rfl, rfl, rfl, by decide +kernel, rfl, by decide +kernel, by decide +kernel⟩
theorem fn_law (T : Txt K mg) (d__law_spots : DP P w K mg base 1 "_law_spots" f__law_spots) (d__law_few : DS P w K mg base 2 "_law_few" f__law_few) (d__law_clumps : DP P w K mg base 2 "_law_clumps" f__law_clumps) (d__law_same : DP P w K mg base 13 "_law_same" (f__law_same 12)) (d__law_every : DP P w K mg base 1 "_law_every" f__law_every) (d__law_draw : DS P w K mg base 1 "_law_draw" f__law_draw) (d_pins_of : DP P w K mg base 1 "pins_of" f_pins_of) (d_clumps : DP P w K mg base 3 "clumps" f_clumps) (d_is_parted : DP P w K mg base 4 "is_parted" f_is_parted) (d_is_wide : DP P w K mg base 4 "is_wide" f_is_wide) (d_mirrored : DP P w K mg base 2 "mirrored" f_mirrored) (d__law_touch : DP P w K mg base 1 "_law_touch" f__law_touch) (d_row_of : DP P w K mg base 1 "row_of" f_row_of) (d_beside : DP P w K mg base 2 "beside" f_beside) {f : Addr} {fd : FuncData} (Fu : Fun K "law" "law" s_law f fd) : FnOk P w K mg base (L2.CX P w) 14 f fd ["script"] (spP K mg f_law) := by
  refine fp_mk (N := ["script", "town", "k", "rules", "where", "pin", "due", "stand", "places", "other"]) (ps := ["script"]) Fu sc_law rfl ?_
  intro cdv A outer s H E hr tk po
  exact (sb_cons (ss_set (fun h => ps_set (i := 1) sc_law.nd rfl (Or.inl rfl) h) (se_new (sf_lst sa_nil)))
    (sb_cons (ss_for (is := [2]) po rfl (si_range1 (by rfl) T.m_range (sa_cons se_int sa_nil)) (sg_name (pg_name (i := 2) sc_law.nd rfl (Or.inl rfl)) (by decide)) (sb_cons (ss_set (fun h => ps_set (i := 3) sc_law.nd rfl (Or.inl rfl) h) (se_tup (sa_cons (se_add (so_ex se_int) (so_ex (se_callS d__law_draw (hr.mono (by decide)) (by rfl) tk (sa_cons (se_var (pv 0 rfl (Or.inl rfl) rfl rfl)) (sa_cons (se_var (pv 1 rfl (Or.inl rfl) rfl rfl)) (sa_cons se_int sa_nil)))))) (sa_cons se_int (sa_cons se_int sa_nil)))))
    (sb_cons (ss_set (fun h => ps_set (i := 4) sc_law.nd rfl (Or.inr rfl) h) (se_callP d__law_spots (hr.mono (by decide)) (by rfl) tk (sa_cons (se_var (pv 3 rfl (Or.inl rfl) rfl rfl)) sa_nil)))
    (sb_cons (ss_if (st_not (st_tru (so_ex (se_callP d__law_same (hr.mono (by decide)) (by rfl) tk (sa_cons (se_callP d_pins_of (hr.mono (by decide)) (by rfl) tk (sa_cons (se_var (pv 3 rfl (Or.inl rfl) rfl rfl)) sa_nil)) (sa_cons (se_lenK (by rfl) T.m_len (so_sn (pv 4 rfl (Or.inr (Or.inl rfl)) rfl rfl))) sa_nil)))) (by intro _; rfl))) (sb_one (ss_ret se_bl)) sb_nil)
    (sb_cons (ss_for (is := [5]) po rfl (si_keys (se_var (pv 4 rfl (Or.inr (Or.inl rfl)) rfl rfl))) (sg_name (pg_name (i := 5) sc_law.nd rfl (Or.inr rfl)) (by decide)) (sb_cons (ss_set (fun h => ps_set (i := 6) sc_law.nd rfl (Or.inl rfl) h) (se_tuple (by rfl) T.m_tuple (so_ex (se_fz (sf_lc (own := [("other", 9)]) rfl sc_law.nd (si_seq (se_fz (sf_sortK rfl (by rfl) T.m_sorted (so_sn (pv 4 rfl (Or.inr (Or.inl rfl)) rfl rfl))))) (blkOk_by (own := [("other", 9)]) (by kernel_rfl)) (fun _ _ _ _ _ => (sg_name (pg_name (i := 9) sc_law.nd rfl (Or.inl rfl)) (by decide))) (fun _ _ _ _ _ => (sts_one (st_tru (so_ex (se_callP d__law_touch (hr.mono (by decide)) (by rfl) takes0 (sa_cons (se_var (pv 4 rfl (Or.inr (Or.inl rfl)) rfl rfl)) (sa_cons (se_var (pv 5 rfl (Or.inr (Or.inl rfl)) rfl rfl)) (sa_cons (se_var (pv 9 rfl (Or.inl rfl) rfl rfl)) sa_nil))))) (by intro _; rfl)))) (fun _ _ _ _ _ => (se_var (pv 9 rfl (Or.inl rfl) rfl rfl))))))))
    (sb_one (ss_if ((sw_or (st_not (st_tru (so_ex (se_callP d__law_same (hr.mono (by decide)) (by rfl) tk (sa_cons (se_callP d_row_of (hr.mono (by decide)) (by rfl) tk (sa_cons (se_var (pv 5 rfl (Or.inr (Or.inl rfl)) rfl rfl)) sa_nil)) (sa_cons (se_add (so_ex (se_at (so_ex (se_dgetD hr (so_sn (pv 4 rfl (Or.inr (Or.inl rfl)) rfl rfl)) (so_sn (pv 5 rfl (Or.inr (Or.inl rfl)) rfl rfl)) (fun _ _ => rfl))) (so_ex se_int))) (so_ex se_int)) sa_nil)))) (by intro _; rfl))) (sw_or1 (st_not (st_tru (so_ex (se_callP d__law_same (hr.mono (by decide)) (by rfl) tk (sa_cons (se_callP d_beside (hr.mono (by decide)) (by rfl) tk (sa_cons (se_var (pv 3 rfl (Or.inl rfl) rfl rfl)) (sa_cons (se_var (pv 5 rfl (Or.inr (Or.inl rfl)) rfl rfl)) sa_nil))) (sa_cons (se_var (pv 6 rfl (Or.inl rfl) rfl rfl)) sa_nil)))) (by intro _; rfl)))))).st (sb_one (ss_ret se_bl)) sb_nil))))
    (sb_cons (ss_set (fun h => ps_set (i := 7) sc_law.nd rfl (Or.inl rfl) h) (se_callS d__law_few (hr.mono (by decide)) (by rfl) tk (sa_cons (se_var (pv 0 rfl (Or.inl rfl) rfl rfl)) (sa_cons (se_var (pv 1 rfl (Or.inl rfl) rfl rfl)) (sa_cons (se_callP d__law_every (hr.mono (by decide)) (by rfl) tk (sa_cons (se_var (pv 3 rfl (Or.inl rfl) rfl rfl)) sa_nil)) sa_nil)))))
    (sb_cons (ss_set (fun h => ps_set (i := 6) sc_law.nd rfl (Or.inl rfl) h) (se_callP d__law_clumps (hr.mono (by decide)) (by rfl) tk (sa_cons (se_var (pv 4 rfl (Or.inr (Or.inl rfl)) rfl rfl)) (sa_cons (se_var (pv 7 rfl (Or.inl rfl) rfl rfl)) sa_nil))))
    (sb_cons (ss_if (st_not (st_tru (so_ex (se_callP d__law_same (hr.mono (by decide)) (by rfl) tk (sa_cons (se_callP d_clumps (hr.mono (by decide)) (by rfl) tk (sa_cons (se_var (pv 3 rfl (Or.inl rfl) rfl rfl)) (sa_cons (se_var (pv 7 rfl (Or.inl rfl) rfl rfl)) sa_nil))) (sa_cons (se_var (pv 6 rfl (Or.inl rfl) rfl rfl)) sa_nil)))) (by intro _; rfl))) (sb_one (ss_ret se_bl)) sb_nil)
    (sb_cons (ss_if (st_not (st_tru (so_ex (se_callP d__law_same (hr.mono (by decide)) (by rfl) tk (sa_cons (se_callP d_is_parted (hr.mono (by decide)) (by rfl) tk (sa_cons (se_var (pv 3 rfl (Or.inl rfl) rfl rfl)) (sa_cons (se_var (pv 7 rfl (Or.inl rfl) rfl rfl)) sa_nil))) (sa_cons (se_and (se_notin hr (so_ex se_int) (so_sn (pv 7 rfl (Or.inl rfl) rfl rfl))) (se_one (se_gt (so_ex (se_len (by rfl) T.m_len (so_sn (pv 6 rfl (Or.inl rfl) rfl rfl)))) (so_ex se_int)))) sa_nil)))) (by intro _; rfl))) (sb_one (ss_ret se_bl)) sb_nil)
    (sb_cons (ss_if (st_not (st_tru (so_ex (se_callP d__law_same (hr.mono (by decide)) (by rfl) tk (sa_cons (se_callP d_is_wide (hr.mono (by decide)) (by rfl) tk (sa_cons (se_var (pv 3 rfl (Or.inl rfl) rfl rfl)) (sa_cons (se_var (pv 7 rfl (Or.inl rfl) rfl rfl)) sa_nil))) (sa_cons (se_and (se_in hr (so_ex se_int) (so_sn (pv 7 rfl (Or.inl rfl) rfl rfl))) (se_one (se_gt (so_ex (se_len (by rfl) T.m_len (so_sn (pv 6 rfl (Or.inl rfl) rfl rfl)))) (so_ex se_int)))) sa_nil)))) (by intro _; rfl))) (sb_one (ss_ret se_bl)) sb_nil)
    (sb_cons (ss_set (fun h => ps_set (i := 8) sc_law.nd rfl (Or.inr rfl) h) (se_fz (sf_dictPT hr rfl (by rfl) T.m_dict (so_ex (se_fz (sf_lc (own := [("pin", 5)]) rfl sc_law.nd (si_keys (se_var (pv 4 rfl (Or.inr (Or.inl rfl)) rfl rfl))) (blkOk_by (own := [("pin", 5)]) (by kernel_rfl)) (fun _ _ _ _ _ => (sg_name (pg_name (i := 5) sc_law.nd rfl (Or.inl rfl)) (by decide))) (fun _ _ _ _ _ => sts_nil) (fun _ _ _ _ _ => (se_tup (sa_cons (se_dgetD hr (so_sn (pv 4 rfl (Or.inr (Or.inl rfl)) rfl rfl)) (so_sn (pv 5 rfl (Or.inl rfl) rfl rfl)) (fun _ _ => rfl)) (sa_cons (se_var (pv 5 rfl (Or.inl rfl) rfl rfl)) sa_nil))))))))))
    (sb_cons (ss_set (fun h => ps_set (i := 6) sc_law.nd rfl (Or.inl rfl) h) (se_tuple (by rfl) T.m_tuple (so_ex (se_fz (sf_sorted (by rfl) T.m_sorted (so_ex (se_fz (sf_lc (own := [("pin", 5)]) rfl sc_law.nd (si_seq (se_var (pv 7 rfl (Or.inl rfl) rfl rfl))) (blkOk_by (own := [("pin", 5)]) (by kernel_rfl)) (fun _ _ _ _ _ => (sg_name (pg_name (i := 5) sc_law.nd rfl (Or.inl rfl)) (by decide))) (fun _ _ _ _ _ => sts_nil) (fun _ _ _ _ _ => (se_dgetD hr (so_sn (pv 8 rfl (Or.inr (Or.inl rfl)) rfl rfl)) (so_ex (se_tup (sa_cons (se_at (so_ex (se_dgetD hr (so_sn (pv 4 rfl (Or.inr (Or.inl rfl)) rfl rfl)) (so_sn (pv 5 rfl (Or.inl rfl) rfl rfl)) (fun _ _ => rfl))) (so_ex se_int)) (sa_cons (se_sub (so_ex se_int) (so_ex (se_at (so_ex (se_dgetD hr (so_sn (pv 4 rfl (Or.inr (Or.inl rfl)) rfl rfl)) (so_sn (pv 5 rfl (Or.inl rfl) rfl rfl)) (fun _ _ => rfl))) (so_ex se_int)))) sa_nil)))) (fun _ _ => rfl)))))))))))
    (sb_one (ss_if (st_not (st_tru (so_ex (se_callP d__law_same (hr.mono (by decide)) (by rfl) tk (sa_cons (se_callP d_mirrored (hr.mono (by decide)) (by rfl) tk (sa_cons (se_var (pv 3 rfl (Or.inl rfl) rfl rfl)) (sa_cons (se_var (pv 7 rfl (Or.inl rfl) rfl rfl)) sa_nil))) (sa_cons (se_var (pv 6 rfl (Or.inl rfl) rfl rfl)) sa_nil)))) (by intro _; rfl))) (sb_one (ss_ret se_bl)) sb_nil))))))))))))))
    (sb_one (ss_ret se_bl))))
end
end Lk01
set_option maxHeartbeats 8000000
namespace Lk01
open PySem PySem.Spec PyProof.Rows L2 Fw
def fns : List He.DefD := [⟨("pins_of", none), "pins_of", "pins_of", defArgs s_pins_of, defBody s_pins_of, defScope s_pins_of, [], []⟩, ⟨("row_of", none), "row_of", "row_of", defArgs s_row_of, defBody s_row_of, defScope s_row_of, [], []⟩, ⟨("pin_at", none), "pin_at", "pin_at", defArgs s_pin_at, defBody s_pin_at, defScope s_pin_at, [], []⟩, ⟨("beside", none), "beside", "beside", defArgs s_beside, defBody s_beside, defScope s_beside, [], []⟩, ⟨("clumps", none), "clumps", "clumps", defArgs s_clumps, defBody s_clumps, defScope s_clumps, [], []⟩, ⟨("is_parted", none), "is_parted", "is_parted", defArgs s_is_parted, defBody s_is_parted, defScope s_is_parted, [], []⟩, ⟨("is_wide", none), "is_wide", "is_wide", defArgs s_is_wide, defBody s_is_wide, defScope s_is_wide, [], []⟩, ⟨("mirrored", none), "mirrored", "mirrored", defArgs s_mirrored, defBody s_mirrored, defScope s_mirrored, [], []⟩, ⟨("_law_same", none), "_law_same", "_law_same", defArgs s__law_same, defBody s__law_same, defScope s__law_same, [], []⟩, ⟨("_law_draw", none), "_law_draw", "_law_draw", defArgs s__law_draw, defBody s__law_draw, defScope s__law_draw, [], []⟩, ⟨("_law_every", none), "_law_every", "_law_every", defArgs s__law_every, defBody s__law_every, defScope s__law_every, [], []⟩, ⟨("_law_few", none), "_law_few", "_law_few", defArgs s__law_few, defBody s__law_few, defScope s__law_few, [], []⟩, ⟨("_law_spots", none), "_law_spots", "_law_spots", defArgs s__law_spots, defBody s__law_spots, defScope s__law_spots, [], []⟩, ⟨("_law_touch", none), "_law_touch", "_law_touch", defArgs s__law_touch, defBody s__law_touch, defScope s__law_touch, [], []⟩, ⟨("_law_clumps", none), "_law_clumps", "_law_clumps", defArgs s__law_clumps, defBody s__law_clumps, defScope s__law_clumps, [], []⟩, ⟨("law", none), "law", "law", defArgs s_law, defBody s_law, defScope s_law, [], []⟩]
def fas : List He.Fa := [.glo "pins_of", .glo "row_of", .glo "pin_at", .glo "beside", .glo "clumps", .glo "is_parted", .glo "is_wide", .glo "mirrored", .glo "_law_same", .glo "_law_draw", .glo "_law_every", .glo "_law_few", .glo "_law_spots", .glo "_law_touch", .glo "_law_clumps", .glo "law", .free "tuple", .free "sorted", .free "list", .free "len", .free "isinstance", .free "bool", .free "str", .free "all", .free "int", .free "zip", .free "range", .free "abs", .free "dict", .free "set", .free "min"]
abbrev Ro : PySem.W.OpenRow := PySem.W.OpenLaw.row PySem.Challenge.rw_skittlehall_k01_whole_pins_that_touch
abbrev hk : PySem.W.Hook := He.hookD 18 fas fns
def obs (s : PySem.W.SharedT) : He.AlD := He.obsDG 18 fas fns (HandSHeadRun.getT s)
theorem obs_eq (s : PySem.W.SharedT) : obs s = hk.obs s.abs := He.obsDG_eq (HandSHeadRun.getT_eq s)
def loos : List Str := (["__name__", "pins_of", "row_of", "pin_at", "beside", "clumps", "is_parted", "is_wide", "mirrored", "_law_same", "_law_draw", "_law_every"] : List Str) ++ (["_law_few", "_law_spots", "_law_touch", "_law_clumps"] : List Str)
theorem runs (w : World) : HandSHeadRun.RunEq Ro (PySem.W.view Ro.prog [17]) hk obs 1480 loos w := by
  intro os
  kernel_rfl
theorem facts {P : Program} {w : World} {K : PySem.W.Frag} {h : Heap} {mg : Str → Option Value} {f : Addr} (X : K.In h) (G : h.Ns mainGlobals mg) (hfa : mg ("law" : Str) = some (.ref f)) (c : He.SaysD fas fns K) :
    ∃ fd : FuncData, (∀ (s : Shared) (v : Value), BindsTo s fd ⟨[v], []⟩ [("script", v)]) ∧ ∀ base : Heap, K.In base → base.Ns mainGlobals mg → FnOk P w K mg base (L2.CX P w) 14 f fd ["script"] (spP K mg f_law) := by
  obtain ⟨fd0, F0⟩ := c.def_ 0 (d := ⟨("pins_of", none), "pins_of", "pins_of", defArgs s_pins_of, defBody s_pins_of, defScope s_pins_of, [], []⟩) rfl
  have g0 := He.glo_ok X G (c.fact 0 (f := .glo "pins_of") rfl)
  obtain ⟨fd1, F1⟩ := c.def_ 1 (d := ⟨("row_of", none), "row_of", "row_of", defArgs s_row_of, defBody s_row_of, defScope s_row_of, [], []⟩) rfl
  have g1 := He.glo_ok X G (c.fact 1 (f := .glo "row_of") rfl)
  obtain ⟨fd2, F2⟩ := c.def_ 2 (d := ⟨("pin_at", none), "pin_at", "pin_at", defArgs s_pin_at, defBody s_pin_at, defScope s_pin_at, [], []⟩) rfl
  have g2 := He.glo_ok X G (c.fact 2 (f := .glo "pin_at") rfl)
  obtain ⟨fd3, F3⟩ := c.def_ 3 (d := ⟨("beside", none), "beside", "beside", defArgs s_beside, defBody s_beside, defScope s_beside, [], []⟩) rfl
  have g3 := He.glo_ok X G (c.fact 3 (f := .glo "beside") rfl)
  obtain ⟨fd4, F4⟩ := c.def_ 4 (d := ⟨("clumps", none), "clumps", "clumps", defArgs s_clumps, defBody s_clumps, defScope s_clumps, [], []⟩) rfl
  have g4 := He.glo_ok X G (c.fact 4 (f := .glo "clumps") rfl)
  obtain ⟨fd5, F5⟩ := c.def_ 5 (d := ⟨("is_parted", none), "is_parted", "is_parted", defArgs s_is_parted, defBody s_is_parted, defScope s_is_parted, [], []⟩) rfl
  have g5 := He.glo_ok X G (c.fact 5 (f := .glo "is_parted") rfl)
  obtain ⟨fd6, F6⟩ := c.def_ 6 (d := ⟨("is_wide", none), "is_wide", "is_wide", defArgs s_is_wide, defBody s_is_wide, defScope s_is_wide, [], []⟩) rfl
  have g6 := He.glo_ok X G (c.fact 6 (f := .glo "is_wide") rfl)
  obtain ⟨fd7, F7⟩ := c.def_ 7 (d := ⟨("mirrored", none), "mirrored", "mirrored", defArgs s_mirrored, defBody s_mirrored, defScope s_mirrored, [], []⟩) rfl
  have g7 := He.glo_ok X G (c.fact 7 (f := .glo "mirrored") rfl)
  obtain ⟨fd8, F8⟩ := c.def_ 8 (d := ⟨("_law_same", none), "_law_same", "_law_same", defArgs s__law_same, defBody s__law_same, defScope s__law_same, [], []⟩) rfl
  have g8 := He.glo_ok X G (c.fact 8 (f := .glo "_law_same") rfl)
  obtain ⟨fd9, F9⟩ := c.def_ 9 (d := ⟨("_law_draw", none), "_law_draw", "_law_draw", defArgs s__law_draw, defBody s__law_draw, defScope s__law_draw, [], []⟩) rfl
  have g9 := He.glo_ok X G (c.fact 9 (f := .glo "_law_draw") rfl)
  obtain ⟨fd10, F10⟩ := c.def_ 10 (d := ⟨("_law_every", none), "_law_every", "_law_every", defArgs s__law_every, defBody s__law_every, defScope s__law_every, [], []⟩) rfl
  have g10 := He.glo_ok X G (c.fact 10 (f := .glo "_law_every") rfl)
  obtain ⟨fd11, F11⟩ := c.def_ 11 (d := ⟨("_law_few", none), "_law_few", "_law_few", defArgs s__law_few, defBody s__law_few, defScope s__law_few, [], []⟩) rfl
  have g11 := He.glo_ok X G (c.fact 11 (f := .glo "_law_few") rfl)
  obtain ⟨fd12, F12⟩ := c.def_ 12 (d := ⟨("_law_spots", none), "_law_spots", "_law_spots", defArgs s__law_spots, defBody s__law_spots, defScope s__law_spots, [], []⟩) rfl
  have g12 := He.glo_ok X G (c.fact 12 (f := .glo "_law_spots") rfl)
  obtain ⟨fd13, F13⟩ := c.def_ 13 (d := ⟨("_law_touch", none), "_law_touch", "_law_touch", defArgs s__law_touch, defBody s__law_touch, defScope s__law_touch, [], []⟩) rfl
  have g13 := He.glo_ok X G (c.fact 13 (f := .glo "_law_touch") rfl)
  obtain ⟨fd14, F14⟩ := c.def_ 14 (d := ⟨("_law_clumps", none), "_law_clumps", "_law_clumps", defArgs s__law_clumps, defBody s__law_clumps, defScope s__law_clumps, [], []⟩) rfl
  have g14 := He.glo_ok X G (c.fact 14 (f := .glo "_law_clumps") rfl)
  obtain ⟨fd15, F15⟩ := c.def_ 15 (d := ⟨("law", none), "law", "law", defArgs s_law, defBody s_law, defScope s_law, [], []⟩) rfl
  have g15 := He.glo_ok X G (c.fact 15 (f := .glo "law") rfl)
  have b := FunD.bindsA (ps := ["script"]) F15 fun _ _ _ _ _ _ us hl => match us, hl with | [_], _ => rfl
  have T : Txt K mg := ⟨He.free_ok X G (c.fact 16 (f := .free "tuple") rfl), He.free_ok X G (c.fact 17 (f := .free "sorted") rfl), He.free_ok X G (c.fact 18 (f := .free "list") rfl), He.free_ok X G (c.fact 19 (f := .free "len") rfl), He.free_ok X G (c.fact 20 (f := .free "isinstance") rfl), He.free_ok X G (c.fact 21 (f := .free "bool") rfl), He.free_ok X G (c.fact 22 (f := .free "str") rfl), He.free_ok X G (c.fact 23 (f := .free "all") rfl), He.free_ok X G (c.fact 24 (f := .free "int") rfl), He.free_ok X G (c.fact 25 (f := .free "zip") rfl), He.free_ok X G (c.fact 26 (f := .free "range") rfl), He.free_ok X G (c.fact 27 (f := .free "abs") rfl), He.free_ok X G (c.fact 28 (f := .free "dict") rfl), He.free_ok X G (c.fact 29 (f := .free "set") rfl), He.free_ok X G (c.fact 30 (f := .free "min") rfl)⟩
  have e := hfa.symm.trans g15
  cases e
  refine ⟨fd15, fun s v => b s [v] rfl, fun base _ _ => ?_⟩
  have e_pins_of : DP P w K mg base 1 "pins_of" f_pins_of := d_pins_of T  (fun_of F0) g0
  have e_row_of : DP P w K mg base 1 "row_of" f_row_of := d_row_of T  (fun_of F1) g1
  have e_pin_at : DP P w K mg base 1 "pin_at" f_pin_at := d_pin_at T  (fun_of F2) g2
  have e_beside : DP P w K mg base 2 "beside" f_beside := d_beside T e_row_of e_pin_at (fun_of F3) g3
  have e_clumps : DP P w K mg base 3 "clumps" f_clumps := d_clumps T e_beside (fun_of F4) g4
  have e_is_parted : DP P w K mg base 4 "is_parted" f_is_parted := d_is_parted T e_clumps (fun_of F5) g5
  have e_is_wide : DP P w K mg base 4 "is_wide" f_is_wide := d_is_wide T e_clumps (fun_of F6) g6
  have e_mirrored : DP P w K mg base 2 "mirrored" f_mirrored := d_mirrored T e_row_of (fun_of F7) g7
  have e__law_same : DP P w K mg base 13 "_law_same" (f__law_same 12) := d__law_same T  (fun_of F8) g8
  have e__law_draw : DS P w K mg base 1 "_law_draw" f__law_draw := d__law_draw T  (fun_of F9) g9
  have e__law_every : DP P w K mg base 1 "_law_every" f__law_every := d__law_every T  (fun_of F10) g10
  have e__law_few : DS P w K mg base 2 "_law_few" f__law_few := d__law_few T e__law_draw (fun_of F11) g11
  have e__law_spots : DP P w K mg base 1 "_law_spots" f__law_spots := d__law_spots T  (fun_of F12) g12
  have e__law_touch : DP P w K mg base 1 "_law_touch" f__law_touch := d__law_touch T  (fun_of F13) g13
  have e__law_clumps : DP P w K mg base 2 "_law_clumps" f__law_clumps := d__law_clumps T e__law_touch (fun_of F14) g14
  exact fn_law T e__law_spots e__law_few e__law_clumps e__law_same e__law_every e__law_draw e_pins_of e_clumps e_is_parted e_is_wide e_mirrored e__law_touch e_row_of e_beside (fun_of F15)
end Lk01
open PySem PySem.W PySem.Calls PyProof.Rows in
theorem PySem.Challenge.cw_skittlehall_k01_whole_pins_that_touch_holds : PySem.Challenge.rw_skittlehall_k01_whole_pins_that_touch.Holds := by
  w_on; o_law
  refine HandSHeadRun.head_any (r := OpenLaw.row PySem.Challenge.rw_skittlehall_k01_whole_pins_that_touch) (q := view (OpenLaw.row PySem.Challenge.rw_skittlehall_k01_whole_pins_that_touch).prog [17]) (H := Lk01.hk) (ob := Lk01.obs) (M := 1480) (loose := Lk01.loos) (d := HandSHeadRun.topDef (OpenLaw.row PySem.Challenge.rw_skittlehall_k01_whole_pins_that_touch).prog 17) (kwd := []) Lk01.obs_eq
    (by kernel_rfl) (fun s => by kernel_rfl) Lk01.runs (by kernel_rfl) (by kernel_rfl) (by kernel_rfl) (by rfl) (by first | assumption | decide +kernel) (by decide +kernel) ⟨rfl, rfl, rfl, rfl, rfl, by decide +kernel⟩ ?hw ?hc
  case hw => w_witness2
  case hc =>
    refine Fw.walk_law (l := PySem.Challenge.rw_skittlehall_k01_whole_pins_that_touch) (k := 14) (x := "script") (φ := Lk01.f_law) rfl (by kernel_rfl) ⟨rfl, by decide, by decide⟩ Lk01.law_true ?F
    intro w mg fa h Y G hmg0
    obtain ⟨K, KX, c⟩ := Y
    have hmg : mg ("law" : PySem.Str) = some (.ref fa) := by
      have e : (HandSHeadRun.topDef (OpenLaw.row PySem.Challenge.rw_skittlehall_k01_whole_pins_that_touch).prog 17).name = ("law" : PySem.Str) := by kernel_rfl
      rw [← e]
      exact hmg0
    obtain ⟨fd, hb, hF⟩ := Lk01.facts (P := (PySem.Challenge.rw_skittlehall_k01_whole_pins_that_touch).prog) (w := w) KX G hmg c
    exact ⟨K, fd, KX, hb, hF⟩
