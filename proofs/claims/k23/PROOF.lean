import PyProof.Rows.All
import Wide.All
import OpenK.AllK
import Wide.FinOn
import HandS.ForMost
import HandS.ForExc
import HandS.TupAny
import HandS.TupMul
import HandS.Wide
import HandS.Conv
import HandS.Sort
import HandS.Style
import HandS.Flow
import HandS.TupLe
import HandS.Text
import HandS.SortInts
import HandS.Gcd
import HandS.IsInst
import KE.KExcIs
import KE.KSortedM
import HandS.Walk
import HandS.CallSlots
import HandS.Defaults
import HandS.ExcField
import HandS.ClsMeth
import HandS.ExcValue
import HandS.ExcOwn
import HandS.HotCalls
import KE.KCallOwn
import HandS.Head0
import HandS.Head1
import HandS.Head2
import HandS.HeadEnd
import HandS.HeadHook1
import HandS.HeadHook2
import HandS.FStr
import HandS.Iter
import KE.GoesMore
import KE.GoesEnum
import HandS.HeadHook3
import PyProof.Rows.Chain
import HandS.Head3
import PySem.Challenge.RW_cutsagainst_k23_distance_bounds_judged_e
set_option Elab.async false
set_option linter.all false
set_option maxRecDepth 100000
section
set_option maxHeartbeats 200000
namespace DL
open PySem L2

/-- deep values: what a Python value is, without addresses. lst, ins: shared, never changed again; own, obj: held at one place alone, may be changed there -/
inductive DV where
  | non | bl (b : Bool) | int (i : Int) | str (x : Str)
  | tup (ds : List DV) | lst (ds : List DV) | own (ds : List DV)
  | ins (c : Str) (fs : List (Str × DV)) | obj (c : Str) (fs : List (Str × DV))
  | scr (ds : List DV)   -- a list that is read alone (the script, one of the written part)
  | rng (lo hi : Int)
  | exc (c : Str) (fs : List (Str × DV))   -- a caught exception

/-- the written part and the classes by name -/
structure Gc where
  K : PySem.W.Frag
  cl : Str → Option Addr

/-- the object at p is a record of an exception: its class, its dict -/
def ExcAt (p C : Addr) (dx : Option Addr) (φ : Heap → Prop) : Prop := ∀ h, φ h → ∃ o vs, h.get? p = some o ∧ o.cls = .ref C ∧ o.dict = dx ∧ o.data = .fields vs

mutual
inductive RF (g : Gc) (F : Hp) : V → DV → Prop
  | non : RF g F .non .non
  | bl (b : Bool) : RF g F (.bl b) (.bl b)
  | int (i : Int) : RF g F (.int i) (.int i)
  | str (x : Str) : RF g F (.str x) (.str x)
  | tup {p : Addr} {vs : List V} {ds : List DV} : SqT g.K F p vs → RFs g F vs ds → RF g F (.ref p) (.tup ds)
  | lst {p : Addr} {vs : List V} {ds : List DV} : F p = some (.lst vs) → RFs g F vs ds → RF g F (.ref p) (.lst ds)
  | scr {p : Addr} {vs : List V} {ds : List DV} : SqL g.K F p vs → RFs g F vs ds → RF g F (.ref p) (.scr ds)
  | rng {p : Addr} {lo hi : Int} : F p = some (.rng lo hi) → RF g F (.ref p) (.rng lo hi)
  | ins {p C dx : Addr} {c : Str} {fs : List (Str × V)} {ds : List (Str × DV)} : F p = some (.ins C dx fs) → g.cl c = some C → RFf g F fs ds → RF g F (.ref p) (.ins c ds)
  | exc {p C : Addr} {c : Str} {φ : Heap → Prop} : F p = some (.ext φ) → ExcAt p C none φ → g.cl c = some C → RF g F (.ref p) (.exc c [])
  | excD {p C d : Addr} {c : Str} {φ : Heap → Prop} {fs : List (Str × V)} {ds : List (Str × DV)} : F p = some (.ext φ) → ExcAt p C (some d) φ → g.cl c = some C → F d = some (.xd fs) → RFf g F fs ds → RF g F (.ref p) (.exc c ds)
inductive RFs (g : Gc) (F : Hp) : List V → List DV → Prop
  | nil : RFs g F [] []
  | cons {v : V} {d : DV} {vs : List V} {ds : List DV} : RF g F v d → RFs g F vs ds → RFs g F (v :: vs) (d :: ds)
inductive RFf (g : Gc) (F : Hp) : List (Str × V) → List (Str × DV) → Prop
  | nil : RFf g F [] []
  | cons {n : Str} {v : V} {d : DV} {vs : List (Str × V)} {ds : List (Str × DV)} : RF g F v d → RFf g F vs ds → RFf g F ((n, v) :: vs) ((n, d) :: ds)
end

theorem rd_same {F F' : Hp} {a : Addr} {u : HO} (e : Same F F') (h : Rd F a u) : Rd F' a u := by
  rcases h with h | ⟨o, h⟩
  · exact .inl (e _ _ h)
  · exact .inr ⟨o, e _ _ h⟩
theorem sqT_same {K : PySem.W.Frag} {F F' : Hp} {a : Addr} {xs : List V} (e : Same F F') (h : SqT K F a xs) : SqT K F' a xs := by
  rcases h with h | h
  · exact .inl (rd_same e h)
  · exact .inr h
theorem sqL_same {K : PySem.W.Frag} {F F' : Hp} {a : Addr} {xs : List V} (e : Same F F') (h : SqL K F a xs) : SqL K F' a xs := e.seq h

mutual
theorem RF.mono {g : Gc} {F F' : Hp} (e : Same F F') : ∀ {v : V} {d : DV}, RF g F v d → RF g F' v d
  | _, _, .non => .non
  | _, _, .bl b => .bl b
  | _, _, .int i => .int i
  | _, _, .str x => .str x
  | _, _, .tup h r => .tup (sqT_same e h) (RFs.mono e r)
  | _, _, .lst h r => .lst (e _ _ h) (RFs.mono e r)
  | _, _, .scr h r => .scr (sqL_same e h) (RFs.mono e r)
  | _, _, .rng h => .rng (e _ _ h)
  | _, _, .ins h c r => .ins (e _ _ h) c (RFf.mono e r)
  | _, _, .exc h k c => .exc (e _ _ h) k c
  | _, _, .excD h k c q r => .excD (e _ _ h) k c (e _ _ q) (RFf.mono e r)
theorem RFs.mono {g : Gc} {F F' : Hp} (e : Same F F') : ∀ {v : List V} {d : List DV}, RFs g F v d → RFs g F' v d
  | _, _, .nil => .nil
  | _, _, .cons h r => .cons (RF.mono e h) (RFs.mono e r)
theorem RFf.mono {g : Gc} {F F' : Hp} (e : Same F F') : ∀ {v : List (Str × V)} {d : List (Str × DV)}, RFf g F v d → RFf g F' v d
  | _, _, .nil => .nil
  | _, _, .cons h r => .cons (RF.mono e h) (RFf.mono e r)
end

/-! ### owned -/
mutual
inductive RO (g : Gc) (F H : Hp) : V → DV → List Addr → Prop
  | frz {v : V} {d : DV} : RF g F v d → RO g F H v d []
  | own {p : Addr} {vs : List V} {ds : List DV} {A : List Addr} : H p = some (.lst vs) → ROs g F H vs ds A → RO g F H (.ref p) (.own ds) (p :: A)
  | obj {p C dx : Addr} {c : Str} {fs : List (Str × V)} {ds : List (Str × DV)} {A : List Addr} : H p = some (.ins C dx fs) → g.cl c = some C → ROf g F H fs ds A → RO g F H (.ref p) (.obj c ds) (p :: A)
inductive ROs (g : Gc) (F H : Hp) : List V → List DV → List Addr → Prop
  | nil : ROs g F H [] [] []
  | cons {v : V} {d : DV} {A : List Addr} {vs : List V} {ds : List DV} {B : List Addr} : RO g F H v d A → ROs g F H vs ds B → ROs g F H (v :: vs) (d :: ds) (A ++ B)
inductive ROf (g : Gc) (F H : Hp) : List (Str × V) → List (Str × DV) → List Addr → Prop
  | nil : ROf g F H [] [] []
  | cons {n : Str} {v : V} {d : DV} {A : List Addr} {vs : List (Str × V)} {ds : List (Str × DV)} {B : List Addr} : RO g F H v d A → ROf g F H vs ds B → ROf g F H ((n, v) :: vs) ((n, d) :: ds) (A ++ B)
end

mutual
theorem RO.mono {g : Gc} {F F' H H' : Hp} (e : Same F F') : ∀ {v : V} {d : DV} {A : List Addr}, (∀ a ∈ A, H' a = H a) → RO g F H v d A → RO g F' H' v d A
  | _, _, _, _, .frz h => .frz (h.mono e)
  | _, _, _, k, .own h r => .own ((k _ (List.mem_cons_self ..)).trans h) (ROs.mono e (fun a ha => k a (List.mem_cons_of_mem _ ha)) r)
  | _, _, _, k, .obj h c r => .obj ((k _ (List.mem_cons_self ..)).trans h) c (ROf.mono e (fun a ha => k a (List.mem_cons_of_mem _ ha)) r)
theorem ROs.mono {g : Gc} {F F' H H' : Hp} (e : Same F F') : ∀ {v : List V} {d : List DV} {A : List Addr}, (∀ a ∈ A, H' a = H a) → ROs g F H v d A → ROs g F' H' v d A
  | _, _, _, _, .nil => .nil
  | _, _, _, k, .cons h r => .cons (RO.mono e (fun a ha => k a (List.mem_append_left _ ha)) h) (ROs.mono e (fun a ha => k a (List.mem_append_right _ ha)) r)
theorem ROf.mono {g : Gc} {F F' H H' : Hp} (e : Same F F') : ∀ {v : List (Str × V)} {d : List (Str × DV)} {A : List Addr}, (∀ a ∈ A, H' a = H a) → ROf g F H v d A → ROf g F' H' v d A
  | _, _, _, _, .nil => .nil
  | _, _, _, k, .cons h r => .cons (RO.mono e (fun a ha => k a (List.mem_append_left _ ha)) h) (ROf.mono e (fun a ha => k a (List.mem_append_right _ ha)) r)
end

/-! what is owned stands in the heap -/
mutual
theorem RO.there {g : Gc} {F H : Hp} : ∀ {v : V} {d : DV} {A : List Addr}, RO g F H v d A → ∀ a ∈ A, ∃ o, H a = some o
  | _, _, _, .frz _ => fun _ h => nomatch h
  | _, _, _, .own h r => fun a ha => (List.mem_cons.mp ha).elim (fun e => e ▸ ⟨_, h⟩) (ROs.there r a)
  | _, _, _, .obj h _ r => fun a ha => (List.mem_cons.mp ha).elim (fun e => e ▸ ⟨_, h⟩) (ROf.there r a)
theorem ROs.there {g : Gc} {F H : Hp} : ∀ {v : List V} {d : List DV} {A : List Addr}, ROs g F H v d A → ∀ a ∈ A, ∃ o, H a = some o
  | _, _, _, .nil => fun _ h => nomatch h
  | _, _, _, .cons h r => fun a ha => (List.mem_append.mp ha).elim (RO.there h a) (ROs.there r a)
theorem ROf.there {g : Gc} {F H : Hp} : ∀ {v : List (Str × V)} {d : List (Str × DV)} {A : List Addr}, ROf g F H v d A → ∀ a ∈ A, ∃ o, H a = some o
  | _, _, _, .nil => fun _ h => nomatch h
  | _, _, _, .cons h r => fun a ha => (List.mem_append.mp ha).elim (RO.there h a) (ROf.there r a)
end

/-! ### frozen or not -/
def isFrz : DV → Bool
  | .own _ => false
  | .obj _ _ => false
  | _ => true
mutual
def freeze : DV → DV
  | .own ds => .lst (freezes ds)
  | .obj c fs => .ins c (freezef fs)
  | .non => .non
  | .bl b => .bl b
  | .int i => .int i
  | .str x => .str x
  | .tup ds => .tup ds
  | .lst ds => .lst ds
  | .ins c fs => .ins c fs
  | .scr ds => .scr ds
  | .rng a b => .rng a b
  | .exc c fs => .exc c fs
def freezes : List DV → List DV
  | [] => []
  | d :: ds => freeze d :: freezes ds
def freezef : List (Str × DV) → List (Str × DV)
  | [] => []
  | (n, d) :: ds => (n, freeze d) :: freezef ds
end
theorem freezes_eq : ∀ ds : List DV, freezes ds = ds.map freeze
  | [] => by simp [freezes]
  | d :: ds => by simp [freezes, freezes_eq ds]
theorem RF.isFrz {g : Gc} {F : Hp} {v : V} {d : DV} (h : RF g F v d) : isFrz d = true := by cases h <;> rfl
theorem freeze_frz {d : DV} (h : isFrz d = true) : freeze d = d := by
  cases d <;> first | (simp [freeze]; done) | (simp [DL.isFrz] at h)
theorem RO.frz_inv {g : Gc} {F H : Hp} {v : V} {d : DV} {A : List Addr} (h : RO g F H v d A) (e : DL.isFrz d = true) : RF g F v d ∧ A = [] := by
  cases h with
  | frz h => exact ⟨h, rfl⟩
  | own => simp [DL.isFrz] at e
  | obj => simp [DL.isFrz] at e

/-- F with what stands at A in H -/
def ext (F H : Hp) (A : List Addr) : Hp := fun a => if a ∈ A then H a else F a
theorem ext_nil {F H : Hp} : ext F H [] = F := by funext a; simp [ext]
theorem ext_in {F H : Hp} {A : List Addr} {a : Addr} (h : a ∈ A) : ext F H A a = H a := by simp [ext, h]
theorem ext_out {F H : Hp} {A : List Addr} {a : Addr} (h : a ∉ A) : ext F H A a = F a := by simp [ext, h]
theorem ext_same {F H : Hp} {A : List Addr} (k : ∀ a ∈ A, F a = none) : Same F (ext F H A) := fun a o e => by
  rw [ext_out]
  · exact e
  · intro ha; rw [k a ha] at e; cases e
theorem ext_mono {F H : Hp} {A B : List Addr} (s : ∀ a ∈ A, a ∈ B) (k : ∀ a ∈ B, F a = none) : Same (ext F H A) (ext F H B) := fun a o e => by
  by_cases ha : a ∈ A
  · rw [ext_in ha] at e
    rw [ext_in (s a ha)]
    exact e
  · rw [ext_out ha] at e
    exact ext_same k a o e
theorem ext_sub {F H : Hp} {A : List Addr} (s : Same F H) : Same (ext F H A) H := fun a o e => by
  by_cases ha : a ∈ A
  · rw [ext_in ha] at e; exact e
  · rw [ext_out ha] at e; exact s a o e

mutual
theorem RO.freeze {g : Gc} {F H : Hp} : ∀ {v : V} {d : DV} {A : List Addr}, RO g F H v d A → (∀ a ∈ A, F a = none) → RF g (ext F H A) v (DL.freeze d)
  | _, _, _, .frz h, _ => by rw [freeze_frz h.isFrz, ext_nil]; exact h
  | _, _, _, .own (p := p) (A := A) h r, k => by
    unfold DL.freeze
    refine .lst ((ext_in (List.mem_cons_self ..)).trans h) (RFs.mono (ext_mono (fun a ha => List.mem_cons_of_mem _ ha) k) (ROs.freeze r fun a ha => k a (List.mem_cons_of_mem _ ha)))
  | _, _, _, .obj (p := p) (A := A) h c r, k => by
    unfold DL.freeze
    refine .ins ((ext_in (List.mem_cons_self ..)).trans h) c (RFf.mono (ext_mono (fun a ha => List.mem_cons_of_mem _ ha) k) (ROf.freeze r fun a ha => k a (List.mem_cons_of_mem _ ha)))
theorem ROs.freeze {g : Gc} {F H : Hp} : ∀ {v : List V} {d : List DV} {A : List Addr}, ROs g F H v d A → (∀ a ∈ A, F a = none) → RFs g (ext F H A) v (freezes d)
  | _, _, _, .nil, _ => by rw [freezes]; exact .nil
  | _, _, _, .cons (A := A) (B := B) h r, k => by
    rw [freezes]
    exact .cons (RF.mono (ext_mono (fun a ha => List.mem_append_left _ ha) k) (RO.freeze h fun a ha => k a (List.mem_append_left _ ha)))
      (RFs.mono (ext_mono (fun a ha => List.mem_append_right _ ha) k) (ROs.freeze r fun a ha => k a (List.mem_append_right _ ha)))
theorem ROf.freeze {g : Gc} {F H : Hp} : ∀ {v : List (Str × V)} {d : List (Str × DV)} {A : List Addr}, ROf g F H v d A → (∀ a ∈ A, F a = none) → RFf g (ext F H A) v (freezef d)
  | _, _, _, .nil, _ => by rw [freezef]; exact .nil
  | _, _, _, .cons (A := A) (B := B) h r, k => by
    rw [freezef]
    exact .cons (RF.mono (ext_mono (fun a ha => List.mem_append_left _ ha) k) (RO.freeze h fun a ha => k a (List.mem_append_left _ ha)))
      (RFf.mono (ext_mono (fun a ha => List.mem_append_right _ ha) k) (ROf.freeze r fun a ha => k a (List.mem_append_right _ ha)))
end
end DL
end
section
set_option maxHeartbeats 200000
namespace DL
open PySem L2

abbrev Slots := List (Option DV)

inductive RE (g : Gc) (F H : Hp) : St → Slots → List Addr → Prop
  | nil : RE g F H [] [] []
  | non {x : Option V} {σ : St} {env : Slots} {A : List Addr} : RE g F H σ env A → RE g F H (x :: σ) (none :: env) A
  | som {v : V} {d : DV} {A : List Addr} {σ : St} {env : Slots} {B : List Addr} : RO g F H v d A → RE g F H σ env B → RE g F H (some v :: σ) (some d :: env) (A ++ B)

theorem RE.mono {g : Gc} {F F' H H' : Hp} (e : Same F F') : ∀ {σ : St} {env : Slots} {A : List Addr}, (∀ a ∈ A, H' a = H a) → RE g F H σ env A → RE g F' H' σ env A
  | _, _, _, _, .nil => .nil
  | _, _, _, k, .non r => .non (RE.mono e k r)
  | _, _, _, k, .som h r => .som (RO.mono e (fun a ha => k a (List.mem_append_left _ ha)) h) (RE.mono e (fun a ha => k a (List.mem_append_right _ ha)) r)
theorem RE.there {g : Gc} {F H : Hp} : ∀ {σ : St} {env : Slots} {A : List Addr}, RE g F H σ env A → ∀ a ∈ A, ∃ o, H a = some o
  | _, _, _, .nil => fun _ h => nomatch h
  | _, _, _, .non r => RE.there r
  | _, _, _, .som h r => fun a ha => (List.mem_append.mp ha).elim (RO.there h a) (RE.there r a)
theorem RE.len {g : Gc} {F H : Hp} : ∀ {σ : St} {env : Slots} {A : List Addr}, RE g F H σ env A → σ.length = env.length
  | _, _, _, .nil => rfl
  | _, _, _, .non r => congrArg Nat.succ (RE.len r)
  | _, _, _, .som _ r => congrArg Nat.succ (RE.len r)
/-- what a slot holds, and what is left without it -/
theorem RE.get {g : Gc} {F H : Hp} : ∀ {σ : St} {env : Slots} {As : List Addr} {i : Nat} {d : DV}, RE g F H σ env As → env[i]? = some (some d) →
    ∃ v A B, σ[i]? = some (some v) ∧ RO g F H v d A ∧ RE g F H σ (env.set i none) B ∧ ∀ a, As.count a = A.count a + B.count a
  | _, _, _, _, _, .nil, h => by simp at h
  | _, _, _, 0, _, .non r, h => by simp at h
  | _, _, _, i + 1, _, .non r, h => by
    obtain ⟨v, A, B, h1, h2, h3, h4⟩ := RE.get (i := i) r (by simpa using h)
    exact ⟨v, A, B, by simpa using h1, h2, by simpa using RE.non h3, h4⟩
  | _, _, _, 0, _, .som (A := A) (B := B) hv r, h => by
    simp at h; subst h
    exact ⟨_, A, B, rfl, hv, .non r, fun a => List.count_append⟩
  | _, _, _, i + 1, _, .som (A := A0) (B := B0) hv r, h => by
    obtain ⟨v, A, B, h1, h2, h3, h4⟩ := RE.get (i := i) r (by simpa using h)
    exact ⟨v, A, A0 ++ B, by simpa using h1, h2, by simpa using RE.som hv h3, fun a => by rw [List.count_append, List.count_append, h4]; omega⟩
/-- a slot forgotten -/
theorem RE.forget {g : Gc} {F H : Hp} : ∀ {σ : St} {env : Slots} {As : List Addr} (i : Nat) (x : Option V), RE g F H σ env As → ∃ B, RE g F H (σ.set i x) (env.set i none) B ∧ ∀ a, B.count a ≤ As.count a
  | _, _, _, _, _, .nil => ⟨[], .nil, fun _ => Nat.le_refl _⟩
  | _, _, _, 0, x, .non r => ⟨_, .non r, fun _ => Nat.le_refl _⟩
  | _, _, _, i + 1, x, .non r => by
    obtain ⟨B, h1, h2⟩ := RE.forget i x r
    exact ⟨B, .non h1, h2⟩
  | _, _, _, 0, x, .som (A := A) hv r => ⟨_, .non r, fun a => by rw [List.count_append]; omega⟩
  | _, _, _, i + 1, x, .som (A := A) (B := B0) hv r => by
    obtain ⟨B, h1, h2⟩ := RE.forget i x r
    exact ⟨A ++ B, .som hv h1, fun a => by rw [List.count_append, List.count_append]; have := h2 a; omega⟩
/-- a slot filled -/
theorem RE.put {g : Gc} {F H : Hp} : ∀ {σ : St} {env : Slots} {As : List Addr} (i : Nat) {v : V} {d : DV} {A : List Addr}, RE g F H σ env As → RO g F H v d A →
    ∃ B, RE g F H (σ.set i (some v)) (env.set i (some d)) B ∧ ∀ a, B.count a ≤ A.count a + As.count a
  | _, _, _, _, _, _, _, .nil, _ => ⟨[], .nil, fun _ => by simp⟩
  | _, _, _, 0, _, _, _, .non r, h => ⟨_, .som h r, fun _ => by rw [List.count_append]; omega⟩
  | _, _, _, i + 1, _, _, _, .non r, h => by
    obtain ⟨B, h1, h2⟩ := RE.put i r h
    exact ⟨B, .non h1, h2⟩
  | _, _, _, 0, _, _, _, .som (A := A) hv r, h => ⟨_, .som h r, fun a => by rw [List.count_append, List.count_append]; omega⟩
  | _, _, _, i + 1, _, _, _, .som (A := A) (B := B0) hv r, h => by
    obtain ⟨B, h1, h2⟩ := RE.put i r h
    exact ⟨A ++ B, .som hv h1, fun a => by rw [List.count_append, List.count_append]; have := h2 a; omega⟩
/-- a slot filled again with what it holds -/
theorem RE.back {g : Gc} {F H : Hp} : ∀ {σ : St} {env : Slots} {As : List Addr} {i : Nat} {v : V} {d : DV} {A : List Addr}, RE g F H σ env As → σ[i]? = some (some v) → RO g F H v d A →
    ∃ B, RE g F H σ (env.set i (some d)) B ∧ ∀ a, B.count a ≤ A.count a + As.count a := by
  intro σ env As i v d A r e h
  obtain ⟨B, h1, h2⟩ := RE.put i r h
  have : σ.set i (some v) = σ := by
    apply List.ext_getElem?
    intro j
    by_cases hj : i = j
    · subst hj
      have hlt : i < σ.length := (List.getElem?_eq_some_iff.mp e).1
      rw [List.getElem?_set_self hlt, e]
    · rw [List.getElem?_set_ne hj]
  rw [this] at h1
  exact ⟨B, h1, h2⟩

theorem cpos {A : List Addr} {a : Addr} : a ∈ A ↔ 0 < A.count a := List.count_pos_iff.symm

/-- the state as expressions see it: F what is shared, A what the slots own -/
structure SA (g : Gc) (F : Hp) (As : List Addr) (σ : St) (H : Hp) (env : Slots) : Prop where
  fh : Same F H
  sl : RE g F H σ env As
  nd : ∀ a, As.count a ≤ 1
  fx : ∀ a ∈ As, F a = none

/-- a pure step: the heap grows, what is shared grows by new objects -/
structure Ext (F H F' H' : Hp) : Prop where
  hh : Same H H'
  ff : Same F F'
  fh : Same F' H'
  new : ∀ a o, F' a = some o → F a = none → H a = none
theorem Ext.refl {F H : Hp} (s : Same F H) : Ext F H F H := ⟨.refl _, .refl _, s, fun a o e n => by rw [n] at e; cases e⟩
theorem Ext.trans {F H F1 H1 F2 H2 : Hp} (a : Ext F H F1 H1) (b : Ext F1 H1 F2 H2) : Ext F H F2 H2 :=
  ⟨a.hh.trans b.hh, a.ff.trans b.ff, b.fh, fun x o e n => by
    cases q : F1 x with
    | some u => exact a.new x u q n
    | none => exact a.hh.free (b.new x o e q)⟩
/-- F with one object more -/
theorem Ext.lay {F H : Hp} {p : Addr} {o : HO} (s : Same F H) (n : H p = none) : Ext F H (upd F p o) (upd H p o) := by
  have nF : F p = none := s.free n
  refine ⟨fun a u e => ?_, fun a u e => ?_, fun a u e => ?_, fun a u e m => ?_⟩
  · rw [upd_ne (ne_of_none e n)]; exact e
  · rw [upd_ne (ne_of_none e nF)]; exact e
  · by_cases h : a = p
    · subst h; rw [upd_same] at e ⊢; exact e
    · rw [upd_ne h] at e ⊢; exact s a u e
  · by_cases h : a = p
    · subst h; exact n
    · rw [upd_ne h, m] at e; cases e
/-- the heap with one object more, nothing shared besides -/
theorem Ext.own {F H : Hp} {p : Addr} {o : HO} (s : Same F H) (n : H p = none) : Ext F H F (upd H p o) := by
  have k : Same H (upd H p o) := fun a u e => by rw [upd_ne (ne_of_none e n)]; exact e
  exact ⟨k, .refl _, s.trans k, fun a u e m => by rw [m] at e; cases e⟩

theorem RO.ext {g : Gc} {F H F' H' : Hp} {v : V} {d : DV} {A : List Addr} (x : Ext F H F' H') (r : RO g F H v d A) : RO g F' H' v d A :=
  r.mono x.ff fun a ha => by
    obtain ⟨o, ho⟩ := r.there a ha
    rw [ho]
    exact x.hh a o ho
theorem ROs.ext {g : Gc} {F H F' H' : Hp} {v : List V} {d : List DV} {A : List Addr} (x : Ext F H F' H') (r : ROs g F H v d A) : ROs g F' H' v d A :=
  r.mono x.ff fun a ha => by
    obtain ⟨o, ho⟩ := r.there a ha
    rw [ho]
    exact x.hh a o ho
/-- what is owned stays owned over a pure step -/
theorem Ext.apart {F H F' H' : Hp} {a : Addr} {o : HO} (x : Ext F H F' H') (h : H a = some o) (n : F a = none) : F' a = none := by
  cases q : F' a with
  | none => rfl
  | some u =>
    have := x.new a u q n
    rw [h] at this; cases this
theorem SA.ext {g : Gc} {F H F' H' : Hp} {As : List Addr} {σ : St} {env : Slots} (x : Ext F H F' H') (S : SA g F As σ H env) : SA g F' As σ H' env := by
  refine ⟨x.fh, S.sl.mono x.ff fun a ha => ?_, S.nd, fun a ha => ?_⟩
  · obtain ⟨o, ho⟩ := S.sl.there a ha
    rw [ho]
    exact x.hh a o ho
  · obtain ⟨o, ho⟩ := S.sl.there a ha
    exact x.apart ho (S.fx a ha)

/-- new and owned: apart from each other, from what is shared and from what stood at H -/
structure Fresh (F H : Hp) (A : List Addr) : Prop where
  nd : ∀ a, A.count a ≤ 1
  nF : ∀ a ∈ A, F a = none
  nH : ∀ a ∈ A, H a = none
theorem Fresh.nil {F H : Hp} : Fresh F H [] := ⟨fun _ => by simp, (fun _ h => nomatch h), (fun _ h => nomatch h)⟩
theorem Fresh.one {F H : Hp} {p : Addr} (s : Same F H) (n : H p = none) : Fresh F H [p] := by
  refine ⟨fun a => ?_, fun a h => ?_, fun a h => ?_⟩
  · rw [List.count_singleton]
    split <;> omega
  · have e : a = p := by simpa using h
    subst e; exact s.free n
  · have e : a = p := by simpa using h
    subst e; exact n

/-- an exception: its class's name, its fields -/
structure Exn where
  c : Str
  fs : List (Str × DV)
/-- what an expression comes to -/
inductive R (α : Type) where
  | ok (a : α) | ex (x : Exn) | stuck
def R.bind {α β : Type} (r : R α) (f : α → R β) : R β := match r with
  | .ok a => f a
  | .ex x => .ex x
  | .stuck => .stuck
/-- how it lies in the heap -/
def XOk (g : Gc) (F : Hp) (cls : Value) (dx : Option Addr) (x : Exn) : Prop :=
  ∃ C, cls = .ref C ∧ g.cl x.c = some C ∧ ((dx = none ∧ x.fs = []) ∨ ∃ d fs, dx = some d ∧ F d = some (.xd fs) ∧ RFf g F fs x.fs)

/-- the reading of an expression that gives a value to keep -/
def rdE (g : Gc) (W : WX) (f : Slots → R DV) : TE := fun σ H Q => ∃ F As env, SA g F As σ H env ∧ match f env with
  | .ok d => ∀ v F' H' A, Ext F H F' H' → Fresh F' H A → RO g F' H' v d A → Q v H'
  | .ex x => ∀ cls dx F' H', Ext F H F' H' → XOk g F' cls dx x → W cls dx σ H'
  | .stuck => False
/-- .. a value to look at -/
def rdV (g : Gc) (W : WX) (f : Slots → R DV) : TE := fun σ H Q => ∃ F As env, SA g F As σ H env ∧ match f env with
  | .ok d => ∀ v F' H' A, Ext F H F' H' → RO g F' H' v d A → Q v H'
  | .ex x => ∀ cls dx F' H', Ext F H F' H' → XOk g F' cls dx x → W cls dx σ H'
  | .stuck => False
/-- .. of a test -/
def rdT (g : Gc) (W : WX) (f : Slots → R Bool) : TT := fun σ H Q => ∃ F As env, SA g F As σ H env ∧ match f env with
  | .ok b => ∀ F' H', Ext F H F' H' → Q b H'
  | .ex x => ∀ cls dx F' H', Ext F H F' H' → XOk g F' cls dx x → W cls dx σ H'
  | .stuck => False
/-- .. of several expressions, each a value to keep (rdA) -/
def rdA (g : Gc) (W : WX) (f : Slots → R (List DV)) : TA := fun σ H Q => ∃ F As env, SA g F As σ H env ∧ match f env with
  | .ok ds => ∀ vs F' H' A, Ext F H F' H' → Fresh F' H A → ROs g F' H' vs ds A → Q vs H'
  | .ex x => ∀ cls dx F' H', Ext F H F' H' → XOk g F' cls dx x → W cls dx σ H'
  | .stuck => False
/-- .. several values to look at -/
def rdL (g : Gc) (W : WX) (f : Slots → R (List DV)) : TA := fun σ H Q => ∃ F As env, SA g F As σ H env ∧ match f env with
  | .ok ds => ∀ vs F' H' A, Ext F H F' H' → ROs g F' H' vs ds A → Q vs H'
  | .ex x => ∀ cls dx F' H', Ext F H F' H' → XOk g F' cls dx x → W cls dx σ H'
  | .stuck => False

structure DE (X : Cx) (Γ : Str → Option Addr) (W : WX) (e : Expr) (f : Slots → R DV) : Prop where
  pe : PE X e (rdE ⟨X.K, Γ⟩ W f)
structure DT (X : Cx) (Γ : Str → Option Addr) (W : WX) (e : Expr) (f : Slots → R DV) : Prop where
  pe : PE X e (rdV ⟨X.K, Γ⟩ W f)
structure DB (X : Cx) (Γ : Str → Option Addr) (W : WX) (e : Expr) (f : Slots → R Bool) : Prop where
  pt : PT X e (rdT ⟨X.K, Γ⟩ W f)
structure DA (X : Cx) (Γ : Str → Option Addr) (W : WX) (es : List Expr) (f : Slots → R (List DV)) : Prop where
  pa : PA X es (rdA ⟨X.K, Γ⟩ W f)
structure DK (X : Cx) (Γ : Str → Option Addr) (W : WX) (es : List Expr) (f : Slots → R (List DV)) : Prop where
  pa : PA X es (rdL ⟨X.K, Γ⟩ W f)

theorem pe_imp {X : Cx} {e : Expr} {t t' : TE} (h : PE X e t) (i : ∀ σ H Q, t' σ H Q → t σ H Q) : PE X e t' := ⟨fun pins s σ H Q I q => h.run pins s σ H Q I (i _ _ _ q)⟩
theorem pt_imp {X : Cx} {e : Expr} {t t' : TT} (h : PT X e t) (i : ∀ σ H Q, t' σ H Q → t σ H Q) : PT X e t' := ⟨fun pins s σ H Q I q => h.run pins s σ H Q I (i _ _ _ q)⟩
theorem pw_imp {X : Cx} {e : Expr} {t t' : TT} (h : PW X e t) (i : ∀ σ H Q, t' σ H Q → t σ H Q) : PW X e t' := ⟨fun wh pins s σ H Q I q => h.run wh pins s σ H Q I (i _ _ _ q)⟩
theorem pa_imp {X : Cx} {es : List Expr} {t t' : TA} (h : PA X es t) (i : ∀ σ H Q, t' σ H Q → t σ H Q) : PA X es t' := ⟨fun pos pins s σ H Q I q => h.run pos pins s σ H Q I (i _ _ _ q)⟩
theorem ps_imp {X : Cx} {st : Stmt} {t t' : TS} (h : PS X st t) (i : ∀ D σ H, t' D σ H → t D σ H) : PS X st t' := ⟨fun pins s σ H D I q => h.run pins s σ H D I (i _ _ _ q)⟩
theorem pss_imp {X : Cx} {st : List Stmt} {t t' : TS} (h : PSs X st t) (i : ∀ D σ H, t' D σ H → t D σ H) : PSs X st t' := ⟨fun pins s σ H D I q => h.run pins s σ H D I (i _ _ _ q)⟩

section
variable {X : Cx} {Γ : Str → Option Addr} {W : WX} {e a b : Expr} {f fa fb : Slots → R DV} {pos : Pos}

/-- looked at in place of kept -/
theorem DE.dt (h : DE X Γ W e f) : DT X Γ W e f := ⟨pe_imp h.pe fun σ H Q ⟨F, As, env, S, q⟩ => by
  refine ⟨F, As, env, S, ?_⟩
  cases hf : f env with
  | ok d => rw [hf] at q; exact fun v F' H' A x _ r => q v F' H' A x r
  | ex x => rw [hf] at q; exact q
  | stuck => rw [hf] at q; exact q⟩
/-- shared, so it may be kept -/
def fz (f : Slots → R DV) : Slots → R DV := fun env => (f env).bind fun d => if isFrz d then .ok d else .stuck
theorem DT.de (h : DT X Γ W e f) : DE X Γ W e (fz f) := ⟨pe_imp h.pe fun σ H Q ⟨F, As, env, S, q⟩ => by
  refine ⟨F, As, env, S, ?_⟩
  unfold fz at q
  cases hf : f env with
  | ok d =>
    rw [hf] at q
    by_cases hz : isFrz d = true
    · simp only [R.bind, hz, if_true] at q
      exact fun v F' H' A x r => q v F' H' [] x .nil (.frz (r.frz_inv hz).1)
    · simp only [R.bind, hz] at q
      exact q.elim
  | ex x => rw [hf] at q; exact q
  | stuck => rw [hf] at q; exact q⟩

/-! ### names, constants -/
def var (i : Nat) : Slots → R DV := fun env => match env[i]? with
  | some (some d) => .ok d
  | _ => .stuck
theorem dt_var (i : Nat) {x : Str} (hN : X.N[i]? = some x := by rfl) (hv : Vis X.env.scope x := by first | exact Or.inl rfl | exact Or.inr (Or.inl rfl) | exact Or.inr (Or.inr rfl)) (hd : (x == ("__debug__" : Str)) = false := by decide)
    (hcd : (x == ("__classdict__" : Str)) = false := by decide) : DT X Γ W (.Name x pos) (var i) := ⟨pe_imp (pe_var hN hv hd hcd) fun σ H Q ⟨F, As, env, S, q⟩ => by
  unfold var at q
  split at q
  · rename_i d hd
    split at hd
    · rename_i d' e
      cases hd
      obtain ⟨v, A, _, h1, h2, _⟩ := S.sl.get e
      exact ⟨v, h1, q v F H A (.refl S.fh) h2⟩
    · cases hd
  · rename_i x hd
    split at hd <;> cases hd
  · exact q.elim⟩
def cst (d : DV) : Slots → R DV := fun _ => .ok d
theorem de_c {v : V} {d : DV} (h : PE X e (tC v)) (r : ∀ g F, RF g F v d) : DE X Γ W e (cst d) := ⟨pe_imp h fun σ H Q ⟨F, As, env, S, q⟩ => q v F H [] (.refl S.fh) .nil (.frz (r _ _))⟩
theorem de_int {i : Int} {j : Nat} : DE X Γ W (.Constant (.int i) j pos) (cst (.int i)) := de_c pe_int fun _ _ => .int i
theorem de_bl {c : Bool} {j : Nat} : DE X Γ W (.Constant (.bool c) j pos) (cst (.bl c)) := de_c pe_bl fun _ _ => .bl c
theorem de_non {j : Nat} : DE X Γ W (.Constant .none j pos) (cst .non) := de_c pe_non fun _ _ => .non
theorem de_str {x : Str} {j : Nat} : DE X Γ W (.Constant (.str x) j pos) (cst (.str x)) := de_c pe_str fun _ _ => .str x
end
end DL
end
section
set_option maxHeartbeats 1000000
namespace DL
open PySem L2 PyProof.Rows

section
variable {g : Gc} {F H : Hp} {x : V} {A : List Addr}
theorem RO.int_inv {i : Int} (h : RO g F H x (.int i) A) : x = .int i := by
  obtain ⟨r, _⟩ := h.frz_inv rfl
  cases r; rfl
theorem RO.str_inv {i : Str} (h : RO g F H x (.str i) A) : x = .str i := by
  obtain ⟨r, _⟩ := h.frz_inv rfl
  cases r; rfl
theorem RO.bl_inv {i : Bool} (h : RO g F H x (.bl i) A) : x = .bl i := by
  obtain ⟨r, _⟩ := h.frz_inv rfl
  cases r; rfl
theorem RO.non_inv (h : RO g F H x .non A) : x = .non := by
  obtain ⟨r, _⟩ := h.frz_inv rfl
  cases r; rfl
theorem RO.tup_inv {ds : List DV} (h : RO g F H x (.tup ds) A) : ∃ p vs, x = .ref p ∧ SqT g.K F p vs ∧ RFs g F vs ds := by
  obtain ⟨r, _⟩ := h.frz_inv rfl
  cases r with
  | tup h1 h2 => exact ⟨_, _, rfl, h1, h2⟩
theorem RO.rng_inv {lo hi : Int} (h : RO g F H x (.rng lo hi) A) : ∃ p, x = .ref p ∧ F p = some (.rng lo hi) := by
  obtain ⟨r, _⟩ := h.frz_inv rfl
  cases r with
  | rng h1 => exact ⟨_, rfl, h1⟩
theorem RFs.ros : ∀ {vs : List V} {ds : List DV}, RFs g F vs ds → ROs g F H vs ds []
  | _, _, .nil => .nil
  | _, _, .cons h r => ROs.cons (A := []) (B := []) (.frz h) r.ros
theorem RFs.len : ∀ {vs : List V} {ds : List DV}, RFs g F vs ds → vs.length = ds.length
  | _, _, .nil => rfl
  | _, _, .cons h r => congrArg Nat.succ r.len
theorem ROs.len : ∀ {vs : List V} {ds : List DV} {A : List Addr}, ROs g F H vs ds A → vs.length = ds.length
  | _, _, _, .nil => rfl
  | _, _, _, .cons h r => congrArg Nat.succ r.len
theorem ROs.frz : ∀ {vs : List V} {ds : List DV} {A : List Addr}, ROs g F H vs ds A → ds.all isFrz = true → RFs g F vs ds ∧ A = []
  | _, _, _, .nil, _ => ⟨.nil, rfl⟩
  | _, _, _, .cons h r, e => by
    rw [List.all_cons, Bool.and_eq_true] at e
    obtain ⟨h1, h2⟩ := h.frz_inv e.1
    obtain ⟨r1, r2⟩ := r.frz e.2
    subst h2 r2
    exact ⟨.cons h1 r1, rfl⟩
theorem RFs.get : ∀ {vs : List V} {ds : List DV} {i : Nat} {d : DV}, RFs g F vs ds → ds[i]? = some d → ∃ v, vs[i]? = some v ∧ RF g F v d
  | _, _, _, _, .nil, e => by simp at e
  | _, _, 0, _, .cons h r, e => by simp at e; subst e; exact ⟨_, rfl, h⟩
  | _, _, i + 1, _, .cons h r, e => by
    obtain ⟨v, h1, h2⟩ := r.get (i := i) (by simpa using e)
    exact ⟨v, by simpa using h1, h2⟩
theorem RFs.at : ∀ {vs : List V} {ds : List DV} {i : Nat} {v : V}, RFs g F vs ds → vs[i]? = some v → ∃ d, ds[i]? = some d ∧ RF g F v d
  | _, _, _, _, .nil, e => by simp at e
  | _, _, 0, _, .cons h r, e => by simp at e; subst e; exact ⟨_, rfl, h⟩
  | _, _, i + 1, _, .cons h r, e => by
    obtain ⟨v, h1, h2⟩ := r.at (i := i) (by simpa using e)
    exact ⟨v, by simpa using h1, h2⟩
theorem ROs.get : ∀ {vs : List V} {ds : List DV} {A : List Addr} {i : Nat} {d : DV}, ROs g F H vs ds A → ds[i]? = some d → ∃ v B, vs[i]? = some v ∧ RO g F H v d B
  | _, _, _, _, _, .nil, e => by simp at e
  | _, _, _, 0, _, .cons h r, e => by simp at e; subst e; exact ⟨_, _, rfl, h⟩
  | _, _, _, i + 1, _, .cons h r, e => by
    obtain ⟨v, B, h1, h2⟩ := r.get (i := i) (by simpa using e)
    exact ⟨v, B, by simpa using h1, h2⟩
theorem RFs.append : ∀ {vs us : List V} {ds es : List DV}, RFs g F vs ds → RFs g F us es → RFs g F (vs ++ us) (ds ++ es)
  | _, _, _, _, .nil, r => r
  | _, _, _, _, .cons h r, q => .cons h (r.append q)
theorem RFs.take : ∀ {vs : List V} {ds : List DV} (n : Nat), RFs g F vs ds → RFs g F (vs.take n) (ds.take n)
  | _, _, 0, _ => .nil
  | _, _, _ + 1, .nil => .nil
  | _, _, n + 1, .cons h r => .cons h (r.take n)
theorem RFs.drop : ∀ {vs : List V} {ds : List DV} (n : Nat), RFs g F vs ds → RFs g F (vs.drop n) (ds.drop n)
  | _, _, 0, r => r
  | _, _, _ + 1, .nil => .nil
  | _, _, n + 1, .cons _ r => r.drop n
theorem RFs.rep {vs : List V} {ds : List DV} (r : RFs g F vs ds) : ∀ n, RFs g F (List.replicate n vs).flatten (List.replicate n ds).flatten
  | 0 => .nil
  | n + 1 => by
    rw [List.replicate_succ, List.replicate_succ, List.flatten_cons, List.flatten_cons]
    exact r.append (r.rep n)
theorem RFs.reverse {vs : List V} {ds : List DV} (r : RFs g F vs ds) : RFs g F vs.reverse ds.reverse := by
  induction r using RFs.rec (motive_1 := fun _ _ _ => True) (motive_3 := fun _ _ _ => True) with
  | nil => exact .nil
  | cons h r _ ih =>
    rw [List.reverse_cons, List.reverse_cons]
    exact ih.append (.cons h .nil)
  | _ => trivial
theorem RFs.ints : ∀ {vs : List V} {ns : List Int}, RFs g F vs (ns.map .int) → vs = ns.map .int
  | _, [], .nil => rfl
  | _, n :: ns, .cons h r => by
    cases h
    rw [List.map_cons, r.ints]
theorem RFs.ofInts : ∀ (ns : List Int), RFs g F (ns.map .int) (ns.map .int)
  | [] => .nil
  | n :: ns => .cons (.int n) (RFs.ofInts ns)
end

/-- the items of a list -/
def elems : DV → Option (List DV)
  | .lst ds => some ds
  | .own ds => some ds
  | _ => none
def big : Nat := 1000000
theorem big_le {n : Nat} (h : n ≤ big) : n ≤ sizeLine := Nat.le_trans h (by decide)
theorem big_lt {n : Nat} (h : n ≤ big) : n < sizeLine := Nat.lt_of_le_of_lt h (by decide)
theorem elems_inv {g : Gc} {F H : Hp} {x : V} {d : DV} {A : List Addr} {ds : List DV} (s : Same F H) (h : RO g F H x d A) (e : elems d = some ds) : ∃ p vs B, x = .ref p ∧ H p = some (.lst vs) ∧ ROs g F H vs ds B := by
  cases d with
  | lst zs =>
    cases e
    obtain ⟨r, _⟩ := h.frz_inv rfl
    cases r with
    | lst h1 h2 => exact ⟨_, _, _, rfl, s _ _ h1, h2.ros⟩
  | own zs =>
    cases e
    cases h with
    | frz r => cases r
    | own h1 h2 => exact ⟨_, _, _, rfl, h1, h2⟩
  | _ => cases e

/-- what is wanted of a value just made -/
abbrev Gv (g : Gc) (F H : Hp) (d : DV) (Q : VK) : Prop := ∀ v F' H' A, Ext F H F' H' → Fresh F' H A → RO g F' H' v d A → Q v H'
section
variable {g : Gc} {F H : Hp} {d : DV} {Q : VK} {v : V}
theorem Gv.frz (k : Gv g F H d Q) (s : Same F H) (r : RF g F v d) : Q v H := k v F H [] (.refl s) .nil (.frz r)
theorem Gv.own {vs : List V} {ds : List DV} (k : Gv g F H (.own ds) Q) (s : Same F H) (r : RFs g F vs ds) {l : Addr} (hl : H l = none) : Q (.ref l) (upd H l (.lst vs)) :=
  k _ F _ [l] (.own s hl) (.one s hl) (.own upd_same r.ros)
theorem Gv.tup {vs : List V} {ds : List DV} (k : Gv g F H (.tup ds) Q) (s : Same F H) (r : RFs g F vs ds) {l : Addr} (hl : H l = none) : Q (.ref l) (upd H l (.tup vs)) :=
  k _ _ _ [] (.lay s hl) .nil (.frz (.tup (.of upd_same) (r.mono (Ext.lay (o := .tup vs) s hl).ff)))
end
def lift {α : Type} : Option α → R α
  | some a => .ok a
  | none => .stuck

/-- an operation on two values that are looked at -/
def OpV (g : Gc) (r : R2) (h : DV → DV → Option DV) : Prop :=
  ∀ {F H : Hp} {x y : V} {dx dy d : DV} {A1 A2 : List Addr} {Q : VK}, Same F H → RO g F H x dx A1 → RO g F H y dy A2 → h dx dy = some d →
    Gv g F H d Q → r x y H Q
def op2 (h : DV → DV → Option DV) (fa fb : Slots → R DV) : Slots → R DV := fun env => (fa env).bind fun x => (fb env).bind fun y => lift (h x y)

section
variable {X : Cx} {Γ : Str → Option Addr} {W : WX} {e a b c : Expr} {f fa fb fc : Slots → R DV} {pos : Pos} {r r' : R2} {h h' : DV → DV → Option DV}

theorem rd2 (hv : OpV ⟨X.K, Γ⟩ r h) {σ : L2.St} {H : Hp} {Q : VK} (q : rdE ⟨X.K, Γ⟩ W (op2 h fa fb) σ H Q) : tOp r (rdV ⟨X.K, Γ⟩ W fa) (rdV ⟨X.K, Γ⟩ W fb) σ H Q := by
  obtain ⟨F, As, env, S, q⟩ := q
  refine ⟨F, As, env, S, ?_⟩
  unfold op2 at q
  cases ha : fa env with
  | stuck => rw [ha] at q; exact q
  | ex x => rw [ha] at q; exact q
  | ok dx =>
    rw [ha] at q
    intro x F1 H1 A1 x1 r1
    refine ⟨F1, As, env, S.ext x1, ?_⟩
    cases hb : fb env with
    | stuck => rw [hb] at q; exact q.elim
    | ex x => rw [hb] at q; exact fun cls dx F' H' x2 o => q cls dx F' H' (x1.trans x2) o
    | ok dy =>
      rw [hb] at q
      intro y F2 H2 A2 x2 r2
      cases hd : h dx dy with
      | none => simp only [R.bind, hd, lift] at q
      | some d =>
        simp only [R.bind, hd, lift] at q
        refine hv x2.fh (r1.ext x2) r2 hd fun v F' H' A x3 fr ro => q v F' H' A ((x1.trans x2).trans x3) ⟨fr.nd, fr.nF, fun a ha => (x1.trans x2).hh.free (fr.nH a ha)⟩ ro
theorem de_op {op : Operator} (ho : OpR X (binaryOp op) r) (hv : OpV ⟨X.K, Γ⟩ r h) (ha : DT X Γ W a fa) (hb : DT X Γ W b fb) : DE X Γ W (.BinOp a op b pos) (op2 h fa fb) :=
  ⟨pe_imp (pe_op ho ha.pe hb.pe) fun σ H Q q => rd2 hv q⟩
theorem de_cmp {op : CmpOp} (ho : OpR X (compareOp op) r) (hv : OpV ⟨X.K, Γ⟩ r h) (ha : DT X Γ W a fa) (hb : DT X Γ W b fb) (hm : behindInMarks op b = false := by first | exact nomark _ | rfl) : DE X Γ W (.Compare a [op] [b] pos) (op2 h fa fb) :=
  ⟨pe_imp (pe_cmpR ho ha.pe hb.pe hm) fun σ H Q q => rd2 hv q⟩

theorem OpV.or (h1 : OpV ⟨X.K, Γ⟩ r h) (h2 : OpV ⟨X.K, Γ⟩ r' h') : OpV ⟨X.K, Γ⟩ (fun x y H Q => r x y H Q ∨ r' x y H Q) (fun x y => match h x y with | some d => some d | none => h' x y) := by
  intro F H x y dx dy d A1 A2 Q s rx ry e k
  cases q : h dx dy with
  | some z =>
    simp only [q] at e
    cases e
    exact .inl (h1 s rx ry q k)
  | none =>
    simp only [q] at e
    exact .inr (h2 s rx ry e k)

/-! ### arithmetic -/
def addD : DV → DV → Option DV
  | .int i, .int j => some (.int (i + j))
  | .str x, .str y => if x.length + y.length ≤ big then some (.str (x ++ y)) else none
  | .tup xs, .tup ys => if xs.length + ys.length ≤ big then some (.tup (xs ++ ys)) else none
  | x, y => match elems x, elems y with
    | some xs, some ys => if (xs.all isFrz && ys.all isFrz) = true ∧ xs.length + ys.length ≤ big then some (.own (xs ++ ys)) else none
    | _, _ => none
theorem addD_lists {x y d : DV} {xs ys : List DV} (hx : elems x = some xs) (hy : elems y = some ys) (e : addD x y = some d) : (xs.all isFrz = true ∧ ys.all isFrz = true) ∧ xs.length + ys.length ≤ big ∧ d = .own (xs ++ ys) := by
  have e2 : (if (xs.all isFrz && ys.all isFrz) = true ∧ xs.length + ys.length ≤ big then some (DV.own (xs ++ ys)) else none) = some d := by
    cases x <;> first | (cases hx; done) | skip
    all_goals cases y <;> first | (cases hy; done) | skip
    all_goals cases hx; cases hy; exact e
  split at e2
  · rename_i c
    rw [Bool.and_eq_true] at c
    cases e2
    exact ⟨c.1, c.2, rfl⟩
  · cases e2
def rAddA (K : PySem.W.Frag) : R2 := fun x y H Q => (rI0 fun i j => .int (i + j)) x y H Q ∨ (∃ i j, x = .str i ∧ y = .str j ∧ i.length + j.length ≤ sizeLine ∧ Q (.str (i ++ j)) H) ∨ rCatA K x y H Q ∨ rCat x y H Q
theorem or_add : OpR X (binaryOp .Add) (rAddA X.K) := op_add.or (op_add_str.or (op_catA.or op_cat))
theorem ov_add : OpV ⟨X.K, Γ⟩ (rAddA X.K) addD := by
  intro F H x y dx dy d A1 A2 Q s rx ry e k
  have lists : ∀ xs ys, elems dx = some xs → elems dy = some ys → rAddA X.K x y H Q := fun xs ys hx hy => by
    obtain ⟨⟨z1, z2⟩, hz, rfl⟩ := addD_lists hx hy e
    obtain ⟨p, vs, B1, rfl, hp, r1⟩ := elems_inv s rx hx
    obtain ⟨q, us, B2, rfl, hq, r2⟩ := elems_inv s ry hy
    refine .inr (.inr (.inr ⟨p, q, vs, us, rfl, rfl, hp, hq, by rw [r1.len, r2.len]; exact big_le hz, fun l hl => ?_⟩))
    exact k.own s ((r1.frz z1).1.append (r2.frz z2).1) hl
  cases dx with
  | int i =>
    cases dy with
    | int j =>
      cases e
      cases rx.int_inv
      cases ry.int_inv
      exact .inl ⟨i, j, rfl, rfl, k.frz s (.int _)⟩
    | _ => cases e
  | str i =>
    cases dy with
    | str j =>
      have e : (if i.length + j.length ≤ big then some (DV.str (i ++ j)) else none) = some d := e
      split at e
      · rename_i c
        cases e
        cases rx.str_inv
        cases ry.str_inv
        exact .inr (.inl ⟨i, j, rfl, rfl, big_le c, k.frz s (.str _)⟩)
      · cases e
    | _ => cases e
  | tup xs =>
    cases dy with
    | tup ys =>
      have e : (if xs.length + ys.length ≤ big then some (DV.tup (xs ++ ys)) else none) = some d := e
      split at e
      · rename_i c
        cases e
        obtain ⟨p, vs, rfl, hp, r1⟩ := rx.tup_inv
        obtain ⟨q, us, rfl, hq, r2⟩ := ry.tup_inv
        refine .inr (.inr (.inl ⟨p, q, vs, us, rfl, rfl, sqT_same s hp, sqT_same s hq, by rw [r1.len, r2.len]; exact big_le c, fun z => ?_, fun _ z => ?_, fun _ _ l hl => k.tup s (r1.append r2) hl⟩))
        · subst z
          cases r1
          exact k.frz s (.tup hq r2)
        · subst z
          cases r2
          exact k.frz s (.tup hp (by rw [List.append_nil]; exact r1))
      · cases e
    | _ => cases e
  | lst xs =>
    cases dy with
    | lst ys => exact lists xs ys rfl rfl
    | own ys => exact lists xs ys rfl rfl
    | _ => cases e
  | own xs =>
    cases dy with
    | lst ys => exact lists xs ys rfl rfl
    | own ys => exact lists xs ys rfl rfl
    | _ => cases e
  | _ => cases dy <;> cases e
theorem de_add (ha : DT X Γ W a fa) (hb : DT X Γ W b fb) : DE X Γ W (.BinOp a .Add b pos) (op2 addD fa fb) := de_op or_add ov_add ha hb

/-- ints alone, under a condition -/
def intD (c : Int → Int → Bool) (f : Int → Int → DV) : DV → DV → Option DV
  | .int i, .int j => if c i j = true then some (f i j) else none
  | _, _ => none
theorem ov_int {C : Int → Int → Prop} {G : Int → Int → V} {c : Int → Int → Bool} {f : Int → Int → DV} (hc : ∀ i j, c i j = true → C i j) (hf : ∀ g F i j, RF g F (G i j) (f i j)) : OpV ⟨X.K, Γ⟩ (rI C G) (intD c f) := by
  intro F H x y dx dy d A1 A2 Q s rx ry e k
  cases dx with
  | int i =>
    cases dy with
    | int j =>
      have e : (if c i j = true then some (f i j) else none) = some d := e
      split at e
      · rename_i z
        cases e
        cases rx.int_inv
        cases ry.int_inv
        exact ⟨i, j, rfl, rfl, hc i j z, k.frz s (hf _ _ i j)⟩
      · cases e
    | _ => cases e
  | _ => cases dy <;> cases e
theorem ov_int0 {G : Int → Int → V} {f : Int → Int → DV} (hf : ∀ g F i j, RF g F (G i j) (f i j)) : OpV ⟨X.K, Γ⟩ (rI0 G) (intD (fun _ _ => true) f) := by
  intro F H x y dx dy d A1 A2 Q s rx ry e k
  cases dx with
  | int i =>
    cases dy with
    | int j =>
      cases e
      cases rx.int_inv
      cases ry.int_inv
      exact ⟨i, j, rfl, rfl, k.frz s (hf _ _ i j)⟩
    | _ => cases e
  | _ => cases dy <;> cases e
def subD : DV → DV → Option DV := intD (fun _ _ => true) fun i j => .int (i - j)
theorem de_sub (ha : DT X Γ W a fa) (hb : DT X Γ W b fb) : DE X Γ W (.BinOp a .Sub b pos) (op2 subD fa fb) := de_op op_sub (ov_int0 fun _ _ i j => .int (i - j)) ha hb
/-- a list by an int | two ints -/
def mulD : DV → DV → Option DV
  | .int i, .int j => if i.natAbs.log2 + j.natAbs.log2 < 1000000 then some (.int (i * j)) else none
  | x, .int j => match elems x with
    | some xs => if xs.all isFrz = true ∧ (-(2 ^ 63) ≤ j ∧ j < 2 ^ 63) ∧ xs.length * j.toNat ≤ big then some (.own (List.replicate j.toNat xs).flatten) else none
    | none => none
  | _, _ => none
theorem mulD_list {x d : DV} {xs : List DV} {j : Int} (hx : elems x = some xs) (e : mulD x (.int j) = some d) : xs.all isFrz = true ∧ (-(2 ^ 63) ≤ j ∧ j < 2 ^ 63) ∧ xs.length * j.toNat ≤ big ∧ d = .own (List.replicate j.toNat xs).flatten := by
  have e2 : (if xs.all isFrz = true ∧ (-(2 ^ 63) ≤ j ∧ j < 2 ^ 63) ∧ xs.length * j.toNat ≤ big then some (DV.own (List.replicate j.toNat xs).flatten) else none) = some d := by
    cases x <;> first | (cases hx; done) | (cases hx; exact e)
  split at e2
  · rename_i c
    cases e2
    exact ⟨c.1, c.2.1, c.2.2, rfl⟩
  · cases e2
theorem or_mul : OpR X (binaryOp .Mult) (fun x y H Q => (rI CMulW fun i j => .int (i * j)) x y H Q ∨ rRep x y H Q) := op_mulW.or op_rep
theorem ov_mul : OpV ⟨X.K, Γ⟩ (fun x y H Q => (rI CMulW fun i j => .int (i * j)) x y H Q ∨ rRep x y H Q) mulD := by
  intro F H x y dx dy d A1 A2 Q s rx ry e k
  cases dy with
  | int j =>
    cases ry.int_inv
    cases hx : elems dx with
    | some xs =>
      obtain ⟨z, h1, h2, rfl⟩ := mulD_list hx e
      obtain ⟨p, vs, B, rfl, hp, r1⟩ := elems_inv s rx hx
      refine .inr ⟨p, j, vs, rfl, rfl, hp, h1.1, h1.2, ?_, fun l hl => k.own s ((r1.frz z).1.rep _) hl⟩
      rw [r1.len]
      exact big_le h2
    | none =>
      cases dx with
      | int i =>
        have e : (if i.natAbs.log2 + j.natAbs.log2 < 1000000 then some (DV.int (i * j)) else none) = some d := e
        split at e
        · rename_i c
          cases e
          cases rx.int_inv
          exact .inl ⟨i, j, rfl, rfl, c, k.frz s (.int _)⟩
        · cases e
      | lst _ => cases hx
      | own _ => cases hx
      | _ => cases e
  | _ => cases dx <;> cases e
theorem de_mul (ha : DT X Γ W a fa) (hb : DT X Γ W b fb) : DE X Γ W (.BinOp a .Mult b pos) (op2 mulD fa fb) := de_op or_mul ov_mul ha hb
/-- floor: of a positive divisor, of a negative one -/
def fdivI (i j : Int) : Int := if 0 < j then i / j else i.fdiv j
def CDivA (_ j : Int) : Prop := j ≠ 0 ∧ j.natAbs.log2 < 9000
theorem op_fdivA : OpR X (binaryOp .FloorDiv) (rI CDivA fun i j => .int (fdivI i j)) := opI fun i j _ _ _ _ _ hc q => by
  refine floordiv_int hc.1 ?_ (.inl (PyProof.noPylong_of_log2 hc.2))
  unfold fdivI at q
  split at q
  · rw [Int.fdiv_eq_ediv_of_nonneg i (by omega)]; exact q
  · exact q
def divD : DV → DV → Option DV := intD (fun _ j => decide (j ≠ 0 ∧ j.natAbs.log2 < 9000)) fun i j => .int (fdivI i j)
theorem de_div (ha : DT X Γ W a fa) (hb : DT X Γ W b fb) : DE X Γ W (.BinOp a .FloorDiv b pos) (op2 divD fa fb) := de_op op_fdivA (ov_int (fun _ _ h => of_decide_eq_true h) fun _ _ _ _ => .int _) ha hb
def fmodI (i j : Int) : Int := if 0 < j then i % j else i.fmod j
theorem op_modA : OpR X (binaryOp .Mod) (rI (fun _ j => j ≠ 0) fun i j => .int (fmodI i j)) := opI fun i j _ _ _ _ _ hc q => by
  refine mod_int' hc ?_
  unfold fmodI at q
  split at q
  · rw [Int.fmod_eq_emod_of_nonneg i (by omega)]; exact q
  · exact q
def modD : DV → DV → Option DV := intD (fun _ j => decide (j ≠ 0)) fun i j => .int (fmodI i j)
theorem de_mod (ha : DT X Γ W a fa) (hb : DT X Γ W b fb) : DE X Γ W (.BinOp a .Mod b pos) (op2 modD fa fb) := de_op op_modA (ov_int (fun _ _ h => of_decide_eq_true h) fun _ _ _ _ => .int _) ha hb
def powD : DV → DV → Option DV := intD (fun i j => decide (0 ≤ j ∧ j ≤ 1000000 ∧ i.natAbs < 2 ^ 64)) fun i j => .int (i ^ j.toNat)
theorem de_pow (ha : DT X Γ W a fa) (hb : DT X Γ W b fb) : DE X Γ W (.BinOp a .Pow b pos) (op2 powD fa fb) := de_op op_pow (ov_int (fun _ _ h => of_decide_eq_true h) fun _ _ _ _ => .int _) ha hb

/-! ### order -/
/-- ints of a tuple -/
def intsOf : List DV → Option (List Int)
  | [] => some []
  | .int i :: r => (intsOf r).map (i :: ·)
  | _ => none
theorem intsOf_map : ∀ {ds : List DV} {ns : List Int}, intsOf ds = some ns → ds = ns.map .int
  | [], _, h => by cases h; rfl
  | .int i :: r, ns, h => by
    cases q : intsOf r with
    | none => simp [intsOf, q] at h
    | some ms =>
      simp [intsOf, q] at h
      subst h
      rw [List.map_cons, intsOf_map q]
  | .non :: _, _, h => by cases h
  | .bl _ :: _, _, h => by cases h
  | .str _ :: _, _, h => by cases h
  | .tup _ :: _, _, h => by cases h
  | .lst _ :: _, _, h => by cases h
  | .own _ :: _, _, h => by cases h
  | .ins _ _ :: _, _, h => by cases h
  | .obj _ _ :: _, _, h => by cases h
  | .scr _ :: _, _, h => by cases h
  | .rng _ _ :: _, _, h => by cases h
  | .exc _ _ :: _, _, h => by cases h
theorem intsOf_ofInts : ∀ (ns : List Int), intsOf (ns.map .int) = some ns
  | [] => rfl
  | n :: ns => by
    show (intsOf (ns.map .int)).map (n :: ·) = _
    rw [intsOf_ofInts ns]; rfl
def ltD : DV → DV → Option DV
  | .int i, .int j => some (.bl (decide (i < j)))
  | .tup xs, .tup ys => match intsOf xs, intsOf ys with
    | some ns, some ms => some (.bl (HT.lexLt ns ms))
    | _, _ => none
  | _, _ => none
theorem ov_lt : OpV ⟨X.K, Γ⟩ (fun x y H Q => (rI0 fun i j => .bl (decide (i < j))) x y H Q ∨ rLtT X.K x y H Q) ltD := by
  intro F H x y dx dy d A1 A2 Q s rx ry e k
  cases dx with
  | int i =>
    cases dy with
    | int j =>
      cases e
      cases rx.int_inv
      cases ry.int_inv
      exact .inl ⟨i, j, rfl, rfl, k.frz s (.bl _)⟩
    | _ => cases e
  | tup xs =>
    cases dy with
    | tup ys =>
      cases h1 : intsOf xs with
      | none => simp [ltD, h1] at e
      | some ns =>
        cases h2 : intsOf ys with
        | none => simp [ltD, h1, h2] at e
        | some ms =>
          simp [ltD, h1, h2] at e
          subst e
          obtain ⟨p, vs, rfl, hp, r1⟩ := rx.tup_inv
          obtain ⟨q, us, rfl, hq, r2⟩ := ry.tup_inv
          rw [intsOf_map h1] at r1
          rw [intsOf_map h2] at r2
          have e1 := r1.ints
          have e2 := r2.ints
          subst e1 e2
          exact .inr ⟨p, q, ns, ms, rfl, rfl, sqT_same s hp, sqT_same s hq, k.frz s (.bl _)⟩
    | _ => cases e
  | _ => cases dy <;> cases e
theorem de_lt (hu : X.A.units < cLine) (ha : DT X Γ W a fa) (hb : DT X Γ W b fb) : DE X Γ W (.Compare a [.Lt] [b] pos) (op2 ltD fa fb) := de_cmp (op_lt.or (op_ltT hu)) ov_lt ha hb
def leD : DV → DV → Option DV := intD (fun _ _ => true) fun i j => .bl (decide (i ≤ j))
def gtD : DV → DV → Option DV := intD (fun _ _ => true) fun i j => .bl (decide (j < i))
def geD : DV → DV → Option DV := intD (fun _ _ => true) fun i j => .bl (decide (j ≤ i))
theorem de_le (ha : DT X Γ W a fa) (hb : DT X Γ W b fb) : DE X Γ W (.Compare a [.LtE] [b] pos) (op2 leD fa fb) := de_cmp op_le (ov_int0 fun _ _ _ _ => .bl _) ha hb
theorem de_gt (ha : DT X Γ W a fa) (hb : DT X Γ W b fb) : DE X Γ W (.Compare a [.Gt] [b] pos) (op2 gtD fa fb) := de_cmp op_gt (ov_int0 fun _ _ _ _ => .bl _) ha hb
theorem de_ge (ha : DT X Γ W a fa) (hb : DT X Γ W b fb) : DE X Γ W (.Compare a [.GtE] [b] pos) (op2 geD fa fb) := de_cmp op_ge (ov_int0 fun _ _ _ _ => .bl _) ha hb

/-! ### == of data -/
mutual
def toPy : DV → Option PyData
  | .non => some .none
  | .bl b => some (.bool b)
  | .int i => some (.int i)
  | .str x => some (.str x)
  | .tup ds => (toPys ds).map .tuple
  | .lst ds => (toPys ds).map .list
  | .own ds => (toPys ds).map .list
  | .scr ds => (toPys ds).map .list
  | .ins _ _ => none
  | .obj _ _ => none
  | .rng _ _ => none
  | .exc _ _ => none
def toPys : List DV → Option (List PyData)
  | [] => some []
  | d :: ds => match toPy d, toPys ds with
    | some p, some ps => some (p :: ps)
    | _, _ => none
end
mutual
theorem RF.dp {g : Gc} {F : Hp} : ∀ {v : V} {d : DV} {p : PyData}, RF g F v d → toPy d = some p → Dp g.K F v p
  | _, _, _, .non, e => by simp [toPy] at e; subst e; exact .non
  | _, _, _, .bl b, e => by simp [toPy] at e; subst e; exact .bl b
  | _, _, _, .int b, e => by simp [toPy] at e; subst e; exact .int b
  | _, _, _, .str b, e => by simp [toPy] at e; subst e; exact .str b
  | _, _, _, .tup (ds := ds) h r, e => by
    simp only [toPy, Option.map_eq_some_iff] at e
    obtain ⟨ps, e1, rfl⟩ := e
    exact .tup h (RFs.dp r e1)
  | _, _, _, .lst h r, e => by
    simp only [toPy, Option.map_eq_some_iff] at e
    obtain ⟨ps, e1, rfl⟩ := e
    exact .lst (.of h) (RFs.dp r e1)
  | _, _, _, .scr h r, e => by
    simp only [toPy, Option.map_eq_some_iff] at e
    obtain ⟨ps, e1, rfl⟩ := e
    exact .lst h (RFs.dp r e1)
  | _, _, _, .rng h, e => by simp [toPy] at e
  | _, _, _, .ins _ _ _, e => by simp [toPy] at e
  | _, _, _, .exc _ _ _, e => by simp [toPy] at e
  | _, _, _, .excD _ _ _ _ _, e => by simp [toPy] at e
theorem RFs.dp {g : Gc} {F : Hp} : ∀ {v : List V} {d : List DV} {p : List PyData}, RFs g F v d → toPys d = some p → DpAll g.K F v p
  | _, _, _, .nil, e => by simp [toPys] at e; subst e; exact .nil
  | _, _, _, .cons (d := d) (ds := ds) h r, e => by
    cases q1 : toPy d with
    | none => simp [toPys, q1] at e
    | some p1 =>
      cases q2 : toPys ds with
      | none => simp [toPys, q1, q2] at e
      | some p2 =>
        simp [toPys, q1, q2] at e
        subst e
        exact .cons (RF.dp h q1) (RFs.dp r q2)
end
mutual
theorem Dp.same {K : PySem.W.Frag} {F H : Hp} (s : Same F H) : ∀ {v : V} {p : PyData}, Dp K F v p → Dp K H v p
  | _, _, .non => .non
  | _, _, .bl b => .bl b
  | _, _, .int b => .int b
  | _, _, .str b => .str b
  | _, _, .lst h r => .lst (sqL_same s h) (DpAll.same s r)
  | _, _, .tup h r => .tup (sqT_same s h) (DpAll.same s r)
theorem DpAll.same {K : PySem.W.Frag} {F H : Hp} (s : Same F H) : ∀ {v : List V} {p : List PyData}, DpAll K F v p → DpAll K H v p
  | _, _, .nil => .nil
  | _, _, .cons h r => .cons (Dp.same s h) (DpAll.same s r)
end
mutual
theorem RO.dp {g : Gc} {F H : Hp} (s : Same F H) : ∀ {v : V} {d : DV} {A : List Addr} {p : PyData}, RO g F H v d A → toPy d = some p → Dp g.K H v p
  | _, _, _, _, .frz h, e => Dp.same s (h.dp e)
  | _, _, _, _, .own h r, e => by
    simp only [toPy, Option.map_eq_some_iff] at e
    obtain ⟨ps, e1, rfl⟩ := e
    exact .lst (.of h) (ROs.dp s r e1)
  | _, _, _, _, .obj _ _ _, e => by simp [toPy] at e
theorem ROs.dp {g : Gc} {F H : Hp} (s : Same F H) : ∀ {v : List V} {d : List DV} {A : List Addr} {p : List PyData}, ROs g F H v d A → toPys d = some p → DpAll g.K H v p
  | _, _, _, _, .nil, e => by simp [toPys] at e; subst e; exact .nil
  | _, _, _, _, .cons (d := d) (ds := ds) h r, e => by
    cases q1 : toPy d with
    | none => simp [toPys, q1] at e
    | some p1 =>
      cases q2 : toPys ds with
      | none => simp [toPys, q1, q2] at e
      | some p2 =>
        simp [toPys, q1, q2] at e
        subst e
        exact .cons (RO.dp s h q1) (ROs.dp s r q2)
end
def eqB (x y : DV) : Option Bool := match toPy x, toPy y with
  | some p, some q => if SeqAt.shaped p && SeqAt.shaped q then some (PyData.eqv p q) else none
  | _, _ => none
theorem eqB_inv {x y : DV} {b : Bool} (h : eqB x y = some b) : ∃ p q, toPy x = some p ∧ toPy y = some q ∧ SeqAt.shaped p = true ∧ SeqAt.shaped q = true ∧ b = PyData.eqv p q := by
  unfold eqB at h
  cases h1 : toPy x with
  | none => simp [h1] at h
  | some p =>
    cases h2 : toPy y with
    | none => simp [h1, h2] at h
    | some q =>
      simp only [h1, h2] at h
      split at h
      · rename_i c
        rw [Bool.and_eq_true] at c
        cases h
        exact ⟨p, q, rfl, rfl, c.1, c.2, rfl⟩
      · cases h
def eqD (x y : DV) : Option DV := (eqB x y).map .bl
def neD (x y : DV) : Option DV := (eqB x y).map fun b => .bl (!b)
theorem ov_eq : OpV ⟨X.K, Γ⟩ (rEqD X.K) eqD := by
  intro F H x y dx dy d A1 A2 Q s rx ry e k
  simp only [eqD, Option.map_eq_some_iff] at e
  obtain ⟨b, e, rfl⟩ := e
  obtain ⟨p, q, h1, h2, h3, h4, rfl⟩ := eqB_inv e
  exact ⟨p, q, rx.dp s h1, ry.dp s h2, h3, h4, k.frz s (.bl _)⟩
theorem ov_ne : OpV ⟨X.K, Γ⟩ (rNeD X.K) neD := by
  intro F H x y dx dy d A1 A2 Q s rx ry e k
  simp only [neD, Option.map_eq_some_iff] at e
  obtain ⟨b, e, rfl⟩ := e
  obtain ⟨p, q, h1, h2, h3, h4, rfl⟩ := eqB_inv e
  exact ⟨p, q, rx.dp s h1, ry.dp s h2, h3, h4, k.frz s (.bl _)⟩
theorem de_eq (hu : X.A.units + 64 < cLine) (ha : DT X Γ W a fa) (hb : DT X Γ W b fb) : DE X Γ W (.Compare a [.Eq] [b] pos) (op2 eqD fa fb) := de_cmp (op_eqD hu) ov_eq ha hb
theorem de_ne (hu : X.A.units + 64 < cLine) (ha : DT X Γ W a fa) (hb : DT X Γ W b fb) : DE X Γ W (.Compare a [.NotEq] [b] pos) (op2 neD fa fb) := de_cmp (op_neD hu) ov_ne ha hb
end
end DL
end
section
set_option maxHeartbeats 1000000
namespace DL
open PySem L2 PyProof.Rows

/-! ### in -/
def flat : DV → Bool
  | .non => true
  | .bl _ => true
  | .int _ => true
  | .str _ => true
  | _ => false
def eqSc : DV → DV → Bool
  | .non, .non => true
  | .bl a, .bl b => a == b
  | .bl a, .int b => (if a then 1 else 0) == b
  | .int a, .bl b => a == (if b then 1 else 0)
  | .int a, .int b => a == b
  | .str a, .str b => a == b
  | _, _ => false
def itemsOf : DV → Option (List DV)
  | .lst ds => some ds
  | .own ds => some ds
  | .scr ds => some ds
  | .tup ds => some ds
  | _ => none
theorem items_inv {g : Gc} {F H : Hp} {x : V} {d : DV} {A : List Addr} {ds : List DV} (s : Same F H) (h : RO g F H x d A) (e : itemsOf d = some ds) : ∃ p vs B, x = .ref p ∧ (SqL g.K H p vs ∨ SqT g.K H p vs) ∧ ROs g F H vs ds B := by
  cases d with
  | lst zs =>
    cases e
    obtain ⟨r, _⟩ := h.frz_inv rfl
    cases r with
    | lst h1 h2 => exact ⟨_, _, _, rfl, .inl (.of (s _ _ h1)), h2.ros⟩
  | own zs =>
    cases e
    cases h with
    | frz r => cases r
    | own h1 h2 => exact ⟨_, _, _, rfl, .inl (.of h1), h2⟩
  | scr zs =>
    cases e
    obtain ⟨r, _⟩ := h.frz_inv rfl
    cases r with
    | scr h1 h2 => exact ⟨_, _, _, rfl, .inl (sqL_same s h1), h2.ros⟩
  | tup zs =>
    cases e
    obtain ⟨r, _⟩ := h.frz_inv rfl
    cases r with
    | tup h1 h2 => exact ⟨_, _, _, rfl, .inr (sqT_same s h1), h2.ros⟩
  | _ => cases e
theorem flat_frz {d : DV} (h : flat d = true) : isFrz d = true := by cases d <;> first | rfl | cases h
theorem flat_v {g : Gc} {F H : Hp} {x : V} {d : DV} {A : List Addr} (h : RO g F H x d A) (e : flat d = true) : flatV x = true := by
  obtain ⟨r, _⟩ := h.frz_inv (flat_frz e)
  cases r <;> first | rfl | cases e
theorem eqSc_v {g : Gc} {F H F' H' : Hp} {x y : V} {d e : DV} {A B : List Addr} (h1 : RO g F H x d A) (h2 : RO g F' H' y e B) (f1 : flat d = true) (f2 : flat e = true) : eqV x y = eqSc d e := by
  obtain ⟨r1, _⟩ := h1.frz_inv (flat_frz f1)
  obtain ⟨r2, _⟩ := h2.frz_inv (flat_frz f2)
  cases r1 <;> first | (cases f1; done) | (cases r2 <;> first | rfl | (cases f2; done))
theorem flats {g : Gc} {F H : Hp} : ∀ {vs : List V} {ds : List DV} {A : List Addr}, ROs g F H vs ds A → ds.all flat = true → vs.all flatV = true
  | _, _, _, .nil, _ => rfl
  | _, _, _, .cons h r, e => by
    rw [List.all_cons, Bool.and_eq_true] at e ⊢
    exact ⟨flat_v h e.1, flats r e.2⟩
theorem inV_eq {g : Gc} {F H : Hp} {x : V} {d : DV} {A : List Addr} (hx : RO g F H x d A) (fx : flat d = true) : ∀ {vs : List V} {ds : List DV} {B : List Addr}, ROs g F H vs ds B → ds.all flat = true → inV x vs = ds.any fun y => eqSc y d
  | _, _, _, .nil, _ => rfl
  | _, _, _, .cons h r, e => by
    rw [List.all_cons, Bool.and_eq_true] at e
    unfold inV
    rw [List.any_cons, List.any_cons, eqSc_v h hx e.1 fx]
    have := inV_eq hx fx r e.2
    unfold inV at this
    rw [this]
def inStr (x z : Str) : Option Bool := match x.cps.toList with
  | [c] => some (decide (c ∈ z.cps.toList))
  | _ => none
def inB (x c : DV) : Option Bool := match itemsOf c with
  | some xs => if (flat x && xs.all flat) = true then some (xs.any fun y => eqSc y x) else none
  | none => match x, c with
    | .int i, .rng lo hi => some (decide (lo ≤ i ∧ i < hi))
    | .str x, .str z => inStr x z
    | _, _ => none
def inD (x c : DV) : Option DV := (inB x c).map .bl
def niD (x c : DV) : Option DV := (inB x c).map fun b => .bl (!b)
def rInR : R2 := fun x y H Q => ∃ i a lo hi, x = V.int i ∧ y = V.ref a ∧ H a = some (.rng lo hi) ∧ Q (.bl (decide (lo ≤ i ∧ i < hi))) H
def rNiR : R2 := fun x y H Q => ∃ i a lo hi, x = V.int i ∧ y = V.ref a ∧ H a = some (.rng lo hi) ∧ Q (.bl (!decide (lo ≤ i ∧ i < hi))) H
def rInC : R2 := fun x y H Q => ∃ (c : Nat) (z : Str), x = .str ⟨#[c]⟩ ∧ y = .str z ∧ Q (.bl (decide (c ∈ z.cps.toList))) H
def rNiC : R2 := fun x y H Q => ∃ (c : Nat) (z : Str), x = .str ⟨#[c]⟩ ∧ y = .str z ∧ Q (.bl (!decide (c ∈ z.cps.toList))) H
def rInA (K : PySem.W.Frag) : R2 := fun x y H Q => rIn K false x y H Q ∨ rInR x y H Q ∨ rInC x y H Q
def rNiA (K : PySem.W.Frag) : R2 := fun x y H Q => rIn K true x y H Q ∨ rNiR x y H Q ∨ rNiC x y H Q
section
variable {X : Cx}
theorem op_notIn_rng : OpR X (compareOp .NotIn) rNiR := by
  intro pins s σ H x y v u Q I rx ry h
  obtain ⟨i, a, lo, hi, rfl, rfl, ha, q⟩ := h
  obtain ⟨k, rfl⟩ := rx
  obtain rfl : u = Value.ref a := ry
  obtain ⟨t1, t2, t3, ho⟩ := I.hok a _ ha
  show wpAny _ _ (do return Value.bool (!(← contains (Value.ref a) (Value.int i k)))) _ _ s
  refine wpAny_bind (wpAny_contains_slot (T := "range") ⟨_, ho, rfl⟩ F.slot_range_contains (call_meets F.slot_range_contains ⟨_, ho, rfl⟩ F.entry_range_contains (F.args_range_contains_2 _ _) (q_contains a lo hi i t1 t2 t3 k)
    ⟨ho, wpAny_truthy_bool (wpAny_pure ⟨.bl _, H, I, rfl, ?_⟩)⟩))
  rw [place1]
  exact q
theorem or_in : OpR X (compareOp .In) (rInA X.K) := op_in_seq.or (op_in_rng.or op_in_sign)
theorem or_ni : OpR X (compareOp .NotIn) (rNiA X.K) := op_notIn_seq.or (op_notIn_rng.or op_notIn_sign)
end
theorem inStr_inv {x z : Str} {b : Bool} (h : inStr x z = some b) : ∃ c, x = ⟨#[c]⟩ ∧ b = decide (c ∈ z.cps.toList) := by
  unfold inStr at h
  split at h
  · rename_i c hc
    cases h
    refine ⟨c, ?_, rfl⟩
    cases x with
    | mk a => cases a with
      | mk l => 
        have : l = [c] := hc
        subst this
        rfl
  · cases h
section
variable {X : Cx} {Γ : Str → Option Addr} {W : WX} {e a b c : Expr} {f fa fb fc : Slots → R DV} {pos : Pos}
theorem inB_cases {F H : Hp} {x y : V} {dx dy : DV} {A1 A2 : List Addr} {k : Bool} (s : Same F H) (rx : RO ⟨X.K, Γ⟩ F H x dx A1) (ry : RO ⟨X.K, Γ⟩ F H y dy A2) (e : inB dx dy = some k) :
    (∃ p xs, y = .ref p ∧ (SqL X.K H p xs ∨ SqT X.K H p xs) ∧ flatV x = true ∧ xs.all flatV = true ∧ k = inV x xs) ∨ (∃ i a lo hi, x = V.int i ∧ y = V.ref a ∧ H a = some (.rng lo hi) ∧ k = decide (lo ≤ i ∧ i < hi)) ∨
      (∃ (c : Nat) (z : Str), x = .str ⟨#[c]⟩ ∧ y = .str z ∧ k = decide (c ∈ z.cps.toList)) := by
  unfold inB at e
  cases hi : itemsOf dy with
  | some xs =>
    simp only [hi] at e
    split at e
    · rename_i c
      rw [Bool.and_eq_true] at c
      cases e
      obtain ⟨p, vs, B, rfl, h1, h2⟩ := items_inv s ry hi
      exact .inl ⟨p, vs, rfl, h1, flat_v rx c.1, flats h2 c.2, (inV_eq rx c.1 h2 c.2).symm⟩
    · cases e
  | none =>
    simp only [hi] at e
    split at e
    · cases e
      cases rx.int_inv
      obtain ⟨p, rfl, hp⟩ := ry.rng_inv
      exact .inr (.inl ⟨_, p, _, _, rfl, rfl, s _ _ hp, rfl⟩)
    · obtain ⟨c, rfl, rfl⟩ := inStr_inv e
      cases rx.str_inv
      cases ry.str_inv
      exact .inr (.inr ⟨c, _, rfl, rfl, rfl⟩)
    · cases e
theorem ov_in : OpV ⟨X.K, Γ⟩ (rInA X.K) inD := by
  intro F H x y dx dy d A1 A2 Q s rx ry e k
  simp only [inD, Option.map_eq_some_iff] at e
  obtain ⟨b, e, rfl⟩ := e
  have q := k.frz s (v := .bl b) (.bl b)
  rcases inB_cases s rx ry e with ⟨p, xs, rfl, h1, h2, h3, rfl⟩ | ⟨i, p, lo, hi, rfl, rfl, h, rfl⟩ | ⟨c, z, rfl, rfl, rfl⟩
  · exact .inl ⟨p, xs, rfl, h1, h2, h3, q⟩
  · exact .inr (.inl ⟨i, p, lo, hi, rfl, rfl, h, q⟩)
  · exact .inr (.inr ⟨c, z, rfl, rfl, q⟩)
theorem ov_ni : OpV ⟨X.K, Γ⟩ (rNiA X.K) niD := by
  intro F H x y dx dy d A1 A2 Q s rx ry e k
  simp only [niD, Option.map_eq_some_iff] at e
  obtain ⟨b, e, rfl⟩ := e
  have q := k.frz s (v := .bl (!b)) (.bl (!b))
  rcases inB_cases s rx ry e with ⟨p, xs, rfl, h1, h2, h3, rfl⟩ | ⟨i, p, lo, hi, rfl, rfl, h, rfl⟩ | ⟨c, z, rfl, rfl, rfl⟩
  · exact .inl ⟨p, xs, rfl, h1, h2, h3, q⟩
  · exact .inr (.inl ⟨i, p, lo, hi, rfl, rfl, h, q⟩)
  · exact .inr (.inr ⟨c, z, rfl, rfl, q⟩)
theorem de_in (ha : DT X Γ W a fa) (hb : DT X Γ W b fb) (hm : behindInMarks .In b = false := by rfl) : DE X Γ W (.Compare a [.In] [b] pos) (op2 inD fa fb) := de_cmp or_in ov_in ha hb hm
theorem de_ni (ha : DT X Γ W a fa) (hb : DT X Γ W b fb) (hm : behindInMarks .NotIn b = false := by rfl) : DE X Γ W (.Compare a [.NotIn] [b] pos) (op2 niD fa fb) := de_cmp or_ni ov_ni ha hb hm

/-! ### is -/
def isNon : DV → Bool
  | .non => true
  | _ => false
def isB (x y : DV) : Option Bool := match y with
  | .non => some (isNon x)
  | .bl b => match x with
    | .bl a => some (decide (a = b))
    | _ => none
  | _ => none
def isD (x y : DV) : Option DV := (isB x y).map .bl
def isnotD (x y : DV) : Option DV := (isB x y).map fun b => .bl (!b)
theorem isNon_v {g : Gc} {F H : Hp} {x : V} {d : DV} {A : List Addr} (h : RO g F H x d A) : decide (x = .non) = isNon d := by
  cases h with
  | frz r => cases r <;> rfl
  | own _ _ => rfl
  | obj _ _ _ => rfl
theorem ov_is : OpV ⟨X.K, Γ⟩ (fun x y H Q => (y = .non ∧ Q (.bl (decide (x = .non))) H) ∨ (∃ a b, x = .bl a ∧ y = .bl b ∧ Q (.bl (decide (a = b))) H)) isD := by
  intro F H x y dx dy d A1 A2 Q s rx ry e k
  simp only [isD, Option.map_eq_some_iff] at e
  obtain ⟨b, e, rfl⟩ := e
  have q := k.frz s (v := .bl b) (.bl b)
  cases dy with
  | non =>
    cases e
    cases ry.non_inv
    exact .inl ⟨rfl, by rw [isNon_v rx]; exact q⟩
  | bl c =>
    cases dx with
    | bl a =>
      cases e
      cases ry.bl_inv
      cases rx.bl_inv
      exact .inr ⟨a, c, rfl, rfl, q⟩
    | _ => cases e
  | _ => cases e
theorem ov_isnot : OpV ⟨X.K, Γ⟩ (fun x y H Q => (y = .non ∧ Q (.bl (!decide (x = .non))) H) ∨ (∃ a b, x = .bl a ∧ y = .bl b ∧ Q (.bl (!decide (a = b))) H)) isnotD := by
  intro F H x y dx dy d A1 A2 Q s rx ry e k
  simp only [isnotD, Option.map_eq_some_iff] at e
  obtain ⟨b, e, rfl⟩ := e
  have q := k.frz s (v := .bl (!b)) (.bl (!b))
  cases dy with
  | non =>
    cases e
    cases ry.non_inv
    exact .inl ⟨rfl, by rw [isNon_v rx]; exact q⟩
  | bl c =>
    cases dx with
    | bl a =>
      cases e
      cases ry.bl_inv
      cases rx.bl_inv
      exact .inr ⟨a, c, rfl, rfl, q⟩
    | _ => cases e
  | _ => cases e
theorem de_is (ha : DT X Γ W a fa) (hb : DT X Γ W b fb) : DE X Γ W (.Compare a [.Is] [b] pos) (op2 isD fa fb) := de_cmp (op_isN.or op_is_bl) ov_is ha hb
theorem de_isnot (ha : DT X Γ W a fa) (hb : DT X Γ W b fb) : DE X Γ W (.Compare a [.IsNot] [b] pos) (op2 isnotD fa fb) := de_cmp (op_notN.or op_isnot_bl) ov_isnot ha hb

/-! ### tests -/
def truB : DV → Option Bool
  | .non => some false
  | .bl b => some b
  | .int i => some (i != 0)
  | .str x => if x.length ≤ big then some (decide (x.length ≠ 0)) else none
  | .tup ds => some (!ds.isEmpty)
  | .lst ds => some (!ds.isEmpty)
  | .own ds => some (!ds.isEmpty)
  | .scr ds => some (!ds.isEmpty)
  | _ => none
theorem empty_len {α β : Type} {l : List α} {k : List β} (h : l.length = k.length) : l.isEmpty = k.isEmpty := by
  cases l <;> cases k <;> first | rfl | (simp at h)
theorem tru_v {g : Gc} {F H : Hp} {x : V} {d : DV} {A : List Addr} {b : Bool} (s : Same F H) (h : RO g F H x d A) (e : truB d = some b) : TruV g.K x H b := by
  cases d with
  | non => cases e; cases h.non_inv; rfl
  | bl c => cases e; cases h.bl_inv; rfl
  | int i => cases e; cases h.int_inv; rfl
  | str z =>
    have e : (if z.length ≤ big then some (decide (z.length ≠ 0)) else none) = some b := e
    split at e
    · rename_i c
      cases e
      cases h.str_inv
      refine ⟨big_le c, ?_⟩
      by_cases hz : z.length = 0 <;> simp [hz]
    · cases e
  | tup ds =>
    cases e
    obtain ⟨p, vs, rfl, hp, r⟩ := h.tup_inv
    exact .inr (.inl ⟨vs, sqT_same s hp, by rw [empty_len r.len]⟩)
  | lst ds =>
    cases e
    obtain ⟨p, vs, B, rfl, hp, r⟩ := elems_inv s h rfl
    exact .inl ⟨vs, .of hp, by rw [empty_len r.len]⟩
  | own ds =>
    cases e
    obtain ⟨p, vs, B, rfl, hp, r⟩ := elems_inv s h rfl
    exact .inl ⟨vs, .of hp, by rw [empty_len r.len]⟩
  | scr ds =>
    cases e
    obtain ⟨r, _⟩ := h.frz_inv rfl
    cases r with
    | scr h1 h2 => exact .inl ⟨_, sqL_same s h1, by rw [empty_len h2.len]⟩
  | _ => cases e
/-- the value of a test that is a bool | the truth of a value -/
def tst (f : Slots → R DV) : Slots → R Bool := fun env => (f env).bind fun d => match d with
  | .bl b => .ok b
  | _ => .stuck
def tru (f : Slots → R DV) : Slots → R Bool := fun env => (f env).bind fun d => lift (truB d)
theorem rdT_of {t : TE} {k : DV → R Bool} {KK : V → Hp → Bool → Prop} (hk : ∀ {F H v d A b}, Same F H → RO ⟨X.K, Γ⟩ F H v d A → k d = .ok b → KK v H b) (hx : ∀ d x, k d ≠ .ex x)
    {σ : L2.St} {H : Hp} {Q : Bool → Hp → Prop} (q : rdT ⟨X.K, Γ⟩ W (fun env => (f env).bind k) σ H Q) : rdV ⟨X.K, Γ⟩ W f σ H fun x H' => ∃ b, KK x H' b ∧ Q b H' := by
  obtain ⟨F, As, env, S, q⟩ := q
  refine ⟨F, As, env, S, ?_⟩
  dsimp only at q ⊢
  cases hf : f env with
  | stuck => rw [hf] at q; exact q
  | ex x => rw [hf] at q; exact q
  | ok d =>
    rw [hf] at q
    intro v F' H' A x r
    simp only [R.bind] at q
    cases hd : k d with
    | stuck => rw [hd] at q; exact q.elim
    | ex x => exact absurd hd (hx d x)
    | ok b =>
      rw [hd] at q
      exact ⟨b, hk x.fh r hd, q F' H' x⟩
theorem db_tru (ha : DT X Γ W a fa) (he : ∀ whole, isTrue a X.env whole = (do let v ← whole; standAt a.pos; holding [v] (truthy v)) := by intro _; rfl) : DB X Γ W a (tru fa) :=
  ⟨pt_imp (pt_truth ha.pe he) fun σ H Q q => rdT_of (t := fun _ _ _ => True) (k := fun d => lift (truB d)) (KK := fun v H b => TruV X.K v H b) (fun {F H v d A b} s r e => by
    cases hd : truB d with
    | none => rw [hd] at e; cases e
    | some c => rw [hd] at e; cases e; exact tru_v s r hd) (fun d x e => by cases hd : truB d <;> (rw [hd] at e; cases e)) q⟩
theorem db_cmp {op : CmpOp} {r : R2} {h : DV → DV → Option DV} (ho : OpR X (compareOp op) r) (hv : OpV ⟨X.K, Γ⟩ r h) (ha : DT X Γ W a fa) (hb : DT X Γ W b fb) (hm : behindInMarks op b = false := by first | exact nomark _ | rfl) :
    DB X Γ W (.Compare a [op] [b] pos) (tst (op2 h fa fb)) :=
  ⟨pt_imp (pt_cmpR ho ha.pe hb.pe hm) fun σ H Q q => by
    refine rd2 (h := h) hv ?_
    obtain ⟨F, As, env, S, q⟩ := q
    refine ⟨F, As, env, S, ?_⟩
    unfold tst at q
    cases hf : op2 h fa fb env with
    | stuck => rw [hf] at q; exact q
    | ex x => rw [hf] at q; exact q
    | ok d =>
      rw [hf] at q
      intro v F' H' A x _ r
      cases d with
      | bl b =>
        cases r.bl_inv
        exact ⟨b, rfl, q F' H' x⟩
      | _ => exact q.elim⟩
theorem db_lt (hu : X.A.units < cLine) (ha : DT X Γ W a fa) (hb : DT X Γ W b fb) : DB X Γ W (.Compare a [.Lt] [b] pos) (tst (op2 ltD fa fb)) := db_cmp (op_lt.or (op_ltT hu)) ov_lt ha hb
theorem db_le (ha : DT X Γ W a fa) (hb : DT X Γ W b fb) : DB X Γ W (.Compare a [.LtE] [b] pos) (tst (op2 leD fa fb)) := db_cmp op_le (ov_int0 fun _ _ _ _ => .bl _) ha hb
theorem db_gt (ha : DT X Γ W a fa) (hb : DT X Γ W b fb) : DB X Γ W (.Compare a [.Gt] [b] pos) (tst (op2 gtD fa fb)) := db_cmp op_gt (ov_int0 fun _ _ _ _ => .bl _) ha hb
theorem db_ge (ha : DT X Γ W a fa) (hb : DT X Γ W b fb) : DB X Γ W (.Compare a [.GtE] [b] pos) (tst (op2 geD fa fb)) := db_cmp op_ge (ov_int0 fun _ _ _ _ => .bl _) ha hb
theorem db_eq (hu : X.A.units + 64 < cLine) (ha : DT X Γ W a fa) (hb : DT X Γ W b fb) : DB X Γ W (.Compare a [.Eq] [b] pos) (tst (op2 eqD fa fb)) := db_cmp (op_eqD hu) ov_eq ha hb
theorem db_ne (hu : X.A.units + 64 < cLine) (ha : DT X Γ W a fa) (hb : DT X Γ W b fb) : DB X Γ W (.Compare a [.NotEq] [b] pos) (tst (op2 neD fa fb)) := db_cmp (op_neD hu) ov_ne ha hb
theorem db_in (ha : DT X Γ W a fa) (hb : DT X Γ W b fb) (hm : behindInMarks .In b = false := by rfl) : DB X Γ W (.Compare a [.In] [b] pos) (tst (op2 inD fa fb)) := db_cmp or_in ov_in ha hb hm
theorem db_ni (ha : DT X Γ W a fa) (hb : DT X Γ W b fb) (hm : behindInMarks .NotIn b = false := by rfl) : DB X Γ W (.Compare a [.NotIn] [b] pos) (tst (op2 niD fa fb)) := db_cmp or_ni ov_ni ha hb hm
theorem db_is (ha : DT X Γ W a fa) (hb : DT X Γ W b fb) : DB X Γ W (.Compare a [.Is] [b] pos) (tst (op2 isD fa fb)) := db_cmp (op_isN.or op_is_bl) ov_is ha hb
theorem db_isnot (ha : DT X Γ W a fa) (hb : DT X Γ W b fb) : DB X Γ W (.Compare a [.IsNot] [b] pos) (tst (op2 isnotD fa fb)) := db_cmp (op_notN.or op_isnot_bl) ov_isnot ha hb

variable {ba bb bc : Slots → R Bool} {rest : List Expr}
def andB (fa fb : Slots → R Bool) : Slots → R Bool := fun env => (fa env).bind fun c => if c = true then fb env else .ok false
def orB (fa fb : Slots → R Bool) : Slots → R Bool := fun env => (fa env).bind fun c => if c = true then .ok true else fb env
def notB (fa : Slots → R Bool) : Slots → R Bool := fun env => (fa env).bind fun c => .ok (!c)
structure DW (X : Cx) (Γ : Str → Option Addr) (W : WX) (e : Expr) (f : Slots → R Bool) : Prop where
  pw : PW X e (rdT ⟨X.K, Γ⟩ W f)
theorem DW.db (h : DW X Γ W e ba) : DB X Γ W e ba := ⟨h.pw.pt⟩
theorem dw_and1 (h : DB X Γ W a ba) : DW X Γ W (.BoolOp .And [a] pos) ba := ⟨pw_and1 h.pt⟩
theorem dw_or1 (h : DB X Γ W a ba) : DW X Γ W (.BoolOp .Or [a] pos) ba := ⟨pw_or1 h.pt⟩
/-- one test behind another -/
theorem rdT_seq {k : Bool → Slots → R Bool} {T : Bool → L2.St → Hp → (Bool → Hp → Prop) → Prop} (ht : ∀ c σ H Q, rdT ⟨X.K, Γ⟩ W (k c) σ H Q → T c σ H Q) {σ : L2.St} {H : Hp} {Q : Bool → Hp → Prop}
    (q : rdT ⟨X.K, Γ⟩ W (fun env => (ba env).bind fun c => k c env) σ H Q) : rdT ⟨X.K, Γ⟩ W ba σ H fun c H1 => T c σ H1 Q := by
  obtain ⟨F, As, env, S, q⟩ := q
  refine ⟨F, As, env, S, ?_⟩
  dsimp only at q ⊢
  cases hf : ba env with
  | stuck => rw [hf] at q; exact q
  | ex x => rw [hf] at q; exact q
  | ok c =>
    rw [hf] at q
    intro F1 H1 x1
    refine ht c σ H1 Q ⟨F1, As, env, S.ext x1, ?_⟩
    simp only [R.bind] at q
    cases hk : k c env with
    | stuck => rw [hk] at q; exact q
    | ex x => rw [hk] at q; exact fun cls dx F' H' x2 o => q cls dx F' H' (x1.trans x2) o
    | ok b => rw [hk] at q; exact fun F' H' x2 => q F' H' (x1.trans x2)
theorem rdT_ok {c : Bool} {σ : L2.St} {H : Hp} {Q : Bool → Hp → Prop} (q : rdT ⟨X.K, Γ⟩ W (fun _ => .ok c) σ H Q) : Q c H := by
  obtain ⟨F, As, env, S, q⟩ := q
  exact q F H (.refl S.fh)
theorem dw_and (ha : DB X Γ W a ba) (hb : DW X Γ W (.BoolOp .And (b :: rest) pos) bb) : DW X Γ W (.BoolOp .And (a :: b :: rest) pos) (andB ba bb) :=
  ⟨pw_imp (pw_and ha.pt hb.pw) fun σ H Q q => rdT_seq (k := fun c env => if c = true then bb env else .ok false) (T := fun c σ H Q => if c = true then rdT ⟨X.K, Γ⟩ W bb σ H Q else Q false H) (fun c σ H Q q => by
    cases c with
    | true => rw [if_pos rfl]; simp only [if_true] at q; exact q
    | false => rw [if_neg (by decide)]; simp only [Bool.false_eq_true, if_false] at q; exact rdT_ok q) q⟩
theorem dw_or (ha : DB X Γ W a ba) (hb : DW X Γ W (.BoolOp .Or (b :: rest) pos) bb) : DW X Γ W (.BoolOp .Or (a :: b :: rest) pos) (orB ba bb) :=
  ⟨pw_imp (pw_or ha.pt hb.pw) fun σ H Q q => rdT_seq (k := fun c env => if c = true then .ok true else bb env) (T := fun c σ H Q => if c = true then Q true H else rdT ⟨X.K, Γ⟩ W bb σ H Q) (fun c σ H Q q => by
    cases c with
    | true => rw [if_pos rfl]; simp only [if_true] at q; exact rdT_ok q
    | false => rw [if_neg (by decide)]; simp only [Bool.false_eq_true, if_false] at q; exact q) q⟩
theorem db_not (ha : DB X Γ W a ba) : DB X Γ W (.UnaryOp .Not a pos) (notB ba) :=
  ⟨pt_imp (pt_not ha.pt) fun σ H Q q => rdT_seq (k := fun c _ => .ok (!c)) (T := fun c σ H Q => Q (!c) H) (fun c σ H Q q => rdT_ok q) q⟩

/-! ### and, or, not, if as values -/
def notV (fa : Slots → R DV) : Slots → R DV := fun env => (fa env).bind fun d => lift ((truB d).map fun b => .bl (!b))
theorem de_not (ha : DT X Γ W a fa) : DE X Γ W (.UnaryOp .Not a pos) (notV fa) :=
  ⟨pe_imp (pe_notT ha.pe) fun σ H Q q => by
    obtain ⟨F, As, env, S, q⟩ := q
    refine ⟨F, As, env, S, ?_⟩
    unfold notV at q
    cases hf : fa env with
    | stuck => rw [hf] at q; exact q
    | ex x => rw [hf] at q; exact q
    | ok d =>
      rw [hf] at q
      intro v F' H' A x r
      cases hd : truB d with
      | none => simp only [R.bind, hd, Option.map_none, lift] at q
      | some b =>
        simp only [R.bind, hd, Option.map_some, lift] at q
        exact ⟨b, tru_v x.fh r hd, q _ F' H' [] x .nil (.frz (.bl _))⟩⟩
/-- one expression behind another -/
theorem rdE_seq {k : DV → Slots → R DV} {T : V → L2.St → Hp → VK → Prop} (ht : ∀ v d A F H' σ Q, Same F H' → RO ⟨X.K, Γ⟩ F H' v d A → rdE ⟨X.K, Γ⟩ W (k d) σ H' Q → T v σ H' Q) {σ : L2.St} {H : Hp} {Q : VK}
    (q : rdE ⟨X.K, Γ⟩ W (fun env => (fa env).bind fun c => k c env) σ H Q) : rdV ⟨X.K, Γ⟩ W fa σ H fun v H1 => T v σ H1 Q := by
  obtain ⟨F, As, env, S, q⟩ := q
  refine ⟨F, As, env, S, ?_⟩
  dsimp only at q ⊢
  cases hf : fa env with
  | stuck => rw [hf] at q; exact q
  | ex x => rw [hf] at q; exact q
  | ok d =>
    rw [hf] at q
    intro v F1 H1 A1 x1 r1
    refine ht v d A1 F1 H1 σ Q x1.fh r1 ⟨F1, As, env, S.ext x1, ?_⟩
    simp only [R.bind] at q
    cases hk : k d env with
    | stuck => rw [hk] at q; exact q
    | ex x => rw [hk] at q; exact fun cls dx F' H' x2 o => q cls dx F' H' (x1.trans x2) o
    | ok b => rw [hk] at q; exact fun v F' H' A x2 fr ro => q v F' H' A (x1.trans x2) ⟨fr.nd, fr.nF, fun a ha => x1.hh.free (fr.nH a ha)⟩ ro
theorem rdE_ok {d : DV} {v : V} {σ : L2.St} {H : Hp} {Q : VK} (r : ∀ g F, RF g F v d) (q : rdE ⟨X.K, Γ⟩ W (fun _ => .ok d) σ H Q) : Q v H := by
  obtain ⟨F, As, env, S, q⟩ := q
  exact q v F H [] (.refl S.fh) .nil (.frz (r _ _))
def andV (fa fb : Slots → R DV) : Slots → R DV := fun env => (fa env).bind fun d => match d with
  | .bl true => fb env
  | .bl false => .ok (.bl false)
  | _ => .stuck
def orV (fa fb : Slots → R DV) : Slots → R DV := fun env => (fa env).bind fun d => match d with
  | .bl true => .ok (.bl true)
  | .bl false => fb env
  | _ => .stuck
theorem rdE_no {σ : L2.St} {H : Hp} {Q : VK} (q : rdE ⟨X.K, Γ⟩ W (fun _ => .stuck) σ H Q) : False := by
  obtain ⟨F, As, env, S, q⟩ := q
  exact q
theorem de_one {op} (h : DE X Γ W a fa) : DE X Γ W (.BoolOp op [a] pos) fa := ⟨pe_one h.pe⟩
theorem de_and (ha : DT X Γ W a fa) (hb : DE X Γ W (.BoolOp .And (b :: rest) pos) fb) : DE X Γ W (.BoolOp .And (a :: b :: rest) pos) (andV fa fb) :=
  ⟨pe_imp (pe_and ha.pe hb.pe) fun σ H Q q => rdE_seq (k := fun d env => match d with | .bl true => fb env | .bl false => .ok (.bl false) | _ => .stuck)
    (T := fun x σ H1 Q => ∃ c, x = .bl c ∧ if c = true then rdE ⟨X.K, Γ⟩ W fb σ H1 Q else Q (.bl false) H1) (fun v d A F H' σ Q _ r q => by
      cases d with
      | bl c =>
        cases r.bl_inv
        refine ⟨c, rfl, ?_⟩
        cases c with
        | true => exact q
        | false => exact rdE_ok (fun _ _ => .bl false) q
      | _ => exact (rdE_no q).elim) q⟩
theorem de_or (ha : DT X Γ W a fa) (hb : DE X Γ W (.BoolOp .Or (b :: rest) pos) fb) : DE X Γ W (.BoolOp .Or (a :: b :: rest) pos) (orV fa fb) :=
  ⟨pe_imp (pe_or ha.pe hb.pe) fun σ H Q q => rdE_seq (k := fun d env => match d with | .bl true => .ok (.bl true) | .bl false => fb env | _ => .stuck)
    (T := fun x σ H1 Q => ∃ c, x = .bl c ∧ if c = true then Q (.bl true) H1 else rdE ⟨X.K, Γ⟩ W fb σ H1 Q) (fun v d A F H' σ Q _ r q => by
      cases d with
      | bl c =>
        cases r.bl_inv
        refine ⟨c, rfl, ?_⟩
        cases c with
        | true => exact rdE_ok (fun _ _ => .bl true) q
        | false => exact q
      | _ => exact (rdE_no q).elim) q⟩
def ifV (c : Slots → R Bool) (fa fb : Slots → R DV) : Slots → R DV := fun env => (c env).bind fun k => if k = true then fa env else fb env
theorem rdTE_seq {k : Bool → Slots → R DV} {T : Bool → L2.St → Hp → VK → Prop} (ht : ∀ c σ H Q, rdE ⟨X.K, Γ⟩ W (k c) σ H Q → T c σ H Q) {σ : L2.St} {H : Hp} {Q : VK}
    (q : rdE ⟨X.K, Γ⟩ W (fun env => (ba env).bind fun c => k c env) σ H Q) : rdT ⟨X.K, Γ⟩ W ba σ H fun c H1 => T c σ H1 Q := by
  obtain ⟨F, As, env, S, q⟩ := q
  refine ⟨F, As, env, S, ?_⟩
  dsimp only at q ⊢
  cases hf : ba env with
  | stuck => rw [hf] at q; exact q
  | ex x => rw [hf] at q; exact q
  | ok c =>
    rw [hf] at q
    intro F1 H1 x1
    refine ht c σ H1 Q ⟨F1, As, env, S.ext x1, ?_⟩
    simp only [R.bind] at q
    cases hk : k c env with
    | stuck => rw [hk] at q; exact q
    | ex x => rw [hk] at q; exact fun cls dx F' H' x2 o => q cls dx F' H' (x1.trans x2) o
    | ok b => rw [hk] at q; exact fun v F' H' A x2 fr ro => q v F' H' A (x1.trans x2) ⟨fr.nd, fr.nF, fun a ha => x1.hh.free (fr.nH a ha)⟩ ro
theorem de_if (hc : DB X Γ W c bc) (ha : DE X Γ W a fa) (hb : DE X Γ W b fb) : DE X Γ W (.IfExp c a b pos) (ifV bc fa fb) :=
  ⟨pe_imp (pe_ifExp hc.pt ha.pe hb.pe) fun σ H Q q => rdTE_seq (k := fun c env => if c = true then fa env else fb env) (T := fun c σ H Q => if c = true then rdE ⟨X.K, Γ⟩ W fa σ H Q else rdE ⟨X.K, Γ⟩ W fb σ H Q) (fun c σ H Q q => by
    cases c with
    | true => exact q
    | false => exact q) q⟩
def negV (fa : Slots → R DV) : Slots → R DV := fun env => (fa env).bind fun d => match d with
  | .int i => .ok (.int (-i))
  | _ => .stuck
theorem de_neg (ha : DT X Γ W a fa) : DE X Γ W (.UnaryOp .USub a pos) (negV fa) :=
  ⟨pe_imp (pe_un un_neg ha.pe) fun σ H Q q => rdE_seq (k := fun d env => match d with | .int i => .ok (.int (-i)) | _ => .stuck) (T := fun x σ H Q => (rU fun i => .int (-i)) x H Q) (fun v d A F H' σ Q _ r q => by
    cases d with
    | int i =>
      cases r.int_inv
      exact ⟨i, rfl, rdE_ok (fun _ _ => .int _) q⟩
    | _ => exact (rdE_no q).elim) q⟩
end
end DL
end
section
set_option maxHeartbeats 1000000
namespace DL
open PySem L2 PyProof.Rows
section
variable {X : Cx} {Γ : Str → Option Addr} {W : WX} {e a b c : Expr} {f fa fb fc : Slots → R DV} {pos : Pos} {es : List Expr} {fs : Slots → R (List DV)}

/-! ### argument lists -/
def nilL : Slots → R (List DV) := fun _ => .ok []
def consL (fa : Slots → R DV) (fs : Slots → R (List DV)) : Slots → R (List DV) := fun env => (fa env).bind fun d => (fs env).bind fun ds => .ok (d :: ds)
theorem dk_nil : DK X Γ W [] nilL := ⟨pa_imp pa_nil fun σ H Q ⟨F, As, env, S, q⟩ => q [] F H [] (.refl S.fh) .nil⟩
theorem dk_cons (ha : DT X Γ W e fa) (hr : DK X Γ W es fs) (hs : starEach (e :: es) X.env = (false, eval e X.env) :: starEach es X.env := by rfl) : DK X Γ W (e :: es) (consL fa fs) :=
  ⟨pa_imp (pa_cons ha.pe hr.pa hs) fun σ H Q ⟨F, As, env, S, q⟩ => by
    refine ⟨F, As, env, S, ?_⟩
    unfold consL at q
    cases hf : fa env with
    | stuck => rw [hf] at q; exact q
    | ex x => rw [hf] at q; exact q
    | ok d =>
      rw [hf] at q
      intro v F1 H1 A1 x1 r1
      refine ⟨F1, As, env, S.ext x1, ?_⟩
      simp only [R.bind] at q
      cases hg : fs env with
      | stuck => rw [hg] at q; exact q
      | ex x => rw [hg] at q; exact fun cls dx F' H' x2 o => q cls dx F' H' (x1.trans x2) o
      | ok ds =>
        rw [hg] at q
        exact fun vs F2 H2 A2 x2 r2 => q (v :: vs) F2 H2 _ (x1.trans x2) (.cons (r1.ext x2) r2)⟩
theorem da_nil : DA X Γ W [] nilL := ⟨pa_imp pa_nil fun σ H Q ⟨F, As, env, S, q⟩ => q [] F H [] (.refl S.fh) .nil .nil⟩
theorem Fresh.app {F H F1 H1 F2 H2 : Hp} {A1 A2 : List Addr} (x1 : Ext F H F1 H1) (x2 : Ext F1 H1 F2 H2) (h1 : Fresh F1 H A1) (t : ∀ a ∈ A1, ∃ o, H1 a = some o) (h2 : Fresh F2 H1 A2) : Fresh F2 H (A1 ++ A2) := by
  refine ⟨fun a => ?_, fun a ha => ?_, fun a ha => ?_⟩
  · rw [List.count_append]
    have n1 := h1.nd a
    have n2 := h2.nd a
    by_cases c1 : a ∈ A1
    · by_cases c2 : a ∈ A2
      · obtain ⟨o, ho⟩ := t a c1
        rw [h2.nH a c2] at ho; cases ho
      · have := List.count_eq_zero.mpr c2
        omega
    · have := List.count_eq_zero.mpr c1
      omega
  · rcases List.mem_append.mp ha with h | h
    · obtain ⟨o, ho⟩ := t a h
      exact x2.apart ho (h1.nF a h)
    · exact h2.nF a h
  · rcases List.mem_append.mp ha with h | h
    · exact h1.nH a h
    · exact x1.hh.free (h2.nH a h)
theorem da_cons (ha : DE X Γ W e fa) (hr : DA X Γ W es fs) (hs : starEach (e :: es) X.env = (false, eval e X.env) :: starEach es X.env := by rfl) : DA X Γ W (e :: es) (consL fa fs) :=
  ⟨pa_imp (pa_cons ha.pe hr.pa hs) fun σ H Q ⟨F, As, env, S, q⟩ => by
    refine ⟨F, As, env, S, ?_⟩
    unfold consL at q
    cases hf : fa env with
    | stuck => rw [hf] at q; exact q
    | ex x => rw [hf] at q; exact q
    | ok d =>
      rw [hf] at q
      intro v F1 H1 A1 x1 f1 r1
      refine ⟨F1, As, env, S.ext x1, ?_⟩
      simp only [R.bind] at q
      cases hg : fs env with
      | stuck => rw [hg] at q; exact q
      | ex x => rw [hg] at q; exact fun cls dx F' H' x2 o => q cls dx F' H' (x1.trans x2) o
      | ok ds =>
        rw [hg] at q
        exact fun vs F2 H2 A2 x2 f2 r2 => q (v :: vs) F2 H2 _ (x1.trans x2) (Fresh.app x1 x2 f1 r1.there f2) (.cons (r1.ext x2) r2)⟩

/-! ### displays -/
def tupV (fs : Slots → R (List DV)) : Slots → R DV := fun env => (fs env).bind fun ds => if ds.all isFrz = true ∧ ds.length ≤ big then .ok (.tup ds) else .stuck
def lstV (fs : Slots → R (List DV)) : Slots → R DV := fun env => (fs env).bind fun ds => if ds.length ≤ big then .ok (.own ds) else .stuck
/-- a value from several that are kept | that are looked at -/
theorem rdA_seq {k : List DV → R DV} {T : List V → Hp → VK → Prop} (hx : ∀ d x, k d ≠ .ex x)
    (ht : ∀ vs ds A F H' Q d, Same F H' → ROs ⟨X.K, Γ⟩ F H' vs ds A → (∀ a, A.count a ≤ 1) → (∀ a ∈ A, F a = none) → k ds = .ok d → (∀ v F' H2 B, Ext F H' F' H2 → (∀ a, B.count a ≤ 1) → (∀ a ∈ B, F' a = none ∧ (a ∈ A ∨ H' a = none)) → RO ⟨X.K, Γ⟩ F' H2 v d B → Q v H2) → T vs H' Q)
    {σ : L2.St} {H : Hp} {Q : VK} (q : rdE ⟨X.K, Γ⟩ W (fun env => (fs env).bind k) σ H Q) : rdA ⟨X.K, Γ⟩ W fs σ H fun vs H1 => T vs H1 Q := by
  obtain ⟨F, As, env, S, q⟩ := q
  refine ⟨F, As, env, S, ?_⟩
  dsimp only at q ⊢
  cases hf : fs env with
  | stuck => rw [hf] at q; exact q
  | ex x => rw [hf] at q; exact q
  | ok ds =>
    rw [hf] at q
    intro vs F1 H1 A1 x1 f1 r1
    simp only [R.bind] at q
    cases hk : k ds with
    | stuck => rw [hk] at q; exact q.elim
    | ex x => exact absurd hk (hx ds x)
    | ok d =>
      rw [hk] at q
      refine ht vs ds A1 F1 H1 Q d x1.fh r1 f1.nd f1.nF hk fun v F' H2 B x2 n1 n2 ro => q v F' H2 B (x1.trans x2) ⟨n1, fun a ha => (n2 a ha).1, fun a ha => ?_⟩ ro
      rcases (n2 a ha).2 with h | h
      · exact f1.nH a h
      · exact x1.hh.free h
theorem de_tup {k : Nat} (h : DA X Γ W es fs) : DE X Γ W (.Tuple es k pos) (tupV fs) :=
  ⟨pe_imp (pe_tup h.pa) fun σ H Q q => rdA_seq (k := fun ds => if ds.all isFrz = true ∧ ds.length ≤ big then .ok (.tup ds) else .stuck) (T := fun xs H1 Q => xs.length ≤ sizeLine ∧ ∀ p, H1 p = none → Q (.ref p) (upd H1 p (.tup xs)))
    (fun d x z => by split at z <;> cases z) (fun vs ds A F H' Q d s r n1 n2 e k => by
      split at e
      · rename_i c
        cases e
        obtain ⟨r1, rfl⟩ := r.frz c.1
        refine ⟨by rw [r.len]; exact big_le c.2, fun p hp => ?_⟩
        exact k _ _ _ [] (.lay s hp) (fun _ => by simp) (fun _ h => nomatch h) (.frz (.tup (.of upd_same) (r1.mono (Ext.lay (o := .tup vs) s hp).ff)))
      · cases e) q⟩
theorem de_lst (h : DA X Γ W es fs) : DE X Γ W (.List es pos) (lstV fs) :=
  ⟨pe_imp (pe_lst h.pa) fun σ H Q q => rdA_seq (k := fun ds => if ds.length ≤ big then .ok (.own ds) else .stuck) (T := fun xs H1 Q => xs.length ≤ sizeLine ∧ ∀ p, H1 p = none → Q (.ref p) (upd H1 p (.lst xs)))
    (fun d x z => by split at z <;> cases z) (fun vs ds A F H' Q d s r n1 n2 e k => by
      split at e
      · rename_i c
        cases e
        refine ⟨by rw [r.len]; exact big_le c, fun p hp => ?_⟩
        have hp' : p ∉ A := fun h => by
          obtain ⟨o, ho⟩ := r.there p h
          rw [hp] at ho; cases ho
        refine k _ F _ (p :: A) (.own s hp) (fun a => ?_) (fun a ha => ?_) (.own upd_same (r.ext (.own s hp)))
        · rw [List.count_cons]
          have := n1 a
          by_cases h : p = a
          · subst h
            have := List.count_eq_zero.mpr hp'
            simp
            omega
          · simp [h]
            omega
        · rcases List.mem_cons.mp ha with h | h
          · subst h; exact ⟨s.free hp, .inr hp⟩
          · exact ⟨n2 a h, .inl h⟩
      · cases e) q⟩

/-! ### items -/
/-- the item at an index -/
def ixD (x i : DV) : Option DV := match x, i with
  | .str z, .int i => if z.length ≤ big then (atI z.cps.toList i).map fun c => .str ⟨#[c]⟩ else none
  | x, .int i => (itemsOf x).bind fun ds => atI ds i
  | _, _ => none
theorem at_len {α β : Type} {xs : List α} {ys : List β} (h : xs.length = ys.length) {i : Int} {d : β} (e : atI ys i = some d) : ∃ j : Nat, ys[j]? = some d ∧ (∀ v, xs[j]? = some v → atI xs i = some v) := by
  unfold atI at e ⊢
  rw [h]
  cases q : ixN ys.length i with
  | none => rw [q] at e; cases e
  | some j =>
    rw [q] at e
    exact ⟨j, e, fun v hv => hv⟩
theorem dt_ix (ha : DT X Γ W a fa) (hb : DT X Γ W b fb) (hs : PlainIx b := by intro _ _; rfl) : DT X Γ W (.Subscript a b pos) (op2 ixD fa fb) :=
  ⟨pe_imp (pe_ix ix_seq ha.pe hb.pe hs) fun σ H Q ⟨F, As, env, S, q⟩ => by
    refine ⟨F, As, env, S, ?_⟩
    unfold op2 at q
    cases ha : fa env with
    | stuck => rw [ha] at q; exact q
    | ex x => rw [ha] at q; exact q
    | ok dx =>
      rw [ha] at q
      intro x F1 H1 A1 x1 r1
      refine ⟨F1, As, env, S.ext x1, ?_⟩
      simp only [R.bind] at q
      cases hb : fb env with
      | stuck => rw [hb] at q; exact q.elim
      | ex x => rw [hb] at q; exact fun cls dx F' H' x2 o => q cls dx F' H' (x1.trans x2) o
      | ok dy =>
        rw [hb] at q
        intro y F2 H2 A2 x2 r2
        simp only [lift] at q
        cases hd : ixD dx dy with
        | none => rw [hd] at q; exact q.elim
        | some d =>
          rw [hd] at q
          have k := fun v B (r : RO ⟨X.K, Γ⟩ F2 H2 v d B) => q v F2 H2 B (x1.trans x2) r
          have r1 := r1.ext x2
          have seqs : ∀ ds i, itemsOf dx = some ds → dy = .int i → atI ds i = some d → rIx X.K x y H2 Q := fun ds i h1 h2 h3 => by
            subst h2
            cases r2.int_inv
            obtain ⟨p, vs, B, rfl, hp, rr⟩ := items_inv x2.fh r1 h1
            obtain ⟨j, e1, e2⟩ := at_len rr.len h3
            obtain ⟨v, B', e3, e4⟩ := rr.get e1
            rcases hp with hp | hp
            · exact .inl ⟨p, vs, i, v, rfl, rfl, hp, e2 v e3, k v B' e4⟩
            · exact .inr (.inl ⟨p, vs, i, v, rfl, rfl, hp, e2 v e3, k v B' e4⟩)
          cases dx with
          | str z =>
            cases dy with
            | int i =>
              have hd : (if z.length ≤ big then (atI z.cps.toList i).map fun c => DV.str ⟨#[c]⟩ else none) = some d := hd
              split at hd
              · rename_i hz
                rw [Option.map_eq_some_iff] at hd
                obtain ⟨c, hc, rfl⟩ := hd
                cases r1.str_inv
                cases r2.int_inv
                exact .inr (.inr ⟨z, i, c, rfl, rfl, big_le hz, hc, k _ [] (.frz (.str _))⟩)
              · cases hd
            | _ => cases hd
          | lst ds =>
            cases dy with
            | int i => exact seqs ds i rfl rfl hd
            | _ => cases hd
          | own ds =>
            cases dy with
            | int i => exact seqs ds i rfl rfl hd
            | _ => cases hd
          | scr ds =>
            cases dy with
            | int i => exact seqs ds i rfl rfl hd
            | _ => cases hd
          | tup ds =>
            cases dy with
            | int i => exact seqs ds i rfl rfl hd
            | _ => cases hd
          | _ => cases dy <;> cases hd⟩

/-! ### slices -/
structure DO (X : Cx) (Γ : Str → Option Addr) (W : WX) (o : Option Expr) (f : Slots → R (Option Int)) : Prop where
  po : PO X o fun σ H Q => ∃ F As env, SA ⟨X.K, Γ⟩ F As σ H env ∧ match f env with
    | .ok i => ∀ F' H', Ext F H F' H' → Q i H'
    | .ex x => ∀ cls dx F' H', Ext F H F' H' → XOk ⟨X.K, Γ⟩ F' cls dx x → W cls dx σ H'
    | .stuck => False
theorem po_imp {o : Option Expr} {t t' : TO} (h : PO X o t) (i : ∀ σ H Q, t' σ H Q → t σ H Q) : PO X o t' := ⟨fun pins s σ H Q I q => h.run pins s σ H Q I (i _ _ _ q)⟩
def noPart : Slots → R (Option Int) := fun _ => .ok none
def part (fa : Slots → R DV) : Slots → R (Option Int) := fun env => (fa env).bind fun d => match d with
  | .int i => .ok (some i)
  | _ => .stuck
theorem do_none : DO X Γ W none noPart := ⟨po_imp po_none fun σ H Q ⟨F, As, env, S, q⟩ => q F H (.refl S.fh)⟩
theorem do_some (h : DT X Γ W a fa) : DO X Γ W (some a) (part fa) := ⟨po_imp (po_some h.pe) fun σ H Q ⟨F, As, env, S, q⟩ => by
  refine ⟨F, As, env, S, ?_⟩
  unfold part at q
  cases ha : fa env with
  | stuck => rw [ha] at q; exact q
  | ex x => rw [ha] at q; exact q
  | ok dx =>
    rw [ha] at q
    intro x F1 H1 A1 x1 r1
    simp only [R.bind] at q
    cases dx with
    | int i =>
      cases r1.int_inv
      exact ⟨i, rfl, q F1 H1 x1⟩
    | _ => exact q.elim⟩
def cutL {α : Type} (xs : List α) (lo hi : Option Int) : List α := (xs.drop (HT.sIx xs.length 0 lo)).take (HT.sIx xs.length xs.length hi - HT.sIx xs.length 0 lo)
theorem cutL_v (xs : List V) (lo hi : Option Int) : cutV xs lo hi = cutL xs lo hi := rfl
theorem RFs.cut {g : Gc} {F : Hp} {vs : List V} {ds : List DV} (r : RFs g F vs ds) (lo hi : Option Int) : RFs g F (cutV vs lo hi) (cutL ds lo hi) := by
  unfold cutV cutL
  rw [r.len]
  exact (r.drop _).take _
def cutD (x : DV) (lo hi : Option Int) : Option DV := match x with
  | .str z => if z.length ≤ big then some (.str (cutS z lo hi)) else none
  | .tup ds => some (.tup (cutL ds lo hi))
  | .lst ds => some (.own (cutL ds lo hi))
  | .own ds => if ds.all isFrz = true then some (.own (cutL ds lo hi)) else none
  | .scr ds => some (.own (cutL ds lo hi))
  | _ => none
def rCutA (K : PySem.W.Frag) : V → Option Int → Option Int → Hp → VK → Prop := fun x lo hi H Q => rSlA K x lo hi H Q ∨ rSlL K x lo hi H Q ∨ rSlS x lo hi H Q
theorem sl_any : SlR X (rCutA X.K) := sl_tupA.or (sl_list.or sl_str)
theorem cut_whole {ds : List DV} {lo hi : Option Int} (h : HT.sIx ds.length 0 lo = 0 ∧ HT.sIx ds.length ds.length hi = ds.length) : cutL ds lo hi = ds := by
  unfold cutL
  rw [h.1, h.2]
  simp
theorem cut_ok {F H : Hp} {x : V} {dx d : DV} {A : List Addr} {lo hi : Option Int} {Q : VK} (s : Same F H) (r : RO ⟨X.K, Γ⟩ F H x dx A) (e : cutD dx lo hi = some d) (k : Gv ⟨X.K, Γ⟩ F H d Q) : rCutA X.K x lo hi H Q := by
  cases dx with
  | str z =>
    have e : (if z.length ≤ big then some (DV.str (cutS z lo hi)) else none) = some d := e
    split at e
    · rename_i hz
      cases e
      cases r.str_inv
      exact .inr (.inr ⟨z, rfl, big_le hz, k.frz s (.str _)⟩)
    · cases e
  | tup ds =>
    cases e
    obtain ⟨p, vs, rfl, hp, rr⟩ := r.tup_inv
    refine .inl ⟨p, vs, rfl, sqT_same s hp, fun hw => ?_, fun _ l hl => k.tup s (rr.cut lo hi) hl⟩
    rw [rr.len] at hw
    rw [cut_whole hw] at k
    exact k.frz s (.tup hp rr)
  | lst ds =>
    cases e
    obtain ⟨rf, _⟩ := r.frz_inv rfl
    cases rf with
    | lst h1 h2 => exact .inr (.inl ⟨_, _, rfl, .of (s _ _ h1), fun l hl => k.own s (h2.cut lo hi) hl⟩)
  | scr ds =>
    cases e
    obtain ⟨rf, _⟩ := r.frz_inv rfl
    cases rf with
    | scr h1 h2 => exact .inr (.inl ⟨_, _, rfl, sqL_same s h1, fun l hl => k.own s (h2.cut lo hi) hl⟩)
  | own ds =>
    have e : (if ds.all isFrz = true then some (DV.own (cutL ds lo hi)) else none) = some d := e
    split at e
    · rename_i hz
      cases e
      obtain ⟨p, vs, B, rfl, hp, rr⟩ := elems_inv s r rfl
      exact .inr (.inl ⟨_, _, rfl, .of hp, fun l hl => k.own s ((rr.frz hz).1.cut lo hi) hl⟩)
    · cases e
  | _ => cases e
def slV (fa : Slots → R DV) (fl fh : Slots → R (Option Int)) : Slots → R DV := fun env => (fa env).bind fun x => (fl env).bind fun l => (fh env).bind fun h => lift (cutD x l h)
theorem de_slice {lo hi : Option Expr} {fl fh : Slots → R (Option Int)} {p2 : Pos} (ha : DT X Γ W a fa) (hl : DO X Γ W lo fl) (hh : DO X Γ W hi fh) : DE X Γ W (.Subscript a (.Slice lo hi none p2) pos) (slV fa fl fh) :=
  ⟨pe_imp (pe_slice sl_any ha.pe hl.po hh.po) fun σ H Q ⟨F, As, env, S, q⟩ => by
    refine ⟨F, As, env, S, ?_⟩
    unfold slV at q
    cases ha : fa env with
    | stuck => rw [ha] at q; exact q
    | ex x => rw [ha] at q; exact q
    | ok dx =>
      rw [ha] at q
      intro x F1 H1 A1 x1 r1
      refine ⟨F1, As, env, S.ext x1, ?_⟩
      simp only [R.bind] at q
      cases hb : fl env with
      | stuck => rw [hb] at q; exact q.elim
      | ex x => rw [hb] at q; exact fun cls dx F' H' x2 o => q cls dx F' H' (x1.trans x2) o
      | ok l =>
        rw [hb] at q
        intro F2 H2 x2
        refine ⟨F2, As, env, (S.ext x1).ext x2, ?_⟩
        simp only [R.bind] at q
        cases hc : fh env with
        | stuck => rw [hc] at q; exact q.elim
        | ex x => rw [hc] at q; exact fun cls dx F' H' x3 o => q cls dx F' H' ((x1.trans x2).trans x3) o
        | ok h =>
          rw [hc] at q
          intro F3 H3 x3
          simp only [lift] at q
          cases hd : cutD dx l h with
          | none => rw [hd] at q; exact q.elim
          | some d =>
            rw [hd] at q
            have x123 := (x1.trans x2).trans x3
            exact cut_ok x3.fh ((r1.ext x2).ext x3) hd fun v F' H' A x4 fr ro => q v F' H' A (x123.trans x4) ⟨fr.nd, fr.nF, fun a ha => x123.hh.free (fr.nH a ha)⟩ ro⟩
/-- xs[::-1] -/
def revV (fa : Slots → R DV) : Slots → R DV := fun env => (fa env).bind fun x => match x with
  | .lst ds => .ok (.own ds.reverse)
  | .own ds => if ds.all isFrz = true then .ok (.own ds.reverse) else .stuck
  | _ => .stuck
theorem de_rev {k : Nat} {p1 p2 p3 : Pos} (ha : DT X Γ W a fa) : DE X Γ W (.Subscript a (.Slice none none (some (.UnaryOp .USub (.Constant (.int 1) k p1) p2)) p3) pos) (revV fa) :=
  ⟨pe_imp (pe_revL ha.pe) fun σ H Q ⟨F, As, env, S, q⟩ => by
    refine ⟨F, As, env, S, ?_⟩
    unfold revV at q
    cases ha : fa env with
    | stuck => rw [ha] at q; exact q
    | ex x => rw [ha] at q; exact q
    | ok dx =>
      rw [ha] at q
      intro x F1 H1 A1 x1 r1
      simp only [R.bind] at q
      have fin : ∀ {ds vs p}, H1 p = some (.lst vs) → RFs ⟨X.K, Γ⟩ F1 vs ds → (∀ v F' H' A, Ext F H F' H' → Fresh F' H A → RO ⟨X.K, Γ⟩ F' H' v (.own ds.reverse) A → Q v H') → ∃ a xs, V.ref p = .ref a ∧ SqL X.K H1 a xs ∧ ∀ p, H1 p = none → Q (.ref p) (upd H1 p (.lst xs.reverse)) :=
        fun {ds vs p} hp rr k => ⟨p, vs, rfl, .of hp, fun l hl => Gv.own (g := ⟨X.K, Γ⟩) (F := F1) (fun v F' H' A x2 fr ro => k v F' H' A (x1.trans x2) ⟨fr.nd, fr.nF, fun a ha => x1.hh.free (fr.nH a ha)⟩ ro) x1.fh rr.reverse hl⟩
      cases dx with
      | lst ds =>
        obtain ⟨rf, _⟩ := r1.frz_inv rfl
        cases rf with
        | lst h1 h2 => exact fin (x1.fh _ _ h1) h2 q
      | own ds =>
        have q : (match (if ds.all isFrz = true then R.ok (DV.own ds.reverse) else R.stuck) with
          | .ok d => ∀ v F' H' A, Ext F H F' H' → Fresh F' H A → RO ⟨X.K, Γ⟩ F' H' v d A → Q v H'
          | .ex x => ∀ cls dx F' H', Ext F H F' H' → XOk ⟨X.K, Γ⟩ F' cls dx x → W cls dx σ H'
          | .stuck => False) := q
        by_cases hz : ds.all isFrz = true
        · rw [if_pos hz] at q
          obtain ⟨p, vs, B, rfl, hp, rr⟩ := elems_inv x1.fh r1 rfl
          exact fin hp (rr.frz hz).1 q
        · rw [if_neg hz] at q
          exact q.elim
      | _ => exact q.elim⟩

/-! ### built-in functions -/
structure CallV (g : Gc) (r : List V → Hp → VK → Prop) (h : List DV → Option DV) : Prop where
  run : ∀ {F H : Hp} {vs : List V} {ds : List DV} {d : DV} {A : List Addr} {Q : VK}, Same F H → ROs g F H vs ds A → h ds = some d → Gv g F H d Q → r vs H Q
def opN (h : List DV → Option DV) (fs : Slots → R (List DV)) : Slots → R DV := fun env => (fs env).bind fun ds => lift (h ds)
theorem rdN {r : List V → Hp → VK → Prop} {h : List DV → Option DV} (hv : CallV ⟨X.K, Γ⟩ r h) {σ : L2.St} {H : Hp} {Q : VK} (q : rdE ⟨X.K, Γ⟩ W (opN h fs) σ H Q) : tCB r (rdL ⟨X.K, Γ⟩ W fs) σ H Q := by
  obtain ⟨F, As, env, S, q⟩ := q
  refine ⟨F, As, env, S, ?_⟩
  unfold opN at q
  cases ha : fs env with
  | stuck => rw [ha] at q; exact q
  | ex x => rw [ha] at q; exact q
  | ok ds =>
    rw [ha] at q
    intro vs F1 H1 A1 x1 r1
    simp only [R.bind, lift] at q
    cases hd : h ds with
    | none => rw [hd] at q; exact q.elim
    | some d =>
      rw [hd] at q
      exact hv.run x1.fh r1 hd fun v F' H' A x2 fr ro => q v F' H' A (x1.trans x2) ⟨fr.nd, fr.nF, fun a ha => x1.hh.free (fr.nH a ha)⟩ ro
section
variable {x : Str} {p : Pos} {id T : String} {r r' : List V → Hp → VK → Prop} {h h' : List DV → Option DV}
theorem de_callB (hc : CallR X (.builtin id) r) (hv : CallV ⟨X.K, Γ⟩ r h) (hb : bootBuiltins x = some (.builtin id)) (hm : X.mg x = none) (ha : DK X Γ W (e :: es) fs) (hg : Gl X x := by rfl) (hn : x ≠ "__name__" := by decide) (hdb : (x == ("__debug__" : Str)) = false := by decide)
    (he : starEach (e :: es) X.env = (false, eval e X.env) :: starEach es X.env := by rfl) (hpl : (backTo pos (starEach es X.env)).any (·.1) = false := by rfl) : DE X Γ W (.Call (.Name x p) (e :: es) [] pos) (opN h fs) :=
  ⟨pe_imp (pe_callB hc hg hm hb ha.pa hn hdb he hpl) fun σ H Q q => rdN hv q⟩
theorem de_callTy (hc : CallR X (.type T) r) (hv : CallV ⟨X.K, Γ⟩ r h) (hb : bootBuiltins x = some (.type T)) (hm : X.mg x = none) (ha : DK X Γ W (e :: es) fs) (hg : Gl X x := by rfl) (hn : x ≠ "__name__" := by decide) (hdb : (x == ("__debug__" : Str)) = false := by decide)
    (he : starEach (e :: es) X.env = (false, eval e X.env) :: starEach es X.env := by rfl) (hpl : (backTo pos (starEach es X.env)).any (·.1) = false := by rfl) : DE X Γ W (.Call (.Name x p) (e :: es) [] pos) (opN h fs) :=
  ⟨pe_imp (pe_callTy hc hg hm hb ha.pa hn hdb he hpl) fun σ H Q q => rdN hv q⟩
theorem de_callF (hc : CallR X (.builtin id) r) (hv : CallV ⟨X.K, Γ⟩ r h) (hm : X.mg x = some (.builtin id)) (ha : DK X Γ W (e :: es) fs) (hg : Gl X x := by rfl) (hdb : (x == ("__debug__" : Str)) = false := by decide)
    (he : starEach (e :: es) X.env = (false, eval e X.env) :: starEach es X.env := by rfl) (hpl : (backTo pos (starEach es X.env)).any (·.1) = false := by rfl) : DE X Γ W (.Call (.Name x p) (e :: es) [] pos) (opN h fs) :=
  ⟨pe_imp (pe_callBfun hc hg hm ha.pa hdb he hpl) fun σ H Q q => rdN hv q⟩
theorem CallV.or (h1 : CallV ⟨X.K, Γ⟩ r h) (h2 : CallV ⟨X.K, Γ⟩ r' h') : CallV ⟨X.K, Γ⟩ (fun xs H Q => r xs H Q ∨ r' xs H Q) (fun xs => match h xs with | some d => some d | none => h' xs) := by
  refine ⟨fun {F H vs ds d A Q} s rs e k => ?_⟩
  cases q : h ds with
  | some z =>
    simp only [q] at e
    cases e
    exact .inl (h1.run s rs q k)
  | none =>
    simp only [q] at e
    exact .inr (h2.run s rs e k)
end
end
end DL
end
section
set_option maxHeartbeats 1000000
namespace DL
open PySem L2 PyProof.Rows

theorem ROs.one_inv {g : Gc} {F H : Hp} {vs : List V} {d : DV} {A : List Addr} (h : ROs g F H vs [d] A) : ∃ v B, vs = [v] ∧ RO g F H v d B := by
  cases h with
  | cons h1 h2 => cases h2; exact ⟨_, _, rfl, h1⟩
theorem ROs.two_inv {g : Gc} {F H : Hp} {vs : List V} {d e : DV} {A : List Addr} (h : ROs g F H vs [d, e] A) : ∃ v u B C, vs = [v, u] ∧ RO g F H v d B ∧ RO g F H u e C := by
  cases h with
  | cons h1 h2 =>
    obtain ⟨u, C, rfl, h3⟩ := h2.one_inv
    exact ⟨_, _, _, _, rfl, h1, h3⟩
/-- a function of one value, of two -/
def one (h : DV → Option DV) : List DV → Option DV
  | [d] => h d
  | _ => none
def two (h : DV → DV → Option DV) : List DV → Option DV
  | [d, e] => h d e
  | _ => none
section
variable {X : Cx} {Γ : Str → Option Addr} {W : WX}
theorem cv_one {r : List V → Hp → VK → Prop} {h : DV → Option DV} (k : ∀ {F H x dx d A Q}, Same F H → RO ⟨X.K, Γ⟩ F H x dx A → h dx = some d → Gv ⟨X.K, Γ⟩ F H d Q → r [x] H Q) : CallV ⟨X.K, Γ⟩ r (one h) := by
  refine ⟨fun {F H vs ds d A Q} s rs e q => ?_⟩
  match ds, e, rs with
  | [dx], e, rs =>
    obtain ⟨v, B, rfl, r1⟩ := rs.one_inv
    exact k s r1 e q
theorem cv_two {r : List V → Hp → VK → Prop} {h : DV → DV → Option DV} (k : ∀ {F H x dx y dy d A B Q}, Same F H → RO ⟨X.K, Γ⟩ F H x dx A → RO ⟨X.K, Γ⟩ F H y dy B → h dx dy = some d → Gv ⟨X.K, Γ⟩ F H d Q → r [x, y] H Q) : CallV ⟨X.K, Γ⟩ r (two h) := by
  refine ⟨fun {F H vs ds d A Q} s rs e q => ?_⟩
  match ds, e, rs with
  | [dx, dy], e, rs =>
    obtain ⟨v, u, B, C, rfl, r1, r2⟩ := rs.two_inv
    exact k s r1 r2 e q

/-! ### len -/
def lenD (d : DV) : Option DV := match d with
  | .str z => if z.length ≤ big then some (.int z.length) else none
  | d => (itemsOf d).map fun ds => .int ds.length
theorem lenD_items {d : DV} {ds : List DV} (h : itemsOf d = some ds) : lenD d = some (.int ds.length) := by
  cases d <;> cases h <;> rfl
def rLenA (K : PySem.W.Frag) : List V → Hp → VK → Prop := fun xs H Q => (∃ p ys, xs = [.ref p] ∧ (SqL K H p ys ∨ SqT K H p ys) ∧ Q (.int ys.length) H) ∨ (∃ z, xs = [.str z] ∧ z.length ≤ sizeLine ∧ Q (.int z.length) H)
theorem cr_len : CallR X (.builtin "len") (rLenA X.K) := call_len_seq.or call_len_str
theorem cv_len : CallV ⟨X.K, Γ⟩ (rLenA X.K) (one lenD) := by
  refine cv_one ?_
  intro F H x dx d A Q s r e k
  cases q : itemsOf dx with
  | some ds =>
    rw [lenD_items q] at e
    cases e
    obtain ⟨p, vs, B, rfl, hp, rr⟩ := items_inv s r q
    refine .inl ⟨p, vs, rfl, hp, ?_⟩
    rw [rr.len]
    exact k.frz s (.int _)
  | none =>
    cases dx with
    | str z =>
      have e : (if z.length ≤ big then some (DV.int z.length) else none) = some d := e
      split at e
      · rename_i hz
        cases e
        cases r.str_inv
        exact .inr ⟨z, rfl, big_le hz, k.frz s (.int _)⟩
      · cases e
    | lst _ => cases q
    | own _ => cases q
    | scr _ => cases q
    | tup _ => cases q
    | _ => cases e
/-! ### numbers -/
def absD (d : DV) : Option DV := match d with
  | .int i => some (.int (if i < 0 then -i else i))
  | _ => none
theorem cv_abs : CallV ⟨X.K, Γ⟩ (fun xs H Q => ∃ i, xs = [.int i] ∧ Q (.int (if i < 0 then -i else i)) H) (one absD) := by
  refine cv_one ?_
  intro F H x dx d A Q s r e k
  cases dx with
  | int i =>
    cases e
    cases r.int_inv
    exact ⟨i, rfl, k.frz s (.int _)⟩
  | _ => cases e
def intD1 (d : DV) : Option DV := match d with
  | .int i => some (.int i)
  | .bl b => some (.int (if b then 1 else 0))
  | _ => none
theorem cv_int : CallV ⟨X.K, Γ⟩ (fun xs H Q => (∃ i, xs = [.int i] ∧ Q (.int i) H) ∨ ∃ k, xs = [.bl k] ∧ Q (.int (if k then 1 else 0)) H) (one intD1) := by
  refine cv_one ?_
  intro F H x dx d A Q s r e k
  cases dx with
  | int i =>
    cases e
    cases r.int_inv
    exact .inl ⟨i, rfl, k.frz s (.int _)⟩
  | bl b =>
    cases e
    cases r.bl_inv
    exact .inr ⟨b, rfl, k.frz s (.int _)⟩
  | _ => cases e
def strD (d : DV) : Option DV := match d with
  | .int i => if i.natAbs.log2 < 1920 then some (.str (toString i)) else none
  | _ => none
theorem cv_str : CallV ⟨X.K, Γ⟩ (fun xs H Q => ∃ i, xs = [.int i] ∧ i.natAbs.log2 < 1920 ∧ Q (.str (toString i)) H) (one strD) := by
  refine cv_one ?_
  intro F H x dx d A Q s r e k
  cases dx with
  | int i =>
    have e : (if i.natAbs.log2 < 1920 then some (DV.str (toString i)) else none) = some d := e
    split at e
    · rename_i hz
      cases e
      cases r.int_inv
      exact ⟨i, rfl, hz, k.frz s (.str _)⟩
    · cases e
  | _ => cases e
def max2D (d e : DV) : Option DV := match d, e with
  | .int i, .int j => some (.int (if j > i then j else i))
  | _, _ => none
def min2D (d e : DV) : Option DV := match d, e with
  | .int i, .int j => some (.int (if j < i then j else i))
  | _, _ => none
theorem cv_max2 : CallV ⟨X.K, Γ⟩ (fun xs H Q => ∃ i j, xs = [.int i, .int j] ∧ Q (.int (if j > i then j else i)) H) (two max2D) := by
  refine cv_two ?_
  intro F H x dx y dy d A B Q s r1 r2 e k
  cases dx with
  | int i =>
    cases dy with
    | int j =>
      cases e
      cases r1.int_inv
      cases r2.int_inv
      exact ⟨i, j, rfl, k.frz s (.int _)⟩
    | _ => cases e
  | _ => cases dy <;> cases e
theorem cv_min2 : CallV ⟨X.K, Γ⟩ (fun xs H Q => ∃ i j, xs = [.int i, .int j] ∧ Q (.int (if j < i then j else i)) H) (two min2D) := by
  refine cv_two ?_
  intro F H x dx y dy d A B Q s r1 r2 e k
  cases dx with
  | int i =>
    cases dy with
    | int j =>
      cases e
      cases r1.int_inv
      cases r2.int_inv
      exact ⟨i, j, rfl, k.frz s (.int _)⟩
    | _ => cases e
  | _ => cases dy <;> cases e
def gcdD (d e : DV) : Option DV := match d, e with
  | .int i, .int j => some (.int ((Nat.gcd i.natAbs j.natAbs : Nat) : Int))
  | _, _ => none
theorem cv_gcd : CallV ⟨X.K, Γ⟩ rGcd (two gcdD) := by
  refine cv_two ?_
  intro F H x dx y dy d A B Q s r1 r2 e k
  cases dx with
  | int i =>
    cases dy with
    | int j =>
      cases e
      cases r1.int_inv
      cases r2.int_inv
      exact ⟨i, j, rfl, k.frz s (.int _)⟩
    | _ => cases e
  | _ => cases dy <;> cases e

/-! ### lists of ints -/
def numsD (d : DV) : Option (List Int) := match d with
  | .lst ds => intsOf ds
  | .own ds => intsOf ds
  | .scr ds => intsOf ds
  | _ => none
theorem nums_inv {F H : Hp} {x : V} {d : DV} {A : List Addr} {ns : List Int} (s : Same F H) (h : RO ⟨X.K, Γ⟩ F H x d A) (e : numsD d = some ns) : ∃ p, x = .ref p ∧ SqL X.K H p (ns.map .int) := by
  have frz : ∀ ns : List Int, (ns.map DV.int).all isFrz = true := fun ns => by
    rw [List.all_map]
    exact List.all_eq_true.mpr fun _ _ => rfl
  cases d with
  | lst ds =>
    obtain ⟨p, vs, B, rfl, hp, r⟩ := elems_inv s h rfl
    have := intsOf_map (ds := ds) e
    subst this
    have r' := (r.frz (frz ns)).1.ints
    subst r'
    exact ⟨p, rfl, .of hp⟩
  | own ds =>
    obtain ⟨p, vs, B, rfl, hp, r⟩ := elems_inv s h rfl
    have := intsOf_map (ds := ds) e
    subst this
    have r' := (r.frz (frz ns)).1.ints
    subst r'
    exact ⟨p, rfl, .of hp⟩
  | scr ds =>
    have := intsOf_map (ds := ds) e
    subst this
    obtain ⟨r, _⟩ := h.frz_inv rfl
    cases r with
    | scr h1 h2 =>
      have r' := h2.ints
      subst r'
      exact ⟨_, rfl, sqL_same s h1⟩
  | _ => cases e
def sumD (d : DV) : Option DV := (numsD d).map fun ns => .int ns.sum
theorem cv_sum : CallV ⟨X.K, Γ⟩ (rSum X.K) (one sumD) := by
  refine cv_one ?_
  intro F H x dx d A Q s r e k
  simp only [sumD, Option.map_eq_some_iff] at e
  obtain ⟨ns, e, rfl⟩ := e
  obtain ⟨p, rfl, hp⟩ := nums_inv s r e
  exact ⟨p, ns, rfl, hp, k.frz s (.int _)⟩
def maxI : List Int → Option Int
  | [] => none
  | n :: ns => some (ns.foldl max n)
def minI : List Int → Option Int
  | [] => none
  | n :: ns => some (ns.foldl min n)
theorem foldl_max : ∀ (ns : List Int) (n : Int), (ns.foldl max n = n ∨ ns.foldl max n ∈ ns) ∧ n ≤ ns.foldl max n ∧ ∀ y ∈ ns, y ≤ ns.foldl max n
  | [], n => ⟨.inl rfl, Int.le_refl _, fun _ h => nomatch h⟩
  | m :: ns, n => by
    obtain ⟨h1, h2, h3⟩ := foldl_max ns (max n m)
    rw [List.foldl_cons]
    refine ⟨?_, by omega, fun y hy => ?_⟩
    · rcases h1 with h | h
      · by_cases c : n ≤ m
        · right
          rw [h, show max n m = m by omega]
          exact List.mem_cons_self ..
        · left
          rw [h]; omega
      · exact .inr (List.mem_cons_of_mem _ h)
    · rcases List.mem_cons.mp hy with rfl | h
      · omega
      · exact h3 y h
theorem foldl_min : ∀ (ns : List Int) (n : Int), (ns.foldl min n = n ∨ ns.foldl min n ∈ ns) ∧ ns.foldl min n ≤ n ∧ ∀ y ∈ ns, ns.foldl min n ≤ y
  | [], n => ⟨.inl rfl, Int.le_refl _, fun _ h => nomatch h⟩
  | m :: ns, n => by
    obtain ⟨h1, h2, h3⟩ := foldl_min ns (min n m)
    rw [List.foldl_cons]
    refine ⟨?_, by omega, fun y hy => ?_⟩
    · rcases h1 with h | h
      · by_cases c : m ≤ n
        · right
          rw [h, show min n m = m by omega]
          exact List.mem_cons_self ..
        · left
          rw [h]; omega
      · exact .inr (List.mem_cons_of_mem _ h)
    · rcases List.mem_cons.mp hy with rfl | h
      · omega
      · exact h3 y h
theorem maxI_eq {ns : List Int} {m k : Int} (h : maxI ns = some k) (hm : m ∈ ns) (hg : ∀ y, y ∈ ns → y ≤ m) : m = k := by
  cases ns with
  | nil => cases h
  | cons n ns =>
    cases h
    obtain ⟨h1, h2, h3⟩ := foldl_max ns n
    have l1 : m ≤ ns.foldl max n := by
      rcases List.mem_cons.mp hm with rfl | h
      · exact h2
      · exact h3 m h
    have l2 : ns.foldl max n ≤ m := by
      rcases h1 with h | h
      · rw [h]; exact hg n (List.mem_cons_self ..)
      · exact hg _ (List.mem_cons_of_mem _ h)
    omega
theorem minI_eq {ns : List Int} {m k : Int} (h : minI ns = some k) (hm : m ∈ ns) (hg : ∀ y, y ∈ ns → m ≤ y) : m = k := by
  cases ns with
  | nil => cases h
  | cons n ns =>
    cases h
    obtain ⟨h1, h2, h3⟩ := foldl_min ns n
    have l1 : ns.foldl min n ≤ m := by
      rcases List.mem_cons.mp hm with rfl | h
      · exact h2
      · exact h3 m h
    have l2 : m ≤ ns.foldl min n := by
      rcases h1 with h | h
      · rw [h]; exact hg n (List.mem_cons_self ..)
      · exact hg _ (List.mem_cons_of_mem _ h)
    omega
def maxD (d : DV) : Option DV := ((numsD d).bind maxI).map .int
def minD (d : DV) : Option DV := ((numsD d).bind minI).map .int
theorem cv_max : CallV ⟨X.K, Γ⟩ (rMax X.K) (one maxD) := by
  refine cv_one ?_
  intro F H x dx d A Q s r e k
  simp only [maxD, Option.map_eq_some_iff, Option.bind_eq_some_iff] at e
  obtain ⟨m, ⟨ns, e, em⟩, rfl⟩ := e
  obtain ⟨p, rfl, hp⟩ := nums_inv s r e
  refine ⟨p, ns, rfl, hp, ?_, fun m' h1 h2 => ?_⟩
  · cases ns with
    | nil => cases em
    | cons _ _ => exact Nat.succ_pos _
  · rw [maxI_eq em h1 h2]
    exact k.frz s (.int _)
theorem cv_min : CallV ⟨X.K, Γ⟩ (rMin X.K) (one minD) := by
  refine cv_one ?_
  intro F H x dx d A Q s r e k
  simp only [minD, Option.map_eq_some_iff, Option.bind_eq_some_iff] at e
  obtain ⟨m, ⟨ns, e, em⟩, rfl⟩ := e
  obtain ⟨p, rfl, hp⟩ := nums_inv s r e
  refine ⟨p, ns, rfl, hp, ?_, fun m' h1 h2 => ?_⟩
  · cases ns with
    | nil => cases em
    | cons _ _ => exact Nat.succ_pos _
  · rw [minI_eq em h1 h2]
    exact k.frz s (.int _)
def srt (ns : List Int) : List Int := ns.mergeSort fun a b => decide (a ≤ b)
theorem srt_perm (ns : List Int) : (srt ns).Perm ns := List.mergeSort_perm _ _
theorem srt_ord (ns : List Int) : (srt ns).Pairwise (· ≤ ·) := by
  have := List.pairwise_mergeSort (le := fun a b : Int => decide (a ≤ b)) (fun a b c h1 h2 => by
    have := of_decide_eq_true h1
    have := of_decide_eq_true h2
    exact decide_eq_true (by omega)) (fun a b => by
    simp
    omega) ns
  exact this.imp fun h => of_decide_eq_true h
theorem srt_eq {ns ms : List Int} (hp : ms.Perm ns) (ho : ms.Pairwise (· ≤ ·)) : ms = srt ns := PySem.W.ksm_same (hp.trans (srt_perm ns).symm) ho (srt_ord ns)
def sortD (d : DV) : Option DV := (numsD d).map fun ns => .own ((srt ns).map .int)
theorem cv_sorted : CallV ⟨X.K, Γ⟩ (rSortedI X.K) (one sortD) := by
  refine cv_one ?_
  intro F H x dx d A Q s r e k
  simp only [sortD, Option.map_eq_some_iff] at e
  obtain ⟨ns, e, rfl⟩ := e
  obtain ⟨p, rfl, hp⟩ := nums_inv s r e
  refine ⟨p, ns, rfl, hp, fun ns' l h1 h2 hl => ?_⟩
  rw [srt_eq h1 h2]
  exact k.own s (RFs.ofInts _) hl

/-! ### list(..), tuple(..), range(..) -/
def listD (d : DV) : Option DV := match itemsOf d with
  | some ds => if ds.all isFrz = true then some (.own ds) else none
  | none => none
theorem cv_list : CallV ⟨X.K, Γ⟩ (fun xs H Q => ∃ p ys, xs = [.ref p] ∧ (SqL X.K H p ys ∨ SqT X.K H p ys) ∧ ∀ l, H l = none → Q (.ref l) (upd H l (.lst ys))) (one listD) := by
  refine cv_one ?_
  intro F H x dx d A Q s r e k
  cases q : itemsOf dx with
  | none => simp [listD, q] at e
  | some ds =>
    simp only [listD, q] at e
    split at e
    · rename_i hz
      cases e
      obtain ⟨p, vs, B, rfl, hp, rr⟩ := items_inv s r q
      exact ⟨p, vs, rfl, hp, fun l hl => k.own s (rr.frz hz).1 hl⟩
    · cases e
def tupD (d : DV) : Option DV := match d with
  | .tup ds => some (.tup ds)
  | .lst ds => some (.tup ds)
  | .scr ds => some (.tup ds)
  | .own ds => if ds.all isFrz = true then some (.tup ds) else none
  | _ => none
theorem cv_tuple : CallV ⟨X.K, Γ⟩ (fun xs H Q => ∃ p ys, xs = [.ref p] ∧ ((SqL X.K H p ys ∧ ∀ l, H l = none → Q (.ref l) (upd H l (.tup ys))) ∨ (SqT X.K H p ys ∧ Q (.ref p) H))) (one tupD) := by
  refine cv_one ?_
  intro F H x dx d A Q s r e k
  cases dx with
  | tup ds =>
    cases e
    obtain ⟨rf, _⟩ := r.frz_inv rfl
    cases rf with
    | tup h1 h2 => exact ⟨_, _, rfl, .inr ⟨sqT_same s h1, k.frz s (.tup h1 h2)⟩⟩
  | lst ds =>
    cases e
    obtain ⟨rf, _⟩ := r.frz_inv rfl
    cases rf with
    | lst h1 h2 => exact ⟨_, _, rfl, .inl ⟨.of (s _ _ h1), fun l hl => k.tup s h2 hl⟩⟩
  | scr ds =>
    cases e
    obtain ⟨rf, _⟩ := r.frz_inv rfl
    cases rf with
    | scr h1 h2 => exact ⟨_, _, rfl, .inl ⟨sqL_same s h1, fun l hl => k.tup s h2 hl⟩⟩
  | own ds =>
    have e : (if ds.all isFrz = true then some (DV.tup ds) else none) = some d := e
    split at e
    · rename_i hz
      cases e
      obtain ⟨p, vs, B, rfl, hp, rr⟩ := elems_inv s r rfl
      exact ⟨_, _, rfl, .inl ⟨.of hp, fun l hl => k.tup s (rr.frz hz).1 hl⟩⟩
    · cases e
  | _ => cases e
theorem cr_range1 : CallR X (.type "range") (fun vs H Q => ∃ j, vs = [V.int j] ∧ ∀ p, H p = none → Q (.ref p) (upd H p (.rng 0 j))) := by
  intro pins s σ H vs us Q I r h
  obtain ⟨j, rfl, q⟩ := h
  obtain ⟨u2, rfl, rj⟩ := vals1 r
  obtain ⟨u, rfl⟩ := rj
  refine call_range_1 ⟨.ref s.heap.objs.size, upd H s.heap.objs.size (.rng 0 j), I.laid (t' := _) (fun b o e => Heap.get?_push_of_some _ e) (Nat.le_refl _) ?_, rfl, q _ (I.hok.fresh (Nat.le_refl _))⟩
  exact ⟨_, u, _, Heap.get?_push_size _ rfl⟩
theorem Gv.rng {g : Gc} {F H : Hp} {Q : VK} {lo hi : Int} (k : Gv g F H (.rng lo hi) Q) (s : Same F H) {l : Addr} (hl : H l = none) : Q (.ref l) (upd H l (.rng lo hi)) :=
  k _ _ _ [] (.lay s hl) .nil (.frz (.rng upd_same))
def rng1D (d : DV) : Option DV := match d with
  | .int j => some (.rng 0 j)
  | _ => none
def rng2D (d e : DV) : Option DV := match d, e with
  | .int i, .int j => some (.rng i j)
  | _, _ => none
theorem cv_range1 : CallV ⟨X.K, Γ⟩ (fun vs H Q => ∃ j, vs = [V.int j] ∧ ∀ p, H p = none → Q (.ref p) (upd H p (.rng 0 j))) (one rng1D) := by
  refine cv_one ?_
  intro F H x dx d A Q s r e k
  cases dx with
  | int i =>
    cases e
    cases r.int_inv
    exact ⟨i, rfl, fun l hl => k.rng s hl⟩
  | _ => cases e
theorem cv_range2 : CallV ⟨X.K, Γ⟩ (fun vs H Q => ∃ i j, vs = [V.int i, V.int j] ∧ ∀ p, H p = none → Q (.ref p) (upd H p (.rng i j))) (two rng2D) := by
  refine cv_two ?_
  intro F H x dx y dy d A B Q s r1 r2 e k
  cases dx with
  | int i =>
    cases dy with
    | int j =>
      cases e
      cases r1.int_inv
      cases r2.int_inv
      exact ⟨i, j, rfl, fun l hl => k.rng s hl⟩
    | _ => cases e
  | _ => cases dy <;> cases e
/-- the numbers of a range -/
def rngL (a b : Int) : List DV := (List.range (b - a).toNat).map fun (i : Nat) => .int (a + i)
theorem rgV_rf {g : Gc} {F : Hp} (a b : Int) : RFs g F (rgV a b) (rngL a b) := by
  unfold rgV rngL
  generalize List.range (b - a).toNat = l
  induction l with
  | nil => exact .nil
  | cons n l ih => exact .cons (.int _) ih
/-- within 2 ** 62, said so that the kernel stops at once -/
def inR (j : Int) : Bool := Nat.ble j.natAbs 4611686018427387903
theorem inR_ok {j : Int} (h : inR j = true) : -(2 ^ 62) ≤ j ∧ j < 2 ^ 62 := by
  have := Nat.le_of_ble_eq_true h
  omega
theorem inR_of {j : Int} (h : j.natAbs < 4611686018427387904) : inR j = true := Nat.ble_eq_true_of_le (by omega)
def rgOk (a b : Int) : Bool := inR a && (inR b && Nat.ble (b - a).toNat big)
theorem rgOk_of {a b : Int} (h : rgOk a b = true) : RgOk a b := by
  unfold rgOk at h
  rw [Bool.and_eq_true, Bool.and_eq_true] at h
  exact ⟨(inR_ok h.1).1, (inR_ok h.1).2, (inR_ok h.2.1).1, (inR_ok h.2.1).2, Nat.le_trans (Nat.le_of_ble_eq_true h.2.2) (by decide)⟩
/-- range(..) as what list( ) and tuple( ) take -/
structure DR (X : Cx) (Γ : Str → Option Addr) (W : WX) (e : Expr) (f : Slots → R (Int × Int)) : Prop where
  pr : PRg X e fun σ H Q => ∃ F As env, SA ⟨X.K, Γ⟩ F As σ H env ∧ match f env with
    | .ok (i, j) => ∀ F' H', Ext F H F' H' → Q i j H'
    | .ex x => ∀ cls dx F' H', Ext F H F' H' → XOk ⟨X.K, Γ⟩ F' cls dx x → W cls dx σ H'
    | .stuck => False
theorem prg_imp {e : Expr} {t t' : L2.St → Hp → (Int → Int → Hp → Prop) → Prop} (h : PRg X e t) (i : ∀ σ H Q, t' σ H Q → t σ H Q) : PRg X e t' := by
  intro pins s σ H Q I q
  exact h pins s σ H Q I (i _ _ _ q)

section
variable {e a b : Expr} {fa fb : Slots → R DV} {pos : Pos} {fr : Slots → R (Int × Int)}
def rg1 (fa : Slots → R DV) : Slots → R (Int × Int) := fun env => (fa env).bind fun d => match d with
  | .int j => .ok (0, j)
  | _ => .stuck
def rg2 (fa fb : Slots → R DV) : Slots → R (Int × Int) := fun env => (fa env).bind fun d => (fb env).bind fun e => match d, e with
  | .int i, .int j => .ok (i, j)
  | _, _ => .stuck
theorem dr_1 {p : Pos} (hm : X.mg "range" = none) (ha : DT X Γ W a fa) (hg : Gl X "range" := by rfl) (na : starEach [a] X.env = (false, eval a X.env) :: starEach [] X.env := by rfl) : DR X Γ W (.Call (.Name "range" p) [a] [] pos) (rg1 fa) :=
  ⟨prg_imp (prg_1 hg hm ha.pe na) fun σ H Q ⟨F, As, env, S, q⟩ => by
    refine ⟨F, As, env, S, ?_⟩
    unfold rg1 at q
    cases ha : fa env with
    | stuck => rw [ha] at q; exact q
    | ex x => rw [ha] at q; exact q
    | ok dx =>
      rw [ha] at q
      intro x F1 H1 A1 x1 r1
      cases dx with
      | int i =>
        cases r1.int_inv
        exact ⟨i, rfl, q F1 H1 x1⟩
      | _ => exact q.elim⟩
theorem dr_2 {p : Pos} (hm : X.mg "range" = none) (ha : DT X Γ W a fa) (hb : DT X Γ W b fb) (hg : Gl X "range" := by rfl) (na : starEach [a, b] X.env = (false, eval a X.env) :: starEach [b] X.env := by rfl)
    (nb : starEach [b] X.env = (false, eval b X.env) :: starEach [] X.env := by rfl) (hp : (backTo pos (starEach [b] X.env)).any (·.1) = false := by rfl) : DR X Γ W (.Call (.Name "range" p) [a, b] [] pos) (rg2 fa fb) :=
  ⟨prg_imp (prg_2 hg hm ha.pe hb.pe na nb hp) fun σ H Q ⟨F, As, env, S, q⟩ => by
    refine ⟨F, As, env, S, ?_⟩
    unfold rg2 at q
    cases ha : fa env with
    | stuck => rw [ha] at q; exact q
    | ex x => rw [ha] at q; exact q
    | ok dx =>
      rw [ha] at q
      intro x F1 H1 A1 x1 r1
      refine ⟨F1, As, env, S.ext x1, ?_⟩
      simp only [R.bind] at q
      cases hb : fb env with
      | stuck => rw [hb] at q; exact q.elim
      | ex x => rw [hb] at q; exact fun cls dx F' H' x2 o => q cls dx F' H' (x1.trans x2) o
      | ok dy =>
        rw [hb] at q
        intro y F2 H2 A2 x2 r2
        cases dx with
        | int i =>
          cases dy with
          | int j =>
            cases (r1.ext x2).int_inv
            cases r2.int_inv
            exact ⟨i, j, rfl, rfl, q F2 H2 (x1.trans x2)⟩
          | _ => exact q.elim
        | _ => cases dy <;> exact q.elim⟩
def lrgV (fr : Slots → R (Int × Int)) : Slots → R DV := fun env => (fr env).bind fun p => if rgOk p.1 p.2 = true then .ok (.own (rngL p.1 p.2)) else .stuck
def trgV (fr : Slots → R (Int × Int)) : Slots → R DV := fun env => (fr env).bind fun p => if rgOk p.1 p.2 = true then .ok (.tup (rngL p.1 p.2)) else .stuck
theorem de_listRg {p : Pos} (hc : X.calm = true) (hm : X.mg "list" = none) (he : DR X Γ W e fr) (hg : Gl X "list" := by rfl) (na : starEach [e] X.env = (false, eval e X.env) :: starEach [] X.env := by rfl) : DE X Γ W (.Call (.Name "list" p) [e] [] pos) (lrgV fr) :=
  ⟨pe_imp (pe_listRg hc hg hm he.pr na) fun σ H Q ⟨F, As, env, S, q⟩ => by
    refine ⟨F, As, env, S, ?_⟩
    unfold lrgV at q
    cases ha : fr env with
    | stuck => rw [ha] at q; exact q
    | ex x => rw [ha] at q; exact q
    | ok p =>
      rw [ha] at q
      obtain ⟨i, j⟩ := p
      intro F1 H1 x1
      simp only [R.bind] at q
      by_cases hz : rgOk i j = true
      · rw [if_pos hz] at q
        exact ⟨rgOk_of hz, fun l hl => Gv.own (g := ⟨X.K, Γ⟩) (F := F1) (fun v F' H' A x2 fr ro => q v F' H' A (x1.trans x2) ⟨fr.nd, fr.nF, fun a ha => x1.hh.free (fr.nH a ha)⟩ ro) x1.fh (rgV_rf i j) hl⟩
      · rw [if_neg hz] at q
        exact q.elim⟩
theorem de_tupRg {p : Pos} (hc : X.calm = true) (hm : X.mg "tuple" = none) (he : DR X Γ W e fr) (hg : Gl X "tuple" := by rfl) (na : starEach [e] X.env = (false, eval e X.env) :: starEach [] X.env := by rfl) : DE X Γ W (.Call (.Name "tuple" p) [e] [] pos) (trgV fr) :=
  ⟨pe_imp (pe_tupRg hc hg hm he.pr na) fun σ H Q ⟨F, As, env, S, q⟩ => by
    refine ⟨F, As, env, S, ?_⟩
    unfold trgV at q
    cases ha : fr env with
    | stuck => rw [ha] at q; exact q
    | ex x => rw [ha] at q; exact q
    | ok p =>
      rw [ha] at q
      obtain ⟨i, j⟩ := p
      intro F1 H1 x1
      simp only [R.bind] at q
      by_cases hz : rgOk i j = true
      · rw [if_pos hz] at q
        exact ⟨rgOk_of hz, fun l hl => Gv.tup (g := ⟨X.K, Γ⟩) (F := F1) (fun v F' H' A x2 fr ro => q v F' H' A (x1.trans x2) ⟨fr.nd, fr.nF, fun a ha => x1.hh.free (fr.nH a ha)⟩ ro) x1.fh (rgV_rf i j) hl⟩
      · rw [if_neg hz] at q
        exact q.elim⟩
end

/-! ### isinstance -/
/-- the type of a value, as isinstance asks it -/
def tyv (Γ : Str → Option Addr) : DV → Option Value
  | .non => some (.type "NoneType")
  | .bl _ => some (.type "bool")
  | .int _ => some (.type "int")
  | .str _ => some (.type "str")
  | .tup _ => some (.type "tuple")
  | .lst _ => some (.type "list")
  | .own _ => some (.type "list")
  | .scr _ => some (.type "list")
  | .ins c _ => (Γ c).map .ref
  | .obj c _ => (Γ c).map .ref
  | .exc c _ => (Γ c).map .ref
  | .rng _ _ => none
/-- what a class of the text must say, so that isinstance asks its instances rightly -/
structure InsT (K : PySem.W.Frag) (C : Addr) : Prop where
  cl : Cls K C
  ha : PySem.W.findIn K (.ref C) "__class__" = some (some (.builtin "object.__class__"))
  hn : PySem.W.specialIn K (.builtin "object.__class__") "__get__" = some (some (.builtin "getset_descriptor.__get__"))
  ht : PySem.W.takesIn K (.builtin "object.__class__") = some true
  hm : PySem.W.mroIn K C (.type "object") = some true
theorem TyOf.sqL {K : PySem.W.Frag} {H : Hp} {p : Addr} {vs : List V} (h : SqL K H p vs) : TyX K H (.ref p) (.type "list") := by
  rcases h with (h | ⟨o, h⟩) | ⟨o, its, n, h1, h2, _⟩
  · exact .base (.lst h)
  · exact .base (.frz h)
  · exact .kList h1 h2
theorem TyOf.sqT {K : PySem.W.Frag} {H : Hp} {p : Addr} {vs : List V} (h : SqT K H p vs) : TyX K H (.ref p) (.type "tuple") := by
  rcases h with (h | ⟨o, h⟩) | ⟨o, its, n, h1, h2, _⟩
  · exact .base (.tup h)
  · exact .fTuple h
  · exact .kTuple h1 h2
/-- what an exception class of the text must say, so that isinstance asks its instances rightly -/
structure ExcK (K : PySem.W.Frag) (C : Addr) : Prop where
  hc : (PySem.W.clsIn K C).isSome = true
  hg : PySem.W.findIn K (.ref C) "__getattribute__" = some (some (.builtin "BaseException.__getattribute__"))
  hk : PySem.W.findIn K (.ref C) "__getattr__" = some none
  hs : PySem.W.subIn K (.ref C) (.type "BaseException") = some true
  ha : PySem.W.findIn K (.ref C) "__class__" = some (some (.builtin "object.__class__"))
  hn : PySem.W.specialIn K (.builtin "object.__class__") "__get__" = some (some (.builtin "getset_descriptor.__get__"))
  ht : PySem.W.takesIn K (.builtin "object.__class__") = some true
  hm : PySem.W.mroIn K C (.type "object") = some true
/-- what isinstance asks of a value -/
def IsOk (K : PySem.W.Frag) (x : Value) (t : Value) (h : Heap) : Prop := ∃ P : Heap → Prop, PySem.W.KitX K x t P ∧ P h ∧ x ≠ .builtin "__main__.__loader__#opaque"
/-- the classes of what is asked -/
structure ClsT (K : PySem.W.Frag) (Γ : Str → Option Addr) (d : DV) : Prop where
  ins : ∀ c fs C, (d = .ins c fs ∨ d = .obj c fs) → Γ c = some C → InsT K C
  exc : ∀ c fs C, d = .exc c fs → Γ c = some C → ExcK K C
theorem exc_inst {s : Shared} {p C : Addr} {dx : Option Addr} {φ : Heap → Prop} {H : Hp} (h : HOk X.prog X.w H s.heap) (e : H p = some (.ext φ)) (k : ExcAt p C dx φ) (hd : ∀ d, dx = some d → ∃ fs, H d = some (.xd fs)) :
    ∃ ox od, PySem.W.InstAt s.heap p ox C od := by
  obtain ⟨h1, _, _⟩ := (show ObjOk X.prog X.w H s.heap p (.ext φ) from h p _ e)
  obtain ⟨o, vs, e1, e2, e3, e4⟩ := k _ h1
  cases dx with
  | none => exact ⟨o, none, e1, e2, by unfold PySem.W.notCls; rw [e4] <;> rfl, by rw [e3]; trivial⟩
  | some d =>
    obtain ⟨fs, e5⟩ := hd d rfl
    obtain ⟨mA, ⟨od, es, ep, q, r⟩, _⟩ := (show ObjOk X.prog X.w H s.heap d (.xd fs) from h d _ e5)
    exact ⟨o, some od, e1, e2, by unfold PySem.W.notCls; rw [e4] <;> rfl, by rw [e3]; exact q⟩
theorem ty_of {pins : List (Addr × Obj)} {σ : L2.St} {s : Shared} {F H : Hp} {x : V} {xv : Value} {d : DV} {A : List Addr} {t : Value} (I : Inv X pins σ H s) (rx : RelV x xv) (s' : Same F H) (r : RO ⟨X.K, Γ⟩ F H x d A) (e : tyv Γ d = some t) (hi : ClsT X.K Γ d) : IsOk X.K xv t s.heap := by
  have ins : ∀ {p C dx c fs}, H p = some (.ins C dx fs) → Γ c = some C → InsT X.K C → TyX X.K H (.ref p) (.ref C) := fun {p C dx c fs} h1 _ T => .base (.ins h1 T.cl T.ha T.hn T.ht T.hm)
  have go : TyX X.K H x t → IsOk X.K xv t s.heap := fun ty => kit_of I rx ty
  cases r with
  | frz rf =>
    cases rf with
    | non => cases e; exact go (.base .non)
    | bl b => cases e; exact go (.base (.bl b))
    | int b => cases e; exact go (.base (.int b))
    | str b => cases e; exact go (.base (.str b))
    | tup h r => cases e; exact go (TyOf.sqT (sqT_same s' h))
    | lst h r => cases e; exact go (TyOf.sqL (.of (s' _ _ h)))
    | scr h r => cases e; exact go (TyOf.sqL (sqL_same s' h))
    | rng h => cases e
    | ins h c r =>
      have c : Γ _ = some _ := c
      simp only [tyv, c, Option.map_some, Option.some.injEq] at e
      subst e
      exact go (ins (s' _ _ h) c (hi.ins _ _ _ (.inl rfl) c))
    | exc h k c =>
      have c : Γ _ = some _ := c
      simp only [tyv, c, Option.map_some, Option.some.injEq] at e
      subst e
      obtain rfl := rx
      have T := hi.exc _ _ _ rfl c
      obtain ⟨ox, od, J⟩ := exc_inst (X := X) I.hok (s' _ _ h) k (fun _ z => nomatch z)
      exact ⟨_, PySem.W.kitx_exc T.hc T.hg T.hk T.hs T.ha T.hn T.ht T.hm, J, fun z => nomatch z⟩
    | excD h k c q r =>
      have c : Γ _ = some _ := c
      simp only [tyv, c, Option.map_some, Option.some.injEq] at e
      subst e
      obtain rfl := rx
      have T := hi.exc _ _ _ rfl c
      obtain ⟨ox, od, J⟩ := exc_inst (X := X) I.hok (s' _ _ h) k (fun d z => by cases z; exact ⟨_, s' _ _ q⟩)
      exact ⟨_, PySem.W.kitx_exc T.hc T.hg T.hk T.hs T.ha T.hn T.ht T.hm, J, fun z => nomatch z⟩
  | own h r => cases e; exact go (TyOf.sqL (.of h))
  | obj h c r =>
    have c : Γ _ = some _ := c
    simp only [tyv, c, Option.map_some, Option.some.injEq] at e
    subst e
    exact go (ins h c (hi.ins _ _ _ (.inr rfl) c))
/-- ans: what isinstance(.., (us)) answers; one: us is one class, not in a tuple -/
structure Isi (K : PySem.W.Frag) (Γ : Str → Option Addr) (us : List Value) (ans : DV → Option Bool) : Prop where
  yes : ∀ d t b, tyv Γ d = some t → ans d = some b → PySem.W.kitAny K t us = some b
  ty : ∀ d b, ans d = some b → (tyv Γ d).isSome = true
  cls : ∀ d b, ans d = some b → ClsT K Γ d
theorem kitAny_one {K : PySem.W.Frag} {t u : Value} {b : Bool} (h : PySem.W.kitAny K t [u] = some b) : PySem.W.kitOne K t u = some b := by
  unfold PySem.W.kitAny at h
  cases q : PySem.W.kitOne K t u with
  | none => rw [q] at h; cases h
  | some c =>
    rw [q] at h
    cases c with
    | true => exact h
    | false => exact h
def rIsD (K : PySem.W.Frag) (Γ : Str → Option Addr) : List V → Hp → VK → Prop := fun xs H Q => ∃ (x c : V) (u : Value) (F : Hp) (d : DV) (A : List Addr) (ans : DV → Option Bool) (b : Bool), xs = [x, c] ∧ ClsV c u ∧ Same F H ∧ RO ⟨K, Γ⟩ F H x d A ∧ Isi K Γ [u] ans ∧ ans d = some b ∧ Q (.bl b) H
def rIsDT (K : PySem.W.Frag) (Γ : Str → Option Addr) : List V → Hp → VK → Prop := fun xs H Q => ∃ (x : V) (tp : Addr) (cs : List V) (us : List Value) (F : Hp) (d : DV) (A : List Addr) (ans : DV → Option Bool) (b : Bool), xs = [x, .ref tp] ∧ H tp = some (.tup cs) ∧ Paired ClsV cs us ∧ Same F H ∧ RO ⟨K, Γ⟩ F H x d A ∧ Isi K Γ us ans ∧ ans d = some b ∧ Q (.bl b) H
theorem call_isD : CallR X (.builtin "isinstance") (rIsD X.K Γ) := by
  intro pins s σ H xs us Q I r h
  obtain ⟨x, c, u, F, d, A, ans, b, rfl, hc, sf, ro, hi, ha, q⟩ := h
  obtain ⟨u1, u2, rfl, r1, r2⟩ := vals2 r
  have e2 := hc.eq r2
  subst e2
  obtain ⟨t, ht⟩ := Option.isSome_iff_exists.mp (hi.ty d b ha)
  obtain ⟨P, Z, p, hx⟩ := ty_of I r1 sf ro ht (hi.cls d b ha)
  exact PySem.W.kia_one Z I.kIn p (kitAny_one (hi.yes d t b ht ha)) hx fun tk => ⟨.bl b, H, I.tok tk, rfl, q⟩
theorem call_isDT : CallR X (.builtin "isinstance") (rIsDT X.K Γ) := by
  intro pins s σ H xs us Q I r h
  obtain ⟨x, tp, cs, ws, F, d, A, ans, b, rfl, hT, hc, sf, ro, hi, ha, q⟩ := h
  obtain ⟨u1, u2, rfl, r1, r2⟩ := vals2 r
  cases (show u2 = Value.ref tp from r2)
  obtain ⟨t, ht⟩ := Option.isSome_iff_exists.mp (hi.ty d b ha)
  obtain ⟨P, Z, p, hx⟩ := ty_of I r1 sf ro ht (hi.cls d b ha)
  obtain ⟨_, its, rv, o, h1, h2, n, h3⟩ := (show ObjOk X.prog X.w H s.heap tp (.tup cs) from I.hok tp _ hT)
  have e3 := ClsV.all hc rv
  subst e3
  obtain ⟨oc, od, dt, sl⟩ := o
  simp only at h2 h3
  subst h2 h3
  exact PySem.W.kia_tup Z I.kIn p h1 (hi.yes d t b ht ha) hx fun tk => ⟨.bl b, H, I.tok tk, rfl, q⟩
section
variable {e a b : Expr} {fa fb : Slots → R DV} {pos p : Pos}
def isiV (ans : DV → Option Bool) (fa : Slots → R DV) : Slots → R DV := fun env => (fa env).bind fun d => lift ((ans d).map .bl)
/-- isinstance(a, T), T written and known -/
theorem de_isi {c : V} {u : Value} {ans : DV → Option Bool} (hm : X.mg "isinstance" = none) (ha : DT X Γ W a fa) (hb : PE X b (tC c)) (hc : ClsV c u) (hi : Isi X.K Γ [u] ans) (hg : Gl X "isinstance" := by rfl)
    (he : starEach [a, b] X.env = (false, eval a X.env) :: starEach [b] X.env := by rfl) (he2 : starEach [b] X.env = (false, eval b X.env) :: starEach [] X.env := by rfl) (hpl : (backTo pos (starEach [b] X.env)).any (·.1) = false := by rfl) :
    DE X Γ W (.Call (.Name "isinstance" p) [a, b] [] pos) (isiV ans fa) :=
  ⟨pe_imp (pe_callB (call_isD (Γ := Γ)) hg hm boot_isinstance (pa_cons ha.pe (pa_cons hb pa_nil he2) he) (by decide) (by decide) he hpl) fun σ H Q ⟨F, As, env, S, q⟩ => by
    refine ⟨F, As, env, S, ?_⟩
    unfold isiV at q
    cases ha : fa env with
    | stuck => rw [ha] at q; exact q
    | ex x => rw [ha] at q; exact q
    | ok dx =>
      rw [ha] at q
      intro x F1 H1 A1 x1 r1
      simp only [R.bind] at q
      cases hd : ans dx with
      | none => rw [hd] at q; exact q.elim
      | some k =>
        rw [hd] at q
        exact ⟨x, c, u, F1, dx, A1, ans, k, rfl, hc, x1.fh, r1, hi, hd, q _ F1 H1 [] x1 .nil (.frz (.bl k))⟩⟩
/-- several classes, in a tuple -/
def tCs (cs : List V) : TA := fun _ H Q => Q cs H
theorem pa_cs {es : List Expr} {cs : List V} {c : V} (h : PE X e (tC c)) (hr : PA X es (tCs cs)) (he : starEach (e :: es) X.env = (false, eval e X.env) :: starEach es X.env := by rfl) : PA X (e :: es) (tCs (c :: cs)) := pa_imp (pa_cons h hr he) fun σ H Q q => q
theorem pa_cs0 : PA X [] (tCs []) := pa_imp pa_nil fun σ H Q q => q
theorem de_isiT {es : List Expr} {kx : Nat} {pos' : Pos} {cs : List V} {us : List Value} {ans : DV → Option Bool} (hm : X.mg "isinstance" = none) (ha : DT X Γ W a fa) (hb : PA X es (tCs cs)) (hl : cs.length ≤ 100) (hc : Paired ClsV cs us) (hi : Isi X.K Γ us ans) (hg : Gl X "isinstance" := by rfl)
    (he : starEach [a, .Tuple es kx pos'] X.env = (false, eval a X.env) :: starEach [.Tuple es kx pos'] X.env := by rfl) (he2 : starEach [.Tuple es kx pos'] X.env = (false, eval (.Tuple es kx pos') X.env) :: starEach [] X.env := by rfl) (hpl : (backTo pos (starEach [.Tuple es kx pos'] X.env)).any (·.1) = false := by rfl) :
    DE X Γ W (.Call (.Name "isinstance" p) [a, .Tuple es kx pos'] [] pos) (isiV ans fa) :=
  ⟨pe_imp (pe_callB (call_isDT (Γ := Γ)) hg hm boot_isinstance (pa_cons ha.pe (pa_cons (pe_tup hb) pa_nil he2) he) (by decide) (by decide) he hpl) fun σ H Q ⟨F, As, env, S, q⟩ => by
    refine ⟨F, As, env, S, ?_⟩
    unfold isiV at q
    cases ha : fa env with
    | stuck => rw [ha] at q; exact q
    | ex x => rw [ha] at q; exact q
    | ok dx =>
      rw [ha] at q
      intro x F1 H1 A1 x1 r1
      simp only [R.bind] at q
      cases hd : ans dx with
      | none => rw [hd] at q; exact q.elim
      | some k =>
        rw [hd] at q
        refine ⟨by rw [sizeLine_eq]; omega, fun tp htp => ?_⟩
        have x2 : Ext F H F1 (upd H1 tp (.tup cs)) := x1.trans (.own x1.fh htp)
        exact ⟨x, tp, cs, us, F1, dx, A1, ans, k, rfl, upd_same, hc, x2.fh, r1.ext (.own x1.fh htp), hi, hd, q _ F1 _ [] x2 .nil (.frz (.bl k))⟩⟩
end
end
end DL
end
section
set_option maxHeartbeats 1000000
namespace DL
open PySem L2 PyProof.Rows

/-- F0: what was shared at the entry; H0: the heap at the entry; W: what of it may be written; self: what slot 0 holds throughout (a method's self) -/
structure Base where
  F0 : Hp
  H0 : Hp
  W : List Addr
  self : Option V
structure RelAt (g : Gc) (B : Base) (F : Hp) (As : List Addr) (σ : L2.St) (H : Hp) (env : Slots) : Prop where
  sa : SA g F As σ H env
  f0 : Same B.F0 F
  fr : ∀ a o, F a = some o → B.F0 a = none → B.H0 a = none ∨ a ∈ B.W
  fm : ∀ a o, B.H0 a = some o → a ∉ B.W → H a = some o
  ft : ∀ a o, B.H0 a = some o → ∃ o', H a = some o'
  ow : ∀ a ∈ As, B.H0 a = none ∨ a ∈ B.W
  pin : ∀ v, B.self = some v → (∃ c fs, env[0]? = some (some (.obj c fs))) → σ[0]? = some (some v)
/-- a value that is held besides the slots -/
structure Kept (g : Gc) (B : Base) (F : Hp) (As : List Addr) (H : Hp) (v : V) (d : DV) (A : List Addr) : Prop where
  r : RO g F H v d A
  nd : ∀ a, As.count a + A.count a ≤ 1
  nF : ∀ a ∈ A, F a = none
  ow : ∀ a ∈ A, B.H0 a = none ∨ a ∈ B.W
section
variable {g : Gc} {B : Base} {F F' H H' : Hp} {As A : List Addr} {σ : L2.St} {env : Slots} {v : V} {d : DV} {i : Nat}
theorem RF.notobj (r : RF g F v d) : ∀ c fs, d ≠ .obj c fs := fun c fs e => by subst e; cases r
theorem pin_set {x : Option V} {w : V} (hi : i ≠ 0 ∨ ∀ c fs, d ≠ .obj c fs) (h : (∃ c fs, env[0]? = some (some (.obj c fs))) → σ[0]? = some (some w)) : (∃ c fs, (env.set i (some d))[0]? = some (some (.obj c fs))) → (σ.set i x)[0]? = some (some w) := by
  rintro ⟨c, fs, e⟩
  by_cases h0 : i = 0
  · subst h0
    rcases hi with hi | hi
    · exact absurd rfl hi
    · cases env with
      | nil => cases e
      | cons y l =>
        have e : some (some d) = some (some (DV.obj c fs)) := e
        cases e
        exact absurd rfl (hi c fs)
  · rw [List.getElem?_set_ne h0] at e ⊢
    exact h ⟨c, fs, e⟩
theorem pin_frz {w : V} (h : (∃ c fs, env[0]? = some (some (.obj c fs))) → σ[0]? = some (some w)) : (∃ c fs, (env.set i (some (freeze d)))[0]? = some (some (.obj c fs))) → σ[0]? = some (some w) := by
  rintro ⟨c, fs, e⟩
  by_cases h0 : i = 0
  · subst h0
    cases env with
    | nil => cases e
    | cons y l =>
      have e : some (some (DL.freeze d)) = some (some (DV.obj c fs)) := e
      have e : DL.freeze d = DV.obj c fs := Option.some.inj (Option.some.inj e)
      cases d <;> simp [DL.freeze] at e
  · rw [List.getElem?_set_ne h0] at e
    exact h ⟨c, fs, e⟩
theorem RelAt.ext (x : Ext F H F' H') (R : RelAt g B F As σ H env) : RelAt g B F' As σ H' env := by
  refine ⟨R.sa.ext x, R.f0.trans x.ff, fun a o e n => ?_, fun a o e n => x.hh a o (R.fm a o e n), fun a o e => ?_, R.ow, R.pin⟩
  · cases q : F a with
    | some u => exact R.fr a u q n
    | none =>
      have hn := x.new a o e q
      refine .inl ?_
      cases q0 : B.H0 a with
      | none => rfl
      | some u =>
        obtain ⟨o', ho'⟩ := R.ft a u q0
        rw [hn] at ho'; cases ho'
  · obtain ⟨o', ho'⟩ := R.ft a o e
    exact ⟨o', x.hh a o' ho'⟩
/-- what a pure step made is held besides -/
theorem RelAt.keep (x : Ext F H F' H') (R : RelAt g B F As σ H env) (f : Fresh F' H A) (r : RO g F' H' v d A) : Kept g B F' As H' v d A := by
  refine ⟨r, fun a => ?_, f.nF, fun a ha => .inl ?_⟩
  · have h1 := R.sa.nd a
    have h2 := f.nd a
    by_cases c : a ∈ A
    · by_cases c2 : a ∈ As
      · obtain ⟨o, ho⟩ := R.sa.sl.there a c2
        rw [f.nH a c] at ho; cases ho
      · have := List.count_eq_zero.mpr c2
        omega
    · have := List.count_eq_zero.mpr c
      omega
  · cases q0 : B.H0 a with
    | none => rfl
    | some u =>
      obtain ⟨o', ho'⟩ := R.ft a u q0
      rw [f.nH a ha] at ho'; cases ho'
theorem RelAt.put (R : RelAt g B F As σ H env) (K : Kept g B F As H v d A) (hi : i ≠ 0 ∨ ∀ c fs, d ≠ .obj c fs) : ∃ As', RelAt g B F As' (σ.set i (some v)) H (env.set i (some d)) := by
  obtain ⟨As', s', cnt⟩ := RE.put i R.sa.sl K.r
  have sub : ∀ a ∈ As', a ∈ As ∨ a ∈ A := fun a ha => by
    have h1 := cnt a
    have h2 := cpos.mp ha
    by_cases c : 0 < As.count a
    · exact .inl (cpos.mpr c)
    · exact .inr (cpos.mpr (by omega))
  refine ⟨As', ⟨R.sa.fh, s', fun a => ?_, fun a ha => ?_⟩, R.f0, R.fr, R.fm, R.ft, fun a ha => ?_, fun w e => pin_set hi (R.pin w e)⟩
  · have h1 := cnt a
    have h2 := K.nd a
    omega
  · rcases sub a ha with h | h
    · exact R.sa.fx a h
    · exact K.nF a h
  · rcases sub a ha with h | h
    · exact R.ow a h
    · exact K.ow a h
/-- a shared value goes into a slot -/
theorem RelAt.putF (R : RelAt g B F As σ H env) (r : RF g F v d) : ∃ As', RelAt g B F As' (σ.set i (some v)) H (env.set i (some d)) :=
  R.put (A := []) ⟨.frz r, fun a => by have := R.sa.nd a; simpa using this, (fun _ h => nomatch h), fun _ h => nomatch h⟩ (.inr (RF.notobj r))
/-- a slot's own content is shared from now on -/
theorem RelAt.freeze (R : RelAt g B F As σ H env) (e : env[i]? = some (some d)) : ∃ F' As', Same F F' ∧ RelAt g B F' As' σ H (env.set i (some (freeze d))) := by
  obtain ⟨v, A, B', h1, h2, h3, h4⟩ := R.sa.sl.get e
  have nF : ∀ a ∈ A, F a = none := fun a ha => R.sa.fx a (cpos.mpr (by have := h4 a; have := cpos.mp ha; omega))
  have sF : Same F (DL.ext F H A) := ext_same nF
  have sub : ∀ a ∈ B', a ∈ As := fun a ha => cpos.mpr (by have := h4 a; have := cpos.mp ha; omega)
  have notA : ∀ a ∈ B', a ∉ A := fun a hb ha => by
    have := R.sa.nd a
    have := h4 a
    have := cpos.mp hb
    have := cpos.mp ha
    omega
  have r' := RO.freeze h2 nF
  obtain ⟨Bf, s', cnt⟩ := RE.back (i := i) (h3.mono sF (H' := H) fun _ _ => rfl) h1 (.frz r')
  have es : (env.set i none).set i (some (DL.freeze d)) = env.set i (some (DL.freeze d)) := List.set_set ..
  rw [es] at s'
  have sub' : ∀ a ∈ Bf, a ∈ B' := fun a ha => cpos.mpr (by have h1 := cnt a; have h2 := cpos.mp ha; rw [List.count_nil] at h1; omega)
  refine ⟨DL.ext F H A, Bf, sF, ⟨ext_sub R.sa.fh, s', fun a => ?_, fun a ha => ?_⟩, R.f0.trans sF, fun a o q n => ?_, R.fm, R.ft, fun a ha => R.ow a (sub a (sub' a ha)), fun w q => pin_frz (R.pin w q)⟩
  · have h1 := cnt a
    have h2 := h4 a
    have h3 := R.sa.nd a
    rw [List.count_nil] at h1
    omega
  · rw [ext_out (notA a (sub' a ha))]
    exact R.sa.fx a (sub a (sub' a ha))
  · by_cases ha : a ∈ A
    · exact R.ow a (cpos.mpr (by have := h4 a; have := cpos.mp ha; omega))
    · rw [ext_out ha] at q
      exact R.fr a o q n
end

/-! ### statements -/
inductive Out where
  | nx (env : Slots) | rt (d : DV) (env : Slots) | bk (env : Slots) | ct (env : Slots) | ex (x : Exn) (env : Slots) | stuck
def PostS (g : Gc) (B : Base) (W : WX) (F : Hp) (D : Ends) : Out → Prop
  | .nx env => ∀ F' As σ H, Same F F' → RelAt g B F' As σ H env → D.nx σ H
  | .rt d env => ∀ v F' As A σ H, Same F F' → RelAt g B F' As σ H env → Kept g B F' As H v d A → D.rt v H
  | .bk env => ∀ F' As σ H, Same F F' → RelAt g B F' As σ H env → D.bk σ H
  | .ct env => ∀ F' As σ H, Same F F' → RelAt g B F' As σ H env → D.ct σ H
  | .ex x env => ∀ cls dx F' As σ H, Same F F' → RelAt g B F' As σ H env → XOk g F' cls dx x → W cls dx σ H
  | .stuck => False
theorem PostS.mono {g : Gc} {B : Base} {W : WX} {F F' : Hp} {D : Ends} (s : Same F F') : ∀ {o : Out}, PostS g B W F D o → PostS g B W F' D o
  | .nx _, h => fun F1 As σ H s1 R => h F1 As σ H (s.trans s1) R
  | .rt _ _, h => fun v F1 As A σ H s1 R K => h v F1 As A σ H (s.trans s1) R K
  | .bk _, h => fun F1 As σ H s1 R => h F1 As σ H (s.trans s1) R
  | .ct _, h => fun F1 As σ H s1 R => h F1 As σ H (s.trans s1) R
  | .ex _ _, h => fun c d F1 As σ H s1 R K => h c d F1 As σ H (s.trans s1) R K
  | .stuck, h => h
/-- other ends -/
theorem PostS.ends {g : Gc} {B : Base} {W : WX} {F : Hp} {D D' : Ends} (h1 : ∀ σ H, D.nx σ H → D'.nx σ H) (h2 : ∀ v H, D.rt v H → D'.rt v H) (h3 : ∀ σ H, D.bk σ H → D'.bk σ H) (h4 : ∀ σ H, D.ct σ H → D'.ct σ H) : ∀ {o : Out}, PostS g B W F D o → PostS g B W F D' o
  | .nx _, h => fun F1 As σ H s1 R => h1 _ _ (h F1 As σ H s1 R)
  | .rt _ _, h => fun v F1 As A σ H s1 R K => h2 _ _ (h v F1 As A σ H s1 R K)
  | .bk _, h => fun F1 As σ H s1 R => h3 _ _ (h F1 As σ H s1 R)
  | .ct _, h => fun F1 As σ H s1 R => h4 _ _ (h F1 As σ H s1 R)
  | .ex _ _, h => h
  | .stuck, h => h
def rdS (g : Gc) (W : WX) (G : Slots → Out) : TS := fun D σ H => ∃ B F As env, RelAt g B F As σ H env ∧ PostS g B W F D (G env)
structure DS (X : Cx) (Γ : Str → Option Addr) (W : WX) (st : Stmt) (G : Slots → Out) : Prop where
  ps : PS X st (rdS ⟨X.K, Γ⟩ W G)
structure DSs (X : Cx) (Γ : Str → Option Addr) (W : WX) (st : List Stmt) (G : Slots → Out) : Prop where
  pss : PSs X st (rdS ⟨X.K, Γ⟩ W G)

def bindE (f : Slots → R DV) (k : DV → Slots → Out) : Slots → Out := fun env => match f env with
  | .ok d => k d env
  | .ex x => .ex x env
  | .stuck => .stuck
def bindB (f : Slots → R Bool) (k : Bool → Slots → Out) : Slots → Out := fun env => match f env with
  | .ok d => k d env
  | .ex x => .ex x env
  | .stuck => .stuck
def seqS (a b : Slots → Out) : Slots → Out := fun env => match a env with
  | .nx e => b e
  | o => o
def nxS : Slots → Out := fun env => .nx env

section
variable {X : Cx} {Γ : Str → Option Addr} {W : WX} {e a b c : Expr} {f fa fb : Slots → R DV} {pos : Pos} {st : Stmt} {rest sa sb : List Stmt} {G G' : Slots → Out} {fc : Slots → R Bool}

theorem rdS_E {k : DV → Slots → Out} {T : V → TS} (ht : ∀ v d B F As env A D σ H, RelAt ⟨X.K, Γ⟩ B F As σ H env → Kept ⟨X.K, Γ⟩ B F As H v d A → PostS ⟨X.K, Γ⟩ B W F D (k d env) → T v D σ H) {D : Ends} {σ : L2.St} {H : Hp}
    (q : rdS ⟨X.K, Γ⟩ W (bindE f k) D σ H) : rdE ⟨X.K, Γ⟩ W f σ H fun v H1 => T v D σ H1 := by
  obtain ⟨B, F, As, env, R, q⟩ := q
  refine ⟨F, As, env, R.sa, ?_⟩
  unfold bindE at q
  cases hf : f env with
  | stuck => rw [hf] at q; exact q
  | ex x =>
    rw [hf] at q
    exact fun cls dx F' H' xx o => q cls dx F' As σ H' xx.ff (R.ext xx) o
  | ok d =>
    rw [hf] at q
    exact fun v F' H' A xx fr r => ht v d B F' As env A D σ H' (R.ext xx) (R.keep xx fr r) (q.mono xx.ff)
theorem rdS_B {k : Bool → Slots → Out} {T : Bool → TS} (ht : ∀ c D σ H, rdS ⟨X.K, Γ⟩ W (k c) D σ H → T c D σ H) {D : Ends} {σ : L2.St} {H : Hp}
    (q : rdS ⟨X.K, Γ⟩ W (bindB fc k) D σ H) : rdT ⟨X.K, Γ⟩ W fc σ H fun c H1 => T c D σ H1 := by
  obtain ⟨B, F, As, env, R, q⟩ := q
  refine ⟨F, As, env, R.sa, ?_⟩
  unfold bindB at q
  cases hf : fc env with
  | stuck => rw [hf] at q; exact q
  | ex x =>
    rw [hf] at q
    exact fun cls dx F' H' xx o => q cls dx F' As σ H' xx.ff (R.ext xx) o
  | ok c =>
    rw [hf] at q
    exact fun F' H' xx => ht c D σ H' ⟨B, F', As, env, R.ext xx, q.mono xx.ff⟩

/-! blocks -/
theorem dss_nil : DSs X Γ W [] nxS := ⟨pss_imp pss_nil fun D σ H ⟨B, F, As, env, R, q⟩ => q F As σ H (.refl F) R⟩
theorem rdS_seq {D : Ends} {σ : L2.St} {H : Hp} (q : rdS ⟨X.K, Γ⟩ W (seqS G G') D σ H) : tSeq (rdS ⟨X.K, Γ⟩ W G) (rdS ⟨X.K, Γ⟩ W G') D σ H := by
  obtain ⟨B, F, As, env, R, q⟩ := q
  refine ⟨B, F, As, env, R, ?_⟩
  unfold seqS at q
  cases hg : G env with
  | nx e1 => rw [hg] at q; exact fun F' As' σ' H' s R' => ⟨B, F', As', e1, R', q.mono s⟩
  | rt d e1 => rw [hg] at q; exact q
  | bk e1 => rw [hg] at q; exact q
  | ct e1 => rw [hg] at q; exact q
  | ex x e1 => rw [hg] at q; exact q
  | stuck => rw [hg] at q; exact q
theorem dss_cons (h1 : DS X Γ W st G) (h2 : DSs X Γ W rest G') : DSs X Γ W (st :: rest) (seqS G G') := ⟨pss_imp (pss_cons h1.ps h2.pss) fun D σ H q => rdS_seq q⟩
theorem dss_one (h1 : DS X Γ W st G) : DSs X Γ W [st] G := ⟨pss_one h1.ps⟩
/-- a slot is shared from here on -/
def frzS (i : Nat) : Slots → Out := fun env => match env[i]? with
  | some (some d) => .nx (env.set i (some (freeze d)))
  | _ => .stuck
theorem dss_frz (i : Nat) (h : DSs X Γ W sa G) : DSs X Γ W sa (seqS (frzS i) G) := ⟨pss_imp h.pss fun D σ H ⟨B, F, As, env, R, q⟩ => by
  unfold seqS frzS at q
  cases he : env[i]? with
  | none => rw [he] at q; exact q.elim
  | some x =>
    cases x with
    | none => rw [he] at q; exact q.elim
    | some d =>
      rw [he] at q
      obtain ⟨F', As', s, R'⟩ := R.freeze he
      exact ⟨B, F', As', _, R', q.mono s⟩⟩

/-! small statements -/
theorem ds_pass : DS X Γ W (.Pass pos) nxS := ⟨ps_imp ps_pass fun D σ H ⟨B, F, As, env, R, q⟩ => q F As σ H (.refl F) R⟩
def bkS : Slots → Out := fun env => .bk env
def ctS : Slots → Out := fun env => .ct env
theorem ds_break : DS X Γ W (.Break pos) bkS := ⟨ps_imp ps_break fun D σ H ⟨B, F, As, env, R, q⟩ => q F As σ H (.refl F) R⟩
theorem ds_continue : DS X Γ W (.Continue pos) ctS := ⟨ps_imp ps_continue fun D σ H ⟨B, F, As, env, R, q⟩ => q F As σ H (.refl F) R⟩
def dropS (f : Slots → R DV) : Slots → Out := bindE f fun _ env => .nx env
theorem ds_expr (he : DE X Γ W e f) (hs : swapsWith e none pos.line X.env = pure false := by rfl) : DS X Γ W (.Expr e pos) (dropS f) :=
  ⟨ps_imp (ps_expr he.pe hs) fun D σ H q => rdS_E (k := fun _ env => .nx env) (T := fun _ D σ H => D.nx σ H) (fun v d B F As env A D σ H R K q => q F As σ H (.refl F) R) q⟩
def retS (f : Slots → R DV) : Slots → Out := bindE f fun d env => .rt d env
theorem ds_ret (he : DE X Γ W e f) : DS X Γ W (.Return (some e) pos) (retS f) :=
  ⟨ps_imp (ps_ret he.pe) fun D σ H q => rdS_E (k := fun d env => .rt d env) (T := fun v D σ H => D.rt v H) (fun v d B F As env A D σ H R K q => q v F As A σ H (.refl F) R K) q⟩
theorem ds_retN : DS X Γ W (.Return none pos) (fun env => .rt .non env) :=
  ⟨ps_imp ps_retN fun D σ H ⟨B, F, As, env, R, q⟩ => q .non F As [] σ H (.refl F) R ⟨.frz .non, fun a => by have := R.sa.nd a; simpa using this, (fun _ h => nomatch h), fun _ h => nomatch h⟩⟩
def setS (i : Nat) (f : Slots → R DV) : Slots → Out := bindE f fun d env => .nx (env.set i (some d))
/-- name = value; slot 0 of a method stays -/
theorem ds_set {i : Nat} {x : Str} {pos' : Pos} (hN : X.N.Nodup) (he : DE X Γ W e f) (h0 : i ≠ 0) (hi : X.N[i]? = some x := by rfl) (hx : Loc X.env.scope x := by first | exact .inl rfl | exact .inr rfl)
    (hs : swapsWith e (some (.Name x pos')) pos.line X.env = pure false := by rfl) (hf : X.fn x = true ∨ X.env.scope.names.lookup x = some .local := by first | exact .inl rfl | exact .inr rfl) :
    DS X Γ W (.Assign [.Name x pos'] e pos) (setS i f) :=
  ⟨ps_imp (ps_set hN hi hx he.pe hs hf) fun D σ H q => rdS_E (k := fun d env => .nx (env.set i (some d))) (T := fun v D σ H => gName i v σ H D.nx) (fun v d B F As env A D σ H R K q => by
    obtain ⟨As', R'⟩ := R.put K (.inl h0)
    exact q F As' _ H (.refl F) R') q⟩
def isObj : DV → Bool
  | .obj _ _ => true
  | _ => false
def setS0 (i : Nat) (f : Slots → R DV) : Slots → Out := bindE f fun d env => if isObj d then .stuck else .nx (env.set i (some d))
/-- .. slot 0 of a def that is no method -/
theorem ds_set0 {i : Nat} {x : Str} {pos' : Pos} (hN : X.N.Nodup) (he : DE X Γ W e f) (hi : X.N[i]? = some x := by rfl) (hx : Loc X.env.scope x := by first | exact .inl rfl | exact .inr rfl)
    (hs : swapsWith e (some (.Name x pos')) pos.line X.env = pure false := by rfl) (hf : X.fn x = true ∨ X.env.scope.names.lookup x = some .local := by first | exact .inl rfl | exact .inr rfl) :
    DS X Γ W (.Assign [.Name x pos'] e pos) (setS0 i f) :=
  ⟨ps_imp (ps_set hN hi hx he.pe hs hf) fun D σ H q => rdS_E (k := fun d env => if isObj d then .stuck else .nx (env.set i (some d))) (T := fun v D σ H => gName i v σ H D.nx) (fun v d B F As env A D σ H R K q => by
    by_cases c : isObj d = true
    · simp only [if_pos c] at q
      exact q.elim
    · simp only [if_neg c] at q
      obtain ⟨As', R'⟩ := R.put K (.inr fun c' fs e => by subst e; exact c rfl)
      exact q F As' _ H (.refl F) R') q⟩
def ifS (c : Slots → R Bool) (G G' : Slots → Out) : Slots → Out := bindB c fun k env => if k = true then G env else G' env
theorem ds_if (hc : DB X Γ W c fc) (ha : DSs X Γ W sa G) (hb : DSs X Γ W sb G') : DS X Γ W (.If c sa sb pos) (ifS fc G G') :=
  ⟨ps_imp (ps_if hc.pt ha.pss hb.pss) fun D σ H q => rdS_B (k := fun k env => if k = true then G env else G' env) (T := fun k D σ H => if k = true then rdS ⟨X.K, Γ⟩ W G D σ H else rdS ⟨X.K, Γ⟩ W G' D σ H) (fun c D σ H q => by
    cases c with
    | true => exact q
    | false => exact q) q⟩

/-! while, by a number of turns that is enough -/
def whileS (fc : Slots → R Bool) (G : Slots → Out) : Nat → Slots → Out
  | 0 => fun _ => .stuck
  | n + 1 => bindB fc fun k env => if k = true then (match G env with
      | .nx e => whileS fc G n e
      | .ct e => whileS fc G n e
      | .bk e => .nx e
      | o => o) else .nx env
theorem ds_while (n : Slots → Nat) (hp : PassesOwn (model X.prog X.w) X.A X.env X.xe) (hc : DB X Γ W c fc) (hb : DSs X Γ W sa G) : DS X Γ W (.While c sa [] pos) (fun env => whileS fc G (n env) env) :=
  ⟨ps_imp (ps_while hp hc.pt hb.pss) fun D σ H ⟨B, F, As, env, R, q⟩ => by
    refine ⟨fun m σ' H' => ∃ F' As' env', Same F F' ∧ RelAt ⟨X.K, Γ⟩ B F' As' σ' H' env' ∧ PostS ⟨X.K, Γ⟩ B W F' D (whileS fc G m env'), ⟨n env, F, As, env, .refl F, R, q⟩, ?_⟩
    rintro m σ1 H1 ⟨F1, As1, env1, s1, R1, q1⟩
    cases m with
    | zero => exact q1.elim
    | succ m =>
      refine ⟨F1, As1, env1, R1.sa, ?_⟩
      unfold whileS bindB at q1
      cases hf : fc env1 with
      | stuck => rw [hf] at q1; exact q1
      | ex x =>
        rw [hf] at q1
        exact fun cls dx F' H' xx o => q1 cls dx F' As1 σ1 H' xx.ff (R1.ext xx) o
      | ok k =>
        rw [hf] at q1
        intro F2 H2 xx
        cases k with
        | false =>
          exact q1 F2 As1 σ1 H2 xx.ff (R1.ext xx)
        | true =>
          refine ⟨fun σ' H' => ∃ F' As' env', Same F F' ∧ RelAt ⟨X.K, Γ⟩ B F' As' σ' H' env' ∧ PostS ⟨X.K, Γ⟩ B W F' D (whileS fc G m env'), fun σ' H' h => ⟨m, Nat.lt_succ_self m, h⟩, B, F2, As1, env1, R1.ext xx, ?_⟩
          have q2 := q1.mono xx.ff
          simp only [if_true] at q2
          have s2 : Same F F2 := s1.trans xx.ff
          cases hg : G env1 with
          | nx e => rw [hg] at q2; exact fun F' As' σ' H' s R' => ⟨F', As', e, s2.trans s, R', q2.mono s⟩
          | ct e => rw [hg] at q2; exact fun F' As' σ' H' s R' => ⟨F', As', e, s2.trans s, R', q2.mono s⟩
          | bk e => rw [hg] at q2; exact q2
          | rt d e => rw [hg] at q2; exact q2
          | ex x e => rw [hg] at q2; exact q2
          | stuck => rw [hg] at q2; exact q2⟩
end
end DL
end
section
set_option maxHeartbeats 1000000
namespace DL
open PySem L2 PyProof.Rows

/-! ### what is walked -/
/-- J gives the values ds, one a turn, as long as what is shared in F stands -/
structure DWk (g : Gc) (J : It) (F : Hp) (ds : List DV) : Prop where
  go : ∀ i H, i < ds.length → Same F H → J.go i H
  stop : ∀ H, Same F H → J.stop ds.length H
  yld : ∀ i F1 H x H1, i < ds.length → Same F F1 → Same F1 H → J.yld i H x H1 → ∃ F2 d, Ext F1 H F2 H1 ∧ ds[i]? = some d ∧ RF g F2 x d
def rdI (g : Gc) (W : WX) (f : Slots → R (List DV)) : TI := fun σ H R => ∃ F As env, SA g F As σ H env ∧ match f env with
  | .ok ds => ∀ J F' H', Ext F H F' H' → DWk g J F' ds → R J H'
  | .ex x => ∀ cls dx F' H', Ext F H F' H' → XOk g F' cls dx x → W cls dx σ H'
  | .stuck => False
structure DI (X : Cx) (Γ : Str → Option Addr) (W : WX) (tg iter : Expr) (f : Slots → R (List DV)) : Prop where
  pi : PI X tg iter (rdI ⟨X.K, Γ⟩ W f)
theorem pi_imp {X : Cx} {tg iter : Expr} {t t' : TI} (h : PI X tg iter t) (i : ∀ σ H Q, t' σ H Q → t σ H Q) : PI X tg iter t' := ⟨fun pins s σ H R I q => h.run pins s σ H R I (i _ _ _ q)⟩
/-- the numbers lo, lo + 1, .. -/
theorem dwk_range {g : Gc} {F : Hp} {lo hi : Int} : DWk g (Itr lo (hi - lo).toNat) F (rngL lo hi) := by
  have hl : (rngL lo hi).length = (hi - lo).toNat := by unfold rngL; simp
  refine ⟨fun i H h _ => by rw [hl] at h; exact h, fun H _ => by rw [hl]; exact Nat.le_refl _, fun i F1 H x H1 h _ s1 y => ?_⟩
  obtain ⟨rfl, rfl⟩ := y
  rw [hl] at h
  refine ⟨F1, _, .refl s1, ?_, .int _⟩
  unfold rngL
  rw [List.getElem?_map, List.getElem?_range h]
  rfl
/-- the items of a shared list, of a shared tuple, the signs of a text -/
theorem dwk_list {g : Gc} {F : Hp} {p : Addr} {vs : List V} {ds : List DV} (h : SqL g.K F p vs) (r : RFs g F vs ds) : DWk g (Itl g.K p) F ds := by
  refine ⟨fun i H hi s => ?_, fun H s => ⟨vs, sqL_same s h, by rw [r.len]; exact Nat.le_refl _⟩, fun i F1 H x H1 hi s s1 y => ?_⟩
  · obtain ⟨v, e1, _⟩ := r.get (List.getElem?_eq_getElem hi)
    exact ⟨vs, v, sqL_same s h, e1⟩
  · obtain ⟨rfl, y⟩ := y
    obtain ⟨d, e, rf⟩ := r.at (y vs (sqL_same (s.trans s1) h))
    exact ⟨F1, d, .refl s1, e, rf.mono s⟩
theorem dwk_tup {g : Gc} {F : Hp} {p : Addr} {vs : List V} {ds : List DV} (h : SqT g.K F p vs) (r : RFs g F vs ds) : DWk g (Itt g.K p) F ds := by
  refine ⟨fun i H hi s => ?_, fun H s => ⟨vs, sqT_same s h, by rw [r.len]; exact Nat.le_refl _⟩, fun i F1 H x H1 hi s s1 y => ?_⟩
  · obtain ⟨v, e1, _⟩ := r.get (List.getElem?_eq_getElem hi)
    exact ⟨vs, v, sqT_same s h, e1⟩
  · obtain ⟨rfl, y⟩ := y
    obtain ⟨d, e, rf⟩ := r.at (y vs (sqT_same (s.trans s1) h))
    exact ⟨F1, d, .refl s1, e, rf.mono s⟩
/-- the signs of a text -/
def signs (z : Str) : List DV := z.cps.toList.map fun c => .str ⟨#[c]⟩
theorem dwk_str {g : Gc} {F : Hp} {z : Str} : DWk g (Its z) F (signs z) := by
  have hl : (signs z).length = z.cps.size := by unfold signs; simp
  refine ⟨fun i H h _ => by rw [hl] at h; exact h, fun H _ => by rw [hl]; exact Nat.le_refl _, fun i F1 H x H1 h _ s1 y => ?_⟩
  obtain ⟨rfl, c, hc, rfl⟩ := y
  refine ⟨F1, _, .refl s1, ?_, .str _⟩
  unfold signs
  rw [List.getElem?_map, Array.getElem?_toList, hc]
  rfl
/-- a list, a tuple or a text -/
def iSeq (K : PySem.W.Frag) (tl : TE) : TI := fun σ H R => tl σ H fun x H1 => (∃ a xs, x = .ref a ∧ SqL K H1 a xs ∧ R (Itl K a) H1) ∨ (∃ a xs, x = .ref a ∧ SqT K H1 a xs ∧ R (Itt K a) H1) ∨ ∃ z, x = .str z ∧ R (Its z) H1
theorem pi_seq {X : Cx} {tg l : Expr} {tl : TE} (hl : PE X l tl) : PI X tg l (iSeq X.K tl) := by
  refine ⟨fun pins s σ H R I h => thn (hl.run pins s σ H _ I h) fun v s1 ⟨x, H1, I1, r1, q1⟩ => ?_⟩
  rcases q1 with ⟨a, xs, rfl, hq, q⟩ | ⟨a, xs, rfl, hq, q⟩ | ⟨z, rfl, q⟩
  · cases r1
    obtain ⟨its, rv, p, hz⟩ := I1.list hq
    exact wpAny_pyIter_list p.isList (pi_one (tk := s1.toks) I1 _ (turn_list a _) ⟨_, Heap.get?_push_size _ rfl, rfl, rfl⟩ q)
  · cases r1
    obtain ⟨its, rv, p, hz⟩ := I1.tuple hq
    exact wpAny_pyIter_tuple (show s1.heap.IsTuple a its.toArray from p) (pi_one (tk := s1.toks) I1 _ (turn_tuple a _) ⟨_, Heap.get?_push_size _ rfl, rfl, rfl⟩ q)
  · obtain ⟨t, rfl⟩ := r1
    cases ha : z.cps.all (· < 128)
    · exact wpAny_pyIter_wide ha (pi_one (tk := s1.toks) I1 _ (turn_str _ z t _ (.inr rfl)) ⟨_, Heap.get?_push_size _ rfl, rfl, rfl⟩ q)
    · exact wpAny_pyIter_ascii ha (pi_one (tk := s1.toks) I1 _ (turn_str _ z t _ (.inl rfl)) ⟨_, Heap.get?_push_size _ rfl, rfl, rfl⟩ q)
/-- what a loop over a value that is kept gives -/
def walkD : DV → Option (List DV)
  | .lst ds => some ds
  | .scr ds => some ds
  | .tup ds => some ds
  | .own ds => some (freezes ds)
  | .str z => some (signs z)
  | _ => none
def itS (f : Slots → R DV) : Slots → R (List DV) := fun env => (f env).bind fun d => lift (walkD d)
section
variable {X : Cx} {Γ : Str → Option Addr} {W : WX} {e a b c tg iter : Expr} {f fa fb : Slots → R DV} {pos p : Pos} {st : Stmt} {rest sa sb : List Stmt} {G G' : Slots → Out} {fc : Slots → R Bool}
theorem di_seq (h : DE X Γ W iter f) : DI X Γ W tg iter (itS f) :=
  ⟨pi_imp (pi_seq h.pe) fun σ H Q ⟨F, As, env, S, q⟩ => by
    refine ⟨F, As, env, S, ?_⟩
    unfold itS at q
    cases hf : f env with
    | stuck => rw [hf] at q; exact q
    | ex x => rw [hf] at q; exact q
    | ok d =>
      rw [hf] at q
      intro v F1 H1 A x1 fr r
      simp only [R.bind, lift] at q
      cases d with
      | lst ds =>
        obtain ⟨rf, _⟩ := r.frz_inv rfl
        cases rf with
        | lst h1 h2 => exact .inl ⟨_, _, rfl, .of (x1.fh _ _ h1), q _ F1 H1 x1 (dwk_list (g := ⟨X.K, Γ⟩) (.of h1) h2)⟩
      | scr ds =>
        obtain ⟨rf, _⟩ := r.frz_inv rfl
        cases rf with
        | scr h1 h2 => exact .inl ⟨_, _, rfl, sqL_same x1.fh h1, q _ F1 H1 x1 (dwk_list (g := ⟨X.K, Γ⟩) h1 h2)⟩
      | tup ds =>
        obtain ⟨rf, _⟩ := r.frz_inv rfl
        cases rf with
        | tup h1 h2 => exact .inr (.inl ⟨_, _, rfl, sqT_same x1.fh h1, q _ F1 H1 x1 (dwk_tup (g := ⟨X.K, Γ⟩) h1 h2)⟩)
      | str z =>
        cases r.str_inv
        exact .inr (.inr ⟨z, rfl, q _ F1 H1 x1 dwk_str⟩)
      | own ds =>
        have x2 : Ext F H (DL.ext F1 H1 A) H1 := ⟨x1.hh, x1.ff.trans (ext_same fr.nF), ext_sub x1.fh, fun a o e n => by
          by_cases ha : a ∈ A
          · exact fr.nH a ha
          · rw [ext_out ha] at e
            exact x1.new a o e n⟩
        have rf := RO.freeze r fr.nF
        cases r with
        | frz r => cases r
        | own h1 h2 =>
          unfold DL.freeze at rf
          cases rf with
          | lst h3 h4 => exact .inl ⟨_, _, rfl, .of (x2.fh _ _ h3), q _ _ H1 x2 (dwk_list (g := ⟨X.K, Γ⟩) (.of h3) h4)⟩
      | _ => exact q.elim⟩
def rgS1 (f : Slots → R DV) : Slots → R (List DV) := fun env => (f env).bind fun d => match d with
  | .int j => if inR j = true then .ok (rngL 0 j) else .stuck
  | _ => .stuck
theorem di_range1 (hm : X.mg "range" = none) (h : DT X Γ W a fa) (hg : Gl X "range" := by rfl) (hs : starEach [a] X.env = [(false, eval a X.env)] := by rfl) : DI X Γ W tg (.Call (.Name "range" p) [a] [] pos) (rgS1 fa) :=
  ⟨pi_imp (pi_range1 hg hm (pa_cons h.pe pa_nil hs) hs) fun σ H Q ⟨F, As, env, S, q⟩ => by
    refine ⟨F, As, env, S, ?_⟩
    unfold rgS1 at q
    cases hf : fa env with
    | stuck => rw [hf] at q; exact q
    | ex x => rw [hf] at q; exact q
    | ok d =>
      rw [hf] at q
      intro v F1 H1 A x1 r
      simp only [R.bind] at q
      cases d with
      | int j =>
        cases r.int_inv
        by_cases c : inR j = true
        · simp only [if_pos c] at q
          exact ⟨j, rfl, (inR_ok c).1, (inR_ok c).2, q _ F1 H1 x1 (by simpa using dwk_range (g := ⟨X.K, Γ⟩) (F := F1) (lo := 0) (hi := j))⟩
        · simp only [if_neg c] at q
      | _ => exact q.elim⟩
def rgS2 (fa fb : Slots → R DV) : Slots → R (List DV) := fun env => (fa env).bind fun d => (fb env).bind fun e => match d, e with
  | .int i, .int j => if (inR i && inR j) = true then .ok (rngL i j) else .stuck
  | _, _ => .stuck
theorem di_range2 (hm : X.mg "range" = none) (h : DT X Γ W a fa) (h2 : DT X Γ W b fb) (hg : Gl X "range" := by rfl) (hs : starEach [a, b] X.env = [(false, eval a X.env), (false, eval b X.env)] := by rfl) (hs2 : starEach [b] X.env = [(false, eval b X.env)] := by rfl)
    (hs3 : starEach [a, b] X.env = (false, eval a X.env) :: starEach [b] X.env := by rfl) : DI X Γ W tg (.Call (.Name "range" p) [a, b] [] pos) (rgS2 fa fb) :=
  ⟨pi_imp (pi_range2 hg hm (pa_cons h.pe (pa_cons h2.pe pa_nil hs2) hs3) hs hs2) fun σ H Q ⟨F, As, env, S, q⟩ => by
    refine ⟨F, As, env, S, ?_⟩
    unfold rgS2 at q
    cases hf : fa env with
    | stuck => rw [hf] at q; exact q
    | ex x => rw [hf] at q; exact q
    | ok d =>
      rw [hf] at q
      intro v F1 H1 A x1 r
      refine ⟨F1, As, env, S.ext x1, ?_⟩
      simp only [R.bind] at q
      cases hb : fb env with
      | stuck => rw [hb] at q; exact q.elim
      | ex x => rw [hb] at q; exact fun cls dx F' H' x2 o => q cls dx F' H' (x1.trans x2) o
      | ok d2 =>
        rw [hb] at q
        intro u F2 H2 A2 x2 r2
        cases d with
        | int i =>
          cases d2 with
          | int j =>
            cases r.int_inv
            cases r2.int_inv
            by_cases c : (inR i && inR j) = true
            · simp only [if_pos c] at q
              have c2 := Bool.and_eq_true_iff.mp c
              exact ⟨i, j, rfl, ⟨(inR_ok c2.1).1, (inR_ok c2.1).2, inR_ok c2.2⟩, q _ F2 H2 (x1.trans x2) dwk_range⟩
            · simp only [if_neg c] at q
          | _ => exact q.elim
        | _ => cases d2 <;> exact q.elim⟩

/-! ### targets -/
def rdG (g : Gc) (gt : DV → Slots → Option Slots) : TG := fun v σ H Q => ∃ B F As env d, RelAt g B F As σ H env ∧ RF g F v d ∧ match gt d env with
  | some env' => ∀ As' σ', RelAt g B F As' σ' H env' → Q σ' H
  | none => False
structure DG (X : Cx) (Γ : Str → Option Addr) (tg : Expr) (gt : DV → Slots → Option Slots) : Prop where
  pg : PG X tg (rdG ⟨X.K, Γ⟩ gt)
theorem pg_imp {X : Cx} {tg : Expr} {t t' : TG} (h : PG X tg t) (i : ∀ v σ H Q, t' v σ H Q → t v σ H Q) : PG X tg t' := ⟨fun pins s σ H v u Q I r q => h.run pins s σ H v u Q I r (i _ _ _ _ q)⟩
def nameG (i : Nat) : DV → Slots → Option Slots := fun d env => some (env.set i (some d))
theorem dg_name {i : Nat} {x : Str} (hN : X.N.Nodup) (hi : X.N[i]? = some x := by rfl) (hx : Loc X.env.scope x := by first | exact .inl rfl | exact .inr rfl) (hf : X.fn x = true ∨ X.env.scope.names.lookup x = some .local := by first | exact .inl rfl | exact .inr rfl) :
    DG X Γ (.Name x pos) (nameG i) :=
  ⟨pg_imp (pg_name hN hi hx hf) fun v σ H Q ⟨B, F, As, env, d, R, r, q⟩ => by
    obtain ⟨As', R'⟩ := R.putF r
    exact q As' _ R'⟩
def rdGs (g : Gc) (gt : List DV → Slots → Option Slots) : TGs := fun vs σ H Q => ∃ B F As env ds, RelAt g B F As σ H env ∧ RFs g F vs ds ∧ match gt ds env with
  | some env' => ∀ As' σ', RelAt g B F As' σ' H env' → Q σ' H
  | none => False
structure DGs (X : Cx) (Γ : Str → Option Addr) (tgs : List Expr) (gt : List DV → Slots → Option Slots) : Prop where
  pgs : PGs X tgs (rdGs ⟨X.K, Γ⟩ gt)
theorem pgs_imp {X : Cx} {tg : List Expr} {t t' : TGs} (h : PGs X tg t) (i : ∀ v σ H Q, t' v σ H Q → t v σ H Q) : PGs X tg t' := ⟨fun pins s σ H v u Q I r q => h.run pins s σ H v u Q I r (i _ _ _ _ q)⟩
def nilG : List DV → Slots → Option Slots := fun ds env => match ds with
  | [] => some env
  | _ => none
def consG (gt : DV → Slots → Option Slots) (gs : List DV → Slots → Option Slots) : List DV → Slots → Option Slots := fun ds env => match ds with
  | d :: ds => (gt d env).bind fun e => gs ds e
  | [] => none
theorem dgs_nil : DGs X Γ [] nilG := ⟨pgs_imp pgs_nil fun vs σ H Q ⟨B, F, As, env, ds, R, r, q⟩ => by
  cases r with
  | nil => exact ⟨rfl, q As σ R⟩
  | cons _ _ => exact q.elim⟩
theorem dgs_cons {es : List Expr} {gt : DV → Slots → Option Slots} {gs : List DV → Slots → Option Slots} (h1 : DG X Γ e gt) (h2 : DGs X Γ es gs) (hs : (assignEach (e :: es) X.env).map (·.2) = assign e X.env :: (assignEach es X.env).map (·.2) := by rfl) : DGs X Γ (e :: es) (consG gt gs) :=
  ⟨pgs_imp (pgs_cons h1.pg h2.pgs hs) fun vs σ H Q ⟨B, F, As, env, ds, R, r, q⟩ => by
    cases r with
    | nil => exact q.elim
    | @cons _ d _ ds r1 r2 =>
      refine ⟨_, _, rfl, B, F, As, env, _, R, r1, ?_⟩
      unfold consG at q
      cases hg : gt d env with
      | none => simp only [hg, Option.bind_none] at q
      | some env1 =>
        simp only [hg, Option.bind_some] at q
        exact fun As1 σ1 R1 => ⟨B, F, As1, env1, ds, R1, r2, q⟩⟩
def tupG (n : Nat) (gs : List DV → Slots → Option Slots) : DV → Slots → Option Slots := fun d env => match d with
  | .tup ds => if ds.length = n then gs ds env else none
  | _ => none
theorem dg_tup {es : List Expr} {k n : Nat} {gs : List DV → Slots → Option Slots} (hc : X.calm = true) (h : DGs X Γ es gs) (hn : (assignEach es X.env).length = n := by rfl) (hst : (assignEach es X.env).findIdx? (·.1) = none := by rfl) : DG X Γ (.Tuple es k pos) (tupG n gs) :=
  ⟨pg_imp (pg_tup hc h.pgs hn hst) fun v σ H Q ⟨B, F, As, env, d, R, r, q⟩ => by
    cases r with
    | @tup p vs ds h1 h2 =>
      have q : (match (if ds.length = n then gs ds env else none) with
        | some env' => ∀ As' σ', RelAt ⟨X.K, Γ⟩ B F As' σ' H env' → Q σ' H
        | none => False) := q
      by_cases c : ds.length = n
      · rw [if_pos c] at q
        exact ⟨p, vs, rfl, sqT_same R.sa.fh h1, by rw [h2.len]; exact c, B, F, As, env, ds, R, h2, q⟩
      · rw [if_neg c] at q
        exact q.elim
    | _ => exact q.elim⟩
/-- targets = a value -/
def asgS (f : Slots → R DV) (gt : DV → Slots → Option Slots) : Slots → Out := bindE f fun d env => if isFrz d = true then (match gt d env with
  | some e => .nx e
  | none => .stuck) else .stuck
theorem ds_asg {gt : DV → Slots → Option Slots} (he : DE X Γ W e f) (hg : DG X Γ tg gt) (hs : swapsWithSole [tg] e pos.line X.env = pure false := by rfl) (hw : swappedStores [tg] e X.env = pure none := by rfl)
    (h1 : (assignEach [tg] X.env).map (·.2) = [assign tg X.env] := by rfl) : DS X Γ W (.Assign [tg] e pos) (asgS f gt) :=
  ⟨ps_imp (ps_asg he.pe hg.pg hs hw h1) fun D σ H q => rdS_E (k := fun d env => if isFrz d = true then (match gt d env with | some e => .nx e | none => .stuck) else .stuck) (T := fun v D σ H => rdG ⟨X.K, Γ⟩ gt v σ H D.nx) (fun v d B F As env A D σ H R K q => by
    by_cases c : isFrz d = true
    · simp only [if_pos c] at q
      refine ⟨B, F, As, env, d, R, (K.r.frz_inv c).1, ?_⟩
      cases hg : gt d env with
      | none => rw [hg] at q; exact q
      | some e1 => rw [hg] at q; exact fun As' σ' R' => q F As' σ' H (.refl F) R'
    · simp only [if_neg c] at q
      exact q.elim) q⟩

/-! ### for -/
def loopS (gt : DV → Slots → Option Slots) (G : Slots → Out) : List DV → Slots → Out
  | [], env => .nx env
  | d :: ds, env => match gt d env with
    | none => .stuck
    | some e => match G e with
      | .nx e => loopS gt G ds e
      | .ct e => loopS gt G ds e
      | .bk e => .nx e
      | o => o
def forS (fs : Slots → R (List DV)) (gt : DV → Slots → Option Slots) (G : Slots → Out) : Slots → Out := fun env => match fs env with
  | .ok ds => loopS gt G ds env
  | .ex x => .ex x env
  | .stuck => .stuck
theorem ds_for {fs : Slots → R (List DV)} {gt : DV → Slots → Option Slots} (hp : PassesOwn (model X.prog X.w) X.A X.env X.xe) (hc : X.calm = true) (hi : DI X Γ W tg iter fs) (hg : DG X Γ tg gt) (hb : DSs X Γ W sa G)
    (hs : ∀ x, foldedSetIterable iter X.env x = pure x := by intro _; rfl) : DS X Γ W (.For tg iter sa [] pos) (forS fs gt G) :=
  ⟨ps_imp (ps_for hp hc hi.pi hg.pg hb.pss hs) fun D σ H ⟨B, F, As, env, R, q⟩ => by
    refine ⟨F, As, env, R.sa, ?_⟩
    unfold forS at q
    cases hf : fs env with
    | stuck => rw [hf] at q; exact q
    | ex x =>
      rw [hf] at q
      exact fun cls dx F' H' xx o => q cls dx F' As σ H' xx.ff (R.ext xx) o
    | ok ds =>
      rw [hf] at q
      intro J F1 H1 x1 wk
      refine ⟨fun i m σ' H' => m = ds.length - i ∧ i ≤ ds.length ∧ ∃ F' As' env', Same F1 F' ∧ RelAt ⟨X.K, Γ⟩ B F' As' σ' H' env' ∧ PostS ⟨X.K, Γ⟩ B W F' D (loopS gt G (ds.drop i) env'),
        ⟨ds.length, rfl, Nat.zero_le _, F1, As, env, .refl F1, R.ext x1, q.mono x1.ff⟩, ?_⟩
      rintro i m σ2 H2 ⟨rfl, hi, F2, As2, env2, s2, R2, q2⟩
      by_cases hlt : i < ds.length
      · refine .inr ⟨wk.go i H2 hlt (s2.trans R2.sa.fh), fun σ' H' => ∃ F' As' env', Same F1 F' ∧ RelAt ⟨X.K, Γ⟩ B F' As' σ' H' env' ∧ PostS ⟨X.K, Γ⟩ B W F' D (loopS gt G (ds.drop (i + 1)) env'),
          fun σ' H' h => ⟨ds.length - (i + 1), by omega, rfl, hlt, h⟩, fun x H3 y => ?_⟩
        obtain ⟨F3, d, x3, e3, r3⟩ := wk.yld i F2 H2 x H3 hlt s2 R2.sa.fh y
        have q3 := q2.mono x3.ff
        have ed : ds.drop i = d :: ds.drop (i + 1) := by
          rw [List.drop_eq_getElem_cons hlt]
          have : ds[i] = d := by
            rw [List.getElem?_eq_getElem hlt] at e3
            exact Option.some.inj e3
          rw [this]
        rw [ed] at q3
        unfold loopS at q3
        refine ⟨B, F3, As2, env2, d, R2.ext x3, r3, ?_⟩
        cases hgt : gt d env2 with
        | none => rw [hgt] at q3; exact q3
        | some env3 =>
          rw [hgt] at q3
          intro As4 σ4 R4
          refine ⟨B, F3, As4, env3, R4, ?_⟩
          have s3 : Same F1 F3 := s2.trans x3.ff
          dsimp only at q3
          cases hG : G env3 with
          | nx e => rw [hG] at q3; exact fun F' As' σ' H' s R' => ⟨F', As', e, s3.trans s, R', q3.mono s⟩
          | ct e => rw [hG] at q3; exact fun F' As' σ' H' s R' => ⟨F', As', e, s3.trans s, R', q3.mono s⟩
          | bk e => rw [hG] at q3; exact q3
          | rt d e => rw [hG] at q3; exact q3
          | ex x e => rw [hG] at q3; exact q3
          | stuck => rw [hG] at q3; exact q3
      · have e : i = ds.length := by omega
        subst e
        rw [List.drop_length] at q2
        exact .inl ⟨wk.stop H2 (s2.trans R2.sa.fh), q2 F2 As2 σ2 H2 (.refl F2) R2⟩⟩
end
end DL
end
section
set_option maxHeartbeats 1000000
namespace DL
open PySem L2 PyProof.Rows

/-! ### list comprehensions -/
def base0 : Base := ⟨fun _ => none, fun _ => none, [], none⟩
theorem SA.rel {g : Gc} {F H : Hp} {As : List Addr} {σ : L2.St} {env : Slots} (S : SA g F As σ H env) : RelAt g base0 F As σ H env :=
  ⟨S, (fun _ _ e => by cases e), (fun _ _ _ _ => .inl rfl), (fun _ _ e => by cases e), (fun _ _ e => by cases e), (fun _ _ => .inl rfl), fun _ e => by cases e⟩
def wipeD (env : Slots) : List Nat → Slots
  | [] => env
  | v :: vs => (wipeD env vs).set v none
theorem SA.wipe {g : Gc} {F H : Hp} {As : List Addr} {σ : L2.St} {env : Slots} (S : SA g F As σ H env) : ∀ vs : List Nat, ∃ Bs, SA g F Bs (wipe σ vs) H (wipeD env vs) ∧ ∀ a ∈ Bs, a ∈ As
  | [] => ⟨As, S, fun _ h => h⟩
  | v :: vs => by
    obtain ⟨Bs, S', sub⟩ := SA.wipe S vs
    obtain ⟨Cs, s', cnt⟩ := RE.forget v none S'.sl
    have sub' : ∀ a ∈ Cs, a ∈ Bs := fun a ha => cpos.mpr (by have := cnt a; have := cpos.mp ha; omega)
    exact ⟨Cs, ⟨S'.fh, s', fun a => Nat.le_trans (cnt a) (S'.nd a), fun a ha => S'.fx a (sub' a ha)⟩, fun a ha => sub a (sub' a ha)⟩
theorem wipe_comm (σ : L2.St) (i : Nat) (x : Option V) : ∀ vs : List Nat, i ∉ vs → wipe (σ.set i x) vs = (wipe σ vs).set i x
  | [], _ => rfl
  | v :: vs, h => by
    unfold wipe
    rw [wipe_comm σ i x vs fun z => h (List.mem_cons_of_mem _ z)]
    exact List.set_comm _ _ fun e => h (e ▸ List.mem_cons_self ..)
theorem wipe_own (σ : L2.St) (i : Nat) (x : Option V) : ∀ vs : List Nat, i ∈ vs → wipe (σ.set i x) vs = wipe σ vs
  | v :: vs, h => by
    unfold wipe
    by_cases hi : i ∈ vs
    · rw [wipe_own σ i x vs hi]
    · have e : i = v := by
        rcases List.mem_cons.mp h with e | z
        · exact e
        · exact absurd z hi
      subst e
      rw [wipe_comm σ i x vs hi, List.set_set]
theorem wipe_twice (σ : L2.St) (vs : List Nat) : ∀ ws : List Nat, (∀ i ∈ ws, i ∈ vs) → wipe (wipe σ ws) vs = wipe σ vs
  | [], _ => rfl
  | w :: ws, h => by
    show wipe ((wipe σ ws).set w none) vs = _
    rw [wipe_own _ w none vs (h w (List.mem_cons_self ..)), wipe_twice σ vs ws fun i hi => h i (List.mem_cons_of_mem _ hi)]
/-- the targets of a block: its own names vs alone change -/
def rdGb (g : Gc) (vs : List Nat) (gt : DV → Slots → Option Slots) : TG := fun v σ H Q => ∃ F As env d, SA g F As σ H env ∧ RF g F v d ∧ match gt d env with
  | some env' => ∀ As' σ', SA g F As' σ' H env' → (∀ a ∈ As', a ∈ As) → wipe σ' vs = wipe σ vs → Q σ' H
  | none => False
structure DGb (X : Cx) (Γ : Str → Option Addr) (vs : List Nat) (tg : Expr) (gt : DV → Slots → Option Slots) : Prop where
  pg : PG X tg (rdGb ⟨X.K, Γ⟩ vs gt)
section
variable {X : Cx} {Γ : Str → Option Addr} {W : WX} {e a b c tg iter : Expr} {f fa fb : Slots → R DV} {pos p : Pos} {vs : List Nat}
theorem dgb_name {i : Nat} {x : Str} (hN : X.N.Nodup) (h0 : i ∈ vs) (hi : X.N[i]? = some x := by rfl) (hx : Loc X.env.scope x := by first | exact .inl rfl | exact .inr rfl) (hf : X.fn x = true ∨ X.env.scope.names.lookup x = some .local := by first | exact .inl rfl | exact .inr rfl) :
    DGb X Γ vs (.Name x pos) (nameG i) :=
  ⟨pg_imp (pg_name hN hi hx hf) fun v σ H Q ⟨F, As, env, d, S, r, q⟩ => by
    obtain ⟨As', s', cnt⟩ := RE.put i S.sl (.frz r)
    have sub : ∀ a ∈ As', a ∈ As := fun a ha => cpos.mpr (by have h1 := cnt a; have h2 := cpos.mp ha; rw [List.count_nil] at h1; omega)
    exact q As' _ ⟨S.fh, s', fun a => by have h1 := cnt a; have h2 := S.nd a; rw [List.count_nil] at h1; omega, fun a ha => S.fx a (sub a ha)⟩ sub (wipe_own σ i _ vs h0)⟩
def rdGbs (g : Gc) (vs : List Nat) (gt : List DV → Slots → Option Slots) : TGs := fun us σ H Q => ∃ F As env ds, SA g F As σ H env ∧ RFs g F us ds ∧ match gt ds env with
  | some env' => ∀ As' σ', SA g F As' σ' H env' → (∀ a ∈ As', a ∈ As) → wipe σ' vs = wipe σ vs → Q σ' H
  | none => False
structure DGbs (X : Cx) (Γ : Str → Option Addr) (vs : List Nat) (tgs : List Expr) (gt : List DV → Slots → Option Slots) : Prop where
  pgs : PGs X tgs (rdGbs ⟨X.K, Γ⟩ vs gt)
theorem dgbs_nil : DGbs X Γ vs [] nilG := ⟨pgs_imp pgs_nil fun us σ H Q ⟨F, As, env, ds, S, r, q⟩ => by
  cases r with
  | nil => exact ⟨rfl, q As σ S (fun _ h => h) rfl⟩
  | cons _ _ => exact q.elim⟩
theorem dgbs_cons {es : List Expr} {gt : DV → Slots → Option Slots} {gs : List DV → Slots → Option Slots} (h1 : DGb X Γ vs e gt) (h2 : DGbs X Γ vs es gs) (hs : (assignEach (e :: es) X.env).map (·.2) = assign e X.env :: (assignEach es X.env).map (·.2) := by rfl) : DGbs X Γ vs (e :: es) (consG gt gs) :=
  ⟨pgs_imp (pgs_cons h1.pg h2.pgs hs) fun us σ H Q ⟨F, As, env, ds, S, r, q⟩ => by
    cases r with
    | nil => exact q.elim
    | @cons _ d _ ds r1 r2 =>
      refine ⟨_, _, rfl, F, As, env, _, S, r1, ?_⟩
      unfold consG at q
      cases hg : gt d env with
      | none => simp only [hg, Option.bind_none] at q
      | some env1 =>
        simp only [hg, Option.bind_some] at q
        intro As1 σ1 S1 sub1 w1
        refine ⟨F, As1, env1, ds, S1, r2, ?_⟩
        cases hg2 : gs ds env1 with
        | none => rw [hg2] at q; exact q
        | some env2 => rw [hg2] at q; exact fun As2 σ2 S2 sub2 w2 => q As2 σ2 S2 (fun a ha => sub1 a (sub2 a ha)) (w2.trans w1)⟩
theorem dgb_tup {es : List Expr} {k n : Nat} {gs : List DV → Slots → Option Slots} (hc : X.calm = true) (h : DGbs X Γ vs es gs) (hn : (assignEach es X.env).length = n := by rfl) (hst : (assignEach es X.env).findIdx? (·.1) = none := by rfl) : DGb X Γ vs (.Tuple es k pos) (tupG n gs) :=
  ⟨pg_imp (pg_tup hc h.pgs hn hst) fun v σ H Q ⟨F, As, env, d, S, r, q⟩ => by
    cases r with
    | @tup p us ds h1 h2 =>
      have q : (match (if ds.length = n then gs ds env else none) with
        | some env' => ∀ As' σ', SA ⟨X.K, Γ⟩ F As' σ' H env' → (∀ a ∈ As', a ∈ As) → wipe σ' vs = wipe σ vs → Q σ' H
        | none => False) := q
      by_cases c : ds.length = n
      · rw [if_pos c] at q
        exact ⟨p, us, rfl, sqT_same S.fh h1, by rw [h2.len]; exact c, F, As, env, ds, S, h2, q⟩
      · rw [if_neg c] at q
        exact q.elim
    | _ => exact q.elim⟩
/-- the tests of a clause -/
structure DTs (X : Cx) (Γ : Str → Option Addr) (W : WX) (ifs : List Expr) (f : Slots → R Bool) : Prop where
  pts : PTs X ifs (rdT ⟨X.K, Γ⟩ W f)
theorem pts_imp {X : Cx} {es : List Expr} {t t' : TT} (h : PTs X es t) (i : ∀ σ H Q, t' σ H Q → t σ H Q) : PTs X es t' := ⟨fun pins s σ H Q I q => h.run pins s σ H Q I (i _ _ _ q)⟩
def yesT : Slots → R Bool := fun _ => .ok true
theorem dts_nil : DTs X Γ W [] yesT := ⟨pts_imp pts_nil fun σ H Q ⟨F, As, env, S, q⟩ => q F H (.refl S.fh)⟩
theorem dts_one {f : Slots → R Bool} (h : DB X Γ W c f) : DTs X Γ W [c] f := ⟨pts_one h.pt⟩

def lcLoop (gt : DV → Slots → Option Slots) (ft : Slots → R Bool) (fe : Slots → R DV) (env0 : Slots) : List DV → R (List DV)
  | [] => .ok []
  | d :: ds => match gt d env0 with
    | none => .stuck
    | some e1 => match ft e1 with
      | .ok true => match fe e1 with
        | .ok x => match lcLoop gt ft fe env0 ds with
          | .ok r => .ok (x :: r)
          | _ => .stuck
        | _ => .stuck
      | .ok false => lcLoop gt ft fe env0 ds
      | _ => .stuck
def lcV (vs : List Nat) (fs : Slots → R (List DV)) (gt : DV → Slots → Option Slots) (ft : Slots → R Bool) (fe : Slots → R DV) : Slots → R DV := fun env => (fs env).bind fun ds =>
  if ds.length ≤ big then (match lcLoop gt ft fe (wipeD env vs) ds with
    | .ok r => .ok (.own r)
    | _ => .stuck) else .stuck
theorem ROs.snoc {g : Gc} {F H : Hp} {u : V} {d : DV} {B : List Addr} (h : RO g F H u d B) : ∀ {us : List V} {ds : List DV} {A : List Addr}, ROs g F H us ds A → ∃ C, ROs g F H (us ++ [u]) (ds ++ [d]) C ∧ ∀ a, C.count a = A.count a + B.count a
  | _, _, _, .nil => ⟨B ++ [], .cons h .nil, fun a => by simp⟩
  | _, _, _, .cons (A := A1) (B := A2) h1 r => by
    obtain ⟨C, r', cnt⟩ := ROs.snoc h r
    exact ⟨A1 ++ C, .cons h1 r', fun a => by rw [List.count_append, List.count_append, cnt]; omega⟩
theorem lc_read {fs : Slots → R (List DV)} {gt : DV → Slots → Option Slots} {ft : Slots → R Bool} {fe : Slots → R DV} {g : Gc} {σ : L2.St} {H : Hp} {Q : VK} (q : rdE g W (lcV vs fs gt ft fe) σ H Q) :
    tLc (rdI g W fs) (rdGb g vs gt) (rdT g (fun _ _ _ _ => False) ft) (rdE g (fun _ _ _ _ => False) fe) vs σ H Q := by
  obtain ⟨F, As, env, S, q⟩ := q
  refine ⟨F, As, env, S, ?_⟩
  unfold lcV at q
  cases hf : fs env with
  | stuck => rw [hf] at q; exact q
  | ex x => rw [hf] at q; exact q
  | ok ds =>
    rw [hf] at q
    simp only [R.bind] at q
    by_cases hb : ds.length ≤ big
    · rw [if_pos hb] at q
      cases hr : lcLoop gt ft fe (wipeD env vs) ds with
      | stuck => rw [hr] at q; exact q.elim
      | ex x => rw [hr] at q; exact q.elim
      | ok res =>
        rw [hr] at q
        intro J F1 H1 x1 wk D hD
        have S1 := S.ext x1
        obtain ⟨Bs, SB, subB⟩ := S1.wipe vs
        have hDB : D ∉ Bs := fun h => by
          obtain ⟨o, ho⟩ := SB.sl.there D h
          rw [hD] at ho; cases ho
        refine ⟨fun i m H' => m = ds.length - i ∧ i ≤ ds.length ∧ ∃ F' us done A rest, Ext F1 H1 F' H' ∧ SA g F' Bs (wipe σ vs) H' (wipeD env vs) ∧ F' D = none ∧ H' D = some (.lst us) ∧ ROs g F' H' us done A ∧ (∀ a, A.count a ≤ 1) ∧ D ∉ A ∧
            (∀ a ∈ A, F' a = none ∧ H1 a = none) ∧ lcLoop gt ft fe (wipeD env vs) (ds.drop i) = .ok rest ∧ done ++ rest = res ∧ done.length ≤ i, ?_, ?_⟩
        · refine ⟨ds.length, rfl, Nat.zero_le _, F1, [], [], [], res, .own x1.fh hD, SB.ext (.own x1.fh hD), x1.fh.free hD, upd_same, .nil, fun _ => by simp, (fun h => nomatch h), (fun _ h => nomatch h), hr, rfl, Nat.le_refl _⟩
        · rintro i m H2 ⟨rfl, hi, F2, us, done, A, rest, x2, S2, fD, hD2, r2, n2, dA, fx2, e2, e3, le⟩
          by_cases hlt : i < ds.length
          · refine .inr ⟨wk.go i H2 hlt (x2.ff.trans x2.fh), fun H' => i + 1 ≤ ds.length ∧ ∃ F' us done A rest, Ext F1 H1 F' H' ∧ SA g F' Bs (wipe σ vs) H' (wipeD env vs) ∧ F' D = none ∧ H' D = some (.lst us) ∧ ROs g F' H' us done A ∧ (∀ a, A.count a ≤ 1) ∧ D ∉ A ∧
              (∀ a ∈ A, F' a = none ∧ H1 a = none) ∧ lcLoop gt ft fe (wipeD env vs) (ds.drop (i + 1)) = .ok rest ∧ done ++ rest = res ∧ done.length ≤ i + 1, fun H' h => ⟨ds.length - (i + 1), by omega, rfl, h⟩, fun x H3 y => ?_⟩
            obtain ⟨F3, d, x3, ed, r3⟩ := wk.yld i F2 H2 x H3 hlt x2.ff x2.fh y
            have edr : ds.drop i = d :: ds.drop (i + 1) := by
              rw [List.drop_eq_getElem_cons hlt]
              have : ds[i] = d := by
                rw [List.getElem?_eq_getElem hlt] at ed
                exact Option.some.inj ed
              rw [this]
            rw [edr] at e2
            unfold lcLoop at e2
            refine ⟨F3, Bs, wipeD env vs, d, S2.ext x3, r3, ?_⟩
            cases hg : gt d (wipeD env vs) with
            | none => rw [hg] at e2; cases e2
            | some env1 =>
              rw [hg] at e2
              intro As4 σ4 S4 sub4 w4
              refine ⟨w4.trans (wipe_twice σ vs vs fun _ h => h), F3, As4, env1, S4, ?_⟩
              dsimp only at e2
              cases ht : ft env1 with
              | stuck => rw [ht] at e2; cases e2
              | ex x => rw [ht] at e2; cases e2
              | ok b =>
                rw [ht] at e2
                intro F5 H5 x5
                have x35 := x3.trans x5
                cases b with
                | false =>
                  have x15 := x2.trans x35
                  exact ⟨hlt, F5, us, done, A, rest, x15, S2.ext x35, x35.apart hD2 fD, x35.hh _ _ hD2, r2.ext x35, n2, dA, fun a ha => ⟨x35.apart (r2.there a ha).choose_spec (fx2 a ha).1, (fx2 a ha).2⟩, e2, e3, Nat.le_succ_of_le le⟩
                | true =>
                  refine ⟨F5, As4, env1, S4.ext x5, ?_⟩
                  dsimp only at e2
                  cases he : fe env1 with
                  | stuck => rw [he] at e2; cases e2
                  | ex x => rw [he] at e2; cases e2
                  | ok x =>
                    rw [he] at e2
                    dsimp only at e2
                    cases hl : lcLoop gt ft fe (wipeD env vs) (ds.drop (i + 1)) with
                    | stuck => rw [hl] at e2; cases e2
                    | ex x => rw [hl] at e2; cases e2
                    | ok rest1 =>
                      rw [hl] at e2
                      cases e2
                      intro v F6 H6 A6 x6 f6 r6
                      have x26 := x35.trans x6
                      have fD6 := x26.apart hD2 fD
                      have hD6 := x26.hh _ _ hD2
                      have D6 : D ∉ A6 := fun h => by
                        have := f6.nH D h
                        rw [x35.hh _ _ hD2] at this; cases this
                      have r2' := r2.ext x26
                      obtain ⟨C, rC, cC⟩ := ROs.snoc (g := g) (F := F6) (H := upd H6 D (.lst (us ++ [v]))) (r6.mono (.refl _) fun a ha => upd_ne fun z => D6 (z ▸ ha)) (r2'.mono (.refl _) fun a ha => upd_ne fun z => dA (z ▸ ha))
                      have memC : ∀ a ∈ C, a ∈ A ∨ a ∈ A6 := fun a ha => by
                        have h1 := cC a
                        have h2 := cpos.mp ha
                        by_cases c : 0 < A.count a
                        · exact .inl (cpos.mpr c)
                        · exact .inr (cpos.mpr (by omega))
                      have x16 := x2.trans x26
                      have x17 : Ext F1 H1 F6 (upd H6 D (.lst (us ++ [v]))) := ⟨fun a o e => by rw [upd_ne (ne_of_none e hD)]; exact x16.hh a o e, x16.ff, fun a o e => by rw [upd_ne fun z => by rw [z, fD6] at e; cases e]; exact x16.fh a o e, x16.new⟩
                      refine ⟨us, hD6, by rw [r2.len]; exact big_lt (Nat.le_trans le (by omega)), hlt, F6, us ++ [v], done ++ [x], C, rest1, x17, ⟨x17.fh, (S2.ext x26).sl.mono (.refl _) fun a ha => upd_ne fun z => hDB (z ▸ ha), S2.nd, (S2.ext x26).fx⟩, fD6, upd_same, rC, fun a => ?_, fun h => ?_, fun a ha => ?_, rfl, by simpa using e3, by rw [List.length_append]; simpa using le⟩
                      · rw [cC]
                        have h1 := n2 a
                        have h2 := f6.nd a
                        by_cases c : a ∈ A6
                        · by_cases c2 : a ∈ A
                          · obtain ⟨o, ho⟩ := r2.there a c2
                            have := f6.nH a c
                            rw [x35.hh a o ho] at this; cases this
                          · have := List.count_eq_zero.mpr c2
                            omega
                        · have := List.count_eq_zero.mpr c
                          omega
                      · rcases memC D h with z | z
                        · exact dA z
                        · exact D6 z
                      · rcases memC a ha with z | z
                        · exact ⟨x26.apart (r2.there a z).choose_spec (fx2 a z).1, (fx2 a z).2⟩
                        · exact ⟨f6.nF a z, (x2.trans x35).hh.free (f6.nH a z)⟩
          · have e : i = ds.length := by omega
            subst e
            rw [List.drop_length] at e2
            cases e2
            rw [List.append_nil] at e3
            subst e3
            refine .inl ⟨wk.stop H2 (x2.ff.trans x2.fh), q _ F2 H2 (D :: A) (x1.trans x2) ⟨fun a => ?_, fun a ha => ?_, fun a ha => ?_⟩ (.own hD2 r2)⟩
            · rw [List.count_cons]
              have := n2 a
              by_cases h : D = a
              · subst h
                have := List.count_eq_zero.mpr dA
                simp
                omega
              · simp [h]
                omega
            · rcases List.mem_cons.mp ha with h | h
              · subst h; exact fD
              · exact (fx2 a h).1
            · rcases List.mem_cons.mp ha with h | h
              · subst h; exact x1.hh.free hD
              · exact x1.hh.free (fx2 a h).2
    · rw [if_neg hb] at q
      exact q.elim
/-- [elt for tg in iter if ..] -/
theorem de_lc {fs : Slots → R (List DV)} {gt : DV → Slots → Option Slots} {ft : Slots → R Bool} {fe : Slots → R DV} {elt : Expr} {ifs : List Expr} {scope : Scope} {own : List (Str × Nat)} (hc : X.calm = true) (hN : X.N.Nodup) (ok : BlkOk X.N X.env.scope scope own) (hi : DI X Γ W tg iter fs)
    (hg : ∀ (s : Shared) (H : Hp) (C : Addr) (cl : List (Str × Addr)) (fp : List Addr), DGb (X.blk s H scope (compEnvC scope cl C X.env) fp) Γ (own.map (·.2)) tg gt)
    (ht : ∀ (s : Shared) (H : Hp) (C : Addr) (cl : List (Str × Addr)) (fp : List Addr), DTs (X.blk s H scope (compEnvC scope cl C X.env) fp) Γ (fun _ _ _ _ => False) ifs ft)
    (he : ∀ (s : Shared) (H : Hp) (C : Addr) (cl : List (Str × Addr)) (fp : List Addr), DE (X.blk s H scope (compEnvC scope cl C X.env) fp) Γ (fun _ _ _ _ => False) elt fe)
    (hs : ∀ x, foldedSetIterable iter X.env x = pure x := by intro _; rfl) : DE X Γ W (.ListComp elt [⟨tg, iter, ifs, 0⟩] scope pos) (lcV (own.map (·.2)) fs gt ft fe) :=
  ⟨pe_imp (pe_lc (own := own) (g := rdGb ⟨X.K, Γ⟩ (own.map (·.2)) gt) hc hN hi.pi ok (fun s H C cl fp => (hg s H C cl fp).pg) (fun s H C cl fp => (ht s H C cl fp).pts) (fun s H C cl fp => (he s H C cl fp).pe) hs) fun σ H Q q => lc_read q⟩
/-- y = [..] on one line -/
theorem ds_setLc {i : Nat} {y : Str} {py spos : Pos} {fs : Slots → R (List DV)} {gt : DV → Slots → Option Slots} {ft : Slots → R Bool} {fe : Slots → R DV} {elt : Expr} {ifs : List Expr} {scope : Scope} {own : List (Str × Nat)} (hc : X.calm = true) (hN : X.N.Nodup) (ok : BlkOk X.N X.env.scope scope own) (h0 : i ≠ 0)
    (hi : DI X Γ W tg iter fs)
    (hg : ∀ (s : Shared) (H : Hp) (C : Addr) (cl : List (Str × Addr)) (fp : List Addr), DGb (X.blk s H scope (compEnvC scope cl C X.env) fp) Γ (own.map (·.2)) tg gt)
    (ht : ∀ (s : Shared) (H : Hp) (C : Addr) (cl : List (Str × Addr)) (fp : List Addr), DTs (X.blk s H scope (compEnvC scope cl C X.env) fp) Γ (fun _ _ _ _ => False) ifs ft)
    (he : ∀ (s : Shared) (H : Hp) (C : Addr) (cl : List (Str × Addr)) (fp : List Addr), DE (X.blk s H scope (compEnvC scope cl C X.env) fp) Γ (fun _ _ _ _ => False) elt fe)
    (hsw : swapsWith (.ListComp elt [⟨tg, iter, ifs, 0⟩] scope pos) (some (.Name y py)) spos.line X.env = pure true)
    (hy : X.N[i]? = some y := by rfl) (hyl : X.env.scope.names.lookup y = some .local := by rfl) (hs : ∀ x, foldedSetIterable iter X.env x = pure x := by intro _; rfl) :
    DS X Γ W (.Assign [.Name y py] (.ListComp elt [⟨tg, iter, ifs, 0⟩] scope pos) spos) (setS i (lcV (own.map (·.2)) fs gt ft fe)) := by
  have h := ps_setLc (own := own) (g := rdGb ⟨X.K, Γ⟩ (own.map (·.2)) gt) (tt := rdT ⟨X.K, Γ⟩ (fun _ _ _ _ => False) ft) (te := rdE ⟨X.K, Γ⟩ (fun _ _ _ _ => False) fe) hc hN hy hyl hsw hi.pi ok (fun s H C cl fp => (hg s H C cl fp).pg) (fun s H C cl fp => (ht s H C cl fp).pts) (fun s H C cl fp => (he s H C cl fp).pe) hs
  refine ⟨ps_imp h fun D σ H q => ?_⟩
  exact lc_read (rdS_E (k := fun d env => .nx (env.set i (some d))) (T := fun v D σ H => gName i v σ H D.nx) (fun v d B F As env A D σ H R K q => by
      obtain ⟨As', R'⟩ := R.put K (.inl h0)
      exact q F As' _ H (.refl F) R') q)
end
end DL
end
section
set_option maxHeartbeats 1000000
namespace DL
open PySem L2 PyProof.Rows

/-! ### what a def promises -/
/-- a def that changes nothing: h of the arguments -/
def spP (g : Gc) (h : List DV → R DV) : Sp := fun vs H Q E => ∃ F ds, Same F H ∧ RFs g F vs ds ∧ match h ds with
  | .ok d => ∀ v F' H' A, Ext F H F' H' → Fresh F' H A → RO g F' H' v d A → Q v H'
  | .ex x => ∀ cls dx F' H', Ext F H F' H' → XOk g F' cls dx x → E cls dx H'
  | .stuck => False
def fin : Out → R DV
  | .rt d _ => .ok d
  | .nx _ => .ok .non
  | .ex x _ => .ex x
  | _ => .stuck
/-- the body G as a function of n arguments; m further slots -/
def fnR (n m : Nat) (G : Slots → Out) : List DV → R DV := fun ds => if ds.length = n then fin (G (ds.map some ++ List.replicate m none)) else .stuck
theorem RFs.length {g : Gc} {F : Hp} : ∀ {vs : List V} {ds : List DV}, RFs g F vs ds → vs.length = ds.length
  | _, _, .nil => rfl
  | _, _, .cons _ r => congrArg Nat.succ (RFs.length r)
theorem RE.nones {g : Gc} {F H : Hp} : ∀ n : Nat, RE g F H (List.replicate n none) (List.replicate n none) []
  | 0 => .nil
  | n + 1 => .non (RE.nones n)
theorem RE.start {g : Gc} {F H : Hp} {m : Nat} : ∀ {vs : List V} {ds : List DV}, RFs g F vs ds → RE g F H (vs.map some ++ List.replicate m none) (ds.map some ++ List.replicate m none) []
  | _, _, .nil => RE.nones m
  | _, _, .cons h r => RE.som (A := []) (B := []) (.frz h) (RE.start r)
theorem RelAt.start {g : Gc} {F H : Hp} {m : Nat} {N : List Str} {vs : List V} {ds : List DV} (s : Same F H) (r : RFs g F vs ds) (hN : N.length = vs.length + m) :
    RelAt g ⟨F, H, [], none⟩ F [] (L2.start N vs) H (ds.map some ++ List.replicate m none) := by
  have e : L2.start N vs = vs.map some ++ List.replicate m none := by
    unfold L2.start
    rw [hN, Nat.add_sub_cancel_left]
  rw [e]
  exact ⟨⟨s, RE.start r, fun a => by simp, (fun _ h => nomatch h)⟩, .refl F, fun a o q n => (by rw [show F a = none from n] at q; cases q), fun a o q _ => q, fun a o q => ⟨o, q⟩, (fun _ h => nomatch h), fun v z => nomatch z⟩
/-- what a def leaves behind -/
theorem RelAt.out {g : Gc} {F0 H0 F F' H : Hp} {As : List Addr} {σ : L2.St} {env : Slots} (s : Same F F') (R : RelAt g ⟨F0, H0, [], none⟩ F' As σ H env) : Ext F0 H0 F' H :=
  ⟨fun a o e => R.fm a o e (fun z => nomatch z), R.f0, R.sa.fh, fun a o e n => (R.fr a o e n).elim id fun z => nomatch z⟩
theorem post_fin {g : Gc} {F H : Hp} {E : XK} {Q : VK} {o : Out} (h : match fin o with
    | .ok d => ∀ v F' H' A, Ext F H F' H' → Fresh F' H A → RO g F' H' v d A → Q v H'
    | .ex x => ∀ cls dx F' H', Ext F H F' H' → XOk g F' cls dx x → E cls dx H'
    | .stuck => False) : PostS g ⟨F, H, [], none⟩ (fun cls d _ H => E cls d H) F { nx := fun _ H' => Q .non H', rt := Q } o := by
  cases o with
  | nx env => exact fun F' As σ H' s R => h .non F' H' [] (R.out s) .nil (.frz .non)
  | rt d env =>
    exact fun v F' As A σ H' s R K => h v F' H' A (R.out s) ⟨fun a => by have := K.nd a; omega, K.nF, fun a ha => (K.ow a ha).elim id fun z => nomatch z⟩ K.r
  | bk env => exact h.elim
  | ct env => exact h.elim
  | ex x env => exact fun cls dx F' As σ H' s R o => h cls dx F' H' (R.out s) o
  | stuck => exact h
section
variable {P : Program} {w : World} {K : PySem.W.Frag} {mg : Str → Option Value} {base : Heap} {Γ : Str → Option Addr} {CX : CXT}
/-- a def keeps the promise, by its body -/
theorem fn_d {x qual : Str} {params : Arguments} {body : List Stmt} {scope : Scope} {dvs : List V} {kws : List (Str × V)} {f : Addr} {fd : FuncData} {N ps : List Str} {k m : Nat} {G : Slots → Out}
    (F : FunD K x qual params body scope dvs kws f fd) (S : FnScope N ps scope) (hN : N.length = ps.length + m)
    (hb : ∀ (cdv : Value) (A : Around) (outer : List Env) (s : Shared) (H : Hp) (E : XK), Room k (A.deeper (envOfC qual scope s.heap.objs.size f cdv)) →
      DSs (cxOf CX P w K mg base N qual scope f cdv A outer s H E) Γ (fun cls d _ H => E cls d H) body G) :
    FnOk P w K mg base CX (k + 1) f fd ps (spP ⟨K, Γ⟩ (fnR ps.length m G)) := by
  have hl : ∀ {vs : List V} {H : Hp} {Q : VK} {E : XK}, spP ⟨K, Γ⟩ (fnR ps.length m G) vs H Q E → vs.length = ps.length := by
    rintro vs H Q E ⟨F, ds, _, r, q⟩
    rw [r.length]
    by_cases c : ds.length = ps.length
    · exact c
    · unfold fnR at q
      rw [if_neg c] at q
      exact q.elim
  refine F.ok S (fun vs H Q E h => hl h) fun cdv A outer s H vs Q E hr h => ⟨_, (hb cdv A outer s H E hr).pss, ?_⟩
  have l := hl h
  obtain ⟨F, ds, sf, r, q⟩ := h
  unfold fnR at q
  rw [if_pos (by rw [← r.length]; exact l)] at q
  exact ⟨⟨F, H, [], none⟩, F, [], _, RelAt.start sf r (by rw [l]; exact hN), post_fin q⟩
end

/-! ### calls -/
section
variable {X : Cx} {Γ : Str → Option Addr} {W : WX} {e a b c : Expr} {es : List Expr} {f fa fb : Slots → R DV} {fs : Slots → R (List DV)} {pos p : Pos} {CX : CXT} {k : Nat} {fA : Addr} {fd : FuncData} {ps : List Str} {h : List DV → R DV} {dvs : List V} {dds : List DV} {ds : List Value} {x : Str}
def callV (h : List DV → R DV) (dds : List DV) (fs : Slots → R (List DV)) : Slots → R DV := fun env => (fs env).bind fun ds => h (freezes ds ++ dds)
/-- f(e, ..): the arguments are shared from here on -/
theorem de_call (F : FnOk X.prog X.w X.K X.mg X.base CX k fA fd ps (spP ⟨X.K, Γ⟩ h)) (hr : Room k X.A) (hm : X.mg x = some (.ref fA)) (hk : PySem.W.keepIn X.K (.ref fA) = true) (hb : Binds X.K fd ps ds) (hd : Vals dvs ds) (hdd : ∀ F, RFs ⟨X.K, Γ⟩ F dvs dds) (hx : ∀ σ, PassesAt CX X σ (WE W σ))
    (ha : DA X Γ W (e :: es) fs) (hg : Gl X x := by rfl) (hdb : (x == ("__debug__" : Str)) = false := by decide) (he : starEach (e :: es) X.env = (false, eval e X.env) :: starEach es X.env := by rfl) (hpl : (backTo pos (starEach es X.env)).any (·.1) = false := by rfl) :
    DE X Γ W (.Call (.Name x p) (e :: es) [] pos) (callV h dds fs) :=
  ⟨pe_imp (pe_callSD (E := WE W) F hr hg hm hk hb hd hx ha.pa hdb he hpl) fun σ H Q ⟨F0, As, env, S, q⟩ => by
    refine ⟨F0, As, env, S, ?_⟩
    unfold callV at q
    cases hf : fs env with
    | stuck => rw [hf] at q; exact q
    | ex x => rw [hf] at q; exact q
    | ok ds =>
      rw [hf] at q
      intro vs F1 H1 A x1 fr r
      have x2 : Ext F0 H (DL.ext F1 H1 A) H1 := ⟨x1.hh, x1.ff.trans (ext_same fr.nF), ext_sub x1.fh, fun a o e n => by
        by_cases ha : a ∈ A
        · exact fr.nH a ha
        · rw [ext_out ha] at e
          exact x1.new a o e n⟩
      refine ⟨_, _, x2.fh, (ROs.freeze r fr.nF).append (hdd _), ?_⟩
      simp only [R.bind] at q
      cases hh : h (freezes ds ++ dds) with
      | stuck => rw [hh] at q; exact q
      | ex x => rw [hh] at q; exact fun cls dx F' H' x3 o => q cls dx F' H' (x2.trans x3) o
      | ok d => rw [hh] at q; exact fun v F' H' A' x3 fr' r' => q v F' H' A' (x2.trans x3) ⟨fr'.nd, fr'.nF, fun a ha => by
          cases z : H a with
          | none => rfl
          | some o => have := x2.hh a o z; rw [fr'.nH a ha] at this; cases this⟩ r'⟩
/-- f() -/
theorem de_call0 (F : FnOk X.prog X.w X.K X.mg X.base CX k fA fd ps (spP ⟨X.K, Γ⟩ h)) (hr : Room k X.A) (hm : X.mg x = some (.ref fA)) (hk : PySem.W.keepIn X.K (.ref fA) = true) (hb : Binds X.K fd ps ds) (hd : Vals dvs ds) (hdd : ∀ F, RFs ⟨X.K, Γ⟩ F dvs dds) (hx : ∀ σ, PassesAt CX X σ (WE W σ))
    (hg : Gl X x := by rfl) (hdb : (x == ("__debug__" : Str)) = false := by decide) :
    DE X Γ W (.Call (.Name x p) [] [] pos) (callV h dds fun _ => .ok []) := by
  refine ⟨⟨fun pins s σ H Q I ⟨F0, As, env, S, q⟩ => ?_⟩⟩
  refine wpAny_Call_Name_kw (ld_glob I hg hm ?_ hdb)
  refine PySem.W.callWith_K0 I.kIn hk (run_fnSD (us := []) (vs := []) F hr hb hd (hx σ) I .nil ?_)
  refine ⟨F0, _, S.fh, hdd _, ?_⟩
  unfold callV at q
  simp only [R.bind] at q
  rw [show h (freezes [] ++ dds) = h dds from rfl] at q
  show (match h dds with
    | .ok d => ∀ v F' H' A, Ext F0 H F' H' → Fresh F' H A → RO ⟨X.K, Γ⟩ F' H' v d A → Q v H'
    | .ex x => ∀ cls dx F' H', Ext F0 H F' H' → XOk ⟨X.K, Γ⟩ F' cls dx x → WE W σ cls dx H'
    | .stuck => False)
  cases hh : h dds with
  | stuck => rw [hh] at q; exact q
  | ex x => rw [hh] at q; exact q
  | ok d => rw [hh] at q; exact q
end
end DL
end
section
set_option maxHeartbeats 1000000
namespace DL
open PySem L2 PyProof.Rows

/-! ### fields -/
theorem RFf.get {g : Gc} {F : Hp} {n : Str} {d : DV} : ∀ {vs : List (Str × V)} {ds : List (Str × DV)}, RFf g F vs ds → ds.lookup n = some d → ∃ v, vs.lookup n = some v ∧ RF g F v d
  | _, _, .nil, e => by simp at e
  | _, _, .cons (n := m) (v := v) (d := d') h r, e => by
    simp only [List.lookup] at e ⊢
    cases q : n == m with
    | true => rw [q] at e; cases e; exact ⟨v, rfl, h⟩
    | false => rw [q] at e; exact RFf.get r e
theorem RFf.none {g : Gc} {F : Hp} {n : Str} : ∀ {vs : List (Str × V)} {ds : List (Str × DV)}, RFf g F vs ds → ds.lookup n = none → vs.lookup n = none
  | _, _, .nil, e => rfl
  | _, _, .cons (n := m) (v := v) (d := d') h r, e => by
    simp only [List.lookup] at e ⊢
    cases q : n == m with
    | true => rw [q] at e; cases e
    | false => rw [q] at e; exact RFf.none r e
theorem ROf.get {g : Gc} {F H : Hp} {n : Str} {d : DV} : ∀ {vs : List (Str × V)} {ds : List (Str × DV)} {A : List Addr}, ROf g F H vs ds A → ds.lookup n = some d → ∃ v B, vs.lookup n = some v ∧ RO g F H v d B
  | _, _, _, .nil, e => by simp at e
  | _, _, _, .cons (n := m) (v := v) (d := d') (A := A) h r, e => by
    simp only [List.lookup] at e ⊢
    cases q : n == m with
    | true => rw [q] at e; cases e; exact ⟨v, A, rfl, h⟩
    | false => rw [q] at e; exact ROf.get r e
theorem ROf.none {g : Gc} {F H : Hp} {n : Str} : ∀ {vs : List (Str × V)} {ds : List (Str × DV)} {A : List Addr}, ROf g F H vs ds A → ds.lookup n = none → vs.lookup n = none
  | _, _, _, .nil, e => rfl
  | _, _, _, .cons (n := m) (v := v) (d := d') h r, e => by
    simp only [List.lookup] at e ⊢
    cases q : n == m with
    | true => rw [q] at e; cases e
    | false => rw [q] at e; exact ROf.none r e
/-- a field set -/
def putD (n : Str) (d : DV) : List (Str × DV) → List (Str × DV)
  | [] => [(n, d)]
  | (m, x) :: r => if m = n then (m, d) :: r else (m, x) :: putD n d r
theorem ROf.put {g : Gc} {F H : Hp} {n : Str} {v : V} {d : DV} {A : List Addr} (h0 : RO g F H v d A) : ∀ {vs : List (Str × V)} {ds : List (Str × DV)} {B : List Addr}, ROf g F H vs ds B →
    ∃ C, ROf g F H (putF n v vs) (putD n d ds) C ∧ ∀ a, C.count a ≤ B.count a + A.count a
  | _, _, _, .nil => ⟨_, .cons h0 .nil, fun a => by simp⟩
  | _, _, _, .cons (n := m) (v := v') (d := d') (A := A') (vs := vs) (ds := ds) (B := B) h r => by
    unfold putF putD
    by_cases q : m = n
    · rw [if_pos q, if_pos q]
      exact ⟨_, .cons h0 r, fun a => by rw [List.count_append, List.count_append]; omega⟩
    · rw [if_neg q, if_neg q]
      obtain ⟨C, h1, h2⟩ := ROf.put h0 r
      exact ⟨_, .cons h h1, fun a => by rw [List.count_append, List.count_append]; have := h2 a; omega⟩
theorem ROf.len {g : Gc} {F H : Hp} : ∀ {vs : List (Str × V)} {ds : List (Str × DV)} {A : List Addr}, ROf g F H vs ds A → vs.length = ds.length
  | _, _, _, .nil => rfl
  | _, _, _, .cons _ r => congrArg Nat.succ (ROf.len r)

/-- the classes cs hand out the field f of their instances -/
def AtK (K : PySem.W.Frag) (Γ : Str → Option Addr) (f : Str) (cs : Str → Bool) : Prop := ∀ c C, cs c = true → Γ c = some C → Cls K C ∧ NoAttr K C f
/-- .. of exceptions -/
def AxK (K : PySem.W.Frag) (Γ : Str → Option Addr) (f : Str) (cs : Str → Bool) : Prop := ∀ c C, cs c = true → Γ c = some C → XfC K C ∧ PySem.W.findIn K (.ref C) f = some none
def fldD (f : Str) (cs ce : Str → Bool) : DV → Option DV
  | .ins c fs => if cs c then fs.lookup f else none
  | .obj c fs => if cs c then fs.lookup f else none
  | .exc c fs => if ce c then fs.lookup f else none
  | _ => none
theorem fldD_ins {f : Str} {cs ce : Str → Bool} {c : Str} {fs : List (Str × DV)} {d : DV} (h : fldD f cs ce (.ins c fs) = some d) : cs c = true ∧ fs.lookup f = some d := by
  have h : (if cs c = true then fs.lookup f else none) = some d := h
  by_cases z : cs c = true
  · rw [if_pos z] at h; exact ⟨z, h⟩
  · rw [if_neg z] at h; cases h
theorem fldD_obj {f : Str} {cs ce : Str → Bool} {c : Str} {fs : List (Str × DV)} {d : DV} (h : fldD f cs ce (.obj c fs) = some d) : cs c = true ∧ fs.lookup f = some d := fldD_ins (ce := ce) h
theorem fldD_exc {f : Str} {cs ce : Str → Bool} {c : Str} {fs : List (Str × DV)} {d : DV} (h : fldD f cs ce (.exc c fs) = some d) : ce c = true ∧ fs.lookup f = some d := fldD_ins (cs := ce) (ce := ce) h
def fldV (f : Str) (cs ce : Str → Bool) (fa : Slots → R DV) : Slots → R DV := fun env => (fa env).bind fun d => lift (fldD f cs ce d)
section
variable {X : Cx} {Γ : Str → Option Addr} {W : WX} {e a b c o : Expr} {es : List Expr} {fa fb fo : Slots → R DV} {fs : Slots → R (List DV)} {pos p : Pos} {f : Str} {cs ce : Str → Bool}
theorem exc_field {pins : List (Addr × Obj)} {σ : L2.St} {H : Hp} {s : Shared} {A : Around} {E : Value → Shared → Prop} {p C d : Addr} {φ : Heap → Prop} {xs : List (Str × V)} {v : V} {bb : Bool} {Q : Value → Shared → Prop} (I : Inv X pins σ H s) (e : H p = some (.ext φ)) (k : ExcAt p C (some d) φ) (T : XfC X.K C) (hno : PySem.W.findIn X.K (.ref C) f = some none) (hd : H d = some (.xd xs)) (l : xs.lookup f = some v)
    (h : ∀ u s', Inv X pins σ H s' → L2.RelV v u → Q u s') : wpAny (model X.prog X.w) A (getAttr (.ref p) f bb) Q E s := by
  obtain ⟨h1, _, _⟩ := (show ObjOk X.prog X.w H s.heap p (.ext φ) from I.hok p _ e)
  obtain ⟨ob, vs, e1, e2, e3, e4⟩ := k _ h1
  obtain ⟨mA, hns, hr⟩ := (show ObjOk X.prog X.w H s.heap d (.xd xs) from I.hok d _ hd)
  obtain ⟨od, ho, hl⟩ := lookIn_ns hns
  obtain ⟨u, hu, ru⟩ := RelO.some_of (v := v) (o := mA f) (by rw [← l]; exact hr f)
  have J : PySem.W.InstAt s.heap p ob C (some od) := ⟨e1, e2, by unfold PySem.W.notCls; rw [e4] <;> rfl, by rw [e3]; exact ho⟩
  exact HandSPX.exc_get I.kIn J T.ga T.gg T.exC (PySem.W.findObj_own T.hdC hno rfl (by rw [hl, hu])) (handed_of ru) (h u _ (I.tok _) ru)
/-- o.f -/
theorem dt_fld (ho : DT X Γ W o fo) (hk : AtK X.K Γ f cs) (hx : AxK X.K Γ f ce) (hb : attributeBase o f X.env (eval o X.env) = eval o X.env := by rfl) : DT X Γ W (.Attribute o f pos) (fldV f cs ce fo) := by
  refine ⟨⟨fun pins s σ H Q I ⟨F, As, env, S, q⟩ => ?_⟩⟩
  refine attr_of hb (thn (ho.pe.run pins s σ H (fun x H1 => ∃ d F1 A, Ext F H F1 H1 ∧ RO ⟨X.K, Γ⟩ F1 H1 x d A ∧ ∃ d', fldD f cs ce d = some d' ∧ ∀ v F' H' A, Ext F H F' H' → RO ⟨X.K, Γ⟩ F' H' v d' A → Q v H') I ?_) fun u s1 ⟨x, H1, I1, rx, d, F1, A, x1, r, d', hd, q1⟩ => ?_)
  · refine ⟨F, As, env, S, ?_⟩
    unfold fldV at q
    cases hf : fo env with
    | stuck => rw [hf] at q; exact q
    | ex x => rw [hf] at q; exact q
    | ok d =>
      rw [hf] at q
      simp only [R.bind] at q
      cases hd : fldD f cs ce d with
      | none => rw [hd] at q; exact q.elim
      | some d' =>
        rw [hd] at q
        exact fun v F' H' A x1 r => ⟨d, F', A, x1, r, d', hd, q⟩
  · cases r with
    | frz rf =>
      cases rf with
      | @ins p C dx c vs ds h1 h2 h3 =>
        obtain ⟨z, hd⟩ := fldD_ins hd
        obtain ⟨v, l, r'⟩ := h3.get hd
        obtain ⟨k1, k2⟩ := hk c C z h2
        obtain rfl : u = Value.ref p := rx
        exact getattr_ok I1 (x1.fh _ _ h1) k1 k2 l fun u' s2 I2 ru => ⟨v, H1, I2, ru, q1 v F1 H1 [] x1 (.frz r')⟩
      | exc h1 h2 h3 =>
        obtain ⟨z, hd⟩ := fldD_exc hd
        cases hd
      | @excD p C d c φ vs ds h1 h2 h3 h4 h5 =>
        obtain ⟨z, hd⟩ := fldD_exc hd
        obtain ⟨v, l, r'⟩ := h5.get hd
        obtain ⟨k1, k2⟩ := hx c C z h3
        obtain rfl : u = Value.ref p := rx
        exact exc_field I1 (x1.fh _ _ h1) h2 k1 k2 (x1.fh _ _ h4) l fun u' s2 I2 ru => ⟨v, H1, I2, ru, q1 v F1 H1 [] x1 (.frz r')⟩
      | _ => exact nomatch hd
    | own h1 h2 => exact nomatch hd
    | @obj p C dx c vs ds A' h1 h2 h3 =>
      obtain ⟨z, hd⟩ := fldD_obj hd
      obtain ⟨v, B, l, r'⟩ := h3.get hd
      obtain ⟨k1, k2⟩ := hk c C z h2
      obtain rfl : u = Value.ref p := rx
      exact getattr_ok I1 h1 k1 k2 l fun u' s2 I2 ru => ⟨v, H1, I2, ru, q1 v F1 H1 B x1 r'⟩

/-! ### methods that change nothing -/
def methV (c m : Str) (h : List DV → R DV) (dds : List DV) (fo : Slots → R DV) (fs : Slots → R (List DV)) : Slots → R DV := fun env => (fo env).bind fun d => match freeze d with
  | .ins c' xs => if c' = c ∧ xs.lookup m = none then (fs env).bind fun ds => h (.ins c' xs :: (freezes ds ++ dds)) else .stuck
  | _ => .stuck
variable {CX : CXT} {k : Nat} {fA C : Addr} {fd : FuncData} {ps : List Str} {h : List DV → R DV} {dvs : List V} {dds : List DV} {ds : List Value} {m c' : Str} {apos : Pos}
theorem meth_run {pins : List (Addr × Obj)} {s : Shared} {σ : L2.St} {H F F2 H2 : Hp} {Q : VK} {xs : List (Str × DV)} {us : List Value} {vs : List V} {dvl : List DV} {x : V} {xv : Value} (F0 : FnOk X.prog X.w X.K X.mg X.base CX k fA fd ps (spP ⟨X.K, Γ⟩ h)) (hr : Room k X.A) (hb : Binds X.K fd ps ds) (hd : Vals dvs ds) (hdd : ∀ F, RFs ⟨X.K, Γ⟩ F dvs dds) (hx : ∀ σ, PassesAt CX X σ (WE W σ))
    (I : Inv X pins σ H2 s) (x2 : DL.Ext F H F2 H2) (rx : L2.RelV x xv) (r : Vals vs us) (r1 : RF ⟨X.K, Γ⟩ F2 x (.ins c' xs)) (r2 : RFs ⟨X.K, Γ⟩ F2 vs dvl)
    (q : match h (.ins c' xs :: (dvl ++ dds)) with
      | .ok d => ∀ v F' H' A, DL.Ext F H F' H' → Fresh F' H A → RO ⟨X.K, Γ⟩ F' H' v d A → Q v H'
      | .ex e => ∀ cls dx F' H', DL.Ext F H F' H' → XOk ⟨X.K, Γ⟩ F' cls dx e → W cls dx σ H'
      | .stuck => False) : wpAny (model X.prog X.w) X.A (call (.ref fA) (xv :: us)) (EP X pins σ Q) X.xe s := by
  refine run_fnSD (us := xv :: us) (vs := x :: vs) F0 hr hb hd (hx σ) I (.cons rx r) ⟨F2, _, x2.fh, .cons r1 (r2.append (hdd _)), ?_⟩
  cases hh : h (.ins c' xs :: (dvl ++ dds)) with
  | stuck => rw [hh] at q; exact q
  | ex e => rw [hh] at q; exact fun cls dx F' H' x3 o => q cls dx F' H' (x2.trans x3) o
  | ok d => rw [hh] at q; exact fun v F' H' A' x3 fr' r' => q v F' H' A' (x2.trans x3) ⟨fr'.nd, fr'.nF, fun a ha => by
      cases z : H a with
      | none => rfl
      | some o => have := x2.hh a o z; rw [fr'.nH a ha] at this; cases this⟩ r'
theorem frz_ext {F H F1 H1 : Hp} {A : List Addr} (x1 : DL.Ext F H F1 H1) (fr : Fresh F1 H A) : DL.Ext F H (DL.ext F1 H1 A) H1 :=
  ⟨x1.hh, x1.ff.trans (ext_same fr.nF), ext_sub x1.fh, fun a o e n => by
    by_cases ha : a ∈ A
    · exact fr.nH a ha
    · rw [ext_out ha] at e
      exact x1.new a o e n⟩
theorem fresh_none {F H F1 H1 : Hp} {A : List Addr} (x1 : DL.Ext F H F1 H1) (fr : Fresh F1 H A) {B : Hp} (y : Same F B) : True := trivial
theorem ins_of {F : Hp} {g : Gc} {x : V} {c : Str} {xs : List (Str × DV)} (r : RF g F x (.ins c xs)) : ∃ p C dx vs, x = .ref p ∧ F p = some (.ins C dx vs) ∧ g.cl c = some C ∧ RFf g F vs xs := by
  cases r with
  | ins h1 h2 h3 => exact ⟨_, _, _, _, rfl, h1, h2, h3⟩
/-- o.m(e, ..): o and the arguments are shared from here on -/
theorem de_meth {pl : Sem Bool} (ho : DE X Γ W o fo) (hC : Γ c' = some C) (hc : Cls X.K C) (hm : Meth X.K C m fA) (F : FnOk X.prog X.w X.K X.mg X.base CX k fA fd ps (spP ⟨X.K, Γ⟩ h)) (hr : Room k X.A) (hb : Binds X.K fd ps ds) (hd : Vals dvs ds) (hdd : ∀ F, RFs ⟨X.K, Γ⟩ F dvs dds) (hx : ∀ σ, PassesAt CX X σ (WE W σ))
    (ha : DA X Γ W (e :: es) fs) (hst : starEach (e :: es) X.env = (false, eval e X.env) :: starEach es X.env := by rfl) (hpl : (backTo pos (starEach es X.env)).any (·.1) = false := by rfl)
    (ht : eval (.Call (.Attribute o m apos) (e :: es) [] pos) X.env = (do
      let ov ← eval o X.env
      standAt apos.atName
      let (f, first) ← holding [ov] (getMethod ov m pl)
      callWith pos f first (backTo pos (starEach (e :: es) X.env)) (backToKw pos (keywordEach [] X.env))) := by rfl) :
    DE X Γ W (.Call (.Attribute o m apos) (e :: es) [] pos) (methV c' m h dds fo fs) := by
  refine ⟨⟨fun pins s σ H Q I ⟨F0, As, env, S, q⟩ => ?_⟩⟩
  let q1 : V → Hp → Prop := fun x H1 => ∃ d F1 xs, DL.Ext F0 H F1 H1 ∧ freeze d = .ins c' xs ∧ xs.lookup m = none ∧ RF ⟨X.K, Γ⟩ F1 x (.ins c' xs) ∧ (match (fs env).bind fun ds => h (.ins c' xs :: (freezes ds ++ dds)) with
      | .ok d => ∀ v F' H' A, DL.Ext F0 H F' H' → Fresh F' H A → RO ⟨X.K, Γ⟩ F' H' v d A → Q v H'
      | .ex e => ∀ cls dx F' H', DL.Ext F0 H F' H' → XOk ⟨X.K, Γ⟩ F' cls dx e → W cls dx σ H'
      | .stuck => False)
  refine PySem.W.methodCall_KW (pl := pl) (thn (ho.pe.run pins s σ H q1 I ?_) fun u s1 ⟨x, H1, I1, rx, d, F1, xs, x1, e1, e2, r1, q2⟩ => ?_) ht
  · refine ⟨F0, As, env, S, ?_⟩
    unfold methV at q
    cases hf : fo env with
    | stuck => rw [hf] at q; exact q
    | ex x => rw [hf] at q; exact q
    | ok d =>
      rw [hf] at q
      intro v F' H' A x1 fr r
      have r1 := RO.freeze r fr.nF
      simp only [R.bind] at q
      cases hz : freeze d with
      | ins c0 xs =>
        rw [hz] at q r1
        simp only at q
        by_cases z : c0 = c' ∧ xs.lookup m = none
        · obtain ⟨z1, z2⟩ := z
          subst z1
          refine ⟨d, _, xs, frz_ext x1 fr, hz, z2, r1, ?_⟩
          simp only [z2, and_self, if_true] at q
          exact q
        · rw [if_neg z] at q
          exact q.elim
      | _ =>
        rw [hz] at q
        exact q.elim
  · obtain ⟨p, C0, dx, vs, rfl, h1, h2, h3⟩ := ins_of r1
    obtain rfl : u = Value.ref p := rx
    have eC : C0 = C := by have := h2.symm.trans hC; cases this; rfl
    subst eC
    refine getmeth_ok I1 (x1.fh _ _ h1) hc hm (h3.none e2) ?_
    refine PySem.W.callWith_K (first := [.ref p]) (h₀ := X.base) I.ok.mod.kin hm.kp (thn (ha.pa.run pos pins s1 σ H1 (fun vs H2 => ∃ dvl F2, DL.Ext F0 H F2 H2 ∧ RF ⟨X.K, Γ⟩ F2 (.ref p) (.ins c' xs) ∧ RFs ⟨X.K, Γ⟩ F2 vs dvl ∧ (match h (.ins c' xs :: (dvl ++ dds)) with
      | .ok d => ∀ v F' H' A, DL.Ext F0 H F' H' → Fresh F' H A → RO ⟨X.K, Γ⟩ F' H' v d A → Q v H'
      | .ex e => ∀ cls dx F' H', DL.Ext F0 H F' H' → XOk ⟨X.K, Γ⟩ F' cls dx e → W cls dx σ H'
      | .stuck => False)) I1 ?_) fun us s2 ⟨vs, H2, I2, r, dvl, F2, x2, r3, r4, q3⟩ => ⟨I2.kIn, ?_⟩) hst hpl
    · refine ⟨F1, As, env, S.ext x1, ?_⟩
      cases hfs : fs env with
      | stuck => rw [hfs] at q2; exact q2
      | ex e => rw [hfs] at q2; exact fun cls dx F' H' x2 o => q2 cls dx F' H' (x1.trans x2) o
      | ok ds =>
        rw [hfs] at q2
        intro vs F2 H2 A x2 fr r
        exact ⟨freezes ds, _, x1.trans (frz_ext x2 fr), r1.mono (x2.ff.trans (ext_same fr.nF)), ROs.freeze r fr.nF, q2⟩
    · exact meth_run (x := .ref p) F hr hb hd hdd hx I2 x2 rfl r r3 r4 q3
end
end DL
end
section
set_option maxHeartbeats 1000000
namespace DL
open PySem L2 PyProof.Rows

section
variable {X : Cx} {Γ : Str → Option Addr} {W : WX} {e a b c o : Expr} {es : List Expr} {fa fb fo : Slots → R DV} {fs : Slots → R (List DV)} {pos p : Pos} {f : Str} {cs ce : Str → Bool}
variable {CX : CXT} {k : Nat} {fA C : Addr} {fd : FuncData} {ps : List Str} {h : List DV → R DV} {dvs : List V} {dds : List DV} {ds : List Value} {m c' : Str} {apos : Pos}
/-- o.m() -/
theorem de_meth0 {pl : Sem Bool} (ho : DE X Γ W o fo) (hC : Γ c' = some C) (hc : Cls X.K C) (hm : Meth X.K C m fA) (F : FnOk X.prog X.w X.K X.mg X.base CX k fA fd ps (spP ⟨X.K, Γ⟩ h)) (hr : Room k X.A) (hb : Binds X.K fd ps ds) (hd : Vals dvs ds) (hdd : ∀ F, RFs ⟨X.K, Γ⟩ F dvs dds) (hx : ∀ σ, PassesAt CX X σ (WE W σ))
    (ht : eval (.Call (.Attribute o m apos) [] [] pos) X.env = (do
      let ov ← eval o X.env
      standAt apos.atName
      let (f, first) ← holding [ov] (getMethod ov m pl)
      callWith pos f first (backTo pos (starEach [] X.env)) (backToKw pos (keywordEach [] X.env))) := by rfl) :
    DE X Γ W (.Call (.Attribute o m apos) [] [] pos) (methV c' m h dds fo fun _ => .ok []) := by
  refine ⟨⟨fun pins s σ H Q I ⟨F0, As, env, S, q⟩ => ?_⟩⟩
  let q1 : V → Hp → Prop := fun x H1 => ∃ F1 xs, DL.Ext F0 H F1 H1 ∧ xs.lookup m = none ∧ RF ⟨X.K, Γ⟩ F1 x (.ins c' xs) ∧ (match h (.ins c' xs :: ([] ++ dds)) with
      | .ok d => ∀ v F' H' A, DL.Ext F0 H F' H' → Fresh F' H A → RO ⟨X.K, Γ⟩ F' H' v d A → Q v H'
      | .ex e => ∀ cls dx F' H', DL.Ext F0 H F' H' → XOk ⟨X.K, Γ⟩ F' cls dx e → W cls dx σ H'
      | .stuck => False)
  refine PySem.W.methodCall_KW (pl := pl) (thn (ho.pe.run pins s σ H q1 I ?_) fun u s1 ⟨x, H1, I1, rx, F1, xs, x1, e2, r1, q2⟩ => ?_) ht
  · refine ⟨F0, As, env, S, ?_⟩
    unfold methV at q
    cases hf : fo env with
    | stuck => rw [hf] at q; exact q
    | ex x => rw [hf] at q; exact q
    | ok d =>
      rw [hf] at q
      intro v F' H' A x1 fr r
      have r1 := RO.freeze r fr.nF
      simp only [R.bind] at q
      cases hz : freeze d with
      | ins c0 xs =>
        rw [hz] at q r1
        simp only at q
        by_cases z : c0 = c' ∧ xs.lookup m = none
        · obtain ⟨z1, z2⟩ := z
          subst z1
          refine ⟨_, xs, frz_ext x1 fr, z2, r1, ?_⟩
          simp only [z2, and_self, if_true] at q
          exact q
        · rw [if_neg z] at q
          exact q.elim
      | _ =>
        rw [hz] at q
        exact q.elim
  · obtain ⟨p, C0, dx, vs, rfl, h1, h2, h3⟩ := ins_of r1
    obtain rfl : u = Value.ref p := rx
    have eC : C0 = C := by have := h2.symm.trans hC; cases this; rfl
    subst eC
    refine getmeth_ok I1 (x1.fh _ _ h1) hc hm (h3.none e2) ?_
    exact PySem.W.callWith_K0 (first := [.ref p]) I1.kIn hm.kp (meth_run (x := .ref p) (us := []) (vs := []) (dvl := []) F hr hb hd hdd hx I1 x1 rfl .nil r1 .nil q2)
end

/-! ### a self that is changed -/
inductive RS where
  | ok (d : DV) (fs : List (Str × DV)) | ex (x : Exn) (fs : List (Str × DV)) | stuck
structure ExtW (F H F' H' : Hp) (W : List Addr) : Prop where
  hh : ∀ a o, H a = some o → a ∉ W → H' a = some o
  ht : ∀ a o, H a = some o → ∃ o', H' a = some o'
  ff : Same F F'
  fh : Same F' H'
  new : ∀ a o, F' a = some o → F a = none → H a = none ∨ a ∈ W
structure FreshW (F H : Hp) (A W : List Addr) : Prop where
  nd : ∀ a, A.count a ≤ 1
  nF : ∀ a ∈ A, F a = none
  nH : ∀ a ∈ A, H a = none ∨ a ∈ W
/-- h: of self's fields and the arguments -/
def spS (g : Gc) (c : Str) (h : List (Str × DV) → List DV → RS) : Sp := fun vs H Q E => ∃ v0 vs' F fs ds A0, vs = v0 :: vs' ∧ Same F H ∧ RFs g F vs' ds ∧ RO g F H v0 (.obj c fs) A0 ∧ (∀ a, A0.count a ≤ 1) ∧ (∀ a ∈ A0, F a = none) ∧ match h fs ds with
  | .ok d fs' => ∀ v F' H' A A', ExtW F H F' H' A0 → RO g F' H' v0 (.obj c fs') A → RO g F' H' v d A' → FreshW F' H (A ++ A') A0 → Q v H'
  | .ex x fs' => ∀ cls dx F' H' A, ExtW F H F' H' A0 → RO g F' H' v0 (.obj c fs') A → FreshW F' H A A0 → XOk g F' cls dx x → E cls dx H'
  | .stuck => False
def slf (c : Str) (env : Slots) : Option (List (Str × DV)) := match (env[0]? : Option (Option DV)) with
  | some (some (DV.obj c' fs)) => if c' = c then some fs else none
  | _ => none
def finS (c : Str) : Out → RS
  | .rt d env => match slf c env with | some fs => .ok d fs | none => .stuck
  | .nx env => match slf c env with | some fs => .ok .non fs | none => .stuck
  | .ex x env => match slf c env with | some fs => .ex x fs | none => .stuck
  | _ => .stuck
def fnS (c : Str) (n m : Nat) (G : Slots → Out) : List (Str × DV) → List DV → RS := fun fs ds => if ds.length + 1 = n then finS c (G (some (.obj c fs) :: (ds.map some ++ List.replicate m none))) else .stuck
theorem slf_some {c : Str} {env : Slots} {fs : List (Str × DV)} (h : slf c env = some fs) : env[0]? = some (some (.obj c fs)) := by
  unfold slf at h
  split at h
  · rename_i c' fs' e
    split at h
    · rename_i z
      cases h
      rw [e, z]
    · cases h
  · cases h
section
variable {g : Gc} {F0 H0 F F' H : Hp} {As A0 : List Addr} {σ : L2.St} {env : Slots} {v0 : V} {c : Str} {fs : List (Str × DV)}
theorem RelAt.startS {m : Nat} {N : List Str} {vs : List V} {ds : List DV} (s : Same F H) (r : RFs g F vs ds) (r0 : RO g F H v0 (.obj c fs) A0) (nd : ∀ a, A0.count a ≤ 1) (nF : ∀ a ∈ A0, F a = none) (hN : N.length = (vs.length + 1) + m) :
    RelAt g ⟨F, H, A0, some v0⟩ F (A0 ++ []) (L2.start N (v0 :: vs)) H (some (.obj c fs) :: (ds.map some ++ List.replicate m none)) := by
  have e : L2.start N (v0 :: vs) = some v0 :: (vs.map some ++ List.replicate m none) := by
    unfold L2.start
    rw [hN]
    simp
  rw [e]
  refine ⟨⟨s, .som r0 (RE.start r), fun a => ?_, fun a ha => ?_⟩, .refl F, fun a o q n => ?_, fun a o q _ => q, fun a o q => ⟨o, q⟩, fun a ha => ?_, fun v z _ => ?_⟩
  · rw [List.append_nil]; exact nd a
  · rw [List.append_nil] at ha; exact nF a ha
  · rw [show F a = none from n] at q; cases q
  · rw [List.append_nil] at ha; exact .inr ha
  · cases z; rfl
theorem RelAt.outW {B : Base} (s : Same B.F0 F') (R : RelAt g B F' As σ H env) : ExtW B.F0 B.H0 F' H B.W := ⟨R.fm, R.ft, R.f0, R.sa.fh, R.fr⟩
/-- what a method leaves of self -/
theorem RelAt.self {B : Base} (R : RelAt g B F' As σ H env) (hv : B.self = some v0) (hs : slf c env = some fs) : ∃ A, RO g F' H v0 (.obj c fs) A ∧ ∀ a, A.count a ≤ As.count a := by
  have e := slf_some hs
  obtain ⟨v, A, Bx, h1, h2, h3, h4⟩ := R.sa.sl.get e
  have p := R.pin v0 hv ⟨c, fs, e⟩
  rw [p] at h1
  cases h1
  exact ⟨A, h2, fun a => by have := h4 a; omega⟩
theorem post_finS {E : XK} {Q : VK} {o : Out} (h : match finS c o with
    | .ok d fs' => ∀ v F' H' A A', ExtW F H F' H' A0 → RO g F' H' v0 (.obj c fs') A → RO g F' H' v d A' → FreshW F' H (A ++ A') A0 → Q v H'
    | .ex x fs' => ∀ cls dx F' H' A, ExtW F H F' H' A0 → RO g F' H' v0 (.obj c fs') A → FreshW F' H A A0 → XOk g F' cls dx x → E cls dx H'
    | .stuck => False) : PostS g ⟨F, H, A0, some v0⟩ (fun cls d _ H => E cls d H) F { nx := fun _ H' => Q .non H', rt := Q } o := by
  cases o with
  | nx env =>
    intro F' As σ H' s R
    unfold finS at h
    simp only at h
    cases hs : slf c env with
    | none => rw [hs] at h; exact h.elim
    | some fs' =>
      rw [hs] at h
      obtain ⟨A, r, cn⟩ := R.self rfl hs
      refine h .non F' H' A [] (R.outW s) r (.frz .non) ⟨fun a => ?_, fun a ha => ?_, fun a ha => ?_⟩
      · rw [List.append_nil]; have := cn a; have := R.sa.nd a; omega
      · rw [List.append_nil] at ha; exact R.sa.fx a (cpos.mpr (by have := cn a; have := cpos.mp ha; omega))
      · rw [List.append_nil] at ha; exact R.ow a (cpos.mpr (by have := cn a; have := cpos.mp ha; omega))
  | rt d env =>
    intro v F' As A' σ H' s R K
    unfold finS at h
    simp only at h
    cases hs : slf c env with
    | none => rw [hs] at h; exact h.elim
    | some fs' =>
      rw [hs] at h
      obtain ⟨A, r, cn⟩ := R.self rfl hs
      have sub : ∀ a ∈ A, a ∈ As := fun a ha => cpos.mpr (by have := cn a; have := cpos.mp ha; omega)
      refine h v F' H' A A' (R.outW s) r K.r ⟨fun a => ?_, fun a ha => ?_, fun a ha => ?_⟩
      · rw [List.count_append]; have := cn a; have := K.nd a; omega
      · exact (List.mem_append.mp ha).elim (fun z => R.sa.fx a (sub a z)) (K.nF a)
      · exact (List.mem_append.mp ha).elim (fun z => R.ow a (sub a z)) (K.ow a)
  | bk env => exact h.elim
  | ct env => exact h.elim
  | ex x env =>
    intro cls dx F' As σ H' s R o
    unfold finS at h
    simp only at h
    cases hs : slf c env with
    | none => rw [hs] at h; exact h.elim
    | some fs' =>
      rw [hs] at h
      obtain ⟨A, r, cn⟩ := R.self rfl hs
      exact h cls dx F' H' A (R.outW s) r ⟨fun a => by have := cn a; have := R.sa.nd a; omega, fun a ha => R.sa.fx a (cpos.mpr (by have := cn a; have := cpos.mp ha; omega)), fun a ha => R.ow a (cpos.mpr (by have := cn a; have := cpos.mp ha; omega))⟩ o
  | stuck => exact h
end
section
variable {P : Program} {w : World} {K : PySem.W.Frag} {mg : Str → Option Value} {base : Heap} {Γ : Str → Option Addr} {CX : CXT}
theorem fn_s {c : Str} {x qual : Str} {params : Arguments} {body : List Stmt} {scope : Scope} {dvs : List V} {kws : List (Str × V)} {f : Addr} {fd : FuncData} {N ps : List Str} {k m : Nat} {G : Slots → Out}
    (F : FunD K x qual params body scope dvs kws f fd) (S : FnScope N ps scope) (hN : N.length = ps.length + m)
    (hb : ∀ (cdv : Value) (A : Around) (outer : List Env) (s : Shared) (H : Hp) (E : XK), Room k (A.deeper (envOfC qual scope s.heap.objs.size f cdv)) →
      DSs (cxOf CX P w K mg base N qual scope f cdv A outer s H E) Γ (fun cls d _ H => E cls d H) body G) :
    FnOk P w K mg base CX (k + 1) f fd ps (spS ⟨K, Γ⟩ c (fnS c ps.length m G)) := by
  have hl : ∀ {vs : List V} {H : Hp} {Q : VK} {E : XK}, spS ⟨K, Γ⟩ c (fnS c ps.length m G) vs H Q E → vs.length = ps.length := by
    rintro vs H Q E ⟨v0, vs', F, fs, ds, A0, rfl, _, r, _, _, _, q⟩
    show vs'.length + 1 = ps.length
    rw [r.length]
    by_cases c : ds.length + 1 = ps.length
    · exact c
    · unfold fnS at q
      rw [if_neg c] at q
      exact q.elim
  refine F.ok S (fun vs H Q E h => hl h) fun cdv A outer s H vs Q E hr h => ⟨_, (hb cdv A outer s H E hr).pss, ?_⟩
  have l := hl h
  obtain ⟨v0, vs', F, fs, ds, A0, rfl, sf, r, r0, nd, nF, q⟩ := h
  have l : vs'.length + 1 = ps.length := l
  unfold fnS at q
  rw [if_pos (by rw [← r.length]; exact l)] at q
  exact ⟨⟨F, H, A0, some v0⟩, F, _, _, RelAt.startS sf r r0 nd nF (by rw [l]; exact hN), post_finS q⟩
end
end DL
end
section
set_option maxHeartbeats 1000000
namespace DL
open PySem L2 PyProof.Rows

/-! ### a part of what a slot holds, written -/
section
variable {g : Gc} {B : Base} {F H : Hp} {As A : List Addr} {σ : L2.St} {env : Slots} {i : Nat} {d0 : DV}
theorem RelAt.mut (R : RelAt g B F As σ H env) (nk : ∀ a, As.count a + A.count a ≤ 1) (kF : ∀ a ∈ A, F a = none) (ko : ∀ a ∈ A, B.H0 a = none ∨ a ∈ B.W) (he : env[i]? = some (some d0)) :
    ∃ v0 A0, σ[i]? = some (some v0) ∧ RO g F H v0 d0 A0 ∧ (∀ a ∈ A0, a ∉ A) ∧ (∀ a, A0.count a ≤ 1) ∧ ∀ p o' d1 A1, p ∈ A0 → RO g F (upd H p o') v0 d1 A1 → (∀ a, A1.count a ≤ A0.count a + A.count a) → (isObj d1 = true → isObj d0 = true) → ∃ As', RelAt g B F As' σ (upd H p o') (env.set i (some d1)) := by
  obtain ⟨v0, A0, C, h1, h2, h3, h4⟩ := R.sa.sl.get he
  have inAs : ∀ a ∈ A0, a ∈ As := fun a ha => cpos.mpr (by have := h4 a; have := cpos.mp ha; omega)
  refine ⟨v0, A0, h1, h2, fun a ha hb => ?_, fun a => by have := h4 a; have := R.sa.nd a; omega, fun p o' d1 A1 hp r1 hc ho => ?_⟩
  · have := nk a; have := cpos.mp (inAs a ha); have := cpos.mp hb; omega
  have pF : F p = none := R.sa.fx p (inAs p hp)
  have pC : p ∉ C := fun z => by have := R.sa.nd p; have := h4 p; have := cpos.mp hp; have := cpos.mp z; omega
  have hC : RE g F (upd H p o') σ (env.set i none) C := h3.mono (.refl F) fun a ha => upd_ne fun z => pC (z ▸ ha)
  obtain ⟨As', s', cnt⟩ := RE.back (i := i) hC h1 r1
  rw [List.set_set] at s'
  have sub : ∀ a ∈ As', a ∈ As ∨ a ∈ A := fun a ha => by
    have := cnt a; have := hc a; have := h4 a; have := cpos.mp ha
    by_cases z : 0 < As.count a
    · exact .inl (cpos.mpr z)
    · exact .inr (cpos.mpr (by omega))
  refine ⟨As', ⟨fun a o e => ?_, s', fun a => ?_, fun a ha => ?_⟩, R.f0, R.fr, fun a o e n => ?_, fun a o e => ?_, fun a ha => ?_, fun w e => ?_⟩
  · rw [upd_ne (fun z => by rw [z, pF] at e; cases e)]; exact R.sa.fh a o e
  · have := cnt a; have := hc a; have := h4 a; have := nk a; omega
  · exact (sub a ha).elim (R.sa.fx a) (kF a)
  · rw [upd_ne (fun z => by
      subst z
      rcases R.ow a (inAs a hp) with k | k
      · rw [e] at k; cases k
      · exact n k)]
    exact R.fm a o e n
  · by_cases z : a = p
    · subst z; exact ⟨o', upd_same⟩
    · rw [upd_ne z]; exact R.ft a o e
  · exact (sub a ha).elim (R.ow a) (ko a)
  · rintro ⟨c, fs, e2⟩
    refine R.pin w e ?_
    by_cases h0 : i = 0
    · subst h0
      have lt : 0 < env.length := (List.getElem?_eq_some_iff.mp he).1
      rw [List.getElem?_set_self lt] at e2
      cases e2
      have := ho rfl
      cases d0 with
      | obj c' fs' => exact ⟨c', fs', he⟩
      | _ => cases this
    · rw [List.getElem?_set_ne h0] at e2
      exact ⟨c, fs, e2⟩
end
/-- a part of a deep value: its value in the heap, the part, the whole with another part -/
structure Lens where
  at_ : Gc → Hp → V → V → Prop
  get : DV → Option DV
  put : DV → DV → DV
/-- g, cs: the classes whose fields are gone through -/
structure Lens.Ok (L : Lens) : Prop where
  ob : ∀ d0 d d', L.get d0 = some d → (isObj d' = true → isObj d = true) → isObj (L.put d0 d') = true → isObj d0 = true
  uni : ∀ {g : Gc} {H : Hp} {v0 v v' : V}, L.at_ g H v0 v → L.at_ g H v0 v' → v = v'
  mono : ∀ {g : Gc} {H H' : Hp} {v0 v : V}, Same H H' → L.at_ g H v0 v → L.at_ g H' v0 v
  sel : ∀ {g : Gc} {F H : Hp} {v0 : V} {d0 : DV} {A0 : List Addr} {d : DV}, RO g F H v0 d0 A0 → L.get d0 = some d → ∃ (v : V) (A C : List Addr), L.at_ g H v0 v ∧ RO g F H v d A ∧ (∀ a, A0.count a = A.count a + C.count a) ∧
    ∀ (H' : Hp) (d' : DV) (A' : List Addr), (∀ a ∈ C, H' a = H a) → RO g F H' v d' A' → ∃ A1 : List Addr, RO g F H' v0 (L.put d0 d') A1 ∧ ∀ a, A1.count a ≤ A'.count a + C.count a
def lId : Lens := ⟨fun _ _ v0 v => v = v0, some, fun _ d' => d'⟩
theorem lId_ok : lId.Ok := ⟨fun d0 d d' e k z => by cases e; exact k z, fun {g H v0 v v'} a b => a.trans b.symm, fun {g H H' v0 v} _ a => a, fun {g F H v0 d0 A0 d} r e => by
  cases e
  exact ⟨v0, A0, [], rfl, r, fun a => by simp, fun H' d' A' _ r' => ⟨A', r', fun a => by simp⟩⟩⟩
/-- the field f -/
def lFld (f : Str) (cs : Str → Bool) (L : Lens) : Lens := ⟨fun g H v0 v => ∃ p C dx vs c, L.at_ g H v0 (.ref p) ∧ H p = some (.ins C dx vs) ∧ vs.lookup f = some v ∧ cs c = true ∧ g.cl c = some C,
  fun d => (L.get d).bind fun e => match e with | .obj c fs => if cs c then fs.lookup f else none | _ => none,
  fun d d' => match L.get d with | some (.obj c fs) => L.put d (.obj c (putD f d' fs)) | _ => d⟩
/-- the last item -/
def lLast (L : Lens) : Lens := ⟨fun g H v0 v => ∃ p vs, L.at_ g H v0 (.ref p) ∧ H p = some (.lst vs) ∧ vs.getLast? = some v,
  fun d => (L.get d).bind fun e => match e with | .own ds => ds.getLast? | _ => none,
  fun d d' => match L.get d with | some (.own ds) => L.put d (.own (ds.dropLast ++ [d'])) | _ => d⟩
theorem ROf.sel {g : Gc} {F H : Hp} {f : Str} {d : DV} : ∀ {vs : List (Str × V)} {ds : List (Str × DV)} {A : List Addr}, ROf g F H vs ds A → ds.lookup f = some d →
    ∃ (v : V) (A1 C : List Addr), vs.lookup f = some v ∧ RO g F H v d A1 ∧ (∀ a, A.count a = A1.count a + C.count a) ∧ ∀ (H' : Hp) (d' : DV) (A' : List Addr), (∀ a ∈ C, H' a = H a) → RO g F H' v d' A' → ∃ A2 : List Addr, ROf g F H' vs (putD f d' ds) A2 ∧ ∀ a, A2.count a ≤ A'.count a + C.count a
  | _, _, _, .nil, e => by simp at e
  | _, _, _, .cons (n := m) (v := v) (d := d0) (A := A) (vs := vs) (ds := ds) (B := B) h r, e => by
    by_cases q : m = f
    · subst q
      simp only [List.lookup, beq_self_eq_true] at e ⊢
      cases e
      refine ⟨v, A, B, rfl, h, fun a => List.count_append, fun H' d' A' k r' => ⟨A' ++ B, ?_, fun a => by rw [List.count_append]; omega⟩⟩
      rw [putD, if_pos rfl]
      exact .cons r' (r.mono (.refl F) k)
    · have q2 : (f == m) = false := by simpa using fun z => q z.symm
      simp only [List.lookup, q2] at e ⊢
      obtain ⟨v1, A1, C, h1, h2, h3, h4⟩ := ROf.sel r e
      refine ⟨v1, A1, A ++ C, h1, h2, fun a => by rw [List.count_append, List.count_append, h3]; omega, fun H' d' A' k r' => ?_⟩
      obtain ⟨A2, k1, k2⟩ := h4 H' d' A' (fun a ha => k a (List.mem_append_right _ ha)) r'
      refine ⟨A ++ A2, ?_, fun a => by rw [List.count_append, List.count_append]; have := k2 a; omega⟩
      rw [putD, if_neg q]
      exact .cons (h.mono (.refl F) fun a ha => k a (List.mem_append_left _ ha)) k1
theorem lFld_ok {f : Str} {cs : Str → Bool} {L : Lens} (h : L.Ok) : (lFld f cs L).Ok := by
  refine ⟨fun d0 d d' e k hz => ?_, fun {g H v0 v v'} a b => ?_, fun {g H H' v0 v} s a => ?_, fun {g F H v0 d0 A0 d} r e => ?_⟩
  rotate_left
  · obtain ⟨p, C, dx, vs, c, a1, a2, a3, _⟩ := a
    obtain ⟨p', C', dx', vs', c', b1, b2, b3, _⟩ := b
    have := h.uni a1 b1
    cases this
    rw [a2] at b2; cases b2
    rw [a3] at b3; cases b3; rfl
  · obtain ⟨p, C, dx, vs, c, a1, a2, a3, a4⟩ := a
    exact ⟨p, C, dx, vs, c, h.mono s a1, s _ _ a2, a3, a4⟩
  rotate_left
  · unfold lFld at hz e
    simp only at hz e
    cases q : L.get d0 with
    | none => rw [q] at e; cases e
    | some e0 =>
      rw [q] at hz e
      cases e0 with
      | obj c fs => exact h.ob _ _ _ q (fun _ => rfl) hz
      | _ => cases e
  · unfold lFld at e ⊢
    simp only at e ⊢
    cases q : L.get d0 with
    | none => rw [q] at e; cases e
    | some e0 =>
      rw [q] at e
      cases e0 with
      | obj c fs =>
        simp only [Option.bind_some] at e
        by_cases z : cs c = true
        · rw [if_pos z] at e
          obtain ⟨v, A, C, s1, s2, s3, s4⟩ := h.sel r q
          cases s2 with
          | frz rf => cases rf
          | @obj p Cc dx _ vs _ Af h1 h2 h3 =>
            obtain ⟨v1, A1, C1, k1, k2, k3, k4⟩ := ROf.sel h3 e
            refine ⟨v1, A1, p :: (C1 ++ C), ⟨p, Cc, dx, vs, c, s1, h1, k1, z, h2⟩, k2, fun a => by rw [s3, List.count_cons, List.count_cons, List.count_append, k3]; omega, fun H' d' A' k r' => ?_⟩
            obtain ⟨A2, m1, m2⟩ := k4 H' d' A' (fun a ha => k a (List.mem_cons_of_mem _ (List.mem_append_left _ ha))) r'
            obtain ⟨A3, n1, n2⟩ := s4 H' _ _ (fun a ha => k a (List.mem_cons_of_mem _ (List.mem_append_right _ ha))) (.obj ((k p (List.mem_cons_self ..)).trans h1) h2 m1)
            refine ⟨A3, n1, fun a => ?_⟩
            have := n2 a; have := m2 a
            rw [List.count_cons] at *
            rw [List.count_append]
            omega
        · rw [if_neg z] at e; cases e
      | _ => cases e
theorem ROs.last {g : Gc} {F H : Hp} {d : DV} : ∀ {vs : List V} {ds : List DV} {A : List Addr}, ROs g F H vs ds A → ds.getLast? = some d →
    ∃ (v : V) (A1 C : List Addr), vs.getLast? = some v ∧ RO g F H v d A1 ∧ (∀ a, A.count a = A1.count a + C.count a) ∧ ∀ (H' : Hp) (d' : DV) (A' : List Addr), (∀ a ∈ C, H' a = H a) → RO g F H' v d' A' → ∃ A2 : List Addr, ROs g F H' vs (ds.dropLast ++ [d']) A2 ∧ ∀ a, A2.count a ≤ A'.count a + C.count a
  | _, _, _, .nil, e => by simp at e
  | _, _, _, .cons (v := v) (d := d0) (A := A) h .nil, e => by
    simp at e
    subst e
    exact ⟨v, A, [], rfl, h, fun a => by simp, fun H' d' A' k r' => ⟨A' ++ [], by simpa using ROs.cons r' .nil, fun a => by simp⟩⟩
  | _, _, _, .cons (v := v) (d := d0) (A := A) h (.cons (v := v2) (d := d2) (A := A3) (vs := vs) (ds := ds) (B := B3) q2 r2), e => by
    have r := ROs.cons q2 r2
    rw [List.getLast?_cons_cons] at e
    obtain ⟨v1, A1, C, h1, h2, h3, h4⟩ := ROs.last r e
    refine ⟨v1, A1, A ++ C, by rw [List.getLast?_cons_cons]; exact h1, h2, fun a => by have := h3 a; simp only [List.count_append] at *; omega, fun H' d' A' k r' => ?_⟩
    obtain ⟨A2, k1, k2⟩ := h4 H' d' A' (fun a ha => k a (List.mem_append_right _ ha)) r'
    refine ⟨A ++ A2, ?_, fun a => by rw [List.count_append, List.count_append]; have := k2 a; omega⟩
    exact .cons (h.mono (.refl F) fun a ha => k a (List.mem_append_left _ ha)) k1
theorem lLast_ok {L : Lens} (h : L.Ok) : (lLast L).Ok := by
  refine ⟨fun d0 d d' e k hz => ?_, fun {g H v0 v v'} a b => ?_, fun {g H H' v0 v} s a => ?_, fun {g F H v0 d0 A0 d} r e => ?_⟩
  rotate_left
  · obtain ⟨p, vs, a1, a2, a3⟩ := a
    obtain ⟨p', vs', b1, b2, b3⟩ := b
    have := h.uni a1 b1
    cases this
    rw [a2] at b2; cases b2
    rw [a3] at b3; cases b3; rfl
  · obtain ⟨p, vs, a1, a2, a3⟩ := a
    exact ⟨p, vs, h.mono s a1, s _ _ a2, a3⟩
  rotate_left
  · unfold lLast at hz e
    simp only at hz e
    cases q : L.get d0 with
    | none => rw [q] at e; cases e
    | some e0 =>
      rw [q] at hz e
      cases e0 with
      | own ds => exact h.ob d0 (.own ds) (.own (ds.dropLast ++ [d'])) q (fun z => Bool.noConfusion (show false = true from z)) hz
      | _ => cases e
  · unfold lLast at e ⊢
    simp only at e ⊢
    cases q : L.get d0 with
    | none => rw [q] at e; cases e
    | some e0 =>
      rw [q] at e
      cases e0 with
      | own ds =>
        simp only [Option.bind_some] at e
        obtain ⟨v, A, C, s1, s2, s3, s4⟩ := h.sel r q
        cases s2 with
        | frz rf => cases rf
        | @own p vs _ Af h1 h3 =>
          obtain ⟨v1, A1, C1, k1, k2, k3, k4⟩ := ROs.last h3 e
          refine ⟨v1, A1, p :: (C1 ++ C), ⟨p, vs, s1, h1, k1⟩, k2, fun a => by rw [s3, List.count_cons, List.count_cons, List.count_append, k3]; omega, fun H' d' A' k r' => ?_⟩
          obtain ⟨A2, m1, m2⟩ := k4 H' d' A' (fun a ha => k a (List.mem_cons_of_mem _ (List.mem_append_left _ ha))) r'
          obtain ⟨A3, n1, n2⟩ := s4 H' _ _ (fun a ha => k a (List.mem_cons_of_mem _ (List.mem_append_right _ ha))) (.own ((k p (List.mem_cons_self ..)).trans h1) m1)
          refine ⟨A3, n1, fun a => ?_⟩
          have := n2 a; have := m2 a
          rw [List.count_cons] at *
          rw [List.count_append]
          omega
      | _ => cases e
def mget (i : Nat) (L : Lens) (env : Slots) : Option DV := match (env[i]? : Option (Option DV)) with
  | some (some d) => L.get d
  | _ => none
def mput (i : Nat) (L : Lens) (d : DV) (env : Slots) : Slots := match (env[i]? : Option (Option DV)) with
  | some (some d0) => env.set i (some (L.put d0 d))
  | _ => env
theorem mget_some {i : Nat} {L : Lens} {env : Slots} {d : DV} (h : mget i L env = some d) : ∃ d0, env[i]? = some (some d0) ∧ L.get d0 = some d := by
  unfold mget at h
  split at h
  · rename_i d0 e
    exact ⟨d0, e, h⟩
  · cases h
section
variable {g : Gc} {B : Base} {F H : Hp} {As A : List Addr} {σ : L2.St} {env : Slots} {i : Nat} {d0 dm d : DV} {L : Lens} {v : V}
theorem RelAt.lens (R : RelAt g B F As σ H env) (hL : L.Ok) (nk : ∀ a, As.count a + A.count a ≤ 1) (kF : ∀ a ∈ A, F a = none) (ko : ∀ a ∈ A, B.H0 a = none ∨ a ∈ B.W) (he : mget i L env = some dm) :
    ∃ v0 vm Am, σ[i]? = some (some v0) ∧ L.at_ g H v0 vm ∧ RO g F H vm dm Am ∧ (∀ a, Am.count a + A.count a ≤ 1) ∧ ∀ p o' dm' Am', p ∈ Am → RO g F (upd H p o') vm dm' Am' → (∀ a, Am'.count a ≤ Am.count a + A.count a) → (isObj dm' = true → isObj dm = true) → ∃ As', RelAt g B F As' σ (upd H p o') (mput i L dm' env) := by
  obtain ⟨d0, e1, e2⟩ := mget_some he
  obtain ⟨v0, A0, s1, r0, ap, nd, put⟩ := R.mut nk kF ko e1
  obtain ⟨vm, Am, C, l1, l2, l3, l4⟩ := hL.sel r0 e2
  refine ⟨v0, vm, Am, s1, l1, l2, fun a => ?_, fun p o' dm' Am' hp r1 hc ho => ?_⟩
  · have := l3 a; have := nd a
    by_cases z : a ∈ A0
    · have := List.count_eq_zero.mpr (ap a z)
      omega
    · have h1 := List.count_eq_zero.mpr z
      have := nk a
      omega
  · have pC : p ∉ C := fun z => by have := nd p; have := l3 p; have := cpos.mp hp; have := cpos.mp z; omega
    obtain ⟨A1, k1, k2⟩ := l4 (upd H p o') dm' Am' (fun a ha => upd_ne fun z => pC (z ▸ ha)) r1
    unfold mput
    rw [e1]
    exact put p o' _ A1 (cpos.mpr (by have := l3 p; have := cpos.mp hp; omega)) k1 (fun a => by have := k2 a; have := hc a; have := l3 a; omega) (hL.ob _ _ _ e2 ho)
end
/-- o is a part of what slot i holds -/
structure DP (X : Cx) (Γ : Str → Option Addr) (o : Expr) (i : Nat) (L : Lens) : Prop where
  ok : L.Ok
  pe : PE X o (fun σ H Q => ∃ v0 v, σ[i]? = some (some v0) ∧ L.at_ ⟨X.K, Γ⟩ H v0 v ∧ Q v H)
section
variable {X : Cx} {Γ : Str → Option Addr} {W : WX} {e a b c o ie : Expr} {fe fi : Slots → R DV} {pos p apos kpos : Pos} {f : Str} {cs : Str → Bool} {i : Nat} {L : Lens}
theorem dp_var (i : Nat) {x : Str} (hN : X.N[i]? = some x := by rfl) (hv : Vis X.env.scope x := by first | exact Or.inl rfl | exact Or.inr (Or.inl rfl) | exact Or.inr (Or.inr rfl)) (hd : (x == ("__debug__" : Str)) = false := by decide)
    (hcd : (x == ("__classdict__" : Str)) = false := by decide) : DP X Γ (.Name x pos) i lId := ⟨lId_ok, pe_imp (pe_var hN hv hd hcd) fun σ H Q ⟨v0, v, h1, h2, q⟩ => by
  have h2 : v = v0 := h2
  subst h2
  exact ⟨v, h1, q⟩⟩
theorem dp_fld (h : DP X Γ o i L) (hk : AtK X.K Γ f cs) (hb : attributeBase o f X.env (eval o X.env) = eval o X.env := by rfl) : DP X Γ (.Attribute o f pos) i (lFld f cs L) :=
  ⟨lFld_ok h.ok, pe_imp (pe_fld h.pe hb) fun σ H Q ⟨v0, v, h1, ⟨p, C, dx, vs, c, l1, l2, l3, l4, l5⟩, q⟩ => by
    obtain ⟨k1, k2⟩ := hk c C l4 l5
    exact ⟨v0, .ref p, h1, l1, p, C, dx, vs, v, rfl, l2, k1, k2, l3, q⟩⟩
/-- o.append(e) -/
def appS (i : Nat) (L : Lens) (fe : Slots → R DV) : Slots → Out := fun env => match mget i L env with
  | some (.own _) => bindE fe (fun d env => match mget i L env with
    | some (.own ds) => if ds.length < big then .nx (mput i L (.own (ds ++ [d])) env) else .stuck
    | _ => .stuck) env
  | _ => .stuck
theorem ROs.length {g : Gc} {F H : Hp} : ∀ {vs : List V} {ds : List DV} {A : List Addr}, ROs g F H vs ds A → vs.length = ds.length
  | _, _, _, .nil => rfl
  | _, _, _, .cons _ r => congrArg Nat.succ (ROs.length r)
theorem nil_k {B : Base} {As : List Addr} {F : Hp} (h : ∀ a, As.count a ≤ 1) : (∀ a, As.count a + ([] : List Addr).count a ≤ 1) ∧ (∀ a ∈ ([] : List Addr), F a = none) ∧ (∀ a ∈ ([] : List Addr), B.H0 a = none ∨ a ∈ B.W) :=
  ⟨fun a => by have := h a; simpa using this, (fun _ h => nomatch h), (fun _ h => nomatch h)⟩
theorem ds_app (ho : DP X Γ o i L) (he : DE X Γ W e fe) (hbase : attributeBase o "append" X.env (eval o X.env) = eval o X.env := by rfl)
    (hfew : ((backTo kpos (starEach [e] X.env)).all (fun x => !x.1) && (backToKw kpos (keywordEach [] X.env)).all (fun x => x.1.isSome)
      && decide ([e].length + ([] : List Keyword).length + (if ([] : List Keyword).isEmpty then 0 else 1) < 30)) = true := by rfl)
    (hline : (apos.endLine == kpos.line) = true := by rfl) (hs : starEach [e] X.env = (false, eval e X.env) :: starEach [] X.env := by rfl) (hplain : (backTo kpos (starEach [] X.env)).any (·.1) = false := by rfl)
    (hsw : swapsWith (.Call (.Attribute o "append" apos) [e] [] kpos) none pos.line X.env = pure false := by rfl) :
    DS X Γ W (.Expr (.Call (.Attribute o "append" apos) [e] [] kpos) pos) (appS i L fe) := by
  have pe := pe_bm PySem.F.plainAttrs_list PySem.F.slot_list_append PySem.F.type_list_append mt_append ho.pe (pa_cons he.pe pa_nil hs) hbase hfew hline hs hplain
  refine ⟨ps_imp (ps_expr pe hsw) fun D σ H ⟨B, F, As, env, R, q⟩ => ?_⟩
  unfold appS at q
  cases hm : mget i L env with
  | none => rw [hm] at q; exact q.elim
  | some dm =>
    rw [hm] at q
    cases dm with
    | own ds =>
      have n0 := nil_k (B := B) (F := F) R.sa.nd
      obtain ⟨v0, vm, Am, s1, l1, l2, _, _⟩ := R.lens ho.ok (A := []) n0.1 n0.2.1 n0.2.2 hm
      cases l2 with
      | frz rf => cases rf
      | @own p vs _ Af h1 h2 =>
        refine ⟨v0, .ref p, s1, l1, .inl ⟨rfl, vs, .of h1⟩, F, As, env, R.sa, ?_⟩
        unfold bindE at q
        cases hf : fe env with
        | stuck => rw [hf] at q; exact q
        | ex x =>
          rw [hf] at q
          exact fun cls dx F' H' xx o => q cls dx F' As σ H' xx.ff (R.ext xx) o
        | ok d =>
          rw [hf] at q
          intro v F' H' A xx fr r
          have R' := R.ext xx
          have K := R.keep xx fr r
          simp only [hm] at q
          by_cases hz : ds.length < big
          · rw [if_pos hz] at q
            obtain ⟨v0', vm', Am', s1', l1', l2', nd', put⟩ := R'.lens ho.ok K.nd K.nF K.ow hm
            rw [s1] at s1'
            cases s1'
            have ev := ho.ok.uni (ho.ok.mono xx.hh l1) l1'
            subst ev
            cases l2' with
            | frz rf => cases rf
            | @own _ vs' _ Af' h1' h2' =>
              obtain ⟨C, rC, cC⟩ := ROs.snoc K.r h2'
              have pno : ∀ a ∈ C, a ≠ p := fun a ha z => by
                subst z
                have := cC a; have := cpos.mp ha; have := nd' a
                rw [List.count_cons_self] at this
                omega
              obtain ⟨As', R2⟩ := put p (.lst (vs' ++ [v])) (.own (ds ++ [d])) (p :: C) (List.mem_cons_self ..) (.own upd_same (rC.mono (.refl _) fun a ha => upd_ne (pno a ha))) (fun a => by rw [List.count_cons, List.count_cons, cC]; omega) (fun z => Bool.noConfusion (show false = true from z))
              exact ⟨p, vs', v, rfl, rfl, h1', by rw [sizeLine_eq, h2'.length]; unfold big at hz; omega, q F' As' σ _ xx.ff R2⟩
          · rw [if_neg hz] at q; exact q.elim
    | _ => exact q.elim
end
end DL
end
section
set_option maxHeartbeats 1000000
namespace DL
open PySem L2 PyProof.Rows

theorem Kept.ext {g : Gc} {B : Base} {F H F' H' : Hp} {As A : List Addr} {v : V} {d : DV} (K : Kept g B F As H v d A) (x : Ext F H F' H') : Kept g B F' As H' v d A :=
  ⟨K.r.ext x, K.nd, fun a ha => by obtain ⟨o, ho⟩ := K.r.there a ha; exact x.apart ho (K.nF a ha), K.ow⟩
theorem ROs.put {g : Gc} {F H : Hp} {v : V} {d : DV} {B : List Addr} (h0 : RO g F H v d B) : ∀ {vs : List V} {ds : List DV} {A : List Addr} (j : Nat), ROs g F H vs ds A → ∃ C, ROs g F H (vs.set j v) (ds.set j d) C ∧ ∀ a, C.count a ≤ A.count a + B.count a
  | _, _, _, _, .nil => ⟨[], .nil, fun a => by simp⟩
  | _, _, _, 0, .cons (A := A) (B := B2) h r => ⟨_, .cons h0 r, fun a => by rw [List.count_append, List.count_append]; omega⟩
  | _, _, _, j + 1, .cons (A := A) (B := B2) h r => by
    obtain ⟨C, h1, h2⟩ := ROs.put h0 j r
    exact ⟨A ++ C, .cons h h1, fun a => by rw [List.count_append, List.count_append]; have := h2 a; omega⟩
section
variable {X : Cx} {Γ : Str → Option Addr} {W : WX} {e a b c o ie : Expr} {es : List Expr} {fe fi : Slots → R DV} {fs : Slots → R (List DV)} {pos pos' p apos kpos : Pos} {f : Str} {cs : Str → Bool} {i : Nat} {L : Lens}
/-- o.f = e -/
def fldS (f : Str) (cs : Str → Bool) (i : Nat) (L : Lens) (fe : Slots → R DV) : Slots → Out := bindE fe fun d env => match mget i L env with
  | some (.obj c fs) => if cs c = true ∧ fs.length < 900 then .nx (mput i L (.obj c (putD f d fs)) env) else .stuck
  | _ => .stuck
theorem ds_fld (ho : DP X Γ o i L) (he : DE X Γ W e fe) (hk : AtK X.K Γ f cs) (hs : swapsWith e (some (.Attribute o f pos')) pos.line X.env = pure false := by rfl) :
    DS X Γ W (.Assign [.Attribute o f pos'] e pos) (fldS f cs i L fe) := by
  refine ⟨ps_imp (ps_fld ho.pe he.pe hs) fun D σ H q => rdS_E (T := fun v D σ H1 => ∃ v0 x, σ[i]? = some (some v0) ∧ L.at_ ⟨X.K, Γ⟩ H1 v0 x ∧ ∃ a C dx fs, x = .ref a ∧ H1 a = some (.ins C dx fs) ∧ Cls X.K C ∧ NoAttr X.K C f ∧ fs.length < 1000 ∧ D.nx σ (upd H1 a (.ins C dx (putF f v fs)))) (fun v d B F As env A D σ H R K q => ?_) q⟩
  cases hm : mget i L env with
  | none => rw [hm] at q; exact q.elim
  | some dm =>
    rw [hm] at q
    cases dm with
    | obj c fs =>
      simp only at q
      by_cases z : cs c = true ∧ fs.length < 900
      · rw [if_pos z] at q
        obtain ⟨v0, vm, Am, s1, l1, l2, nd, put⟩ := R.lens ho.ok K.nd K.nF K.ow hm
        cases l2 with
        | frz rf => cases rf
        | @obj p C dx _ vs _ Af h1 h2 h3 =>
          obtain ⟨k1, k2⟩ := hk c C z.1 h2
          obtain ⟨A2, r2, c2⟩ := ROf.put (n := f) K.r h3
          have pno : ∀ a ∈ A2, a ≠ p := fun a ha y => by
            subst y
            have := c2 a; have := cpos.mp ha; have := nd a
            rw [List.count_cons_self] at this
            omega
          obtain ⟨As', R2⟩ := put p (.ins C dx (putF f v vs)) (.obj c (putD f d fs)) (p :: A2) (List.mem_cons_self ..) (.obj upd_same h2 (r2.mono (.refl _) fun a ha => upd_ne (pno a ha))) (fun a => by rw [List.count_cons, List.count_cons]; have := c2 a; omega) (fun _ => rfl)
          refine ⟨v0, .ref p, s1, l1, p, C, dx, vs, rfl, h1, k1, k2, by rw [h3.len]; omega, q F As' σ _ (.refl F) R2⟩
      · rw [if_neg z] at q; exact q.elim
    | _ => exact q.elim
/-- o[ie] = e -/
def setIxS (i : Nat) (L : Lens) (fi fe : Slots → R DV) : Slots → Out := bindE fe fun d env => match mget i L env with
  | some (.own ds) => match fi env with
    | .ok (.int k) => match ixN ds.length k with
      | some j => .nx (mput i L (.own (ds.set j d)) env)
      | none => .stuck
    | _ => .stuck
  | _ => .stuck
theorem ds_setIx (ho : DP X Γ o i L) (hi : DT X Γ W ie fi) (he : DE X Γ W e fe) (hs : swapsWithSole [.Subscript o ie p] e pos.line X.env = pure false := by rfl) (hw : swappedStores [.Subscript o ie p] e X.env = pure none := by rfl)
    (h1 : (assignEach [.Subscript o ie p] X.env).map (·.2) = [assign (.Subscript o ie p) X.env] := by rfl) (ha : ∀ v, assign (.Subscript o ie p) X.env v = (do
      let ov ← holding [v] (eval o X.env)
      let iv ← holding [v, ov] (eval ie X.env)
      standAt p
      holding [v, ov, iv] (setItem ov iv v)
      release [v, ov, iv] []) := by intro _; rfl) : DS X Γ W (.Assign [.Subscript o ie p] e pos) (setIxS i L fi fe) := by
  refine ⟨ps_imp (ps_asg he.pe (pg_sub ho.pe hi.pe set_list ha) hs hw h1) fun D σ H q => rdS_E (T := fun v D σ H1 => gSub (fun σ H Q => ∃ v0 v, σ[i]? = some (some v0) ∧ L.at_ ⟨X.K, Γ⟩ H v0 v ∧ Q v H) (rdV ⟨X.K, Γ⟩ W fi) rSetL v σ H1 D.nx) (fun v d B F As env A D σ H R K q => ?_) q⟩
  cases hm : mget i L env with
  | none => rw [hm] at q; exact q.elim
  | some dm =>
    rw [hm] at q
    cases dm with
    | own ds =>
      simp only at q
      obtain ⟨v0, vm, Am, s1, l1, l2, _, _⟩ := R.lens ho.ok K.nd K.nF K.ow hm
      cases l2 with
      | frz rf => cases rf
      | @own p vs _ Af h1' h2 =>
        refine ⟨v0, .ref p, s1, l1, F, As, env, R.sa, ?_⟩
        cases hf : fi env with
        | stuck => rw [hf] at q; exact q
        | ex x => rw [hf] at q; exact q.elim
        | ok di =>
          rw [hf] at q
          intro w F' H' A' xx r
          cases di with
          | int k =>
            simp only at q
            cases r.int_inv
            cases hj : ixN ds.length k with
            | none => rw [hj] at q; exact q.elim
            | some j =>
              rw [hj] at q
              simp only at q
              have R' := R.ext xx
              have K' := K.ext xx
              obtain ⟨v0', vm', Am', s1', l1', l2', nd', put⟩ := R'.lens ho.ok K'.nd K'.nF K'.ow hm
              rw [s1] at s1'
              cases s1'
              have ev := ho.ok.uni (ho.ok.mono xx.hh l1) l1'
              subst ev
              cases l2' with
              | frz rf => cases rf
              | @own _ vs' _ Af' h1'' h2' =>
                obtain ⟨C, rC, cC⟩ := ROs.put K'.r j h2'
                have pno : ∀ a ∈ C, a ≠ p := fun a ha z => by
                  subst z
                  have := cC a; have := cpos.mp ha; have := nd' a
                  rw [List.count_cons_self] at this
                  omega
                obtain ⟨As', R2⟩ := put p (.lst (vs'.set j v)) (.own (ds.set j d)) (p :: C) (List.mem_cons_self ..) (.own upd_same (rC.mono (.refl _) fun a ha => upd_ne (pno a ha))) (fun a => by rw [List.count_cons, List.count_cons]; have := cC a; omega) (fun z => Bool.noConfusion (show false = true from z))
                exact ⟨p, vs', k, j, rfl, rfl, h1'', by rw [h2'.length]; exact hj, q F' As' σ _ xx.ff R2⟩
          | _ => exact q.elim
    | _ => exact q.elim

/-! ### C(e, ..) -/
variable {CX : CXT} {k : Nat} {fA C : Addr} {fd : FuncData} {ps : List Str} {h : List (Str × DV) → List DV → RS} {dvs : List V} {dds : List DV} {ds : List Value} {x c' : Str}
theorem run_makeD {pins : List (Addr × Obj)} {σ : L2.St} {H : Hp} {s : Shared} {Q : VK} {us : List Value} {vs : List V} {sp : Sp} {E : L2.St → XK} (M : Mk X.K C fA) (F : FnOk X.prog X.w X.K X.mg X.base CX k fA fd ps sp) (hr : Room (k + 1) X.A) (hb : Binds X.K fd ps ds) (hd : Vals dvs ds)
    (hx : PassesAt CX X σ (E σ)) (I : Inv X pins σ H s) (r : Vals vs us)
    (hsp : ∀ y dx, H y = none → H dx = none → dx ≠ y → sp (.ref y :: (vs ++ dvs)) (upd (upd H dx (.own y)) y (.ins C dx [])) (fun v H2 => v = .non ∧ Q (.ref y) H2) (E σ)) :
    wpAny (model X.prog X.w) X.A (call (.ref C) us) (EP X pins σ Q) X.xe s := by
  have hq := hsp (s.heap.objs.size + 1) s.heap.objs.size (I.hok.fresh (Nat.le_succ _)) (I.hok.fresh (Nat.le_refl _)) (Nat.ne_of_lt (Nat.lt_succ_self _))
  have J := Inv.made (C := C) I
  have r2 : Vals (V.ref (s.heap.objs.size + 1) :: (vs ++ dvs)) (Value.ref (s.heap.objs.size + 1) :: (us ++ ds)) := .cons rfl (r.append hd)
  have hl : (Value.ref (s.heap.objs.size + 1) :: us ++ ds).length = ps.length := ((F.len _ _ _ _ hq).symm.trans r2.length).symm
  refine wpAny_call (make_map (f := fA) I.kIn M.makes M.init (beq_iff_eq.mp M.fn) (codeAny_mono (F.run _ X.stack _ _ ⟨Value.ref (s.heap.objs.size + 1) :: us, []⟩ (Value.ref (s.heap.objs.size + 1) :: (us ++ ds)) _ _ (E σ) (hr.make C us []) (J.env0.make C us []) (hb _ (Value.ref (s.heap.objs.size + 1) :: us) J.kIn hl) r2 hq) fun r s' hz => ?_))
  cases r with
  | error e => exact hx pins _ _ e s' J hz
  | ok fl =>
    cases fl with
    | ret u =>
      obtain ⟨v, H', I3, rv, ev, q3⟩ := J.after hz
      subst ev
      exact ⟨rv, ⟨V.ref (s.heap.objs.size + 1), H', I3, rfl, q3⟩⟩
    | next => exact hz.elim
    | brk => exact hz.elim
    | cont => exact hz.elim
def mkV (c : Str) (h : List (Str × DV) → List DV → RS) (dds : List DV) (fs : Slots → R (List DV)) : Slots → R DV := fun env => (fs env).bind fun ds => match h [] (freezes ds ++ dds) with
  | .ok .non fs => .ok (.obj c fs)
  | .ex x _ => .ex x
  | _ => .stuck
/-- the promise of __init__ for a new instance -/
theorem make_sp {F0 H F1 H1 : Hp} {Q : VK} {σ : L2.St} {vs : List V} {dvl : List DV} (hC : Γ c' = some C) (x1 : Ext F0 H F1 H1) (r : RFs ⟨X.K, Γ⟩ F1 vs dvl) (q : match (match h [] dvl with
      | .ok .non fs => DL.R.ok (DV.obj c' fs)
      | .ex x _ => .ex x
      | _ => .stuck) with
    | .ok d => ∀ v F' H' A, Ext F0 H F' H' → Fresh F' H A → RO ⟨X.K, Γ⟩ F' H' v d A → Q v H'
    | .ex e => ∀ cls dx F' H', Ext F0 H F' H' → XOk ⟨X.K, Γ⟩ F' cls dx e → W cls dx σ H'
    | .stuck => False) (y dx : Addr) (hy : H1 y = none) (hdx : H1 dx = none) (ne : dx ≠ y) :
    spS ⟨X.K, Γ⟩ c' h (.ref y :: vs) (upd (upd H1 dx (.own y)) y (.ins C dx [])) (fun v H2 => v = .non ∧ Q (.ref y) H2) (WE W σ) := by
  have yF : F1 y = none := x1.fh.free hy
  have dF : F1 dx = none := x1.fh.free hdx
  have up : ∀ a o, H1 a = some o → upd (upd H1 dx (.own y)) y (.ins C dx []) a = some o := fun a o e => by
    rw [upd_ne (fun z => by rw [z, hy] at e; cases e), upd_ne (fun z => by rw [z, hdx] at e; cases e)]
    exact e
  have back : ∀ {F' H'}, ExtW F1 (upd (upd H1 dx (.own y)) y (.ins C dx [])) F' H' [y] → Ext F0 H F' H' := fun {F' H'} w => by
    refine x1.trans ⟨fun a o e => w.hh a o (up a o e) fun z => ?_, w.ff, w.fh, fun a o e n => ?_⟩
    · have z : a = y := by simpa using z
      rw [z, hy] at e; cases e
    · rcases w.new a o e n with k | k
      · cases z : H1 a with
        | none => rfl
        | some u => rw [up a u z] at k; cases k
      · have z : a = y := by simpa using k
        rw [z]; exact hy
  refine ⟨.ref y, vs, F1, [], dvl, [y], rfl, fun a o e => up a o (x1.fh a o e), r, .obj upd_same hC .nil, fun a => ?_, fun a ha => ?_, ?_⟩
  · rw [List.count_singleton]; split <;> omega
  · have z : a = y := by simpa using ha
    rw [z]; exact yF
  cases hh : h [] dvl with
  | stuck => rw [hh] at q; exact q
  | ex e fs => rw [hh] at q; exact fun cls dx F' H' A w _ _ o => q cls dx F' H' (back w) o
  | ok d fs =>
    rw [hh] at q
    cases d with
    | non =>
      intro v F' H' A A' w r1 r2 fr
      cases r2 with
      | frz rf =>
        cases rf
        refine ⟨rfl, q (.ref y) F' H' A (back w) ⟨fun a => ?_, fun a ha => fr.nF a (List.mem_append_left _ ha), fun a ha => ?_⟩ r1⟩
        · have := fr.nd a; rw [List.count_append] at this; omega
        · have b1 := x1.hh
          cases z : H a with
          | none => rfl
          | some u =>
            rcases fr.nH a (List.mem_append_left _ ha) with k | k
            · rw [up a u (b1 a u z)] at k; cases k
            · have e : a = y := by simpa using k
              have := b1 a u z
              rw [e, hy] at this; cases this
    | _ => exact q.elim
theorem de_make (M : Mk X.K C fA) (hC : Γ c' = some C) (F : FnOk X.prog X.w X.K X.mg X.base CX k fA fd ps (spS ⟨X.K, Γ⟩ c' h)) (hr : Room (k + 1) X.A) (hm : X.mg x = some (.ref C)) (hb : Binds X.K fd ps ds) (hd : Vals dvs ds) (hdd : ∀ F, RFs ⟨X.K, Γ⟩ F dvs dds) (hx : ∀ σ, PassesAt CX X σ (WE W σ))
    (ha : DA X Γ W (e :: es) fs) (hg : Gl X x := by rfl) (hdb : (x == ("__debug__" : Str)) = false := by decide) (he : starEach (e :: es) X.env = (false, eval e X.env) :: starEach es X.env := by rfl) (hpl : (backTo pos (starEach es X.env)).any (·.1) = false := by rfl) :
    DE X Γ W (.Call (.Name x p) (e :: es) [] pos) (mkV c' h dds fs) := by
  refine ⟨⟨fun pins s σ H Q I ⟨F0, As, env, S, q⟩ => ?_⟩⟩
  refine wpAny_Call_Name_kw (ld_glob I hg hm ?_ hdb)
  refine PySem.W.callWith_K (h₀ := X.base) I.ok.mod.kin M.kp (thn (ha.pa.run pos pins s σ H (fun vs H1 => ∃ F1 dvl, Ext F0 H F1 H1 ∧ RFs ⟨X.K, Γ⟩ F1 vs dvl ∧ (match (match h [] (dvl ++ dds) with
      | .ok .non fs => DL.R.ok (DV.obj c' fs)
      | .ex x _ => .ex x
      | _ => .stuck) with
    | .ok d => ∀ v F' H' A, Ext F0 H F' H' → Fresh F' H A → RO ⟨X.K, Γ⟩ F' H' v d A → Q v H'
    | .ex e => ∀ cls dx F' H', Ext F0 H F' H' → XOk ⟨X.K, Γ⟩ F' cls dx e → W cls dx σ H'
    | .stuck => False)) I ?_) fun us s1 ⟨vs, H1, I1, r, F1, dvl, x1, r1, q1⟩ => ⟨I1.kIn, ?_⟩) he hpl
  · refine ⟨F0, As, env, S, ?_⟩
    unfold mkV at q
    cases hf : fs env with
    | stuck => rw [hf] at q; exact q
    | ex x => rw [hf] at q; exact q
    | ok ds =>
      rw [hf] at q
      exact fun vs F' H' A x1 fr r => ⟨_, freezes ds, frz_ext x1 fr, ROs.freeze r fr.nF, q⟩
  · exact run_makeD (E := WE W) M F hr hb hd (hx σ) I1 r fun y dx hy hdx ne => make_sp hC x1 (r1.append (hdd _)) q1 y dx hy hdx ne
theorem de_make0 (M : Mk X.K C fA) (hC : Γ c' = some C) (F : FnOk X.prog X.w X.K X.mg X.base CX k fA fd ps (spS ⟨X.K, Γ⟩ c' h)) (hr : Room (k + 1) X.A) (hm : X.mg x = some (.ref C)) (hb : Binds X.K fd ps ds) (hd : Vals dvs ds) (hdd : ∀ F, RFs ⟨X.K, Γ⟩ F dvs dds) (hx : ∀ σ, PassesAt CX X σ (WE W σ))
    (hg : Gl X x := by rfl) (hdb : (x == ("__debug__" : Str)) = false := by decide) :
    DE X Γ W (.Call (.Name x p) [] [] pos) (mkV c' h dds fun _ => .ok []) := by
  refine ⟨⟨fun pins s σ H Q I ⟨F0, As, env, S, q⟩ => ?_⟩⟩
  refine wpAny_Call_Name_kw (ld_glob I hg hm ?_ hdb)
  refine PySem.W.callWith_K0 I.kIn M.kp (run_makeD (us := []) (vs := []) (E := WE W) M F hr hb hd (hx σ) I .nil fun y dx hy hdx ne => make_sp (dvl := dds) hC (.refl S.fh) (hdd _) q y dx hy hdx ne)
end
end DL
end
section
set_option maxHeartbeats 1000000
namespace DL
open PySem PySem.Spec L2 PyProof.Rows

/-! ### try .. except, the caught one tracked in the heap -/
/-- the caught exception: class, dict -/
def excP (a : Addr) (cls : Value) (d : Option Addr) : Heap → Prop := fun h => ∃ o vs, h.get? a = some o ∧ o.cls = cls ∧ o.dict = d ∧ o.data = .fields vs
theorem excP_at {a C : Addr} {d : Option Addr} : ExcAt a C d (excP a (.ref C) d) := fun _ h => h
/-- the suite's context, without pins of its own -/
abbrev stx (X : Cx) (a : Addr) (pn : List (Addr × Obj)) : Cx := X.suite a pn
section
variable {X : Cx} {pins : List (Addr × Obj)} {σ : L2.St} {H : Hp} {s : Shared}
theorem suite0 (I : Inv X pins σ H s) (a : Addr) : Inv (stx X a (X.pn ++ pins)) [] σ H s :=
  ⟨I.ok.suite _ _, I.os, I.bare, I.base, I.loc, I.cell, I.free, I.freeC, fun p hp => I.pin p (by simpa using hp), I.hok, I.len⟩
theorem unsuite0 {a : Addr} {pn' : List (Addr × Obj)} (I : Inv (stx X a (X.pn ++ pins)) pn' σ H s) (ok : X.Ok) : Inv X pins σ H s :=
  ⟨ok, I.os, I.bare, I.base, I.loc, I.cell, I.free, I.freeC, fun p hp => I.pin p (List.mem_append_left _ hp), I.hok, I.len⟩
/-- the exception is tracked from here on -/
theorem track_exc {B : Heap} {sI s' : Shared} {h4 : Heap} {a : Addr} {cls : Value} {d : Option Addr} (J : Inv X pins σ H sI) (nb : ∀ b o, sI.heap.get? b = some o → b ∉ frs X.stack → B.get? b = some o) (fl : HandSPX.FlyingZ B X.stack a (Zc cls d) h4)
    (up : sI.heap.UpToSlots h4) (na : H a = none) (nfr : a ∉ frs X.stack) (os : s'.os = sI.os) (ag : AllBare s'.gens) : Inv X pins σ (upd H a (.ext (excP a cls d))) { s' with heap := h4 } := by
  obtain ⟨G, g1, g2⟩ := restrict h4 fun b => decide (b ≠ a)
  have gk : ∀ b o, b ≠ a → h4.get? b = some o → G.get? b = some o := fun b o hb e => (g1 b (decide_eq_true hb)).trans e
  have ga : G.get? a = none := g2 a (decide_eq_false fun z => z rfl)
  have gs : ∀ b o, G.get? b = some o → h4.get? b = some o := fun b o e => by
    by_cases z : b = a
    · rw [z, ga] at e; cases e
    · exact (g1 b (decide_eq_true z)).symm.trans e
  have hB : B.get? a = none := fl.2.1
  have hI : sI.heap.get? a = none := by
    cases q : sI.heap.get? a with
    | none => rfl
    | some o =>
      have := nb a o q nfr
      rw [hB] at this; cases this
  have JG : Inv X pins σ H { s' with heap := G } := J.landed nb (s' := { s' with heap := G }) (fun b o e => gk b o (fun z => by rw [z, hB] at e; cases e) (fl.1 b o e)) (fun b o e hnf => by
    obtain ⟨sl, q⟩ := up b o e hnf
    exact ⟨sl, gk b _ (fun z => by rw [z, hI] at e; cases e) q⟩) os ag
  obtain ⟨oe, vs, e1, e2, e3⟩ := fl.there
  exact JG.laidN (h' := h4) (t' := s'.toks) gs ga na ⟨⟨oe, vs, e1, e2.1, e2.2, e3⟩, ⟨oe, e1⟩, fun h1 h2 ⟨o, ws, k1, k2⟩ k => ⟨o, ws, k o k1, k2⟩⟩
end
/-- what the clause wishes of an exception of the body: slot i is the name's -/
def wExt (K : PySem.W.Frag) (c : Value) (i : Nat) (ts : Addr → Value → Option Addr → TS) (Wout : WX) (D : Ends) : WX := fun cls d σ H =>
  ∃ b, PySem.W.exmOne K cls c = some b ∧ (b = true → ∀ a, H a = none → ts a cls d { nx := fun σ' H' => D.nx (σ'.set i none) H', rt := D.rt, bk := fun σ' H' => D.bk (σ'.set i none) H', ct := fun σ' H' => D.ct (σ'.set i none) H' } (σ.set i (some (.ref a))) (upd H a (.ext (excP a cls d)))) ∧
    (b = false → Wout cls d σ H)
section
variable {X : Cx} {x n : Str} {c : Value} {i : Nat} {body suite : List Stmt} {b0 : Stmt} {np pos pos' : Pos} {tb : WX → TS} {ts : Addr → Value → Option Addr → TS} {Wo : WX}
theorem ps_try_ext (hs : X.stack = X.env :: X.outer) (hf : X.env.frame = some X.env.locals) (hN : X.N.Nodup) (hi : X.N[i]? = some n) (hln : X.env.kindOf n = some .local) (hc : Names X x c) (tk : Takes X Wo)
    (hb : ∀ (W : WX) (pn : List (Addr × Obj)) (xe : Value → Shared → Prop), Takes (X.tr pn xe) W → PassesOwn (model X.prog X.w) X.A X.env xe → PSs (X.tr pn xe) body (tb W))
    (hsu : ∀ (a : Addr) (cls : Value) (d : Option Addr) (pn : List (Addr × Obj)), PSs (stx X a pn) (b0 :: suite) (ts a cls d)) :
    PS X (.Try body [.ExceptHandler (some (.Name x np)) (some n) (b0 :: suite) pos'] [] [] pos) (fun D σ H => tb (wExt X.K c i ts Wo D) D σ H) := by
  refine ⟨fun pins s σ H D I h => ?_⟩
  have okX := I.ok
  have frX : X.A.frames = some (X.env :: X.outer) := by rw [okX.frames, hs]
  refine wpAny_Try_except (wpAny_mono ((hb (wExt X.K c i ts Wo D) (X.pn ++ pins) (fun e z₁ => wpAny (model X.prog X.w) X.A (noteFrame e X.env) (fun _ z₂ => wpAny (model X.prog X.w) X.A (setFlight e none) (fun _ z₃ =>
    wpAny (model X.prog X.w) X.A (handleBy e X.env [.ExceptHandler (some (.Name x np)) (some n) (b0 :: suite) pos']) (SP X pins D) X.xe z₃) X.xe z₂) X.xe z₁) (fun u s' xx => ?_) PassesOwn.looking).run [] s σ H D (I.toTry _) h) (fun f s1 hsp => ?_) (fun e s1 he => he))
  · obtain ⟨a, B, sI, pins', σ', H', cls, d, rfl, J0, nb, up, sky, na, os, ag, b, hb1, hyes, hno⟩ := xx
    have J : Inv X pins σ' H' sI := J0.ofTry okX
    have skyX : Sky B (X.env :: X.outer) a (Zc cls d) X.env.locals s'.heap := hs ▸ sky
    show wpAny (model X.prog X.w) X.A (noteFrame (.ref a) X.env) _ _ _
    refine Sky.land Zc.steady frX hf skyX fun h3 fl3 up3 => ?_
    obtain ⟨oe3, vs3, he3, hz3, hd3⟩ := fl3.there
    have nfr : a ∉ frs (X.env :: X.outer) := fun hm => by
      obtain ⟨_, o', e', hnf⟩ := fl3.2.2.1.mem hm
      rw [he3] at e'
      cases e'
      exact hnf _ hd3
    have J3 : Inv X pins σ' (upd H' a (.ext (excP a cls d))) { s' with heap := h3 } := track_exc J nb (hs ▸ fl3) (up.trans up3) na (hs ▸ nfr) os ag
    have S3 := suite0 J3 a
    refine wpAny_handleBy_cons (codeAny_handlers_test ?_) (by intro q; cases q)
    have LT : PySem.W.Looks (model X.prog X.w) h3 (typeOf (.ref a)) cls := fun A Q E s k q => wpAny_typeOf_ref (k _ _ he3) (by rw [hz3.1]; exact q)
    have LM := PySem.W.exm_one (M := model X.prog X.w) (J3.kIn) LT hb1
    have test : ∀ {Q : Value → Shared → Prop} {E : Value → Shared → Prop}, Q c { s' with heap := h3 } → wpAny (model X.prog X.w) (X.A.mark (some (.ref a))) (eval (.Name x np) X.env) Q E { s' with heap := h3 } := fun {Q E} q => by
      obtain ⟨hg, hdb, hm | ⟨hm, hv, hnn⟩⟩ := hc
      · exact ld_glob (X := stx X a (X.pn ++ pins)) S3 hg hm q hdb
      · exact ld_blt (X := stx X a (X.pn ++ pins)) S3 hg hm hv q hnn hdb
    refine test (LM.here ?_)
    cases b with
    | true =>
      refine codeAny_handlers_suite_as (HandSPX.lands_againZ fl3 fun h4 fl4 up4 => ?_)
      have J4 : Inv X pins σ' (upd H' a (.ext (excP a cls d))) { s' with heap := h4 } := track_exc J nb (hs ▸ fl4) ((up.trans up3).trans up4) na (hs ▸ nfr) os ag
      refine store_ok (X := stx X a (X.pn ++ pins)) (v := .ref a) (suite0 J4 a) hN hi (.inl hln) rfl (fun s5 S5 => ?_) (.inr hln)
      refine wpAny_mono ((hsu a cls d (X.pn ++ pins)).run [] s5 _ _ _ S5 (hyes rfl a na)) (fun f s6 hsp => ?_) (fun _ _ z => False.elim z)
      have fin : ∀ {σ6 : L2.St} {H6 : Hp} {Q : Shared → Prop}, Inv (stx X a (X.pn ++ pins)) [] σ6 H6 s6 → (∀ s7, Inv X pins (σ6.set i none) H6 s7 → Q s7) →
          wpAny (model X.prog X.w) X.A (do bindName X.env n .none; unbindBehindTheSuite X.env n pos') (fun _ s7 => Q s7) X.xe s6 := fun {σ6 H6 Q} S6 hq => gone_ok (unsuite0 S6 okX) hN hi hln hq
      cases f with
      | ret u =>
        obtain ⟨v6, σ6, H6, S6, r6, q6⟩ := hsp
        exact fin S6 fun s7 J7 => ⟨_, _, _, J7, r6, q6⟩
      | next => obtain ⟨σ6, H6, S6, q6⟩ := hsp; exact fin S6 fun s7 J7 => ⟨_, _, J7, q6⟩
      | brk => obtain ⟨σ6, H6, S6, q6⟩ := hsp; exact fin S6 fun s7 J7 => ⟨_, _, J7, q6⟩
      | cont => obtain ⟨σ6, H6, S6, q6⟩ := hsp; exact fin S6 fun s7 J7 => ⟨_, _, J7, q6⟩
    | false =>
      show wpAny _ X.A (handleBy (.ref a) X.env []) _ _ _
      refine wpAny_handleBy_nil ?_
      obtain ⟨k1, k2, k3, oe, vs, T, oT, ts', he, hz, hd, h1, hr⟩ := id fl3
      unfold PySem.passOn
      refine wpAny_bind (wpAny_field he hd h1 ?_)
      rw [if_neg (show ¬ ((Value.ref T == Value.none) = true) from by simp)]
      have out : wpAny (model X.prog X.w) X.A (setFlight (.ref a) X.env.frame) (fun _ z4 => wpAny (model X.prog X.w) X.A (throw (.ref a) : Sem Flow) (SP X pins D) X.xe z4) X.xe { s' with heap := h3 } := by
        rw [hf]
        exact HandSPX.setFlight_upZ fl3 fun h4 hh4 up4 => wpAny_throw (tk _ _ ⟨a, B, sI, pins, σ', H', cls, d, rfl, J, nb, (up.trans up3).trans up4, .inr (.inr (by rw [hs]; exact hh4)), na, os, ag, hno rfl⟩)
      first
        | exact wpAny_bind (wpAny_pure (wpAny_bind out))
        | exact wpAny_bind out
  · cases f with
    | ret u => obtain ⟨v, σ', H', J', r, q⟩ := hsp; exact ⟨v, σ', H', J'.ofTry okX, r, q⟩
    | next => obtain ⟨σ', H', J', q⟩ := hsp; exact wpAny_execs_nil ⟨σ', H', J'.ofTry okX, q⟩
    | brk => obtain ⟨σ', H', J', q⟩ := hsp; exact ⟨σ', H', J'.ofTry okX, q⟩
    | cont => obtain ⟨σ', H', J', q⟩ := hsp; exact ⟨σ', H', J'.ofTry okX, q⟩
end
end DL
end
section
set_option maxHeartbeats 1000000
namespace DL
open PySem PySem.Spec L2 PyProof.Rows

section
variable {g : Gc} {B : Base} {F F' H : Hp} {As A : List Addr} {σ : L2.St} {env : Slots} {v : V} {d : DV} {i : Nat}
/-- a slot is emptied -/
theorem RelAt.forget (R : RelAt g B F As σ H env) (i : Nat) (x : Option V) : ∃ As', RelAt g B F As' (σ.set i x) H (env.set i none) ∧ ∀ a, As'.count a ≤ As.count a := by
  obtain ⟨As', s', cnt⟩ := R.sa.sl.forget i x
  have sub : ∀ a ∈ As', a ∈ As := fun a ha => cpos.mpr (by have := cnt a; have := cpos.mp ha; omega)
  refine ⟨As', ⟨⟨R.sa.fh, s', fun a => by have := cnt a; have := R.sa.nd a; omega, fun a ha => R.sa.fx a (sub a ha)⟩, R.f0, R.fr, R.fm, R.ft, fun a ha => R.ow a (sub a ha), fun w e => ?_⟩, cnt⟩
  rintro ⟨c, fs, e2⟩
  by_cases h0 : i = 0
  · subst h0
    cases env with
    | nil => cases e2
    | cons y l =>
      have e2 : some (none : Option DV) = some (some (DV.obj c fs)) := e2
      cases e2
  · rw [List.getElem?_set_ne h0] at e2 ⊢
    exact R.pin w e ⟨c, fs, e2⟩
theorem Kept.less {As' : List Addr} (K : Kept g B F As H v d A) (h : ∀ a, As'.count a ≤ As.count a) : Kept g B F As' H v d A := ⟨K.r, fun a => by have := h a; have := K.nd a; omega, K.nF, K.ow⟩
/-- shared objects that are new, seen in a heap that is laid over -/
theorem RelAt.lay {p : Addr} {o : HO} (R : RelAt g B F As σ H env) (hp : H p = none) : RelAt g B (upd F p o) As σ (upd H p o) env := R.ext (Ext.lay R.sa.fh hp)
theorem fields_of {d : Option Addr} {c : Str} {xfs : List (Str × DV)} {C a : Addr} {φ : Heap → Prop} {F : Hp} (hc : g.cl c = some C) (ha : F a = some (.ext φ)) (k : ExcAt a C d φ) (h : (d = none ∧ xfs = []) ∨ ∃ d' fs, d = some d' ∧ F d' = some (.xd fs) ∧ RFf g F fs xfs) : RF g F (.ref a) (.exc c xfs) := by
  rcases h with ⟨rfl, rfl⟩ | ⟨d', fs, rfl, e1, e2⟩
  · exact .exc ha k hc
  · exact .excD ha k hc e1 e2
end
/-- the ends of a suite: its name goes -/
def unS (i : Nat) : Out → Out
  | .nx e => .nx (e.set i none)
  | .rt d e => .rt d (e.set i none)
  | .bk e => .bk (e.set i none)
  | .ct e => .ct (e.set i none)
  | .ex _ _ => .stuck
  | .stuck => .stuck
/-- m: is an exception of that class caught -/
def tryS (i : Nat) (m : Str → Option Bool) (Gb Gs : Slots → Out) : Slots → Out := fun env => match Gb env with
  | .ex x e => match m x.c with
    | some true => unS i (Gs (e.set i (some (.exc x.c x.fs))))
    | some false => .ex x e
    | none => .stuck
  | o => o
section
variable {X : Cx} {Γ : Str → Option Addr} {W : WX} {x n : Str} {c : Value} {i : Nat} {body suite : List Stmt} {b0 : Stmt} {np pos pos' : Pos} {Gb Gs : Slots → Out} {m : Str → Option Bool}
theorem post_unS {g : Gc} {B : Base} {F : Hp} {D : Ends} {o : Out} (h : PostS g B W F D (unS i o)) : PostS g B (fun _ _ _ _ => False) F { nx := fun σ' H' => D.nx (σ'.set i none) H', rt := D.rt, bk := fun σ' H' => D.bk (σ'.set i none) H', ct := fun σ' H' => D.ct (σ'.set i none) H' } o := by
  cases o with
  | nx e => exact fun F' As σ H s R => let ⟨As', R', _⟩ := R.forget i none; h F' As' _ H s R'
  | bk e => exact fun F' As σ H s R => let ⟨As', R', _⟩ := R.forget i none; h F' As' _ H s R'
  | ct e => exact fun F' As σ H s R => let ⟨As', R', _⟩ := R.forget i none; h F' As' _ H s R'
  | rt d e => exact fun v F' As A σ H s R K => let ⟨As', R', l⟩ := R.forget i none; h v F' As' A _ H s R' (K.less l)
  | ex x e => exact h.elim
  | stuck => exact h
theorem ds_tryAs (hs : X.stack = X.env :: X.outer) (hf : X.env.frame = some X.env.locals) (hN : X.N.Nodup) (hi : X.N[i]? = some n) (hln : X.env.kindOf n = some .local) (hc : Names X x c) (tk : Takes X W)
    (hm : ∀ c' C b, Γ c' = some C → m c' = some b → PySem.W.exmOne X.K (.ref C) c = some b)
    (hb : ∀ (W' : WX) (pn : List (Addr × Obj)) (xe : Value → Shared → Prop), Takes (X.tr pn xe) W' → PassesOwn (model X.prog X.w) X.A X.env xe → DSs (X.tr pn xe) Γ W' body Gb)
    (hsu : ∀ (a : Addr) (pn : List (Addr × Obj)), DSs (stx X a pn) Γ (fun _ _ _ _ => False) (b0 :: suite) Gs) :
    DS X Γ W (.Try body [.ExceptHandler (some (.Name x np)) (some n) (b0 :: suite) pos'] [] [] pos) (tryS i m Gb Gs) := by
  refine ⟨ps_imp (ps_try_ext (tb := fun W' => rdS ⟨X.K, Γ⟩ W' Gb) (ts := fun _ _ _ => rdS ⟨X.K, Γ⟩ (fun _ _ _ _ => False) Gs) hs hf hN hi hln hc tk (fun W' pn xe t p => (hb W' pn xe t p).pss) fun a cls d pn => (hsu a pn).pss) fun D σ H ⟨B, F, As, env, R, q⟩ => ⟨B, F, As, env, R, ?_⟩⟩
  unfold tryS at q
  cases hg : Gb env with
  | nx e => rw [hg] at q; exact q
  | rt d e => rw [hg] at q; exact q
  | bk e => rw [hg] at q; exact q
  | ct e => rw [hg] at q; exact q
  | stuck => rw [hg] at q; exact q
  | ex x e =>
    rw [hg] at q
    intro cls dx F' As' σ' H' s R' o
    obtain ⟨C, rfl, hC, ho⟩ := o
    simp only at q
    cases hk : m x.c with
    | none => rw [hk] at q; exact q.elim
    | some b =>
      rw [hk] at q
      refine ⟨b, hm _ _ _ hC hk, fun hb a na => ?_, fun hb => ?_⟩
      · subst hb
        have R2 := R'.lay (o := .ext (excP a (.ref C) dx)) na
        have s2 : Same F' (upd F' a (.ext (excP a (.ref C) dx))) := (Ext.lay R'.sa.fh na).ff
        have rf : RF ⟨X.K, Γ⟩ (upd F' a (.ext (excP a (.ref C) dx))) (.ref a) (.exc x.c x.fs) := by
          refine fields_of (g := ⟨X.K, Γ⟩) hC upd_same excP_at ?_
          rcases ho with ho | ⟨d', fs, e1, e2, e3⟩
          · exact .inl ho
          · exact .inr ⟨d', fs, e1, s2 _ _ e2, e3.mono s2⟩
        obtain ⟨As2, R3⟩ := R2.putF (i := i) rf
        exact ⟨B, _, As2, _, R3, (post_unS q).mono (s.trans s2)⟩
      · subst hb
        exact q (.ref C) dx F' As' σ' H' s R' ⟨C, rfl, hC, ho⟩
/-- raise C('m') -/
theorem ds_raise {cn : Str} {C : Addr} {bmB : List Value} {Bn newId initId : String} {msg : Str} {j : Nat} {p p2 q0 : Pos} (hcalm : X.calm = true) (tk : Takes X W) (F : ExcBaseFacts Bn newId initId bmB) (q : PySem.W.excIn X.K C bmB newId = true) (gC : X.mg x = some (.ref C)) (kC : PySem.W.keepIn X.K (.ref C) = true) (r : Raises X (.ref C)) (hC : Γ cn = some C) (hg : Gl X x := by rfl)
    (hdb : (x == ("__debug__" : Str)) = false := by decide) : DS X Γ W (.Raise (some (.Call (.Name x p) [.Constant (.str msg) j p2] [] q0)) none pos) (fun env => .ex ⟨cn, []⟩ env) :=
  ⟨ps_imp (ps_raise hcalm tk (pmk_own F q gC kC r hg hdb)) fun D σ H ⟨B, F, As, env, R, h⟩ => h (.ref C) none F As σ H (.refl F) R ⟨C, rfl, hC, .inl ⟨rfl, rfl⟩⟩⟩
end
end DL
end
section
set_option maxHeartbeats 1000000
namespace DL
open PySem PySem.Spec L2 PyProof.Rows

/-! ### defs that may be called in a suite, too: they raise nothing, they run no loop -/
abbrev RoomS := L2H.RoomH
structure FnS (P : Program) (w : World) (K : PySem.W.Frag) (mg : Str → Option Value) (base : Heap) (CX : CXT) (k : Nat) (f : Addr) (fd : FuncData) (ps : List Str) (sp : Sp) : Prop where
  len : ∀ vs H Q E, sp vs H Q E → vs.length = ps.length
  run : ∀ (A : Around) (outer : List Env) (s : Shared) (H : Hp) (args : Args) (us : List Value) (vs : List V) (Q : VK) (E : XK), RoomS k A → Env0 P w K mg base A outer s H → BindsTo s fd args (ps.zip us) → Vals vs us → sp vs H Q E →
    codeAny (model P w) A (.call (.ref f) args) (CR CX outer P w H s Q E) s
theorem FnS.ok {P : Program} {w : World} {K : PySem.W.Frag} {mg : Str → Option Value} {base : Heap} {CX : CXT} {k : Nat} {f : Addr} {fd : FuncData} {ps : List Str} {sp : Sp} (F : FnS P w K mg base CX k f fd ps sp) : FnOk P w K mg base CX k f fd ps sp :=
  ⟨F.len, fun A outer s H args us vs Q E hr => F.run A outer s H args us vs Q E (L2H.roomH_of hr)⟩
def cxS (CX : CXT) (P : Program) (w : World) (K : PySem.W.Frag) (mg : Str → Option Value) (base : Heap) (N : List Str) (qual : Str) (scope : Scope) (f : Addr) (cd : Value) (A : Around) (outer : List Env) (s : Shared) (H : Hp) (E : XK) : Cx :=
  { cxOf CX P w K mg base N qual scope f cd A outer s H E with calm := false }
theorem startS {CX : CXT} {P : Program} {w : World} {K : PySem.W.Frag} {mg : Str → Option Value} {base : Heap} {N ps : List Str} {qual : Str} {scope : Scope} {f : Addr} {cd : Value} {A : Around} {outer : List Env} {s s1 : Shared} {H : Hp} {E : XK} {us : List Value} {vs : List V}
    (S : FnScope N ps scope) (e0 : Env0 P w K mg base A outer s H) (hl : vs.length = ps.length) (r : Vals vs us)
    (x : InCallC s s.heap.objs.size (bindL (envOfC qual scope s.heap.objs.size f cd).kindOf (ps.zip us) fun _ => none) (cellsFrom (s.heap.objs.size + 1) scope.names []) (bindC (envOfC qual scope s.heap.objs.size f cd).kindOf (ps.zip us) fun _ => none) s1) :
    Inv (cxS CX P w K mg base N qual scope f cd A outer s H E) [] (L2.start N vs) H s1 := by
  have J := inv_start (CX := CX) (A := { A with handled := none }) (E := E) S rfl (⟨e0.frames, e0.mod, e0.bs, e0.bsz, e0.funs, e0.frf, e0.hok, e0.bare⟩ : Env0 P w K mg base { A with handled := none } outer s H) hl r x
  have o := J.ok
  exact ⟨⟨o.mod, o.kind, o.glob, o.blt, o.above, o.inj, o.has, o.cab, (fun z => Bool.noConfusion (show false = true from z)), Around.frames_deeper e0.frames, o.stk, o.exf, o.bs, o.bsz, o.noex, o.exfs, o.funs, o.frf⟩, J.os, J.bare, J.base, J.loc, J.cell, J.free, J.freeC, J.pin, J.hok, J.len⟩
theorem fnS_of {CX : CXT} {P : Program} {w : World} {K : PySem.W.Frag} {mg : Str → Option Value} {base : Heap} {k : Nat} {f : Addr} {x qual : Str} {params : Arguments} {body : List Stmt} {scope : Scope} {dvs : List V} {kws : List (Str × V)} {fd : FuncData} {N ps : List Str} {sp : Sp}
    (F : FunD K x qual params body scope dvs kws f fd) (S : FnScope N ps scope) (len : ∀ vs H Q E, sp vs H Q E → vs.length = ps.length)
    (hb : ∀ (cdv : Value) (A : Around) (outer : List Env) (s : Shared) (H : Hp) (vs : List V) (Q : VK) (E : XK), RoomS k (A.deeper (envOfC qual scope s.heap.objs.size f cdv)) → sp vs H Q E →
      ∃ t, PSs (cxS CX P w K mg base N qual scope f cdv A outer s H E) body t ∧ t { nx := fun _ H' => Q .non H', rt := Q } (L2.start N vs) H) :
    FnS P w K mg base CX (k + 1) f fd ps sp := by
  obtain ⟨oc, od, dV, kV, doc, pm, an, cdv, ct, osl, rfl, lk, hcd, _, _⟩ := F.ex
  refine ⟨len, fun A outer s H args us vs Q E hr e0 hbd r hsp => ?_⟩
  have hl := len _ _ _ _ hsp
  have KX : K.In s.heap := e0.mod.kin.keeps fun b o e => (e0.bs b o e).1
  have lim : s.heap.NoLimit := e0.mod.nolimit.keeps fun b o e => (e0.bs b o e).1
  refine codeAny_call_function hr.depth (KX _ _ lk) rfl S.co S.gen rfl (PySem.W.codeRec_of KX hcd) (hbd _ _ _ _ (wpAny_newFunctionEnv_cells S.kind (fun ⟨n, v⟩ hy => by
    rcases S.par n (List.of_mem_zip hy).1 with q | q
    · exact .inl q
    · exact .inr ⟨q, PySem.W.cellsFrom_some _ _ _ (.inl q)⟩) fun env he s1 y => ?_))
  subst he
  refine ⟨lim.keeps y.toInCall.keep, codeAny_func ?_⟩
  obtain ⟨t, ht, hq⟩ := hb cdv A outer s H vs Q E (hr.deeper _) hsp
  have I : Inv (cxS CX P w K mg base N qual scope f cdv A outer s H E) [] (L2.start N vs) H s1 := startS S e0 hl r y
  refine wpAny_mono (ht.run [] s1 (L2.start N vs) H _ I hq) (fun fl s' hs => ?_) fun e s' hs => hs
  cases fl with
  | ret u => obtain ⟨v, σ', H', J, rv, q⟩ := hs; exact ⟨v, H', J.os, J.bare, J.base, J.hok, rv, q⟩
  | next => obtain ⟨σ', H', J, q⟩ := hs; exact ⟨.non, H', J.os, J.bare, J.base, J.hok, rfl, q⟩
  | brk => obtain ⟨_, _, _, q⟩ := hs; exact q.elim
  | cont => obtain ⟨_, _, _, q⟩ := hs; exact q.elim
section
variable {P : Program} {w : World} {K : PySem.W.Frag} {mg : Str → Option Value} {base : Heap} {Γ : Str → Option Addr} {CX : CXT}
/-- such a def keeps the promise, by its body -/
theorem fn_sd {x qual : Str} {params : Arguments} {body : List Stmt} {scope : Scope} {dvs : List V} {kws : List (Str × V)} {f : Addr} {fd : FuncData} {N ps : List Str} {k m : Nat} {G : Slots → Out}
    (F : FunD K x qual params body scope dvs kws f fd) (S : FnScope N ps scope) (hN : N.length = ps.length + m)
    (hb : ∀ (cdv : Value) (A : Around) (outer : List Env) (s : Shared) (H : Hp) (E : XK), RoomS k (A.deeper (envOfC qual scope s.heap.objs.size f cdv)) →
      DSs (cxS CX P w K mg base N qual scope f cdv A outer s H E) Γ (fun cls d _ H => E cls d H) body G) :
    FnS P w K mg base CX (k + 1) f fd ps (spP ⟨K, Γ⟩ (fnR ps.length m G)) := by
  have hl : ∀ {vs : List V} {H : Hp} {Q : VK} {E : XK}, spP ⟨K, Γ⟩ (fnR ps.length m G) vs H Q E → vs.length = ps.length := by
    rintro vs H Q E ⟨F, ds, _, r, q⟩
    rw [r.length]
    by_cases c : ds.length = ps.length
    · exact c
    · unfold fnR at q
      rw [if_neg c] at q
      exact q.elim
  refine fnS_of F S (fun vs H Q E h => hl h) fun cdv A outer s H vs Q E hr h => ⟨_, (hb cdv A outer s H E hr).pss, ?_⟩
  have l := hl h
  obtain ⟨F, ds, sf, r, q⟩ := h
  unfold fnR at q
  rw [if_pos (by rw [← r.length]; exact l)] at q
  exact ⟨⟨F, H, [], none⟩, F, [], _, RelAt.start sf r (by rw [l]; exact hN), post_fin q⟩
end

/-! ### what a call needs, in one -/
/-- R: the room, for FnOk or for FnS -/
structure Fno (S : Bool) (P : Program) (w : World) (K : PySem.W.Frag) (mg : Str → Option Value) (base : Heap) (CX : CXT) (k : Nat) (f : Addr) (fd : FuncData) (ps : List Str) (sp : Sp) : Prop where
  ok : FnOk P w K mg base CX k f fd ps sp
  s : S = true → FnS P w K mg base CX k f fd ps sp
/-- a def by its name: k its depth, n its parameters, dds the defaults, h what it computes -/
structure Def (S : Bool) (P : Program) (w : World) (K : PySem.W.Frag) (mg : Str → Option Value) (base : Heap) (CX : CXT) (Γ : Str → Option Addr) (x : Str) (k : Nat) (ps : List Str) (h : List DV → R DV) : Prop where
  ex : ∃ f fd, mg x = some (.ref f) ∧ PySem.W.keepIn K (.ref f) = true ∧ Fno S P w K mg base CX k f fd ps (spP ⟨K, Γ⟩ h) ∧ Binds K fd ps []
/-- the context X: room for k, what is raised passes; S: a suite, or the like -/
structure Kx (S : Bool) (X : Cx) (W : WX) (CX : CXT) (k : Nat) : Prop where
  nd : X.N.Nodup
  rm : RoomS k X.A
  ho : S = false → X.A.handled = none
  hx : ∀ σ, PassesAt CX X σ (WE W σ)
structure Ky (X : Cx) (W : WX) : Prop where
  calm : X.calm = true
  po : PassesOwn (model X.prog X.w) X.A X.env X.xe
  tk : Takes X W
theorem Kx.room {X : Cx} {W : WX} {CX : CXT} {k j : Nat} (x : Kx false X W CX k) (h : j ≤ k) : Room j X.A := ⟨x.ho rfl, by have := x.rm.dp; omega, by have := x.rm.un; omega⟩
theorem Kx.u {S : Bool} {X : Cx} {W : WX} {CX : CXT} {k : Nat} (x : Kx S X W CX k) : X.A.units < cLine := by have := x.rm.un; omega
theorem Kx.u64 {S : Bool} {X : Cx} {W : WX} {CX : CXT} {k : Nat} (x : Kx S X W CX k) : X.A.units + 64 < cLine := by have := x.rm.un; omega
theorem passF {X : Cx} (σ : L2.St) : PassesAt (L2.CX X.prog X.w) X σ (WE (fun _ _ _ _ => False) σ) := fun _ _ _ _ _ _ c => by
  obtain ⟨_, _, _, _, _, _, _, _, _, _, _, _, h⟩ := c
  exact h.elim
section
variable {S : Bool} {X : Cx} {Γ : Str → Option Addr} {W : WX} {e : Expr} {es : List Expr} {fs : Slots → R (List DV)} {pos p : Pos} {CX : CXT} {k j : Nat} {ps : List Str} {h : List DV → R DV} {x : Str}
theorem run_fnSS {pins : List (Addr × Obj)} {σ : L2.St} {H : Hp} {s : Shared} {Q : VK} {us : List Value} {vs : List V} {f : Addr} {fd : FuncData} {sp : Sp} {E : XK} (F : FnS X.prog X.w X.K X.mg X.base CX k f fd ps sp) (hr : RoomS k X.A) (hb : Binds X.K fd ps []) (hx : PassesAt CX X σ E)
    (I : Inv X pins σ H s) (r : Vals vs us) (hsp : sp vs H Q E) : wpAny (model X.prog X.w) X.A (call (.ref f) us) (EP X pins σ Q) X.xe s := by
  have hl : us.length = ps.length := r.length.symm.trans (F.len _ _ _ _ hsp)
  have b := hb s us I.kIn (by rw [List.append_nil]; exact hl)
  rw [List.append_nil] at b
  refine wpAny_call (codeAny_mono (F.run X.A X.stack s H ⟨us, []⟩ us vs Q E hr I.env0 b r hsp) fun r s' hq => ?_)
  cases r with
  | error e => exact hx pins H s e s' I hq
  | ok fl => cases fl with
    | ret u => exact I.after hq
    | next => exact hq.elim
    | brk => exact hq.elim
    | cont => exact hq.elim
theorem run_any {pins : List (Addr × Obj)} {σ : L2.St} {H : Hp} {s : Shared} {Q : VK} {us : List Value} {vs : List V} {f : Addr} {fd : FuncData} {sp : Sp} (kx : Kx S X W CX k) (F : Fno S X.prog X.w X.K X.mg X.base CX j f fd ps sp) (hj : j ≤ k) (hb : Binds X.K fd ps [])
    (I : Inv X pins σ H s) (r : Vals vs us) (hsp : sp vs H Q (WE W σ)) : wpAny (model X.prog X.w) X.A (call (.ref f) us) (EP X pins σ Q) X.xe s := by
  cases S with
  | true => exact run_fnSS (F.s rfl) (kx.rm.mono hj) hb (kx.hx σ) I r hsp
  | false =>
    have hsp2 : sp (vs ++ []) H Q (WE W σ) := by rw [List.append_nil]; exact hsp
    exact run_fnSD (E := WE W) (dvs := []) F.ok (kx.room hj) hb .nil (kx.hx σ) I r hsp2
theorem de_callN (kx : Kx S X W CX k) (D : Def S X.prog X.w X.K X.mg X.base CX Γ x j ps h) (hj : j ≤ k) (ha : DA X Γ W (e :: es) fs) (hg : Gl X x := by rfl) (hdb : (x == ("__debug__" : Str)) = false := by decide) (he : starEach (e :: es) X.env = (false, eval e X.env) :: starEach es X.env := by rfl) (hpl : (backTo pos (starEach es X.env)).any (·.1) = false := by rfl) :
    DE X Γ W (.Call (.Name x p) (e :: es) [] pos) (callV h [] fs) := by
  obtain ⟨f, fd, hm, hk, F, hb⟩ := D.ex
  refine ⟨⟨fun pins s σ H Q I ⟨F0, As, env, S0, q⟩ => ?_⟩⟩
  refine wpAny_Call_Name_kw (ld_glob I hg hm ?_ hdb)
  refine PySem.W.callWith_K (h₀ := X.base) I.ok.mod.kin hk (thn (ha.pa.run pos pins s σ H (fun vs H1 => spP ⟨X.K, Γ⟩ h vs H1 Q (WE W σ)) I ?_) fun us s1 ⟨vs, H1, I1, r, q1⟩ => ⟨I1.kIn, ?_⟩) he hpl
  · refine ⟨F0, As, env, S0, ?_⟩
    unfold callV at q
    cases hf : fs env with
    | stuck => rw [hf] at q; exact q
    | ex x => rw [hf] at q; exact q
    | ok ds =>
      rw [hf] at q
      intro vs F1 H1 A x1 fr r
      have x2 := frz_ext x1 fr
      refine ⟨_, _, x2.fh, ROs.freeze r fr.nF, ?_⟩
      simp only [R.bind, List.append_nil] at q
      cases hh : h (freezes ds) with
      | stuck => rw [hh] at q; exact q
      | ex x => rw [hh] at q; exact fun cls dx F' H' x3 o => q cls dx F' H' (x2.trans x3) o
      | ok d => rw [hh] at q; exact fun v F' H' A' x3 fr' r' => q v F' H' A' (x2.trans x3) ⟨fr'.nd, fr'.nF, fun a ha => by
          cases z : H a with
          | none => rfl
          | some o => have := x2.hh a o z; rw [fr'.nH a ha] at this; cases this⟩ r'
  · exact run_any kx F hj hb I1 r q1
end
end DL
end
section
set_option maxHeartbeats 1000000
namespace DL
open PySem PySem.Spec L2 PyProof.Rows

section
variable {X : Cx} {Γ : Str → Option Addr} {W : WX} {e a b c : Expr} {f fa fb : Slots → R DV} {pos : Pos} {st : Stmt} {rest sa sb : List Stmt} {G G' : Slots → Out}
/-- name = value, shared from here on -/
def setF (i : Nat) (f : Slots → R DV) : Slots → Out := bindE f fun d env => .nx (env.set i (some (freeze d)))
theorem ds_setF {i : Nat} {x : Str} {pos' : Pos} (hN : X.N.Nodup) (he : DE X Γ W e f) (hi : X.N[i]? = some x := by rfl) (hx : Loc X.env.scope x := by first | exact .inl rfl | exact .inr rfl)
    (hs : swapsWith e (some (.Name x pos')) pos.line X.env = pure false := by rfl) (hf : X.fn x = true ∨ X.env.scope.names.lookup x = some .local := by first | exact .inl rfl | exact .inr rfl) :
    DS X Γ W (.Assign [.Name x pos'] e pos) (setF i f) :=
  ⟨ps_imp (ps_set hN hi hx he.pe hs hf) fun D σ H q => rdS_E (k := fun d env => .nx (env.set i (some (freeze d)))) (T := fun v D σ H => gName i v σ H D.nx) (fun v d B F As env A D σ H R K q => by
    have sF : Same F (DL.ext F H A) := ext_same K.nF
    have notA : ∀ a ∈ As, a ∉ A := fun a h1 h2 => by have := K.nd a; have := cpos.mp h1; have := cpos.mp h2; omega
    have R2 : RelAt ⟨X.K, Γ⟩ B (DL.ext F H A) As σ H env := by
      refine ⟨⟨ext_sub R.sa.fh, R.sa.sl.mono sF (fun _ _ => rfl), R.sa.nd, fun a ha => ?_⟩, R.f0.trans sF, fun a o e n => ?_, R.fm, R.ft, R.ow, R.pin⟩
      · rw [ext_out (notA a ha)]; exact R.sa.fx a ha
      · by_cases ha : a ∈ A
        · exact K.ow a ha
        · rw [ext_out ha] at e; exact R.fr a o e n
    obtain ⟨As', R'⟩ := R2.putF (i := i) (RO.freeze K.r K.nF)
    exact q _ As' _ H sF R') q⟩
/-- return name: what the slot owns goes out -/
def retM (i : Nat) : Slots → Out := fun env => match (env[i]? : Option (Option DV)) with
  | some (some d) => .rt d (env.set i none)
  | _ => .stuck
theorem ds_retM (i : Nat) {x : Str} {p : Pos} (hN : X.N[i]? = some x := by rfl) (hv : Vis X.env.scope x := by first | exact Or.inl rfl | exact Or.inr (Or.inl rfl) | exact Or.inr (Or.inr rfl)) (hd : (x == ("__debug__" : Str)) = false := by decide)
    (hcd : (x == ("__classdict__" : Str)) = false := by decide) : DS X Γ W (.Return (some (.Name x p)) pos) (retM i) :=
  ⟨ps_imp (ps_ret (pe_var hN hv hd hcd)) fun D σ H ⟨B, F, As, env, R, q⟩ => by
    unfold retM at q
    cases he : env[i]? with
    | none => rw [he] at q; exact q.elim
    | some y =>
      cases y with
      | none => rw [he] at q; exact q.elim
      | some d =>
        rw [he] at q
        obtain ⟨v, A, C, s1, r, s2, cnt⟩ := R.sa.sl.get he
        have nd : ∀ a, C.count a + A.count a ≤ 1 := fun a => by have := cnt a; have := R.sa.nd a; omega
        have inA : ∀ a, a ∈ A ∨ a ∈ C → a ∈ As := fun a h => cpos.mpr (by have := cnt a; rcases h with h | h <;> have := cpos.mp h <;> omega)
        refine ⟨v, s1, q v F C A σ H (.refl F) ⟨⟨R.sa.fh, s2, fun a => by have := nd a; omega, fun a ha => R.sa.fx a (inA a (.inr ha))⟩, R.f0, R.fr, R.fm, R.ft, fun a ha => R.ow a (inA a (.inr ha)), fun w e => ?_⟩ ⟨r, nd, fun a ha => R.sa.fx a (inA a (.inl ha)), fun a ha => R.ow a (inA a (.inl ha))⟩⟩
        rintro ⟨c, fs, e2⟩
        by_cases h0 : i = 0
        · subst h0
          cases env with
          | nil => cases e2
          | cons y l =>
            have e2 : some (none : Option DV) = some (some (DV.obj c fs)) := e2
            cases e2
        · rw [List.getElem?_set_ne h0] at e2
          exact R.pin w e ⟨c, fs, e2⟩⟩
end

/-! ### own operators: both sides shared; the method raises nothing -/
/-- the method x of the class c: S, k, h as in Def -/
structure MDef (S : Bool) (P : Program) (w : World) (K : PySem.W.Frag) (mg : Str → Option Value) (base : Heap) (CX : CXT) (Γ : Str → Option Addr) (c x : Str) (k : Nat) (ps : List Str) (h : List DV → R DV) : Prop where
  ex : ∃ C f fd, Γ c = some C ∧ Cls K C ∧ Meth K C x f ∧ PySem.W.selfFirst K C = true ∧ Fno S P w K mg base CX k f fd ps (spP ⟨K, Γ⟩ h) ∧ Binds K fd ps []
theorem relV_ni {v : V} {u : Value} (r : L2.RelV v u) : u ≠ .notImplemented := by
  intro e
  subst e
  cases v <;> first | (obtain ⟨t, e⟩ := r; cases e) | cases r
theorem back_of {X : Cx} {pins : List (Addr × Obj)} {σ : L2.St} {Q : VK} {u : Value} {s' : Shared} (h : EP X pins σ Q u s') : PySem.W.CmpBack (EP X pins σ Q) u s' := by
  obtain ⟨v, H', I, r, q⟩ := h
  have := relV_ni r
  unfold PySem.W.CmpBack
  split
  · exact this rfl
  · exact ⟨v, H', I, r, q⟩
section
variable {S : Bool} {X : Cx} {Γ : Str → Option Addr} {W : WX} {a b : Expr} {fa fb : Slots → R DV} {pos : Pos} {CX : CXT} {k j : Nat} {ps : List Str} {h : List DV → R DV} {c x : Str}
/-- a method called at two shared values -/
theorem call_own {pins : List (Addr × Obj)} {σ : L2.St} {H F2 F : Hp} {H0 : Hp} {s : Shared} {Q : VK} {vs : List V} {us : List Value} {dvl : List DV} {f : Addr} {fd : FuncData} (kx : Kx S X W CX k) (Fn : Fno S X.prog X.w X.K X.mg X.base CX j f fd ps (spP ⟨X.K, Γ⟩ h)) (hj : j ≤ k) (hb : Binds X.K fd ps [])
    (I : Inv X pins σ H s) (x2 : DL.Ext F H0 F2 H) (rv : Vals vs us) (r2 : RFs ⟨X.K, Γ⟩ F2 vs dvl) (q : match h dvl with
      | .ok d => ∀ v F' H' A, DL.Ext F H0 F' H' → Fresh F' H0 A → RO ⟨X.K, Γ⟩ F' H' v d A → Q v H'
      | .ex e => ∀ cls dx F' H', DL.Ext F H0 F' H' → XOk ⟨X.K, Γ⟩ F' cls dx e → W cls dx σ H'
      | .stuck => False) : wpAny (model X.prog X.w) X.A (call (.ref f) us) (EP X pins σ Q) X.xe s := by
  refine run_any kx Fn hj hb I rv ⟨F2, dvl, x2.fh, r2, ?_⟩
  cases hh : h dvl with
  | stuck => rw [hh] at q; exact q
  | ex e => rw [hh] at q; exact fun cls dx F' H' x3 o => q cls dx F' H' (x2.trans x3) o
  | ok d => rw [hh] at q; exact fun v F' H' A' x3 fr' r' => q v F' H' A' (x2.trans x3) ⟨fr'.nd, fr'.nF, fun a ha => by
      cases z : H0 a with
      | none => rfl
      | some o => have := x2.hh a o z; rw [fr'.nH a ha] at this; cases this⟩ r'
theorem both_read {σ : L2.St} {H : Hp} {Q : VK} {g : DV → DV → R DV} (T : V → V → TE) (q : rdE ⟨X.K, Γ⟩ W (fun env => (fa env).bind fun d => (fb env).bind fun e => g (freeze d) (freeze e)) σ H Q)
    (ht : ∀ v w F0 H0 F2 H2 d e, DL.Ext F0 H0 F2 H2 → H0 = H → RF ⟨X.K, Γ⟩ F2 v d → RF ⟨X.K, Γ⟩ F2 w e → (match g d e with
      | .ok d => ∀ v F' H' A, DL.Ext F0 H0 F' H' → Fresh F' H0 A → RO ⟨X.K, Γ⟩ F' H' v d A → Q v H'
      | .ex e => ∀ cls dx F' H', DL.Ext F0 H0 F' H' → XOk ⟨X.K, Γ⟩ F' cls dx e → W cls dx σ H'
      | .stuck => False) → T v w σ H2 Q) : rdE ⟨X.K, Γ⟩ W fa σ H fun v H1 => rdE ⟨X.K, Γ⟩ W fb σ H1 fun w H2 => T v w σ H2 Q := by
  obtain ⟨F, As, env, Sa, q⟩ := q
  refine ⟨F, As, env, Sa, ?_⟩
  have q : (match ((fa env).bind fun d => (fb env).bind fun e => g (freeze d) (freeze e)) with
    | .ok d => ∀ v F' H' A, DL.Ext F H F' H' → Fresh F' H A → RO ⟨X.K, Γ⟩ F' H' v d A → Q v H'
    | .ex e => ∀ cls dx F' H', DL.Ext F H F' H' → XOk ⟨X.K, Γ⟩ F' cls dx e → W cls dx σ H'
    | .stuck => False) := q
  cases hf : fa env with
  | stuck => rw [hf] at q; exact q
  | ex x => rw [hf] at q; exact q
  | ok d =>
    rw [hf] at q
    simp only [R.bind] at q
    intro v F1 H1 A1 x1 fr1 r1
    have y1 := frz_ext x1 fr1
    have z1 := RO.freeze r1 fr1.nF
    refine ⟨_, As, env, Sa.ext y1, ?_⟩
    cases hg : fb env with
    | stuck => rw [hg] at q; exact q
    | ex x => rw [hg] at q; exact fun cls dx F' H' x2 o => q cls dx F' H' (y1.trans x2) o
    | ok e =>
      rw [hg] at q
      intro w F2 H2 A2 x2 fr2 r2
      have y2 := frz_ext x2 fr2
      exact ht v w F H _ H2 _ _ (y1.trans y2) rfl (z1.mono y2.ff) (RO.freeze r2 fr2.nF) q
def ownO (c : Str) (h : List DV → R DV) (d e : DV) : R DV := match d, e with
  | .ins c1 xs, .ins c2 ys => if c1 = c ∧ c2 = c then h [.ins c1 xs, .ins c2 ys] else .stuck
  | _, _ => .stuck
def opO (c : Str) (h : List DV → R DV) (fa fb : Slots → R DV) : Slots → R DV := fun env => (fa env).bind fun d => (fb env).bind fun e => ownO c h (freeze d) (freeze e)
theorem ownO_inv {d e : DV} (h0 : ownO c h d e ≠ .stuck) : ∃ xs ys, d = .ins c xs ∧ e = .ins c ys ∧ ownO c h d e = h [.ins c xs, .ins c ys] := by
  unfold ownO at h0 ⊢
  split at h0
  · rename_i c1 xs c2 ys
    by_cases z : c1 = c ∧ c2 = c
    · obtain ⟨rfl, rfl⟩ := z
      exact ⟨xs, ys, rfl, rfl, by simp⟩
    · rw [if_neg z] at h0; exact absurd rfl h0
  · exact absurd rfl h0
/-- a + b and the like of two instances of the class c -/
theorem de_opO {op : Operator} (kx : Kx S X W CX k) (D : MDef S X.prog X.w X.K X.mg X.base CX Γ c (PySem.dunder op.info.2) j ps h) (hj : j ≤ k) (ha : DE X Γ W a fa) (hb : DE X Γ W b fb)
    (ht : ∀ env, eval (.BinOp a op b pos) env = eval (.BinOp a op b pos) env := by intro _; rfl) : DE X Γ W (.BinOp a op b pos) (opO c h fa fb) := by
  obtain ⟨C, f, fd, hC, hc, hm, hsf, Fn, hbn⟩ := D.ex
  refine ⟨⟨fun pins s σ H Q I q => ?_⟩⟩
  have q2 := both_read (T := fun v w σ H2 Q => ∃ F0 H0 F2 xs ys, DL.Ext F0 H0 F2 H2 ∧ RF ⟨X.K, Γ⟩ F2 v (.ins c xs) ∧ RF ⟨X.K, Γ⟩ F2 w (.ins c ys) ∧ (match h [.ins c xs, .ins c ys] with
      | .ok d => ∀ v F' H' A, DL.Ext F0 H0 F' H' → Fresh F' H0 A → RO ⟨X.K, Γ⟩ F' H' v d A → Q v H'
      | .ex e => ∀ cls dx F' H', DL.Ext F0 H0 F' H' → XOk ⟨X.K, Γ⟩ F' cls dx e → W cls dx σ H'
      | .stuck => False)) (g := ownO c h) q fun v w F0 H0 F2 H2 d e x2 _ r1 r2 q => by
    have ns : ownO c h d e ≠ .stuck := fun z => by rw [z] at q; exact q
    obtain ⟨xs, ys, rfl, rfl, e3⟩ := ownO_inv ns
    rw [e3] at q
    exact ⟨F0, H0, F2, xs, ys, x2, r1, r2, q⟩
  refine wpAny_BinOp (binT (R := fun v w H2 => ∃ F0 H0 F2 xs ys, DL.Ext F0 H0 F2 H2 ∧ RF ⟨X.K, Γ⟩ F2 v (.ins c xs) ∧ RF ⟨X.K, Γ⟩ F2 w (.ins c ys) ∧ (match h [.ins c xs, .ins c ys] with
      | .ok d => ∀ v F' H' A, DL.Ext F0 H0 F' H' → Fresh F' H0 A → RO ⟨X.K, Γ⟩ F' H' v d A → Q v H'
      | .ex e => ∀ cls dx F' H', DL.Ext F0 H0 F' H' → XOk ⟨X.K, Γ⟩ F' cls dx e → W cls dx σ H'
      | .stuck => False)) ha.pe hb.pe I q2 fun va vb s2 x y H2 I2 rx ry ⟨F0, H0, F2, xs, ys, x2, r1, r2, q4⟩ => ?_)
  obtain ⟨p, C1, dx, vs, rfl, h1, h2, h3⟩ := ins_of r1
  obtain ⟨p2, C2, dx2, vs2, rfl, k1, k2, k3⟩ := ins_of r2
  obtain rfl : va = Value.ref p := rx
  obtain rfl : vb = Value.ref p2 := ry
  have e1 : C1 = C := Option.some.inj (h2.symm.trans hC)
  have e2 : C2 = C := Option.some.inj (k2.symm.trans hC)
  subst e1 e2
  obtain ⟨mA, J, _⟩ := ins_get I2.hok (x2.fh _ _ h1)
  obtain ⟨mB, J', _⟩ := ins_get I2.hok (x2.fh _ _ k1)
  obtain ⟨od, J, _⟩ := J.look
  obtain ⟨od', J', _⟩ := J'.look
  obtain ⟨m, hF⟩ := I2.fr
  refine PySem.W.binop_K hF I2.ok.mod.kin J J'.type hsf hm.at_ hm.fn (wpAny_mono (call_own (vs := [.ref p, .ref p2]) kx Fn hj hbn I2 x2 (.cons rfl (.cons rfl .nil)) (.cons r1 (.cons r2 .nil)) q4) (fun u s' hu => back_of hu) fun _ _ z => z)

theorem Kx.f {S : Bool} {X : Cx} {W : WX} {CX : CXT} {k : Nat} (kx : Kx S X W CX k) : Kx S X (fun _ _ _ _ => False) (L2.CX X.prog X.w) k := ⟨kx.nd, kx.rm, kx.ho, passF⟩
/-- a == b by the class c's own __eq__; nf: what may stand on the right -/
def eqOwn (c : Str) (h : List DV → R DV) (nf : DV → Bool) (d e : DV) : R DV := match d with
  | .ins c1 xs => if c1 = c ∧ nf e = true then (match h [.ins c1 xs, e] with | .ok v => .ok v | _ => .stuck) else .stuck
  | _ => .stuck
def eqO (c : Str) (h : List DV → R DV) (nf : DV → Bool) (fa fb : Slots → R DV) : Slots → R DV := fun env => (fa env).bind fun d => (fb env).bind fun e => eqOwn c h nf (freeze d) (freeze e)
structure NfOk (K : PySem.W.Frag) (Γ : Str → Option Addr) (c : Str) (nf : DV → Bool) : Prop where
  ok : ∀ e C, nf e = true → Γ c = some C → ∃ t, tyv Γ e = some t ∧ ClsT K Γ e ∧ PySem.W.notFirst K C t = true
theorem eqOwn_inv {nf : DV → Bool} {d e : DV} (h0 : eqOwn c h nf d e ≠ .stuck) : ∃ xs v, d = .ins c xs ∧ nf e = true ∧ h [.ins c xs, e] = .ok v ∧ eqOwn c h nf d e = .ok v := by
  unfold eqOwn at h0 ⊢
  cases d with
  | ins c1 xs =>
    simp only at h0 ⊢
    by_cases z : c1 = c ∧ nf e = true
    · rw [if_pos z] at h0 ⊢
      obtain ⟨rfl, z2⟩ := z
      cases hh : h [.ins c1 xs, e] with
      | ok v => exact ⟨xs, v, rfl, z2, hh, by simp⟩
      | ex x => rw [hh] at h0; exact absurd rfl h0
      | stuck => rw [hh] at h0; exact absurd rfl h0
    · rw [if_neg z] at h0; exact absurd rfl h0
  | _ => exact absurd rfl h0
theorem de_eqO {nf : DV → Bool} (kx : Kx S X W CX k) (D : MDef S X.prog X.w X.K X.mg X.base (L2.CX X.prog X.w) Γ c "__eq__" j ps h) (hj : j ≤ k) (hn : NfOk X.K Γ c nf) (ha : DE X Γ W a fa) (hb : DE X Γ W b fb) (hm : behindInMarks .Eq b = false := by first | exact nomark _ | rfl) : DE X Γ W (.Compare a [.Eq] [b] pos) (eqO c h nf fa fb) := by
  obtain ⟨C, f, fd, hC, hc, hme, hsf, Fn, hbn⟩ := D.ex
  let r : R2 := fun x y H2 Q => ∃ F0 H0 F2 xs e v0, DL.Ext F0 H0 F2 H2 ∧ RF ⟨X.K, Γ⟩ F2 x (.ins c xs) ∧ RF ⟨X.K, Γ⟩ F2 y e ∧ nf e = true ∧ h [.ins c xs, e] = .ok v0 ∧ ∀ v F' H' A, DL.Ext F0 H0 F' H' → Fresh F' H0 A → RO ⟨X.K, Γ⟩ F' H' v v0 A → Q v H'
  have op : OpR X (compareOp .Eq) r := by
    rintro pins s σ H x y va vb Q I rx ry ⟨F0, H0, F2, xs, e, v0, x2, r1, r2, hnf, hv, q⟩
    obtain ⟨p, C1, dx, vs, rfl, h1, h2, h3⟩ := ins_of r1
    obtain rfl : va = Value.ref p := rx
    have e1 : C1 = C := Option.some.inj (h2.symm.trans hC)
    subst e1
    obtain ⟨mA, J, _⟩ := ins_get I.hok (x2.fh _ _ h1)
    obtain ⟨od, J, _⟩ := J.look
    obtain ⟨m, hF⟩ := I.fr
    obtain ⟨t, ht, hcl, hnt⟩ := hn.ok e C1 hnf hC
    obtain ⟨P, Z, hP, _⟩ := ty_of I ry x2.fh (.frz r2) ht hcl
    refine PySem.W.cmp_K (op := .Eq) (tb := t) kx.u hF I.ok.mod.kin J (Z.ty _ _ I.kIn hP) hnt hme.at_ hme.fn (wpAny_mono (call_own (vs := [.ref p, y]) kx.f Fn hj hbn I x2 (.cons rfl (.cons ry .nil)) (.cons r1 (.cons r2 .nil)) (by rw [hv]; exact q)) (fun u s' hu => back_of hu) fun _ _ z => z)
  refine ⟨pe_imp (pe_cmpR op ha.pe hb.pe hm) fun σ H Q q => ?_⟩
  exact both_read (T := fun v w σ H2 Q => r v w H2 Q) (g := eqOwn c h nf) q fun v w F0 H0 F2 H2 d e x2 _ r1 r2 q => by
    have ns : eqOwn c h nf d e ≠ .stuck := fun z => by rw [z] at q; exact q
    obtain ⟨xs, v0, rfl, e2, e3, e4⟩ := eqOwn_inv ns
    rw [e4] at q
    exact ⟨F0, H0, F2, xs, e, v0, x2, r1, r2, e2, e3, q⟩
/-- str(a) by the class c's own __str__ -/
def strO (c : Str) (h : List DV → R DV) (fa : Slots → R DV) : Slots → R DV := fun env => (fa env).bind fun d => match freeze d with
  | .ins c1 xs => if c1 = c then (match h [.ins c1 xs] with | .ok (.str z) => .ok (.str z) | _ => .stuck) else .stuck
  | _ => .stuck
end
end DL
end
section
set_option maxHeartbeats 1000000
namespace DL
open PySem PySem.Spec L2 PyProof.Rows

section
variable {X : Cx} {Γ : Str → Option Addr} {W : WX} {e a b c : Expr} {f fa fb fe : Slots → R DV} {fs : Slots → R (List DV)} {pos : Pos} {x y : Str} {i j : Nat}
theorem RelAt.shareK {g : Gc} {B : Base} {F H : Hp} {As A : List Addr} {σ : L2.St} {env : Slots} {v : V} {d : DV} (R : RelAt g B F As σ H env) (K : Kept g B F As H v d A) : RelAt g B (DL.ext F H A) As σ H env ∧ RF g (DL.ext F H A) v (DL.freeze d) ∧ Same F (DL.ext F H A) := by
  have sF : Same F (DL.ext F H A) := ext_same K.nF
  have notA : ∀ a ∈ As, a ∉ A := fun a h1 h2 => by have := K.nd a; have := cpos.mp h1; have := cpos.mp h2; omega
  refine ⟨⟨⟨ext_sub R.sa.fh, R.sa.sl.mono sF (fun _ _ => rfl), R.sa.nd, fun a ha => ?_⟩, R.f0.trans sF, fun a o e n => ?_, R.fm, R.ft, R.ow, R.pin⟩, RO.freeze K.r K.nF, sF⟩
  · rw [ext_out (notA a ha)]; exact R.sa.fx a ha
  · by_cases ha : a ∈ A
    · exact K.ow a ha
    · rw [ext_out ha] at e; exact R.fr a o e n
/-- several values kept at once -/
theorem RelAt.shareAll {g : Gc} {B : Base} {F H F' H' : Hp} {As A : List Addr} {σ : L2.St} {env : Slots} {vs : List V} {ds : List DV} (R : RelAt g B F As σ H env) (x1 : Ext F H F' H') (fr : Fresh F' H A) (r : ROs g F' H' vs ds A) : RelAt g B (DL.ext F' H' A) As σ H' env ∧ RFs g (DL.ext F' H' A) vs (freezes ds) ∧ Same F (DL.ext F' H' A) := by
  have x2 := frz_ext x1 fr
  exact ⟨R.ext x2, ROs.freeze r fr.nF, x2.ff⟩
/-- x, y = a, b -/
def parS (i j : Nat) (fs : Slots → R (List DV)) : Slots → Out := fun env => match fs env with
  | .ok [d1, d2] => .nx ((env.set i (some (freeze d1))).set j (some (freeze d2)))
  | .ex x => .ex x env
  | _ => .stuck
theorem ds_par {px py pt : Pos} {kt k2 pt2} (hc : X.calm = true) (hN : X.N.Nodup) (ha : DA X Γ W [a, b] fs) (hi : X.N[i]? = some x := by rfl) (hj : X.N[j]? = some y := by rfl) (hij : i ≠ j := by decide)
    (hx : X.env.scope.names.lookup x = some .local := by rfl) (hy : X.env.scope.names.lookup y = some .local := by rfl)
    (hw : swappedStores [.Tuple [.Name x px, .Name y py] kt pt] (.Tuple [a, b] k2 pt2) X.env = pure (some [x, y]) := by rfl)
    (hs : swapsWithSole [.Tuple [.Name x px, .Name y py] kt pt] (.Tuple [a, b] k2 pt2) pos.line X.env = pure false := by rfl) :
    DS X Γ W (.Assign [.Tuple [.Name x px, .Name y py] kt pt] (.Tuple [a, b] k2 pt2) pos) (parS i j fs) :=
  ⟨ps_imp (ps_par hc hN hi hj hij hx hy ha.pa hw hs) fun D σ H ⟨B, F, As, env, R, q⟩ => by
    refine ⟨F, As, env, R.sa, ?_⟩
    unfold parS at q
    cases hf : fs env with
    | stuck => rw [hf] at q; exact q
    | ex x => rw [hf] at q; exact fun cls dx F' H' xx o => q cls dx F' As σ H' xx.ff (R.ext xx) o
    | ok ds =>
      rw [hf] at q
      intro vs F1 H1 A x1 fr r
      obtain ⟨R1, r1, s1⟩ := R.shareAll x1 fr r
      match ds, q, r1 with
      | [], q, _ => exact q.elim
      | [_], q, _ => exact q.elim
      | _ :: _ :: _ :: _, q, _ => exact q.elim
      | [d1, d2], q, r1 =>
        cases r1 with
        | cons h1 r1 =>
          cases r1 with
          | cons h2 r1 =>
            cases r1
            obtain ⟨As1, R2⟩ := R1.putF (i := i) h1
            obtain ⟨As2, R3⟩ := R2.putF (i := j) h2
            exact ⟨_, _, rfl, q _ As2 _ _ s1 R3⟩⟩
/-- x op= e, ints -/
def augD (g : Int → Int → Int) (d e : DV) : Option DV := match d, e with
  | .int a, .int b => some (.int (g a b))
  | _, _ => none
def augS (i : Nat) (g : Int → Int → Int) (fe : Slots → R DV) : Slots → Out := fun env => match (env[i]? : Option (Option DV)) with
  | some (some (.int n)) => bindE fe (fun d env => match d with | .int m => .nx (env.set i (some (.int (g n m)))) | _ => .stuck) env
  | _ => .stuck
theorem ds_aug {op : Operator} {g : Int → Int → Int} {px : Pos} (hN : X.N.Nodup) (ho : PIp X op (ipI g)) (he : DE X Γ W e fe) (hi : X.N[i]? = some x := by rfl) (hx : Loc X.env.scope x := by first | exact .inl rfl | exact .inr rfl) (hf : X.fn x = true ∨ X.env.scope.names.lookup x = some .local := by first | exact .inl rfl | exact .inr rfl) :
    DS X Γ W (.AugAssign (.Name x px) op e pos) (augS i g fe) :=
  ⟨ps_imp (ps_aug hN hi hx he.pe ho hf) fun D σ H ⟨B, F, As, env, R, q⟩ => by
    unfold augS at q
    cases h1 : (env[i]? : Option (Option DV)) with
    | none => rw [h1] at q; exact q.elim
    | some y =>
      cases y with
      | none => rw [h1] at q; exact q.elim
      | some d =>
        rw [h1] at q
        obtain ⟨v, A, _, s1, r, _, _⟩ := R.sa.sl.get h1
        cases d with
        | int n =>
          cases r.int_inv
          refine ⟨_, s1, F, As, env, R.sa, ?_⟩
          simp only at q
          unfold bindE at q
          cases hf2 : fe env with
          | stuck => rw [hf2] at q; exact q
          | ex x => rw [hf2] at q; exact fun cls dx F' H' xx o => q cls dx F' As σ H' xx.ff (R.ext xx) o
          | ok d2 =>
            rw [hf2] at q
            intro w F1 H1 A1 x1 fr r2
            cases d2 with
            | int m =>
              cases r2.int_inv
              obtain ⟨As1, R2⟩ := (R.ext x1).putF (i := i) (.int (g n m))
              exact ⟨n, m, rfl, rfl, q F1 As1 _ H1 x1.ff R2⟩
            | _ => exact q.elim
        | _ => exact q.elim⟩
end
end DL
end
section
set_option maxHeartbeats 1000000
namespace DL
open PySem PySem.Spec L2 PyProof.Rows

/-! ### the contexts within -/
section
variable {S : Bool} {X : Cx} {Γ : Str → Option Addr} {W W1 : WX} {k : Nat}
theorem Kx.b (kx : Kx S X W (L2.CX X.prog X.w) k) (s : Shared) (H : Hp) {scope : Scope} (C : Addr) (cl : List (Str × Addr)) (fp : List Addr) : Kx S (X.blk s H scope (compEnvC scope cl C X.env) fp) (fun _ _ _ _ => False) (L2.CX X.prog X.w) k := ⟨kx.nd, kx.rm, kx.ho, passF⟩
theorem Kx.t (kx : Kx S X W (L2.CX X.prog X.w) k) {pn : List (Addr × Obj)} {xe : Value → Shared → Prop} (t : Takes (X.tr pn xe) W1) : Kx S (X.tr pn xe) W1 (L2.CX X.prog X.w) k := ⟨kx.nd, kx.rm, kx.ho, passAt t⟩
theorem Ky.t (ky : Ky X W) {pn : List (Addr × Obj)} {xe : Value → Shared → Prop} (t : Takes (X.tr pn xe) W1) (p : PassesOwn (model X.prog X.w) X.A X.env xe) : Ky (X.tr pn xe) W1 := ⟨ky.calm, p, t⟩
theorem Kx.s (kx : Kx S X W (L2.CX X.prog X.w) k) (a : Addr) (pn : List (Addr × Obj)) : Kx true (stx X a pn) (fun _ _ _ _ => False) (L2.CX X.prog X.w) k := ⟨kx.nd, ⟨kx.rm.dp, kx.rm.un⟩, (fun z => Bool.noConfusion z), passF⟩
end
/-! ### facts of the classes, as the head tells them -/
section
variable {K : PySem.W.Frag} {mg : Str → Option Value} {Γ : Str → Option Addr}
/-- C('m') may be raised -/
structure Rz (K : PySem.W.Frag) (mg : Str → Option Value) (Γ : Str → Option Addr) (x : Str) : Prop where
  ex : ∃ C, Γ x = some C ∧ mg x = some (.ref C) ∧ PySem.W.keepIn K (.ref C) = true ∧ PySem.W.excIn K C He.veBase "ValueError.__new__" = true ∧ PySem.W.subIn K (.ref C) (.type "BaseException") = some true ∧ PySem.W.typeIn K (.ref C) = some (.type "type")
/-- except x: mt tells which classes it catches -/
structure Tz (K : PySem.W.Frag) (mg : Str → Option Value) (Γ : Str → Option Addr) (x : Str) (mt : Str → Option Bool) : Prop where
  ex : ∃ C, mg x = some (.ref C) ∧ ∀ c' C' b, Γ c' = some C' → mt c' = some b → PySem.W.exmOne K (.ref C') (.ref C) = some b
end
section
variable {S : Bool} {X : Cx} {Γ : Str → Option Addr} {W : WX} {k : Nat} {x n : Str} {i : Nat} {body suite : List Stmt} {b0 : Stmt} {np pos pos' p p2 q0 : Pos} {Gb Gs : Slots → Out} {mt : Str → Option Bool}
theorem ds_raiseN {msg : Str} {j : Nat} (ky : Ky X W) (r : Rz X.K X.mg Γ x) (hg : Gl X x := by rfl) (hdb : (x == ("__debug__" : Str)) = false := by decide) : DS X Γ W (.Raise (some (.Call (.Name x p) [.Constant (.str msg) j p2] [] q0)) none pos) (fun env => .ex ⟨x, []⟩ env) := by
  obtain ⟨C, h1, h2, h3, h4, h5, h6⟩ := r.ex
  exact ds_raise ky.calm ky.tk PySem.F.excBase_ValueError h4 h2 h3 (raises_own h5 h6) h1 hg hdb
theorem ds_tryN (kx : Kx S X W (L2.CX X.prog X.w) k) (ky : Ky X W) (m : Tz X.K X.mg Γ x mt)
    (hb : ∀ (W' : WX) (pn : List (Addr × Obj)) (xe : Value → Shared → Prop), Takes (X.tr pn xe) W' → PassesOwn (model X.prog X.w) X.A X.env xe → DSs (X.tr pn xe) Γ W' body Gb)
    (hsu : ∀ (a : Addr) (pn : List (Addr × Obj)), DSs (stx X a pn) Γ (fun _ _ _ _ => False) (b0 :: suite) Gs)
    (hs : X.stack = X.env :: X.outer := by rfl) (hf : X.env.frame = some X.env.locals := by rfl) (hi : X.N[i]? = some n := by rfl) (hln : X.env.kindOf n = some .local := by rfl) (hg : Gl X x := by rfl) (hdb : (x == ("__debug__" : Str)) = false := by decide) :
    DS X Γ W (.Try body [.ExceptHandler (some (.Name x np)) (some n) (b0 :: suite) pos'] [] [] pos) (tryS i mt Gb Gs) := by
  obtain ⟨C, h1, h2⟩ := m.ex
  exact ds_tryAs hs hf kx.nd hi hln ⟨hg, hdb, .inl h1⟩ ky.tk h2 hb hsu
theorem pe_bt {T : String} (hm : X.mg x = none) (hv : bootBuiltins x = some (.type T)) (hg : Gl X x := by rfl) (hn : x ≠ "__name__" := by decide) (hd : (x == ("__debug__" : Str)) = false := by decide) : PE X (.Name x p) (tC (.ty T)) := pe_bltn hg hm hv rfl hn hd
theorem pe_own {C : Addr} (hm : X.mg x = some (.ref C)) (hg : Gl X x := by rfl) (hd : (x == ("__debug__" : Str)) = false := by decide) : PE X (.Name x p) (tC (.ref C)) := pe_glob hg hm rfl hd
end
/-! ### isinstance, by tables -/
def primT : DV → Option String
  | .non => some "NoneType"
  | .bl _ => some "bool"
  | .int _ => some "int"
  | .str _ => some "str"
  | .tup _ => some "tuple"
  | .lst _ => some "list"
  | .own _ => some "list"
  | .scr _ => some "list"
  | _ => none
/-- tb: built-in types, ti: classes of instances, tx: classes of exceptions -/
def ansT (tb : List (String × Bool)) (ti tx : List (Str × Bool)) : DV → Option Bool
  | .ins c _ => ti.lookup c
  | .obj c _ => ti.lookup c
  | .exc c _ => tx.lookup c
  | d => (primT d).bind fun n => tb.lookup n
section
variable {K : PySem.W.Frag} {Γ : Str → Option Addr}
def insB (K : PySem.W.Frag) (x : Str) : Bool := (He.Fa.cls x).ok K && (decide (PySem.W.findIn K (.ref (He.ga K x)) "__class__" = some (some (.builtin "object.__class__"))) && (decide (PySem.W.specialIn K (.builtin "object.__class__") "__get__" = some (some (.builtin "getset_descriptor.__get__"))) &&
  (decide (PySem.W.takesIn K (.builtin "object.__class__") = some true) && decide (PySem.W.mroIn K (He.ga K x) (.type "object") = some true))))
theorem insB_ok {x : Str} (h : insB K x = true) : InsT K (He.ga K x) := by
  unfold insB at h
  simp only [Bool.and_eq_true, decide_eq_true_eq] at h
  obtain ⟨h1, h2, h3, h4, h5⟩ := h
  exact ⟨He.cls_ok h1, h2, h3, h4, h5⟩
def excB (K : PySem.W.Frag) (x : Str) : Bool := (PySem.W.clsIn K (He.ga K x)).isSome && (decide (PySem.W.findIn K (.ref (He.ga K x)) "__getattribute__" = some (some (.builtin "BaseException.__getattribute__"))) && (decide (PySem.W.findIn K (.ref (He.ga K x)) "__getattr__" = some none) &&
  (decide (PySem.W.subIn K (.ref (He.ga K x)) (.type "BaseException") = some true) && (decide (PySem.W.findIn K (.ref (He.ga K x)) "__class__" = some (some (.builtin "object.__class__"))) && (decide (PySem.W.specialIn K (.builtin "object.__class__") "__get__" = some (some (.builtin "getset_descriptor.__get__"))) &&
  (decide (PySem.W.takesIn K (.builtin "object.__class__") = some true) && decide (PySem.W.mroIn K (He.ga K x) (.type "object") = some true)))))))
theorem excB_ok {x : Str} (h : excB K x = true) : ExcK K (He.ga K x) := by
  unfold excB at h
  simp only [Bool.and_eq_true, decide_eq_true_eq] at h
  obtain ⟨h1, h2, h3, h4, h5, h6, h7, h8⟩ := h
  exact ⟨h1, h2, h3, h4, h5, h6, h7, h8⟩
def isiB (K : PySem.W.Frag) (us : List Value) (tb : List (String × Bool)) (ti tx : List (Str × Bool)) : Bool :=
  (tb.all fun p => decide (PySem.W.kitAny K (.type p.1) us = some p.2)) && ((ti.all fun p => decide (PySem.W.kitAny K (.ref (He.ga K p.1)) us = some p.2) && insB K p.1) && tx.all fun p => decide (PySem.W.kitAny K (.ref (He.ga K p.1)) us = some p.2) && excB K p.1)
theorem lookup_mem {α β : Type} [BEq α] [LawfulBEq α] {a : α} {b : β} : ∀ {l : List (α × β)}, l.lookup a = some b → (a, b) ∈ l
  | [], h => by simp at h
  | (c, d) :: l, h => by
    simp only [List.lookup] at h
    cases q : a == c with
    | true => rw [q] at h; cases h; rw [eq_of_beq q]; exact List.mem_cons_self ..
    | false => rw [q] at h; exact List.mem_cons_of_mem _ (lookup_mem h)
/-- the classes of the text by name -/
def gam (K : PySem.W.Frag) (l : List Str) : Str → Option Addr := fun c => if l.contains c then some (He.ga K c) else none
theorem gam_some {l : List Str} {c : Str} {C : Addr} (h : gam K l c = some C) : C = He.ga K c := by
  unfold gam at h
  split at h
  · cases h; rfl
  · cases h
theorem isiB_ok {us : List Value} {tb : List (String × Bool)} {ti tx : List (Str × Bool)} {l : List Str} (h : isiB K us tb ti tx = true) (hi : (ti.all fun p => l.contains p.1) = true) (hx : (tx.all fun p => l.contains p.1) = true) : Isi K (gam K l) us (ansT tb ti tx) := by
  unfold isiB at h
  simp only [Bool.and_eq_true, List.all_eq_true, decide_eq_true_eq] at h
  obtain ⟨h1, h2, h3⟩ := h
  have prim : ∀ {d : DV} {n : String} {b : Bool}, tb.lookup n = some b → PySem.W.kitAny K (.type n) us = some b := fun {d n b} e => h1 (n, b) (lookup_mem e)
  refine ⟨fun d t b ht ha => ?_, fun d b ha => ?_, fun d b ha => ⟨fun c fs C hd hc => ?_, fun c fs C hd hc => ?_⟩⟩
  · cases d <;> simp only [tyv, ansT, primT, Option.bind_some, Option.bind_none, Option.map_eq_some_iff, Option.some.injEq, reduceCtorEq] at ht ha
    case ins c fs => obtain ⟨C, hc, rfl⟩ := ht; rw [gam_some hc]; exact (h2 _ (lookup_mem ha)).1
    case obj c fs => obtain ⟨C, hc, rfl⟩ := ht; rw [gam_some hc]; exact (h2 _ (lookup_mem ha)).1
    case exc c fs => obtain ⟨C, hc, rfl⟩ := ht; rw [gam_some hc]; exact (h3 _ (lookup_mem ha)).1
    all_goals (subst ht; exact prim (d := .non) ha)
  · cases d <;> simp only [tyv, ansT, primT, Option.bind_some, Option.bind_none, reduceCtorEq, Option.isSome_some, Option.isSome_map] at ha ⊢
    case ins c fs => have := List.all_eq_true.mp hi _ (lookup_mem ha); unfold gam; rw [if_pos this]; rfl
    case obj c fs => have := List.all_eq_true.mp hi _ (lookup_mem ha); unfold gam; rw [if_pos this]; rfl
    case exc c fs => have := List.all_eq_true.mp hx _ (lookup_mem ha); unfold gam; rw [if_pos this]; rfl
  · rw [gam_some hc]
    rcases hd with rfl | rfl
    · exact insB_ok (h2 _ (lookup_mem ha)).2
    · exact insB_ok (h2 _ (lookup_mem ha)).2
  · rw [gam_some hc]
    subst hd
    exact excB_ok (h3 _ (lookup_mem ha)).2
end
end DL
end
section
set_option maxHeartbeats 1000000
namespace DL
open PySem PySem.Spec L2 PyProof.Rows

/-- a class by its name, made with arguments that lack the defaults dds; h: what its __init__ computes -/
structure MkD (P : Program) (w : World) (K : PySem.W.Frag) (mg : Str → Option Value) (base : Heap) (Γ : Str → Option Addr) (x : Str) (k : Nat) (dds : List DV) (h : List (Str × DV) → List DV → RS) : Prop where
  ex : ∃ C f fd ps dvs ds, Γ x = some C ∧ mg x = some (.ref C) ∧ Mk K C f ∧ FnOk P w K mg base (L2.CX P w) k f fd ps (spS ⟨K, Γ⟩ x h) ∧ Binds K fd ps ds ∧ Vals dvs ds ∧ ∀ F, RFs ⟨K, Γ⟩ F dvs dds
section
variable {S : Bool} {X : Cx} {Γ : Str → Option Addr} {W : WX} {e a o : Expr} {es : List Expr} {fa fo : Slots → R DV} {fs : Slots → R (List DV)} {pos p apos : Pos} {k j : Nat} {h : List DV → R DV} {x c m : Str} {ps : List Str} {dds : List DV}
theorem de_mk {h : List (Str × DV) → List DV → RS} (kx : Kx false X W (L2.CX X.prog X.w) k) (D : MkD X.prog X.w X.K X.mg X.base Γ x j dds h) (hj : j + 1 ≤ k) (ha : DA X Γ W (e :: es) fs) (hg : Gl X x := by rfl) (hdb : (x == ("__debug__" : Str)) = false := by decide) (he : starEach (e :: es) X.env = (false, eval e X.env) :: starEach es X.env := by rfl) (hpl : (backTo pos (starEach es X.env)).any (·.1) = false := by rfl) :
    DE X Γ W (.Call (.Name x p) (e :: es) [] pos) (mkV x h dds fs) := by
  obtain ⟨C, f, fd, ps, dvs, ds, hC, hm, M, F, hb, hd, hdd⟩ := D.ex
  exact de_make M hC F (kx.room hj) hm hb hd hdd kx.hx ha hg hdb he hpl
/-- o.m(e, ..) -/
theorem de_methN {pl : Sem Bool} (kx : Kx false X W (L2.CX X.prog X.w) k) (D : MDef false X.prog X.w X.K X.mg X.base (L2.CX X.prog X.w) Γ c m j ps h) (hj : j ≤ k) (ho : DE X Γ W o fo) (ha : DA X Γ W (e :: es) fs) (hst : starEach (e :: es) X.env = (false, eval e X.env) :: starEach es X.env := by rfl) (hpl : (backTo pos (starEach es X.env)).any (·.1) = false := by rfl)
    (ht : eval (.Call (.Attribute o m apos) (e :: es) [] pos) X.env = (do
      let ov ← eval o X.env
      standAt apos.atName
      let (f, first) ← holding [ov] (getMethod ov m pl)
      callWith pos f first (backTo pos (starEach (e :: es) X.env)) (backToKw pos (keywordEach [] X.env))) := by rfl) :
    DE X Γ W (.Call (.Attribute o m apos) (e :: es) [] pos) (methV c m h [] fo fs) := by
  obtain ⟨C, f, fd, hC, hc, hm, _, Fn, hbn⟩ := D.ex
  exact de_meth ho hC hc hm Fn.ok (kx.room hj) hbn .nil (fun _ => .nil) kx.hx ha hst hpl ht
/-- str(a), a an instance -/
theorem de_strO (kx : Kx false X W (L2.CX X.prog X.w) k) (D : MDef false X.prog X.w X.K X.mg X.base (L2.CX X.prog X.w) Γ c "__str__" j ps h) (hj : j + 1 ≤ k) (hm : X.mg "str" = none) (ha : DE X Γ W a fa) (hg : Gl X "str" := by rfl)
    (hs : starEach [a] X.env = (false, eval a X.env) :: starEach [] X.env := by rfl) : DE X Γ W (.Call (.Name "str" p) [a] [] pos) (strO c h fa) := by
  obtain ⟨C, f, fd, hC, hc, hme, _, Fn, hbn⟩ := D.ex
  refine ⟨⟨fun pins s σ H Q I ⟨F0, As, env, S0, q⟩ => ?_⟩⟩
  refine wpAny_Call_Name_kw (ld_blt I hg hm (u := .type "str") (by decide +kernel) ?_)
  refine PyProof.Rows.callWith_type1 (thn ((pa_cons ha.pe pa_nil hs).run pos pins s σ H (fun vs H1 => ∃ v F1 xs z, vs = [v] ∧ DL.Ext F0 H F1 H1 ∧ RF ⟨X.K, Γ⟩ F1 v (.ins c xs) ∧ h [.ins c xs] = .ok (.str z) ∧ ∀ v F' H' A, DL.Ext F0 H F' H' → Fresh F' H A → RO ⟨X.K, Γ⟩ F' H' v (.str z) A → Q v H') I ?_) fun us s1 ⟨vs, H1, I1, r, v, F1, xs, z, ev, x1, r1, e1, q1⟩ => ?_) hs rfl
  · refine ⟨F0, As, env, S0, ?_⟩
    unfold strO at q
    cases hf : fa env with
    | stuck => rw [hf] at q; exact q
    | ex x => rw [hf] at q; exact q
    | ok d =>
      rw [hf] at q
      intro v F1 H1 A x1 fr r
      have r1 := RO.freeze r fr.nF
      simp only [R.bind] at q
      cases hz : freeze d with
      | ins c1 xs =>
        rw [hz] at q r1
        simp only at q
        by_cases z : c1 = c
        · subst z
          simp only [if_true] at q
          cases hh : h [.ins c1 xs] with
          | ok d2 =>
            rw [hh] at q
            cases d2 with
            | str z => exact ⟨v, _, xs, z, rfl, frz_ext x1 fr, r1, hh, q⟩
            | _ => exact q.elim
          | ex x => rw [hh] at q; exact q.elim
          | stuck => rw [hh] at q; exact q.elim
        · rw [if_neg z] at q; exact q.elim
      | _ => rw [hz] at q; exact q.elim
  · subst ev
    obtain ⟨u, rfl, ru⟩ := r.one
    obtain ⟨p, C1, dx, vs, rfl, h1, h2, h3⟩ := ins_of r1
    obtain rfl : u = Value.ref p := ru
    have e2 : C1 = C := Option.some.inj (h2.symm.trans hC)
    subst e2
    obtain ⟨mA, J, _⟩ := ins_get I1.hok (x1.fh _ _ h1)
    obtain ⟨od, J, _⟩ := J.look
    have hr : Room j X.A.in1.in1 := ((kx.room (show j + 1 ≤ k from hj)).in1 |> fun r => ⟨r.hd, r.dp, by have := (kx.room (show j + 1 ≤ k from hj)).un; show X.A.units + 1 + 1 + 16 * j + 200 < cLine; omega⟩)
    have e0 : Env0 X.prog X.w X.K X.mg X.base X.A.in1.in1 X.stack s1 H1 := I1.env0.in1.in1
    have hsp : spP ⟨X.K, Γ⟩ h [.ref p] H1 (fun v H2 => v = .str z ∧ Q (.str z) H2) (fun _ _ _ => False) := ⟨F1, [.ins c xs], x1.fh, .cons r1 .nil, by
      rw [e1]
      intro v F' H' A x3 fr3 r3
      cases r3.str_inv
      exact ⟨rfl, q1 (.str z) F' H' [] (x1.trans x3) .nil (.frz (.str z))⟩⟩
    have hl : ps.length = 1 := (Fn.ok.len _ _ _ _ hsp).symm
    have b := hbn s1 [.ref p] I1.kIn (by simp [hl])
    rw [List.append_nil] at b
    refine PySem.W.kso_call (by have := hr.un; omega) I1.kIn J hme.at_ hme.fn (wpAny_call (codeAny_mono (Fn.ok.run X.A.in1.in1 X.stack s1 H1 ⟨[.ref p], []⟩ [.ref p] [.ref p] _ _ hr e0 b (.cons rfl .nil) hsp) fun r s' hq => ?_))
    cases r with
    | error e =>
      obtain ⟨_, _, _, _, _, _, _, _, _, _, _, _, hF⟩ := hq
      exact hF.elim
    | ok fl => cases fl with
      | ret u =>
        obtain ⟨v, H', I3, rv, ev, q3⟩ := I1.after hq
        subst ev
        obtain ⟨t, rfl⟩ := rv
        exact ⟨.str z, H', I3, ⟨t, rfl⟩, q3⟩
      | next => exact hq.elim
      | brk => exact hq.elim
      | cont => exact hq.elim
end
end DL
end
section
set_option maxHeartbeats 1000000
namespace DL
open PySem PySem.Spec L2 PyProof.Rows
section
variable {P : Program} {w : World} {K : PySem.W.Frag} {mg : Str → Option Value} {base : Heap} {Γ : Str → Option Addr} {x qual : Str} {params : Arguments} {body : List Stmt} {scope : Scope} {dvs : List V} {kws : List (Str × V)} {f : Addr} {fd : FuncData} {N ps : List Str} {k m : Nat} {G : Slots → Out}
theorem kx_of {cdv : Value} {A : Around} {outer : List Env} {s : Shared} {H : Hp} {E : XK} (S : FnScope N ps scope) (hr : Room k (A.deeper (envOfC qual scope s.heap.objs.size f cdv))) :
    Kx false (cxOf (L2.CX P w) P w K mg base N qual scope f cdv A outer s H E) (fun cls d _ H => E cls d H) (L2.CX P w) k ∧ Ky (cxOf (L2.CX P w) P w K mg base N qual scope f cdv A outer s H E) (fun cls d _ H => E cls d H) := by
  have tk : Takes (cxOf (L2.CX P w) P w K mg base N qual scope f cdv A outer s H E) (fun cls d _ H => E cls d H) := takes_of rfl rfl rfl rfl
  exact ⟨⟨S.nd, ⟨hr.dp, hr.un⟩, fun _ => hr.hd, passAt tk⟩, ⟨rfl, passes_of rfl, tk⟩⟩
/-- a def, by its body's derivation -/
theorem def_d (F : FunD K x qual params body scope dvs kws f fd) (S : FnScope N ps scope) (hN : N.length = ps.length + m)
    (hb : ∀ (cdv : Value) (A : Around) (outer : List Env) (s : Shared) (H : Hp) (E : XK), Kx false (cxOf (L2.CX P w) P w K mg base N qual scope f cdv A outer s H E) (fun cls d _ H => E cls d H) (L2.CX P w) k → Ky (cxOf (L2.CX P w) P w K mg base N qual scope f cdv A outer s H E) (fun cls d _ H => E cls d H) →
      DSs (cxOf (L2.CX P w) P w K mg base N qual scope f cdv A outer s H E) Γ (fun cls d _ H => E cls d H) body G) : Fno false P w K mg base (L2.CX P w) (k + 1) f fd ps (spP ⟨K, Γ⟩ (fnR ps.length m G)) :=
  ⟨fn_d F S hN fun cdv A outer s H E hr => let ⟨kx, ky⟩ := kx_of S hr; hb cdv A outer s H E kx ky, fun z => Bool.noConfusion z⟩
/-- the same of an __init__ and the like -/
theorem def_s {c : Str} (F : FunD K x qual params body scope dvs kws f fd) (S : FnScope N ps scope) (hN : N.length = ps.length + m)
    (hb : ∀ (cdv : Value) (A : Around) (outer : List Env) (s : Shared) (H : Hp) (E : XK), Kx false (cxOf (L2.CX P w) P w K mg base N qual scope f cdv A outer s H E) (fun cls d _ H => E cls d H) (L2.CX P w) k → Ky (cxOf (L2.CX P w) P w K mg base N qual scope f cdv A outer s H E) (fun cls d _ H => E cls d H) →
      DSs (cxOf (L2.CX P w) P w K mg base N qual scope f cdv A outer s H E) Γ (fun cls d _ H => E cls d H) body G) : FnOk P w K mg base (L2.CX P w) (k + 1) f fd ps (spS ⟨K, Γ⟩ c (fnS c ps.length m G)) :=
  fn_s F S hN fun cdv A outer s H E hr => let ⟨kx, ky⟩ := kx_of S hr; hb cdv A outer s H E kx ky
/-- a def that may be called in a suite -/
theorem def_sd (F : FunD K x qual params body scope dvs kws f fd) (S : FnScope N ps scope) (hN : N.length = ps.length + m)
    (hb : ∀ (cdv : Value) (A : Around) (outer : List Env) (s : Shared) (H : Hp) (E : XK), Kx true (cxS (L2.CX P w) P w K mg base N qual scope f cdv A outer s H E) (fun cls d _ H => E cls d H) (L2.CX P w) k →
      DSs (cxS (L2.CX P w) P w K mg base N qual scope f cdv A outer s H E) Γ (fun cls d _ H => E cls d H) body G) : Fno true P w K mg base (L2.CX P w) (k + 1) f fd ps (spP ⟨K, Γ⟩ (fnR ps.length m G)) := by
  have h := fn_sd (CX := L2.CX P w) F S hN fun cdv A outer s H E hr => by
    have tk : Takes (cxS (L2.CX P w) P w K mg base N qual scope f cdv A outer s H E) (fun cls d _ H => E cls d H) := takes_of rfl rfl rfl rfl
    exact hb cdv A outer s H E ⟨S.nd, hr, (fun z => Bool.noConfusion z), passAt tk⟩
  exact ⟨h.ok, fun _ => h⟩
theorem Fno.weak {S : Bool} {CX : CXT} {sp : Sp} (h : Fno true P w K mg base CX k f fd ps sp) : Fno S P w K mg base CX k f fd ps sp := ⟨h.ok, fun _ => h.s rfl⟩
theorem Def.weak {S : Bool} {CX : CXT} {h : List DV → R DV} (D : Def true P w K mg base CX Γ x k ps h) : Def S P w K mg base CX Γ x k ps h := by
  obtain ⟨f, fd, h1, h2, h3, h4⟩ := D.ex
  exact ⟨f, fd, h1, h2, h3.weak, h4⟩
end
end DL
end
section
set_option maxHeartbeats 1000000
namespace DL
open PySem PySem.Spec L2 PyProof.Rows

/-! ### f-strings of ints and texts -/
section
variable {X : Cx} {Γ : Str → Option Addr} {W : WX} {e a b : Expr} {es : List Expr} {fa fb fe : Slots → R DV} {fs : Slots → R (List DV)} {pos : Pos}
def fmtD : DV → Option Str
  | .str z => if z.length < big then some z else none
  | .int i => if i.natAbs.log2 < 1920 then some (toString i) else none
  | _ => none
/-- each part's reading gives a text -/
structure DF (X : Cx) (Γ : Str → Option Addr) (W : WX) (e : Expr) (f : Slots → R DV) : Prop where
  pe : PE X e (rdV ⟨X.K, Γ⟩ W f)
def fmtV (f : Slots → R DV) : Slots → R DV := fun env => (f env).bind fun d => match fmtD d with
  | some z => .ok (.str z)
  | none => .stuck
theorem df_fmt (h : DT X Γ W e fe) : DF X Γ W (.FormattedValue e (-1) none pos) (fmtV fe) := ⟨pe_imp (pe_fmt h.pe) fun σ H Q ⟨F, As, env, S, q⟩ => by
  refine ⟨F, As, env, S, ?_⟩
  unfold fmtV at q
  cases hf : fe env with
  | stuck => rw [hf] at q; exact q
  | ex x => rw [hf] at q; exact q
  | ok d =>
    rw [hf] at q
    intro v F1 H1 A x1 r
    simp only [R.bind] at q
    cases d with
    | str z =>
      cases r.str_inv
      unfold fmtD at q
      by_cases c : z.length < big
      · simp only [if_pos c] at q
        exact .inl ⟨z, rfl, by rw [sizeLine_eq]; unfold big at c; omega, q _ F1 H1 [] x1 (.frz (.str z))⟩
      · simp only [if_neg c] at q
    | int i =>
      cases r.int_inv
      unfold fmtD at q
      by_cases c : i.natAbs.log2 < 1920
      · simp only [if_pos c] at q
        exact .inr ⟨i, rfl, c, q _ F1 H1 [] x1 (.frz (.str _))⟩
      · simp only [if_neg c] at q
    | _ => exact q.elim⟩
theorem df_lit {z : Str} {j : Nat} : DF X Γ W (.Constant (.str z) j pos) (cst (.str z)) := ⟨(de_str (X := X) (Γ := Γ) (W := W)).dt.pe⟩
/-- several parts behind acc -/
def joinV : List (Slots → R DV) → Str → Slots → R DV
  | [], acc => fun _ => .ok (.str acc)
  | f :: fs, acc => fun env => (f env).bind fun d => match d with
    | .str y => if (acc ++ y).length < big then joinV fs (acc ++ y) env else .stuck
    | _ => .stuck
inductive DFs (X : Cx) (Γ : Str → Option Addr) (W : WX) : List Expr → List (Slots → R DV) → Prop where
  | nil : DFs X Γ W [] []
  | cons {e : Expr} {f : Slots → R DV} {es : List Expr} {fs : List (Slots → R DV)} (h : DF X Γ W e f) (r : DFs X Γ W es fs) : DFs X Γ W (e :: es) (f :: fs)
theorem DFs.pj {es : List Expr} {fs : List (Slots → R DV)} (h : DFs X Γ W es fs) : PJ X es (fs.map fun f => rdV ⟨X.K, Γ⟩ W f) := by
  induction h with
  | nil => exact .nil
  | cons h _ ih => exact .cons h.pe ih
theorem join_read {σ : L2.St} {Q : VK} : ∀ (fs : List (Slots → R DV)) (acc : Str) (F0 H0 F H : Hp) (As : List Addr) (env : Slots), SA ⟨X.K, Γ⟩ F As σ H env → DL.Ext F0 H0 F H → (match joinV fs acc env with
    | .ok d => ∀ v F' H' A, DL.Ext F0 H0 F' H' → Fresh F' H0 A → RO ⟨X.K, Γ⟩ F' H' v d A → Q v H'
    | .ex x => ∀ cls dx F' H', DL.Ext F0 H0 F' H' → XOk ⟨X.K, Γ⟩ F' cls dx x → W cls dx σ H'
    | .stuck => False) → tJs (fs.map fun f => rdV ⟨X.K, Γ⟩ W f) acc σ H fun out H1 => Q (.str out) H1
  | [], acc, F0, H0, F, H, As, env, S, x0, q => q _ F H [] x0 .nil (.frz (.str acc))
  | f :: fs, acc, F0, H0, F, H, As, env, S, x0, q => by
    refine ⟨F, As, env, S, ?_⟩
    unfold joinV at q
    cases hf : f env with
    | stuck => rw [hf] at q; exact q
    | ex x => rw [hf] at q; exact fun cls dx F' H' x1 o => q cls dx F' H' (x0.trans x1) o
    | ok d =>
      rw [hf] at q
      intro v F1 H1 A x1 r
      simp only [R.bind] at q
      cases d with
      | str y =>
        cases r.str_inv
        simp only at q
        by_cases c : (acc ++ y).length < big
        · rw [if_pos c] at q
          exact ⟨y, rfl, by rw [sizeLine_eq]; unfold big at c; omega, join_read fs (acc ++ y) F0 H0 F1 H1 As env (S.ext x1) (x0.trans x1) q⟩
        · rw [if_neg c] at q; exact q.elim
      | _ => exact q.elim
theorem de_joined {v1 v2 : Expr} {rest : List Expr} {fs : List (Slots → R DV)} (h : DFs X Γ W (v1 :: v2 :: rest) fs) : DE X Γ W (.JoinedStr (v1 :: v2 :: rest) pos) (joinV fs Str.empty) :=
  ⟨pe_imp (pe_joined h.pj) fun σ H Q ⟨F, As, env, S, q⟩ => join_read fs Str.empty F H F H As env S (.refl S.fh) q⟩
end

/-! ### a != b of two instances of a class that has an own __eq__, no __ne__ -/
theorem ns_some {K : PySem.W.Frag} {h : Heap} {N : Addr} {mN : Str → Option Value} {n : Str} {v : Value} (X : K.In h) (G : h.Ns N mN) (e : PySem.W.nsIn K N n = some (some v)) : mN n = some v := by
  obtain ⟨ob, es, ep, h1, h2, _, h3⟩ := G
  unfold PySem.W.nsIn at e
  split at e
  · rename_i c d es' n' sl q
    have z := X _ _ q
    rw [h1] at z
    cases z; cases h2
    split at e
    · rename_i en he
      cases e
      rw [← h3]; unfold nsFind findBy; rw [← Array.find?_toList, he]; rfl
    · split at e <;> cases e
  · cases e
def neB (K : PySem.W.Frag) (C f : Addr) : Bool := match K.lookup C with
  | some ⟨.type "type", _, .cls cd, sl⟩ => (match cd.mro, sl.toList with
    | .ref C' :: bm, [_, _, _, _, some (.builtin _), _] => C' == C && bm == [.type "object"] && !cd.hasDel && PySem.W.nsOkIn K cd.ns && PySem.W.nsIn K cd.ns "__eq__" == some (some (.ref f)) && PySem.W.nsIn K cd.ns "__ne__" == some none
    | _, _ => false)
  | _ => false
theorem neB_ok {K : PySem.W.Frag} {h : Heap} {C f : Addr} (X : K.In h) (q : neB K C f = true) : ∃ nm N qn bs hdct sn sub ab col dd k0 k1 k2 k3 k5 newId mN,
    h.get? C = some (excClassObj nm qn C N bs [.type "object"] hdct sn sub ab col dd k0 k1 k2 k3 k5 newId) ∧ h.Ns N mN ∧ mN "__eq__" = some (.ref f) ∧ mN "__ne__" = none := by
  unfold neB at q
  split at q
  · rename_i dd cd sl ho
    split at q
    · rename_i C' bm k0 k1 k2 k3 n k5 hm hs
      simp only [Bool.and_eq_true, beq_iff_eq, Bool.not_eq_true'] at q
      obtain ⟨⟨⟨⟨⟨rfl, rfl⟩, hdel⟩, hok⟩, he⟩, hne⟩ := q
      obtain ⟨nm, bs, mro, ns, qn, hd, sn, sub, ab, col, del⟩ := cd
      dsimp only at hm hdel hok he hne
      subst hm hdel
      have hsl : sl = #[k0, k1, k2, k3, some (.builtin n), k5] := by
        obtain ⟨l⟩ := sl
        simp only at hs
        rw [hs]
      subst hsl
      have hn : h.Ns ns _ := .of_isNs (PySem.W.isNs_of_in X hok)
      exact ⟨nm, ns, qn, bs, hd, sn, sub, ab, col, dd, k0, k1, k2, k3, k5, n, _, X _ _ ho, hn, ns_some X hn he, PySem.W.nsMap_none_of_in X hok hne⟩
    · cases q
  · cases q

structure NeOk (K : PySem.W.Frag) (Γ : Str → Option Addr) (c : Str) : Prop where
  ok : ∀ C f, Γ c = some C → PySem.W.findIn K (.ref C) "__eq__" = some (some (.ref f)) → neB K C f = true ∧ PySem.W.isFn K (.ref f) = true
section
variable {S : Bool} {X : Cx} {Γ : Str → Option Addr} {W : WX} {a b : Expr} {fa fb : Slots → R DV} {pos : Pos} {k j : Nat} {ps : List Str} {h : List DV → R DV} {c : Str}
def neOwn (c : Str) (h : List DV → R DV) (d e : DV) : R DV := match d, e with
  | .ins c1 xs, .ins c2 ys => if c1 = c ∧ c2 = c then (match h [.ins c1 xs, .ins c2 ys] with | .ok (.bl v) => .ok (.bl (!v)) | _ => .stuck) else .stuck
  | _, _ => .stuck
def neO (c : Str) (h : List DV → R DV) (fa fb : Slots → R DV) : Slots → R DV := fun env => (fa env).bind fun d => (fb env).bind fun e => neOwn c h (freeze d) (freeze e)
theorem neOwn_inv {d e : DV} (h0 : neOwn c h d e ≠ .stuck) : ∃ xs ys v, d = .ins c xs ∧ e = .ins c ys ∧ h [.ins c xs, .ins c ys] = .ok (.bl v) ∧ neOwn c h d e = .ok (.bl (!v)) := by
  unfold neOwn at h0 ⊢
  split at h0
  · rename_i c1 xs c2 ys
    by_cases z : c1 = c ∧ c2 = c
    · rw [if_pos z] at h0
      obtain ⟨rfl, rfl⟩ := z
      split at h0
      · rename_i v hh
        refine ⟨xs, ys, v, rfl, rfl, hh, ?_⟩
        rename_i c2'
        simp [hh]
      · exact absurd rfl h0
    · rw [if_neg z] at h0; exact absurd rfl h0
  · exact absurd rfl h0
theorem de_neO (kx : Kx false X W (L2.CX X.prog X.w) k) (D : MDef false X.prog X.w X.K X.mg X.base (L2.CX X.prog X.w) Γ c "__eq__" j ps h) (hj : j + 1 ≤ k) (hn : NeOk X.K Γ c) (ha : DE X Γ W a fa) (hb : DE X Γ W b fb) (hm : behindInMarks .NotEq b = false := by first | exact nomark _ | rfl) : DE X Γ W (.Compare a [.NotEq] [b] pos) (neO c h fa fb) := by
  obtain ⟨C, f, fd, hC, hc, hme, hsf, Fn, hbn⟩ := D.ex
  let r : R2 := fun x y H2 Q => ∃ F0 H0 F2 xs ys v0, DL.Ext F0 H0 F2 H2 ∧ RF ⟨X.K, Γ⟩ F2 x (.ins c xs) ∧ RF ⟨X.K, Γ⟩ F2 y (.ins c ys) ∧ h [.ins c xs, .ins c ys] = .ok (.bl v0) ∧ ∀ v F' H' A, DL.Ext F0 H0 F' H' → Fresh F' H0 A → RO ⟨X.K, Γ⟩ F' H' v (.bl (!v0)) A → Q v H'
  have op : OpR X (compareOp .NotEq) r := by
    rintro pins s σ H x y va vb Q I rx ry ⟨F0, H0, F2, xs, ys, v0, x2, r1, r2, hv, q⟩
    obtain ⟨p, C1, dx, vs, rfl, h1, h2, h3⟩ := ins_of r1
    obtain ⟨p2, C2, dx2, vs2, rfl, k1, k2, k3⟩ := ins_of r2
    obtain rfl : va = Value.ref p := rx
    obtain rfl : vb = Value.ref p2 := ry
    have e1 : C1 = C := Option.some.inj (h2.symm.trans hC)
    have e2 : C2 = C := Option.some.inj (k2.symm.trans hC)
    subst e1 e2
    obtain ⟨mA, J, _⟩ := ins_get I.hok (x2.fh _ _ h1)
    obtain ⟨mB, J', _⟩ := ins_get I.hok (x2.fh _ _ k1)
    obtain ⟨od, J, _⟩ := J.look
    obtain ⟨od', J', _⟩ := J'.look
    obtain ⟨q1, q2⟩ := hn.ok _ f hC hme.at_
    obtain ⟨nm, N, qn, bs, hdct, sn, sub, ab, col, dd, z0, z1, z2, z3, z5, newId, mN, o1, o2, o3, o4⟩ := neB_ok I.kIn q1
    have hr : Room j X.A.in1 := (kx.room hj).in1
    obtain ⟨hp, gg, dr, tk, os⟩ := s
    have e0 : Env0 X.prog X.w X.K X.mg X.base X.A.in1 X.stack ⟨hp, gg, dr, tk, os⟩ H := I.env0.in1
    have hsp : spP ⟨X.K, Γ⟩ h [.ref p, .ref p2] H (fun v H2 => v = .bl v0 ∧ Q (.bl (!v0)) H2) (fun _ _ _ => False) := ⟨F2, [.ins c xs, .ins c ys], x2.fh, .cons r1 (.cons r2 .nil), by
      rw [hv]
      intro v F' H' A x3 fr3 r3
      cases r3.bl_inv
      exact ⟨rfl, q (.bl (!v0)) F' H' [] (x2.trans x3) .nil (.frz (.bl _))⟩⟩
    have hl : ps.length = 2 := (Fn.ok.len _ _ _ _ hsp).symm
    have b := hbn ⟨hp, gg, dr, tk, os⟩ [.ref p, .ref p2] I.kIn (by simp [hl])
    rw [List.append_nil] at b
    obtain ⟨of, hof, hofc⟩ : ∃ of, hp.get? f = some of ∧ of.cls = .type "function" := by
      have z : PySem.W.typeIn X.K (.ref f) = some (.type "function") := beq_iff_eq.mp q2
      obtain ⟨ob, h1, h2⟩ := Option.map_eq_some_iff.mp (show (X.K.lookup f).map (·.cls) = some (.type "function") from z)
      exact ⟨ob, I.kIn _ _ h1, h2⟩
    refine compareOp_ne_ownEq F.cmp_object ⟨_, of, nm, qn, N, bs, hdct, sn, sub, ab, col, dd, z0, z1, z2, z3, z5, newId, mN, _, J.at_, J.cls, o1, o2, o3, hof, hofc, F.cmp_object.mro, F.cmp_object.eq.lookup, o4⟩ J'.at_ J'.cls (by have := kx.u64; omega) (wpAny_call (codeAny_mono (Fn.ok.run X.A.in1 X.stack ⟨hp, gg, dr, tk, os⟩ H ⟨[.ref p, .ref p2], []⟩ [.ref p, .ref p2] [.ref p, .ref p2] _ _ hr e0 b (.cons rfl (.cons rfl .nil)) hsp) fun r s' hq => ?_))
    cases r with
    | error e =>
      obtain ⟨_, _, _, _, _, _, _, _, _, _, _, _, hF⟩ := hq
      exact hF.elim
    | ok fl => cases fl with
      | ret u =>
        obtain ⟨v, H', I3, rv, ev, q3⟩ := I.after hq
        subst ev
        obtain rfl : u = .bool v0 := rv
        exact ⟨v0, rfl, .bl (!v0), H', I3, rfl, q3⟩
      | next => exact hq.elim
      | brk => exact hq.elim
      | cont => exact hq.elim
  refine ⟨pe_imp (pe_cmpR op ha.pe hb.pe hm) fun σ H Q q => ?_⟩
  exact both_read (T := fun v w σ H2 Q => r v w H2 Q) (g := neOwn c h) q fun v w F0 H0 F2 H2 d e x2 _ r1 r2 q => by
    have ns : neOwn c h d e ≠ .stuck := fun z => by rw [z] at q; exact q
    obtain ⟨xs, ys, v0, rfl, rfl, e3, e4⟩ := neOwn_inv ns
    rw [e4] at q
    exact ⟨F0, H0, F2, xs, ys, v0, x2, r1, r2, e3, q⟩
end
end DL
end
section
set_option maxHeartbeats 1000000
namespace DL
open PySem PySem.Spec L2 PyProof.Rows
/-- what may stand on the right of an own ==: one of the class, an int, a tuple -/
def nfD (c : Str) : DV → Bool
  | .ins c' _ => c' == c
  | .int _ => true
  | .tup _ => true
  | _ => false
section
variable {K : PySem.W.Frag} {l : List Str} {c : Str}
def nfB (K : PySem.W.Frag) (c : Str) : Bool := PySem.W.notFirst K (He.ga K c) (.type "int") && (PySem.W.notFirst K (He.ga K c) (.type "tuple") && (insB K c && PySem.W.notFirst K (He.ga K c) (.ref (He.ga K c))))
theorem nfB_ok (h : nfB K c = true) (hl : l.contains c = true) : NfOk K (gam K l) c (nfD c) := by
  unfold nfB at h
  simp only [Bool.and_eq_true] at h
  obtain ⟨h1, h2, h3, h4⟩ := h
  have hg : gam K l c = some (He.ga K c) := by unfold gam; rw [if_pos hl]
  refine ⟨fun e C he hC => ?_⟩
  rw [gam_some hC]
  cases e with
  | int i => exact ⟨_, rfl, ⟨(fun _ _ _ z => by rcases z with z | z <;> cases z), (fun _ _ _ z => by cases z)⟩, h1⟩
  | tup ds => exact ⟨_, rfl, ⟨(fun _ _ _ z => by rcases z with z | z <;> cases z), (fun _ _ _ z => by cases z)⟩, h2⟩
  | ins c' fs =>
    have e1 : c' = c := by simpa [nfD] using he
    subst e1
    refine ⟨.ref (He.ga K c'), by simp [tyv, hg], ⟨fun c2 fs2 C2 z hz => ?_, (fun _ _ _ z => by cases z)⟩, h4⟩
    rcases z with z | z
    · cases z; rw [gam_some hz]; exact insB_ok h3
    · cases z
  | _ => cases he
/-- facts of fields, of classes -/
def atB (K : PySem.W.Frag) (f : Str) (cs : List Str) : Bool := cs.all fun c => (He.Fa.cls c).ok K && (He.Fa.noat c f).ok K
theorem atB_ok {f : Str} {cs : List Str} (h : atB K f cs = true) : AtK K (gam K l) f fun c => cs.contains c := by
  intro c C hc hC
  rw [gam_some hC]
  have := List.all_eq_true.mp h c (by simpa using hc)
  simp only [Bool.and_eq_true] at this
  exact ⟨He.cls_ok this.1, He.noat_ok this.2⟩
def axB (K : PySem.W.Frag) (f : Str) (cs : List Str) : Bool := cs.all fun c => xfB K (He.ga K c) && decide (PySem.W.findIn K (.ref (He.ga K c)) f = some none)
theorem axB_ok {f : Str} {cs : List Str} (h : axB K f cs = true) : AxK K (gam K l) f fun c => cs.contains c := by
  intro c C hc hC
  rw [gam_some hC]
  have := List.all_eq_true.mp h c (by simpa using hc)
  simp only [Bool.and_eq_true, decide_eq_true_eq] at this
  exact ⟨xfB_ok this.1, this.2⟩
theorem rz_ok {mg : Str → Option Value} {x : Str} (hl : l.contains x = true) (hm : mg x = some (.ref (He.ga K x))) (c : (He.Fa.exc x).ok K = true) : Rz K mg (gam K l) x := by
  obtain ⟨h1, h2, h3, h4⟩ := He.exc_ok c
  exact ⟨_, by unfold gam; rw [if_pos hl], hm, h2, h1, h3, h4⟩
def tzB (K : PySem.W.Frag) (x : Str) (tx : List (Str × Bool)) : Bool := tx.all fun p => decide (PySem.W.exmOne K (.ref (He.ga K p.1)) (.ref (He.ga K x)) = some p.2)
theorem tz_ok {mg : Str → Option Value} {x : Str} {tx : List (Str × Bool)} (hm : mg x = some (.ref (He.ga K x))) (h : tzB K x tx = true) : Tz K mg (gam K l) x fun c => tx.lookup c := by
  refine ⟨_, hm, fun c' C' b hC hb => ?_⟩
  rw [gam_some hC]
  have := List.all_eq_true.mp h _ (lookup_mem hb)
  simpa using this
theorem ne_ok {f : Addr} (h : neB K (He.ga K c) f = true) (hf : PySem.W.findIn K (.ref (He.ga K c)) "__eq__" = some (some (.ref f))) (h2 : PySem.W.isFn K (.ref f) = true) : NeOk K (gam K l) c := by
  refine ⟨fun C g hC hg => ?_⟩
  rw [gam_some hC] at hg ⊢
  rw [hf] at hg
  cases hg
  exact ⟨h, h2⟩
end
/-- y = [..] on one line, shared from here on -/
theorem ds_setLcF {X : Cx} {Γ : Str → Option Addr} {W : WX} {tg iter : Expr} {pos : Pos} {i : Nat} {y : Str} {py spos : Pos} {fs : Slots → R (List DV)} {gt : DV → Slots → Option Slots} {ft : Slots → R Bool} {fe : Slots → R DV} {elt : Expr} {ifs : List Expr} {scope : Scope} {own : List (Str × Nat)} (hc : X.calm = true) (hN : X.N.Nodup) (ok : BlkOk X.N X.env.scope scope own)
    (hi : DI X Γ W tg iter fs)
    (hg : ∀ (s : Shared) (H : Hp) (C : Addr) (cl : List (Str × Addr)) (fp : List Addr), DGb (X.blk s H scope (compEnvC scope cl C X.env) fp) Γ (own.map (·.2)) tg gt)
    (ht : ∀ (s : Shared) (H : Hp) (C : Addr) (cl : List (Str × Addr)) (fp : List Addr), DTs (X.blk s H scope (compEnvC scope cl C X.env) fp) Γ (fun _ _ _ _ => False) ifs ft)
    (he : ∀ (s : Shared) (H : Hp) (C : Addr) (cl : List (Str × Addr)) (fp : List Addr), DE (X.blk s H scope (compEnvC scope cl C X.env) fp) Γ (fun _ _ _ _ => False) elt fe)
    (hsw : swapsWith (.ListComp elt [⟨tg, iter, ifs, 0⟩] scope pos) (some (.Name y py)) spos.line X.env = pure true := by exact sw_true rfl rfl rfl rfl)
    (hy : X.N[i]? = some y := by rfl) (hyl : X.env.scope.names.lookup y = some .local := by rfl) (hs : ∀ x, foldedSetIterable iter X.env x = pure x := by intro _; rfl) :
    DS X Γ W (.Assign [.Name y py] (.ListComp elt [⟨tg, iter, ifs, 0⟩] scope pos) spos) (setF i (lcV (own.map (·.2)) fs gt ft fe)) := by
  have h := ps_setLc (own := own) (g := rdGb ⟨X.K, Γ⟩ (own.map (·.2)) gt) (tt := rdT ⟨X.K, Γ⟩ (fun _ _ _ _ => False) ft) (te := rdE ⟨X.K, Γ⟩ (fun _ _ _ _ => False) fe) hc hN hy hyl hsw hi.pi ok (fun s H C cl fp => (hg s H C cl fp).pg) (fun s H C cl fp => (ht s H C cl fp).pts) (fun s H C cl fp => (he s H C cl fp).pe) hs
  refine ⟨ps_imp h fun D σ H q => lc_read (rdS_E (k := fun d env => .nx (env.set i (some (freeze d)))) (T := fun v D σ H => gName i v σ H D.nx) (fun v d B F As env A D σ H R K q => ?_) q)⟩
  obtain ⟨R1, r1, s1⟩ := R.shareK K
  obtain ⟨As', R'⟩ := R1.putF (i := i) r1
  exact q _ As' _ H s1 R'
end DL
end
section
set_option maxHeartbeats 1000000
namespace DL
open PySem PySem.Spec L2 PyProof.Rows
/-! ### the head: He's facts, and further tests -/
def obsX (fa : List He.Fa) (fn : List He.DefD) (ex : List (PySem.W.Frag → Bool)) (K : PySem.W.Frag) : He.AlD := ((He.obsD fa fn K).1 && ex.all fun t => t K, (He.obsD fa fn K).2)
structure SayX (fa : List He.Fa) (fn : List He.DefD) (ex : List (PySem.W.Frag → Bool)) (K : PySem.W.Frag) : Prop where
  he : He.SaysD fa fn K
  ex : ex.all (fun t => t K) = true
def hookX (n : Nat) (fa : List He.Fa) (fn : List He.DefD) (ex : List (PySem.W.Frag → Bool)) : PySem.W.Hook where
  α := He.AlD
  obs := fun s => obsX fa fn ex (He.frG s.heap.get? (He.asD s.heap.get? n))
  val := fun _ => He.valD fn
  says := fun _ h => ∃ K : PySem.W.Frag, K.In h ∧ SayX fa fn ex K
  of := fun _ s e => by
    have h1 : ((He.obsD fa fn (He.frG s.heap.get? (He.asD s.heap.get? n))).1 && ex.all fun t => t (He.frG s.heap.get? (He.asD s.heap.get? n))) = true := congrArg (fun z : He.AlD => z.1) e
    have h2 : (obsX fa fn ex (He.frG s.heap.get? (He.asD s.heap.get? n))).2 = (He.valD fn).2 := by rw [e]
    obtain ⟨h3, h4⟩ := Bool.and_eq_true_iff.mp h1
    exact ⟨_, He.frG_in, ⟨Prod.ext h3 h2, h4⟩⟩
  keeps := fun _ _ _ ⟨K, hK, c⟩ k => ⟨K, PySem.W.Frag.In.keeps hK k, c⟩
def obsXG (n : Nat) (fa : List He.Fa) (fn : List He.DefD) (ex : List (PySem.W.Frag → Bool)) (g : Addr → Option Obj) : He.AlD := obsX fa fn ex (He.frG g (He.asD g n))
theorem obsXG_eq {n : Nat} {fa : List He.Fa} {fn : List He.DefD} {ex : List (PySem.W.Frag → Bool)} {g : Addr → Option Obj} {s : Shared} (h : ∀ a, g a = s.heap.get? a) : obsXG n fa fn ex g = (hookX n fa fn ex).obs s := by
  have e : g = s.heap.get? := funext h
  rw [e] <;> rfl
section
variable {fa : List He.Fa} {fn : List He.DefD} {ex : List (PySem.W.Frag → Bool)} {K : PySem.W.Frag}
theorem SayX.test (c : SayX fa fn ex K) (i : Nat) {t : PySem.W.Frag → Bool} (h : ex[i]? = some t := by rfl) : t K = true := List.all_eq_true.mp c.ex t (List.mem_of_getElem? h)
theorem gl_ok {x : Str} {v : Value} {h : Heap} {mg : Str → Option Value} (X : K.In h) (G : h.Ns mainGlobals mg) (c : He.eqO (PySem.W.nsIn K mainGlobals x) (some (some v)) = true) : mg x = some v := PySem.W.mg_of X G (He.eqO_ok c)
end
/-- script: the list of ints that the law is handed -/
theorem script_rf {g : Gc} {F : Hp} : ∀ ns : List Int, RFs g F (ns.map V.int) (ns.map DV.int)
  | [] => .nil
  | n :: ns => .cons (.int n) (script_rf ns)
end DL
end
section
set_option maxHeartbeats 1000000
namespace DL
open PySem PySem.Spec L2 PyProof.Rows
/-- what may be let out, whatever the world -/
def CXu (P : Program) : CXT := fun outer H s E e s' => ∃ w, L2.CX P w outer H s E e s'
theorem fnok_u {P : Program} {w : World} {K : PySem.W.Frag} {mg : Str → Option Value} {base : Heap} {k : Nat} {f : Addr} {fd : FuncData} {ps : List Str} {sp : Sp} (F : FnOk P w K mg base (L2.CX P w) k f fd ps sp) : FnOk P w K mg base (CXu P) k f fd ps sp :=
  ⟨F.len, fun A outer s H args us vs Q E hr e0 hb hv hs => codeAny_mono (F.run A outer s H args us vs Q E hr e0 hb hv hs) fun r s' hq => by
    cases r with
    | error e => exact ⟨w, hq⟩
    | ok fl => cases fl <;> exact hq⟩
theorem cxu_false {P : Program} (H : Hp) (s : Shared) (e : Value) (s' : Shared) (z : CXu P [] H s (fun _ _ _ => False) e s') : False := by
  obtain ⟨_, _, _, _, _, _, _, _, _, _, _, _, _, hF⟩ := z
  exact hF
end DL
end
section
set_option maxHeartbeats 1000000
namespace DL
open PySem PySem.Spec L2 PyProof.Rows
section
variable {X : Cx} {Γ : Str → Option Addr} {W : WX} {x z : Str} {i : Int} {p : Pos}
/-- a constant of the text's top -/
theorem de_gstr (hm : ∃ t, X.mg x = some (.str z t)) (hg : Gl X x := by rfl) (hd : (x == ("__debug__" : Str)) = false := by decide) : DE X Γ W (.Name x p) (cst (.str z)) := by
  obtain ⟨t, hm⟩ := hm
  exact de_c (pe_glob hg hm (show L2.RelV (.str z) (.str z t) from ⟨t, rfl⟩) hd) fun _ _ => .str z
theorem de_gint (hm : ∃ t, X.mg x = some (.int i t)) (hg : Gl X x := by rfl) (hd : (x == ("__debug__" : Str)) = false := by decide) : DE X Γ W (.Name x p) (cst (.int i)) := by
  obtain ⟨t, hm⟩ := hm
  exact de_c (pe_glob hg hm (show L2.RelV (.int i) (.int i t) from ⟨t, rfl⟩) hd) fun _ _ => .int i
end
end DL
end
section
set_option maxHeartbeats 1000000
namespace DL
open PySem PySem.Spec L2 PyProof.Rows
section
variable {X : Cx} {Γ : Str → Option Addr} {W : WX} {a b c : Expr} {fa fb fc : Slots → R DV} {pos : Pos} {r r' : R2} {h h' : DV → DV → Option DV}
/-- a op b op' c -/
def chV (h h' : DV → DV → Option DV) (fa fb fc : Slots → R DV) : Slots → R DV := fun env => (fa env).bind fun x => (fb env).bind fun y => match h x y with
  | some (.bl k) => if k = true then (fc env).bind fun z => lift (h' y z) else .ok (.bl false)
  | _ => .stuck
theorem ch_read (hv : OpV ⟨X.K, Γ⟩ r h) (hv' : OpV ⟨X.K, Γ⟩ r' h') {σ : L2.St} {H : Hp} {Q : VK} (q : rdE ⟨X.K, Γ⟩ W (chV h h' fa fb fc) σ H Q) : tChain r r' (rdV ⟨X.K, Γ⟩ W fa) (rdV ⟨X.K, Γ⟩ W fb) (rdV ⟨X.K, Γ⟩ W fc) σ H Q := by
  obtain ⟨F, As, env, S, q⟩ := q
  refine ⟨F, As, env, S, ?_⟩
  unfold chV at q
  cases ea : fa env with
  | stuck => rw [ea] at q; exact q
  | ex x => rw [ea] at q; exact q
  | ok dx =>
    rw [ea] at q
    intro x F1 H1 A1 x1 r1
    refine ⟨F1, As, env, S.ext x1, ?_⟩
    have q : (match (fb env).bind fun y => (match h dx y with
      | some (.bl k) => if k = true then (fc env).bind fun z => lift (h' y z) else .ok (.bl false)
      | _ => .stuck) with
      | .ok d => ∀ v F' H' A, Ext F H F' H' → Fresh F' H A → RO ⟨X.K, Γ⟩ F' H' v d A → Q v H'
      | .ex e => ∀ cls dx F' H', Ext F H F' H' → XOk ⟨X.K, Γ⟩ F' cls dx e → W cls dx σ H'
      | .stuck => False) := q
    cases eb : fb env with
    | stuck => rw [eb] at q; exact q.elim
    | ex x => rw [eb] at q; exact fun cls dx F' H' x2 o => q cls dx F' H' (x1.trans x2) o
    | ok dy =>
      rw [eb] at q
      have q : (match (match h dx dy with
        | some (.bl k) => if k = true then (fc env).bind fun z => lift (h' dy z) else .ok (.bl false)
        | _ => .stuck) with
        | .ok d => ∀ v F' H' A, Ext F H F' H' → Fresh F' H A → RO ⟨X.K, Γ⟩ F' H' v d A → Q v H'
        | .ex e => ∀ cls dx F' H', Ext F H F' H' → XOk ⟨X.K, Γ⟩ F' cls dx e → W cls dx σ H'
        | .stuck => False) := q
      intro y F2 H2 A2 x2 r2
      cases hd : h dx dy with
      | none => rw [hd] at q; exact q.elim
      | some d =>
        rw [hd] at q
        cases d with
        | bl k =>
          refine hv x2.fh (r1.ext x2) r2 hd fun v F3 H3 A3 x3 fr3 ro3 => ?_
          cases ro3.bl_inv
          refine ⟨k, rfl, ?_⟩
          have x12 := (x1.trans x2).trans x3
          cases k with
          | false =>
            simp only [Bool.false_eq_true, if_false] at q ⊢
            exact q (.bl false) F3 H3 [] x12 .nil (.frz (.bl false))
          | true =>
            simp only [if_true] at q ⊢
            refine ⟨F3, As, env, S.ext x12, ?_⟩
            cases ec : fc env with
            | stuck => rw [ec] at q; exact q
            | ex x => rw [ec] at q; exact fun cls dx F' H' x4 o => q cls dx F' H' (x12.trans x4) o
            | ok dz =>
              rw [ec] at q
              simp only [R.bind] at q
              intro z F4 H4 A4 x4 r4
              cases hd2 : h' dy dz with
              | none => simp only [hd2, lift] at q
              | some d2 =>
                simp only [hd2, lift] at q
                exact hv' x4.fh ((r2.ext x3).ext x4) r4 hd2 fun v F' H' A x5 fr ro => q v F' H' A ((x12.trans x4).trans x5) ⟨fr.nd, fr.nF, fun a ha => (x12.trans x4).hh.free (fr.nH a ha)⟩ ro
        | _ => exact q.elim
theorem de_chain {op op' : CmpOp} (ho : OpR X (compareOp op) r) (hv : OpV ⟨X.K, Γ⟩ r h) (ho' : OpR X (compareOp op') r') (hv' : OpV ⟨X.K, Γ⟩ r' h') (ha : DT X Γ W a fa) (hb : DT X Γ W b fb) (hc : DT X Γ W c fc) (hm : lastMarks [op, op'] [b, c] = false := by with_unfolding_all rfl) :
    DE X Γ W (.Compare a [op, op'] [b, c] pos) (chV h h' fa fb fc) := ⟨pe_imp (pe_chain ho ho' ha.pe hb.pe hc.pe hm) fun σ H Q q => ch_read hv hv' q⟩
end
end DL
end
section
set_option maxHeartbeats 2000000
/-! enumerate(xs), xs a list or a tuple, as what a loop walks -/
namespace DL
open PySem L2 PyProof.Rows

/-- enumerate.__new__ of one value, by how its iterator begins -/
theorem enum1_meets {v : Value} {o : Obj} {S : Heap → Prop} (B : Begins v o S) :
    Meets (Builtin.«enumerate.__new__» ⟨[.type "enumerate", v], []⟩) (fun _ R s => S s.heap ∧ R (.ok (.ret (.ref (s.heap.push o).objs.size)))
      { s with heap := (s.heap.push o).push { cls := .type "enumerate", data := .fields #[.none, .bool false, .ref s.heap.objs.size, rawInt 0, .none, .none] } }) :=
  .of_wp fun prog w A R s ⟨hS, hR⟩ => by
    obtain ⟨h0, gs, dr, tk, os⟩ := s
    have sub := sub_enumerate
    have it : ∀ {A1 : Around} {E Q : Value → Shared → Prop}, Q (.ref h0.objs.size) ⟨h0.push o, gs, dr, tk, os⟩ → wpAny (model prog w) A1 (pyIter v) Q E ⟨h0, gs, dr, tk, os⟩ := fun z => B.iter prog w _ _ ⟨h0, gs, dr, tk, os⟩ _ hS z
    wp_walk using it
    refine wpAny_stack_any fun _ => wpAny_pure ?_
    split
    · rename_i c _ _ _ _ _
      cases (c == Value.type "enumerate") <;> (wp_walk using it; exact ⟨_, rfl, hR⟩)
    · wp_walk using it
      exact ⟨_, rfl, hR⟩
theorem enum1_call {prog : Program} {w : World} {A : Around} {E : Value → Shared → Prop} {s : Shared} {v : Value} {o : Obj} {S : Heap → Prop} {Q : Value → Shared → Prop} (B : Begins v o S) (hS : S s.heap)
    (h : ∀ h', IsEnum h' (s.heap.objs.size + 1) s.heap.objs.size 0 .none → h'.get? s.heap.objs.size = some o → (∀ b u, s.heap.get? b = some u → h'.get? b = some u) → Q (.ref (s.heap.objs.size + 1)) { s with heap := h' }) :
    wpAny (model prog w) A (call (.type "enumerate") [v]) Q E s := by
  refine callType_new F.called_enumerate (by decide) (F.typeCall_enumerate_1 _) (F.newCall_enumerate_1 _) (fun q => F.args_object_init_2 q _) F.entry_enumerate_new (enum1_meets B) ⟨hS, ?_⟩
  have z : (s.heap.push o).objs.size = s.heap.objs.size + 1 := Heap.size_push ..
  have g1 := Heap.get?_push_size (s.heap.push o) (o := { cls := .type "enumerate", data := .fields #[.none, .bool false, .ref s.heap.objs.size, rawInt 0, .none, .none] }) rfl
  have g0 : ∀ w : Obj, ((s.heap.push o).push w).get? s.heap.objs.size = some o := fun w => Heap.get?_push_of_some w (Heap.get?_push_size s.heap B.free)
  show _ ∧ _
  rw [z] at g1 ⊢
  exact ⟨⟨_, g1, rfl⟩, h _ g1 (g0 _) fun b u e => Heap.get?_push_of_some _ (Heap.get?_push_of_some _ e)⟩

/-- the tuple at a as it stands at each turn, each item in a new pair -/
def ItT (K : PySem.W.Frag) (a : Addr) : It :=
  ⟨fun i H => ∃ (xs : List V) (x : V), SqT K H a xs ∧ xs[i]? = some x, fun i H v H' => ∃ T x, v = .ref T ∧ H T = none ∧ H' = upd H T (.tup [.int (i : Nat), x]) ∧ ∀ xs, SqT K H a xs → xs[i]? = some x, fun i H => ∃ xs : List V, SqT K H a xs ∧ xs.length ≤ i⟩
theorem turn_enT {P : Program} {w : World} {K : PySem.W.Frag} {elts : List Expr} {kk : Nat} {tpos : Pos} (a e it : Addr) :
    Turn P w K (.Tuple elts kk tpos) (ItT K a) [e, it] e (fun i h => (∃ old, IsEnum h e it ((i : Nat) : Int) old) ∧ h.IsTupleIter it a i ∧ e ≠ it) where
  mem := List.mem_cons_self ..
  obj := fun i h ⟨⟨old, he⟩, ⟨o, ho, hc, hd⟩, _⟩ b hb => by
    rcases List.mem_cons.mp hb with z | hb
    · subst z; exact ⟨_, he, fun v q => nomatch q⟩
    · cases List.mem_singleton.mp hb
      exact ⟨o, ho, fun v q => by rw [hd] at q; cases q⟩
  keep := fun i h h' ⟨⟨old, he⟩, ⟨o, ho, r⟩, hne⟩ k => ⟨⟨old, k e (List.mem_cons_self ..) _ he⟩, ⟨o, k it (by simp) o ho, r⟩, hne⟩
  item := by
    intro X hP hw hK hc i pins s σ H E I hf ⟨⟨old, he⟩, hit, hne⟩ ⟨xs, x, hq, hx⟩
    subst hP hw hK
    obtain ⟨its, rv, p, _⟩ := I.tuple hq
    obtain ⟨u, hu, ru⟩ := rv.get hx
    have ltE : e < s.heap.objs.size := Heap.lt_size he
    have ltI : it < s.heap.objs.size := by obtain ⟨_, q, _⟩ := hit; exact Heap.lt_size q
    have nea : a ≠ it := fun z => by
      obtain ⟨o1, q1, c1, _⟩ := hit
      obtain ⟨o2, q2, c2, _⟩ := p
      rw [z, q1] at q2
      cases q2
      rw [c1] at c2
      exact absurd c2 (by decide)
    have nee : e ≠ a := fun z => by
      obtain ⟨o2, q2, c2, _⟩ := p
      rw [← z, he] at q2
      cases q2
      exact absurd (show Value.type "enumerate" = Value.type "tuple" from c2) (by decide)
    have D := Draws.tuple (prog := X.prog) (w := X.w) (A := X.A.in1) (I.ok.hd hc) it a nea its.toArray
    refine wpAny_pyNext_enum_itemD D he ⟨hit, p⟩ (by have := (List.getElem?_eq_some_iff.mp hu).1; simpa using this) hne (by simp [hne, nee]) fun y h' tk hy hO hS hT hz hk => ⟨_, rfl, wpAny_letOwnedTupleGo_enum (s := { s with heap := h', toks := tk + 1 }) hO fun h2 he2 sb => ?_⟩
    obtain rfl : y = u := by
      have hy : its.toArray[i]? = some y := hy
      rw [List.getElem?_toArray, hu] at hy
      cases hy; rfl
    have hT2 := (sb.2 _ (Nat.ne_of_gt ltE)).trans hT
    have new : ObjOk X.prog X.w (upd H s.heap.objs.size (.tup [.int (i : Nat), x])) h2 s.heap.objs.size (.tup [.int (i : Nat), x]) := ⟨by show 2 ≤ sizeLine; decide, [.int i tk, y], .cons ⟨_, rfl⟩ (.cons ru .nil), ⟨_, hT2, rfl, _, rfl⟩⟩
    have J : Inv X pins σ (upd H s.heap.objs.size (.tup [.int (i : Nat), x])) { s with heap := h2, toks := tk + 1 } :=
      I.turnedNew (ch := [e, it]) (fun b ob hb q => (sb.2 b (fun z => hb (by simp [z]))).trans (hk b ob (fun z => hb (by simp [z])) (fun z => hb (by simp [z])) q)) hf (Nat.le_refl _) new
    refine ⟨.ref s.heap.objs.size, _, J, rfl, ⟨_, x, rfl, I.hok.fresh (Nat.le_refl _), rfl, fun ys hy => by rw [I.tuple_inj hy hq]; exact hx⟩, ⟨⟨y, ?_⟩, ?_, hne⟩, fun b hb => ?_⟩
    · have e1 : ((i + 1 : Nat) : Int) = (i : Int) + 1 := by omega
      rw [e1]
      exact he2
    · obtain ⟨o, ho, r⟩ := hS.1
      exact ⟨o, (sb.2 it (Ne.symm hne)).trans ho, r⟩
    · have lt : b < s.heap.objs.size := by
        rcases List.mem_cons.mp hb with z | hb
        · rw [z]; exact ltE
        · rw [List.mem_singleton.mp hb]; exact ltI
      rw [upd_ne (Nat.ne_of_lt lt)]
      exact (hf b hb).1
  done := by
    intro X hP hw hK hc i pins s σ H E I hf ⟨⟨old, he⟩, hit, hne⟩ ⟨xs, hq, hx⟩
    subst hP hw hK
    obtain ⟨its, rv, p, _⟩ := I.tuple hq
    have nea : a ≠ it := fun z => by
      obtain ⟨o1, q1, c1, _⟩ := hit
      obtain ⟨o2, q2, c2, _⟩ := p
      rw [z, q1] at q2
      cases q2
      rw [c1] at c2
      exact absurd c2 (by decide)
    obtain ⟨f0, f1, f2, f3, f4, f5⟩ := hf it (by simp)
    have nx : ∀ {h' : Heap}, Heap.ExtBut it s.heap h' → Inv X pins σ H { s with heap := h', toks := s.toks } := fun eb => I.turned (t' := s.toks) (fun b o hb q => eb b o hb q) f0 f1 f3 f4 f5
    have hT : s.TypeIs (.ref e) "enumerate" := ⟨_, he, rfl⟩
    unfold pyNext
    refine wpAny_bind (wpAny_attempt (wpAny_callSpecial?_slot (name := Str.ofString "__next__") hT F.slot_enumerate_next (wpAny_call_entry F.slot_enumerate_next hT F.entry_enumerate_next ?_ (F.args_enumerate_next_1 _))))
    show wpAny _ _ (field (.ref e) 2 >>= _) _ _ _
    refine wpAny_bind (wpAny_field he rfl (x := .ref it) rfl (wpAny_bind (wpAny_nextOf_tuple_end (I.ok.hd hc) hit p (by have := rv.length; simp; omega) fun h' z eb ⟨o, ho, hcl⟩ => ?_)))
    exact wpAny_bind (wpAny_isInstance (T := "StopIteration") (b := true) ⟨o, ho, hcl⟩ isSubtype_stop (wpAny_pure ⟨rfl, nx eb⟩))
  self := fun A i s Q E ⟨⟨_, he⟩, _⟩ h => wpAny_pyIter_enum he h

def iEnA (K : PySem.W.Frag) (ta : TA) : TI := fun σ H R => ta σ H fun vs H1 => ∃ a xs, vs = [.ref a] ∧ ((SqL K H1 a xs ∧ R (Ite K a) H1) ∨ (SqT K H1 a xs ∧ R (ItT K a) H1))
theorem pi_enA {X : Cx} {e : Expr} {ta : TA} {p pos tpos : Pos} {elts : List Expr} {kk : Nat} (hg : Gl X "enumerate") (hm : X.mg "enumerate" = none) (ha : PA X [e] ta) (hs : starEach [e] X.env = [(false, eval e X.env)] := by rfl) :
    PI X (.Tuple elts kk tpos) (.Call (.Name "enumerate" p) [e] [] pos) (iEnA X.K ta) := by
  refine ⟨fun pins s σ H R I h => ?_⟩
  refine Call_ (ld_blt I hg hm boot_enumerate (PyProof.Rows.callWith_type1 (thn (ha.run pos pins s σ H _ I h) fun us s1 ⟨vs, H1, I1, r1, a, xs, ex, q⟩ => ?_) hs rfl))
  subst ex
  cases r1 with
  | cons r rr =>
    cases rr
    cases r
    have fp : ∀ {h' : Heap}, ∀ b ∈ [s1.heap.objs.size + 1, s1.heap.objs.size], FpOk X pins H1 b := fun b hb => by
      have le : s1.heap.objs.size ≤ b := by
        rcases List.mem_cons.mp hb with z | hb
        · rw [z]; exact Nat.le_add_right _ _
        · rw [List.mem_singleton.mp hb]; exact Nat.le_refl _
      exact I1.fpOk le (I1.hok.fresh le)
    rcases q with ⟨hq, q⟩ | ⟨hq, q⟩
    · obtain ⟨its, rv, p', hz⟩ := I1.list hq
      refine enum1_call (begins_list a its.toArray) p'.isList fun h' he ho hk => wpAny_pyIter_enum he ?_
      have I2 : Inv X pins σ H1 { s1 with heap := h' } := I1.kept (t' := s1.toks) hk
      exact ⟨s1.heap.objs.size + 1, [s1.heap.objs.size + 1, s1.heap.objs.size], _, _, H1, rfl, I2, turn_enum a (s1.heap.objs.size + 1) s1.heap.objs.size, ⟨⟨.none, he⟩, ⟨_, ho, rfl, rfl⟩, Nat.succ_ne_self _⟩, fp (h' := h'), q⟩
    · obtain ⟨its, rv, p', hz⟩ := I1.tuple hq
      refine enum1_call (begins_tuple a its.toArray) p' fun h' he ho hk => wpAny_pyIter_enum he ?_
      have I2 : Inv X pins σ H1 { s1 with heap := h' } := I1.kept (t' := s1.toks) hk
      exact ⟨s1.heap.objs.size + 1, [s1.heap.objs.size + 1, s1.heap.objs.size], _, _, H1, rfl, I2, turn_enT a (s1.heap.objs.size + 1) s1.heap.objs.size, ⟨⟨.none, he⟩, ⟨_, ho, rfl, rfl⟩, Nat.succ_ne_self _⟩, fp (h' := h'), q⟩

/-- (0, x0), (1, x1), .. -/
def pairsFrom : Nat → List DV → List DV
  | _, [] => []
  | i, d :: ds => .tup [.int (i : Nat), d] :: pairsFrom (i + 1) ds
theorem pairs_len : ∀ (ds : List DV) (i : Nat), (pairsFrom i ds).length = ds.length
  | [], _ => rfl
  | _ :: ds, i => congrArg Nat.succ (pairs_len ds (i + 1))
theorem pairs_get : ∀ (ds : List DV) (k i : Nat) (d : DV), ds[i]? = some d → (pairsFrom k ds)[i]? = some (.tup [.int ((k + i : Nat) : Int), d])
  | [], _, _, _, e => by simp at e
  | x :: ds, k, 0, d, e => by
    have e : some x = some d := e
    cases e; rfl
  | x :: ds, k, i + 1, d, e => by
    have q := pairs_get ds (k + 1) i d e
    have z : k + 1 + i = k + (i + 1) := by omega
    rw [z] at q
    exact q
theorem dwk_pairs {g : Gc} {F : Hp} {ds : List DV} {J : It} {go0 : Hp → Prop} {xs : List V} (r : RFs g F xs ds)
    (hgo : ∀ i H x, xs[i]? = some x → Same F H → J.go i H) (hst : ∀ H, Same F H → J.stop ds.length H)
    (hy : ∀ i H v H', J.yld i H v H' → Same F H → ∃ T x, v = .ref T ∧ H T = none ∧ H' = upd H T (.tup [.int (i : Nat), x]) ∧ xs[i]? = some x) : DWk g J F (pairsFrom 0 ds) := by
  refine ⟨fun i H hi s => ?_, fun H s => by rw [pairs_len]; exact hst H s, fun i F1 H x H1 hi s s1 y => ?_⟩
  · rw [pairs_len] at hi
    obtain ⟨v, e1, _⟩ := r.get (List.getElem?_eq_getElem hi)
    exact hgo i H v e1 s
  · obtain ⟨T, v, rfl, hn, rfl, hv⟩ := hy i H x H1 y (s.trans s1)
    obtain ⟨d, hd, rd⟩ := r.at hv
    have q := pairs_get ds 0 i d hd
    rw [Nat.zero_add] at q
    refine ⟨upd F1 T (.tup [.int (i : Nat), v]), _, .lay s1 hn, q, .tup (.of upd_same) (.cons (.int _) (.cons ?_ .nil))⟩
    exact (rd.mono s).mono (Ext.lay (o := .tup [.int (i : Nat), v]) s1 hn).ff
/-- what enumerate walks -/
def enS (f : Slots → R DV) : Slots → R (List DV) := fun env => (f env).bind fun d => match d with
  | .lst ds => .ok (pairsFrom 0 ds)
  | .scr ds => .ok (pairsFrom 0 ds)
  | .tup ds => .ok (pairsFrom 0 ds)
  | _ => .stuck
section
variable {X : Cx} {Γ : Str → Option Addr} {W : WX} {e : Expr} {f : Slots → R DV} {p pos tpos : Pos} {elts : List Expr} {kk : Nat}
theorem di_enum (hm : X.mg "enumerate" = none) (h : DT X Γ W e f) (hg : Gl X "enumerate" := by rfl) (hs : starEach [e] X.env = [(false, eval e X.env)] := by rfl) : DI X Γ W (.Tuple elts kk tpos) (.Call (.Name "enumerate" p) [e] [] pos) (enS f) :=
  ⟨pi_imp (pi_enA hg hm (pa_cons h.pe pa_nil hs) hs) fun σ H Q ⟨F, As, env, S, q⟩ => by
    refine ⟨F, As, env, S, ?_⟩
    unfold enS at q
    cases hf : f env with
    | stuck => rw [hf] at q; exact q
    | ex x => rw [hf] at q; exact q
    | ok d =>
      rw [hf] at q
      intro v F1 H1 A x1 r
      have lists : ∀ (a : Addr) (xs : List V) (ds : List DV), SqL X.K F1 a xs → RFs ⟨X.K, Γ⟩ F1 xs ds → DWk ⟨X.K, Γ⟩ (Ite X.K a) F1 (pairsFrom 0 ds) := fun a xs ds hl rs =>
        dwk_pairs (go0 := fun _ => True) rs (fun i H x e s => ⟨xs, x, sqL_same s hl, e⟩) (fun H s => ⟨xs, sqL_same s hl, by rw [rs.len]; exact Nat.le_refl _⟩) fun i H v H' ⟨T, x, ev, hn, eH, hx⟩ s => ⟨T, x, ev, hn, eH, hx xs (sqL_same s hl)⟩
      cases d with
      | lst ds =>
        obtain ⟨rf, _⟩ := r.frz_inv rfl
        cases rf with
        | lst h1 h2 => exact ⟨_, _, rfl, .inl ⟨.of (x1.fh _ _ h1), q _ F1 H1 x1 (lists _ _ _ (.of h1) h2)⟩⟩
      | scr ds =>
        obtain ⟨rf, _⟩ := r.frz_inv rfl
        cases rf with
        | scr h1 h2 => exact ⟨_, _, rfl, .inl ⟨sqL_same x1.fh h1, q _ F1 H1 x1 (lists _ _ _ h1 h2)⟩⟩
      | tup ds =>
        obtain ⟨rf, _⟩ := r.frz_inv rfl
        cases rf with
        | tup h1 h2 =>
          exact ⟨_, _, rfl, .inr ⟨sqT_same x1.fh h1, q _ F1 H1 x1 (dwk_pairs (go0 := fun _ => True) h2 (fun i H x e s => ⟨_, x, sqT_same s h1, e⟩) (fun H s => ⟨_, sqT_same s h1, by rw [h2.len]; exact Nat.le_refl _⟩)
            fun i H v H' ⟨T, x, ev, hn, eH, hx⟩ s => ⟨T, x, ev, hn, eH, hx _ (sqT_same s h1)⟩)⟩⟩
      | _ => exact q.elim⟩
end
end DL
end
section
set_option maxHeartbeats 1000000
/-! constants of a class; a value lent while an expression is evaluated; chains of four -/
namespace DL
open PySem PySem.Spec L2 PyProof.Rows

/-! ### o.NAME, a constant of the class -/
def CoK (K : PySem.W.Frag) (Γ : Str → Option Addr) (f : Str) (cs : Str → Bool) (v : V) : Prop := ∀ c C, cs c = true → Γ c = some C → Cls K C ∧ ∃ u, Con K C f v u
def conD (f : Str) (cs : Str → Bool) (r : DV) : DV → Option DV
  | .ins c fs => if cs c = true ∧ fs.lookup f = none then some r else none
  | .obj c fs => if cs c = true ∧ fs.lookup f = none then some r else none
  | _ => none
def conV (f : Str) (cs : Str → Bool) (r : DV) (fo : Slots → R DV) : Slots → R DV := fun env => (fo env).bind fun d => lift (conD f cs r d)
section
variable {X : Cx} {Γ : Str → Option Addr} {W : WX} {o : Expr} {fo : Slots → R DV} {f : Str} {cs : Str → Bool} {v : V} {r : DV} {pos : Pos}
theorem de_con (ho : DT X Γ W o fo) (hk : CoK X.K Γ f cs v) (hv : ∀ g F, RF g F v r) (hb : attributeBase o f X.env (eval o X.env) = eval o X.env := by rfl) : DE X Γ W (.Attribute o f pos) (conV f cs r fo) := ⟨pe_imp (pe_con ho.pe hb) fun σ H Q ⟨F, As, env, S, q⟩ => by
  refine ⟨F, As, env, S, ?_⟩
  unfold conV at q
  cases hf : fo env with
  | stuck => rw [hf] at q; exact q
  | ex x => rw [hf] at q; exact q
  | ok d =>
    rw [hf] at q
    intro x F1 H1 A x1 rx
    simp only [R.bind] at q
    cases d with
    | ins c fs =>
      by_cases z : cs c = true ∧ fs.lookup f = none
      · have e : conD f cs r (.ins c fs) = some r := if_pos z
        rw [e] at q
        obtain ⟨rf, _⟩ := rx.frz_inv rfl
        cases rf with
        | ins h1 h2 h3 =>
          obtain ⟨hc, u, hu⟩ := hk _ _ z.1 h2
          exact ⟨_, _, _, _, _, _, rfl, x1.fh _ _ h1, hc, hu, h3.none z.2, q v F1 H1 [] x1 .nil (.frz (hv _ _))⟩
      · have e : conD f cs r (.ins c fs) = none := if_neg z
        rw [e] at q
        exact q.elim
    | obj c fs =>
      by_cases z : cs c = true ∧ fs.lookup f = none
      · have e : conD f cs r (.obj c fs) = some r := if_pos z
        rw [e] at q
        cases rx with
        | frz h => cases h
        | obj h1 h2 h3 =>
          obtain ⟨hc, u, hu⟩ := hk _ _ z.1 h2
          exact ⟨_, _, _, _, _, _, rfl, h1, hc, hu, h3.none z.2, q v F1 H1 [] x1 .nil (.frz (hv _ _))⟩
      · have e : conD f cs r (.obj c fs) = none := if_neg z
        rw [e] at q
        exact q.elim
    | _ => exact q.elim⟩
theorem co_ok {K : PySem.W.Frag} {l cs : List Str} {v : He.Dv} (h : (cs.all fun c => (He.Fa.cls c).ok K && He.conB K c f v) = true) (hc : PySem.W.copiedNames.contains f = false := by decide) : CoK K (gam K l) f (fun c => cs.contains c) (v.v K) := by
  intro c C h1 h2
  have h3 := List.all_eq_true.mp h c (List.contains_iff_mem.mp h1)
  rw [Bool.and_eq_true] at h3
  cases gam_some h2
  exact ⟨He.cls_ok h3.1, He.conB_ok h3.2 hc⟩
end

/-! ### lending -/
/-- without what stands at p -/
def less (F : Hp) (p : Addr) : Hp := fun a => if a = p then none else F a
theorem less_ne {F : Hp} {p a : Addr} (h : a ≠ p) : less F p a = F a := if_neg h
theorem less_eq {F : Hp} {p : Addr} : less F p p = none := if_pos rfl
theorem less_same {F : Hp} {p : Addr} : Same (less F p) F := fun a o e => by
  by_cases h : a = p
  · subst h; rw [less_eq] at e; cases e
  · rw [less_ne h] at e; exact e
/-- what is lent at p: a list (l) or an instance -/
def KindAt (F : Hp) (p : Addr) (l : Bool) : Prop := if l = true then ∃ vs, F p = some (.lst vs) else ∃ C dx fs, F p = some (.ins C dx fs)
mutual
/-- not reached through a list (l), through an instance (not l) -/
def apart (l : Bool) : DV → Bool
  | .lst ds => !l && aparts l ds
  | .scr ds => !l && aparts l ds
  | .tup ds => aparts l ds
  | .own ds => aparts l ds
  | .ins _ fs => l && apartf l fs
  | .obj _ fs => apartf l fs
  | .exc _ fs => apartf l fs
  | .non => true
  | .bl _ => true
  | .int _ => true
  | .str _ => true
  | .rng _ _ => true
def aparts (l : Bool) : List DV → Bool
  | [] => true
  | d :: ds => apart l d && aparts l ds
def apartf (l : Bool) : List (Str × DV) → Bool
  | [] => true
  | (_, d) :: ds => apart l d && apartf l ds
end
theorem KindAt.ne {F : Hp} {p q : Addr} {l : Bool} {o : HO} (k : KindAt F p l) (h : F q = some o) (h1 : l = true → ∀ vs, o ≠ .lst vs) (h2 : l = false → ∀ C dx fs, o ≠ .ins C dx fs) : q ≠ p := fun z => by
  subst z
  cases l with
  | true =>
    obtain ⟨vs, e⟩ := (show ∃ vs, F q = some (.lst vs) from k)
    rw [h] at e
    exact h1 rfl vs (Option.some.inj e)
  | false =>
    obtain ⟨C, dx, fs, e⟩ := (show ∃ C dx fs, F q = some (.ins C dx fs) from k)
    rw [h] at e
    exact h2 rfl C dx fs (Option.some.inj e)
theorem rd_less {F : Hp} {p a : Addr} {u : HO} {l : Bool} (k : KindAt F p l) (h : Rd F a u) (h1 : l = true → ∀ vs, u ≠ .lst vs) (h2 : l = false → ∀ C dx fs, u ≠ .ins C dx fs) : Rd (less F p) a u := by
  rcases h with h | ⟨o, h⟩
  · exact .inl (by rw [less_ne (k.ne h h1 h2)]; exact h)
  · exact .inr ⟨o, by rw [less_ne (k.ne h (fun _ _ z => by cases z) fun _ _ _ _ z => by cases z)]; exact h⟩
theorem sqT_less {K : PySem.W.Frag} {F : Hp} {p a : Addr} {xs : List V} {l : Bool} (k : KindAt F p l) (h : SqT K F a xs) : SqT K (less F p) a xs := by
  rcases h with h | h
  · exact .inl (rd_less k h (fun _ _ z => by cases z) fun _ _ _ _ z => by cases z)
  · exact .inr h
theorem sqL_less {K : PySem.W.Frag} {F : Hp} {p a : Addr} {xs : List V} (k : KindAt F p false) (h : SqL K F a xs) : SqL K (less F p) a xs := by
  rcases h with h | h
  · exact .inl (rd_less k h (fun z => by cases z) fun _ _ _ _ z => by cases z)
  · exact .inr h
mutual
theorem RF.less {g : Gc} {F : Hp} {p : Addr} {l : Bool} (k : KindAt F p l) : ∀ {v : V} {d : DV}, RF g F v d → apart l d = true → RF g (DL.less F p) v d
  | _, _, .non, _ => .non
  | _, _, .bl b, _ => .bl b
  | _, _, .int i, _ => .int i
  | _, _, .str x, _ => .str x
  | _, _, .tup h r, a => .tup (sqT_less k h) (RFs.less k r (by unfold apart at a; exact a))
  | _, _, .lst h r, a => by
    unfold apart at a
    rw [Bool.and_eq_true, Bool.not_eq_true'] at a
    obtain ⟨rfl, a⟩ := a
    exact .lst (by rw [less_ne (k.ne h (fun z => by cases z) fun _ _ _ _ z => by cases z)]; exact h) (RFs.less k r a)
  | _, _, .scr h r, a => by
    unfold apart at a
    rw [Bool.and_eq_true, Bool.not_eq_true'] at a
    obtain ⟨rfl, a⟩ := a
    exact .scr (sqL_less k h) (RFs.less k r a)
  | _, _, .rng h, _ => .rng (by rw [less_ne (k.ne h (fun _ _ z => by cases z) fun _ _ _ _ z => by cases z)]; exact h)
  | _, _, .ins h c r, a => by
    unfold apart at a
    rw [Bool.and_eq_true] at a
    obtain ⟨rfl, a⟩ := a
    exact .ins (by rw [less_ne (k.ne h (fun _ _ z => by cases z) fun z => by cases z)]; exact h) c (RFf.less k r a)
  | _, _, .exc h e c, _ => .exc (by rw [less_ne (k.ne h (fun _ _ z => by cases z) fun _ _ _ _ z => by cases z)]; exact h) e c
  | _, _, .excD h e c q r, a => by
    unfold apart at a
    exact .excD (by rw [less_ne (k.ne h (fun _ _ z => by cases z) fun _ _ _ _ z => by cases z)]; exact h) e c (by rw [less_ne (k.ne q (fun _ _ z => by cases z) fun _ _ _ _ z => by cases z)]; exact q) (RFf.less k r a)
theorem RFs.less {g : Gc} {F : Hp} {p : Addr} {l : Bool} (k : KindAt F p l) : ∀ {v : List V} {d : List DV}, RFs g F v d → aparts l d = true → RFs g (DL.less F p) v d
  | _, _, .nil, _ => .nil
  | _, _, .cons h r, a => by
    unfold aparts at a
    rw [Bool.and_eq_true] at a
    exact .cons (RF.less k h a.1) (RFs.less k r a.2)
theorem RFf.less {g : Gc} {F : Hp} {p : Addr} {l : Bool} (k : KindAt F p l) : ∀ {v : List (Str × V)} {d : List (Str × DV)}, RFf g F v d → apartf l d = true → RFf g (DL.less F p) v d
  | _, _, .nil, _ => .nil
  | _, _, .cons h r, a => by
    unfold apartf at a
    rw [Bool.and_eq_true] at a
    exact .cons (RF.less k h a.1) (RFf.less k r a.2)
end
mutual
theorem RO.less {g : Gc} {F H : Hp} {p : Addr} {l : Bool} (k : KindAt F p l) : ∀ {v : V} {d : DV} {A : List Addr}, RO g F H v d A → apart l d = true → RO g (DL.less F p) H v d A
  | _, _, _, .frz h, a => .frz (RF.less k h a)
  | _, _, _, .own h r, a => .own h (ROs.less k r (by unfold apart at a; exact a))
  | _, _, _, .obj h c r, a => .obj h c (ROf.less k r (by unfold apart at a; exact a))
theorem ROs.less {g : Gc} {F H : Hp} {p : Addr} {l : Bool} (k : KindAt F p l) : ∀ {v : List V} {d : List DV} {A : List Addr}, ROs g F H v d A → aparts l d = true → ROs g (DL.less F p) H v d A
  | _, _, _, .nil, _ => .nil
  | _, _, _, .cons h r, a => by
    unfold aparts at a
    rw [Bool.and_eq_true] at a
    exact .cons (RO.less k h a.1) (ROs.less k r a.2)
theorem ROf.less {g : Gc} {F H : Hp} {p : Addr} {l : Bool} (k : KindAt F p l) : ∀ {v : List (Str × V)} {d : List (Str × DV)} {A : List Addr}, ROf g F H v d A → apartf l d = true → ROf g (DL.less F p) H v d A
  | _, _, _, .nil, _ => .nil
  | _, _, _, .cons h r, a => by
    unfold apartf at a
    rw [Bool.and_eq_true] at a
    exact .cons (RO.less k h a.1) (ROf.less k r a.2)
end
/-- what may be lent: a list of shared things (true), an instance of shared things (false) -/
def lends : DV → Option Bool
  | .own ds => if ds.all isFrz = true then some true else none
  | .obj _ fs => if fs.all (fun p => isFrz p.2) = true then some false else none
  | _ => none
theorem ROf.frz {g : Gc} {F H : Hp} : ∀ {vs : List (Str × V)} {ds : List (Str × DV)} {A : List Addr}, ROf g F H vs ds A → ds.all (fun p => isFrz p.2) = true → A = []
  | _, _, _, .nil, _ => rfl
  | _, _, _, .cons h r, e => by
    rw [List.all_cons, Bool.and_eq_true] at e
    rw [(h.frz_inv e.1).2, ROf.frz r e.2]
    rfl
theorem lends_inv {g : Gc} {F H : Hp} {v : V} {d : DV} {A : List Addr} {l : Bool} (r : RO g F H v d A) (e : lends d = some l) : ∃ p, A = [p] ∧ KindAt H p l := by
  cases d with
  | own ds =>
    cases r with
    | frz h => cases h
    | own h1 h2 =>
      have e : (if ds.all isFrz = true then some true else none) = some l := e
      by_cases z : ds.all isFrz = true
      · rw [if_pos z] at e
        cases e
        rw [(h2.frz z).2]
        exact ⟨_, rfl, _, h1⟩
      · rw [if_neg z] at e
        cases e
  | obj c fs =>
    cases r with
    | frz h => cases h
    | obj h1 h2 h3 =>
      have e : (if fs.all (fun p => isFrz p.2) = true then some false else none) = some l := e
      by_cases z : fs.all (fun p => isFrz p.2) = true
      · rw [if_pos z] at e
        cases e
        rw [h3.frz z]
        exact ⟨_, rfl, _, _, _, h1⟩
      · rw [if_neg z] at e
        cases e
  | _ => cases e
theorem KindAt.mono {F F' : Hp} {p : Addr} {l : Bool} (s : Same F F') (k : KindAt F p l) : KindAt F' p l := by
  cases l with
  | true => obtain ⟨vs, e⟩ := k; exact ⟨vs, s _ _ e⟩
  | false => obtain ⟨C, dx, fs, e⟩ := k; exact ⟨C, dx, fs, s _ _ e⟩
/-- the state with the slot lent -/
theorem SA.lend {g : Gc} {F H : Hp} {As : List Addr} {σ : L2.St} {env : Slots} {i : Nat} {d : DV} {l : Bool} (S : SA g F As σ H env) (he : env[i]? = some (some d)) (e : lends d = some l) :
    ∃ p Bs, SA g (DL.ext F H [p]) Bs σ H (env.set i (some (freeze d))) ∧ KindAt (DL.ext F H [p]) p l ∧ (∀ F' H', Ext (DL.ext F H [p]) H F' H' → Ext F H (less F' p) H') := by
  have R : RelAt g base0 F As σ H env := S.rel
  obtain ⟨v, A, B', h1, h2, h3, h4⟩ := S.sl.get he
  obtain ⟨p, rfl, kp⟩ := lends_inv h2 e
  have nF : ∀ a ∈ [p], F a = none := fun a ha => S.fx a (cpos.mpr (by have := h4 a; have := cpos.mp ha; omega))
  have np : F p = none := nF p (List.mem_singleton.mpr rfl)
  have sF : Same F (DL.ext F H [p]) := ext_same nF
  have notA : ∀ a ∈ B', a ∉ [p] := fun a hb ha => by
    have := S.nd a
    have := h4 a
    have := cpos.mp hb
    have := cpos.mp ha
    omega
  have r' := RO.freeze h2 nF
  obtain ⟨Bf, s', cnt⟩ := RE.back (i := i) (h3.mono sF (H' := H) fun _ _ => rfl) h1 (.frz r')
  have es : (env.set i none).set i (some (DL.freeze d)) = env.set i (some (DL.freeze d)) := List.set_set ..
  rw [es] at s'
  have sub' : ∀ a ∈ Bf, a ∈ B' := fun a ha => cpos.mpr (by have h1 := cnt a; have h2 := cpos.mp ha; rw [List.count_nil] at h1; omega)
  have ep : DL.ext F H [p] p = H p := ext_in (List.mem_singleton.mpr rfl)
  have kp' : KindAt (DL.ext F H [p]) p l := by
    cases l with
    | true => obtain ⟨vs, z⟩ := kp; exact ⟨vs, ep.trans z⟩
    | false => obtain ⟨C, dx, fs, z⟩ := kp; exact ⟨C, dx, fs, ep.trans z⟩
  refine ⟨p, Bf, ⟨ext_sub S.fh, s', fun a => ?_, fun a ha => ?_⟩, kp', fun F' H' x => ⟨x.hh, fun a o q => ?_, less_same.trans x.fh, fun a o q n => ?_⟩⟩
  · have h1 := cnt a
    have h2 := h4 a
    have h3 := S.nd a
    rw [List.count_nil] at h1
    omega
  · rw [ext_out (notA a (sub' a ha))]
    exact S.fx a (cpos.mpr (by have := h4 a; have := cpos.mp (sub' a ha); omega))
  · have ne : a ≠ p := fun z => by subst z; rw [np] at q; cases q
    rw [less_ne ne]
    exact x.ff a o (sF a o q)
  · have ne : a ≠ p := fun z => by subst z; rw [less_eq] at q; cases q
    rw [less_ne ne] at q
    refine x.new a o q ?_
    rw [ext_out (by simpa using ne)]
    exact n
def lendV (i : Nat) (f : Slots → R DV) : Slots → R DV := fun env => match (env[i]? : Option (Option DV)) with
  | some (some d) => (match lends d with
    | some l => (match f (env.set i (some (freeze d))) with
      | .ok r => if apart l r = true then .ok r else .stuck
      | .ex x => if apartf l x.fs = true then .ex x else .stuck
      | .stuck => .stuck)
    | none => .stuck)
  | _ => .stuck
def lendB (i : Nat) (f : Slots → R Bool) : Slots → R Bool := fun env => match (env[i]? : Option (Option DV)) with
  | some (some d) => (match lends d with
    | some l => (match f (env.set i (some (freeze d))) with
      | .ok r => .ok r
      | .ex x => if apartf l x.fs = true then .ex x else .stuck
      | .stuck => .stuck)
    | none => .stuck)
  | _ => .stuck
theorem XOk.less {g : Gc} {F : Hp} {cls : Value} {dx : Option Addr} {x : Exn} {p : Addr} {l : Bool} (k : KindAt F p l) (h : XOk g F cls dx x) (a : apartf l x.fs = true) : XOk g (DL.less F p) cls dx x := by
  obtain ⟨C, e1, e2, e3⟩ := h
  refine ⟨C, e1, e2, ?_⟩
  rcases e3 with e3 | ⟨d, fs, h1, h2, h3⟩
  · exact .inl e3
  · exact .inr ⟨d, fs, h1, by rw [less_ne (k.ne h2 (fun _ _ z => by cases z) fun _ _ _ _ z => by cases z)]; exact h2, h3.less k a⟩
section
variable {X : Cx} {Γ : Str → Option Addr} {W : WX} {e : Expr} {f : Slots → R DV} {fb : Slots → R Bool}
/-- a slot's own list, own instance is lent to e: it is owned again behind it -/
theorem de_lend (i : Nat) (h : DE X Γ W e f) : DE X Γ W e (lendV i f) := ⟨pe_imp h.pe fun σ H Q ⟨F, As, env, S, q⟩ => by
  unfold lendV at q
  cases he : env[i]? with
  | none => rw [he] at q; exact q.elim
  | some z =>
    cases z with
    | none => rw [he] at q; exact q.elim
    | some d =>
      rw [he] at q
      cases hl : lends d with
      | none => simp only [hl] at q
      | some l =>
        obtain ⟨p, Bs, S', kp, back⟩ := S.lend he hl
        refine ⟨_, Bs, _, S', ?_⟩
        simp only [hl] at q
        cases hf : f (env.set i (some (freeze d))) with
        | stuck => rw [hf] at q; exact q
        | ex x =>
          rw [hf] at q
          simp only at q
          by_cases a : apartf l x.fs = true
          · rw [if_pos a] at q
            exact fun cls dx F' H' xx o => q cls dx _ H' (back F' H' xx) (o.less (kp.mono xx.ff) a)
          · rw [if_neg a] at q
            exact q.elim
        | ok r =>
          rw [hf] at q
          simp only at q
          by_cases a : apart l r = true
          · rw [if_pos a] at q
            intro v F' H' A xx fr ro
            refine q v _ H' A (back F' H' xx) ⟨fr.nd, fun a ha => ?_, fr.nH⟩ (ro.less (kp.mono xx.ff) a)
            by_cases z : a = p
            · rw [z]; exact less_eq
            · rw [less_ne z]; exact fr.nF a ha
          · rw [if_neg a] at q
            exact q.elim⟩
theorem db_lend (i : Nat) (h : DB X Γ W e fb) : DB X Γ W e (lendB i fb) := ⟨pt_imp h.pt fun σ H Q ⟨F, As, env, S, q⟩ => by
  unfold lendB at q
  cases he : env[i]? with
  | none => rw [he] at q; exact q.elim
  | some z =>
    cases z with
    | none => rw [he] at q; exact q.elim
    | some d =>
      rw [he] at q
      cases hl : lends d with
      | none => simp only [hl] at q
      | some l =>
        obtain ⟨p, Bs, S', kp, back⟩ := S.lend he hl
        refine ⟨_, Bs, _, S', ?_⟩
        simp only [hl] at q
        cases hf : fb (env.set i (some (freeze d))) with
        | stuck => rw [hf] at q; exact q
        | ex x =>
          rw [hf] at q
          simp only at q
          by_cases a : apartf l x.fs = true
          · rw [if_pos a] at q
            exact fun cls dx F' H' xx o => q cls dx _ H' (back F' H' xx) (o.less (kp.mono xx.ff) a)
          · rw [if_neg a] at q
            exact q.elim
        | ok r =>
          rw [hf] at q
          exact fun F' H' xx => q _ H' (back F' H' xx)⟩
end

/-! ### statements that are never reached -/
def stuckS : Slots → Out := fun _ => .stuck
theorem ds_never {X : Cx} {Γ : Str → Option Addr} {W : WX} {st : Stmt} : DS X Γ W st stuckS := ⟨ps_imp ps_never fun D σ H ⟨B, F, As, env, R, q⟩ => q⟩
end DL
end
section
set_option maxHeartbeats 1000000
/-! a op b op' c op'' d -/
namespace DL
open PySem PySem.Spec L2 PyProof.Rows
def tCh4 (r1 r2 r3 : R2) (ta tb tc td : TE) : TE := fun σ H Q => ta σ H fun x H1 => tb σ H1 fun y H2 => r1 x y H2 fun u H3 => ∃ k, u = .bl k ∧ (if k = true then
  tc σ H3 fun z H4 => r2 y z H4 fun u2 H5 => ∃ k2, u2 = .bl k2 ∧ (if k2 = true then td σ H5 fun t H6 => r3 z t H6 Q else Q (.bl false) H5) else Q (.bl false) H3)
section
variable {X : Cx} {Γ : Str → Option Addr} {W : WX} {a b c d : Expr} {fa fb fc fd : Slots → R DV} {pos : Pos} {r1 r2 r3 : R2} {h1 h2 h3 : DV → DV → Option DV} {o1 o2 o3 : CmpOp} {ta tb tc td : TE}
theorem pe_ch4 (e1 : OpR X (compareOp o1) r1) (e2 : OpR X (compareOp o2) r2) (e3 : OpR X (compareOp o3) r3) (ha : PE X a ta) (hb : PE X b tb) (hc : PE X c tc) (hd : PE X d td) (hm : lastMarks [o1, o2, o3] [b, c, d] = false := by with_unfolding_all rfl) :
    PE X (.Compare a [o1, o2, o3] [b, c, d] pos) (tCh4 r1 r2 r3 ta tb tc td) := by
  refine ⟨fun pins s σ H Q I h => Compare_chain (thn (ha.run pins s σ H _ I h) fun v s1 ⟨x, H1, I1, rx, q1⟩ => chain_link (thn (hb.run pins s1 σ H1 _ I1 q1) fun u s2 ⟨y, H2, I2, ry, q2⟩ =>
    thn (e1 pins s2 σ H2 x y v u _ I2 rx ry q2) fun w s3 ⟨_, H3, I3, rw3, k, z, q3⟩ => ?_)) hm⟩
  subst z
  cases rw3
  refine wpAny_truthy_bool ?_
  cases k with
  | false => exact ite_ff ⟨.bl false, H3, I3, rfl, q3⟩
  | true =>
    refine ite_tt (chain_link (thn (hc.run pins s3 σ H3 _ I3 q3) fun u2 s4 ⟨z, H4, I4, rz, q4⟩ => thn (e2 pins s4 σ H4 y z u u2 _ I4 ry rz q4) fun w2 s5 ⟨_, H5, I5, rw5, k2, zz, q5⟩ => ?_))
    subst zz
    cases rw5
    refine wpAny_truthy_bool ?_
    cases k2 with
    | false => exact ite_ff ⟨.bl false, H5, I5, rfl, q5⟩
    | true => exact ite_tt (chain_last (thn (hd.run pins s5 σ H5 _ I5 q5) fun u3 s6 ⟨t, H6, I6, rt, q6⟩ => e3 pins s6 σ H6 z t u2 u3 Q I6 rz rt q6))
/-- a op b op' c op'' d -/
def ch4V (h1 h2 h3 : DV → DV → Option DV) (fa fb fc fd : Slots → R DV) : Slots → R DV := fun env => (fa env).bind fun x => (fb env).bind fun y => (lift (h1 x y)).bind fun u => match u with
  | .bl k => if k = true then ((fc env).bind fun z => (lift (h2 y z)).bind fun u2 => match u2 with
    | .bl k2 => if k2 = true then ((fd env).bind fun t => lift (h3 z t)) else .ok (.bl false)
    | _ => .stuck) else .ok (.bl false)
  | _ => .stuck
/-- what is asked of a value, from F, H on -/
abbrev Ask (g : Gc) (W : WX) (F H : Hp) (σ : L2.St) (Q : VK) (r : R DV) : Prop := match r with
  | .ok d => ∀ v F' H' A, Ext F H F' H' → Fresh F' H A → RO g F' H' v d A → Q v H'
  | .ex e => ∀ cls dx F' H', Ext F H F' H' → XOk g F' cls dx e → W cls dx σ H'
  | .stuck => False
theorem Ask.lift {g : Gc} {F H F1 H1 : Hp} {σ : L2.St} {Q : VK} {o : Option DV} {d : DV} (x : Ext F H F1 H1) (e : o = some d) (q : Ask g W F H σ Q (DL.lift o)) : Gv g F1 H1 d Q := by
  subst e
  exact fun v F' H' A x2 fr ro => q v F' H' A (x.trans x2) ⟨fr.nd, fr.nF, fun a ha => x.hh.free (fr.nH a ha)⟩ ro
theorem ch4_read (v1 : OpV ⟨X.K, Γ⟩ r1 h1) (v2 : OpV ⟨X.K, Γ⟩ r2 h2) (v3 : OpV ⟨X.K, Γ⟩ r3 h3) {σ : L2.St} {H : Hp} {Q : VK} (q : rdE ⟨X.K, Γ⟩ W (ch4V h1 h2 h3 fa fb fc fd) σ H Q) :
    tCh4 r1 r2 r3 (rdV ⟨X.K, Γ⟩ W fa) (rdV ⟨X.K, Γ⟩ W fb) (rdV ⟨X.K, Γ⟩ W fc) (rdV ⟨X.K, Γ⟩ W fd) σ H Q := by
  obtain ⟨F, As, env, S, q⟩ := q
  have q : Ask ⟨X.K, Γ⟩ W F H σ Q (ch4V h1 h2 h3 fa fb fc fd env) := q
  refine ⟨F, As, env, S, ?_⟩
  unfold ch4V at q
  cases ea : fa env with
  | stuck => rw [ea] at q; exact q
  | ex x => rw [ea] at q; exact q
  | ok dx =>
    rw [ea] at q
    intro x F1 H1 A1 x1 rx
    refine ⟨F1, As, env, S.ext x1, ?_⟩
    simp only [R.bind] at q
    cases eb : fb env with
    | stuck => rw [eb] at q; exact q.elim
    | ex x => rw [eb] at q; exact fun cls dx F' H' x2 o => q cls dx F' H' (x1.trans x2) o
    | ok dy =>
      rw [eb] at q
      intro y F2 H2 A2 x2 ry
      simp only at q
      cases e1 : h1 dx dy with
      | none => rw [e1] at q; exact q.elim
      | some d1 =>
        rw [e1] at q
        refine v1 x2.fh (rx.ext x2) ry e1 fun v F3 H3 A3 x3 fr3 ro3 => ?_
        simp only [DL.lift] at q
        cases d1 with
        | bl k =>
          cases ro3.bl_inv
          refine ⟨k, rfl, ?_⟩
          have x13 := (x1.trans x2).trans x3
          cases k with
          | false =>
            simp only [Bool.false_eq_true, if_false] at q ⊢
            exact q (.bl false) F3 H3 [] x13 .nil (.frz (.bl false))
          | true =>
            simp only [if_true] at q ⊢
            refine ⟨F3, As, env, S.ext x13, ?_⟩
            cases ec : fc env with
            | stuck => rw [ec] at q; exact q
            | ex x => rw [ec] at q; exact fun cls dx F' H' x4 o => q cls dx F' H' (x13.trans x4) o
            | ok dz =>
              rw [ec] at q
              simp only at q
              intro z F4 H4 A4 x4 rz
              cases e2 : h2 dy dz with
              | none => rw [e2] at q; exact q.elim
              | some d2 =>
                rw [e2] at q
                refine v2 x4.fh ((ry.ext x3).ext x4) rz e2 fun v F5 H5 A5 x5 fr5 ro5 => ?_
                simp only at q
                cases d2 with
                | bl k2 =>
                  cases ro5.bl_inv
                  refine ⟨k2, rfl, ?_⟩
                  have x15 := (x13.trans x4).trans x5
                  cases k2 with
                  | false =>
                    simp only [Bool.false_eq_true, if_false] at q ⊢
                    exact q (.bl false) F5 H5 [] x15 .nil (.frz (.bl false))
                  | true =>
                    simp only [if_true] at q ⊢
                    refine ⟨F5, As, env, S.ext x15, ?_⟩
                    cases ed : fd env with
                    | stuck => rw [ed] at q; exact q
                    | ex x => rw [ed] at q; exact fun cls dx F' H' x6 o => q cls dx F' H' (x15.trans x6) o
                    | ok dt =>
                      rw [ed] at q
                      simp only at q
                      intro t F6 H6 A6 x6 rt
                      cases e3 : h3 dz dt with
                      | none => rw [e3] at q; exact q.elim
                      | some d3 =>
                        rw [e3] at q
                        exact v3 x6.fh ((rz.ext x5).ext x6) rt e3 fun v F' H' A x7 fr ro => q v F' H' A ((x15.trans x6).trans x7) ⟨fr.nd, fr.nF, fun a ha => (x15.trans x6).hh.free (fr.nH a ha)⟩ ro
                | _ => exact q.elim
        | _ => exact q.elim
theorem de_chain4 (e1 : OpR X (compareOp o1) r1) (v1 : OpV ⟨X.K, Γ⟩ r1 h1) (e2 : OpR X (compareOp o2) r2) (v2 : OpV ⟨X.K, Γ⟩ r2 h2) (e3 : OpR X (compareOp o3) r3) (v3 : OpV ⟨X.K, Γ⟩ r3 h3)
    (ha : DT X Γ W a fa) (hb : DT X Γ W b fb) (hc : DT X Γ W c fc) (hd : DT X Γ W d fd) (hm : lastMarks [o1, o2, o3] [b, c, d] = false := by with_unfolding_all rfl) :
    DE X Γ W (.Compare a [o1, o2, o3] [b, c, d] pos) (ch4V h1 h2 h3 fa fb fc fd) := ⟨pe_imp (pe_ch4 e1 e2 e3 ha.pe hb.pe hc.pe hd.pe hm) fun σ H Q q => ch4_read v1 v2 v3 q⟩
theorem ov_le : OpV ⟨X.K, Γ⟩ (rI0 fun i j => .bl (decide (i ≤ j))) leD := ov_int0 fun _ _ _ _ => .bl _
end
end DL
end
section
set_option maxHeartbeats 1000000
/-! shared on the spot; o.m(); ranges as values -/
namespace DL
open PySem PySem.Spec L2 PyProof.Rows
/-- what e gives is shared from here on -/
def shr (f : Slots → R DV) : Slots → R DV := fun env => (f env).bind fun d => .ok (freeze d)
section
variable {X : Cx} {Γ : Str → Option Addr} {W : WX} {e o : Expr} {f fo : Slots → R DV} {pos apos p : Pos} {k j : Nat} {h : List DV → R DV} {c m : Str} {ps : List Str}
theorem de_shr (h : DE X Γ W e f) : DE X Γ W e (shr f) := ⟨pe_imp h.pe fun σ H Q ⟨F, As, env, S, q⟩ => by
  refine ⟨F, As, env, S, ?_⟩
  unfold shr at q
  cases hf : f env with
  | stuck => rw [hf] at q; exact q
  | ex x => rw [hf] at q; exact q
  | ok d =>
    rw [hf] at q
    exact fun v F' H' A x fr r => q v _ H' [] (frz_ext x fr) .nil (.frz (RO.freeze r fr.nF))⟩
/-- o.m() -/
theorem de_methN0 {pl : Sem Bool} (kx : Kx false X W (L2.CX X.prog X.w) k) (D : MDef false X.prog X.w X.K X.mg X.base (L2.CX X.prog X.w) Γ c m j ps h) (hj : j ≤ k) (ho : DE X Γ W o fo)
    (ht : eval (.Call (.Attribute o m apos) [] [] pos) X.env = (do
      let ov ← eval o X.env
      standAt apos.atName
      let (f, first) ← holding [ov] (getMethod ov m pl)
      callWith pos f first (backTo pos (starEach [] X.env)) (backToKw pos (keywordEach [] X.env))) := by rfl) :
    DE X Γ W (.Call (.Attribute o m apos) [] [] pos) (methV c m h [] fo fun _ => .ok []) := by
  obtain ⟨C, f, fd, hC, hc, hm, _, Fn, hbn⟩ := D.ex
  exact de_meth0 ho hC hc hm Fn.ok (kx.room hj) hbn .nil (fun _ => .nil) kx.hx ht
end
end DL
end
section
set_option maxHeartbeats 0
namespace K23
open PySem PySem.Spec L2 PyProof.Rows DL
abbrev top (i : Nat) : Stmt := PySem.Challenge.pw_cutsagainst_k23_distance_bounds_judged_e.main.body.getD i (.Pass ⟨0, 0, 0, 0⟩)
abbrev cbody (st : Stmt) : List Stmt := match st with
  | .ClassDef _ _ _ b _ _ _ _ _ _ _ => b
  | _ => []
abbrev cls : List Str := ["Ratio", "Net"]
def ans_Ratio : DV → Option Bool := ansT [("NoneType", false), ("bool", false), ("int", false), ("str", false), ("tuple", false), ("list", false)] [("Ratio", true), ("Net", false)] []
def ans_bool : DV → Option Bool := ansT [("NoneType", false), ("bool", true), ("int", false), ("str", false), ("tuple", false), ("list", false)] [("Ratio", false), ("Net", false)] []
def ans_int : DV → Option Bool := ansT [("NoneType", false), ("bool", true), ("int", true), ("str", false), ("tuple", false), ("list", false)] [("Ratio", false), ("Net", false)] []
def ans_str : DV → Option Bool := ansT [("NoneType", false), ("bool", false), ("int", false), ("str", true), ("tuple", false), ("list", false)] [("Ratio", false), ("Net", false)] []
def ans_tuple : DV → Option Bool := ansT [("NoneType", false), ("bool", false), ("int", false), ("str", false), ("tuple", true), ("list", false)] [("Ratio", false), ("Net", false)] []
def cs_arrows : Str → Bool := fun c => List.contains (["Net"] : List Str) c
def ce_arrows : Str → Bool := fun c => List.contains ([] : List Str) c
def cs_caps : Str → Bool := fun c => List.contains (["Net"] : List Str) c
def ce_caps : Str → Bool := fun c => List.contains ([] : List Str) c
def cs_chances : Str → Bool := fun c => List.contains (["Net"] : List Str) c
def ce_chances : Str → Bool := fun c => List.contains ([] : List Str) c
def cs_d : Str → Bool := fun c => List.contains (["Ratio"] : List Str) c
def ce_d : Str → Bool := fun c => List.contains ([] : List Str) c
def cs_heads : Str → Bool := fun c => List.contains (["Net"] : List Str) c
def ce_heads : Str → Bool := fun c => List.contains ([] : List Str) c
def cs_lengths : Str → Bool := fun c => List.contains (["Net"] : List Str) c
def ce_lengths : Str → Bool := fun c => List.contains ([] : List Str) c
def cs_n : Str → Bool := fun c => List.contains (["Ratio"] : List Str) c
def ce_n : Str → Bool := fun c => List.contains ([] : List Str) c
def cs_names : Str → Bool := fun c => List.contains (["Net"] : List Str) c
def ce_names : Str → Bool := fun c => List.contains ([] : List Str) c
def cs_places : Str → Bool := fun c => List.contains (["Net"] : List Str) c
def ce_places : Str → Bool := fun c => List.contains ([] : List Str) c
def cs_prices : Str → Bool := fun c => List.contains (["Net"] : List Str) c
def ce_prices : Str → Bool := fun c => List.contains ([] : List Str) c
def cs_rooms : Str → Bool := fun c => List.contains (["Net"] : List Str) c
def ce_rooms : Str → Bool := fun c => List.contains ([] : List Str) c
def cs_tails : Str → Bool := fun c => List.contains (["Net"] : List Str) c
def ce_tails : Str → Bool := fun c => List.contains ([] : List Str) c
def cc_FINEST : Str → Bool := fun c => List.contains (["Net"] : List Str) c
def cc_LARGEST : Str → Bool := fun c => List.contains (["Net"] : List Str) c
def cc_MOST_ARROWS : Str → Bool := fun c => List.contains (["Net"] : List Str) c
def cc_MOST_PLACES : Str → Bool := fun c => List.contains (["Net"] : List Str) c
def N_is_whole : List Str := ["value"]
def G_is_whole : Slots → Out := (retS (andV (isiV ans_int (var 0)) (notV (isiV ans_bool (var 0)))))
def h_is_whole : List DV → R DV := fnR 1 0 G_is_whole
def N_is_number : List Str := ["value"]
def G_is_number : Slots → Out := (retS (andV (callV h_is_whole [] (consL (fz (var 0)) nilL)) (op2 geD (var 0) (cst (.int 0)))))
def h_is_number : List DV → R DV := fnR 1 0 G_is_number
def N_is_row : List Str := ["value", "size"]
def G_is_row : Slots → Out := (retS (andV (isiV ans_tuple (var 0)) (op2 eqD (opN (one lenD) (consL (var 0) nilL)) (var 1))))
def h_is_row : List DV → R DV := fnR 2 0 G_is_row
def N_is_wholes : List Str := ["value", "size", "part"]
def G_is_wholes : Slots → Out := (seqS (ifS (notB (tru (callV h_is_row [] (consL (fz (var 0)) (consL (fz (var 1)) nilL))))) (retS (cst (.bl false))) nxS)
      (seqS (forS (itS (fz (var 0))) (nameG 2) (ifS (notB (tru (callV h_is_whole [] (consL (fz (var 2)) nilL)))) (retS (cst (.bl false))) nxS))
      (retS (cst (.bl true)))))
def h_is_wholes : List DV → R DV := fnR 2 1 G_is_wholes
def N_is_lot : List Str := ["value", "size", "least", "part"]
def G_is_lot : Slots → Out := (seqS (ifS (notB (tru (isiV ans_tuple (var 0)))) (retS (cst (.bl false))) nxS)
      (seqS (setF 2 (cst (.int 0)))
      (seqS (forS (itS (fz (var 0))) (nameG 3) (seqS (ifS (orB (notB (tru (callV h_is_whole [] (consL (fz (var 3)) nilL)))) (orB (tst (op2 ltD (var 3) (var 2))) (tst (op2 geD (var 3) (var 1))))) (retS (cst (.bl false))) nxS)
      (setF 2 (op2 addD (var 3) (cst (.int 1))))))
      (retS (cst (.bl true))))))
def h_is_lot : List DV → R DV := fnR 2 2 G_is_lot
def N_has_word : List Str := ["value", "word"]
def G_has_word : Slots → Out := (retS (andV (callV h_is_row [] (consL (fz (var 0)) (consL (cst (.int 2)) nilL))) (andV (isiV ans_str (op2 ixD (var 0) (cst (.int 0)))) (op2 eqD (op2 ixD (var 0) (cst (.int 0))) (var 1)))))
def h_has_word : List DV → R DV := fnR 2 0 G_has_word
def N_Ratio_init : List Str := ["self", "n", "d", "shared"]
def G_Ratio_init : Slots → Out := (seqS (ifS (tst (op2 eqD (var 2) (cst (.int 0)))) stuckS nxS)
      (seqS (setF 3 (opN (two gcdD) (consL (var 1) (consL (var 2) nilL))))
      (seqS (ifS (tst (op2 ltD (var 2) (cst (.int 0)))) (setF 3 (negV (var 3))) nxS)
      (seqS (fldS "n" cs_n 0 lId (op2 divD (var 1) (var 3)))
      (fldS "d" cs_d 0 lId (op2 divD (var 2) (var 3)))))))
def h_Ratio_init : List (Str × DV) → List DV → RS := fnS "Ratio" 3 1 G_Ratio_init
def dd_Ratio1 : List DV := [.int 1]
def dd_Ratio2 : List DV := []
def N_has_only : List Str := ["text", "signs", "sign"]
def G_has_only : Slots → Out := (seqS (forS (itS (fz (var 0))) (nameG 2) (ifS (tst (op2 niD (var 2) (var 1))) (retS (cst (.bl false))) nxS))
      (retS (op2 neD (var 0) (cst (.str "")))))
def h_has_only : List DV → R DV := fnR 2 1 G_has_only
def N_is_name : List Str := ["text"]
def G_is_name : Slots → Out := (retS (andV (chV leD leD (cst (.int 1)) (opN (one lenD) (consL (var 0) nilL)) (cst (.int 8))) (andV (op2 inD (op2 ixD (var 0) (cst (.int 0))) (cst (.str "abcdefghijklmnopqrstuvwxyz"))) (callV h_has_only [] (consL (fz (var 0)) (consL (op2 addD (cst (.str "abcdefghijklmnopqrstuvwxyz")) (cst (.str "0123456789"))) nilL))))))
def h_is_name : List DV → R DV := fnR 1 0 G_is_name
def N_is_chance : List Str := ["value", "finest"]
def G_is_chance : Slots → Out := (retS (andV (isiV ans_Ratio (var 0)) (ch4V leD leD leD (cst (.int 0)) (fldV "n" cs_n ce_n (var 0)) (fldV "d" cs_d ce_d (var 0)) (var 1))))
def h_is_chance : List DV → R DV := fnR 2 0 G_is_chance
def N_Net_is_arrow : List Str := ["self", "row", "ends", "part"]
def G_Net_is_arrow : Slots → Out := (seqS (setF 2 (opN (one rng1D) (consL (opN (one lenD) (consL (fldV "places" cs_places ce_places (var 0)) nilL)) nilL)))
      (seqS (ifS (orB (notB (tru (callV h_is_name [] (consL (fz (op2 ixD (var 1) (cst (.int 0)))) nilL)))) (orB (tst (op2 niD (op2 ixD (var 1) (cst (.int 1))) (var 2))) (orB (tst (op2 niD (op2 ixD (var 1) (cst (.int 2))) (var 2))) (tst (op2 eqD (op2 ixD (var 1) (cst (.int 1))) (op2 ixD (var 1) (cst (.int 2)))))))) (retS (cst (.bl false))) nxS)
      (seqS (forS (itS (slV (var 1) (part (cst (.int 3))) (part (cst (.int 7))))) (nameG 3) (ifS (orB (notB (tru (callV h_is_number [] (consL (fz (var 3)) nilL)))) (tst (op2 gtD (var 3) (conV "LARGEST" cc_LARGEST (.int 99999999999999999999) (var 0))))) (retS (cst (.bl false))) nxS))
      (retS (callV h_is_chance [] (consL (fz (op2 ixD (var 1) (cst (.int 7)))) (consL (conV "FINEST" cc_FINEST (.int 1000) (var 0)) nilL)))))))
def h_Net_is_arrow : List DV → R DV := fnR 2 2 G_Net_is_arrow
def N_Net_check_places : List Str := ["self", "at", "name"]
def G_Net_check_places : Slots → Out := (seqS (ifS (notB (tru (fldV "places" cs_places ce_places (var 0)))) stuckS nxS)
      (forS (enS (fldV "places" cs_places ce_places (var 0))) (tupG 2 (consG (nameG 1) (consG (nameG 2) nilG))) (ifS (orB (notB (tru (callV h_is_name [] (consL (fz (var 2)) nilL)))) (tst (op2 inD (var 2) (slV (fldV "places" cs_places ce_places (var 0)) noPart (part (var 1)))))) stuckS nxS)))
def h_Net_check_places : List DV → R DV := fnR 1 2 G_Net_check_places
def N_Net_check_arrows : List Str := ["self", "names", "at", "row"]
def G_Net_check_arrows : Slots → Out := (seqS (setS 1 (lstV nilL))
      (forS (enS (fldV "arrows" cs_arrows ce_arrows (var 0))) (tupG 2 (consG (nameG 2) (consG (nameG 3) nilG))) (seqS (ifS (orB (notB (tru (methV "Net" "is_arrow" h_Net_is_arrow [] (fz (var 0)) (consL (fz (var 3)) nilL)))) (tst (op2 inD (op2 ixD (var 3) (cst (.int 0))) (var 1)))) stuckS nxS)
      (appS 1 lId (fz (op2 ixD (var 3) (cst (.int 0))))))))
def h_Net_check_arrows : List DV → R DV := fnR 1 3 G_Net_check_arrows
def N_Net_init : List Str := ["self", "places", "arrows", "row"]
def G_Net_init : Slots → Out := (seqS (ifS (tst (op2 gtD (opN (one lenD) (consL (var 1) nilL)) (conV "MOST_PLACES" cc_MOST_PLACES (.int 20) (var 0)))) stuckS nxS)
      (seqS (ifS (tst (op2 gtD (opN (one lenD) (consL (var 2) nilL)) (conV "MOST_ARROWS" cc_MOST_ARROWS (.int 32) (var 0)))) stuckS nxS)
      (seqS (fldS "places" cs_places 0 lId (opN (one tupD) (consL (var 1) nilL)))
      (seqS (fldS "arrows" cs_arrows 0 lId (opN (one tupD) (consL (lcV [3] (itS (fz (var 2))) (nameG 3) yesT (opN (one tupD) (consL (var 3) nilL))) nilL)))
      (seqS (dropS (lendV 0 (methV "Net" "check_places" h_Net_check_places [] (fz (var 0)) fun _ => .ok [])))
      (seqS (dropS (lendV 0 (methV "Net" "check_arrows" h_Net_check_arrows [] (fz (var 0)) fun _ => .ok [])))
      (seqS (fldS "names" cs_names 0 lId (opN (one tupD) (consL (lcV [3] (itS (fz (fldV "arrows" cs_arrows ce_arrows (var 0)))) (nameG 3) yesT (fz (op2 ixD (var 3) (cst (.int 0))))) nilL)))
      (seqS (fldS "tails" cs_tails 0 lId (opN (one tupD) (consL (lcV [3] (itS (fz (fldV "arrows" cs_arrows ce_arrows (var 0)))) (nameG 3) yesT (fz (op2 ixD (var 3) (cst (.int 1))))) nilL)))
      (seqS (fldS "heads" cs_heads 0 lId (opN (one tupD) (consL (lcV [3] (itS (fz (fldV "arrows" cs_arrows ce_arrows (var 0)))) (nameG 3) yesT (fz (op2 ixD (var 3) (cst (.int 2))))) nilL)))
      (seqS (fldS "lengths" cs_lengths 0 lId (opN (one tupD) (consL (lcV [3] (itS (fz (fldV "arrows" cs_arrows ce_arrows (var 0)))) (nameG 3) yesT (fz (op2 ixD (var 3) (cst (.int 3))))) nilL)))
      (seqS (fldS "caps" cs_caps 0 lId (opN (one tupD) (consL (lcV [3] (itS (fz (fldV "arrows" cs_arrows ce_arrows (var 0)))) (nameG 3) yesT (fz (op2 ixD (var 3) (cst (.int 4))))) nilL)))
      (seqS (fldS "prices" cs_prices 0 lId (opN (one tupD) (consL (lcV [3] (itS (fz (fldV "arrows" cs_arrows ce_arrows (var 0)))) (nameG 3) yesT (fz (op2 ixD (var 3) (cst (.int 5))))) nilL)))
      (seqS (fldS "rooms" cs_rooms 0 lId (opN (one tupD) (consL (lcV [3] (itS (fz (fldV "arrows" cs_arrows ce_arrows (var 0)))) (nameG 3) yesT (fz (op2 ixD (var 3) (cst (.int 6))))) nilL)))
      (fldS "chances" cs_chances 0 lId (opN (one tupD) (consL (lcV [3] (itS (fz (fldV "arrows" cs_arrows ce_arrows (var 0)))) (nameG 3) yesT (fz (op2 ixD (var 3) (cst (.int 7))))) nilL))))))))))))))))
def h_Net_init : List (Str × DV) → List DV → RS := fnS "Net" 3 1 G_Net_init
def dd_Net2 : List DV := []
def N_Net_left : List Str := ["self", "cut", "arrow"]
def G_Net_left : Slots → Out := (retS (opN (one tupD) (consL (lcV [2] (rgS1 (opN (one lenD) (consL (fldV "arrows" cs_arrows ce_arrows (var 0)) nilL))) (nameG 2) (tst (op2 niD (var 2) (var 1))) (fz (var 2))) nilL)))
def h_Net_left : List DV → R DV := fnR 2 1 G_Net_left
def N_shows_heights : List Str := ["net", "lengths", "start", "goal", "cut", "value", "worth", "arrow"]
def G_shows_heights : Slots → Out := (seqS (ifS (orB (notB (tru (callV h_is_wholes [] (consL (fz (var 5)) (consL (opN (one lenD) (consL (fldV "places" cs_places ce_places (var 0)) nilL)) nilL))))) (orB (tst (op2 neD (op2 ixD (var 5) (var 2)) (cst (.int 0)))) (tst (op2 neD (op2 ixD (var 5) (var 3)) (var 6))))) (retS (cst (.bl false))) nxS)
      (seqS (forS (itS (methV "Net" "left" h_Net_left [] (fz (var 0)) (consL (fz (var 4)) nilL))) (nameG 7) (ifS (tst (op2 gtD (op2 ixD (var 5) (op2 ixD (fldV "heads" cs_heads ce_heads (var 0)) (var 7))) (op2 addD (op2 ixD (var 5) (op2 ixD (fldV "tails" cs_tails ce_tails (var 0)) (var 7))) (op2 ixD (var 1) (var 7))))) (retS (cst (.bl false))) nxS))
      (retS (cst (.bl true)))))
def h_shows_heights : List DV → R DV := fnR 7 1 G_shows_heights
def N_shows_closed : List Str := ["net", "start", "goal", "cut", "value", "arrow"]
def G_shows_closed : Slots → Out := (seqS (ifS (orB (notB (tru (callV h_is_lot [] (consL (fz (var 4)) (consL (opN (one lenD) (consL (fldV "places" cs_places ce_places (var 0)) nilL)) nilL))))) (orB (tst (op2 niD (var 1) (var 4))) (tst (op2 inD (var 2) (var 4))))) (retS (cst (.bl false))) nxS)
      (seqS (forS (itS (methV "Net" "left" h_Net_left [] (fz (var 0)) (consL (fz (var 3)) nilL))) (nameG 5) (ifS (andB (tst (op2 inD (op2 ixD (fldV "tails" cs_tails ce_tails (var 0)) (var 5)) (var 4))) (tst (op2 niD (op2 ixD (fldV "heads" cs_heads ce_heads (var 0)) (var 5)) (var 4)))) (retS (cst (.bl false))) nxS))
      (retS (cst (.bl true)))))
def h_shows_closed : List DV → R DV := fnR 5 1 G_shows_closed
def N_shows_distance : List Str := ["net", "lengths", "start", "goal", "cut", "bound", "worth"]
def G_shows_distance : Slots → Out := (seqS (ifS (tst (op2 isD (var 6) (cst .non))) (retS (andV (callV h_has_word [] (consL (fz (var 5)) (consL (cst (.str "closed")) nilL))) (callV h_shows_closed [] (consL (fz (var 0)) (consL (fz (var 2)) (consL (fz (var 3)) (consL (fz (var 4)) (consL (fz (op2 ixD (var 5) (cst (.int 1)))) nilL)))))))) nxS)
      (retS (andV (callV h_has_word [] (consL (fz (var 5)) (consL (cst (.str "heights")) nilL))) (callV h_shows_heights [] (consL (fz (var 0)) (consL (fz (var 1)) (consL (fz (var 2)) (consL (fz (var 3)) (consL (fz (var 4)) (consL (fz (op2 ixD (var 5) (cst (.int 1)))) (consL (fz (var 6)) nilL)))))))))))
def h_shows_distance : List DV → R DV := fnR 7 0 G_shows_distance
def N__law_cell : List Str := ["script", "k"]
def G__law_cell : Slots → Out := (seqS (ifS (tst (op2 ltD (var 1) (opN (one lenD) (consL (var 0) nilL)))) (retS (fz (op2 ixD (var 0) (var 1)))) nxS)
      (seqS (ifS (tst (op2 eqD (opN (one lenD) (consL (var 0) nilL)) (cst (.int 0)))) (retS (cst (.int 0))) nxS)
      (retS (op2 modD (opN (one intD1) (consL (op2 ixD (var 0) (op2 modD (opN (one intD1) (consL (var 1) nilL)) (opN (one lenD) (consL (var 0) nilL)))) nilL)) (cst (.int 999983))))))
def h__law_cell : List DV → R DV := fnR 2 0 G__law_cell
def N__law_mixed : List Str := ["cell", "k", "first", "second"]
def G__law_mixed : Slots → Out := (seqS (setF 2 (op2 modD (op2 addD (op2 addD (op2 mulD (op2 modD (opN (one intD1) (consL (var 0) nilL)) (cst (.int 1000003))) (cst (.int 48271))) (op2 mulD (var 1) (cst (.int 69621)))) (cst (.int 11))) (cst (.int 2147483647))))
      (seqS (setF 3 (op2 modD (op2 addD (op2 addD (op2 mulD (var 2) (cst (.int 16807))) (op2 mulD (op2 mulD (var 1) (var 1)) (cst (.int 31)))) (op2 modD (opN (one intD1) (consL (var 0) nilL)) (cst (.int 8191)))) (cst (.int 2147483647))))
      (retS (op2 modD (op2 addD (op2 mulD (var 3) (cst (.int 69621))) (var 2)) (cst (.int 2147483629))))))
def h__law_mixed : List DV → R DV := fnR 2 2 G__law_mixed
def N__law_draws : List Str := ["script", "at", "many", "cell", "salted", "row", "left", "k"]
def G__law_draws : Slots → Out := (seqS (setF 3 (callV h__law_cell [] (consL (fz (var 0)) (consL (fz (var 1)) nilL))))
      (seqS (setF 4 (op2 addD (var 3) (op2 mulD (var 1) (cst (.int 7919)))))
      (seqS (setS 5 (lstV nilL))
      (seqS (setF 6 (opN (one absD) (consL (var 3) nilL)))
      (seqS (forS (rgS1 (var 2)) (nameG 7) (ifS (andB (tst (op2 geD (opN (one absD) (consL (var 3) nilL)) (op2 powD (cst (.int 10)) (cst (.int 18))))) (tst (op2 gtD (var 6) (cst (.int 0))))) (seqS (appS 5 lId (op2 modD (opN (one intD1) (consL (var 6) nilL)) (op2 powD (cst (.int 10)) (cst (.int 24)))))
      (setF 6 (op2 divD (var 6) (op2 powD (cst (.int 10)) (cst (.int 24)))))) (appS 5 lId (op2 addD (op2 mulD (op2 mulD (callV h__law_mixed [] (consL (fz (var 4)) (consL (fz (var 7)) nilL))) (cst (.int 2147483647))) (cst (.int 65536))) (callV h__law_mixed [] (consL (fz (var 4)) (consL (op2 addD (var 7) (cst (.int 70))) nilL)))))))
      (retM 5))))))
def h__law_draws : List DV → R DV := fnR 3 5 G__law_draws
def N__law_number : List Str := ["draw", "form", "left"]
def G__law_number : Slots → Out := (seqS (setF 2 (opN (one intD1) (consL (var 0) nilL)))
      (seqS (ifS (tst (op2 eqD (var 1) (cst (.int 0)))) (retS (op2 modD (var 2) (cst (.int 2)))) nxS)
      (seqS (ifS (tst (op2 eqD (var 1) (cst (.int 1)))) (retS (op2 modD (var 2) (cst (.int 4)))) nxS)
      (seqS (ifS (tst (op2 eqD (var 1) (cst (.int 2)))) (retS (op2 modD (var 2) (cst (.int 10)))) nxS)
      (seqS (ifS (tst (op2 eqD (var 1) (cst (.int 3)))) (retS (op2 modD (var 2) (cst (.int 1000)))) nxS)
      (seqS (ifS (tst (op2 eqD (var 1) (cst (.int 4)))) (retS (op2 modD (var 2) (op2 powD (cst (.int 10)) (cst (.int 20))))) nxS)
      (retS (fz (op2 ixD (lstV (consL (cst (.int 1)) (consL (cst (.int 1)) (consL (cst (.int 2)) (consL (cst (.int 2)) (consL (cst (.int 3)) (consL (cst (.int 10)) (consL (op2 subD (op2 powD (cst (.int 10)) (cst (.int 20))) (cst (.int 1))) (consL (cst (.int 0)) nilL))))))))) (op2 modD (var 2) (cst (.int 8))))))))))))
def h__law_number : List DV → R DV := fnR 2 1 G__law_number
def N__law_rows : List Str := ["script", "first", "many", "wide", "start", "goal", "head", "rows", "chain", "k", "draws", "tail", "front", "twin", "numbers", "bottom", "top", "part"]
def G__law_rows : Slots → Out := (seqS (setF 6 (callV h__law_draws [] (consL (fz (var 0)) (consL (fz (var 1)) (consL (cst (.int 6)) nilL)))))
      (seqS (setS 7 (lstV nilL))
      (seqS (setF 8 (op2 modD (opN (one intD1) (consL (op2 subD (var 5) (var 4)) nilL)) (var 2)))
      (seqS (forS (rgS1 (var 3)) (nameG 9) (seqS (setF 10 (callV h__law_draws [] (consL (fz (var 0)) (consL (op2 addD (op2 addD (var 1) (cst (.int 1))) (var 9)) (consL (cst (.int 6)) nilL)))))
      (seqS (setF 11 (op2 modD (opN (one intD1) (consL (op2 ixD (var 10) (cst (.int 0))) nilL)) (var 2)))
      (seqS (setF 12 (op2 modD (op2 addD (op2 addD (var 11) (cst (.int 1))) (op2 modD (op2 divD (opN (one intD1) (consL (op2 ixD (var 10) (cst (.int 0))) nilL)) (var 2)) (op2 subD (var 2) (cst (.int 1))))) (var 2)))
      (seqS (setF 13 (op2 modD (op2 divD (opN (one intD1) (consL (op2 ixD (var 10) (cst (.int 0))) nilL)) (cst (.int 400))) (cst (.int 5))))
      (seqS (ifS (andB (tst (op2 ltD (var 9) (var 8))) (tst (op2 gtD (op2 modD (opN (one intD1) (consL (op2 ixD (var 6) (cst (.int 0))) nilL)) (cst (.int 3))) (cst (.int 0))))) (seqS (setF 11 (op2 modD (opN (one intD1) (consL (op2 addD (var 4) (var 9)) nilL)) (var 2)))
      (setF 12 (op2 modD (opN (one intD1) (consL (op2 addD (op2 addD (var 4) (var 9)) (cst (.int 1))) nilL)) (var 2)))) (ifS (andB (tst (op2 eqD (var 13) (cst (.int 1)))) (tst (op2 gtD (var 9) (cst (.int 0))))) (parS 11 12 (consL (fz (op2 ixD (op2 ixD (var 7) (op2 subD (var 9) (cst (.int 1)))) (cst (.int 0)))) (consL (fz (op2 ixD (op2 ixD (var 7) (op2 subD (var 9) (cst (.int 1)))) (cst (.int 1)))) nilL))) (ifS (andB (tst (op2 eqD (var 13) (cst (.int 2)))) (tst (op2 gtD (var 9) (cst (.int 1))))) (parS 11 12 (consL (fz (op2 ixD (op2 ixD (var 7) (op2 divD (var 9) (cst (.int 2)))) (cst (.int 0)))) (consL (fz (op2 ixD (op2 ixD (var 7) (op2 divD (var 9) (cst (.int 2)))) (cst (.int 1)))) nilL))) (ifS (andB (tst (op2 eqD (var 13) (cst (.int 3)))) (tst (op2 gtD (var 9) (cst (.int 0))))) (parS 11 12 (consL (fz (op2 ixD (op2 ixD (var 7) (op2 subD (var 9) (cst (.int 1)))) (cst (.int 1)))) (consL (fz (op2 ixD (op2 ixD (var 7) (op2 subD (var 9) (cst (.int 1)))) (cst (.int 0)))) nilL))) nxS))))
      (seqS (setF 14 (lcV [17] (rgS1 (cst (.int 4))) (nameG 17) yesT (callV h__law_number [] (consL (fz (op2 ixD (var 10) (op2 addD (cst (.int 1)) (var 17)))) (consL (op2 modD (opN (one intD1) (consL (op2 ixD (var 6) (op2 addD (cst (.int 1)) (var 17))) nilL)) (cst (.int 6))) nilL)))))
      (seqS (ifS (andB (tst (op2 eqD (op2 modD (opN (one intD1) (consL (op2 ixD (var 10) (cst (.int 5))) nilL)) (cst (.int 6))) (cst (.int 1)))) (tst (op2 gtD (var 9) (cst (.int 0))))) (setF 14 (lstV (consL (fz (op2 ixD (op2 ixD (var 7) (op2 subD (var 9) (cst (.int 1)))) (cst (.int 2)))) (consL (fz (op2 ixD (op2 ixD (var 7) (op2 subD (var 9) (cst (.int 1)))) (cst (.int 3)))) (consL (fz (op2 ixD (op2 ixD (var 7) (op2 subD (var 9) (cst (.int 1)))) (cst (.int 4)))) (consL (fz (op2 ixD (op2 ixD (var 7) (op2 subD (var 9) (cst (.int 1)))) (cst (.int 5)))) nilL)))))) nxS)
      (seqS (setF 15 (fz (op2 ixD (lstV (consL (cst (.int 1)) (consL (cst (.int 2)) (consL (cst (.int 2)) (consL (cst (.int 3)) (consL (cst (.int 5)) (consL (cst (.int 1000)) nilL))))))) (op2 modD (op2 divD (opN (one intD1) (consL (op2 ixD (var 10) (cst (.int 5))) nilL)) (cst (.int 6))) (cst (.int 6))))))
      (seqS (setF 16 (op2 modD (op2 divD (opN (one intD1) (consL (op2 ixD (var 10) (cst (.int 5))) nilL)) (cst (.int 36))) (op2 addD (var 15) (cst (.int 1)))))
      (appS 7 lId (tupV (consL (fz (var 11)) (consL (fz (var 12)) (consL (fz (op2 ixD (var 14) (cst (.int 0)))) (consL (fz (op2 ixD (var 14) (cst (.int 1)))) (consL (fz (op2 ixD (var 14) (cst (.int 2)))) (consL (fz (op2 ixD (var 14) (cst (.int 3)))) (consL (fz (var 16)) (consL (fz (var 15)) nilL))))))))))))))))))))
      (retM 7)))))
def h__law_rows : List DV → R DV := fnR 6 12 G__law_rows
def N__law_net : List Str := ["many", "rows", "arrows", "k", "row"]
def G__law_net : Slots → Out := (seqS (setS 2 (lstV nilL))
      (seqS (forS (rgS1 (opN (one lenD) (consL (var 1) nilL))) (nameG 3) (seqS (setF 4 (fz (op2 ixD (var 1) (var 3))))
      (appS 2 lId (tupV (consL (op2 addD (cst (.str "e")) (opN (one strD) (consL (var 3) nilL))) (consL (fz (op2 ixD (var 4) (cst (.int 0)))) (consL (fz (op2 ixD (var 4) (cst (.int 1)))) (consL (fz (op2 ixD (var 4) (cst (.int 2)))) (consL (fz (op2 ixD (var 4) (cst (.int 3)))) (consL (fz (op2 ixD (var 4) (cst (.int 4)))) (consL (fz (op2 ixD (var 4) (cst (.int 5)))) (consL (shr (mkV "Ratio" h_Ratio_init dd_Ratio2 (consL (fz (op2 ixD (var 4) (cst (.int 6)))) (consL (fz (op2 ixD (var 4) (cst (.int 7)))) nilL)))) nilL))))))))))))
      (seqS (frzS 2) (retS (mkV "Net" h_Net_init dd_Net2 (consL (lcV [3] (rgS1 (var 0)) (nameG 3) yesT (op2 addD (cst (.str "p")) (opN (one strD) (consL (var 3) nilL)))) (consL (fz (var 2)) nilL)))))))
def h__law_net : List DV → R DV := fnR 2 3 G__law_net
def N__law_is_integer : List Str := ["actual"]
def G__law_is_integer : Slots → Out := (retS (andV (isiV ans_int (var 0)) (notV (isiV ans_bool (var 0)))))
def h__law_is_integer : List DV → R DV := fnR 1 0 G__law_is_integer
def N__law_is_row : List Str := ["actual", "size"]
def G__law_is_row : Slots → Out := (retS (andV (isiV ans_tuple (var 0)) (op2 eqD (opN (one lenD) (consL (var 0) nilL)) (var 1))))
def h__law_is_row : List DV → R DV := fnR 2 0 G__law_is_row
def N__law_is_lot : List Str := ["actual", "size", "least", "part"]
def G__law_is_lot : Slots → Out := (seqS (ifS (notB (tru (isiV ans_tuple (var 0)))) (retS (cst (.bl false))) nxS)
      (seqS (setF 2 (cst (.int 0)))
      (seqS (forS (itS (fz (var 0))) (nameG 3) (seqS (ifS (orB (notB (tru (callV h__law_is_integer [] (consL (fz (var 3)) nilL)))) (orB (tst (op2 ltD (var 3) (var 2))) (tst (op2 geD (var 3) (var 1))))) (retS (cst (.bl false))) nxS)
      (setF 2 (op2 addD (var 3) (cst (.int 1))))))
      (retS (cst (.bl true))))))
def h__law_is_lot : List DV → R DV := fnR 2 2 G__law_is_lot
def N__law_has_word : List Str := ["actual", "word"]
def G__law_has_word : Slots → Out := (retS (andV (callV h__law_is_row [] (consL (fz (var 0)) (consL (cst (.int 2)) nilL))) (andV (isiV ans_str (op2 ixD (var 0) (cst (.int 0)))) (op2 eqD (op2 ixD (var 0) (cst (.int 0))) (var 1)))))
def h__law_has_word : List DV → R DV := fnR 2 0 G__law_has_word
def N__law_far : List Str := ["rows", "lengths", "start", "cut", "many", "far", "turn", "k", "place", "here", "there"]
def G__law_far : Slots → Out := (seqS (setS 5 (lcV [8] (rgS1 (var 4)) (nameG 8) yesT (cst .non)))
      (seqS (setIxS 5 lId (var 2) (cst (.int 0)))
      (seqS (forS (rgS1 (var 4)) (nameG 6) (forS (rgS1 (opN (one lenD) (consL (var 0) nilL))) (nameG 7) (seqS (setF 9 (fz (op2 ixD (var 5) (op2 ixD (op2 ixD (var 0) (var 7)) (cst (.int 0))))))
      (ifS (andB (tst (op2 niD (var 7) (var 3))) (tst (op2 isnotD (var 9) (cst .non)))) (seqS (setF 10 (fz (op2 ixD (var 5) (op2 ixD (op2 ixD (var 0) (var 7)) (cst (.int 1))))))
      (ifS (orB (tst (op2 isD (var 10) (cst .non))) (tst (op2 ltD (op2 addD (var 9) (op2 ixD (var 1) (var 7))) (var 10)))) (setIxS 5 lId (op2 ixD (op2 ixD (var 0) (var 7)) (cst (.int 1))) (op2 addD (var 9) (op2 ixD (var 1) (var 7)))) nxS)) nxS))))
      (retM 5))))
def h__law_far : List DV → R DV := fnR 5 6 G__law_far
def N__law_heights_are : List Str := ["rows", "ends", "cut", "lengths", "many", "heights", "worth", "k", "height"]
def G__law_heights_are : Slots → Out := (seqS (ifS (orB (notB (tru (callV h__law_is_row [] (consL (fz (var 5)) (consL (fz (var 4)) nilL))))) (tst (op2 gtD (opN (one lenD) (consL (lcV [8] (itS (fz (var 5))) (nameG 8) (notB (tru (callV h__law_is_integer [] (consL (fz (var 8)) nilL)))) (fz (var 8))) nilL)) (cst (.int 0))))) (retS (cst (.bl false))) nxS)
      (seqS (ifS (orB (tst (op2 neD (op2 ixD (var 5) (op2 ixD (var 1) (cst (.int 0)))) (cst (.int 0)))) (tst (op2 neD (op2 ixD (var 5) (op2 ixD (var 1) (cst (.int 1)))) (var 6)))) (retS (cst (.bl false))) nxS)
      (seqS (forS (rgS1 (opN (one lenD) (consL (var 0) nilL))) (nameG 7) (ifS (andB (tst (op2 niD (var 7) (var 2))) (tst (op2 gtD (op2 ixD (var 5) (op2 ixD (op2 ixD (var 0) (var 7)) (cst (.int 1)))) (op2 addD (op2 ixD (var 5) (op2 ixD (op2 ixD (var 0) (var 7)) (cst (.int 0)))) (op2 ixD (var 3) (var 7)))))) (retS (cst (.bl false))) nxS))
      (retS (cst (.bl true))))))
def h__law_heights_are : List DV → R DV := fnR 7 2 G__law_heights_are
def N__law_side_is : List Str := ["rows", "ends", "cut", "many", "side"]
def G__law_side_is : Slots → Out := (retS (andV (callV h__law_is_lot [] (consL (fz (var 4)) (consL (fz (var 3)) nilL))) (andV (op2 inD (op2 ixD (var 1) (cst (.int 0))) (var 4)) (op2 niD (op2 ixD (var 1) (cst (.int 1))) (var 4)))))
def h__law_side_is : List DV → R DV := fnR 5 0 G__law_side_is
def N__law_leaves : List Str := ["rows", "cut", "side", "k"]
def G__law_leaves : Slots → Out := (retS (lcV [3] (rgS1 (opN (one lenD) (consL (var 0) nilL))) (nameG 3) (andB (tst (op2 niD (var 3) (var 1))) (andB (tst (op2 inD (op2 ixD (op2 ixD (var 0) (var 3)) (cst (.int 0))) (var 2))) (tst (op2 niD (op2 ixD (op2 ixD (var 0) (var 3)) (cst (.int 1))) (var 2))))) (fz (var 3))))
def h__law_leaves : List DV → R DV := fnR 3 1 G__law_leaves
def N__law_world : List Str := ["script", "head", "many", "wide", "start", "goal", "rows", "every", "left", "cut", "k"]
def G__law_world : Slots → Out := (seqS (setF 1 (callV h__law_draws [] (consL (fz (var 0)) (consL (cst (.int 0)) (consL (cst (.int 8)) nilL)))))
      (seqS (setF 2 (fz (op2 ixD (lstV (consL (cst (.int 2)) (consL (cst (.int 3)) (consL (cst (.int 4)) (consL (cst (.int 4)) (consL (cst (.int 5)) (consL (cst (.int 5)) (consL (cst (.int 6)) (consL (cst (.int 6)) nilL))))))))) (op2 modD (opN (one intD1) (consL (op2 ixD (var 1) (cst (.int 0))) nilL)) (cst (.int 8))))))
      (seqS (setF 3 (op2 addD (cst (.int 2)) (op2 modD (opN (one intD1) (consL (op2 ixD (var 1) (cst (.int 1))) nilL)) (cst (.int 9)))))
      (seqS (ifS (tst (op2 eqD (op2 modD (opN (one intD1) (consL (op2 ixD (var 1) (cst (.int 2))) nilL)) (cst (.int 16))) (cst (.int 6)))) (setF 3 (op2 modD (opN (one intD1) (consL (op2 ixD (var 1) (cst (.int 1))) nilL)) (cst (.int 2)))) nxS)
      (seqS (ifS (tst (op2 eqD (op2 modD (opN (one intD1) (consL (op2 ixD (var 1) (cst (.int 2))) nilL)) (cst (.int 8))) (cst (.int 5)))) (seqS (setF 2 (op2 addD (cst (.int 2)) (op2 modD (opN (one intD1) (consL (op2 ixD (var 1) (cst (.int 0))) nilL)) (cst (.int 19)))))
      (setF 3 (op2 modD (opN (one intD1) (consL (op2 ixD (var 1) (cst (.int 1))) nilL)) (cst (.int 33))))) nxS)
      (seqS (setF 4 (op2 modD (opN (one intD1) (consL (op2 ixD (var 1) (cst (.int 3))) nilL)) (var 2)))
      (seqS (setF 5 (op2 modD (op2 addD (op2 addD (var 4) (cst (.int 1))) (op2 modD (op2 divD (opN (one intD1) (consL (op2 ixD (var 1) (cst (.int 3))) nilL)) (var 2)) (op2 subD (var 2) (cst (.int 1))))) (var 2)))
      (seqS (setF 6 (callV h__law_rows [] (consL (fz (var 0)) (consL (cst (.int 1)) (consL (fz (var 2)) (consL (fz (var 3)) (consL (fz (var 4)) (consL (fz (var 5)) nilL))))))))
      (seqS (setF 7 (fz (op2 ixD (lstV (consL (cst (.int 0)) (consL (cst (.int 0)) (consL (cst (.int 1)) (consL (cst (.int 2)) (consL (cst (.int 3)) (consL (cst (.int 4)) (consL (cst (.int 8)) (consL (cst (.int 8)) nilL))))))))) (op2 modD (opN (one intD1) (consL (op2 ixD (var 1) (cst (.int 4))) nilL)) (cst (.int 8))))))
      (seqS (setF 8 (opN (one intD1) (consL (op2 ixD (var 1) (cst (.int 5))) nilL)))
      (seqS (setS 9 (lstV nilL))
      (seqS (forS (rgS1 (var 3)) (nameG 10) (seqS (ifS (andB (tst (op2 gtD (var 7) (cst (.int 0)))) (tst (op2 eqD (op2 modD (var 8) (var 7)) (op2 divD (var 7) (cst (.int 2)))))) (appS 9 lId (fz (var 10))) nxS)
      (setF 8 (op2 divD (var 8) (cst (.int 8))))))
      (seqS (ifS (andB (tst (op2 eqD (op2 modD (opN (one intD1) (consL (op2 ixD (var 1) (cst (.int 4))) nilL)) (cst (.int 8))) (cst (.int 1)))) (tst (op2 gtD (var 3) (cst (.int 0))))) (setS 9 (lstV (consL (op2 modD (opN (one intD1) (consL (op2 ixD (var 1) (cst (.int 5))) nilL)) (var 3)) nilL))) nxS)
      (retS (tupV (consL (fz (var 2)) (consL (fz (var 6)) (consL (tupV (consL (fz (var 4)) (consL (fz (var 5)) nilL))) (consL (opN (one tupD) (consL (var 9) nilL)) nilL)))))))))))))))))))
def h__law_world : List DV → R DV := fnR 1 10 G__law_world
def N__law_long : List Str := ["draws", "number", "draw"]
def G__law_long : Slots → Out := (seqS (setF 1 (cst (.int 0)))
      (seqS (forS (itS (fz (var 0))) (nameG 2) (setF 1 (op2 addD (op2 mulD (var 1) (op2 powD (cst (.int 10)) (cst (.int 24)))) (op2 modD (opN (one intD1) (consL (var 2) nilL)) (op2 powD (cst (.int 10)) (cst (.int 24)))))))
      (retS (op2 modD (opN (one intD1) (consL (var 1) nilL)) (op2 mulD (op2 mulD (op2 mulD (op2 powD (cst (.int 10)) (cst (.int 64))) (op2 powD (cst (.int 10)) (cst (.int 64)))) (op2 powD (cst (.int 10)) (cst (.int 64)))) (op2 powD (cst (.int 10)) (cst (.int 6))))))))
def h__law_long : List DV → R DV := fnR 1 2 G__law_long
def N__law_weights : List Str := ["script", "rows", "draws", "weights", "k", "own"]
def G__law_weights : Slots → Out := (seqS (setF 2 (callV h__law_draws [] (consL (fz (var 0)) (consL (cst (.int 34)) (consL (cst (.int 2)) nilL)))))
      (seqS (setS 3 (lstV nilL))
      (seqS (forS (rgS1 (opN (one lenD) (consL (var 1) nilL))) (nameG 4) (seqS (setF 5 (callV h__law_draws [] (consL (fz (var 0)) (consL (op2 addD (cst (.int 35)) (op2 modD (opN (one intD1) (consL (var 4) nilL)) (cst (.int 16)))) (consL (op2 addD (cst (.int 10)) (var 4)) nilL)))))
      (ifS (tst (op2 eqD (op2 modD (opN (one intD1) (consL (op2 ixD (var 2) (cst (.int 0))) nilL)) (cst (.int 8))) (cst (.int 0)))) (appS 3 lId (cst (.int 0))) (ifS (tst (op2 eqD (op2 modD (opN (one intD1) (consL (op2 ixD (var 2) (cst (.int 0))) nilL)) (cst (.int 8))) (cst (.int 1)))) (appS 3 lId (callV h__law_long [] (consL (slV (var 5) (part (var 4)) (part (op2 addD (var 4) (cst (.int 9))))) nilL))) (ifS (tst (op2 ltD (op2 modD (opN (one intD1) (consL (op2 ixD (var 2) (cst (.int 0))) nilL)) (cst (.int 8))) (cst (.int 5)))) (appS 3 lId (callV h__law_number [] (consL (fz (op2 ixD (var 5) (var 4))) (consL (op2 modD (opN (one intD1) (consL (op2 ixD (var 2) (cst (.int 1))) nilL)) (cst (.int 6))) nilL)))) (appS 3 lId (fz (op2 ixD (op2 ixD (var 1) (var 4)) (cst (.int 2))))))))))
      (retM 3))))
def h__law_weights : List DV → R DV := fnR 2 4 G__law_weights
def N__law_turned : List Str := ["rows", "row"]
def G__law_turned : Slots → Out := (retS (lcV [1] (itS (fz (var 0))) (nameG 1) yesT (tupV (consL (fz (op2 ixD (var 1) (cst (.int 1)))) (consL (fz (op2 ixD (var 1) (cst (.int 0)))) nilL)))))
def h__law_turned : List DV → R DV := fnR 1 1 G__law_turned
def N__law_forward : List Str := ["far", "extra", "top", "length"]
def G__law_forward : Slots → Out := (seqS (setF 2 (opN (one maxD) (consL (lcV [3] (itS (fz (var 0))) (nameG 3) (tst (op2 isnotD (var 3) (cst .non))) (fz (var 3))) nilL)))
      (retS (lcV [3] (itS (fz (var 0))) (nameG 3) yesT (ifV (tst (op2 isD (var 3) (cst .non))) (op2 addD (var 2) (var 1)) (fz (var 3))))))
def h__law_forward : List DV → R DV := fnR 2 2 G__law_forward
def N__law_backward : List Str := ["back", "start", "top", "low", "length"]
def G__law_backward : Slots → Out := (seqS (setF 2 (fz (op2 ixD (var 0) (var 1))))
      (seqS (ifS (tst (op2 isD (var 2) (cst .non))) (retS (lcV [4] (itS (fz (var 0))) (nameG 4) yesT (cst (.int 0)))) nxS)
      (seqS (setF 3 (op2 subD (var 2) (opN (one maxD) (consL (lcV [4] (itS (fz (var 0))) (nameG 4) (tst (op2 isnotD (var 4) (cst .non))) (fz (var 4))) nilL))))
      (retS (lcV [4] (itS (fz (var 0))) (nameG 4) yesT (ifV (tst (op2 isD (var 4) (cst .non))) (op2 subD (var 3) (cst (.int 3))) (op2 subD (var 2) (var 4))))))))
def h__law_backward : List DV → R DV := fnR 2 3 G__law_backward
def N__law_all_heights : List Str := ["rows", "ends", "cut", "lengths", "many", "draws", "far", "back", "first", "second", "level", "found", "k", "height"]
def G__law_all_heights : Slots → Out := (seqS (setF 6 (callV h__law_far [] (consL (fz (var 0)) (consL (fz (var 3)) (consL (fz (op2 ixD (var 1) (cst (.int 0)))) (consL (fz (var 2)) (consL (fz (var 4)) nilL)))))))
      (seqS (setF 7 (callV h__law_far [] (consL (callV h__law_turned [] (consL (fz (var 0)) nilL)) (consL (fz (var 3)) (consL (fz (op2 ixD (var 1) (cst (.int 1)))) (consL (fz (var 2)) (consL (fz (var 4)) nilL)))))))
      (seqS (setF 8 (callV h__law_forward [] (consL (fz (var 6)) (consL (cst (.int 0)) nilL))))
      (seqS (setF 9 (callV h__law_backward [] (consL (fz (var 7)) (consL (fz (op2 ixD (var 1) (cst (.int 0)))) nilL))))
      (seqS (setF 10 (op2 modD (opN (one intD1) (consL (op2 ixD (var 5) (cst (.int 0))) nilL)) (op2 addD (cst (.int 1)) (op2 ixD (var 8) (op2 ixD (var 1) (cst (.int 1)))))))
      (seqS (setS 11 (lstV (consL (fz (var 8)) (consL (shr (callV h__law_forward [] (consL (fz (var 6)) (consL (op2 addD (cst (.int 1)) (op2 modD (opN (one intD1) (consL (op2 ixD (var 5) (cst (.int 1))) nilL)) (op2 powD (cst (.int 10)) (cst (.int 20))))) nilL)))) (consL (fz (var 9)) (consL (shr (callV h__law_forward [] (consL (fz (var 6)) (consL (op2 subD (cst (.int 0)) (op2 modD (opN (one intD1) (consL (op2 ixD (var 5) (cst (.int 1))) nilL)) (cst (.int 7)))) nilL)))) nilL))))))
      (seqS (appS 11 lId (shr (lcV [12] (rgS1 (var 4)) (nameG 12) yesT (op2 divD (op2 addD (op2 ixD (var 8) (var 12)) (op2 ixD (var 9) (var 12))) (cst (.int 2))))))
      (seqS (appS 11 lId (shr (lcV [13] (itS (fz (var 8))) (nameG 13) yesT (op2 divD (var 13) (cst (.int 2))))))
      (seqS (appS 11 lId (shr (lcV [13] (itS (fz (var 8))) (nameG 13) yesT (opN (two min2D) (consL (var 13) (consL (var 10) nilL))))))
      (seqS (appS 11 lId (shr (lcV [13] (itS (fz (var 8))) (nameG 13) yesT (cst (.int 0)))))
      (seqS (appS 11 lId (shr (lcV [12] (rgS1 (var 4)) (nameG 12) yesT (ifV (tst (op2 eqD (var 12) (op2 ixD (var 1) (cst (.int 0))))) (cst (.int 0)) (op2 subD (op2 subD (cst (.int 0)) (cst (.int 1))) (op2 modD (opN (one intD1) (consL (op2 ixD (var 5) (cst (.int 2))) nilL)) (cst (.int 9))))))))
      (seqS (appS 11 lId (shr (lcV [13] (itS (fz (var 8))) (nameG 13) yesT (op2 mulD (cst (.int 2)) (var 13)))))
      (retM 11)))))))))))))
def h__law_all_heights : List DV → R DV := fnR 6 8 G__law_all_heights
def N__law_all_sides : List Str := ["rows", "ends", "cut", "lengths", "many", "draws", "sides", "gone", "left", "drawn", "place", "far", "back"]
def G__law_all_sides : Slots → Out := (seqS (setS 6 (lstV nilL))
      (seqS (forS (itS (lstV (consL (fz (var 2)) (consL (tupV nilL) nilL)))) (nameG 7) (seqS (setF 11 (callV h__law_far [] (consL (fz (var 0)) (consL (fz (var 3)) (consL (fz (op2 ixD (var 1) (cst (.int 0)))) (consL (fz (var 7)) (consL (fz (var 4)) nilL)))))))
      (seqS (setF 12 (callV h__law_far [] (consL (callV h__law_turned [] (consL (fz (var 0)) nilL)) (consL (fz (var 3)) (consL (fz (op2 ixD (var 1) (cst (.int 1)))) (consL (fz (var 7)) (consL (fz (var 4)) nilL)))))))
      (seqS (appS 6 lId (shr (lcV [10] (rgS1 (var 4)) (nameG 10) (tst (op2 isnotD (op2 ixD (var 11) (var 10)) (cst .non))) (fz (var 10)))))
      (appS 6 lId (shr (lcV [10] (rgS1 (var 4)) (nameG 10) (tst (op2 isD (op2 ixD (var 12) (var 10)) (cst .non))) (fz (var 10)))))))))
      (seqS (setF 8 (opN (one intD1) (consL (op2 ixD (var 5) (cst (.int 3))) nilL)))
      (seqS (setS 9 (lstV nilL))
      (seqS (forS (rgS1 (var 4)) (nameG 10) (seqS (ifS (orB (tst (op2 eqD (var 10) (op2 ixD (var 1) (cst (.int 0))))) (andB (tst (op2 neD (var 10) (op2 ixD (var 1) (cst (.int 1))))) (tst (op2 eqD (op2 modD (var 8) (cst (.int 2))) (cst (.int 1)))))) (appS 9 lId (fz (var 10))) nxS)
      (setF 8 (op2 divD (var 8) (cst (.int 2))))))
      (seqS (frzS 9) (retS (op2 addD (var 6) (lstV (consL (fz (var 9)) (consL (shr (lstV (consL (fz (op2 ixD (var 1) (cst (.int 0)))) nilL))) (consL (shr (lcV [10] (rgS1 (var 4)) (nameG 10) (tst (op2 neD (var 10) (op2 ixD (var 1) (cst (.int 1))))) (fz (var 10)))) nilL))))))))))))
def h__law_all_sides : List DV → R DV := fnR 6 7 G__law_all_sides
def N__law_is_bound : List Str := ["rows", "ends", "cut", "lengths", "many", "bound", "worth"]
def G__law_is_bound : Slots → Out := (seqS (ifS (tst (op2 isD (var 6) (cst .non))) (seqS (ifS (orB (notB (tru (callV h__law_has_word [] (consL (fz (var 5)) (consL (cst (.str "closed")) nilL))))) (notB (tru (callV h__law_side_is [] (consL (fz (var 0)) (consL (fz (var 1)) (consL (fz (var 2)) (consL (fz (var 4)) (consL (fz (op2 ixD (var 5) (cst (.int 1)))) nilL))))))))) (retS (cst (.bl false))) nxS)
      (retS (op2 eqD (opN (one lenD) (consL (callV h__law_leaves [] (consL (fz (var 0)) (consL (fz (var 2)) (consL (fz (op2 ixD (var 5) (cst (.int 1)))) nilL)))) nilL)) (cst (.int 0))))) nxS)
      (retS (andV (callV h__law_has_word [] (consL (fz (var 5)) (consL (cst (.str "heights")) nilL))) (callV h__law_heights_are [] (consL (fz (var 0)) (consL (fz (var 1)) (consL (fz (var 2)) (consL (fz (var 3)) (consL (fz (var 4)) (consL (fz (op2 ixD (var 5) (cst (.int 1)))) (consL (fz (var 6)) nilL)))))))))))
def h__law_is_bound : List DV → R DV := fnR 7 0 G__law_is_bound
def N__law_says : List Str := ["net", "world", "handed", "bound", "worth", "many", "rows", "ends", "cut", "lengths", "told"]
def G__law_says : Slots → Out := (seqS (asgS (fz (var 1)) (tupG 5 (consG (nameG 5) (consG (nameG 6) (consG (nameG 7) (consG (nameG 8) (consG (nameG 9) nilG)))))))
      (seqS (setF 10 (callV h_shows_distance [] (consL (fz (var 0)) (consL (fz (var 2)) (consL (fz (op2 ixD (var 7) (cst (.int 0)))) (consL (fz (op2 ixD (var 7) (cst (.int 1)))) (consL (fz (var 8)) (consL (fz (var 3)) (consL (fz (var 4)) nilL)))))))))
      (retS (andV (isiV ans_bool (var 10)) (op2 eqD (var 10) (callV h__law_is_bound [] (consL (fz (var 6)) (consL (fz (var 7)) (consL (fz (var 8)) (consL (fz (var 9)) (consL (fz (var 5)) (consL (fz (var 3)) (consL (fz (var 4)) nilL)))))))))))))
def h__law_says : List DV → R DV := fnR 5 6 G__law_says
def N__law_heights_said : List Str := ["net", "world", "handed", "heights", "draw", "many", "goal", "step", "at", "row", "worth", "bounds", "part", "bound", "change", "bent"]
def G__law_heights_said : Slots → Out := (seqS (setF 5 (fz (op2 ixD (var 1) (cst (.int 0)))))
      (seqS (setF 6 (fz (op2 ixD (op2 ixD (var 1) (cst (.int 2))) (cst (.int 1)))))
      (seqS (forS (rgS1 (opN (two min2D) (consL (var 5) (consL (cst (.int 7)) nilL)))) (nameG 7) (seqS (setF 8 (op2 modD (opN (one intD1) (consL (op2 addD (var 7) (opN (one intD1) (consL (var 4) nilL))) nilL)) (var 5)))
      (forS (itS (lstV (consL (cst (.int 0)) (consL (cst (.int 1)) (consL (negV (cst (.int 1))) nilL))))) (nameG 14) (ifS (orB (tst (op2 neD (var 14) (cst (.int 0)))) (tst (op2 eqD (var 7) (cst (.int 0))))) (seqS (setF 15 (op2 addD (op2 addD (slV (var 3) noPart (part (var 8))) (lstV (consL (op2 addD (op2 ixD (var 3) (var 8)) (var 14)) nilL))) (slV (var 3) (part (op2 addD (var 8) (cst (.int 1)))) noPart)))
      (forS (itS (lstV (consL (fz (op2 ixD (var 15) (var 6))) (consL (op2 addD (op2 ixD (var 15) (var 6)) (cst (.int 1))) (consL (op2 subD (op2 ixD (var 15) (var 6)) (cst (.int 1))) nilL))))) (nameG 10) (ifS (notB (tru (callV h__law_says [] (consL (fz (var 0)) (consL (fz (var 1)) (consL (fz (var 2)) (consL (tupV (consL (cst (.str "heights")) (consL (opN (one tupD) (consL (var 15) nilL)) nilL))) (consL (fz (var 10)) nilL)))))))) (retS (cst (.bl false))) nxS))) nxS))))
      (seqS (setF 8 (op2 modD (op2 divD (opN (one intD1) (consL (var 4) nilL)) (cst (.int 64))) (var 5)))
      (seqS (setF 9 (opN (one tupD) (consL (var 3) nilL)))
      (seqS (setF 10 (fz (op2 ixD (var 3) (var 6))))
      (seqS (setS 11 (lstV (consL (tupV (consL (cst (.str "closed")) (consL (fz (var 9)) nilL))) (consL (tupV (consL (cst (.str "side")) (consL (fz (var 9)) nilL))) (consL (fz (var 9)) (consL (tupV (consL (cst (.str "heights")) nilL)) (consL (tupV (consL (cst (.str "heights")) (consL (fz (var 9)) (consL (cst (.int 0)) nilL)))) (consL (tupV (consL (tupV (consL (cst (.str "heights")) (consL (fz (var 9)) nilL))) nilL)) (consL (tupV (consL (cst (.str "heights")) (consL (shr (slV (var 9) (part (cst (.int 1))) noPart)) nilL))) nilL)))))))))
      (seqS (setS 11 (op2 addD (var 11) (lstV (consL (tupV (consL (cst (.str "heights")) (consL (op2 addD (var 9) (tupV (consL (cst (.int 0)) nilL))) nilL))) (consL (tupV (consL (cst (.str "heights")) (consL (shr (slV (var 9) noPart (part (negV (cst (.int 1)))))) nilL))) (consL (tupV (consL (cst (.str "heights")) (consL (tupV nilL) nilL))) (consL (tupV (consL (cst (.str "heights")) (consL (fz (var 10)) nilL))) (consL (tupV (consL (cst .non) (consL (fz (var 9)) nilL))) (consL (tupV (consL (cst (.int 0)) (consL (fz (var 9)) nilL))) nilL)))))))))
      (seqS (forS (itS (lstV (consL (cst .non) (consL (cst (.str "a")) (consL (shr (mkV "Ratio" h_Ratio_init dd_Ratio1 (consL (fz (op2 ixD (var 3) (var 8))) nilL))) (consL (tupV (consL (fz (op2 ixD (var 3) (var 8))) nilL)) nilL)))))) (nameG 12) (appS 11 lId (tupV (consL (cst (.str "heights")) (consL (shr (op2 addD (op2 addD (slV (var 9) noPart (part (var 8))) (tupV (consL (fz (var 12)) nilL))) (slV (var 9) (part (op2 addD (var 8) (cst (.int 1)))) noPart))) nilL)))))
      (seqS (frzS 11) (seqS (forS (itS (fz (var 11))) (nameG 13) (ifS (notB (tru (callV h__law_says [] (consL (fz (var 0)) (consL (fz (var 1)) (consL (fz (var 2)) (consL (fz (var 13)) (consL (fz (var 10)) nilL)))))))) (retS (cst (.bl false))) nxS))
      (retS (andV (callV h__law_says [] (consL (fz (var 0)) (consL (fz (var 1)) (consL (fz (var 2)) (consL (tupV (consL (cst (.str "heights")) (consL (fz (var 9)) nilL))) (consL (cst .non) nilL)))))) (callV h__law_says [] (consL (fz (var 0)) (consL (fz (var 1)) (consL (fz (var 2)) (consL (tupV (consL (cst (.str "heights")) (consL (fz (var 9)) nilL))) (consL (fz (var 10)) nilL)))))))))))))))))))
def h__law_heights_said : List DV → R DV := fnR 5 11 G__law_heights_said
def N__law_side_said : List Str := ["net", "world", "handed", "side", "draw", "many", "bounds", "step", "row", "at", "bound", "worth", "bent", "place"]
def G__law_side_said : Slots → Out := (seqS (setF 5 (fz (op2 ixD (var 1) (cst (.int 0)))))
      (seqS (setS 6 (lstV nilL))
      (seqS (forS (rgS1 (opN (two min2D) (consL (var 5) (consL (cst (.int 7)) nilL)))) (nameG 7) (seqS (setF 9 (op2 modD (opN (one intD1) (consL (op2 addD (var 7) (opN (one intD1) (consL (var 4) nilL))) nilL)) (var 5)))
      (seqS (setF 12 (lcV [13] (rgS1 (var 5)) (nameG 13) (tst (op2 neD (op2 inD (var 13) (var 3)) (op2 eqD (var 13) (var 9)))) (fz (var 13))))
      (appS 6 lId (tupV (consL (cst (.str "closed")) (consL (opN (one tupD) (consL (var 12) nilL)) nilL)))))))
      (seqS (setF 8 (opN (one tupD) (consL (var 3) nilL)))
      (seqS (setF 9 (op2 modD (op2 divD (opN (one intD1) (consL (var 4) nilL)) (cst (.int 64))) (opN (two max2D) (consL (cst (.int 1)) (consL (opN (one lenD) (consL (var 3) nilL)) nilL)))))
      (seqS (setS 6 (op2 addD (var 6) (lstV (consL (tupV (consL (cst (.str "heights")) (consL (fz (var 8)) nilL))) (consL (tupV (consL (cst (.str "side")) (consL (fz (var 8)) nilL))) (consL (fz (var 8)) (consL (tupV (consL (cst (.str "closed")) nilL)) (consL (tupV (consL (cst (.str "closed")) (consL (fz (var 8)) (consL (cst (.int 0)) nilL)))) (consL (tupV (consL (tupV (consL (cst (.str "closed")) (consL (fz (var 8)) nilL))) nilL)) (consL (tupV (consL (cst (.str "closed")) (consL (cst .non) nilL))) nilL))))))))))
      (seqS (setS 6 (op2 addD (var 6) (lstV (consL (tupV (consL (cst (.str "closed")) (consL (op2 addD (var 8) (tupV (consL (fz (var 5)) nilL))) nilL))) (consL (tupV (consL (cst (.str "closed")) (consL (op2 addD (tupV (consL (negV (cst (.int 1))) nilL)) (var 8)) nilL))) (consL (tupV (consL (cst (.str "closed")) (consL (shr (op2 addD (op2 addD (slV (var 8) noPart (part (var 9))) (slV (var 8) (part (var 9)) (part (op2 addD (var 9) (cst (.int 1)))))) (slV (var 8) (part (var 9)) noPart))) nilL))) nilL))))))
      (seqS (setS 6 (op2 addD (var 6) (lstV (consL (tupV (consL (cst (.str "closed")) (consL (shr (op2 addD (slV (var 8) (part (cst (.int 1))) noPart) (slV (var 8) noPart (part (cst (.int 1)))))) nilL))) (consL (tupV (consL (cst (.str "closed")) (consL (shr (op2 addD (op2 addD (slV (var 8) noPart (part (var 9))) (tupV (consL (cst .non) nilL))) (slV (var 8) (part (var 9)) noPart))) nilL))) (consL (tupV (consL (cst (.str "closed")) (consL (op2 addD (var 8) (tupV (consL (cst (.str "a")) nilL))) nilL))) (consL (tupV (consL (cst (.int 0)) (consL (fz (var 8)) nilL))) nilL)))))))
      (seqS (frzS 6) (seqS (forS (itS (fz (var 6))) (nameG 10) (ifS (notB (tru (callV h__law_says [] (consL (fz (var 0)) (consL (fz (var 1)) (consL (fz (var 2)) (consL (fz (var 10)) (consL (cst .non) nilL)))))))) (retS (cst (.bl false))) nxS))
      (seqS (forS (itS (lstV (consL (cst .non) (consL (cst (.int 0)) (consL (op2 modD (opN (one intD1) (consL (var 4) nilL)) (cst (.int 9))) nilL))))) (nameG 11) (ifS (notB (tru (callV h__law_says [] (consL (fz (var 0)) (consL (fz (var 1)) (consL (fz (var 2)) (consL (tupV (consL (cst (.str "closed")) (consL (fz (var 8)) nilL))) (consL (fz (var 11)) nilL)))))))) (retS (cst (.bl false))) nxS))
      (retS (cst (.bl true))))))))))))))
def h__law_side_said : List DV → R DV := fnR 5 9 G__law_side_said
def N_law : List Str := ["script", "many", "rows", "ends", "cut", "lengths", "world", "net", "draws", "handed", "heights", "sides", "k", "bound", "worth"]
def G_law : Slots → Out := (seqS (asgS (callV h__law_world [] (consL (fz (var 0)) nilL)) (tupG 4 (consG (nameG 1) (consG (nameG 2) (consG (nameG 3) (consG (nameG 4) nilG))))))
      (seqS (setF 5 (callV h__law_weights [] (consL (fz (var 0)) (consL (fz (var 2)) nilL))))
      (seqS (setF 6 (tupV (consL (fz (var 1)) (consL (fz (var 2)) (consL (fz (var 3)) (consL (fz (var 4)) (consL (fz (var 5)) nilL)))))))
      (seqS (setF 7 (callV h__law_net [] (consL (fz (var 1)) (consL (fz (var 2)) nilL))))
      (seqS (setF 8 (callV h__law_draws [] (consL (fz (var 0)) (consL (cst (.int 51)) (consL (cst (.int 22)) nilL)))))
      (seqS (setF 9 (opN (one listD) (consL (var 5) nilL)))
      (seqS (ifS (tst (op2 eqD (op2 modD (opN (one intD1) (consL (op2 ixD (var 8) (cst (.int 4))) nilL)) (cst (.int 2))) (cst (.int 1)))) (setF 9 (opN (one tupD) (consL (var 5) nilL))) nxS)
      (seqS (setF 10 (callV h__law_all_heights [] (consL (fz (var 2)) (consL (fz (var 3)) (consL (fz (var 4)) (consL (fz (var 5)) (consL (fz (var 1)) (consL (fz (var 8)) nilL))))))))
      (seqS (setF 11 (callV h__law_all_sides [] (consL (fz (var 2)) (consL (fz (var 3)) (consL (fz (var 4)) (consL (fz (var 5)) (consL (fz (var 1)) (consL (fz (var 8)) nilL))))))))
      (seqS (forS (rgS1 (opN (one lenD) (consL (var 10) nilL))) (nameG 12) (ifS (notB (tru (callV h__law_heights_said [] (consL (fz (var 7)) (consL (fz (var 6)) (consL (fz (var 9)) (consL (fz (op2 ixD (var 10) (var 12))) (consL (fz (op2 ixD (var 8) (op2 addD (cst (.int 5)) (var 12)))) nilL)))))))) (retS (cst (.bl false))) nxS))
      (seqS (forS (rgS1 (opN (one lenD) (consL (var 11) nilL))) (nameG 12) (ifS (notB (tru (callV h__law_side_said [] (consL (fz (var 7)) (consL (fz (var 6)) (consL (fz (var 9)) (consL (fz (op2 ixD (var 11) (var 12))) (consL (fz (op2 ixD (var 8) (op2 addD (cst (.int 15)) (var 12)))) nilL)))))))) (retS (cst (.bl false))) nxS))
      (seqS (forS (itS (lstV (consL (cst .non) (consL (cst (.int 0)) (consL (op2 modD (opN (one intD1) (consL (op2 ixD (var 8) (cst (.int 2))) nilL)) (cst (.int 50))) (consL (cst (.str "heights")) (consL (tupV nilL) (consL (shr (mkV "Ratio" h_Ratio_init dd_Ratio2 (consL (op2 modD (opN (one intD1) (consL (op2 ixD (var 8) (cst (.int 2))) nilL)) (cst (.int 50))) (consL (cst (.int 3)) nilL)))) (consL (tupV (consL (tupV nilL) (consL (tupV nilL) nilL))) nilL))))))))) (nameG 13) (forS (itS (lstV (consL (cst .non) (consL (cst (.int 0)) (consL (op2 modD (opN (one intD1) (consL (op2 ixD (var 8) (cst (.int 2))) nilL)) (cst (.int 50))) nilL))))) (nameG 14) (ifS (notB (tru (callV h__law_says [] (consL (fz (var 7)) (consL (fz (var 6)) (consL (fz (var 9)) (consL (fz (var 13)) (consL (fz (var 14)) nilL)))))))) (retS (cst (.bl false))) nxS)))
      (retS (op2 eqD (opN (one listD) (consL (var 9) nilL)) (var 5)))))))))))))))
def h_law : List DV → R DV := fnR 1 14 G_law
structure Say (K : PySem.W.Frag) (mg : Str → Option Value) : Prop where
  n_abs : mg "abs" = none
  n_bool : mg "bool" = none
  n_enumerate : mg "enumerate" = none
  n_int : mg "int" = none
  n_isinstance : mg "isinstance" = none
  n_len : mg "len" = none
  n_list : mg "list" = none
  n_max : mg "max" = none
  n_min : mg "min" = none
  n_range : mg "range" = none
  n_str : mg "str" = none
  n_tuple : mg "tuple" = none
  gc_DIGITS : ∃ t, mg "DIGITS" = some (.str "0123456789" t)
  gc_LETTERS : ∃ t, mg "LETTERS" = some (.str "abcdefghijklmnopqrstuvwxyz" t)
  g_gcd : mg "gcd" = some (.builtin "math.gcd")
  g_Ratio : mg "Ratio" = some (.ref (He.ga K "Ratio"))
  g_Net : mg "Net" = some (.ref (He.ga K "Net"))
  g_is_whole : mg "is_whole" = some (.ref (He.fAd K ("is_whole", none)))
  f_is_whole : ∃ fd, FunD K "is_whole" "is_whole" (defArgs (top 10)) (defBody (top 10)) (defScope (top 10)) [] [] (He.fAd K ("is_whole", none)) fd
  g_is_number : mg "is_number" = some (.ref (He.fAd K ("is_number", none)))
  f_is_number : ∃ fd, FunD K "is_number" "is_number" (defArgs (top 11)) (defBody (top 11)) (defScope (top 11)) [] [] (He.fAd K ("is_number", none)) fd
  g_is_row : mg "is_row" = some (.ref (He.fAd K ("is_row", none)))
  f_is_row : ∃ fd, FunD K "is_row" "is_row" (defArgs (top 12)) (defBody (top 12)) (defScope (top 12)) [] [] (He.fAd K ("is_row", none)) fd
  g_is_wholes : mg "is_wholes" = some (.ref (He.fAd K ("is_wholes", none)))
  f_is_wholes : ∃ fd, FunD K "is_wholes" "is_wholes" (defArgs (top 13)) (defBody (top 13)) (defScope (top 13)) [] [] (He.fAd K ("is_wholes", none)) fd
  g_is_lot : mg "is_lot" = some (.ref (He.fAd K ("is_lot", none)))
  f_is_lot : ∃ fd, FunD K "is_lot" "is_lot" (defArgs (top 14)) (defBody (top 14)) (defScope (top 14)) [] [] (He.fAd K ("is_lot", none)) fd
  g_has_word : mg "has_word" = some (.ref (He.fAd K ("has_word", none)))
  f_has_word : ∃ fd, FunD K "has_word" "has_word" (defArgs (top 15)) (defBody (top 15)) (defScope (top 15)) [] [] (He.fAd K ("has_word", none)) fd
  f_Ratio_init : ∃ fd, FunD K "__init__" "Ratio.__init__" (defArgs ((cbody (top 28)).getD 0 (.Pass ⟨0, 0, 0, 0⟩))) (defBody ((cbody (top 28)).getD 0 (.Pass ⟨0, 0, 0, 0⟩))) (defScope ((cbody (top 28)).getD 0 (.Pass ⟨0, 0, 0, 0⟩))) [V.int 1] [] (He.fAd K ("Ratio", some "__init__")) fd
  k_Ratio : Mk K (He.ga K "Ratio") (He.fAd K ("Ratio", some "__init__"))
  g_has_only : mg "has_only" = some (.ref (He.fAd K ("has_only", none)))
  f_has_only : ∃ fd, FunD K "has_only" "has_only" (defArgs (top 23)) (defBody (top 23)) (defScope (top 23)) [] [] (He.fAd K ("has_only", none)) fd
  g_is_name : mg "is_name" = some (.ref (He.fAd K ("is_name", none)))
  f_is_name : ∃ fd, FunD K "is_name" "is_name" (defArgs (top 24)) (defBody (top 24)) (defScope (top 24)) [] [] (He.fAd K ("is_name", none)) fd
  g_is_chance : mg "is_chance" = some (.ref (He.fAd K ("is_chance", none)))
  f_is_chance : ∃ fd, FunD K "is_chance" "is_chance" (defArgs (top 31)) (defBody (top 31)) (defScope (top 31)) [] [] (He.fAd K ("is_chance", none)) fd
  f_Net_is_arrow : ∃ fd, FunD K "is_arrow" "Net.is_arrow" (defArgs ((cbody (top 32)).getD 8 (.Pass ⟨0, 0, 0, 0⟩))) (defBody ((cbody (top 32)).getD 8 (.Pass ⟨0, 0, 0, 0⟩))) (defScope ((cbody (top 32)).getD 8 (.Pass ⟨0, 0, 0, 0⟩))) [] [] (He.fAd K ("Net", some "is_arrow")) fd
  k_Net_is_arrow : Cls K (He.ga K "Net") ∧ Meth K (He.ga K "Net") "is_arrow" (He.fAd K ("Net", some "is_arrow")) ∧ PySem.W.selfFirst K (He.ga K "Net") = true
  f_Net_check_places : ∃ fd, FunD K "check_places" "Net.check_places" (defArgs ((cbody (top 32)).getD 6 (.Pass ⟨0, 0, 0, 0⟩))) (defBody ((cbody (top 32)).getD 6 (.Pass ⟨0, 0, 0, 0⟩))) (defScope ((cbody (top 32)).getD 6 (.Pass ⟨0, 0, 0, 0⟩))) [] [] (He.fAd K ("Net", some "check_places")) fd
  k_Net_check_places : Cls K (He.ga K "Net") ∧ Meth K (He.ga K "Net") "check_places" (He.fAd K ("Net", some "check_places")) ∧ PySem.W.selfFirst K (He.ga K "Net") = true
  f_Net_check_arrows : ∃ fd, FunD K "check_arrows" "Net.check_arrows" (defArgs ((cbody (top 32)).getD 7 (.Pass ⟨0, 0, 0, 0⟩))) (defBody ((cbody (top 32)).getD 7 (.Pass ⟨0, 0, 0, 0⟩))) (defScope ((cbody (top 32)).getD 7 (.Pass ⟨0, 0, 0, 0⟩))) [] [] (He.fAd K ("Net", some "check_arrows")) fd
  k_Net_check_arrows : Cls K (He.ga K "Net") ∧ Meth K (He.ga K "Net") "check_arrows" (He.fAd K ("Net", some "check_arrows")) ∧ PySem.W.selfFirst K (He.ga K "Net") = true
  f_Net_init : ∃ fd, FunD K "__init__" "Net.__init__" (defArgs ((cbody (top 32)).getD 4 (.Pass ⟨0, 0, 0, 0⟩))) (defBody ((cbody (top 32)).getD 4 (.Pass ⟨0, 0, 0, 0⟩))) (defScope ((cbody (top 32)).getD 4 (.Pass ⟨0, 0, 0, 0⟩))) [] [] (He.fAd K ("Net", some "__init__")) fd
  k_Net : Mk K (He.ga K "Net") (He.fAd K ("Net", some "__init__"))
  f_Net_left : ∃ fd, FunD K "left" "Net.left" (defArgs ((cbody (top 32)).getD 9 (.Pass ⟨0, 0, 0, 0⟩))) (defBody ((cbody (top 32)).getD 9 (.Pass ⟨0, 0, 0, 0⟩))) (defScope ((cbody (top 32)).getD 9 (.Pass ⟨0, 0, 0, 0⟩))) [] [] (He.fAd K ("Net", some "left")) fd
  k_Net_left : Cls K (He.ga K "Net") ∧ Meth K (He.ga K "Net") "left" (He.fAd K ("Net", some "left")) ∧ PySem.W.selfFirst K (He.ga K "Net") = true
  g_shows_heights : mg "shows_heights" = some (.ref (He.fAd K ("shows_heights", none)))
  f_shows_heights : ∃ fd, FunD K "shows_heights" "shows_heights" (defArgs (top 17)) (defBody (top 17)) (defScope (top 17)) [] [] (He.fAd K ("shows_heights", none)) fd
  g_shows_closed : mg "shows_closed" = some (.ref (He.fAd K ("shows_closed", none)))
  f_shows_closed : ∃ fd, FunD K "shows_closed" "shows_closed" (defArgs (top 18)) (defBody (top 18)) (defScope (top 18)) [] [] (He.fAd K ("shows_closed", none)) fd
  g_shows_distance : mg "shows_distance" = some (.ref (He.fAd K ("shows_distance", none)))
  f_shows_distance : ∃ fd, FunD K "shows_distance" "shows_distance" (defArgs (top 19)) (defBody (top 19)) (defScope (top 19)) [] [] (He.fAd K ("shows_distance", none)) fd
  g__law_cell : mg "_law_cell" = some (.ref (He.fAd K ("_law_cell", none)))
  f__law_cell : ∃ fd, FunD K "_law_cell" "_law_cell" (defArgs (top 35)) (defBody (top 35)) (defScope (top 35)) [] [] (He.fAd K ("_law_cell", none)) fd
  g__law_mixed : mg "_law_mixed" = some (.ref (He.fAd K ("_law_mixed", none)))
  f__law_mixed : ∃ fd, FunD K "_law_mixed" "_law_mixed" (defArgs (top 36)) (defBody (top 36)) (defScope (top 36)) [] [] (He.fAd K ("_law_mixed", none)) fd
  g__law_draws : mg "_law_draws" = some (.ref (He.fAd K ("_law_draws", none)))
  f__law_draws : ∃ fd, FunD K "_law_draws" "_law_draws" (defArgs (top 37)) (defBody (top 37)) (defScope (top 37)) [] [] (He.fAd K ("_law_draws", none)) fd
  g__law_number : mg "_law_number" = some (.ref (He.fAd K ("_law_number", none)))
  f__law_number : ∃ fd, FunD K "_law_number" "_law_number" (defArgs (top 38)) (defBody (top 38)) (defScope (top 38)) [] [] (He.fAd K ("_law_number", none)) fd
  g__law_rows : mg "_law_rows" = some (.ref (He.fAd K ("_law_rows", none)))
  f__law_rows : ∃ fd, FunD K "_law_rows" "_law_rows" (defArgs (top 39)) (defBody (top 39)) (defScope (top 39)) [] [] (He.fAd K ("_law_rows", none)) fd
  g__law_net : mg "_law_net" = some (.ref (He.fAd K ("_law_net", none)))
  f__law_net : ∃ fd, FunD K "_law_net" "_law_net" (defArgs (top 40)) (defBody (top 40)) (defScope (top 40)) [] [] (He.fAd K ("_law_net", none)) fd
  g__law_is_integer : mg "_law_is_integer" = some (.ref (He.fAd K ("_law_is_integer", none)))
  f__law_is_integer : ∃ fd, FunD K "_law_is_integer" "_law_is_integer" (defArgs (top 41)) (defBody (top 41)) (defScope (top 41)) [] [] (He.fAd K ("_law_is_integer", none)) fd
  g__law_is_row : mg "_law_is_row" = some (.ref (He.fAd K ("_law_is_row", none)))
  f__law_is_row : ∃ fd, FunD K "_law_is_row" "_law_is_row" (defArgs (top 42)) (defBody (top 42)) (defScope (top 42)) [] [] (He.fAd K ("_law_is_row", none)) fd
  g__law_is_lot : mg "_law_is_lot" = some (.ref (He.fAd K ("_law_is_lot", none)))
  f__law_is_lot : ∃ fd, FunD K "_law_is_lot" "_law_is_lot" (defArgs (top 43)) (defBody (top 43)) (defScope (top 43)) [] [] (He.fAd K ("_law_is_lot", none)) fd
  g__law_has_word : mg "_law_has_word" = some (.ref (He.fAd K ("_law_has_word", none)))
  f__law_has_word : ∃ fd, FunD K "_law_has_word" "_law_has_word" (defArgs (top 44)) (defBody (top 44)) (defScope (top 44)) [] [] (He.fAd K ("_law_has_word", none)) fd
  g__law_far : mg "_law_far" = some (.ref (He.fAd K ("_law_far", none)))
  f__law_far : ∃ fd, FunD K "_law_far" "_law_far" (defArgs (top 45)) (defBody (top 45)) (defScope (top 45)) [] [] (He.fAd K ("_law_far", none)) fd
  g__law_heights_are : mg "_law_heights_are" = some (.ref (He.fAd K ("_law_heights_are", none)))
  f__law_heights_are : ∃ fd, FunD K "_law_heights_are" "_law_heights_are" (defArgs (top 46)) (defBody (top 46)) (defScope (top 46)) [] [] (He.fAd K ("_law_heights_are", none)) fd
  g__law_side_is : mg "_law_side_is" = some (.ref (He.fAd K ("_law_side_is", none)))
  f__law_side_is : ∃ fd, FunD K "_law_side_is" "_law_side_is" (defArgs (top 47)) (defBody (top 47)) (defScope (top 47)) [] [] (He.fAd K ("_law_side_is", none)) fd
  g__law_leaves : mg "_law_leaves" = some (.ref (He.fAd K ("_law_leaves", none)))
  f__law_leaves : ∃ fd, FunD K "_law_leaves" "_law_leaves" (defArgs (top 48)) (defBody (top 48)) (defScope (top 48)) [] [] (He.fAd K ("_law_leaves", none)) fd
  g__law_world : mg "_law_world" = some (.ref (He.fAd K ("_law_world", none)))
  f__law_world : ∃ fd, FunD K "_law_world" "_law_world" (defArgs (top 49)) (defBody (top 49)) (defScope (top 49)) [] [] (He.fAd K ("_law_world", none)) fd
  g__law_long : mg "_law_long" = some (.ref (He.fAd K ("_law_long", none)))
  f__law_long : ∃ fd, FunD K "_law_long" "_law_long" (defArgs (top 50)) (defBody (top 50)) (defScope (top 50)) [] [] (He.fAd K ("_law_long", none)) fd
  g__law_weights : mg "_law_weights" = some (.ref (He.fAd K ("_law_weights", none)))
  f__law_weights : ∃ fd, FunD K "_law_weights" "_law_weights" (defArgs (top 51)) (defBody (top 51)) (defScope (top 51)) [] [] (He.fAd K ("_law_weights", none)) fd
  g__law_turned : mg "_law_turned" = some (.ref (He.fAd K ("_law_turned", none)))
  f__law_turned : ∃ fd, FunD K "_law_turned" "_law_turned" (defArgs (top 52)) (defBody (top 52)) (defScope (top 52)) [] [] (He.fAd K ("_law_turned", none)) fd
  g__law_forward : mg "_law_forward" = some (.ref (He.fAd K ("_law_forward", none)))
  f__law_forward : ∃ fd, FunD K "_law_forward" "_law_forward" (defArgs (top 53)) (defBody (top 53)) (defScope (top 53)) [] [] (He.fAd K ("_law_forward", none)) fd
  g__law_backward : mg "_law_backward" = some (.ref (He.fAd K ("_law_backward", none)))
  f__law_backward : ∃ fd, FunD K "_law_backward" "_law_backward" (defArgs (top 54)) (defBody (top 54)) (defScope (top 54)) [] [] (He.fAd K ("_law_backward", none)) fd
  g__law_all_heights : mg "_law_all_heights" = some (.ref (He.fAd K ("_law_all_heights", none)))
  f__law_all_heights : ∃ fd, FunD K "_law_all_heights" "_law_all_heights" (defArgs (top 55)) (defBody (top 55)) (defScope (top 55)) [] [] (He.fAd K ("_law_all_heights", none)) fd
  g__law_all_sides : mg "_law_all_sides" = some (.ref (He.fAd K ("_law_all_sides", none)))
  f__law_all_sides : ∃ fd, FunD K "_law_all_sides" "_law_all_sides" (defArgs (top 56)) (defBody (top 56)) (defScope (top 56)) [] [] (He.fAd K ("_law_all_sides", none)) fd
  g__law_is_bound : mg "_law_is_bound" = some (.ref (He.fAd K ("_law_is_bound", none)))
  f__law_is_bound : ∃ fd, FunD K "_law_is_bound" "_law_is_bound" (defArgs (top 57)) (defBody (top 57)) (defScope (top 57)) [] [] (He.fAd K ("_law_is_bound", none)) fd
  g__law_says : mg "_law_says" = some (.ref (He.fAd K ("_law_says", none)))
  f__law_says : ∃ fd, FunD K "_law_says" "_law_says" (defArgs (top 58)) (defBody (top 58)) (defScope (top 58)) [] [] (He.fAd K ("_law_says", none)) fd
  g__law_heights_said : mg "_law_heights_said" = some (.ref (He.fAd K ("_law_heights_said", none)))
  f__law_heights_said : ∃ fd, FunD K "_law_heights_said" "_law_heights_said" (defArgs (top 59)) (defBody (top 59)) (defScope (top 59)) [] [] (He.fAd K ("_law_heights_said", none)) fd
  g__law_side_said : mg "_law_side_said" = some (.ref (He.fAd K ("_law_side_said", none)))
  f__law_side_said : ∃ fd, FunD K "_law_side_said" "_law_side_said" (defArgs (top 60)) (defBody (top 60)) (defScope (top 60)) [] [] (He.fAd K ("_law_side_said", none)) fd
  g_law : mg "law" = some (.ref (He.fAd K ("law", none)))
  f_law : ∃ fd, FunD K "law" "law" (defArgs (top 61)) (defBody (top 61)) (defScope (top 61)) [] [] (He.fAd K ("law", none)) fd
  at_arrows : AtK K (gam K cls) "arrows" cs_arrows
  ax_arrows : AxK K (gam K cls) "arrows" ce_arrows
  at_caps : AtK K (gam K cls) "caps" cs_caps
  ax_caps : AxK K (gam K cls) "caps" ce_caps
  at_chances : AtK K (gam K cls) "chances" cs_chances
  ax_chances : AxK K (gam K cls) "chances" ce_chances
  at_d : AtK K (gam K cls) "d" cs_d
  ax_d : AxK K (gam K cls) "d" ce_d
  at_heads : AtK K (gam K cls) "heads" cs_heads
  ax_heads : AxK K (gam K cls) "heads" ce_heads
  at_lengths : AtK K (gam K cls) "lengths" cs_lengths
  ax_lengths : AxK K (gam K cls) "lengths" ce_lengths
  at_n : AtK K (gam K cls) "n" cs_n
  ax_n : AxK K (gam K cls) "n" ce_n
  at_names : AtK K (gam K cls) "names" cs_names
  ax_names : AxK K (gam K cls) "names" ce_names
  at_places : AtK K (gam K cls) "places" cs_places
  ax_places : AxK K (gam K cls) "places" ce_places
  at_prices : AtK K (gam K cls) "prices" cs_prices
  ax_prices : AxK K (gam K cls) "prices" ce_prices
  at_rooms : AtK K (gam K cls) "rooms" cs_rooms
  ax_rooms : AxK K (gam K cls) "rooms" ce_rooms
  at_tails : AtK K (gam K cls) "tails" cs_tails
  ax_tails : AxK K (gam K cls) "tails" ce_tails
  co_FINEST : CoK K (gam K cls) "FINEST" cc_FINEST (V.int 1000)
  co_LARGEST : CoK K (gam K cls) "LARGEST" cc_LARGEST (V.int 99999999999999999999)
  co_MOST_ARROWS : CoK K (gam K cls) "MOST_ARROWS" cc_MOST_ARROWS (V.int 32)
  co_MOST_PLACES : CoK K (gam K cls) "MOST_PLACES" cc_MOST_PLACES (V.int 20)
  i_Ratio : Isi K (gam K cls) [.ref (He.ga K "Ratio")] ans_Ratio
  i_bool : Isi K (gam K cls) [.type "bool"] ans_bool
  i_int : Isi K (gam K cls) [.type "int"] ans_int
  i_str : Isi K (gam K cls) [.type "str"] ans_str
  i_tuple : Isi K (gam K cls) [.type "tuple"] ans_tuple
section
variable {P : Program} {w : PySem.World} {K : PySem.W.Frag} {mg : Str → Option Value} {base : Heap}
theorem sc_is_whole : FnScope N_is_whole ["value"] (defScope (top 10)) := ⟨rfl, rfl, rfl, by decide +kernel, rfl, by decide +kernel, by decide +kernel⟩
theorem ok_is_whole (s : Say K mg) : Def false P w K mg base (L2.CX P w) (gam K cls) "is_whole" 1 ["value"] h_is_whole := by
  obtain ⟨fd, F⟩ := s.f_is_whole
  refine ⟨_, fd, s.g_is_whole, F.kp, def_d (k := 0) (m := 0) (G := G_is_whole) F sc_is_whole rfl fun cdv A outer s0 H E kx ky => ?_, F.bindsN fun _ _ _ _ _ _ us hl => match us, hl with | [_], _ => rfl⟩
  exact dss_one (ds_ret (de_and ((de_isi s.n_isinstance (dt_var 0) (pe_bt s.n_int (by decide +kernel)) (.ty _) s.i_int).dt) (de_one (de_not ((de_isi s.n_isinstance (dt_var 0) (pe_bt s.n_bool (by decide +kernel)) (.ty _) s.i_bool).dt)))))
theorem sc_is_number : FnScope N_is_number ["value"] (defScope (top 11)) := ⟨rfl, rfl, rfl, by decide +kernel, rfl, by decide +kernel, by decide +kernel⟩
theorem ok_is_number (s : Say K mg) (d_is_whole : Def false P w K mg base (L2.CX P w) (gam K cls) "is_whole" 1 ["value"] h_is_whole) : Def false P w K mg base (L2.CX P w) (gam K cls) "is_number" 2 ["value"] h_is_number := by
  obtain ⟨fd, F⟩ := s.f_is_number
  refine ⟨_, fd, s.g_is_number, F.kp, def_d (k := 1) (m := 0) (G := G_is_number) F sc_is_number rfl fun cdv A outer s0 H E kx ky => ?_, F.bindsN fun _ _ _ _ _ _ us hl => match us, hl with | [_], _ => rfl⟩
  exact dss_one (ds_ret (de_and ((de_callN kx d_is_whole (by decide) (da_cons ((dt_var 0).de) da_nil)).dt) (de_one (de_ge (dt_var 0) ((de_int).dt)))))
theorem sc_is_row : FnScope N_is_row ["value", "size"] (defScope (top 12)) := ⟨rfl, rfl, rfl, by decide +kernel, rfl, by decide +kernel, by decide +kernel⟩
theorem ok_is_row (s : Say K mg) : Def false P w K mg base (L2.CX P w) (gam K cls) "is_row" 1 ["value", "size"] h_is_row := by
  obtain ⟨fd, F⟩ := s.f_is_row
  refine ⟨_, fd, s.g_is_row, F.kp, def_d (k := 0) (m := 0) (G := G_is_row) F sc_is_row rfl fun cdv A outer s0 H E kx ky => ?_, F.bindsN fun _ _ _ _ _ _ us hl => match us, hl with | [_, _], _ => rfl⟩
  exact dss_one (ds_ret (de_and ((de_isi s.n_isinstance (dt_var 0) (pe_bt s.n_tuple (by decide +kernel)) (.ty _) s.i_tuple).dt) (de_one (de_eq kx.u64 ((de_callB cr_len cv_len (by decide +kernel) s.n_len (dk_cons (dt_var 0) dk_nil)).dt) (dt_var 1)))))
theorem sc_is_wholes : FnScope N_is_wholes ["value", "size"] (defScope (top 13)) := ⟨rfl, rfl, rfl, by decide +kernel, rfl, by decide +kernel, by decide +kernel⟩
theorem ok_is_wholes (s : Say K mg) (d_is_row : Def false P w K mg base (L2.CX P w) (gam K cls) "is_row" 1 ["value", "size"] h_is_row) (d_is_whole : Def false P w K mg base (L2.CX P w) (gam K cls) "is_whole" 1 ["value"] h_is_whole) : Def false P w K mg base (L2.CX P w) (gam K cls) "is_wholes" 2 ["value", "size"] h_is_wholes := by
  obtain ⟨fd, F⟩ := s.f_is_wholes
  refine ⟨_, fd, s.g_is_wholes, F.kp, def_d (k := 1) (m := 1) (G := G_is_wholes) F sc_is_wholes rfl fun cdv A outer s0 H E kx ky => ?_, F.bindsN fun _ _ _ _ _ _ us hl => match us, hl with | [_, _], _ => rfl⟩
  exact dss_cons (ds_if (db_not (db_tru ((de_callN kx d_is_row (by decide) (da_cons ((dt_var 0).de) (da_cons ((dt_var 1).de) da_nil))).dt))) (dss_one (ds_ret (de_bl))) (dss_nil))
      (dss_cons (ds_for ky.po ky.calm (di_seq ((dt_var 0).de)) (dg_name kx.nd) (dss_one (ds_if (db_not (db_tru ((de_callN kx d_is_whole (by decide) (da_cons ((dt_var 2).de) da_nil)).dt))) (dss_one (ds_ret (de_bl))) (dss_nil))))
      (dss_one (ds_ret (de_bl))))
theorem sc_is_lot : FnScope N_is_lot ["value", "size"] (defScope (top 14)) := ⟨rfl, rfl, rfl, by decide +kernel, rfl, by decide +kernel, by decide +kernel⟩
theorem ok_is_lot (s : Say K mg) (d_is_whole : Def false P w K mg base (L2.CX P w) (gam K cls) "is_whole" 1 ["value"] h_is_whole) : Def false P w K mg base (L2.CX P w) (gam K cls) "is_lot" 2 ["value", "size"] h_is_lot := by
  obtain ⟨fd, F⟩ := s.f_is_lot
  refine ⟨_, fd, s.g_is_lot, F.kp, def_d (k := 1) (m := 2) (G := G_is_lot) F sc_is_lot rfl fun cdv A outer s0 H E kx ky => ?_, F.bindsN fun _ _ _ _ _ _ us hl => match us, hl with | [_, _], _ => rfl⟩
  exact dss_cons (ds_if (db_not (db_tru ((de_isi s.n_isinstance (dt_var 0) (pe_bt s.n_tuple (by decide +kernel)) (.ty _) s.i_tuple).dt))) (dss_one (ds_ret (de_bl))) (dss_nil))
      (dss_cons (ds_setF (i := 2) kx.nd (de_int))
      (dss_cons (ds_for ky.po ky.calm (di_seq ((dt_var 0).de)) (dg_name kx.nd) (dss_cons (ds_if ((dw_or (db_not (db_tru ((de_callN kx d_is_whole (by decide) (da_cons ((dt_var 3).de) da_nil)).dt))) (dw_or (db_lt kx.u (dt_var 3) (dt_var 2)) (dw_or1 (db_ge (dt_var 3) (dt_var 1))))).db) (dss_one (ds_ret (de_bl))) (dss_nil))
      (dss_one (ds_setF (i := 2) kx.nd (de_add (dt_var 3) ((de_int).dt))))))
      (dss_one (ds_ret (de_bl)))))
theorem sc_has_word : FnScope N_has_word ["value", "word"] (defScope (top 15)) := ⟨rfl, rfl, rfl, by decide +kernel, rfl, by decide +kernel, by decide +kernel⟩
theorem ok_has_word (s : Say K mg) (d_is_row : Def false P w K mg base (L2.CX P w) (gam K cls) "is_row" 1 ["value", "size"] h_is_row) : Def false P w K mg base (L2.CX P w) (gam K cls) "has_word" 2 ["value", "word"] h_has_word := by
  obtain ⟨fd, F⟩ := s.f_has_word
  refine ⟨_, fd, s.g_has_word, F.kp, def_d (k := 1) (m := 0) (G := G_has_word) F sc_has_word rfl fun cdv A outer s0 H E kx ky => ?_, F.bindsN fun _ _ _ _ _ _ us hl => match us, hl with | [_, _], _ => rfl⟩
  exact dss_one (ds_ret (de_and ((de_callN kx d_is_row (by decide) (da_cons ((dt_var 0).de) (da_cons (de_int) da_nil))).dt) (de_and ((de_isi s.n_isinstance (dt_ix (dt_var 0) ((de_int).dt)) (pe_bt s.n_str (by decide +kernel)) (.ty _) s.i_str).dt) (de_one (de_eq kx.u64 (dt_ix (dt_var 0) ((de_int).dt)) (dt_var 1))))))
theorem sc_Ratio_init : FnScope N_Ratio_init ["self", "n", "d"] (defScope ((cbody (top 28)).getD 0 (.Pass ⟨0, 0, 0, 0⟩))) := ⟨rfl, rfl, rfl, by decide +kernel, rfl, by decide +kernel, by decide +kernel⟩
theorem ok_Ratio_init (s : Say K mg) {fd : FuncData} (F : FunD K "__init__" "Ratio.__init__" (defArgs ((cbody (top 28)).getD 0 (.Pass ⟨0, 0, 0, 0⟩))) (defBody ((cbody (top 28)).getD 0 (.Pass ⟨0, 0, 0, 0⟩))) (defScope ((cbody (top 28)).getD 0 (.Pass ⟨0, 0, 0, 0⟩))) [V.int 1] [] (He.fAd K ("Ratio", some "__init__")) fd) : FnOk P w K mg base (L2.CX P w) 1 (He.fAd K ("Ratio", some "__init__")) fd ["self", "n", "d"] (spS ⟨K, gam K cls⟩ "Ratio" h_Ratio_init) := by
  refine def_s (k := 0) (m := 1) (G := G_Ratio_init) F sc_Ratio_init rfl fun cdv A outer s0 H E kx ky => ?_
  exact dss_cons (ds_if (db_eq kx.u64 (dt_var 2) ((de_int).dt)) (dss_one (ds_never)) (dss_nil))
      (dss_cons (ds_setF (i := 3) kx.nd (de_callF cr_gcd cv_gcd s.g_gcd (dk_cons (dt_var 1) (dk_cons (dt_var 2) dk_nil))))
      (dss_cons (ds_if (db_lt kx.u (dt_var 2) ((de_int).dt)) (dss_one (ds_setF (i := 3) kx.nd (de_neg (dt_var 3)))) (dss_nil))
      (dss_cons (ds_fld (dp_var 0) (de_div (dt_var 1) (dt_var 3)) s.at_n)
      (dss_one (ds_fld (dp_var 0) (de_div (dt_var 2) (dt_var 3)) s.at_d)))))
theorem sc_has_only : FnScope N_has_only ["text", "signs"] (defScope (top 23)) := ⟨rfl, rfl, rfl, by decide +kernel, rfl, by decide +kernel, by decide +kernel⟩
theorem ok_has_only (s : Say K mg) : Def false P w K mg base (L2.CX P w) (gam K cls) "has_only" 1 ["text", "signs"] h_has_only := by
  obtain ⟨fd, F⟩ := s.f_has_only
  refine ⟨_, fd, s.g_has_only, F.kp, def_d (k := 0) (m := 1) (G := G_has_only) F sc_has_only rfl fun cdv A outer s0 H E kx ky => ?_, F.bindsN fun _ _ _ _ _ _ us hl => match us, hl with | [_, _], _ => rfl⟩
  exact dss_cons (ds_for ky.po ky.calm (di_seq ((dt_var 0).de)) (dg_name kx.nd) (dss_one (ds_if (db_ni (dt_var 2) (dt_var 1)) (dss_one (ds_ret (de_bl))) (dss_nil))))
      (dss_one (ds_ret (de_ne kx.u64 (dt_var 0) ((de_str).dt))))
theorem sc_is_name : FnScope N_is_name ["text"] (defScope (top 24)) := ⟨rfl, rfl, rfl, by decide +kernel, rfl, by decide +kernel, by decide +kernel⟩
theorem ok_is_name (s : Say K mg) (d_has_only : Def false P w K mg base (L2.CX P w) (gam K cls) "has_only" 1 ["text", "signs"] h_has_only) : Def false P w K mg base (L2.CX P w) (gam K cls) "is_name" 2 ["text"] h_is_name := by
  obtain ⟨fd, F⟩ := s.f_is_name
  refine ⟨_, fd, s.g_is_name, F.kp, def_d (k := 1) (m := 0) (G := G_is_name) F sc_is_name rfl fun cdv A outer s0 H E kx ky => ?_, F.bindsN fun _ _ _ _ _ _ us hl => match us, hl with | [_], _ => rfl⟩
  exact dss_one (ds_ret (de_and ((de_chain op_le ov_le op_le ov_le ((de_int).dt) ((de_callB cr_len cv_len (by decide +kernel) s.n_len (dk_cons (dt_var 0) dk_nil)).dt) ((de_int).dt)).dt) (de_and ((de_in (dt_ix (dt_var 0) ((de_int).dt)) ((de_gstr s.gc_LETTERS).dt)).dt) (de_one (de_callN kx d_has_only (by decide) (da_cons ((dt_var 0).de) (da_cons (de_add ((de_gstr s.gc_LETTERS).dt) ((de_gstr s.gc_DIGITS).dt)) da_nil)))))))
theorem sc_is_chance : FnScope N_is_chance ["value", "finest"] (defScope (top 31)) := ⟨rfl, rfl, rfl, by decide +kernel, rfl, by decide +kernel, by decide +kernel⟩
theorem ok_is_chance (s : Say K mg) : Def false P w K mg base (L2.CX P w) (gam K cls) "is_chance" 1 ["value", "finest"] h_is_chance := by
  obtain ⟨fd, F⟩ := s.f_is_chance
  refine ⟨_, fd, s.g_is_chance, F.kp, def_d (k := 0) (m := 0) (G := G_is_chance) F sc_is_chance rfl fun cdv A outer s0 H E kx ky => ?_, F.bindsN fun _ _ _ _ _ _ us hl => match us, hl with | [_, _], _ => rfl⟩
  exact dss_one (ds_ret (de_and ((de_isi s.n_isinstance (dt_var 0) (pe_own s.g_Ratio) (.own _) s.i_Ratio).dt) (de_one (de_chain4 op_le ov_le op_le ov_le op_le ov_le ((de_int).dt) (dt_fld (dt_var 0) (s.at_n) (s.ax_n)) (dt_fld (dt_var 0) (s.at_d) (s.ax_d)) (dt_var 1)))))
theorem sc_Net_is_arrow : FnScope N_Net_is_arrow ["self", "row"] (defScope ((cbody (top 32)).getD 8 (.Pass ⟨0, 0, 0, 0⟩))) := ⟨rfl, rfl, rfl, by decide +kernel, rfl, by decide +kernel, by decide +kernel⟩
theorem ok_Net_is_arrow (s : Say K mg) (d_is_chance : Def false P w K mg base (L2.CX P w) (gam K cls) "is_chance" 1 ["value", "finest"] h_is_chance) (d_is_name : Def false P w K mg base (L2.CX P w) (gam K cls) "is_name" 2 ["text"] h_is_name) (d_is_number : Def false P w K mg base (L2.CX P w) (gam K cls) "is_number" 2 ["value"] h_is_number) : MDef false P w K mg base (L2.CX P w) (gam K cls) "Net" "is_arrow" 3 ["self", "row"] h_Net_is_arrow := by
  obtain ⟨fd, F⟩ := s.f_Net_is_arrow
  refine ⟨_, _, fd, rfl, s.k_Net_is_arrow.1, s.k_Net_is_arrow.2.1, s.k_Net_is_arrow.2.2, def_d (k := 2) (m := 2) (G := G_Net_is_arrow) F sc_Net_is_arrow rfl fun cdv A outer s0 H E kx ky => ?_, F.bindsN fun _ _ _ _ _ _ us hl => match us, hl with | [_, _], _ => rfl⟩
  exact dss_cons (ds_setF (i := 2) kx.nd (de_callTy cr_range1 cv_range1 (by decide +kernel) s.n_range (dk_cons (de_callB cr_len cv_len (by decide +kernel) s.n_len (dk_cons (dt_fld (dt_var 0) (s.at_places) (s.ax_places)) dk_nil)).dt dk_nil)))
      (dss_cons (ds_if ((dw_or (db_not (db_tru ((de_callN kx d_is_name (by decide) (da_cons ((dt_ix (dt_var 1) ((de_int).dt)).de) da_nil)).dt))) (dw_or (db_ni (dt_ix (dt_var 1) ((de_int).dt)) (dt_var 2)) (dw_or (db_ni (dt_ix (dt_var 1) ((de_int).dt)) (dt_var 2)) (dw_or1 (db_eq kx.u64 (dt_ix (dt_var 1) ((de_int).dt)) (dt_ix (dt_var 1) ((de_int).dt))))))).db) (dss_one (ds_ret (de_bl))) (dss_nil))
      (dss_cons (ds_for ky.po ky.calm (di_seq (de_slice (dt_var 1) (do_some ((de_int).dt)) (do_some ((de_int).dt)))) (dg_name kx.nd) (dss_one (ds_if ((dw_or (db_not (db_tru ((de_callN kx d_is_number (by decide) (da_cons ((dt_var 3).de) da_nil)).dt))) (dw_or1 (db_gt (dt_var 3) ((de_con (dt_var 0) s.co_LARGEST (fun _ _ => .int _)).dt)))).db) (dss_one (ds_ret (de_bl))) (dss_nil))))
      (dss_one (ds_ret (de_callN kx d_is_chance (by decide) (da_cons ((dt_ix (dt_var 1) ((de_int).dt)).de) (da_cons (de_con (dt_var 0) s.co_FINEST (fun _ _ => .int _)) da_nil)))))))
theorem sc_Net_check_places : FnScope N_Net_check_places ["self"] (defScope ((cbody (top 32)).getD 6 (.Pass ⟨0, 0, 0, 0⟩))) := ⟨rfl, rfl, rfl, by decide +kernel, rfl, by decide +kernel, by decide +kernel⟩
theorem ok_Net_check_places (s : Say K mg) (d_is_name : Def false P w K mg base (L2.CX P w) (gam K cls) "is_name" 2 ["text"] h_is_name) : MDef false P w K mg base (L2.CX P w) (gam K cls) "Net" "check_places" 3 ["self"] h_Net_check_places := by
  obtain ⟨fd, F⟩ := s.f_Net_check_places
  refine ⟨_, _, fd, rfl, s.k_Net_check_places.1, s.k_Net_check_places.2.1, s.k_Net_check_places.2.2, def_d (k := 2) (m := 2) (G := G_Net_check_places) F sc_Net_check_places rfl fun cdv A outer s0 H E kx ky => ?_, F.bindsN fun _ _ _ _ _ _ us hl => match us, hl with | [_], _ => rfl⟩
  exact dss_cons (ds_if (db_not (db_tru (dt_fld (dt_var 0) (s.at_places) (s.ax_places)))) (dss_one (ds_never)) (dss_nil))
      (dss_one (ds_for ky.po ky.calm (di_enum s.n_enumerate (dt_fld (dt_var 0) (s.at_places) (s.ax_places))) (dg_tup ky.calm (dgs_cons (dg_name kx.nd) (dgs_cons (dg_name kx.nd) dgs_nil))) (dss_one (ds_if ((dw_or (db_not (db_tru ((de_callN kx d_is_name (by decide) (da_cons ((dt_var 2).de) da_nil)).dt))) (dw_or1 (db_in (dt_var 2) ((de_slice (dt_fld (dt_var 0) (s.at_places) (s.ax_places)) do_none (do_some (dt_var 1))).dt)))).db) (dss_one (ds_never)) (dss_nil)))))
theorem sc_Net_check_arrows : FnScope N_Net_check_arrows ["self"] (defScope ((cbody (top 32)).getD 7 (.Pass ⟨0, 0, 0, 0⟩))) := ⟨rfl, rfl, rfl, by decide +kernel, rfl, by decide +kernel, by decide +kernel⟩
theorem ok_Net_check_arrows (s : Say K mg) (d_Net_is_arrow : MDef false P w K mg base (L2.CX P w) (gam K cls) "Net" "is_arrow" 3 ["self", "row"] h_Net_is_arrow) : MDef false P w K mg base (L2.CX P w) (gam K cls) "Net" "check_arrows" 5 ["self"] h_Net_check_arrows := by
  obtain ⟨fd, F⟩ := s.f_Net_check_arrows
  refine ⟨_, _, fd, rfl, s.k_Net_check_arrows.1, s.k_Net_check_arrows.2.1, s.k_Net_check_arrows.2.2, def_d (k := 4) (m := 3) (G := G_Net_check_arrows) F sc_Net_check_arrows rfl fun cdv A outer s0 H E kx ky => ?_, F.bindsN fun _ _ _ _ _ _ us hl => match us, hl with | [_], _ => rfl⟩
  exact dss_cons (ds_set (i := 1) kx.nd (de_lst da_nil) (by decide))
      (dss_one (ds_for ky.po ky.calm (di_enum s.n_enumerate (dt_fld (dt_var 0) (s.at_arrows) (s.ax_arrows))) (dg_tup ky.calm (dgs_cons (dg_name kx.nd) (dgs_cons (dg_name kx.nd) dgs_nil))) (dss_cons (ds_if ((dw_or (db_not (db_tru ((de_methN kx d_Net_is_arrow (by decide) ((dt_var 0).de) (da_cons ((dt_var 3).de) da_nil)).dt))) (dw_or1 (db_in (dt_ix (dt_var 3) ((de_int).dt)) (dt_var 1)))).db) (dss_one (ds_never)) (dss_nil))
      (dss_one (ds_app (dp_var 1) ((dt_ix (dt_var 3) ((de_int).dt)).de))))))
theorem sc_Net_init : FnScope N_Net_init ["self", "places", "arrows"] (defScope ((cbody (top 32)).getD 4 (.Pass ⟨0, 0, 0, 0⟩))) := ⟨rfl, rfl, rfl, by decide +kernel, rfl, by decide +kernel, by decide +kernel⟩
theorem ok_Net_init (s : Say K mg) (d_Net_check_arrows : MDef false P w K mg base (L2.CX P w) (gam K cls) "Net" "check_arrows" 5 ["self"] h_Net_check_arrows) (d_Net_check_places : MDef false P w K mg base (L2.CX P w) (gam K cls) "Net" "check_places" 3 ["self"] h_Net_check_places) {fd : FuncData} (F : FunD K "__init__" "Net.__init__" (defArgs ((cbody (top 32)).getD 4 (.Pass ⟨0, 0, 0, 0⟩))) (defBody ((cbody (top 32)).getD 4 (.Pass ⟨0, 0, 0, 0⟩))) (defScope ((cbody (top 32)).getD 4 (.Pass ⟨0, 0, 0, 0⟩))) [] [] (He.fAd K ("Net", some "__init__")) fd) : FnOk P w K mg base (L2.CX P w) 7 (He.fAd K ("Net", some "__init__")) fd ["self", "places", "arrows"] (spS ⟨K, gam K cls⟩ "Net" h_Net_init) := by
  refine def_s (k := 6) (m := 1) (G := G_Net_init) F sc_Net_init rfl fun cdv A outer s0 H E kx ky => ?_
  exact dss_cons (ds_if (db_gt ((de_callB cr_len cv_len (by decide +kernel) s.n_len (dk_cons (dt_var 1) dk_nil)).dt) ((de_con (dt_var 0) s.co_MOST_PLACES (fun _ _ => .int _)).dt)) (dss_one (ds_never)) (dss_nil))
      (dss_cons (ds_if (db_gt ((de_callB cr_len cv_len (by decide +kernel) s.n_len (dk_cons (dt_var 2) dk_nil)).dt) ((de_con (dt_var 0) s.co_MOST_ARROWS (fun _ _ => .int _)).dt)) (dss_one (ds_never)) (dss_nil))
      (dss_cons (ds_fld (dp_var 0) (de_callTy call_tuple_of cv_tuple (by decide +kernel) s.n_tuple (dk_cons (dt_var 1) dk_nil)) s.at_places)
      (dss_cons (ds_fld (dp_var 0) (de_callTy call_tuple_of cv_tuple (by decide +kernel) s.n_tuple (dk_cons (de_lc (own := [("row", 3)]) ky.calm kx.nd (blkOk_by (N := N_Net_init) (sc := defScope ((cbody (top 32)).getD 4 (.Pass ⟨0, 0, 0, 0⟩))) (by decide +kernel)) (di_seq ((dt_var 2).de)) (fun sB1 HB1 CB1 clB1 fpB1 => (dgb_name kx.nd (by decide))) (fun sB1 HB1 CB1 clB1 fpB1 => dts_nil) (fun sB1 HB1 CB1 clB1 fpB1 => de_callTy call_tuple_of cv_tuple (by decide +kernel) s.n_tuple (dk_cons (dt_var 3) dk_nil))).dt dk_nil)) s.at_arrows)
      (dss_cons (ds_expr (de_lend 0 (de_methN0 kx d_Net_check_places (by decide) ((dt_var 0).de))))
      (dss_cons (ds_expr (de_lend 0 (de_methN0 kx d_Net_check_arrows (by decide) ((dt_var 0).de))))
      (dss_cons (ds_fld (dp_var 0) (de_callTy call_tuple_of cv_tuple (by decide +kernel) s.n_tuple (dk_cons (de_lc (own := [("row", 3)]) ky.calm kx.nd (blkOk_by (N := N_Net_init) (sc := defScope ((cbody (top 32)).getD 4 (.Pass ⟨0, 0, 0, 0⟩))) (by decide +kernel)) (di_seq ((dt_fld (dt_var 0) (s.at_arrows) (s.ax_arrows)).de)) (fun sB2 HB2 CB2 clB2 fpB2 => (dgb_name kx.nd (by decide))) (fun sB2 HB2 CB2 clB2 fpB2 => dts_nil) (fun sB2 HB2 CB2 clB2 fpB2 => (dt_ix (dt_var 3) ((de_int).dt)).de)).dt dk_nil)) s.at_names)
      (dss_cons (ds_fld (dp_var 0) (de_callTy call_tuple_of cv_tuple (by decide +kernel) s.n_tuple (dk_cons (de_lc (own := [("row", 3)]) ky.calm kx.nd (blkOk_by (N := N_Net_init) (sc := defScope ((cbody (top 32)).getD 4 (.Pass ⟨0, 0, 0, 0⟩))) (by decide +kernel)) (di_seq ((dt_fld (dt_var 0) (s.at_arrows) (s.ax_arrows)).de)) (fun sB3 HB3 CB3 clB3 fpB3 => (dgb_name kx.nd (by decide))) (fun sB3 HB3 CB3 clB3 fpB3 => dts_nil) (fun sB3 HB3 CB3 clB3 fpB3 => (dt_ix (dt_var 3) ((de_int).dt)).de)).dt dk_nil)) s.at_tails)
      (dss_cons (ds_fld (dp_var 0) (de_callTy call_tuple_of cv_tuple (by decide +kernel) s.n_tuple (dk_cons (de_lc (own := [("row", 3)]) ky.calm kx.nd (blkOk_by (N := N_Net_init) (sc := defScope ((cbody (top 32)).getD 4 (.Pass ⟨0, 0, 0, 0⟩))) (by decide +kernel)) (di_seq ((dt_fld (dt_var 0) (s.at_arrows) (s.ax_arrows)).de)) (fun sB4 HB4 CB4 clB4 fpB4 => (dgb_name kx.nd (by decide))) (fun sB4 HB4 CB4 clB4 fpB4 => dts_nil) (fun sB4 HB4 CB4 clB4 fpB4 => (dt_ix (dt_var 3) ((de_int).dt)).de)).dt dk_nil)) s.at_heads)
      (dss_cons (ds_fld (dp_var 0) (de_callTy call_tuple_of cv_tuple (by decide +kernel) s.n_tuple (dk_cons (de_lc (own := [("row", 3)]) ky.calm kx.nd (blkOk_by (N := N_Net_init) (sc := defScope ((cbody (top 32)).getD 4 (.Pass ⟨0, 0, 0, 0⟩))) (by decide +kernel)) (di_seq ((dt_fld (dt_var 0) (s.at_arrows) (s.ax_arrows)).de)) (fun sB5 HB5 CB5 clB5 fpB5 => (dgb_name kx.nd (by decide))) (fun sB5 HB5 CB5 clB5 fpB5 => dts_nil) (fun sB5 HB5 CB5 clB5 fpB5 => (dt_ix (dt_var 3) ((de_int).dt)).de)).dt dk_nil)) s.at_lengths)
      (dss_cons (ds_fld (dp_var 0) (de_callTy call_tuple_of cv_tuple (by decide +kernel) s.n_tuple (dk_cons (de_lc (own := [("row", 3)]) ky.calm kx.nd (blkOk_by (N := N_Net_init) (sc := defScope ((cbody (top 32)).getD 4 (.Pass ⟨0, 0, 0, 0⟩))) (by decide +kernel)) (di_seq ((dt_fld (dt_var 0) (s.at_arrows) (s.ax_arrows)).de)) (fun sB6 HB6 CB6 clB6 fpB6 => (dgb_name kx.nd (by decide))) (fun sB6 HB6 CB6 clB6 fpB6 => dts_nil) (fun sB6 HB6 CB6 clB6 fpB6 => (dt_ix (dt_var 3) ((de_int).dt)).de)).dt dk_nil)) s.at_caps)
      (dss_cons (ds_fld (dp_var 0) (de_callTy call_tuple_of cv_tuple (by decide +kernel) s.n_tuple (dk_cons (de_lc (own := [("row", 3)]) ky.calm kx.nd (blkOk_by (N := N_Net_init) (sc := defScope ((cbody (top 32)).getD 4 (.Pass ⟨0, 0, 0, 0⟩))) (by decide +kernel)) (di_seq ((dt_fld (dt_var 0) (s.at_arrows) (s.ax_arrows)).de)) (fun sB7 HB7 CB7 clB7 fpB7 => (dgb_name kx.nd (by decide))) (fun sB7 HB7 CB7 clB7 fpB7 => dts_nil) (fun sB7 HB7 CB7 clB7 fpB7 => (dt_ix (dt_var 3) ((de_int).dt)).de)).dt dk_nil)) s.at_prices)
      (dss_cons (ds_fld (dp_var 0) (de_callTy call_tuple_of cv_tuple (by decide +kernel) s.n_tuple (dk_cons (de_lc (own := [("row", 3)]) ky.calm kx.nd (blkOk_by (N := N_Net_init) (sc := defScope ((cbody (top 32)).getD 4 (.Pass ⟨0, 0, 0, 0⟩))) (by decide +kernel)) (di_seq ((dt_fld (dt_var 0) (s.at_arrows) (s.ax_arrows)).de)) (fun sB8 HB8 CB8 clB8 fpB8 => (dgb_name kx.nd (by decide))) (fun sB8 HB8 CB8 clB8 fpB8 => dts_nil) (fun sB8 HB8 CB8 clB8 fpB8 => (dt_ix (dt_var 3) ((de_int).dt)).de)).dt dk_nil)) s.at_rooms)
      (dss_one (ds_fld (dp_var 0) (de_callTy call_tuple_of cv_tuple (by decide +kernel) s.n_tuple (dk_cons (de_lc (own := [("row", 3)]) ky.calm kx.nd (blkOk_by (N := N_Net_init) (sc := defScope ((cbody (top 32)).getD 4 (.Pass ⟨0, 0, 0, 0⟩))) (by decide +kernel)) (di_seq ((dt_fld (dt_var 0) (s.at_arrows) (s.ax_arrows)).de)) (fun sB9 HB9 CB9 clB9 fpB9 => (dgb_name kx.nd (by decide))) (fun sB9 HB9 CB9 clB9 fpB9 => dts_nil) (fun sB9 HB9 CB9 clB9 fpB9 => (dt_ix (dt_var 3) ((de_int).dt)).de)).dt dk_nil)) s.at_chances))))))))))))))
theorem sc_Net_left : FnScope N_Net_left ["self", "cut"] (defScope ((cbody (top 32)).getD 9 (.Pass ⟨0, 0, 0, 0⟩))) := ⟨rfl, rfl, rfl, by decide +kernel, rfl, by decide +kernel, by decide +kernel⟩
theorem ok_Net_left (s : Say K mg) : MDef false P w K mg base (L2.CX P w) (gam K cls) "Net" "left" 1 ["self", "cut"] h_Net_left := by
  obtain ⟨fd, F⟩ := s.f_Net_left
  refine ⟨_, _, fd, rfl, s.k_Net_left.1, s.k_Net_left.2.1, s.k_Net_left.2.2, def_d (k := 0) (m := 1) (G := G_Net_left) F sc_Net_left rfl fun cdv A outer s0 H E kx ky => ?_, F.bindsN fun _ _ _ _ _ _ us hl => match us, hl with | [_, _], _ => rfl⟩
  exact dss_one (ds_ret (de_callTy call_tuple_of cv_tuple (by decide +kernel) s.n_tuple (dk_cons (de_lc (own := [("arrow", 2)]) ky.calm kx.nd (blkOk_by (N := N_Net_left) (sc := defScope ((cbody (top 32)).getD 9 (.Pass ⟨0, 0, 0, 0⟩))) (by decide +kernel)) (di_range1 s.n_range ((de_callB cr_len cv_len (by decide +kernel) s.n_len (dk_cons (dt_fld (dt_var 0) (s.at_arrows) (s.ax_arrows)) dk_nil)).dt)) (fun sB10 HB10 CB10 clB10 fpB10 => (dgb_name kx.nd (by decide))) (fun sB10 HB10 CB10 clB10 fpB10 => dts_one (db_ni (dt_var 2) (dt_var 1))) (fun sB10 HB10 CB10 clB10 fpB10 => (dt_var 2).de)).dt dk_nil)))
theorem sc_shows_heights : FnScope N_shows_heights ["net", "lengths", "start", "goal", "cut", "value", "worth"] (defScope (top 17)) := ⟨rfl, rfl, rfl, by decide +kernel, rfl, by decide +kernel, by decide +kernel⟩
theorem ok_shows_heights (s : Say K mg) (d_is_wholes : Def false P w K mg base (L2.CX P w) (gam K cls) "is_wholes" 2 ["value", "size"] h_is_wholes) (d_Net_left : MDef false P w K mg base (L2.CX P w) (gam K cls) "Net" "left" 1 ["self", "cut"] h_Net_left) : Def false P w K mg base (L2.CX P w) (gam K cls) "shows_heights" 3 ["net", "lengths", "start", "goal", "cut", "value", "worth"] h_shows_heights := by
  obtain ⟨fd, F⟩ := s.f_shows_heights
  refine ⟨_, fd, s.g_shows_heights, F.kp, def_d (k := 2) (m := 1) (G := G_shows_heights) F sc_shows_heights rfl fun cdv A outer s0 H E kx ky => ?_, F.bindsN fun _ _ _ _ _ _ us hl => match us, hl with | [_, _, _, _, _, _, _], _ => rfl⟩
  exact dss_cons (ds_if ((dw_or (db_not (db_tru ((de_callN kx d_is_wholes (by decide) (da_cons ((dt_var 5).de) (da_cons (de_callB cr_len cv_len (by decide +kernel) s.n_len (dk_cons (dt_fld (dt_var 0) (s.at_places) (s.ax_places)) dk_nil)) da_nil))).dt))) (dw_or (db_ne kx.u64 (dt_ix (dt_var 5) (dt_var 2)) ((de_int).dt)) (dw_or1 (db_ne kx.u64 (dt_ix (dt_var 5) (dt_var 3)) (dt_var 6))))).db) (dss_one (ds_ret (de_bl))) (dss_nil))
      (dss_cons (ds_for ky.po ky.calm (di_seq (de_methN kx d_Net_left (by decide) ((dt_var 0).de) (da_cons ((dt_var 4).de) da_nil))) (dg_name kx.nd) (dss_one (ds_if (db_gt (dt_ix (dt_var 5) (dt_ix (dt_fld (dt_var 0) (s.at_heads) (s.ax_heads)) (dt_var 7))) ((de_add (dt_ix (dt_var 5) (dt_ix (dt_fld (dt_var 0) (s.at_tails) (s.ax_tails)) (dt_var 7))) (dt_ix (dt_var 1) (dt_var 7))).dt)) (dss_one (ds_ret (de_bl))) (dss_nil))))
      (dss_one (ds_ret (de_bl))))
theorem sc_shows_closed : FnScope N_shows_closed ["net", "start", "goal", "cut", "value"] (defScope (top 18)) := ⟨rfl, rfl, rfl, by decide +kernel, rfl, by decide +kernel, by decide +kernel⟩
theorem ok_shows_closed (s : Say K mg) (d_is_lot : Def false P w K mg base (L2.CX P w) (gam K cls) "is_lot" 2 ["value", "size"] h_is_lot) (d_Net_left : MDef false P w K mg base (L2.CX P w) (gam K cls) "Net" "left" 1 ["self", "cut"] h_Net_left) : Def false P w K mg base (L2.CX P w) (gam K cls) "shows_closed" 3 ["net", "start", "goal", "cut", "value"] h_shows_closed := by
  obtain ⟨fd, F⟩ := s.f_shows_closed
  refine ⟨_, fd, s.g_shows_closed, F.kp, def_d (k := 2) (m := 1) (G := G_shows_closed) F sc_shows_closed rfl fun cdv A outer s0 H E kx ky => ?_, F.bindsN fun _ _ _ _ _ _ us hl => match us, hl with | [_, _, _, _, _], _ => rfl⟩
  exact dss_cons (ds_if ((dw_or (db_not (db_tru ((de_callN kx d_is_lot (by decide) (da_cons ((dt_var 4).de) (da_cons (de_callB cr_len cv_len (by decide +kernel) s.n_len (dk_cons (dt_fld (dt_var 0) (s.at_places) (s.ax_places)) dk_nil)) da_nil))).dt))) (dw_or (db_ni (dt_var 1) (dt_var 4)) (dw_or1 (db_in (dt_var 2) (dt_var 4))))).db) (dss_one (ds_ret (de_bl))) (dss_nil))
      (dss_cons (ds_for ky.po ky.calm (di_seq (de_methN kx d_Net_left (by decide) ((dt_var 0).de) (da_cons ((dt_var 3).de) da_nil))) (dg_name kx.nd) (dss_one (ds_if ((dw_and (db_in (dt_ix (dt_fld (dt_var 0) (s.at_tails) (s.ax_tails)) (dt_var 5)) (dt_var 4)) (dw_and1 (db_ni (dt_ix (dt_fld (dt_var 0) (s.at_heads) (s.ax_heads)) (dt_var 5)) (dt_var 4)))).db) (dss_one (ds_ret (de_bl))) (dss_nil))))
      (dss_one (ds_ret (de_bl))))
theorem sc_shows_distance : FnScope N_shows_distance ["net", "lengths", "start", "goal", "cut", "bound", "worth"] (defScope (top 19)) := ⟨rfl, rfl, rfl, by decide +kernel, rfl, by decide +kernel, by decide +kernel⟩
theorem ok_shows_distance (s : Say K mg) (d_has_word : Def false P w K mg base (L2.CX P w) (gam K cls) "has_word" 2 ["value", "word"] h_has_word) (d_shows_closed : Def false P w K mg base (L2.CX P w) (gam K cls) "shows_closed" 3 ["net", "start", "goal", "cut", "value"] h_shows_closed) (d_shows_heights : Def false P w K mg base (L2.CX P w) (gam K cls) "shows_heights" 3 ["net", "lengths", "start", "goal", "cut", "value", "worth"] h_shows_heights) : Def false P w K mg base (L2.CX P w) (gam K cls) "shows_distance" 4 ["net", "lengths", "start", "goal", "cut", "bound", "worth"] h_shows_distance := by
  obtain ⟨fd, F⟩ := s.f_shows_distance
  refine ⟨_, fd, s.g_shows_distance, F.kp, def_d (k := 3) (m := 0) (G := G_shows_distance) F sc_shows_distance rfl fun cdv A outer s0 H E kx ky => ?_, F.bindsN fun _ _ _ _ _ _ us hl => match us, hl with | [_, _, _, _, _, _, _], _ => rfl⟩
  exact dss_cons (ds_if (db_is (dt_var 6) ((de_non).dt)) (dss_one (ds_ret (de_and ((de_callN kx d_has_word (by decide) (da_cons ((dt_var 5).de) (da_cons (de_str) da_nil))).dt) (de_one (de_callN kx d_shows_closed (by decide) (da_cons ((dt_var 0).de) (da_cons ((dt_var 2).de) (da_cons ((dt_var 3).de) (da_cons ((dt_var 4).de) (da_cons ((dt_ix (dt_var 5) ((de_int).dt)).de) da_nil)))))))))) (dss_nil))
      (dss_one (ds_ret (de_and ((de_callN kx d_has_word (by decide) (da_cons ((dt_var 5).de) (da_cons (de_str) da_nil))).dt) (de_one (de_callN kx d_shows_heights (by decide) (da_cons ((dt_var 0).de) (da_cons ((dt_var 1).de) (da_cons ((dt_var 2).de) (da_cons ((dt_var 3).de) (da_cons ((dt_var 4).de) (da_cons ((dt_ix (dt_var 5) ((de_int).dt)).de) (da_cons ((dt_var 6).de) da_nil))))))))))))
theorem sc__law_cell : FnScope N__law_cell ["script", "k"] (defScope (top 35)) := ⟨rfl, rfl, rfl, by decide +kernel, rfl, by decide +kernel, by decide +kernel⟩
theorem ok__law_cell (s : Say K mg) : Def false P w K mg base (L2.CX P w) (gam K cls) "_law_cell" 1 ["script", "k"] h__law_cell := by
  obtain ⟨fd, F⟩ := s.f__law_cell
  refine ⟨_, fd, s.g__law_cell, F.kp, def_d (k := 0) (m := 0) (G := G__law_cell) F sc__law_cell rfl fun cdv A outer s0 H E kx ky => ?_, F.bindsN fun _ _ _ _ _ _ us hl => match us, hl with | [_, _], _ => rfl⟩
  exact dss_cons (ds_if (db_lt kx.u (dt_var 1) ((de_callB cr_len cv_len (by decide +kernel) s.n_len (dk_cons (dt_var 0) dk_nil)).dt)) (dss_one (ds_ret ((dt_ix (dt_var 0) (dt_var 1)).de))) (dss_nil))
      (dss_cons (ds_if (db_eq kx.u64 ((de_callB cr_len cv_len (by decide +kernel) s.n_len (dk_cons (dt_var 0) dk_nil)).dt) ((de_int).dt)) (dss_one (ds_ret (de_int))) (dss_nil))
      (dss_one (ds_ret (de_mod ((de_callTy call_int1 cv_int (by decide +kernel) s.n_int (dk_cons (dt_ix (dt_var 0) ((de_mod ((de_callTy call_int1 cv_int (by decide +kernel) s.n_int (dk_cons (dt_var 1) dk_nil)).dt) ((de_callB cr_len cv_len (by decide +kernel) s.n_len (dk_cons (dt_var 0) dk_nil)).dt)).dt)) dk_nil)).dt) ((de_int).dt)))))
theorem sc__law_mixed : FnScope N__law_mixed ["cell", "k"] (defScope (top 36)) := ⟨rfl, rfl, rfl, by decide +kernel, rfl, by decide +kernel, by decide +kernel⟩
theorem ok__law_mixed (s : Say K mg) : Def false P w K mg base (L2.CX P w) (gam K cls) "_law_mixed" 1 ["cell", "k"] h__law_mixed := by
  obtain ⟨fd, F⟩ := s.f__law_mixed
  refine ⟨_, fd, s.g__law_mixed, F.kp, def_d (k := 0) (m := 2) (G := G__law_mixed) F sc__law_mixed rfl fun cdv A outer s0 H E kx ky => ?_, F.bindsN fun _ _ _ _ _ _ us hl => match us, hl with | [_, _], _ => rfl⟩
  exact dss_cons (ds_setF (i := 2) kx.nd (de_mod ((de_add ((de_add ((de_mul ((de_mod ((de_callTy call_int1 cv_int (by decide +kernel) s.n_int (dk_cons (dt_var 0) dk_nil)).dt) ((de_int).dt)).dt) ((de_int).dt)).dt) ((de_mul (dt_var 1) ((de_int).dt)).dt)).dt) ((de_int).dt)).dt) ((de_int).dt)))
      (dss_cons (ds_setF (i := 3) kx.nd (de_mod ((de_add ((de_add ((de_mul (dt_var 2) ((de_int).dt)).dt) ((de_mul ((de_mul (dt_var 1) (dt_var 1)).dt) ((de_int).dt)).dt)).dt) ((de_mod ((de_callTy call_int1 cv_int (by decide +kernel) s.n_int (dk_cons (dt_var 0) dk_nil)).dt) ((de_int).dt)).dt)).dt) ((de_int).dt)))
      (dss_one (ds_ret (de_mod ((de_add ((de_mul (dt_var 3) ((de_int).dt)).dt) (dt_var 2)).dt) ((de_int).dt)))))
theorem sc__law_draws : FnScope N__law_draws ["script", "at", "many"] (defScope (top 37)) := ⟨rfl, rfl, rfl, by decide +kernel, rfl, by decide +kernel, by decide +kernel⟩
theorem ok__law_draws (s : Say K mg) (d__law_cell : Def false P w K mg base (L2.CX P w) (gam K cls) "_law_cell" 1 ["script", "k"] h__law_cell) (d__law_mixed : Def false P w K mg base (L2.CX P w) (gam K cls) "_law_mixed" 1 ["cell", "k"] h__law_mixed) : Def false P w K mg base (L2.CX P w) (gam K cls) "_law_draws" 2 ["script", "at", "many"] h__law_draws := by
  obtain ⟨fd, F⟩ := s.f__law_draws
  refine ⟨_, fd, s.g__law_draws, F.kp, def_d (k := 1) (m := 5) (G := G__law_draws) F sc__law_draws rfl fun cdv A outer s0 H E kx ky => ?_, F.bindsN fun _ _ _ _ _ _ us hl => match us, hl with | [_, _, _], _ => rfl⟩
  exact dss_cons (ds_setF (i := 3) kx.nd (de_callN kx d__law_cell (by decide) (da_cons ((dt_var 0).de) (da_cons ((dt_var 1).de) da_nil))))
      (dss_cons (ds_setF (i := 4) kx.nd (de_add (dt_var 3) ((de_mul (dt_var 1) ((de_int).dt)).dt)))
      (dss_cons (ds_set (i := 5) kx.nd (de_lst da_nil) (by decide))
      (dss_cons (ds_setF (i := 6) kx.nd (de_callB call_abs cv_abs (by decide +kernel) s.n_abs (dk_cons (dt_var 3) dk_nil)))
      (dss_cons (ds_for ky.po ky.calm (di_range1 s.n_range (dt_var 2)) (dg_name kx.nd) (dss_one (ds_if ((dw_and (db_ge ((de_callB call_abs cv_abs (by decide +kernel) s.n_abs (dk_cons (dt_var 3) dk_nil)).dt) ((de_pow ((de_int).dt) ((de_int).dt)).dt)) (dw_and1 (db_gt (dt_var 6) ((de_int).dt)))).db) (dss_cons (ds_app (dp_var 5) (de_mod ((de_callTy call_int1 cv_int (by decide +kernel) s.n_int (dk_cons (dt_var 6) dk_nil)).dt) ((de_pow ((de_int).dt) ((de_int).dt)).dt)))
      (dss_one (ds_setF (i := 6) kx.nd (de_div (dt_var 6) ((de_pow ((de_int).dt) ((de_int).dt)).dt))))) (dss_one (ds_app (dp_var 5) (de_add ((de_mul ((de_mul ((de_callN kx d__law_mixed (by decide) (da_cons ((dt_var 4).de) (da_cons ((dt_var 7).de) da_nil))).dt) ((de_int).dt)).dt) ((de_int).dt)).dt) ((de_callN kx d__law_mixed (by decide) (da_cons ((dt_var 4).de) (da_cons (de_add (dt_var 7) ((de_int).dt)) da_nil))).dt)))))))
      (dss_one (ds_retM 5))))))
theorem sc__law_number : FnScope N__law_number ["draw", "form"] (defScope (top 38)) := ⟨rfl, rfl, rfl, by decide +kernel, rfl, by decide +kernel, by decide +kernel⟩
theorem ok__law_number (s : Say K mg) : Def false P w K mg base (L2.CX P w) (gam K cls) "_law_number" 1 ["draw", "form"] h__law_number := by
  obtain ⟨fd, F⟩ := s.f__law_number
  refine ⟨_, fd, s.g__law_number, F.kp, def_d (k := 0) (m := 1) (G := G__law_number) F sc__law_number rfl fun cdv A outer s0 H E kx ky => ?_, F.bindsN fun _ _ _ _ _ _ us hl => match us, hl with | [_, _], _ => rfl⟩
  exact dss_cons (ds_setF (i := 2) kx.nd (de_callTy call_int1 cv_int (by decide +kernel) s.n_int (dk_cons (dt_var 0) dk_nil)))
      (dss_cons (ds_if (db_eq kx.u64 (dt_var 1) ((de_int).dt)) (dss_one (ds_ret (de_mod (dt_var 2) ((de_int).dt)))) (dss_nil))
      (dss_cons (ds_if (db_eq kx.u64 (dt_var 1) ((de_int).dt)) (dss_one (ds_ret (de_mod (dt_var 2) ((de_int).dt)))) (dss_nil))
      (dss_cons (ds_if (db_eq kx.u64 (dt_var 1) ((de_int).dt)) (dss_one (ds_ret (de_mod (dt_var 2) ((de_int).dt)))) (dss_nil))
      (dss_cons (ds_if (db_eq kx.u64 (dt_var 1) ((de_int).dt)) (dss_one (ds_ret (de_mod (dt_var 2) ((de_int).dt)))) (dss_nil))
      (dss_cons (ds_if (db_eq kx.u64 (dt_var 1) ((de_int).dt)) (dss_one (ds_ret (de_mod (dt_var 2) ((de_pow ((de_int).dt) ((de_int).dt)).dt)))) (dss_nil))
      (dss_one (ds_ret ((dt_ix ((de_lst (da_cons (de_int) (da_cons (de_int) (da_cons (de_int) (da_cons (de_int) (da_cons (de_int) (da_cons (de_int) (da_cons (de_sub ((de_pow ((de_int).dt) ((de_int).dt)).dt) ((de_int).dt)) (da_cons (de_int) da_nil))))))))).dt) ((de_mod (dt_var 2) ((de_int).dt)).dt)).de))))))))
theorem sc__law_rows : FnScope N__law_rows ["script", "first", "many", "wide", "start", "goal"] (defScope (top 39)) := ⟨rfl, rfl, rfl, by decide +kernel, rfl, by decide +kernel, by decide +kernel⟩
theorem ok__law_rows (s : Say K mg) (d__law_draws : Def false P w K mg base (L2.CX P w) (gam K cls) "_law_draws" 2 ["script", "at", "many"] h__law_draws) (d__law_number : Def false P w K mg base (L2.CX P w) (gam K cls) "_law_number" 1 ["draw", "form"] h__law_number) : Def false P w K mg base (L2.CX P w) (gam K cls) "_law_rows" 3 ["script", "first", "many", "wide", "start", "goal"] h__law_rows := by
  obtain ⟨fd, F⟩ := s.f__law_rows
  refine ⟨_, fd, s.g__law_rows, F.kp, def_d (k := 2) (m := 12) (G := G__law_rows) F sc__law_rows rfl fun cdv A outer s0 H E kx ky => ?_, F.bindsN fun _ _ _ _ _ _ us hl => match us, hl with | [_, _, _, _, _, _], _ => rfl⟩
  exact dss_cons (ds_setF (i := 6) kx.nd (de_callN kx d__law_draws (by decide) (da_cons ((dt_var 0).de) (da_cons ((dt_var 1).de) (da_cons (de_int) da_nil)))))
      (dss_cons (ds_set (i := 7) kx.nd (de_lst da_nil) (by decide))
      (dss_cons (ds_setF (i := 8) kx.nd (de_mod ((de_callTy call_int1 cv_int (by decide +kernel) s.n_int (dk_cons (de_sub (dt_var 5) (dt_var 4)).dt dk_nil)).dt) (dt_var 2)))
      (dss_cons (ds_for ky.po ky.calm (di_range1 s.n_range (dt_var 3)) (dg_name kx.nd) (dss_cons (ds_setF (i := 10) kx.nd (de_callN kx d__law_draws (by decide) (da_cons ((dt_var 0).de) (da_cons (de_add ((de_add (dt_var 1) ((de_int).dt)).dt) (dt_var 9)) (da_cons (de_int) da_nil)))))
      (dss_cons (ds_setF (i := 11) kx.nd (de_mod ((de_callTy call_int1 cv_int (by decide +kernel) s.n_int (dk_cons (dt_ix (dt_var 10) ((de_int).dt)) dk_nil)).dt) (dt_var 2)))
      (dss_cons (ds_setF (i := 12) kx.nd (de_mod ((de_add ((de_add (dt_var 11) ((de_int).dt)).dt) ((de_mod ((de_div ((de_callTy call_int1 cv_int (by decide +kernel) s.n_int (dk_cons (dt_ix (dt_var 10) ((de_int).dt)) dk_nil)).dt) (dt_var 2)).dt) ((de_sub (dt_var 2) ((de_int).dt)).dt)).dt)).dt) (dt_var 2)))
      (dss_cons (ds_setF (i := 13) kx.nd (de_mod ((de_div ((de_callTy call_int1 cv_int (by decide +kernel) s.n_int (dk_cons (dt_ix (dt_var 10) ((de_int).dt)) dk_nil)).dt) ((de_int).dt)).dt) ((de_int).dt)))
      (dss_cons (ds_if ((dw_and (db_lt kx.u (dt_var 9) (dt_var 8)) (dw_and1 (db_gt ((de_mod ((de_callTy call_int1 cv_int (by decide +kernel) s.n_int (dk_cons (dt_ix (dt_var 6) ((de_int).dt)) dk_nil)).dt) ((de_int).dt)).dt) ((de_int).dt)))).db) (dss_cons (ds_setF (i := 11) kx.nd (de_mod ((de_callTy call_int1 cv_int (by decide +kernel) s.n_int (dk_cons (de_add (dt_var 4) (dt_var 9)).dt dk_nil)).dt) (dt_var 2)))
      (dss_one (ds_setF (i := 12) kx.nd (de_mod ((de_callTy call_int1 cv_int (by decide +kernel) s.n_int (dk_cons (de_add ((de_add (dt_var 4) (dt_var 9)).dt) ((de_int).dt)).dt dk_nil)).dt) (dt_var 2))))) (dss_one (ds_if ((dw_and (db_eq kx.u64 (dt_var 13) ((de_int).dt)) (dw_and1 (db_gt (dt_var 9) ((de_int).dt)))).db) (dss_one (ds_par (i := 11) (j := 12) ky.calm kx.nd (da_cons ((dt_ix (dt_ix (dt_var 7) ((de_sub (dt_var 9) ((de_int).dt)).dt)) ((de_int).dt)).de) (da_cons ((dt_ix (dt_ix (dt_var 7) ((de_sub (dt_var 9) ((de_int).dt)).dt)) ((de_int).dt)).de) da_nil)))) (dss_one (ds_if ((dw_and (db_eq kx.u64 (dt_var 13) ((de_int).dt)) (dw_and1 (db_gt (dt_var 9) ((de_int).dt)))).db) (dss_one (ds_par (i := 11) (j := 12) ky.calm kx.nd (da_cons ((dt_ix (dt_ix (dt_var 7) ((de_div (dt_var 9) ((de_int).dt)).dt)) ((de_int).dt)).de) (da_cons ((dt_ix (dt_ix (dt_var 7) ((de_div (dt_var 9) ((de_int).dt)).dt)) ((de_int).dt)).de) da_nil)))) (dss_one (ds_if ((dw_and (db_eq kx.u64 (dt_var 13) ((de_int).dt)) (dw_and1 (db_gt (dt_var 9) ((de_int).dt)))).db) (dss_one (ds_par (i := 11) (j := 12) ky.calm kx.nd (da_cons ((dt_ix (dt_ix (dt_var 7) ((de_sub (dt_var 9) ((de_int).dt)).dt)) ((de_int).dt)).de) (da_cons ((dt_ix (dt_ix (dt_var 7) ((de_sub (dt_var 9) ((de_int).dt)).dt)) ((de_int).dt)).de) da_nil)))) (dss_nil))))))))
      (dss_cons (ds_setLcF (i := 14) (own := [("part", 17)]) ky.calm kx.nd (blkOk_by (N := N__law_rows) (sc := defScope (top 39)) (by decide +kernel)) (di_range1 s.n_range ((de_int).dt)) (fun sB11 HB11 CB11 clB11 fpB11 => (dgb_name kx.nd (by decide))) (fun sB11 HB11 CB11 clB11 fpB11 => dts_nil) (fun sB11 HB11 CB11 clB11 fpB11 => de_callN (kx.b sB11 HB11 CB11 clB11 fpB11) d__law_number (by decide) (da_cons ((dt_ix (dt_var 10) ((de_add ((de_int).dt) (dt_var 17)).dt)).de) (da_cons (de_mod ((de_callTy call_int1 cv_int (by decide +kernel) s.n_int (dk_cons (dt_ix (dt_var 6) ((de_add ((de_int).dt) (dt_var 17)).dt)) dk_nil)).dt) ((de_int).dt)) da_nil))))
      (dss_cons (ds_if ((dw_and (db_eq kx.u64 ((de_mod ((de_callTy call_int1 cv_int (by decide +kernel) s.n_int (dk_cons (dt_ix (dt_var 10) ((de_int).dt)) dk_nil)).dt) ((de_int).dt)).dt) ((de_int).dt)) (dw_and1 (db_gt (dt_var 9) ((de_int).dt)))).db) (dss_one (ds_setF (i := 14) kx.nd (de_lst (da_cons ((dt_ix (dt_ix (dt_var 7) ((de_sub (dt_var 9) ((de_int).dt)).dt)) ((de_int).dt)).de) (da_cons ((dt_ix (dt_ix (dt_var 7) ((de_sub (dt_var 9) ((de_int).dt)).dt)) ((de_int).dt)).de) (da_cons ((dt_ix (dt_ix (dt_var 7) ((de_sub (dt_var 9) ((de_int).dt)).dt)) ((de_int).dt)).de) (da_cons ((dt_ix (dt_ix (dt_var 7) ((de_sub (dt_var 9) ((de_int).dt)).dt)) ((de_int).dt)).de) da_nil))))))) (dss_nil))
      (dss_cons (ds_setF (i := 15) kx.nd ((dt_ix ((de_lst (da_cons (de_int) (da_cons (de_int) (da_cons (de_int) (da_cons (de_int) (da_cons (de_int) (da_cons (de_int) da_nil))))))).dt) ((de_mod ((de_div ((de_callTy call_int1 cv_int (by decide +kernel) s.n_int (dk_cons (dt_ix (dt_var 10) ((de_int).dt)) dk_nil)).dt) ((de_int).dt)).dt) ((de_int).dt)).dt)).de))
      (dss_cons (ds_setF (i := 16) kx.nd (de_mod ((de_div ((de_callTy call_int1 cv_int (by decide +kernel) s.n_int (dk_cons (dt_ix (dt_var 10) ((de_int).dt)) dk_nil)).dt) ((de_int).dt)).dt) ((de_add (dt_var 15) ((de_int).dt)).dt)))
      (dss_one (ds_app (dp_var 7) (de_tup (da_cons ((dt_var 11).de) (da_cons ((dt_var 12).de) (da_cons ((dt_ix (dt_var 14) ((de_int).dt)).de) (da_cons ((dt_ix (dt_var 14) ((de_int).dt)).de) (da_cons ((dt_ix (dt_var 14) ((de_int).dt)).de) (da_cons ((dt_ix (dt_var 14) ((de_int).dt)).de) (da_cons ((dt_var 16).de) (da_cons ((dt_var 15).de) da_nil)))))))))))))))))))))
      (dss_one (ds_retM 7)))))
theorem sc__law_net : FnScope N__law_net ["many", "rows"] (defScope (top 40)) := ⟨rfl, rfl, rfl, by decide +kernel, rfl, by decide +kernel, by decide +kernel⟩
theorem ok__law_net (s : Say K mg) (d_Net2 : MkD P w K mg base (gam K cls) "Net" 7 dd_Net2 h_Net_init) (d_Ratio1 : MkD P w K mg base (gam K cls) "Ratio" 1 dd_Ratio1 h_Ratio_init) (d_Ratio2 : MkD P w K mg base (gam K cls) "Ratio" 1 dd_Ratio2 h_Ratio_init) : Def false P w K mg base (L2.CX P w) (gam K cls) "_law_net" 9 ["many", "rows"] h__law_net := by
  obtain ⟨fd, F⟩ := s.f__law_net
  refine ⟨_, fd, s.g__law_net, F.kp, def_d (k := 8) (m := 3) (G := G__law_net) F sc__law_net rfl fun cdv A outer s0 H E kx ky => ?_, F.bindsN fun _ _ _ _ _ _ us hl => match us, hl with | [_, _], _ => rfl⟩
  exact dss_cons (ds_set (i := 2) kx.nd (de_lst da_nil) (by decide))
      (dss_cons (ds_for ky.po ky.calm (di_range1 s.n_range ((de_callB cr_len cv_len (by decide +kernel) s.n_len (dk_cons (dt_var 1) dk_nil)).dt)) (dg_name kx.nd) (dss_cons (ds_setF (i := 4) kx.nd ((dt_ix (dt_var 1) (dt_var 3)).de))
      (dss_one (ds_app (dp_var 2) (de_tup (da_cons (de_add ((de_str).dt) ((de_callTy call_str_int cv_str (by decide +kernel) s.n_str (dk_cons (dt_var 3) dk_nil)).dt)) (da_cons ((dt_ix (dt_var 4) ((de_int).dt)).de) (da_cons ((dt_ix (dt_var 4) ((de_int).dt)).de) (da_cons ((dt_ix (dt_var 4) ((de_int).dt)).de) (da_cons ((dt_ix (dt_var 4) ((de_int).dt)).de) (da_cons ((dt_ix (dt_var 4) ((de_int).dt)).de) (da_cons ((dt_ix (dt_var 4) ((de_int).dt)).de) (da_cons (de_shr (de_mk kx d_Ratio2 (by decide) (da_cons ((dt_ix (dt_var 4) ((de_int).dt)).de) (da_cons ((dt_ix (dt_var 4) ((de_int).dt)).de) da_nil)))) da_nil)))))))))))))
      (dss_frz 2 (dss_one (ds_ret (de_mk kx d_Net2 (by decide) (da_cons (de_lc (own := [("k", 3)]) ky.calm kx.nd (blkOk_by (N := N__law_net) (sc := defScope (top 40)) (by decide +kernel)) (di_range1 s.n_range (dt_var 0)) (fun sB12 HB12 CB12 clB12 fpB12 => (dgb_name kx.nd (by decide))) (fun sB12 HB12 CB12 clB12 fpB12 => dts_nil) (fun sB12 HB12 CB12 clB12 fpB12 => de_add ((de_str).dt) ((de_callTy call_str_int cv_str (by decide +kernel) s.n_str (dk_cons (dt_var 3) dk_nil)).dt))) (da_cons ((dt_var 2).de) da_nil)))))))
theorem sc__law_is_integer : FnScope N__law_is_integer ["actual"] (defScope (top 41)) := ⟨rfl, rfl, rfl, by decide +kernel, rfl, by decide +kernel, by decide +kernel⟩
theorem ok__law_is_integer (s : Say K mg) : Def false P w K mg base (L2.CX P w) (gam K cls) "_law_is_integer" 1 ["actual"] h__law_is_integer := by
  obtain ⟨fd, F⟩ := s.f__law_is_integer
  refine ⟨_, fd, s.g__law_is_integer, F.kp, def_d (k := 0) (m := 0) (G := G__law_is_integer) F sc__law_is_integer rfl fun cdv A outer s0 H E kx ky => ?_, F.bindsN fun _ _ _ _ _ _ us hl => match us, hl with | [_], _ => rfl⟩
  exact dss_one (ds_ret (de_and ((de_isi s.n_isinstance (dt_var 0) (pe_bt s.n_int (by decide +kernel)) (.ty _) s.i_int).dt) (de_one (de_not ((de_isi s.n_isinstance (dt_var 0) (pe_bt s.n_bool (by decide +kernel)) (.ty _) s.i_bool).dt)))))
theorem sc__law_is_row : FnScope N__law_is_row ["actual", "size"] (defScope (top 42)) := ⟨rfl, rfl, rfl, by decide +kernel, rfl, by decide +kernel, by decide +kernel⟩
theorem ok__law_is_row (s : Say K mg) : Def false P w K mg base (L2.CX P w) (gam K cls) "_law_is_row" 1 ["actual", "size"] h__law_is_row := by
  obtain ⟨fd, F⟩ := s.f__law_is_row
  refine ⟨_, fd, s.g__law_is_row, F.kp, def_d (k := 0) (m := 0) (G := G__law_is_row) F sc__law_is_row rfl fun cdv A outer s0 H E kx ky => ?_, F.bindsN fun _ _ _ _ _ _ us hl => match us, hl with | [_, _], _ => rfl⟩
  exact dss_one (ds_ret (de_and ((de_isi s.n_isinstance (dt_var 0) (pe_bt s.n_tuple (by decide +kernel)) (.ty _) s.i_tuple).dt) (de_one (de_eq kx.u64 ((de_callB cr_len cv_len (by decide +kernel) s.n_len (dk_cons (dt_var 0) dk_nil)).dt) (dt_var 1)))))
theorem sc__law_is_lot : FnScope N__law_is_lot ["actual", "size"] (defScope (top 43)) := ⟨rfl, rfl, rfl, by decide +kernel, rfl, by decide +kernel, by decide +kernel⟩
theorem ok__law_is_lot (s : Say K mg) (d__law_is_integer : Def false P w K mg base (L2.CX P w) (gam K cls) "_law_is_integer" 1 ["actual"] h__law_is_integer) : Def false P w K mg base (L2.CX P w) (gam K cls) "_law_is_lot" 2 ["actual", "size"] h__law_is_lot := by
  obtain ⟨fd, F⟩ := s.f__law_is_lot
  refine ⟨_, fd, s.g__law_is_lot, F.kp, def_d (k := 1) (m := 2) (G := G__law_is_lot) F sc__law_is_lot rfl fun cdv A outer s0 H E kx ky => ?_, F.bindsN fun _ _ _ _ _ _ us hl => match us, hl with | [_, _], _ => rfl⟩
  exact dss_cons (ds_if (db_not (db_tru ((de_isi s.n_isinstance (dt_var 0) (pe_bt s.n_tuple (by decide +kernel)) (.ty _) s.i_tuple).dt))) (dss_one (ds_ret (de_bl))) (dss_nil))
      (dss_cons (ds_setF (i := 2) kx.nd (de_int))
      (dss_cons (ds_for ky.po ky.calm (di_seq ((dt_var 0).de)) (dg_name kx.nd) (dss_cons (ds_if ((dw_or (db_not (db_tru ((de_callN kx d__law_is_integer (by decide) (da_cons ((dt_var 3).de) da_nil)).dt))) (dw_or (db_lt kx.u (dt_var 3) (dt_var 2)) (dw_or1 (db_ge (dt_var 3) (dt_var 1))))).db) (dss_one (ds_ret (de_bl))) (dss_nil))
      (dss_one (ds_setF (i := 2) kx.nd (de_add (dt_var 3) ((de_int).dt))))))
      (dss_one (ds_ret (de_bl)))))
theorem sc__law_has_word : FnScope N__law_has_word ["actual", "word"] (defScope (top 44)) := ⟨rfl, rfl, rfl, by decide +kernel, rfl, by decide +kernel, by decide +kernel⟩
theorem ok__law_has_word (s : Say K mg) (d__law_is_row : Def false P w K mg base (L2.CX P w) (gam K cls) "_law_is_row" 1 ["actual", "size"] h__law_is_row) : Def false P w K mg base (L2.CX P w) (gam K cls) "_law_has_word" 2 ["actual", "word"] h__law_has_word := by
  obtain ⟨fd, F⟩ := s.f__law_has_word
  refine ⟨_, fd, s.g__law_has_word, F.kp, def_d (k := 1) (m := 0) (G := G__law_has_word) F sc__law_has_word rfl fun cdv A outer s0 H E kx ky => ?_, F.bindsN fun _ _ _ _ _ _ us hl => match us, hl with | [_, _], _ => rfl⟩
  exact dss_one (ds_ret (de_and ((de_callN kx d__law_is_row (by decide) (da_cons ((dt_var 0).de) (da_cons (de_int) da_nil))).dt) (de_and ((de_isi s.n_isinstance (dt_ix (dt_var 0) ((de_int).dt)) (pe_bt s.n_str (by decide +kernel)) (.ty _) s.i_str).dt) (de_one (de_eq kx.u64 (dt_ix (dt_var 0) ((de_int).dt)) (dt_var 1))))))
theorem sc__law_far : FnScope N__law_far ["rows", "lengths", "start", "cut", "many"] (defScope (top 45)) := ⟨rfl, rfl, rfl, by decide +kernel, rfl, by decide +kernel, by decide +kernel⟩
theorem ok__law_far (s : Say K mg) : Def false P w K mg base (L2.CX P w) (gam K cls) "_law_far" 1 ["rows", "lengths", "start", "cut", "many"] h__law_far := by
  obtain ⟨fd, F⟩ := s.f__law_far
  refine ⟨_, fd, s.g__law_far, F.kp, def_d (k := 0) (m := 6) (G := G__law_far) F sc__law_far rfl fun cdv A outer s0 H E kx ky => ?_, F.bindsN fun _ _ _ _ _ _ us hl => match us, hl with | [_, _, _, _, _], _ => rfl⟩
  exact dss_cons (ds_setLc (i := 5) (own := [("place", 8)]) ky.calm kx.nd (blkOk_by (N := N__law_far) (sc := defScope (top 45)) (by decide +kernel)) (by decide) (di_range1 s.n_range (dt_var 4)) (fun sB13 HB13 CB13 clB13 fpB13 => (dgb_name kx.nd (by decide))) (fun sB13 HB13 CB13 clB13 fpB13 => dts_nil) (fun sB13 HB13 CB13 clB13 fpB13 => de_non) (sw_true rfl rfl rfl rfl))
      (dss_cons (ds_setIx (dp_var 5) (dt_var 2) (de_int))
      (dss_cons (ds_for ky.po ky.calm (di_range1 s.n_range (dt_var 4)) (dg_name kx.nd) (dss_one (ds_for ky.po ky.calm (di_range1 s.n_range ((de_callB cr_len cv_len (by decide +kernel) s.n_len (dk_cons (dt_var 0) dk_nil)).dt)) (dg_name kx.nd) (dss_cons (ds_setF (i := 9) kx.nd ((dt_ix (dt_var 5) (dt_ix (dt_ix (dt_var 0) (dt_var 7)) ((de_int).dt))).de))
      (dss_one (ds_if ((dw_and (db_ni (dt_var 7) (dt_var 3)) (dw_and1 (db_isnot (dt_var 9) ((de_non).dt)))).db) (dss_cons (ds_setF (i := 10) kx.nd ((dt_ix (dt_var 5) (dt_ix (dt_ix (dt_var 0) (dt_var 7)) ((de_int).dt))).de))
      (dss_one (ds_if ((dw_or (db_is (dt_var 10) ((de_non).dt)) (dw_or1 (db_lt kx.u ((de_add (dt_var 9) (dt_ix (dt_var 1) (dt_var 7))).dt) (dt_var 10)))).db) (dss_one (ds_setIx (dp_var 5) (dt_ix (dt_ix (dt_var 0) (dt_var 7)) ((de_int).dt)) (de_add (dt_var 9) (dt_ix (dt_var 1) (dt_var 7))))) (dss_nil)))) (dss_nil)))))))
      (dss_one (ds_retM 5))))
theorem sc__law_heights_are : FnScope N__law_heights_are ["rows", "ends", "cut", "lengths", "many", "heights", "worth"] (defScope (top 46)) := ⟨rfl, rfl, rfl, by decide +kernel, rfl, by decide +kernel, by decide +kernel⟩
theorem ok__law_heights_are (s : Say K mg) (d__law_is_integer : Def false P w K mg base (L2.CX P w) (gam K cls) "_law_is_integer" 1 ["actual"] h__law_is_integer) (d__law_is_row : Def false P w K mg base (L2.CX P w) (gam K cls) "_law_is_row" 1 ["actual", "size"] h__law_is_row) : Def false P w K mg base (L2.CX P w) (gam K cls) "_law_heights_are" 2 ["rows", "ends", "cut", "lengths", "many", "heights", "worth"] h__law_heights_are := by
  obtain ⟨fd, F⟩ := s.f__law_heights_are
  refine ⟨_, fd, s.g__law_heights_are, F.kp, def_d (k := 1) (m := 2) (G := G__law_heights_are) F sc__law_heights_are rfl fun cdv A outer s0 H E kx ky => ?_, F.bindsN fun _ _ _ _ _ _ us hl => match us, hl with | [_, _, _, _, _, _, _], _ => rfl⟩
  exact dss_cons (ds_if ((dw_or (db_not (db_tru ((de_callN kx d__law_is_row (by decide) (da_cons ((dt_var 5).de) (da_cons ((dt_var 4).de) da_nil))).dt))) (dw_or1 (db_gt ((de_callB cr_len cv_len (by decide +kernel) s.n_len (dk_cons (de_lc (own := [("height", 8)]) ky.calm kx.nd (blkOk_by (N := N__law_heights_are) (sc := defScope (top 46)) (by decide +kernel)) (di_seq ((dt_var 5).de)) (fun sB14 HB14 CB14 clB14 fpB14 => (dgb_name kx.nd (by decide))) (fun sB14 HB14 CB14 clB14 fpB14 => dts_one (db_not (db_tru ((de_callN (kx.b sB14 HB14 CB14 clB14 fpB14) d__law_is_integer (by decide) (da_cons ((dt_var 8).de) da_nil)).dt)))) (fun sB14 HB14 CB14 clB14 fpB14 => (dt_var 8).de)).dt dk_nil)).dt) ((de_int).dt)))).db) (dss_one (ds_ret (de_bl))) (dss_nil))
      (dss_cons (ds_if ((dw_or (db_ne kx.u64 (dt_ix (dt_var 5) (dt_ix (dt_var 1) ((de_int).dt))) ((de_int).dt)) (dw_or1 (db_ne kx.u64 (dt_ix (dt_var 5) (dt_ix (dt_var 1) ((de_int).dt))) (dt_var 6)))).db) (dss_one (ds_ret (de_bl))) (dss_nil))
      (dss_cons (ds_for ky.po ky.calm (di_range1 s.n_range ((de_callB cr_len cv_len (by decide +kernel) s.n_len (dk_cons (dt_var 0) dk_nil)).dt)) (dg_name kx.nd) (dss_one (ds_if ((dw_and (db_ni (dt_var 7) (dt_var 2)) (dw_and1 (db_gt (dt_ix (dt_var 5) (dt_ix (dt_ix (dt_var 0) (dt_var 7)) ((de_int).dt))) ((de_add (dt_ix (dt_var 5) (dt_ix (dt_ix (dt_var 0) (dt_var 7)) ((de_int).dt))) (dt_ix (dt_var 3) (dt_var 7))).dt)))).db) (dss_one (ds_ret (de_bl))) (dss_nil))))
      (dss_one (ds_ret (de_bl)))))
theorem sc__law_side_is : FnScope N__law_side_is ["rows", "ends", "cut", "many", "side"] (defScope (top 47)) := ⟨rfl, rfl, rfl, by decide +kernel, rfl, by decide +kernel, by decide +kernel⟩
theorem ok__law_side_is (s : Say K mg) (d__law_is_lot : Def false P w K mg base (L2.CX P w) (gam K cls) "_law_is_lot" 2 ["actual", "size"] h__law_is_lot) : Def false P w K mg base (L2.CX P w) (gam K cls) "_law_side_is" 3 ["rows", "ends", "cut", "many", "side"] h__law_side_is := by
  obtain ⟨fd, F⟩ := s.f__law_side_is
  refine ⟨_, fd, s.g__law_side_is, F.kp, def_d (k := 2) (m := 0) (G := G__law_side_is) F sc__law_side_is rfl fun cdv A outer s0 H E kx ky => ?_, F.bindsN fun _ _ _ _ _ _ us hl => match us, hl with | [_, _, _, _, _], _ => rfl⟩
  exact dss_one (ds_ret (de_and ((de_callN kx d__law_is_lot (by decide) (da_cons ((dt_var 4).de) (da_cons ((dt_var 3).de) da_nil))).dt) (de_and ((de_in (dt_ix (dt_var 1) ((de_int).dt)) (dt_var 4)).dt) (de_one (de_ni (dt_ix (dt_var 1) ((de_int).dt)) (dt_var 4))))))
theorem sc__law_leaves : FnScope N__law_leaves ["rows", "cut", "side"] (defScope (top 48)) := ⟨rfl, rfl, rfl, by decide +kernel, rfl, by decide +kernel, by decide +kernel⟩
theorem ok__law_leaves (s : Say K mg) : Def false P w K mg base (L2.CX P w) (gam K cls) "_law_leaves" 1 ["rows", "cut", "side"] h__law_leaves := by
  obtain ⟨fd, F⟩ := s.f__law_leaves
  refine ⟨_, fd, s.g__law_leaves, F.kp, def_d (k := 0) (m := 1) (G := G__law_leaves) F sc__law_leaves rfl fun cdv A outer s0 H E kx ky => ?_, F.bindsN fun _ _ _ _ _ _ us hl => match us, hl with | [_, _, _], _ => rfl⟩
  exact dss_one (ds_ret (de_lc (own := [("k", 3)]) ky.calm kx.nd (blkOk_by (N := N__law_leaves) (sc := defScope (top 48)) (by decide +kernel)) (di_range1 s.n_range ((de_callB cr_len cv_len (by decide +kernel) s.n_len (dk_cons (dt_var 0) dk_nil)).dt)) (fun sB15 HB15 CB15 clB15 fpB15 => (dgb_name kx.nd (by decide))) (fun sB15 HB15 CB15 clB15 fpB15 => dts_one ((dw_and (db_ni (dt_var 3) (dt_var 1)) (dw_and (db_in (dt_ix (dt_ix (dt_var 0) (dt_var 3)) ((de_int).dt)) (dt_var 2)) (dw_and1 (db_ni (dt_ix (dt_ix (dt_var 0) (dt_var 3)) ((de_int).dt)) (dt_var 2))))).db)) (fun sB15 HB15 CB15 clB15 fpB15 => (dt_var 3).de)))
theorem sc__law_world : FnScope N__law_world ["script"] (defScope (top 49)) := ⟨rfl, rfl, rfl, by decide +kernel, rfl, by decide +kernel, by decide +kernel⟩
theorem ok__law_world (s : Say K mg) (d__law_draws : Def false P w K mg base (L2.CX P w) (gam K cls) "_law_draws" 2 ["script", "at", "many"] h__law_draws) (d__law_rows : Def false P w K mg base (L2.CX P w) (gam K cls) "_law_rows" 3 ["script", "first", "many", "wide", "start", "goal"] h__law_rows) : Def false P w K mg base (L2.CX P w) (gam K cls) "_law_world" 4 ["script"] h__law_world := by
  obtain ⟨fd, F⟩ := s.f__law_world
  refine ⟨_, fd, s.g__law_world, F.kp, def_d (k := 3) (m := 10) (G := G__law_world) F sc__law_world rfl fun cdv A outer s0 H E kx ky => ?_, F.bindsN fun _ _ _ _ _ _ us hl => match us, hl with | [_], _ => rfl⟩
  exact dss_cons (ds_setF (i := 1) kx.nd (de_callN kx d__law_draws (by decide) (da_cons ((dt_var 0).de) (da_cons (de_int) (da_cons (de_int) da_nil)))))
      (dss_cons (ds_setF (i := 2) kx.nd ((dt_ix ((de_lst (da_cons (de_int) (da_cons (de_int) (da_cons (de_int) (da_cons (de_int) (da_cons (de_int) (da_cons (de_int) (da_cons (de_int) (da_cons (de_int) da_nil))))))))).dt) ((de_mod ((de_callTy call_int1 cv_int (by decide +kernel) s.n_int (dk_cons (dt_ix (dt_var 1) ((de_int).dt)) dk_nil)).dt) ((de_int).dt)).dt)).de))
      (dss_cons (ds_setF (i := 3) kx.nd (de_add ((de_int).dt) ((de_mod ((de_callTy call_int1 cv_int (by decide +kernel) s.n_int (dk_cons (dt_ix (dt_var 1) ((de_int).dt)) dk_nil)).dt) ((de_int).dt)).dt)))
      (dss_cons (ds_if (db_eq kx.u64 ((de_mod ((de_callTy call_int1 cv_int (by decide +kernel) s.n_int (dk_cons (dt_ix (dt_var 1) ((de_int).dt)) dk_nil)).dt) ((de_int).dt)).dt) ((de_int).dt)) (dss_one (ds_setF (i := 3) kx.nd (de_mod ((de_callTy call_int1 cv_int (by decide +kernel) s.n_int (dk_cons (dt_ix (dt_var 1) ((de_int).dt)) dk_nil)).dt) ((de_int).dt)))) (dss_nil))
      (dss_cons (ds_if (db_eq kx.u64 ((de_mod ((de_callTy call_int1 cv_int (by decide +kernel) s.n_int (dk_cons (dt_ix (dt_var 1) ((de_int).dt)) dk_nil)).dt) ((de_int).dt)).dt) ((de_int).dt)) (dss_cons (ds_setF (i := 2) kx.nd (de_add ((de_int).dt) ((de_mod ((de_callTy call_int1 cv_int (by decide +kernel) s.n_int (dk_cons (dt_ix (dt_var 1) ((de_int).dt)) dk_nil)).dt) ((de_int).dt)).dt)))
      (dss_one (ds_setF (i := 3) kx.nd (de_mod ((de_callTy call_int1 cv_int (by decide +kernel) s.n_int (dk_cons (dt_ix (dt_var 1) ((de_int).dt)) dk_nil)).dt) ((de_int).dt))))) (dss_nil))
      (dss_cons (ds_setF (i := 4) kx.nd (de_mod ((de_callTy call_int1 cv_int (by decide +kernel) s.n_int (dk_cons (dt_ix (dt_var 1) ((de_int).dt)) dk_nil)).dt) (dt_var 2)))
      (dss_cons (ds_setF (i := 5) kx.nd (de_mod ((de_add ((de_add (dt_var 4) ((de_int).dt)).dt) ((de_mod ((de_div ((de_callTy call_int1 cv_int (by decide +kernel) s.n_int (dk_cons (dt_ix (dt_var 1) ((de_int).dt)) dk_nil)).dt) (dt_var 2)).dt) ((de_sub (dt_var 2) ((de_int).dt)).dt)).dt)).dt) (dt_var 2)))
      (dss_cons (ds_setF (i := 6) kx.nd (de_callN kx d__law_rows (by decide) (da_cons ((dt_var 0).de) (da_cons (de_int) (da_cons ((dt_var 2).de) (da_cons ((dt_var 3).de) (da_cons ((dt_var 4).de) (da_cons ((dt_var 5).de) da_nil))))))))
      (dss_cons (ds_setF (i := 7) kx.nd ((dt_ix ((de_lst (da_cons (de_int) (da_cons (de_int) (da_cons (de_int) (da_cons (de_int) (da_cons (de_int) (da_cons (de_int) (da_cons (de_int) (da_cons (de_int) da_nil))))))))).dt) ((de_mod ((de_callTy call_int1 cv_int (by decide +kernel) s.n_int (dk_cons (dt_ix (dt_var 1) ((de_int).dt)) dk_nil)).dt) ((de_int).dt)).dt)).de))
      (dss_cons (ds_setF (i := 8) kx.nd (de_callTy call_int1 cv_int (by decide +kernel) s.n_int (dk_cons (dt_ix (dt_var 1) ((de_int).dt)) dk_nil)))
      (dss_cons (ds_set (i := 9) kx.nd (de_lst da_nil) (by decide))
      (dss_cons (ds_for ky.po ky.calm (di_range1 s.n_range (dt_var 3)) (dg_name kx.nd) (dss_cons (ds_if ((dw_and (db_gt (dt_var 7) ((de_int).dt)) (dw_and1 (db_eq kx.u64 ((de_mod (dt_var 8) (dt_var 7)).dt) ((de_div (dt_var 7) ((de_int).dt)).dt)))).db) (dss_one (ds_app (dp_var 9) ((dt_var 10).de))) (dss_nil))
      (dss_one (ds_setF (i := 8) kx.nd (de_div (dt_var 8) ((de_int).dt))))))
      (dss_cons (ds_if ((dw_and (db_eq kx.u64 ((de_mod ((de_callTy call_int1 cv_int (by decide +kernel) s.n_int (dk_cons (dt_ix (dt_var 1) ((de_int).dt)) dk_nil)).dt) ((de_int).dt)).dt) ((de_int).dt)) (dw_and1 (db_gt (dt_var 3) ((de_int).dt)))).db) (dss_one (ds_set (i := 9) kx.nd (de_lst (da_cons (de_mod ((de_callTy call_int1 cv_int (by decide +kernel) s.n_int (dk_cons (dt_ix (dt_var 1) ((de_int).dt)) dk_nil)).dt) (dt_var 3)) da_nil)) (by decide))) (dss_nil))
      (dss_one (ds_ret (de_tup (da_cons ((dt_var 2).de) (da_cons ((dt_var 6).de) (da_cons (de_tup (da_cons ((dt_var 4).de) (da_cons ((dt_var 5).de) da_nil))) (da_cons (de_callTy call_tuple_of cv_tuple (by decide +kernel) s.n_tuple (dk_cons (dt_var 9) dk_nil)) da_nil)))))))))))))))))))
theorem sc__law_long : FnScope N__law_long ["draws"] (defScope (top 50)) := ⟨rfl, rfl, rfl, by decide +kernel, rfl, by decide +kernel, by decide +kernel⟩
theorem ok__law_long (s : Say K mg) : Def false P w K mg base (L2.CX P w) (gam K cls) "_law_long" 1 ["draws"] h__law_long := by
  obtain ⟨fd, F⟩ := s.f__law_long
  refine ⟨_, fd, s.g__law_long, F.kp, def_d (k := 0) (m := 2) (G := G__law_long) F sc__law_long rfl fun cdv A outer s0 H E kx ky => ?_, F.bindsN fun _ _ _ _ _ _ us hl => match us, hl with | [_], _ => rfl⟩
  exact dss_cons (ds_setF (i := 1) kx.nd (de_int))
      (dss_cons (ds_for ky.po ky.calm (di_seq ((dt_var 0).de)) (dg_name kx.nd) (dss_one (ds_setF (i := 1) kx.nd (de_add ((de_mul (dt_var 1) ((de_pow ((de_int).dt) ((de_int).dt)).dt)).dt) ((de_mod ((de_callTy call_int1 cv_int (by decide +kernel) s.n_int (dk_cons (dt_var 2) dk_nil)).dt) ((de_pow ((de_int).dt) ((de_int).dt)).dt)).dt)))))
      (dss_one (ds_ret (de_mod ((de_callTy call_int1 cv_int (by decide +kernel) s.n_int (dk_cons (dt_var 1) dk_nil)).dt) ((de_mul ((de_mul ((de_mul ((de_pow ((de_int).dt) ((de_int).dt)).dt) ((de_pow ((de_int).dt) ((de_int).dt)).dt)).dt) ((de_pow ((de_int).dt) ((de_int).dt)).dt)).dt) ((de_pow ((de_int).dt) ((de_int).dt)).dt)).dt)))))
theorem sc__law_weights : FnScope N__law_weights ["script", "rows"] (defScope (top 51)) := ⟨rfl, rfl, rfl, by decide +kernel, rfl, by decide +kernel, by decide +kernel⟩
theorem ok__law_weights (s : Say K mg) (d__law_draws : Def false P w K mg base (L2.CX P w) (gam K cls) "_law_draws" 2 ["script", "at", "many"] h__law_draws) (d__law_long : Def false P w K mg base (L2.CX P w) (gam K cls) "_law_long" 1 ["draws"] h__law_long) (d__law_number : Def false P w K mg base (L2.CX P w) (gam K cls) "_law_number" 1 ["draw", "form"] h__law_number) : Def false P w K mg base (L2.CX P w) (gam K cls) "_law_weights" 3 ["script", "rows"] h__law_weights := by
  obtain ⟨fd, F⟩ := s.f__law_weights
  refine ⟨_, fd, s.g__law_weights, F.kp, def_d (k := 2) (m := 4) (G := G__law_weights) F sc__law_weights rfl fun cdv A outer s0 H E kx ky => ?_, F.bindsN fun _ _ _ _ _ _ us hl => match us, hl with | [_, _], _ => rfl⟩
  exact dss_cons (ds_setF (i := 2) kx.nd (de_callN kx d__law_draws (by decide) (da_cons ((dt_var 0).de) (da_cons (de_int) (da_cons (de_int) da_nil)))))
      (dss_cons (ds_set (i := 3) kx.nd (de_lst da_nil) (by decide))
      (dss_cons (ds_for ky.po ky.calm (di_range1 s.n_range ((de_callB cr_len cv_len (by decide +kernel) s.n_len (dk_cons (dt_var 1) dk_nil)).dt)) (dg_name kx.nd) (dss_cons (ds_setF (i := 5) kx.nd (de_callN kx d__law_draws (by decide) (da_cons ((dt_var 0).de) (da_cons (de_add ((de_int).dt) ((de_mod ((de_callTy call_int1 cv_int (by decide +kernel) s.n_int (dk_cons (dt_var 4) dk_nil)).dt) ((de_int).dt)).dt)) (da_cons (de_add ((de_int).dt) (dt_var 4)) da_nil)))))
      (dss_one (ds_if (db_eq kx.u64 ((de_mod ((de_callTy call_int1 cv_int (by decide +kernel) s.n_int (dk_cons (dt_ix (dt_var 2) ((de_int).dt)) dk_nil)).dt) ((de_int).dt)).dt) ((de_int).dt)) (dss_one (ds_app (dp_var 3) (de_int))) (dss_one (ds_if (db_eq kx.u64 ((de_mod ((de_callTy call_int1 cv_int (by decide +kernel) s.n_int (dk_cons (dt_ix (dt_var 2) ((de_int).dt)) dk_nil)).dt) ((de_int).dt)).dt) ((de_int).dt)) (dss_one (ds_app (dp_var 3) (de_callN kx d__law_long (by decide) (da_cons (de_slice (dt_var 5) (do_some (dt_var 4)) (do_some ((de_add (dt_var 4) ((de_int).dt)).dt))) da_nil)))) (dss_one (ds_if (db_lt kx.u ((de_mod ((de_callTy call_int1 cv_int (by decide +kernel) s.n_int (dk_cons (dt_ix (dt_var 2) ((de_int).dt)) dk_nil)).dt) ((de_int).dt)).dt) ((de_int).dt)) (dss_one (ds_app (dp_var 3) (de_callN kx d__law_number (by decide) (da_cons ((dt_ix (dt_var 5) (dt_var 4)).de) (da_cons (de_mod ((de_callTy call_int1 cv_int (by decide +kernel) s.n_int (dk_cons (dt_ix (dt_var 2) ((de_int).dt)) dk_nil)).dt) ((de_int).dt)) da_nil))))) (dss_one (ds_app (dp_var 3) ((dt_ix (dt_ix (dt_var 1) (dt_var 4)) ((de_int).dt)).de)))))))))))
      (dss_one (ds_retM 3))))
theorem sc__law_turned : FnScope N__law_turned ["rows"] (defScope (top 52)) := ⟨rfl, rfl, rfl, by decide +kernel, rfl, by decide +kernel, by decide +kernel⟩
theorem ok__law_turned (s : Say K mg) : Def false P w K mg base (L2.CX P w) (gam K cls) "_law_turned" 1 ["rows"] h__law_turned := by
  obtain ⟨fd, F⟩ := s.f__law_turned
  refine ⟨_, fd, s.g__law_turned, F.kp, def_d (k := 0) (m := 1) (G := G__law_turned) F sc__law_turned rfl fun cdv A outer s0 H E kx ky => ?_, F.bindsN fun _ _ _ _ _ _ us hl => match us, hl with | [_], _ => rfl⟩
  exact dss_one (ds_ret (de_lc (own := [("row", 1)]) ky.calm kx.nd (blkOk_by (N := N__law_turned) (sc := defScope (top 52)) (by decide +kernel)) (di_seq ((dt_var 0).de)) (fun sB16 HB16 CB16 clB16 fpB16 => (dgb_name kx.nd (by decide))) (fun sB16 HB16 CB16 clB16 fpB16 => dts_nil) (fun sB16 HB16 CB16 clB16 fpB16 => de_tup (da_cons ((dt_ix (dt_var 1) ((de_int).dt)).de) (da_cons ((dt_ix (dt_var 1) ((de_int).dt)).de) da_nil)))))
theorem sc__law_forward : FnScope N__law_forward ["far", "extra"] (defScope (top 53)) := ⟨rfl, rfl, rfl, by decide +kernel, rfl, by decide +kernel, by decide +kernel⟩
theorem ok__law_forward (s : Say K mg) : Def false P w K mg base (L2.CX P w) (gam K cls) "_law_forward" 1 ["far", "extra"] h__law_forward := by
  obtain ⟨fd, F⟩ := s.f__law_forward
  refine ⟨_, fd, s.g__law_forward, F.kp, def_d (k := 0) (m := 2) (G := G__law_forward) F sc__law_forward rfl fun cdv A outer s0 H E kx ky => ?_, F.bindsN fun _ _ _ _ _ _ us hl => match us, hl with | [_, _], _ => rfl⟩
  exact dss_cons (ds_setF (i := 2) kx.nd (de_callB (cr_max ky.calm) cv_max (by decide +kernel) s.n_max (dk_cons (de_lc (own := [("length", 3)]) ky.calm kx.nd (blkOk_by (N := N__law_forward) (sc := defScope (top 53)) (by decide +kernel)) (di_seq ((dt_var 0).de)) (fun sB17 HB17 CB17 clB17 fpB17 => (dgb_name kx.nd (by decide))) (fun sB17 HB17 CB17 clB17 fpB17 => dts_one (db_isnot (dt_var 3) ((de_non).dt))) (fun sB17 HB17 CB17 clB17 fpB17 => (dt_var 3).de)).dt dk_nil)))
      (dss_one (ds_ret (de_lc (own := [("length", 3)]) ky.calm kx.nd (blkOk_by (N := N__law_forward) (sc := defScope (top 53)) (by decide +kernel)) (di_seq ((dt_var 0).de)) (fun sB18 HB18 CB18 clB18 fpB18 => (dgb_name kx.nd (by decide))) (fun sB18 HB18 CB18 clB18 fpB18 => dts_nil) (fun sB18 HB18 CB18 clB18 fpB18 => de_if (db_is (dt_var 3) ((de_non).dt)) (de_add (dt_var 2) (dt_var 1)) ((dt_var 3).de)))))
theorem sc__law_backward : FnScope N__law_backward ["back", "start"] (defScope (top 54)) := ⟨rfl, rfl, rfl, by decide +kernel, rfl, by decide +kernel, by decide +kernel⟩
theorem ok__law_backward (s : Say K mg) : Def false P w K mg base (L2.CX P w) (gam K cls) "_law_backward" 1 ["back", "start"] h__law_backward := by
  obtain ⟨fd, F⟩ := s.f__law_backward
  refine ⟨_, fd, s.g__law_backward, F.kp, def_d (k := 0) (m := 3) (G := G__law_backward) F sc__law_backward rfl fun cdv A outer s0 H E kx ky => ?_, F.bindsN fun _ _ _ _ _ _ us hl => match us, hl with | [_, _], _ => rfl⟩
  exact dss_cons (ds_setF (i := 2) kx.nd ((dt_ix (dt_var 0) (dt_var 1)).de))
      (dss_cons (ds_if (db_is (dt_var 2) ((de_non).dt)) (dss_one (ds_ret (de_lc (own := [("length", 4)]) ky.calm kx.nd (blkOk_by (N := N__law_backward) (sc := defScope (top 54)) (by decide +kernel)) (di_seq ((dt_var 0).de)) (fun sB19 HB19 CB19 clB19 fpB19 => (dgb_name kx.nd (by decide))) (fun sB19 HB19 CB19 clB19 fpB19 => dts_nil) (fun sB19 HB19 CB19 clB19 fpB19 => de_int)))) (dss_nil))
      (dss_cons (ds_setF (i := 3) kx.nd (de_sub (dt_var 2) ((de_callB (cr_max ky.calm) cv_max (by decide +kernel) s.n_max (dk_cons (de_lc (own := [("length", 4)]) ky.calm kx.nd (blkOk_by (N := N__law_backward) (sc := defScope (top 54)) (by decide +kernel)) (di_seq ((dt_var 0).de)) (fun sB20 HB20 CB20 clB20 fpB20 => (dgb_name kx.nd (by decide))) (fun sB20 HB20 CB20 clB20 fpB20 => dts_one (db_isnot (dt_var 4) ((de_non).dt))) (fun sB20 HB20 CB20 clB20 fpB20 => (dt_var 4).de)).dt dk_nil)).dt)))
      (dss_one (ds_ret (de_lc (own := [("length", 4)]) ky.calm kx.nd (blkOk_by (N := N__law_backward) (sc := defScope (top 54)) (by decide +kernel)) (di_seq ((dt_var 0).de)) (fun sB21 HB21 CB21 clB21 fpB21 => (dgb_name kx.nd (by decide))) (fun sB21 HB21 CB21 clB21 fpB21 => dts_nil) (fun sB21 HB21 CB21 clB21 fpB21 => de_if (db_is (dt_var 4) ((de_non).dt)) (de_sub (dt_var 3) ((de_int).dt)) (de_sub (dt_var 2) (dt_var 4))))))))
theorem sc__law_all_heights : FnScope N__law_all_heights ["rows", "ends", "cut", "lengths", "many", "draws"] (defScope (top 55)) := ⟨rfl, rfl, rfl, by decide +kernel, rfl, by decide +kernel, by decide +kernel⟩
theorem ok__law_all_heights (s : Say K mg) (d__law_backward : Def false P w K mg base (L2.CX P w) (gam K cls) "_law_backward" 1 ["back", "start"] h__law_backward) (d__law_far : Def false P w K mg base (L2.CX P w) (gam K cls) "_law_far" 1 ["rows", "lengths", "start", "cut", "many"] h__law_far) (d__law_forward : Def false P w K mg base (L2.CX P w) (gam K cls) "_law_forward" 1 ["far", "extra"] h__law_forward) (d__law_turned : Def false P w K mg base (L2.CX P w) (gam K cls) "_law_turned" 1 ["rows"] h__law_turned) : Def false P w K mg base (L2.CX P w) (gam K cls) "_law_all_heights" 2 ["rows", "ends", "cut", "lengths", "many", "draws"] h__law_all_heights := by
  obtain ⟨fd, F⟩ := s.f__law_all_heights
  refine ⟨_, fd, s.g__law_all_heights, F.kp, def_d (k := 1) (m := 8) (G := G__law_all_heights) F sc__law_all_heights rfl fun cdv A outer s0 H E kx ky => ?_, F.bindsN fun _ _ _ _ _ _ us hl => match us, hl with | [_, _, _, _, _, _], _ => rfl⟩
  exact dss_cons (ds_setF (i := 6) kx.nd (de_callN kx d__law_far (by decide) (da_cons ((dt_var 0).de) (da_cons ((dt_var 3).de) (da_cons ((dt_ix (dt_var 1) ((de_int).dt)).de) (da_cons ((dt_var 2).de) (da_cons ((dt_var 4).de) da_nil)))))))
      (dss_cons (ds_setF (i := 7) kx.nd (de_callN kx d__law_far (by decide) (da_cons (de_callN kx d__law_turned (by decide) (da_cons ((dt_var 0).de) da_nil)) (da_cons ((dt_var 3).de) (da_cons ((dt_ix (dt_var 1) ((de_int).dt)).de) (da_cons ((dt_var 2).de) (da_cons ((dt_var 4).de) da_nil)))))))
      (dss_cons (ds_setF (i := 8) kx.nd (de_callN kx d__law_forward (by decide) (da_cons ((dt_var 6).de) (da_cons (de_int) da_nil))))
      (dss_cons (ds_setF (i := 9) kx.nd (de_callN kx d__law_backward (by decide) (da_cons ((dt_var 7).de) (da_cons ((dt_ix (dt_var 1) ((de_int).dt)).de) da_nil))))
      (dss_cons (ds_setF (i := 10) kx.nd (de_mod ((de_callTy call_int1 cv_int (by decide +kernel) s.n_int (dk_cons (dt_ix (dt_var 5) ((de_int).dt)) dk_nil)).dt) ((de_add ((de_int).dt) (dt_ix (dt_var 8) (dt_ix (dt_var 1) ((de_int).dt)))).dt)))
      (dss_cons (ds_set (i := 11) kx.nd (de_lst (da_cons ((dt_var 8).de) (da_cons (de_shr (de_callN kx d__law_forward (by decide) (da_cons ((dt_var 6).de) (da_cons (de_add ((de_int).dt) ((de_mod ((de_callTy call_int1 cv_int (by decide +kernel) s.n_int (dk_cons (dt_ix (dt_var 5) ((de_int).dt)) dk_nil)).dt) ((de_pow ((de_int).dt) ((de_int).dt)).dt)).dt)) da_nil)))) (da_cons ((dt_var 9).de) (da_cons (de_shr (de_callN kx d__law_forward (by decide) (da_cons ((dt_var 6).de) (da_cons (de_sub ((de_int).dt) ((de_mod ((de_callTy call_int1 cv_int (by decide +kernel) s.n_int (dk_cons (dt_ix (dt_var 5) ((de_int).dt)) dk_nil)).dt) ((de_int).dt)).dt)) da_nil)))) da_nil))))) (by decide))
      (dss_cons (ds_app (dp_var 11) (de_shr (de_lc (own := [("k", 12)]) ky.calm kx.nd (blkOk_by (N := N__law_all_heights) (sc := defScope (top 55)) (by decide +kernel)) (di_range1 s.n_range (dt_var 4)) (fun sB22 HB22 CB22 clB22 fpB22 => (dgb_name kx.nd (by decide))) (fun sB22 HB22 CB22 clB22 fpB22 => dts_nil) (fun sB22 HB22 CB22 clB22 fpB22 => de_div ((de_add (dt_ix (dt_var 8) (dt_var 12)) (dt_ix (dt_var 9) (dt_var 12))).dt) ((de_int).dt)))))
      (dss_cons (ds_app (dp_var 11) (de_shr (de_lc (own := [("height", 13)]) ky.calm kx.nd (blkOk_by (N := N__law_all_heights) (sc := defScope (top 55)) (by decide +kernel)) (di_seq ((dt_var 8).de)) (fun sB23 HB23 CB23 clB23 fpB23 => (dgb_name kx.nd (by decide))) (fun sB23 HB23 CB23 clB23 fpB23 => dts_nil) (fun sB23 HB23 CB23 clB23 fpB23 => de_div (dt_var 13) ((de_int).dt)))))
      (dss_cons (ds_app (dp_var 11) (de_shr (de_lc (own := [("height", 13)]) ky.calm kx.nd (blkOk_by (N := N__law_all_heights) (sc := defScope (top 55)) (by decide +kernel)) (di_seq ((dt_var 8).de)) (fun sB24 HB24 CB24 clB24 fpB24 => (dgb_name kx.nd (by decide))) (fun sB24 HB24 CB24 clB24 fpB24 => dts_nil) (fun sB24 HB24 CB24 clB24 fpB24 => de_callB (call_min2 ky.calm) cv_min2 (by decide +kernel) s.n_min (dk_cons (dt_var 13) (dk_cons (dt_var 10) dk_nil))))))
      (dss_cons (ds_app (dp_var 11) (de_shr (de_lc (own := [("height", 13)]) ky.calm kx.nd (blkOk_by (N := N__law_all_heights) (sc := defScope (top 55)) (by decide +kernel)) (di_seq ((dt_var 8).de)) (fun sB25 HB25 CB25 clB25 fpB25 => (dgb_name kx.nd (by decide))) (fun sB25 HB25 CB25 clB25 fpB25 => dts_nil) (fun sB25 HB25 CB25 clB25 fpB25 => de_int))))
      (dss_cons (ds_app (dp_var 11) (de_shr (de_lc (own := [("k", 12)]) ky.calm kx.nd (blkOk_by (N := N__law_all_heights) (sc := defScope (top 55)) (by decide +kernel)) (di_range1 s.n_range (dt_var 4)) (fun sB26 HB26 CB26 clB26 fpB26 => (dgb_name kx.nd (by decide))) (fun sB26 HB26 CB26 clB26 fpB26 => dts_nil) (fun sB26 HB26 CB26 clB26 fpB26 => de_if (db_eq (kx.b sB26 HB26 CB26 clB26 fpB26).u64 (dt_var 12) (dt_ix (dt_var 1) ((de_int).dt))) (de_int) (de_sub ((de_sub ((de_int).dt) ((de_int).dt)).dt) ((de_mod ((de_callTy call_int1 cv_int (by decide +kernel) s.n_int (dk_cons (dt_ix (dt_var 5) ((de_int).dt)) dk_nil)).dt) ((de_int).dt)).dt))))))
      (dss_cons (ds_app (dp_var 11) (de_shr (de_lc (own := [("height", 13)]) ky.calm kx.nd (blkOk_by (N := N__law_all_heights) (sc := defScope (top 55)) (by decide +kernel)) (di_seq ((dt_var 8).de)) (fun sB27 HB27 CB27 clB27 fpB27 => (dgb_name kx.nd (by decide))) (fun sB27 HB27 CB27 clB27 fpB27 => dts_nil) (fun sB27 HB27 CB27 clB27 fpB27 => de_mul ((de_int).dt) (dt_var 13)))))
      (dss_one (ds_retM 11)))))))))))))
theorem sc__law_all_sides : FnScope N__law_all_sides ["rows", "ends", "cut", "lengths", "many", "draws"] (defScope (top 56)) := ⟨rfl, rfl, rfl, by decide +kernel, rfl, by decide +kernel, by decide +kernel⟩
theorem ok__law_all_sides (s : Say K mg) (d__law_far : Def false P w K mg base (L2.CX P w) (gam K cls) "_law_far" 1 ["rows", "lengths", "start", "cut", "many"] h__law_far) (d__law_turned : Def false P w K mg base (L2.CX P w) (gam K cls) "_law_turned" 1 ["rows"] h__law_turned) : Def false P w K mg base (L2.CX P w) (gam K cls) "_law_all_sides" 2 ["rows", "ends", "cut", "lengths", "many", "draws"] h__law_all_sides := by
  obtain ⟨fd, F⟩ := s.f__law_all_sides
  refine ⟨_, fd, s.g__law_all_sides, F.kp, def_d (k := 1) (m := 7) (G := G__law_all_sides) F sc__law_all_sides rfl fun cdv A outer s0 H E kx ky => ?_, F.bindsN fun _ _ _ _ _ _ us hl => match us, hl with | [_, _, _, _, _, _], _ => rfl⟩
  exact dss_cons (ds_set (i := 6) kx.nd (de_lst da_nil) (by decide))
      (dss_cons (ds_for ky.po ky.calm (di_seq (de_lst (da_cons ((dt_var 2).de) (da_cons (de_tup da_nil) da_nil)))) (dg_name kx.nd) (dss_cons (ds_setF (i := 11) kx.nd (de_callN kx d__law_far (by decide) (da_cons ((dt_var 0).de) (da_cons ((dt_var 3).de) (da_cons ((dt_ix (dt_var 1) ((de_int).dt)).de) (da_cons ((dt_var 7).de) (da_cons ((dt_var 4).de) da_nil)))))))
      (dss_cons (ds_setF (i := 12) kx.nd (de_callN kx d__law_far (by decide) (da_cons (de_callN kx d__law_turned (by decide) (da_cons ((dt_var 0).de) da_nil)) (da_cons ((dt_var 3).de) (da_cons ((dt_ix (dt_var 1) ((de_int).dt)).de) (da_cons ((dt_var 7).de) (da_cons ((dt_var 4).de) da_nil)))))))
      (dss_cons (ds_app (dp_var 6) (de_shr (de_lc (own := [("place", 10)]) ky.calm kx.nd (blkOk_by (N := N__law_all_sides) (sc := defScope (top 56)) (by decide +kernel)) (di_range1 s.n_range (dt_var 4)) (fun sB28 HB28 CB28 clB28 fpB28 => (dgb_name kx.nd (by decide))) (fun sB28 HB28 CB28 clB28 fpB28 => dts_one (db_isnot (dt_ix (dt_var 11) (dt_var 10)) ((de_non).dt))) (fun sB28 HB28 CB28 clB28 fpB28 => (dt_var 10).de))))
      (dss_one (ds_app (dp_var 6) (de_shr (de_lc (own := [("place", 10)]) ky.calm kx.nd (blkOk_by (N := N__law_all_sides) (sc := defScope (top 56)) (by decide +kernel)) (di_range1 s.n_range (dt_var 4)) (fun sB29 HB29 CB29 clB29 fpB29 => (dgb_name kx.nd (by decide))) (fun sB29 HB29 CB29 clB29 fpB29 => dts_one (db_is (dt_ix (dt_var 12) (dt_var 10)) ((de_non).dt))) (fun sB29 HB29 CB29 clB29 fpB29 => (dt_var 10).de)))))))))
      (dss_cons (ds_setF (i := 8) kx.nd (de_callTy call_int1 cv_int (by decide +kernel) s.n_int (dk_cons (dt_ix (dt_var 5) ((de_int).dt)) dk_nil)))
      (dss_cons (ds_set (i := 9) kx.nd (de_lst da_nil) (by decide))
      (dss_cons (ds_for ky.po ky.calm (di_range1 s.n_range (dt_var 4)) (dg_name kx.nd) (dss_cons (ds_if ((dw_or (db_eq kx.u64 (dt_var 10) (dt_ix (dt_var 1) ((de_int).dt))) (dw_or1 ((dw_and (db_ne kx.u64 (dt_var 10) (dt_ix (dt_var 1) ((de_int).dt))) (dw_and1 (db_eq kx.u64 ((de_mod (dt_var 8) ((de_int).dt)).dt) ((de_int).dt)))).db))).db) (dss_one (ds_app (dp_var 9) ((dt_var 10).de))) (dss_nil))
      (dss_one (ds_setF (i := 8) kx.nd (de_div (dt_var 8) ((de_int).dt))))))
      (dss_frz 9 (dss_one (ds_ret (de_add (dt_var 6) ((de_lst (da_cons ((dt_var 9).de) (da_cons (de_shr (de_lst (da_cons ((dt_ix (dt_var 1) ((de_int).dt)).de) da_nil))) (da_cons (de_shr (de_lc (own := [("place", 10)]) ky.calm kx.nd (blkOk_by (N := N__law_all_sides) (sc := defScope (top 56)) (by decide +kernel)) (di_range1 s.n_range (dt_var 4)) (fun sB30 HB30 CB30 clB30 fpB30 => (dgb_name kx.nd (by decide))) (fun sB30 HB30 CB30 clB30 fpB30 => dts_one (db_ne (kx.b sB30 HB30 CB30 clB30 fpB30).u64 (dt_var 10) (dt_ix (dt_var 1) ((de_int).dt)))) (fun sB30 HB30 CB30 clB30 fpB30 => (dt_var 10).de))) da_nil)))).dt)))))))))
theorem sc__law_is_bound : FnScope N__law_is_bound ["rows", "ends", "cut", "lengths", "many", "bound", "worth"] (defScope (top 57)) := ⟨rfl, rfl, rfl, by decide +kernel, rfl, by decide +kernel, by decide +kernel⟩
theorem ok__law_is_bound (s : Say K mg) (d__law_has_word : Def false P w K mg base (L2.CX P w) (gam K cls) "_law_has_word" 2 ["actual", "word"] h__law_has_word) (d__law_heights_are : Def false P w K mg base (L2.CX P w) (gam K cls) "_law_heights_are" 2 ["rows", "ends", "cut", "lengths", "many", "heights", "worth"] h__law_heights_are) (d__law_leaves : Def false P w K mg base (L2.CX P w) (gam K cls) "_law_leaves" 1 ["rows", "cut", "side"] h__law_leaves) (d__law_side_is : Def false P w K mg base (L2.CX P w) (gam K cls) "_law_side_is" 3 ["rows", "ends", "cut", "many", "side"] h__law_side_is) : Def false P w K mg base (L2.CX P w) (gam K cls) "_law_is_bound" 4 ["rows", "ends", "cut", "lengths", "many", "bound", "worth"] h__law_is_bound := by
  obtain ⟨fd, F⟩ := s.f__law_is_bound
  refine ⟨_, fd, s.g__law_is_bound, F.kp, def_d (k := 3) (m := 0) (G := G__law_is_bound) F sc__law_is_bound rfl fun cdv A outer s0 H E kx ky => ?_, F.bindsN fun _ _ _ _ _ _ us hl => match us, hl with | [_, _, _, _, _, _, _], _ => rfl⟩
  exact dss_cons (ds_if (db_is (dt_var 6) ((de_non).dt)) (dss_cons (ds_if ((dw_or (db_not (db_tru ((de_callN kx d__law_has_word (by decide) (da_cons ((dt_var 5).de) (da_cons (de_str) da_nil))).dt))) (dw_or1 (db_not (db_tru ((de_callN kx d__law_side_is (by decide) (da_cons ((dt_var 0).de) (da_cons ((dt_var 1).de) (da_cons ((dt_var 2).de) (da_cons ((dt_var 4).de) (da_cons ((dt_ix (dt_var 5) ((de_int).dt)).de) da_nil)))))).dt))))).db) (dss_one (ds_ret (de_bl))) (dss_nil))
      (dss_one (ds_ret (de_eq kx.u64 ((de_callB cr_len cv_len (by decide +kernel) s.n_len (dk_cons (de_callN kx d__law_leaves (by decide) (da_cons ((dt_var 0).de) (da_cons ((dt_var 2).de) (da_cons ((dt_ix (dt_var 5) ((de_int).dt)).de) da_nil)))).dt dk_nil)).dt) ((de_int).dt))))) (dss_nil))
      (dss_one (ds_ret (de_and ((de_callN kx d__law_has_word (by decide) (da_cons ((dt_var 5).de) (da_cons (de_str) da_nil))).dt) (de_one (de_callN kx d__law_heights_are (by decide) (da_cons ((dt_var 0).de) (da_cons ((dt_var 1).de) (da_cons ((dt_var 2).de) (da_cons ((dt_var 3).de) (da_cons ((dt_var 4).de) (da_cons ((dt_ix (dt_var 5) ((de_int).dt)).de) (da_cons ((dt_var 6).de) da_nil))))))))))))
theorem sc__law_says : FnScope N__law_says ["net", "world", "handed", "bound", "worth"] (defScope (top 58)) := ⟨rfl, rfl, rfl, by decide +kernel, rfl, by decide +kernel, by decide +kernel⟩
theorem ok__law_says (s : Say K mg) (d__law_is_bound : Def false P w K mg base (L2.CX P w) (gam K cls) "_law_is_bound" 4 ["rows", "ends", "cut", "lengths", "many", "bound", "worth"] h__law_is_bound) (d_shows_distance : Def false P w K mg base (L2.CX P w) (gam K cls) "shows_distance" 4 ["net", "lengths", "start", "goal", "cut", "bound", "worth"] h_shows_distance) : Def false P w K mg base (L2.CX P w) (gam K cls) "_law_says" 5 ["net", "world", "handed", "bound", "worth"] h__law_says := by
  obtain ⟨fd, F⟩ := s.f__law_says
  refine ⟨_, fd, s.g__law_says, F.kp, def_d (k := 4) (m := 6) (G := G__law_says) F sc__law_says rfl fun cdv A outer s0 H E kx ky => ?_, F.bindsN fun _ _ _ _ _ _ us hl => match us, hl with | [_, _, _, _, _], _ => rfl⟩
  exact dss_cons (ds_asg ((dt_var 1).de) (dg_tup ky.calm (dgs_cons (dg_name kx.nd) (dgs_cons (dg_name kx.nd) (dgs_cons (dg_name kx.nd) (dgs_cons (dg_name kx.nd) (dgs_cons (dg_name kx.nd) dgs_nil)))))))
      (dss_cons (ds_setF (i := 10) kx.nd (de_callN kx d_shows_distance (by decide) (da_cons ((dt_var 0).de) (da_cons ((dt_var 2).de) (da_cons ((dt_ix (dt_var 7) ((de_int).dt)).de) (da_cons ((dt_ix (dt_var 7) ((de_int).dt)).de) (da_cons ((dt_var 8).de) (da_cons ((dt_var 3).de) (da_cons ((dt_var 4).de) da_nil)))))))))
      (dss_one (ds_ret (de_and ((de_isi s.n_isinstance (dt_var 10) (pe_bt s.n_bool (by decide +kernel)) (.ty _) s.i_bool).dt) (de_one (de_eq kx.u64 (dt_var 10) ((de_callN kx d__law_is_bound (by decide) (da_cons ((dt_var 6).de) (da_cons ((dt_var 7).de) (da_cons ((dt_var 8).de) (da_cons ((dt_var 9).de) (da_cons ((dt_var 5).de) (da_cons ((dt_var 3).de) (da_cons ((dt_var 4).de) da_nil)))))))).dt)))))))
theorem sc__law_heights_said : FnScope N__law_heights_said ["net", "world", "handed", "heights", "draw"] (defScope (top 59)) := ⟨rfl, rfl, rfl, by decide +kernel, rfl, by decide +kernel, by decide +kernel⟩
theorem ok__law_heights_said (s : Say K mg) (d__law_says : Def false P w K mg base (L2.CX P w) (gam K cls) "_law_says" 5 ["net", "world", "handed", "bound", "worth"] h__law_says) (d_Ratio1 : MkD P w K mg base (gam K cls) "Ratio" 1 dd_Ratio1 h_Ratio_init) (d_Ratio2 : MkD P w K mg base (gam K cls) "Ratio" 1 dd_Ratio2 h_Ratio_init) : Def false P w K mg base (L2.CX P w) (gam K cls) "_law_heights_said" 6 ["net", "world", "handed", "heights", "draw"] h__law_heights_said := by
  obtain ⟨fd, F⟩ := s.f__law_heights_said
  refine ⟨_, fd, s.g__law_heights_said, F.kp, def_d (k := 5) (m := 11) (G := G__law_heights_said) F sc__law_heights_said rfl fun cdv A outer s0 H E kx ky => ?_, F.bindsN fun _ _ _ _ _ _ us hl => match us, hl with | [_, _, _, _, _], _ => rfl⟩
  exact dss_cons (ds_setF (i := 5) kx.nd ((dt_ix (dt_var 1) ((de_int).dt)).de))
      (dss_cons (ds_setF (i := 6) kx.nd ((dt_ix (dt_ix (dt_var 1) ((de_int).dt)) ((de_int).dt)).de))
      (dss_cons (ds_for ky.po ky.calm (di_range1 s.n_range ((de_callB (call_min2 ky.calm) cv_min2 (by decide +kernel) s.n_min (dk_cons (dt_var 5) (dk_cons (de_int).dt dk_nil))).dt)) (dg_name kx.nd) (dss_cons (ds_setF (i := 8) kx.nd (de_mod ((de_callTy call_int1 cv_int (by decide +kernel) s.n_int (dk_cons (de_add (dt_var 7) ((de_callTy call_int1 cv_int (by decide +kernel) s.n_int (dk_cons (dt_var 4) dk_nil)).dt)).dt dk_nil)).dt) (dt_var 5)))
      (dss_one (ds_for ky.po ky.calm (di_seq (de_lst (da_cons (de_int) (da_cons (de_int) (da_cons (de_neg ((de_int).dt)) da_nil))))) (dg_name kx.nd) (dss_one (ds_if ((dw_or (db_ne kx.u64 (dt_var 14) ((de_int).dt)) (dw_or1 (db_eq kx.u64 (dt_var 7) ((de_int).dt)))).db) (dss_cons (ds_setF (i := 15) kx.nd (de_add ((de_add ((de_slice (dt_var 3) do_none (do_some (dt_var 8))).dt) ((de_lst (da_cons (de_add (dt_ix (dt_var 3) (dt_var 8)) (dt_var 14)) da_nil)).dt)).dt) ((de_slice (dt_var 3) (do_some ((de_add (dt_var 8) ((de_int).dt)).dt)) do_none).dt)))
      (dss_one (ds_for ky.po ky.calm (di_seq (de_lst (da_cons ((dt_ix (dt_var 15) (dt_var 6)).de) (da_cons (de_add (dt_ix (dt_var 15) (dt_var 6)) ((de_int).dt)) (da_cons (de_sub (dt_ix (dt_var 15) (dt_var 6)) ((de_int).dt)) da_nil))))) (dg_name kx.nd) (dss_one (ds_if (db_not (db_tru ((de_callN kx d__law_says (by decide) (da_cons ((dt_var 0).de) (da_cons ((dt_var 1).de) (da_cons ((dt_var 2).de) (da_cons (de_tup (da_cons (de_str) (da_cons (de_callTy call_tuple_of cv_tuple (by decide +kernel) s.n_tuple (dk_cons (dt_var 15) dk_nil)) da_nil))) (da_cons ((dt_var 10).de) da_nil)))))).dt))) (dss_one (ds_ret (de_bl))) (dss_nil)))))) (dss_nil)))))))
      (dss_cons (ds_setF (i := 8) kx.nd (de_mod ((de_div ((de_callTy call_int1 cv_int (by decide +kernel) s.n_int (dk_cons (dt_var 4) dk_nil)).dt) ((de_int).dt)).dt) (dt_var 5)))
      (dss_cons (ds_setF (i := 9) kx.nd (de_callTy call_tuple_of cv_tuple (by decide +kernel) s.n_tuple (dk_cons (dt_var 3) dk_nil)))
      (dss_cons (ds_setF (i := 10) kx.nd ((dt_ix (dt_var 3) (dt_var 6)).de))
      (dss_cons (ds_set (i := 11) kx.nd (de_lst (da_cons (de_tup (da_cons (de_str) (da_cons ((dt_var 9).de) da_nil))) (da_cons (de_tup (da_cons (de_str) (da_cons ((dt_var 9).de) da_nil))) (da_cons ((dt_var 9).de) (da_cons (de_tup (da_cons (de_str) da_nil)) (da_cons (de_tup (da_cons (de_str) (da_cons ((dt_var 9).de) (da_cons (de_int) da_nil)))) (da_cons (de_tup (da_cons (de_tup (da_cons (de_str) (da_cons ((dt_var 9).de) da_nil))) da_nil)) (da_cons (de_tup (da_cons (de_str) (da_cons (de_shr (de_slice (dt_var 9) (do_some ((de_int).dt)) do_none)) da_nil))) da_nil)))))))) (by decide))
      (dss_cons (ds_set (i := 11) kx.nd (de_add (dt_var 11) ((de_lst (da_cons (de_tup (da_cons (de_str) (da_cons (de_add (dt_var 9) ((de_tup (da_cons (de_int) da_nil)).dt)) da_nil))) (da_cons (de_tup (da_cons (de_str) (da_cons (de_shr (de_slice (dt_var 9) do_none (do_some ((de_neg ((de_int).dt)).dt)))) da_nil))) (da_cons (de_tup (da_cons (de_str) (da_cons (de_tup da_nil) da_nil))) (da_cons (de_tup (da_cons (de_str) (da_cons ((dt_var 10).de) da_nil))) (da_cons (de_tup (da_cons (de_non) (da_cons ((dt_var 9).de) da_nil))) (da_cons (de_tup (da_cons (de_int) (da_cons ((dt_var 9).de) da_nil))) da_nil))))))).dt)) (by decide))
      (dss_cons (ds_for ky.po ky.calm (di_seq (de_lst (da_cons (de_non) (da_cons (de_str) (da_cons (de_shr (de_mk kx d_Ratio1 (by decide) (da_cons ((dt_ix (dt_var 3) (dt_var 8)).de) da_nil))) (da_cons (de_tup (da_cons ((dt_ix (dt_var 3) (dt_var 8)).de) da_nil)) da_nil)))))) (dg_name kx.nd) (dss_one (ds_app (dp_var 11) (de_tup (da_cons (de_str) (da_cons (de_shr (de_add ((de_add ((de_slice (dt_var 9) do_none (do_some (dt_var 8))).dt) ((de_tup (da_cons ((dt_var 12).de) da_nil)).dt)).dt) ((de_slice (dt_var 9) (do_some ((de_add (dt_var 8) ((de_int).dt)).dt)) do_none).dt))) da_nil))))))
      (dss_frz 11 (dss_cons (ds_for ky.po ky.calm (di_seq ((dt_var 11).de)) (dg_name kx.nd) (dss_one (ds_if (db_not (db_tru ((de_callN kx d__law_says (by decide) (da_cons ((dt_var 0).de) (da_cons ((dt_var 1).de) (da_cons ((dt_var 2).de) (da_cons ((dt_var 13).de) (da_cons ((dt_var 10).de) da_nil)))))).dt))) (dss_one (ds_ret (de_bl))) (dss_nil))))
      (dss_one (ds_ret (de_and ((de_callN kx d__law_says (by decide) (da_cons ((dt_var 0).de) (da_cons ((dt_var 1).de) (da_cons ((dt_var 2).de) (da_cons (de_tup (da_cons (de_str) (da_cons ((dt_var 9).de) da_nil))) (da_cons (de_non) da_nil)))))).dt) (de_one (de_callN kx d__law_says (by decide) (da_cons ((dt_var 0).de) (da_cons ((dt_var 1).de) (da_cons ((dt_var 2).de) (da_cons (de_tup (da_cons (de_str) (da_cons ((dt_var 9).de) da_nil))) (da_cons ((dt_var 10).de) da_nil))))))))))))))))))))
theorem sc__law_side_said : FnScope N__law_side_said ["net", "world", "handed", "side", "draw"] (defScope (top 60)) := ⟨rfl, rfl, rfl, by decide +kernel, rfl, by decide +kernel, by decide +kernel⟩
theorem ok__law_side_said (s : Say K mg) (d__law_says : Def false P w K mg base (L2.CX P w) (gam K cls) "_law_says" 5 ["net", "world", "handed", "bound", "worth"] h__law_says) : Def false P w K mg base (L2.CX P w) (gam K cls) "_law_side_said" 6 ["net", "world", "handed", "side", "draw"] h__law_side_said := by
  obtain ⟨fd, F⟩ := s.f__law_side_said
  refine ⟨_, fd, s.g__law_side_said, F.kp, def_d (k := 5) (m := 9) (G := G__law_side_said) F sc__law_side_said rfl fun cdv A outer s0 H E kx ky => ?_, F.bindsN fun _ _ _ _ _ _ us hl => match us, hl with | [_, _, _, _, _], _ => rfl⟩
  exact dss_cons (ds_setF (i := 5) kx.nd ((dt_ix (dt_var 1) ((de_int).dt)).de))
      (dss_cons (ds_set (i := 6) kx.nd (de_lst da_nil) (by decide))
      (dss_cons (ds_for ky.po ky.calm (di_range1 s.n_range ((de_callB (call_min2 ky.calm) cv_min2 (by decide +kernel) s.n_min (dk_cons (dt_var 5) (dk_cons (de_int).dt dk_nil))).dt)) (dg_name kx.nd) (dss_cons (ds_setF (i := 9) kx.nd (de_mod ((de_callTy call_int1 cv_int (by decide +kernel) s.n_int (dk_cons (de_add (dt_var 7) ((de_callTy call_int1 cv_int (by decide +kernel) s.n_int (dk_cons (dt_var 4) dk_nil)).dt)).dt dk_nil)).dt) (dt_var 5)))
      (dss_cons (ds_setLcF (i := 12) (own := [("place", 13)]) ky.calm kx.nd (blkOk_by (N := N__law_side_said) (sc := defScope (top 60)) (by decide +kernel)) (di_range1 s.n_range (dt_var 5)) (fun sB31 HB31 CB31 clB31 fpB31 => (dgb_name kx.nd (by decide))) (fun sB31 HB31 CB31 clB31 fpB31 => dts_one (db_ne (kx.b sB31 HB31 CB31 clB31 fpB31).u64 ((de_in (dt_var 13) (dt_var 3)).dt) ((de_eq (kx.b sB31 HB31 CB31 clB31 fpB31).u64 (dt_var 13) (dt_var 9)).dt))) (fun sB31 HB31 CB31 clB31 fpB31 => (dt_var 13).de))
      (dss_one (ds_app (dp_var 6) (de_tup (da_cons (de_str) (da_cons (de_callTy call_tuple_of cv_tuple (by decide +kernel) s.n_tuple (dk_cons (dt_var 12) dk_nil)) da_nil))))))))
      (dss_cons (ds_setF (i := 8) kx.nd (de_callTy call_tuple_of cv_tuple (by decide +kernel) s.n_tuple (dk_cons (dt_var 3) dk_nil)))
      (dss_cons (ds_setF (i := 9) kx.nd (de_mod ((de_div ((de_callTy call_int1 cv_int (by decide +kernel) s.n_int (dk_cons (dt_var 4) dk_nil)).dt) ((de_int).dt)).dt) ((de_callB (call_max2 ky.calm) cv_max2 (by decide +kernel) s.n_max (dk_cons (de_int).dt (dk_cons (de_callB cr_len cv_len (by decide +kernel) s.n_len (dk_cons (dt_var 3) dk_nil)).dt dk_nil))).dt)))
      (dss_cons (ds_set (i := 6) kx.nd (de_add (dt_var 6) ((de_lst (da_cons (de_tup (da_cons (de_str) (da_cons ((dt_var 8).de) da_nil))) (da_cons (de_tup (da_cons (de_str) (da_cons ((dt_var 8).de) da_nil))) (da_cons ((dt_var 8).de) (da_cons (de_tup (da_cons (de_str) da_nil)) (da_cons (de_tup (da_cons (de_str) (da_cons ((dt_var 8).de) (da_cons (de_int) da_nil)))) (da_cons (de_tup (da_cons (de_tup (da_cons (de_str) (da_cons ((dt_var 8).de) da_nil))) da_nil)) (da_cons (de_tup (da_cons (de_str) (da_cons (de_non) da_nil))) da_nil)))))))).dt)) (by decide))
      (dss_cons (ds_set (i := 6) kx.nd (de_add (dt_var 6) ((de_lst (da_cons (de_tup (da_cons (de_str) (da_cons (de_add (dt_var 8) ((de_tup (da_cons ((dt_var 5).de) da_nil)).dt)) da_nil))) (da_cons (de_tup (da_cons (de_str) (da_cons (de_add ((de_tup (da_cons (de_neg ((de_int).dt)) da_nil)).dt) (dt_var 8)) da_nil))) (da_cons (de_tup (da_cons (de_str) (da_cons (de_shr (de_add ((de_add ((de_slice (dt_var 8) do_none (do_some (dt_var 9))).dt) ((de_slice (dt_var 8) (do_some (dt_var 9)) (do_some ((de_add (dt_var 9) ((de_int).dt)).dt))).dt)).dt) ((de_slice (dt_var 8) (do_some (dt_var 9)) do_none).dt))) da_nil))) da_nil)))).dt)) (by decide))
      (dss_cons (ds_set (i := 6) kx.nd (de_add (dt_var 6) ((de_lst (da_cons (de_tup (da_cons (de_str) (da_cons (de_shr (de_add ((de_slice (dt_var 8) (do_some ((de_int).dt)) do_none).dt) ((de_slice (dt_var 8) do_none (do_some ((de_int).dt))).dt))) da_nil))) (da_cons (de_tup (da_cons (de_str) (da_cons (de_shr (de_add ((de_add ((de_slice (dt_var 8) do_none (do_some (dt_var 9))).dt) ((de_tup (da_cons (de_non) da_nil)).dt)).dt) ((de_slice (dt_var 8) (do_some (dt_var 9)) do_none).dt))) da_nil))) (da_cons (de_tup (da_cons (de_str) (da_cons (de_add (dt_var 8) ((de_tup (da_cons (de_str) da_nil)).dt)) da_nil))) (da_cons (de_tup (da_cons (de_int) (da_cons ((dt_var 8).de) da_nil))) da_nil))))).dt)) (by decide))
      (dss_frz 6 (dss_cons (ds_for ky.po ky.calm (di_seq ((dt_var 6).de)) (dg_name kx.nd) (dss_one (ds_if (db_not (db_tru ((de_callN kx d__law_says (by decide) (da_cons ((dt_var 0).de) (da_cons ((dt_var 1).de) (da_cons ((dt_var 2).de) (da_cons ((dt_var 10).de) (da_cons (de_non) da_nil)))))).dt))) (dss_one (ds_ret (de_bl))) (dss_nil))))
      (dss_cons (ds_for ky.po ky.calm (di_seq (de_lst (da_cons (de_non) (da_cons (de_int) (da_cons (de_mod ((de_callTy call_int1 cv_int (by decide +kernel) s.n_int (dk_cons (dt_var 4) dk_nil)).dt) ((de_int).dt)) da_nil))))) (dg_name kx.nd) (dss_one (ds_if (db_not (db_tru ((de_callN kx d__law_says (by decide) (da_cons ((dt_var 0).de) (da_cons ((dt_var 1).de) (da_cons ((dt_var 2).de) (da_cons (de_tup (da_cons (de_str) (da_cons ((dt_var 8).de) da_nil))) (da_cons ((dt_var 11).de) da_nil)))))).dt))) (dss_one (ds_ret (de_bl))) (dss_nil))))
      (dss_one (ds_ret (de_bl)))))))))))))
theorem sc_law : FnScope N_law ["script"] (defScope (top 61)) := ⟨rfl, rfl, rfl, by decide +kernel, rfl, by decide +kernel, by decide +kernel⟩
theorem fn_law (s : Say K mg) (d__law_all_heights : Def false P w K mg base (L2.CX P w) (gam K cls) "_law_all_heights" 2 ["rows", "ends", "cut", "lengths", "many", "draws"] h__law_all_heights) (d__law_all_sides : Def false P w K mg base (L2.CX P w) (gam K cls) "_law_all_sides" 2 ["rows", "ends", "cut", "lengths", "many", "draws"] h__law_all_sides) (d__law_draws : Def false P w K mg base (L2.CX P w) (gam K cls) "_law_draws" 2 ["script", "at", "many"] h__law_draws) (d__law_heights_said : Def false P w K mg base (L2.CX P w) (gam K cls) "_law_heights_said" 6 ["net", "world", "handed", "heights", "draw"] h__law_heights_said) (d__law_net : Def false P w K mg base (L2.CX P w) (gam K cls) "_law_net" 9 ["many", "rows"] h__law_net) (d__law_says : Def false P w K mg base (L2.CX P w) (gam K cls) "_law_says" 5 ["net", "world", "handed", "bound", "worth"] h__law_says) (d__law_side_said : Def false P w K mg base (L2.CX P w) (gam K cls) "_law_side_said" 6 ["net", "world", "handed", "side", "draw"] h__law_side_said) (d__law_weights : Def false P w K mg base (L2.CX P w) (gam K cls) "_law_weights" 3 ["script", "rows"] h__law_weights) (d__law_world : Def false P w K mg base (L2.CX P w) (gam K cls) "_law_world" 4 ["script"] h__law_world) (d_Ratio1 : MkD P w K mg base (gam K cls) "Ratio" 1 dd_Ratio1 h_Ratio_init) (d_Ratio2 : MkD P w K mg base (gam K cls) "Ratio" 1 dd_Ratio2 h_Ratio_init) {fd : FuncData} (F : FunD K "law" "law" (defArgs (top 61)) (defBody (top 61)) (defScope (top 61)) [] [] (He.fAd K ("law", none)) fd) : Fno false P w K mg base (L2.CX P w) 10 (He.fAd K ("law", none)) fd ["script"] (spP ⟨K, gam K cls⟩ h_law) := by
  refine def_d (k := 9) (m := 14) (G := G_law) F sc_law rfl fun cdv A outer s0 H E kx ky => ?_
  exact dss_cons (ds_asg (de_callN kx d__law_world (by decide) (da_cons ((dt_var 0).de) da_nil)) (dg_tup ky.calm (dgs_cons (dg_name kx.nd) (dgs_cons (dg_name kx.nd) (dgs_cons (dg_name kx.nd) (dgs_cons (dg_name kx.nd) dgs_nil))))))
      (dss_cons (ds_setF (i := 5) kx.nd (de_callN kx d__law_weights (by decide) (da_cons ((dt_var 0).de) (da_cons ((dt_var 2).de) da_nil))))
      (dss_cons (ds_setF (i := 6) kx.nd (de_tup (da_cons ((dt_var 1).de) (da_cons ((dt_var 2).de) (da_cons ((dt_var 3).de) (da_cons ((dt_var 4).de) (da_cons ((dt_var 5).de) da_nil)))))))
      (dss_cons (ds_setF (i := 7) kx.nd (de_callN kx d__law_net (by decide) (da_cons ((dt_var 1).de) (da_cons ((dt_var 2).de) da_nil))))
      (dss_cons (ds_setF (i := 8) kx.nd (de_callN kx d__law_draws (by decide) (da_cons ((dt_var 0).de) (da_cons (de_int) (da_cons (de_int) da_nil)))))
      (dss_cons (ds_setF (i := 9) kx.nd (de_callTy call_list_of cv_list (by decide +kernel) s.n_list (dk_cons (dt_var 5) dk_nil)))
      (dss_cons (ds_if (db_eq kx.u64 ((de_mod ((de_callTy call_int1 cv_int (by decide +kernel) s.n_int (dk_cons (dt_ix (dt_var 8) ((de_int).dt)) dk_nil)).dt) ((de_int).dt)).dt) ((de_int).dt)) (dss_one (ds_setF (i := 9) kx.nd (de_callTy call_tuple_of cv_tuple (by decide +kernel) s.n_tuple (dk_cons (dt_var 5) dk_nil)))) (dss_nil))
      (dss_cons (ds_setF (i := 10) kx.nd (de_callN kx d__law_all_heights (by decide) (da_cons ((dt_var 2).de) (da_cons ((dt_var 3).de) (da_cons ((dt_var 4).de) (da_cons ((dt_var 5).de) (da_cons ((dt_var 1).de) (da_cons ((dt_var 8).de) da_nil))))))))
      (dss_cons (ds_setF (i := 11) kx.nd (de_callN kx d__law_all_sides (by decide) (da_cons ((dt_var 2).de) (da_cons ((dt_var 3).de) (da_cons ((dt_var 4).de) (da_cons ((dt_var 5).de) (da_cons ((dt_var 1).de) (da_cons ((dt_var 8).de) da_nil))))))))
      (dss_cons (ds_for ky.po ky.calm (di_range1 s.n_range ((de_callB cr_len cv_len (by decide +kernel) s.n_len (dk_cons (dt_var 10) dk_nil)).dt)) (dg_name kx.nd) (dss_one (ds_if (db_not (db_tru ((de_callN kx d__law_heights_said (by decide) (da_cons ((dt_var 7).de) (da_cons ((dt_var 6).de) (da_cons ((dt_var 9).de) (da_cons ((dt_ix (dt_var 10) (dt_var 12)).de) (da_cons ((dt_ix (dt_var 8) ((de_add ((de_int).dt) (dt_var 12)).dt)).de) da_nil)))))).dt))) (dss_one (ds_ret (de_bl))) (dss_nil))))
      (dss_cons (ds_for ky.po ky.calm (di_range1 s.n_range ((de_callB cr_len cv_len (by decide +kernel) s.n_len (dk_cons (dt_var 11) dk_nil)).dt)) (dg_name kx.nd) (dss_one (ds_if (db_not (db_tru ((de_callN kx d__law_side_said (by decide) (da_cons ((dt_var 7).de) (da_cons ((dt_var 6).de) (da_cons ((dt_var 9).de) (da_cons ((dt_ix (dt_var 11) (dt_var 12)).de) (da_cons ((dt_ix (dt_var 8) ((de_add ((de_int).dt) (dt_var 12)).dt)).de) da_nil)))))).dt))) (dss_one (ds_ret (de_bl))) (dss_nil))))
      (dss_cons (ds_for ky.po ky.calm (di_seq (de_lst (da_cons (de_non) (da_cons (de_int) (da_cons (de_mod ((de_callTy call_int1 cv_int (by decide +kernel) s.n_int (dk_cons (dt_ix (dt_var 8) ((de_int).dt)) dk_nil)).dt) ((de_int).dt)) (da_cons (de_str) (da_cons (de_tup da_nil) (da_cons (de_shr (de_mk kx d_Ratio2 (by decide) (da_cons (de_mod ((de_callTy call_int1 cv_int (by decide +kernel) s.n_int (dk_cons (dt_ix (dt_var 8) ((de_int).dt)) dk_nil)).dt) ((de_int).dt)) (da_cons (de_int) da_nil)))) (da_cons (de_tup (da_cons (de_tup da_nil) (da_cons (de_tup da_nil) da_nil))) da_nil))))))))) (dg_name kx.nd) (dss_one (ds_for ky.po ky.calm (di_seq (de_lst (da_cons (de_non) (da_cons (de_int) (da_cons (de_mod ((de_callTy call_int1 cv_int (by decide +kernel) s.n_int (dk_cons (dt_ix (dt_var 8) ((de_int).dt)) dk_nil)).dt) ((de_int).dt)) da_nil))))) (dg_name kx.nd) (dss_one (ds_if (db_not (db_tru ((de_callN kx d__law_says (by decide) (da_cons ((dt_var 7).de) (da_cons ((dt_var 6).de) (da_cons ((dt_var 9).de) (da_cons ((dt_var 13).de) (da_cons ((dt_var 14).de) da_nil)))))).dt))) (dss_one (ds_ret (de_bl))) (dss_nil))))))
      (dss_one (ds_ret (de_eq kx.u64 ((de_callTy call_list_of cv_list (by decide +kernel) s.n_list (dk_cons (dt_var 9) dk_nil)).dt) (dt_var 5)))))))))))))))
end
end K23
end
section
set_option maxHeartbeats 0
namespace K23
open PySem PySem.Spec L2 PyProof.Rows DL
def dd0 : He.DefD := ⟨("is_whole", none), "is_whole", "is_whole", defArgs (top 10), defBody (top 10), defScope (top 10), [], []⟩
def dd1 : He.DefD := ⟨("is_number", none), "is_number", "is_number", defArgs (top 11), defBody (top 11), defScope (top 11), [], []⟩
def dd2 : He.DefD := ⟨("is_row", none), "is_row", "is_row", defArgs (top 12), defBody (top 12), defScope (top 12), [], []⟩
def dd3 : He.DefD := ⟨("is_wholes", none), "is_wholes", "is_wholes", defArgs (top 13), defBody (top 13), defScope (top 13), [], []⟩
def dd4 : He.DefD := ⟨("is_lot", none), "is_lot", "is_lot", defArgs (top 14), defBody (top 14), defScope (top 14), [], []⟩
def dd5 : He.DefD := ⟨("has_word", none), "has_word", "has_word", defArgs (top 15), defBody (top 15), defScope (top 15), [], []⟩
def dd6 : He.DefD := ⟨("Ratio", some "__init__"), "__init__", "Ratio.__init__", defArgs ((cbody (top 28)).getD 0 (.Pass ⟨0, 0, 0, 0⟩)), defBody ((cbody (top 28)).getD 0 (.Pass ⟨0, 0, 0, 0⟩)), defScope ((cbody (top 28)).getD 0 (.Pass ⟨0, 0, 0, 0⟩)), [.int 1], []⟩
def dd7 : He.DefD := ⟨("has_only", none), "has_only", "has_only", defArgs (top 23), defBody (top 23), defScope (top 23), [], []⟩
def dd8 : He.DefD := ⟨("is_name", none), "is_name", "is_name", defArgs (top 24), defBody (top 24), defScope (top 24), [], []⟩
def dd9 : He.DefD := ⟨("is_chance", none), "is_chance", "is_chance", defArgs (top 31), defBody (top 31), defScope (top 31), [], []⟩
def dd10 : He.DefD := ⟨("Net", some "is_arrow"), "is_arrow", "Net.is_arrow", defArgs ((cbody (top 32)).getD 8 (.Pass ⟨0, 0, 0, 0⟩)), defBody ((cbody (top 32)).getD 8 (.Pass ⟨0, 0, 0, 0⟩)), defScope ((cbody (top 32)).getD 8 (.Pass ⟨0, 0, 0, 0⟩)), [], []⟩
def dd11 : He.DefD := ⟨("Net", some "check_places"), "check_places", "Net.check_places", defArgs ((cbody (top 32)).getD 6 (.Pass ⟨0, 0, 0, 0⟩)), defBody ((cbody (top 32)).getD 6 (.Pass ⟨0, 0, 0, 0⟩)), defScope ((cbody (top 32)).getD 6 (.Pass ⟨0, 0, 0, 0⟩)), [], []⟩
def dd12 : He.DefD := ⟨("Net", some "check_arrows"), "check_arrows", "Net.check_arrows", defArgs ((cbody (top 32)).getD 7 (.Pass ⟨0, 0, 0, 0⟩)), defBody ((cbody (top 32)).getD 7 (.Pass ⟨0, 0, 0, 0⟩)), defScope ((cbody (top 32)).getD 7 (.Pass ⟨0, 0, 0, 0⟩)), [], []⟩
def dd13 : He.DefD := ⟨("Net", some "__init__"), "__init__", "Net.__init__", defArgs ((cbody (top 32)).getD 4 (.Pass ⟨0, 0, 0, 0⟩)), defBody ((cbody (top 32)).getD 4 (.Pass ⟨0, 0, 0, 0⟩)), defScope ((cbody (top 32)).getD 4 (.Pass ⟨0, 0, 0, 0⟩)), [], []⟩
def dd14 : He.DefD := ⟨("Net", some "left"), "left", "Net.left", defArgs ((cbody (top 32)).getD 9 (.Pass ⟨0, 0, 0, 0⟩)), defBody ((cbody (top 32)).getD 9 (.Pass ⟨0, 0, 0, 0⟩)), defScope ((cbody (top 32)).getD 9 (.Pass ⟨0, 0, 0, 0⟩)), [], []⟩
def dd15 : He.DefD := ⟨("shows_heights", none), "shows_heights", "shows_heights", defArgs (top 17), defBody (top 17), defScope (top 17), [], []⟩
def dd16 : He.DefD := ⟨("shows_closed", none), "shows_closed", "shows_closed", defArgs (top 18), defBody (top 18), defScope (top 18), [], []⟩
def dd17 : He.DefD := ⟨("shows_distance", none), "shows_distance", "shows_distance", defArgs (top 19), defBody (top 19), defScope (top 19), [], []⟩
def dd18 : He.DefD := ⟨("_law_cell", none), "_law_cell", "_law_cell", defArgs (top 35), defBody (top 35), defScope (top 35), [], []⟩
def dd19 : He.DefD := ⟨("_law_mixed", none), "_law_mixed", "_law_mixed", defArgs (top 36), defBody (top 36), defScope (top 36), [], []⟩
def dd20 : He.DefD := ⟨("_law_draws", none), "_law_draws", "_law_draws", defArgs (top 37), defBody (top 37), defScope (top 37), [], []⟩
def dd21 : He.DefD := ⟨("_law_number", none), "_law_number", "_law_number", defArgs (top 38), defBody (top 38), defScope (top 38), [], []⟩
def dd22 : He.DefD := ⟨("_law_rows", none), "_law_rows", "_law_rows", defArgs (top 39), defBody (top 39), defScope (top 39), [], []⟩
def dd23 : He.DefD := ⟨("_law_net", none), "_law_net", "_law_net", defArgs (top 40), defBody (top 40), defScope (top 40), [], []⟩
def dd24 : He.DefD := ⟨("_law_is_integer", none), "_law_is_integer", "_law_is_integer", defArgs (top 41), defBody (top 41), defScope (top 41), [], []⟩
def dd25 : He.DefD := ⟨("_law_is_row", none), "_law_is_row", "_law_is_row", defArgs (top 42), defBody (top 42), defScope (top 42), [], []⟩
def dd26 : He.DefD := ⟨("_law_is_lot", none), "_law_is_lot", "_law_is_lot", defArgs (top 43), defBody (top 43), defScope (top 43), [], []⟩
def dd27 : He.DefD := ⟨("_law_has_word", none), "_law_has_word", "_law_has_word", defArgs (top 44), defBody (top 44), defScope (top 44), [], []⟩
def dd28 : He.DefD := ⟨("_law_far", none), "_law_far", "_law_far", defArgs (top 45), defBody (top 45), defScope (top 45), [], []⟩
def dd29 : He.DefD := ⟨("_law_heights_are", none), "_law_heights_are", "_law_heights_are", defArgs (top 46), defBody (top 46), defScope (top 46), [], []⟩
def dd30 : He.DefD := ⟨("_law_side_is", none), "_law_side_is", "_law_side_is", defArgs (top 47), defBody (top 47), defScope (top 47), [], []⟩
def dd31 : He.DefD := ⟨("_law_leaves", none), "_law_leaves", "_law_leaves", defArgs (top 48), defBody (top 48), defScope (top 48), [], []⟩
def dd32 : He.DefD := ⟨("_law_world", none), "_law_world", "_law_world", defArgs (top 49), defBody (top 49), defScope (top 49), [], []⟩
def dd33 : He.DefD := ⟨("_law_long", none), "_law_long", "_law_long", defArgs (top 50), defBody (top 50), defScope (top 50), [], []⟩
def dd34 : He.DefD := ⟨("_law_weights", none), "_law_weights", "_law_weights", defArgs (top 51), defBody (top 51), defScope (top 51), [], []⟩
def dd35 : He.DefD := ⟨("_law_turned", none), "_law_turned", "_law_turned", defArgs (top 52), defBody (top 52), defScope (top 52), [], []⟩
def dd36 : He.DefD := ⟨("_law_forward", none), "_law_forward", "_law_forward", defArgs (top 53), defBody (top 53), defScope (top 53), [], []⟩
def dd37 : He.DefD := ⟨("_law_backward", none), "_law_backward", "_law_backward", defArgs (top 54), defBody (top 54), defScope (top 54), [], []⟩
def dd38 : He.DefD := ⟨("_law_all_heights", none), "_law_all_heights", "_law_all_heights", defArgs (top 55), defBody (top 55), defScope (top 55), [], []⟩
def dd39 : He.DefD := ⟨("_law_all_sides", none), "_law_all_sides", "_law_all_sides", defArgs (top 56), defBody (top 56), defScope (top 56), [], []⟩
def dd40 : He.DefD := ⟨("_law_is_bound", none), "_law_is_bound", "_law_is_bound", defArgs (top 57), defBody (top 57), defScope (top 57), [], []⟩
def dd41 : He.DefD := ⟨("_law_says", none), "_law_says", "_law_says", defArgs (top 58), defBody (top 58), defScope (top 58), [], []⟩
def dd42 : He.DefD := ⟨("_law_heights_said", none), "_law_heights_said", "_law_heights_said", defArgs (top 59), defBody (top 59), defScope (top 59), [], []⟩
def dd43 : He.DefD := ⟨("_law_side_said", none), "_law_side_said", "_law_side_said", defArgs (top 60), defBody (top 60), defScope (top 60), [], []⟩
def dd44 : He.DefD := ⟨("law", none), "law", "law", defArgs (top 61), defBody (top 61), defScope (top 61), [], []⟩
def fnL : List He.DefD := [dd0, dd1, dd2, dd3, dd4, dd5, dd6, dd7, dd8, dd9, dd10, dd11, dd12, dd13, dd14, dd15, dd16, dd17, dd18, dd19, dd20, dd21, dd22, dd23, dd24, dd25, dd26, dd27, dd28, dd29, dd30, dd31, dd32, dd33, dd34, dd35, dd36, dd37, dd38, dd39, dd40, dd41, dd42, dd43, dd44]
def faL : List He.Fa := [.free "abs", .free "bool", .free "enumerate", .free "int", .free "isinstance", .free "len", .free "list", .free "max", .free "min", .free "range", .free "str", .free "tuple", .str "DIGITS" "0123456789", .str "LETTERS" "abcdefghijklmnopqrstuvwxyz", .glo "Ratio", .glo "Net", .glo "is_whole", .glo "is_number", .glo "is_row", .glo "is_wholes", .glo "is_lot", .glo "has_word", .mkr "Ratio", .glo "has_only", .glo "is_name", .glo "is_chance", .cls "Net", .meth "Net" "is_arrow", .meth "Net" "check_places", .meth "Net" "check_arrows", .mkr "Net", .meth "Net" "left", .glo "shows_heights", .glo "shows_closed", .glo "shows_distance", .glo "_law_cell", .glo "_law_mixed", .glo "_law_draws", .glo "_law_number", .glo "_law_rows", .glo "_law_net", .glo "_law_is_integer", .glo "_law_is_row", .glo "_law_is_lot", .glo "_law_has_word", .glo "_law_far", .glo "_law_heights_are", .glo "_law_side_is", .glo "_law_leaves", .glo "_law_world", .glo "_law_long", .glo "_law_weights", .glo "_law_turned", .glo "_law_forward", .glo "_law_backward", .glo "_law_all_heights", .glo "_law_all_sides", .glo "_law_is_bound", .glo "_law_says", .glo "_law_heights_said", .glo "_law_side_said", .glo "law"]
def exL : List (PySem.W.Frag → Bool) := [fun K => He.eqO (PySem.W.nsIn K mainGlobals "gcd") (some (some (.builtin "math.gcd"))),
  fun K => PySem.W.selfFirst K (He.ga K "Net"),
  fun K => atB K "arrows" ["Net"],
  fun K => axB K "arrows" [],
  fun K => atB K "caps" ["Net"],
  fun K => axB K "caps" [],
  fun K => atB K "chances" ["Net"],
  fun K => axB K "chances" [],
  fun K => atB K "d" ["Ratio"],
  fun K => axB K "d" [],
  fun K => atB K "heads" ["Net"],
  fun K => axB K "heads" [],
  fun K => atB K "lengths" ["Net"],
  fun K => axB K "lengths" [],
  fun K => atB K "n" ["Ratio"],
  fun K => axB K "n" [],
  fun K => atB K "names" ["Net"],
  fun K => axB K "names" [],
  fun K => atB K "places" ["Net"],
  fun K => axB K "places" [],
  fun K => atB K "prices" ["Net"],
  fun K => axB K "prices" [],
  fun K => atB K "rooms" ["Net"],
  fun K => axB K "rooms" [],
  fun K => atB K "tails" ["Net"],
  fun K => axB K "tails" [],
  fun K => ["Net"].all fun c => (He.Fa.cls c).ok K && He.conB K c "FINEST" (.int 1000),
  fun K => ["Net"].all fun c => (He.Fa.cls c).ok K && He.conB K c "LARGEST" (.int 99999999999999999999),
  fun K => ["Net"].all fun c => (He.Fa.cls c).ok K && He.conB K c "MOST_ARROWS" (.int 32),
  fun K => ["Net"].all fun c => (He.Fa.cls c).ok K && He.conB K c "MOST_PLACES" (.int 20),
  fun K => isiB K [.ref (He.ga K "Ratio")] [("NoneType", false), ("bool", false), ("int", false), ("str", false), ("tuple", false), ("list", false)] [("Ratio", true), ("Net", false)] [],
  fun K => isiB K [.type "bool"] [("NoneType", false), ("bool", true), ("int", false), ("str", false), ("tuple", false), ("list", false)] [("Ratio", false), ("Net", false)] [],
  fun K => isiB K [.type "int"] [("NoneType", false), ("bool", true), ("int", true), ("str", false), ("tuple", false), ("list", false)] [("Ratio", false), ("Net", false)] [],
  fun K => isiB K [.type "str"] [("NoneType", false), ("bool", false), ("int", false), ("str", true), ("tuple", false), ("list", false)] [("Ratio", false), ("Net", false)] [],
  fun K => isiB K [.type "tuple"] [("NoneType", false), ("bool", false), ("int", false), ("str", false), ("tuple", true), ("list", false)] [("Ratio", false), ("Net", false)] []]
theorem say_of {K : PySem.W.Frag} {mg : Str → Option Value} {h : Heap} (X : K.In h) (G : h.Ns mainGlobals mg) (c : SayX faL fnL exL K) : Say K mg where
  n_abs := He.free_ok X G (c.he.fact 0)
  n_bool := He.free_ok X G (c.he.fact 1)
  n_enumerate := He.free_ok X G (c.he.fact 2)
  n_int := He.free_ok X G (c.he.fact 3)
  n_isinstance := He.free_ok X G (c.he.fact 4)
  n_len := He.free_ok X G (c.he.fact 5)
  n_list := He.free_ok X G (c.he.fact 6)
  n_max := He.free_ok X G (c.he.fact 7)
  n_min := He.free_ok X G (c.he.fact 8)
  n_range := He.free_ok X G (c.he.fact 9)
  n_str := He.free_ok X G (c.he.fact 10)
  n_tuple := He.free_ok X G (c.he.fact 11)
  gc_DIGITS := He.str_ok X G (c.he.fact 12)
  gc_LETTERS := He.str_ok X G (c.he.fact 13)
  g_gcd := gl_ok X G (c.test 0)
  g_Ratio := He.glo_ok X G (c.he.fact 14)
  g_Net := He.glo_ok X G (c.he.fact 15)
  g_is_whole := He.glo_ok X G (c.he.fact 16)
  f_is_whole := c.he.def_ 0 (d := dd0) rfl
  g_is_number := He.glo_ok X G (c.he.fact 17)
  f_is_number := c.he.def_ 1 (d := dd1) rfl
  g_is_row := He.glo_ok X G (c.he.fact 18)
  f_is_row := c.he.def_ 2 (d := dd2) rfl
  g_is_wholes := He.glo_ok X G (c.he.fact 19)
  f_is_wholes := c.he.def_ 3 (d := dd3) rfl
  g_is_lot := He.glo_ok X G (c.he.fact 20)
  f_is_lot := c.he.def_ 4 (d := dd4) rfl
  g_has_word := He.glo_ok X G (c.he.fact 21)
  f_has_word := c.he.def_ 5 (d := dd5) rfl
  f_Ratio_init := c.he.def_ 6 (d := dd6) rfl
  k_Ratio := He.mkr_ok (c.he.fact 22)
  g_has_only := He.glo_ok X G (c.he.fact 23)
  f_has_only := c.he.def_ 7 (d := dd7) rfl
  g_is_name := He.glo_ok X G (c.he.fact 24)
  f_is_name := c.he.def_ 8 (d := dd8) rfl
  g_is_chance := He.glo_ok X G (c.he.fact 25)
  f_is_chance := c.he.def_ 9 (d := dd9) rfl
  f_Net_is_arrow := c.he.def_ 10 (d := dd10) rfl
  k_Net_is_arrow := ⟨He.cls_ok (c.he.fact 26), He.meth_ok (c.he.fact 27), c.test 1⟩
  f_Net_check_places := c.he.def_ 11 (d := dd11) rfl
  k_Net_check_places := ⟨He.cls_ok (c.he.fact 26), He.meth_ok (c.he.fact 28), c.test 1⟩
  f_Net_check_arrows := c.he.def_ 12 (d := dd12) rfl
  k_Net_check_arrows := ⟨He.cls_ok (c.he.fact 26), He.meth_ok (c.he.fact 29), c.test 1⟩
  f_Net_init := c.he.def_ 13 (d := dd13) rfl
  k_Net := He.mkr_ok (c.he.fact 30)
  f_Net_left := c.he.def_ 14 (d := dd14) rfl
  k_Net_left := ⟨He.cls_ok (c.he.fact 26), He.meth_ok (c.he.fact 31), c.test 1⟩
  g_shows_heights := He.glo_ok X G (c.he.fact 32)
  f_shows_heights := c.he.def_ 15 (d := dd15) rfl
  g_shows_closed := He.glo_ok X G (c.he.fact 33)
  f_shows_closed := c.he.def_ 16 (d := dd16) rfl
  g_shows_distance := He.glo_ok X G (c.he.fact 34)
  f_shows_distance := c.he.def_ 17 (d := dd17) rfl
  g__law_cell := He.glo_ok X G (c.he.fact 35)
  f__law_cell := c.he.def_ 18 (d := dd18) rfl
  g__law_mixed := He.glo_ok X G (c.he.fact 36)
  f__law_mixed := c.he.def_ 19 (d := dd19) rfl
  g__law_draws := He.glo_ok X G (c.he.fact 37)
  f__law_draws := c.he.def_ 20 (d := dd20) rfl
  g__law_number := He.glo_ok X G (c.he.fact 38)
  f__law_number := c.he.def_ 21 (d := dd21) rfl
  g__law_rows := He.glo_ok X G (c.he.fact 39)
  f__law_rows := c.he.def_ 22 (d := dd22) rfl
  g__law_net := He.glo_ok X G (c.he.fact 40)
  f__law_net := c.he.def_ 23 (d := dd23) rfl
  g__law_is_integer := He.glo_ok X G (c.he.fact 41)
  f__law_is_integer := c.he.def_ 24 (d := dd24) rfl
  g__law_is_row := He.glo_ok X G (c.he.fact 42)
  f__law_is_row := c.he.def_ 25 (d := dd25) rfl
  g__law_is_lot := He.glo_ok X G (c.he.fact 43)
  f__law_is_lot := c.he.def_ 26 (d := dd26) rfl
  g__law_has_word := He.glo_ok X G (c.he.fact 44)
  f__law_has_word := c.he.def_ 27 (d := dd27) rfl
  g__law_far := He.glo_ok X G (c.he.fact 45)
  f__law_far := c.he.def_ 28 (d := dd28) rfl
  g__law_heights_are := He.glo_ok X G (c.he.fact 46)
  f__law_heights_are := c.he.def_ 29 (d := dd29) rfl
  g__law_side_is := He.glo_ok X G (c.he.fact 47)
  f__law_side_is := c.he.def_ 30 (d := dd30) rfl
  g__law_leaves := He.glo_ok X G (c.he.fact 48)
  f__law_leaves := c.he.def_ 31 (d := dd31) rfl
  g__law_world := He.glo_ok X G (c.he.fact 49)
  f__law_world := c.he.def_ 32 (d := dd32) rfl
  g__law_long := He.glo_ok X G (c.he.fact 50)
  f__law_long := c.he.def_ 33 (d := dd33) rfl
  g__law_weights := He.glo_ok X G (c.he.fact 51)
  f__law_weights := c.he.def_ 34 (d := dd34) rfl
  g__law_turned := He.glo_ok X G (c.he.fact 52)
  f__law_turned := c.he.def_ 35 (d := dd35) rfl
  g__law_forward := He.glo_ok X G (c.he.fact 53)
  f__law_forward := c.he.def_ 36 (d := dd36) rfl
  g__law_backward := He.glo_ok X G (c.he.fact 54)
  f__law_backward := c.he.def_ 37 (d := dd37) rfl
  g__law_all_heights := He.glo_ok X G (c.he.fact 55)
  f__law_all_heights := c.he.def_ 38 (d := dd38) rfl
  g__law_all_sides := He.glo_ok X G (c.he.fact 56)
  f__law_all_sides := c.he.def_ 39 (d := dd39) rfl
  g__law_is_bound := He.glo_ok X G (c.he.fact 57)
  f__law_is_bound := c.he.def_ 40 (d := dd40) rfl
  g__law_says := He.glo_ok X G (c.he.fact 58)
  f__law_says := c.he.def_ 41 (d := dd41) rfl
  g__law_heights_said := He.glo_ok X G (c.he.fact 59)
  f__law_heights_said := c.he.def_ 42 (d := dd42) rfl
  g__law_side_said := He.glo_ok X G (c.he.fact 60)
  f__law_side_said := c.he.def_ 43 (d := dd43) rfl
  g_law := He.glo_ok X G (c.he.fact 61)
  f_law := c.he.def_ 44 (d := dd44) rfl
  at_arrows := atB_ok (c.test 2)
  ax_arrows := axB_ok (c.test 3)
  at_caps := atB_ok (c.test 4)
  ax_caps := axB_ok (c.test 5)
  at_chances := atB_ok (c.test 6)
  ax_chances := axB_ok (c.test 7)
  at_d := atB_ok (c.test 8)
  ax_d := axB_ok (c.test 9)
  at_heads := atB_ok (c.test 10)
  ax_heads := axB_ok (c.test 11)
  at_lengths := atB_ok (c.test 12)
  ax_lengths := axB_ok (c.test 13)
  at_n := atB_ok (c.test 14)
  ax_n := axB_ok (c.test 15)
  at_names := atB_ok (c.test 16)
  ax_names := axB_ok (c.test 17)
  at_places := atB_ok (c.test 18)
  ax_places := axB_ok (c.test 19)
  at_prices := atB_ok (c.test 20)
  ax_prices := axB_ok (c.test 21)
  at_rooms := atB_ok (c.test 22)
  ax_rooms := axB_ok (c.test 23)
  at_tails := atB_ok (c.test 24)
  ax_tails := axB_ok (c.test 25)
  co_FINEST := co_ok (v := .int 1000) (c.test 26) (by decide)
  co_LARGEST := co_ok (v := .int 99999999999999999999) (c.test 27) (by decide)
  co_MOST_ARROWS := co_ok (v := .int 32) (c.test 28) (by decide)
  co_MOST_PLACES := co_ok (v := .int 20) (c.test 29) (by decide)
  i_Ratio := isiB_ok (c.test 30) (by decide) (by decide)
  i_bool := isiB_ok (c.test 31) (by decide) (by decide)
  i_int := isiB_ok (c.test 32) (by decide) (by decide)
  i_str := isiB_ok (c.test 33) (by decide) (by decide)
  i_tuple := isiB_ok (c.test 34) (by decide) (by decide)
abbrev R : PySem.W.OpenRow := PySem.W.OpenLaw.row PySem.Challenge.rw_cutsagainst_k23_distance_bounds_judged_e
def loose : List Str := [("_wall" : Str), ("__name__" : Str), ("CutsError" : Str), ("BadText" : Str), ("BadPlace" : Str), ("BadArrow" : Str), ("BadRatio" : Str), ("TooMany" : Str), ("is_whole" : Str), ("is_number" : Str), ("is_row" : Str), ("is_wholes" : Str), ("is_lot" : Str), ("has_word" : Str), ("shows_heights" : Str), ("shows_closed" : Str), ("shows_distance" : Str), ("LETTERS" : Str), ("DIGITS" : Str), ("has_only" : Str), ("is_name" : Str), ("read_number" : Str), ("FIGURES" : Str), ("Ratio" : Str), ("read_ratio" : Str), ("is_chance" : Str), ("Net" : Str), ("NetReader" : Str), ("_law_cell" : Str), ("_law_mixed" : Str), ("_law_draws" : Str), ("_law_number" : Str), ("_law_rows" : Str), ("_law_net" : Str), ("_law_is_integer" : Str), ("_law_is_row" : Str), ("_law_is_lot" : Str), ("_law_has_word" : Str), ("_law_far" : Str), ("_law_heights_are" : Str), ("_law_side_is" : Str), ("_law_leaves" : Str), ("_law_world" : Str), ("_law_long" : Str), ("_law_weights" : Str), ("_law_turned" : Str), ("_law_forward" : Str), ("_law_backward" : Str), ("_law_all_heights" : Str), ("_law_all_sides" : Str), ("_law_is_bound" : Str), ("_law_says" : Str), ("_law_heights_said" : Str), ("_law_side_said" : Str)]
abbrev hk : PySem.W.Hook := hookX 5 faL fnL exL
def ob (s : PySem.W.SharedT) : He.AlD := obsXG 5 faL fnL exL (HandSHeadRun.getT s)
theorem ob_eq (s : PySem.W.SharedT) : ob s = hk.obs s.abs := obsXG_eq (HandSHeadRun.getT_eq s)
theorem run (w : World) : HandSHeadRun.RunEqI R (PySem.W.view R.prog [0, 61]) hk ob 100000 loose w := by
  unfold HandSHeadRun.RunEqI
  kernel_rfl
end K23
end
section
set_option maxHeartbeats 200000
namespace DL
open PySem
section
variable {α β : Type} {a : α} {x : Exn} {f : α → R β}
@[simp] theorem bind_ok : (R.ok a).bind f = f a := rfl
@[simp] theorem bind_ex : (R.ex x : R α).bind f = .ex x := rfl
@[simp] theorem bind_stuck : (R.stuck : R α).bind f = .stuck := rfl
@[simp] theorem lift_some : lift (some a) = .ok a := rfl
@[simp] theorem lift_none : lift (none : Option α) = .stuck := rfl
end
section
variable {env : Slots} {fa fb f : Slots → R DV} {ba bb : Slots → R Bool} {fs : Slots → R (List DV)} {G G' : Slots → Out} {h : DV → DV → Option DV} {hl : List DV → Option DV} {d e : DV} {i : Nat}
@[simp] theorem var_app : var i env = (match (env[i]? : Option (Option DV)) with | some (some d) => .ok d | _ => .stuck) := rfl
@[simp] theorem cst_app : cst d env = .ok d := rfl
@[simp] theorem fz_app : fz f env = (f env).bind fun d => if isFrz d then .ok d else .stuck := rfl
@[simp] theorem op2_app : op2 h fa fb env = (fa env).bind fun x => (fb env).bind fun y => lift (h x y) := rfl
@[simp] theorem opN_app : opN hl fs env = (fs env).bind fun ds => lift (hl ds) := rfl
@[simp] theorem nilL_app : nilL env = .ok [] := rfl
@[simp] theorem consL_app : consL fa fs env = (fa env).bind fun d => (fs env).bind fun ds => .ok (d :: ds) := rfl
@[simp] theorem tst_app : tst f env = (f env).bind fun d => (match d with | .bl b => .ok b | _ => .stuck) := rfl
@[simp] theorem tru_app : tru f env = (f env).bind fun d => lift (truB d) := rfl
@[simp] theorem andB_app : andB ba bb env = (ba env).bind fun c => if c = true then bb env else .ok false := rfl
@[simp] theorem orB_app : orB ba bb env = (ba env).bind fun c => if c = true then .ok true else bb env := rfl
@[simp] theorem notB_app : notB ba env = (ba env).bind fun c => .ok (!c) := rfl
@[simp] theorem ifS_app : ifS ba G G' env = (match ba env with | .ok k => if k = true then G env else G' env | .ex x => .ex x env | .stuck => .stuck) := rfl
@[simp] theorem seqS_app : seqS G G' env = (match G env with | .nx e => G' e | o => o) := rfl
@[simp] theorem nxS_app : nxS env = .nx env := rfl
@[simp] theorem retS_app : retS f env = (match f env with | .ok d => .rt d env | .ex x => .ex x env | .stuck => .stuck) := rfl
@[simp] theorem setF_app : setF i f env = (match f env with | .ok d => .nx (env.set i (some (freeze d))) | .ex x => .ex x env | .stuck => .stuck) := rfl
@[simp] theorem setS_app : setS i f env = (match f env with | .ok d => .nx (env.set i (some d)) | .ex x => .ex x env | .stuck => .stuck) := rfl
@[simp] theorem one_app {g : DV → Option DV} : one g [d] = g d := rfl
@[simp] theorem two_app : two h [d, e] = h d e := rfl
end

section
variable {a b : Int} {z : Str} {k : Bool} {ds : List DV} {c : Str} {fs : List (Str × DV)} {env : Slots} {f fe fo : Slots → R DV} {cs ce : Str → Bool} {i : Nat} {L : Lens}
@[simp] theorem add_int : addD (.int a) (.int b) = some (.int (a + b)) := rfl
@[simp] theorem sub_int : subD (.int a) (.int b) = some (.int (a - b)) := rfl
@[simp] theorem lt_int : ltD (.int a) (.int b) = some (.bl (decide (a < b))) := rfl
@[simp] theorem le_int : leD (.int a) (.int b) = some (.bl (decide (a ≤ b))) := rfl
@[simp] theorem gt_int : gtD (.int a) (.int b) = some (.bl (decide (b < a))) := rfl
@[simp] theorem ge_int : geD (.int a) (.int b) = some (.bl (decide (b ≤ a))) := rfl
theorem mul_int (h : a.natAbs.log2 + b.natAbs.log2 < 1000000) : mulD (.int a) (.int b) = some (.int (a * b)) := by
  show (if _ then _ else _) = _
  rw [if_pos h]
theorem div_int (h : b ≠ 0) (h2 : b.natAbs.log2 < 9000) : divD (.int a) (.int b) = some (.int (fdivI a b)) := by
  show (if _ then _ else _) = _
  rw [if_pos (decide_eq_true ⟨h, h2⟩)]
theorem mod_int (h : b ≠ 0) : modD (.int a) (.int b) = some (.int (fmodI a b)) := by
  show (if _ then _ else _) = _
  rw [if_pos (decide_eq_true h)]
@[simp] theorem gcd_int : gcdD (.int a) (.int b) = some (.int ((Nat.gcd a.natAbs b.natAbs : Nat) : Int)) := rfl
@[simp] theorem eq_int : eqD (.int a) (.int b) = some (.bl (decide (a = b))) := by
  have h : ∀ i : Int, SeqAt.shaped (.int i) = true := fun i => by rfl
  show Option.map DV.bl (if (SeqAt.shaped (.int a) && SeqAt.shaped (.int b)) = true then some (a == b) else none) = _
  rw [h, h]
  by_cases c : a = b <;> simp [c]
@[simp] theorem ne_int : neD (.int a) (.int b) = some (.bl (!decide (a = b))) := by
  have h : ∀ i : Int, SeqAt.shaped (.int i) = true := fun i => by rfl
  show Option.map (fun b => DV.bl (!b)) (if (SeqAt.shaped (.int a) && SeqAt.shaped (.int b)) = true then some (a == b) else none) = _
  rw [h, h]
  by_cases c : a = b <;> simp [c]
@[simp] theorem frz_int : freeze (.int a) = .int a := rfl
@[simp] theorem frz_bl : freeze (.bl k) = .bl k := rfl
@[simp] theorem frz_str : freeze (.str z) = .str z := rfl
@[simp] theorem frz_non : freeze .non = .non := rfl
@[simp] theorem frz_tup : freeze (.tup ds) = .tup ds := rfl
@[simp] theorem frz_ins : freeze (.ins c fs) = .ins c fs := rfl
@[simp] theorem isf_int : isFrz (.int a) = true := rfl
@[simp] theorem isf_bl : isFrz (.bl k) = true := rfl
@[simp] theorem isf_str : isFrz (.str z) = true := rfl
@[simp] theorem isf_tup : isFrz (.tup ds) = true := rfl
@[simp] theorem isf_ins : isFrz (.ins c fs) = true := rfl
@[simp] theorem isf_lst : isFrz (.lst ds) = true := rfl
@[simp] theorem isf_scr : isFrz (.scr ds) = true := rfl
@[simp] theorem isf_non : isFrz .non = true := rfl
@[simp] theorem negV_app : negV f env = (f env).bind fun d => (match d with | .int i => .ok (.int (-i)) | _ => .stuck) := rfl
@[simp] theorem fldV_app : fldV c cs ce fo env = (fo env).bind fun d => lift (fldD c cs ce d) := rfl
@[simp] theorem fldD_i {f : Str} : fldD f cs ce (.ins c fs) = if cs c then fs.lookup f else none := rfl
theorem mget_id' {d : DV} (h : env[i]? = some (some d)) : mget i lId env = some d := by unfold mget; rw [h]; rfl
theorem mput_id' {d e : DV} (h : env[i]? = some (some d)) : mput i lId e env = env.set i (some e) := by unfold mput; rw [h]; rfl
theorem fldS_ok {n : Str} {d : DV} (h : fe env = .ok d) (h2 : env[0]? = some (some (.obj c fs))) (h3 : cs c = true) (h4 : fs.length < 900) : fldS n cs 0 lId fe env = .nx (env.set 0 (some (.obj c (putD n d fs)))) := by
  unfold fldS bindE
  rw [h]
  simp only [mget_id' h2]
  rw [if_pos ⟨h3, h4⟩]
  simp only [mput_id' h2]
end
end DL
end
section
set_option maxHeartbeats 200000
namespace DL
open PySem
/-! evaluation of the combinators -/
section
variable {env e1 : Slots} {fa fb f fe fi fo fc fd : Slots → R DV} {ba bb : Slots → R Bool} {fs : Slots → R (List DV)} {G G' : Slots → Out} {h : List DV → R DV} {d e : DV} {i j : Nat} {ds dds : List DV} {gt : DV → Slots → Option Slots} {gs : List DV → Slots → Option Slots} {ans : DV → Option Bool} {fl fh : Slots → R (Option Int)}
@[simp] theorem callV_app : callV h dds fs env = (fs env).bind fun ds => h (freezes ds ++ dds) := rfl
@[simp] theorem isiV_app : isiV ans fa env = (fa env).bind fun d => lift ((ans d).map .bl) := rfl
@[simp] theorem andV_app : andV fa fb env = (fa env).bind fun d => (match d with | .bl true => fb env | .bl false => .ok (.bl false) | _ => .stuck) := rfl
@[simp] theorem orV_app : orV fa fb env = (fa env).bind fun d => (match d with | .bl true => .ok (.bl true) | .bl false => fb env | _ => .stuck) := rfl
@[simp] theorem notV_app : notV fa env = (fa env).bind fun d => lift ((truB d).map fun b => .bl (!b)) := rfl
@[simp] theorem ifV_app : ifV ba fa fb env = (ba env).bind fun k => if k = true then fa env else fb env := rfl
@[simp] theorem tupV_app : tupV fs env = (fs env).bind fun ds => if ds.all isFrz = true ∧ ds.length ≤ big then .ok (.tup ds) else .stuck := rfl
@[simp] theorem lstV_app : lstV fs env = (fs env).bind fun ds => if ds.length ≤ big then .ok (.own ds) else .stuck := rfl
@[simp] theorem slV_app : slV fa fl fh env = (fa env).bind fun x => (fl env).bind fun l => (fh env).bind fun h => lift (cutD x l h) := rfl
@[simp] theorem part_app : part fa env = (fa env).bind fun d => (match d with | .int i => .ok (some i) | _ => .stuck) := rfl
@[simp] theorem noPart_app : noPart env = .ok none := rfl
@[simp] theorem shr_app : shr f env = (f env).bind fun d => .ok (freeze d) := rfl
@[simp] theorem bkS_app : bkS env = .bk env := rfl
@[simp] theorem ctS_app : ctS env = .ct env := rfl
@[simp] theorem stuckS_app : stuckS env = .stuck := rfl
@[simp] theorem dropS_app : dropS f env = (match f env with | .ok _ => .nx env | .ex x => .ex x env | .stuck => .stuck) := rfl
@[simp] theorem itS_app : itS f env = (f env).bind fun d => lift (walkD d) := rfl
@[simp] theorem rgS1_app : rgS1 f env = (f env).bind fun d => (match d with | .int j => if inR j = true then .ok (rngL 0 j) else .stuck | _ => .stuck) := rfl
@[simp] theorem rgS2_app : rgS2 fa fb env = (fa env).bind fun d => (fb env).bind fun e => (match d, e with | .int i, .int j => if (inR i && inR j) = true then .ok (rngL i j) else .stuck | _, _ => .stuck) := rfl
@[simp] theorem enS_app : enS f env = (f env).bind fun d => (match d with | .lst ds => .ok (pairsFrom 0 ds) | .scr ds => .ok (pairsFrom 0 ds) | .tup ds => .ok (pairsFrom 0 ds) | _ => .stuck) := rfl
@[simp] theorem forS_app : forS fs gt G env = (match fs env with | .ok ds => loopS gt G ds env | .ex x => .ex x env | .stuck => .stuck) := rfl
@[simp] theorem nameG_app : nameG i d env = some (env.set i (some d)) := rfl
@[simp] theorem nilG_app : nilG [] env = some env := rfl
@[simp] theorem consG_app : consG gt gs (d :: ds) env = (gt d env).bind fun e => gs ds e := rfl
@[simp] theorem tupG_app {n : Nat} : tupG n gs (.tup ds) env = if ds.length = n then gs ds env else none := rfl
@[simp] theorem asgS_app : asgS f gt env = (match f env with | .ok d => (if isFrz d = true then (match gt d env with | some e => .nx e | none => .stuck) else .stuck) | .ex x => .ex x env | .stuck => .stuck) := rfl
@[simp] theorem lcV_app {vs : List Nat} : lcV vs fs gt ba fe env = (fs env).bind fun ds => if ds.length ≤ big then (match lcLoop gt ba fe (wipeD env vs) ds with | .ok r => .ok (.own r) | _ => .stuck) else .stuck := rfl
@[simp] theorem wipeD_nil : wipeD env [] = env := rfl
@[simp] theorem wipeD_cons {v : Nat} {vs : List Nat} : wipeD env (v :: vs) = (wipeD env vs).set v none := rfl
@[simp] theorem yesT_app : yesT env = .ok true := rfl
@[simp] theorem retM_app : retM i env = (match (env[i]? : Option (Option DV)) with | some (some d) => .rt d (env.set i none) | _ => .stuck) := by first | rfl | (unfold retM; rfl)
@[simp] theorem frzS_app : frzS i env = (match (env[i]? : Option (Option DV)) with | some (some d) => .nx (env.set i (some (freeze d))) | _ => .stuck) := rfl
@[simp] theorem parS_app : parS i j fs env = (match fs env with | .ok [d, e] => .nx ((env.set i (some (freeze d))).set j (some (freeze e))) | .ex x => .ex x env | _ => .stuck) := by first | rfl | (unfold parS; rfl)
@[simp] theorem appS_app : appS i lId fe env = (match (env[i]? : Option (Option DV)) with | some (some (.own ds)) => (match fe env with | .ok d => (if ds.length < big then .nx (env.set i (some (.own (ds ++ [d])))) else .stuck) | .ex x => .ex x env | .stuck => .stuck) | _ => .stuck) := by
  unfold appS mget mput lId bindE
  cases hz : (env[i]? : Option (Option DV)) with
  | none => rfl
  | some z => cases z with
    | none => rfl
    | some z => cases z <;> first | rfl | (simp only []; cases fe env <;> simp only [hz])
@[simp] theorem fldS_app {f : Str} {cs : Str → Bool} : fldS f cs i lId fe env = (match fe env with | .ok d => (match (env[i]? : Option (Option DV)) with | some (some (.obj c xs)) => (if cs c = true ∧ xs.length < 900 then .nx (env.set i (some (.obj c (putD f d xs)))) else .stuck) | _ => .stuck) | .ex x => .ex x env | .stuck => .stuck) := by
  unfold fldS mget mput lId bindE
  cases fe env with
  | ok d =>
    simp only []
    cases hz : (env[i]? : Option (Option DV)) with
    | none => rfl
    | some z => cases z with
      | none => rfl
      | some z => cases z <;> rfl
  | _ => rfl
@[simp] theorem setIxS_app : setIxS i lId fi fe env = (match fe env with | .ok d => (match (env[i]? : Option (Option DV)) with | some (some (.own ds)) => (match fi env with | .ok (.int k) => (match L2.ixN ds.length k with | some j => .nx (env.set i (some (.own (ds.set j d)))) | none => .stuck) | _ => .stuck) | _ => .stuck) | .ex x => .ex x env | .stuck => .stuck) := by
  unfold setIxS mget mput lId bindE
  cases fe env with
  | ok d =>
    simp only []
    cases hz : (env[i]? : Option (Option DV)) with
    | none => rfl
    | some z => cases z with
      | none => rfl
      | some z => cases z <;> first | rfl | (simp only []; split <;> (try rfl) <;> (split <;> rfl))
  | _ => rfl
@[simp] theorem augS_app {g : Int → Int → Int} : augS i g fe env = (match (env[i]? : Option (Option DV)) with | some (some (.int n)) => (match fe env with | .ok (.int m) => .nx (env.set i (some (.int (g n m)))) | .ok _ => .stuck | .ex x => .ex x env | .stuck => .stuck) | _ => .stuck) := by
  unfold augS bindE
  cases hz : (env[i]? : Option (Option DV)) with
  | none => rfl
  | some z => cases z with
    | none => rfl
    | some z =>
      cases z with
      | int n =>
        simp only []
        cases fe env with
        | ok d => cases d <;> rfl
        | _ => rfl
      | _ => rfl
@[simp] theorem mkV_app {c : Str} {h : List (Str × DV) → List DV → RS} : mkV c h dds fs env = (fs env).bind fun ds => (match h [] (freezes ds ++ dds) with | .ok .non fs => .ok (.obj c fs) | .ex x _ => .ex x | _ => .stuck) := rfl
@[simp] theorem methV_app {c m : Str} : methV c m h dds fo fs env = (fo env).bind fun d => (match freeze d with | .ins c' xs => (if c' = c ∧ xs.lookup m = none then (fs env).bind fun ds => h (.ins c' xs :: (freezes ds ++ dds)) else .stuck) | _ => .stuck) := rfl
@[simp] theorem conV_app {f : Str} {cs : Str → Bool} {r : DV} : conV f cs r fo env = (fo env).bind fun d => lift (conD f cs r d) := rfl
@[simp] theorem chV_app {h h' : DV → DV → Option DV} : chV h h' fa fb fc env = (fa env).bind fun x => (fb env).bind fun y => (match h x y with | some (.bl k) => (if k = true then (fc env).bind fun z => lift (h' y z) else .ok (.bl false)) | _ => .stuck) := rfl
@[simp] theorem ch4V_app {h1 h2 h3 : DV → DV → Option DV} : ch4V h1 h2 h3 fa fb fc fd env = (fa env).bind fun x => (fb env).bind fun y => (lift (h1 x y)).bind fun u => (match u with
  | .bl k => if k = true then ((fc env).bind fun z => (lift (h2 y z)).bind fun u2 => (match u2 with
    | .bl k2 => if k2 = true then ((fd env).bind fun t => lift (h3 z t)) else .ok (.bl false)
    | _ => .stuck)) else .ok (.bl false)
  | _ => .stuck) := rfl
@[simp] theorem freezes_nil : freezes [] = [] := by simp [freezes]
@[simp] theorem freezes_cons : freezes (d :: ds) = freeze d :: freezes ds := by simp [freezes]
theorem freezes_frz : ∀ {ds : List DV}, ds.all isFrz = true → freezes ds = ds
  | [], _ => by simp
  | d :: ds, h => by
    rw [List.all_cons, Bool.and_eq_true] at h
    rw [freezes_cons, freeze_frz h.1, freezes_frz h.2]
theorem frz_own (h : ds.all isFrz = true) : freeze (.own ds) = .lst ds := by unfold freeze; rw [freezes_frz h]
theorem ints_frz (ns : List Int) : (ns.map DV.int).all isFrz = true := by induction ns <;> simp_all
@[simp] theorem frz_ints (ns : List Int) : freeze (.own (ns.map DV.int)) = .lst (ns.map .int) := frz_own (ints_frz ns)
@[simp] theorem frz_lst : freeze (.lst ds) = .lst ds := rfl
@[simp] theorem frz_scr : freeze (.scr ds) = .scr ds := rfl
@[simp] theorem frz_rng {a b : Int} : freeze (.rng a b) = .rng a b := rfl
@[simp] theorem isf_rng {a b : Int} : isFrz (.rng a b) = true := rfl
@[simp] theorem isf_own : isFrz (.own ds) = false := rfl
@[simp] theorem isf_obj {c : Str} {fs : List (Str × DV)} : isFrz (.obj c fs) = false := rfl
end
/-! values -/
section
variable {ds es : List DV} {i a b : Int} {k : Bool} {z : Str} {d : DV} {x y : DV}
@[simp] theorem walk_lst : walkD (.lst ds) = some ds := rfl
@[simp] theorem walk_tup : walkD (.tup ds) = some ds := rfl
@[simp] theorem walk_own : walkD (.own ds) = some (freezes ds) := rfl
@[simp] theorem walk_str : walkD (.str z) = some (signs z) := rfl
@[simp] theorem ix_lst : ixD (.lst ds) (.int i) = L2.atI ds i := rfl
@[simp] theorem ix_own : ixD (.own ds) (.int i) = L2.atI ds i := rfl
@[simp] theorem ix_tup : ixD (.tup ds) (.int i) = L2.atI ds i := rfl
@[simp] theorem ix_scr : ixD (.scr ds) (.int i) = L2.atI ds i := rfl
theorem atI_nat {α : Type} (xs : List α) (j : Nat) : L2.atI xs (j : Int) = xs[j]? := by
  unfold L2.atI L2.ixN
  rw [if_pos (by omega)]
  by_cases h : (j : Int) < (xs.length : Int)
  · rw [if_pos h]; rfl
  · rw [if_neg h]
    exact (List.getElem?_eq_none (by omega)).symm
theorem atI_pos {α : Type} (xs : List α) {i : Int} (h : 0 ≤ i) : L2.atI xs i = xs[i.toNat]? := by
  have := atI_nat xs i.toNat
  rw [Int.toNat_of_nonneg h] at this
  exact this
@[simp] theorem atI_lit {α : Type} (xs : List α) (n : Nat) : L2.atI xs (no_index (@OfNat.ofNat Int n instOfNat)) = xs[n]? := atI_nat xs n
theorem atI_neg1 {α : Type} (xs : List α) : L2.atI xs (-1) = xs.getLast? := by
  unfold L2.atI L2.ixN
  rw [if_neg (by omega), List.getLast?_eq_getElem?]
  cases xs with
  | nil => rfl
  | cons x xs =>
    rw [if_pos (by simp; omega)]
    have e : (-1 + (((x :: xs).length : Nat) : Int)).toNat = (x :: xs).length - 1 := by simp; omega
    rw [e]; rfl
@[simp] theorem len_lst : lenD (.lst ds) = some (.int ds.length) := rfl
@[simp] theorem len_own : lenD (.own ds) = some (.int ds.length) := rfl
@[simp] theorem len_tup : lenD (.tup ds) = some (.int ds.length) := rfl
@[simp] theorem len_scr : lenD (.scr ds) = some (.int ds.length) := rfl
@[simp] theorem int_int : intD1 (.int i) = some (.int i) := rfl
@[simp] theorem abs_int : absD (.int i) = some (.int (i.natAbs : Int)) := by
  unfold absD
  simp only [Option.some.injEq, DV.int.injEq]
  split <;> omega
@[simp] theorem rng1_int : rng1D (.int i) = some (.rng 0 i) := rfl
@[simp] theorem tup_tup : tupD (.tup ds) = some (.tup ds) := rfl
@[simp] theorem tup_lst : tupD (.lst ds) = some (.tup ds) := rfl
@[simp] theorem tup_own : tupD (.own ds) = if ds.all isFrz = true then some (.tup ds) else none := rfl
@[simp] theorem tru_bl : truB (.bl k) = some k := rfl
@[simp] theorem tru_non : truB .non = some false := rfl
@[simp] theorem tru_int : truB (.int i) = some (i != 0) := rfl
@[simp] theorem tru_tup : truB (.tup ds) = some (!ds.isEmpty) := rfl
@[simp] theorem tru_lst : truB (.lst ds) = some (!ds.isEmpty) := rfl
@[simp] theorem tru_own : truB (.own ds) = some (!ds.isEmpty) := rfl
@[simp] theorem is_non {x : DV} : isD x .non = some (.bl (isNon x)) := rfl
@[simp] theorem isnot_non {x : DV} : isnotD x .non = some (.bl (!isNon x)) := rfl
@[simp] theorem isN_non : isNon .non = true := rfl
@[simp] theorem isN_int : isNon (.int i) = false := rfl
@[simp] theorem isN_tup : isNon (.tup ds) = false := rfl
@[simp] theorem isN_str : isNon (.str z) = false := rfl
@[simp] theorem isN_ins {c : Str} {fs : List (Str × DV)} : isNon (.ins c fs) = false := rfl
@[simp] theorem is_blbl {x y : Bool} : isD (.bl x) (.bl y) = some (.bl (x == y)) := by cases x <;> cases y <;> rfl
@[simp] theorem isnot_blbl {x y : Bool} : isnotD (.bl x) (.bl y) = some (.bl (x != y)) := by cases x <;> cases y <;> rfl
theorem add_tup (h : ds.length + es.length ≤ big) : addD (.tup ds) (.tup es) = some (.tup (ds ++ es)) := by
  show (if _ then _ else _) = _
  rw [if_pos h]
theorem mod_pos {c m : Int} (h : 0 < m) : modD (.int c) (.int m) = some (.int (c % m)) := by
  rw [mod_int (by omega)]; unfold fmodI; rw [if_pos h]
theorem div_pos {c m : Int} (h : 0 < m) (h2 : m < 2 ^ 250) : divD (.int c) (.int m) = some (.int (c / m)) := by
  have e : m.natAbs < 2 ^ 250 := by omega
  rw [div_int (by omega) (Nat.lt_trans ((Nat.log2_lt (by omega)).mpr e) (by decide))]
  unfold fdivI
  rw [if_pos h]
/-- numbers of less than 1000 bits -/
def Sm (i : Int) : Prop := i.natAbs < 2 ^ 1000
theorem Sm.log {i : Int} (h : Sm i) : i.natAbs.log2 < 1000 := by
  unfold Sm at h
  by_cases z : i.natAbs = 0
  · rw [z]; decide
  · exact (Nat.log2_lt z).mpr h
theorem mul_sm {a b : Int} (ha : Sm a) (hb : Sm b) : mulD (.int a) (.int b) = some (.int (a * b)) := mul_int (by have := ha.log; have := hb.log; omega)
theorem div_sm {a b : Int} (hb : Sm b) (h : b ≠ 0) : divD (.int a) (.int b) = some (.int (fdivI a b)) := div_int h (by have := hb.log; omega)
theorem Sm.of {i : Int} (h0 : 0 ≤ i) (h : i < 2 ^ 250) : Sm i := by
  have e : i.natAbs < 2 ^ 250 := by omega
  exact Nat.lt_trans e (Nat.pow_lt_pow_right (by decide) (by decide))
theorem mul_le {a b : Int} (ha : 0 ≤ a) (ha2 : a < 2 ^ 250) (hb : 0 ≤ b) (hb2 : b < 2 ^ 250) : mulD (.int a) (.int b) = some (.int (a * b)) := mul_sm (.of ha ha2) (.of hb hb2)
theorem pow_int {i j : Int} (h : 0 ≤ j ∧ j ≤ 1000000 ∧ i.natAbs < 2 ^ 64) : powD (.int i) (.int j) = some (.int (i ^ j.toNat)) := by
  show (if _ then _ else _) = _
  rw [if_pos (decide_eq_true h)]
end
end DL
end
section
set_option maxHeartbeats 200000
namespace DL
open PySem
/-! loops, by an invariant on the slots -/
/-- what a turn may come to: B behind a break, T at a return -/
def Turn3 (I B : Slots → Prop) (T : DV → Slots → Prop) : Out → Prop
  | .nx e => I e
  | .ct e => I e
  | .bk e => B e
  | .rt d e => T d e
  | .ex _ _ => False
  | .stuck => False
def End3 (I B : Slots → Prop) (T : DV → Slots → Prop) : Out → Prop
  | .nx e => I e ∨ B e
  | .rt d e => T d e
  | _ => False
theorem loop3 {gt : DV → Slots → Option Slots} {G : Slots → Out} {B : Slots → Prop} {T : DV → Slots → Prop} : ∀ (ds : List DV) (I : Nat → Slots → Prop) (env : Slots), I 0 env →
    (∀ i d e, ds[i]? = some d → I i e → ∃ e1, gt d e = some e1 ∧ Turn3 (I (i + 1)) B T (G e1)) → End3 (I ds.length) B T (loopS gt G ds env)
  | [], I, env, h0, _ => .inl h0
  | d :: ds, I, env, h0, hs => by
    obtain ⟨e1, h1, h2⟩ := hs 0 d env rfl h0
    have rest : ∀ e, I 1 e → End3 (I (ds.length + 1)) B T (loopS gt G ds e) := fun e he =>
      loop3 ds (fun i => I (i + 1)) e he fun i d e hd hi => hs (i + 1) d e hd hi
    unfold loopS
    rw [h1]
    simp only []
    cases hg : G e1 with
    | nx e => rw [hg] at h2; exact rest e h2
    | ct e => rw [hg] at h2; exact rest e h2
    | bk e => rw [hg] at h2; exact .inr h2
    | rt d e => rw [hg] at h2; exact h2
    | ex x e => rw [hg] at h2; exact h2.elim
    | stuck => rw [hg] at h2; exact h2.elim
/-- a loop without break and return -/
theorem loop1 {gt : DV → Slots → Option Slots} {G : Slots → Out} (ds : List DV) (I : Nat → Slots → Prop) (env : Slots) (h0 : I 0 env)
    (hs : ∀ i d e, ds[i]? = some d → I i e → ∃ e1 e2, gt d e = some e1 ∧ G e1 = .nx e2 ∧ I (i + 1) e2) : ∃ e, loopS gt G ds env = .nx e ∧ I ds.length e := by
  have h := loop3 (gt := gt) (G := G) (B := fun _ => False) (T := fun _ _ => False) ds I env h0 fun i d e hd hi => by
    obtain ⟨e1, e2, a, b, c⟩ := hs i d e hd hi
    exact ⟨e1, a, by rw [b]; exact c⟩
  cases hl : loopS gt G ds env with
  | nx e => rw [hl] at h; exact ⟨e, rfl, h.elim id False.elim⟩
  | _ => rw [hl] at h; exact h.elim
theorem rngL_get {a b : Int} {i : Nat} {d : DV} (h : (rngL a b)[i]? = some d) : d = .int (a + i) ∧ a + i < b := by
  unfold rngL at h
  rw [List.getElem?_map] at h
  by_cases hi : i < (b - a).toNat
  · rw [List.getElem?_range hi] at h
    cases h
    exact ⟨rfl, by omega⟩
  · rw [List.getElem?_eq_none (by simpa using hi)] at h
    cases h
theorem rngL_len {a b : Int} : (rngL a b).length = (b - a).toNat := by unfold rngL; simp
/-- for k in range(n) -/
theorem loopR {gt : DV → Slots → Option Slots} {G : Slots → Out} (n : Nat) (I : Nat → Slots → Prop) (env : Slots) (h0 : I 0 env)
    (hs : ∀ i e, i < n → I i e → ∃ e1 e2, gt (.int (i : Int)) e = some e1 ∧ G e1 = .nx e2 ∧ I (i + 1) e2) : ∃ e, loopS gt G (rngL 0 n) env = .nx e ∧ I n e := by
  have h := loop1 (gt := gt) (G := G) (rngL 0 n) I env h0 fun i d e hd hi => by
    obtain ⟨rfl, hlt⟩ := rngL_get hd
    rw [Int.zero_add]
    exact hs i e (by omega) hi
  rw [rngL_len] at h
  simpa using h
theorem forS_ok {fs : Slots → R (List DV)} {gt : DV → Slots → Option Slots} {G : Slots → Out} {env : Slots} {ds : List DV} (h : fs env = .ok ds) : forS fs gt G env = loopS gt G ds env := by rw [forS_app, h]
theorem rg1_int {fa : Slots → R DV} {env : Slots} {n : Int} (h : fa env = .ok (.int n)) (hn : inR n = true) : rgS1 fa env = .ok (rngL 0 n) := by
  unfold rgS1
  rw [h]
  exact if_pos hn
theorem rg1_ok {fa : Slots → R DV} {env : Slots} {n : Nat} (h : fa env = .ok (.int (n : Int))) (hn : n < 2 ^ 62) : rgS1 fa env = .ok (rngL 0 n) := rg1_int h (inR_of (by omega))
/-- for k in range(n): .. -/
theorem forR {fa : Slots → R DV} {gt : DV → Slots → Option Slots} {G : Slots → Out} {env : Slots} (n : Nat) (h : fa env = .ok (.int (n : Int))) (hn : n < 2 ^ 62) (I : Nat → Slots → Prop) (h0 : I 0 env)
    (hs : ∀ i e, i < n → I i e → ∃ e1 e2, gt (.int (i : Int)) e = some e1 ∧ G e1 = .nx e2 ∧ I (i + 1) e2) : ∃ e, forS (rgS1 fa) gt G env = .nx e ∧ I n e := by
  obtain ⟨e, h1, h2⟩ := loopR (gt := gt) (G := G) n I env h0 hs
  exact ⟨e, (forS_ok (rg1_ok h hn)).trans h1, h2⟩
/-- for x in ds: .. -/
theorem for1 {fs : Slots → R (List DV)} {gt : DV → Slots → Option Slots} {G : Slots → Out} {env : Slots} (ds : List DV) (h : fs env = .ok ds) (I : Nat → Slots → Prop) (h0 : I 0 env)
    (hs : ∀ i d e, ds[i]? = some d → I i e → ∃ e1 e2, gt d e = some e1 ∧ G e1 = .nx e2 ∧ I (i + 1) e2) : ∃ e, forS fs gt G env = .nx e ∧ I ds.length e := by
  obtain ⟨e, h1, h2⟩ := loop1 (gt := gt) (G := G) ds I env h0 hs
  exact ⟨e, (forS_ok h).trans h1, h2⟩
theorem for3 {fs : Slots → R (List DV)} {gt : DV → Slots → Option Slots} {G : Slots → Out} {env : Slots} {B : Slots → Prop} {T : DV → Slots → Prop} (ds : List DV) (h : fs env = .ok ds) (I : Nat → Slots → Prop) (h0 : I 0 env)
    (hs : ∀ i d e, ds[i]? = some d → I i e → ∃ e1, gt d e = some e1 ∧ Turn3 (I (i + 1)) B T (G e1)) : End3 (I ds.length) B T (forS fs gt G env) := by
  rw [forS_ok h]
  exact loop3 ds I env h0 hs
/-- comprehensions -/
theorem lc_map {gt : DV → Slots → Option Slots} {fe : Slots → R DV} {env0 : Slots} {f : DV → DV} : ∀ (ds : List DV), (∀ d ∈ ds, ∃ e1, gt d env0 = some e1 ∧ fe e1 = .ok (f d)) → lcLoop gt yesT fe env0 ds = .ok (ds.map f)
  | [], _ => rfl
  | d :: ds, h => by
    obtain ⟨e1, h1, h2⟩ := h d (List.mem_cons_self ..)
    unfold lcLoop
    rw [h1]
    simp only [yesT_app, h2, lc_map ds fun x hx => h x (List.mem_cons_of_mem _ hx), List.map_cons]
theorem lc_filter {gt : DV → Slots → Option Slots} {ft : Slots → R Bool} {fe : Slots → R DV} {env0 : Slots} {f : DV → DV} {p : DV → Bool} : ∀ (ds : List DV), (∀ d ∈ ds, ∃ e1, gt d env0 = some e1 ∧ ft e1 = .ok (p d) ∧ (p d = true → fe e1 = .ok (f d))) → lcLoop gt ft fe env0 ds = .ok ((ds.filter p).map f)
  | [], _ => rfl
  | d :: ds, h => by
    obtain ⟨e1, h1, h2, h3⟩ := h d (List.mem_cons_self ..)
    have ih := lc_filter (gt := gt) (ft := ft) (fe := fe) (f := f) (p := p) ds fun x hx => h x (List.mem_cons_of_mem _ hx)
    unfold lcLoop
    rw [h1]
    simp only [h2]
    cases hp : p d with
    | true => simp only [h3 hp, ih, List.filter_cons, hp, if_true, List.map_cons]
    | false => simp only [ih, List.filter_cons, hp, Bool.false_eq_true, if_false]
theorem rngL_nat (n : Nat) : rngL 0 n = (List.range n).map fun (i : Nat) => DV.int (i : Int) := by
  unfold rngL
  simp
theorem lc_rng {gt : DV → Slots → Option Slots} {fe : Slots → R DV} {env0 : Slots} {f : Nat → DV} (n : Nat) (h : ∀ i, i < n → ∃ e1, gt (.int (i : Int)) env0 = some e1 ∧ fe e1 = .ok (f i)) : lcLoop gt yesT fe env0 (rngL 0 n) = .ok ((List.range n).map f) := by
  have go : ∀ (l : List Nat), (∀ i ∈ l, i < n) → lcLoop gt yesT fe env0 (l.map fun (i : Nat) => DV.int (i : Int)) = .ok (l.map f) := by
    intro l
    induction l with
    | nil => intro _; rfl
    | cons i l ih =>
      intro hl
      obtain ⟨e1, h1, h2⟩ := h i (hl i (List.mem_cons_self ..))
      rw [List.map_cons, List.map_cons]
      unfold lcLoop
      rw [h1]
      simp only [yesT_app, h2, ih fun x hx => hl x (List.mem_cons_of_mem _ hx)]
  rw [rngL_nat]
  exact go _ fun i hi => List.mem_range.mp hi
theorem lc_rngF {gt : DV → Slots → Option Slots} {ft : Slots → R Bool} {fe : Slots → R DV} {env0 : Slots} {f : Nat → DV} {p : Nat → Bool} (n : Nat) (h : ∀ i, i < n → ∃ e1, gt (.int (i : Int)) env0 = some e1 ∧ ft e1 = .ok (p i) ∧ (p i = true → fe e1 = .ok (f i))) : lcLoop gt ft fe env0 (rngL 0 n) = .ok (((List.range n).filter p).map f) := by
  have go : ∀ (l : List Nat), (∀ i ∈ l, i < n) → lcLoop gt ft fe env0 (l.map fun (i : Nat) => DV.int (i : Int)) = .ok ((l.filter p).map f) := by
    intro l
    induction l with
    | nil => intro _; rfl
    | cons i l ih =>
      intro hl
      obtain ⟨e1, h1, h2, h3⟩ := h i (hl i (List.mem_cons_self ..))
      have ih := ih fun x hx => hl x (List.mem_cons_of_mem _ hx)
      rw [List.map_cons]
      unfold lcLoop
      rw [h1]
      simp only [h2]
      cases hp : p i with
      | true => simp only [h3 hp, ih, List.filter_cons, hp, if_true, List.map_cons]
      | false => simp only [ih, List.filter_cons, hp, Bool.false_eq_true, if_false]
  rw [rngL_nat]
  exact go _ fun i hi => List.mem_range.mp hi
/-! steps -/
theorem seq_nx {G G' : Slots → Out} {env e : Slots} (h : G env = .nx e) : seqS G G' env = G' e := by rw [seqS_app, h]
theorem seq_to {G G' : Slots → Out} {env e : Slots} {o : Out} (h : G env = .nx e) (k : G' e = o) : seqS G G' env = o := by rw [seqS_app, h]; exact k
theorem fin_rt {d : DV} {e : Slots} : DL.fin (.rt d e) = .ok d := rfl
/-! slices -/
theorem cutL_nn (xs : List DV) (a b : Nat) : cutL xs (some (a : Int)) (some (b : Int)) = (xs.drop a).take (b - a) := by
  unfold cutL
  rw [HT.sIx_nat, HT.sIx_nat]
  by_cases ha : a ≤ xs.length
  · rw [Nat.min_eq_left ha]
    by_cases hb : b ≤ xs.length
    · rw [Nat.min_eq_left hb]
    · rw [Nat.min_eq_right (show xs.length ≤ b by omega), List.take_of_length_le (by rw [List.length_drop]; omega), List.take_of_length_le (by rw [List.length_drop]; omega)]
  · rw [Nat.min_eq_right (show xs.length ≤ a by omega), List.drop_length, List.drop_eq_nil_of_le (show xs.length ≤ a by omega), List.take_nil, List.take_nil]
theorem cutL_tn (xs : List DV) (b : Nat) : cutL xs none (some (b : Int)) = xs.take b := by
  unfold cutL
  rw [HT.sIx_nat, HT.sIx_none, List.drop_zero, Nat.sub_zero]
  by_cases hb : b ≤ xs.length
  · rw [Nat.min_eq_left hb]
  · rw [Nat.min_eq_right (by omega), List.take_of_length_le (Nat.le_refl _), List.take_of_length_le (by omega)]
theorem cutL_nt (xs : List DV) (a : Nat) : cutL xs (some (a : Int)) none = xs.drop a := by
  unfold cutL
  rw [HT.sIx_nat, HT.sIx_none]
  by_cases ha : a ≤ xs.length
  · rw [Nat.min_eq_left ha, List.take_of_length_le (by rw [List.length_drop]; omega)]
  · rw [Nat.min_eq_right (show xs.length ≤ a by omega), List.drop_length, List.drop_eq_nil_of_le (show xs.length ≤ a by omega), List.take_nil]
theorem cutL_sub (xs : List DV) (lo hi : Option Int) : ∀ d ∈ cutL xs lo hi, d ∈ xs := fun d h => List.mem_of_mem_drop (List.mem_of_mem_take h)
@[simp] theorem cut_tup {ds : List DV} {lo hi : Option Int} : cutD (.tup ds) lo hi = some (.tup (cutL ds lo hi)) := rfl
@[simp] theorem cut_lst {ds : List DV} {lo hi : Option Int} : cutD (.lst ds) lo hi = some (.own (cutL ds lo hi)) := rfl
/-! in -/
theorem flat_ints (ns : List Int) : (ns.map DV.int).all flat = true := by induction ns <;> simp_all [flat]
theorem any_ints (ns : List Int) (i : Int) : ((ns.map DV.int).any fun y => eqSc y (.int i)) = decide (i ∈ ns) := by
  induction ns with
  | nil => simp
  | cons n ns ih =>
    rw [List.map_cons, List.any_cons, ih]
    show ((n == i) || decide (i ∈ ns)) = _
    by_cases h : n = i
    · simp [h]
    · have : ¬ i = n := fun z => h z.symm
      simp [h, this]
theorem inB_items {x c : DV} {xs : List DV} (h : itemsOf c = some xs) (hx : flat x = true) (hc : xs.all flat = true) : inB x c = some (xs.any fun y => eqSc y x) := by
  unfold inB
  rw [h]
  simp only [hx, hc, Bool.and_self, if_true]
@[simp] theorem in_tupI {ns : List Int} {i : Int} : inD (.int i) (.tup (ns.map .int)) = some (.bl (decide (i ∈ ns))) := by unfold inD; rw [inB_items rfl rfl (flat_ints ns), any_ints]; rfl
@[simp] theorem in_lstI {ns : List Int} {i : Int} : inD (.int i) (.lst (ns.map .int)) = some (.bl (decide (i ∈ ns))) := by unfold inD; rw [inB_items rfl rfl (flat_ints ns), any_ints]; rfl
@[simp] theorem in_ownI {ns : List Int} {i : Int} : inD (.int i) (.own (ns.map .int)) = some (.bl (decide (i ∈ ns))) := by unfold inD; rw [inB_items rfl rfl (flat_ints ns), any_ints]; rfl
@[simp] theorem ni_tupI {ns : List Int} {i : Int} : niD (.int i) (.tup (ns.map .int)) = some (.bl (!decide (i ∈ ns))) := by unfold niD; rw [inB_items rfl rfl (flat_ints ns), any_ints]; rfl
@[simp] theorem ni_lstI {ns : List Int} {i : Int} : niD (.int i) (.lst (ns.map .int)) = some (.bl (!decide (i ∈ ns))) := by unfold niD; rw [inB_items rfl rfl (flat_ints ns), any_ints]; rfl
@[simp] theorem ni_ownI {ns : List Int} {i : Int} : niD (.int i) (.own (ns.map .int)) = some (.bl (!decide (i ∈ ns))) := by unfold niD; rw [inB_items rfl rfl (flat_ints ns), any_ints]; rfl
@[simp] theorem in_rng {i a b : Int} : inD (.int i) (.rng a b) = some (.bl (decide (a ≤ i ∧ i < b))) := rfl
@[simp] theorem ni_rng {i a b : Int} : niD (.int i) (.rng a b) = some (.bl (!decide (a ≤ i ∧ i < b))) := rfl
theorem map_get {α : Type} {f : α → DV} {xs : List α} {j : Nat} {x : α} (h : xs[j]? = some x) : (xs.map f)[j]? = some (f x) := by rw [List.getElem?_map, h]; rfl
end DL
end
section
set_option maxHeartbeats 2000000
namespace K23
open PySem DL
/-! the law's draws: _law_cell, _law_mixed, _law_draws, _law_number -/
abbrev scr (ns : List Int) : DV := .scr (ns.map DV.int)
theorem lit_lt {a : Int} {n : Nat} (h : a < 2 ^ 200) : a < 2 ^ 250 := Int.lt_trans h (by decide)
theorem cell_spec (ns : List Int) (k : Nat) : ∃ c : Int, h__law_cell [scr ns, .int k] = .ok (.int c) := by
  have e0 : (ns.map DV.int).length = ns.length := List.length_map ..
  unfold h__law_cell fnR G__law_cell
  by_cases h1 : (k : Int) < (ns.length : Int)
  · have e : L2.atI (ns.map DV.int) (k : Int) = some (.int ns[k]) := by
      rw [atI_nat, List.getElem?_map, List.getElem?_eq_getElem (by omega)]; rfl
    exact ⟨ns[k], by simp [h1, e, DL.fin]⟩
  · by_cases h2 : ns = []
    · subst h2
      have h3 : ¬ (k : Int) < 0 := by omega
      exact ⟨0, by simp [h3, DL.fin]⟩
    · have hl : 0 < ns.length := List.length_pos_iff.mpr h2
      have hj : ((k : Int) % (ns.length : Int)) = ((k % ns.length : Nat) : Int) := by simp
      have hlt : k % ns.length < ns.length := Nat.mod_lt _ hl
      have e : L2.atI (ns.map DV.int) ((k : Int) % (ns.length : Int)) = some (.int ns[k % ns.length]) := by
        rw [hj, atI_nat, List.getElem?_map, List.getElem?_eq_getElem hlt]; rfl
      have m1 : modD (.int (k : Int)) (.int (ns.length : Int)) = some (.int ((k : Int) % (ns.length : Int))) := mod_pos (by omega)
      have m2 : ∀ x, modD (.int x) (.int 999983) = some (.int (x % 999983)) := fun x => mod_pos (by decide)
      exact ⟨ns[k % ns.length] % 999983, by simp [h1, h2, e, m1, m2, DL.fin]⟩
theorem mixed_spec (c : Int) (k : Int) (h0 : 0 ≤ k) (h1 : k < 1000) : ∃ v, 0 ≤ v ∧ v < 2147483629 ∧ h__law_mixed [.int c, .int k] = .ok (.int v) := by
  have a1 := mod_pos (c := c) (m := 1000003) (by decide)
  have b1 : 0 ≤ c % 1000003 ∧ c % 1000003 < 1000003 := by omega
  have a2 := mul_le b1.1 (b := 48271) (by omega) (by decide) (by decide)
  have a3 := mul_le h0 (b := 69621) (by omega) (by decide) (by decide)
  have a4 := mod_pos (c := c % 1000003 * 48271 + k * 69621 + 11) (m := 2147483647) (by decide)
  generalize hf : (c % 1000003 * 48271 + k * 69621 + 11) % 2147483647 = f1 at a4
  have bf : 0 ≤ f1 ∧ f1 < 2147483647 := by omega
  have a5 := mul_le bf.1 (b := 16807) (by omega) (by decide) (by decide)
  have a6 := mul_le h0 (by omega) h0 (by omega)
  have bk : 0 ≤ k * k ∧ k * k < 1000000 := ⟨Int.mul_nonneg h0 h0, by
    have : k * k ≤ 999 * 999 := Int.mul_le_mul (by omega) (by omega) h0 (by decide)
    omega⟩
  have a7 := mul_le bk.1 (b := 31) (by omega) (by decide) (by decide)
  have a8 := mod_pos (c := c) (m := 8191) (by decide)
  have a9 := mod_pos (c := f1 * 16807 + k * k * 31 + c % 8191) (m := 2147483647) (by decide)
  generalize hs : (f1 * 16807 + k * k * 31 + c % 8191) % 2147483647 = f2 at a9
  have bs : 0 ≤ f2 ∧ f2 < 2147483647 := by omega
  have a10 := mul_le bs.1 (b := 69621) (by omega) (by decide) (by decide)
  have a11 := mod_pos (c := f2 * 69621 + f1) (m := 2147483629) (by decide)
  refine ⟨(f2 * 69621 + f1) % 2147483629, by omega, by omega, ?_⟩
  unfold h__law_mixed fnR G__law_mixed
  simp [a1, a2, a3, a4, a5, a6, a7, a8, a9, a10, a11, DL.fin]
/-- what a draw may be -/
def Dr (x : Int) : Prop := 0 ≤ x ∧ x < 1000000000000000000000000
theorem p18 : powD (.int 10) (.int 18) = some (.int 1000000000000000000) := by
  rw [pow_int (by decide)]
  exact congrArg (fun z => some (DV.int z)) (show (10 : Int) ^ 18 = 1000000000000000000 by decide +kernel)
theorem p20 : powD (.int 10) (.int 20) = some (.int 100000000000000000000) := by
  rw [pow_int (by decide)]
  exact congrArg (fun z => some (DV.int z)) (show (10 : Int) ^ 20 = 100000000000000000000 by decide +kernel)
theorem p24 : powD (.int 10) (.int 24) = some (.int 1000000000000000000000000) := by
  rw [pow_int (by decide)]
  exact congrArg (fun z => some (DV.int z)) (show (10 : Int) ^ 24 = 1000000000000000000000000 by decide +kernel)
theorem draws_spec (ns : List Int) (at_ many : Nat) (ha : at_ < 1000) (hm : many ≤ 64) : ∃ xs : List Int, xs.length = many ∧ (∀ x ∈ xs, Dr x) ∧ h__law_draws [scr ns, .int at_, .int many] = .ok (.own (xs.map .int)) := by
  obtain ⟨c, hc⟩ := cell_spec ns at_
  have a1 := mul_le (a := (at_ : Int)) (b := 7919) (by omega) (by omega) (by decide) (by decide)
  have m24 : ∀ x, modD (.int x) (.int 1000000000000000000000000) = some (.int (x % 1000000000000000000000000)) := fun x => mod_pos (by decide)
  have d24 : ∀ x, divD (.int x) (.int 1000000000000000000000000) = some (.int (x / 1000000000000000000000000)) := fun x => div_pos (by decide) (by decide)
  unfold h__law_draws fnR G__law_draws
  simp only [List.length_cons, List.length_nil, List.map_cons, List.map_nil, Nat.reduceAdd, if_true, List.replicate, List.cons_append, List.nil_append]
  let S : Option DV := some (scr ns)
  rw [seq_nx (e := [S, some (.int at_), some (.int many), some (.int c), none, none, none, none]) (by simp [hc, S])]
  rw [seq_nx (e := [S, some (.int at_), some (.int many), some (.int c), some (.int (c + at_ * 7919)), none, none, none]) (by simp [a1, S])]
  generalize c + at_ * 7919 = sl
  rw [seq_nx (e := [S, some (.int at_), some (.int many), some (.int c), some (.int sl), some (.own []), none, none]) (by simp [big, S])]
  rw [seq_nx (e := [S, some (.int at_), some (.int many), some (.int c), some (.int sl), some (.own []), some (.int c.natAbs), none]) (by simp [S])]
  let I : Nat → Slots → Prop := fun i e => ∃ (left : Int) (xs : List Int) (x7 : Option DV), xs.length = i ∧ (∀ x ∈ xs, Dr x) ∧ e = [S, some (.int at_), some (.int many), some (.int c), some (.int sl), some (.own (xs.map .int)), some (.int left), x7]
  have hi : I 0 [S, some (.int at_), some (.int many), some (.int c), some (.int sl), some (.own []), some (.int c.natAbs), none] := ⟨_, [], none, rfl, (fun _ h => nomatch h), rfl⟩
  obtain ⟨e, he, left, xs, x7, h1, h2, rfl⟩ := forR (fa := var 2) (gt := nameG 7) (G := ifS (andB (tst (op2 geD (opN (one absD) (consL (var 3) nilL)) (op2 powD (cst (.int 10)) (cst (.int 18))))) (tst (op2 gtD (var 6) (cst (.int 0))))) (seqS (appS 5 lId (op2 modD (opN (one intD1) (consL (var 6) nilL)) (op2 powD (cst (.int 10)) (cst (.int 24)))))
      (setF 6 (op2 divD (var 6) (op2 powD (cst (.int 10)) (cst (.int 24)))))) (appS 5 lId (op2 addD (op2 mulD (op2 mulD (callV h__law_mixed [] (consL (fz (var 4)) (consL (fz (var 7)) nilL))) (cst (.int 2147483647))) (cst (.int 65536))) (callV h__law_mixed [] (consL (fz (var 4)) (consL (op2 addD (var 7) (cst (.int 70))) nilL))))))
    many (by simp) (by omega) I hi fun i e hlt ⟨left, xs, x7, h1, h2, he⟩ => by
      subst he
      have hb : xs.length < big := by unfold big; omega
      by_cases z : (1000000000000000000 : Int) ≤ (c.natAbs : Int) ∧ 0 < left
      · refine ⟨_, _, rfl, ?_, left / 1000000000000000000000000, xs ++ [left % 1000000000000000000000000], some (.int i), by simp [h1], fun x hx => ?_, rfl⟩
        · simp [z.1, z.2, p18, p24, m24, d24, hb, S]
        · rcases List.mem_append.mp hx with h | h
          · exact h2 x h
          · cases List.mem_singleton.mp h
            unfold Dr; omega
      · obtain ⟨v1, b1, b2, hv1⟩ := mixed_spec sl i (by omega) (by omega)
        obtain ⟨v2, b3, b4, hv2⟩ := mixed_spec sl (i + 70) (by omega) (by omega)
        have q1 := mul_le (a := v1) (b := 2147483647) b1 (by omega) (by decide) (by decide)
        have q2 := mul_le (a := v1 * 2147483647) (b := 65536) (by omega) (by omega) (by decide) (by decide)
        refine ⟨_, _, rfl, ?_, left, xs ++ [v1 * 2147483647 * 65536 + v2], some (.int i), by simp [h1], fun x hx => ?_, rfl⟩
        · by_cases z1 : (1000000000000000000 : Int) ≤ (c.natAbs : Int)
          · have z2 : ¬ 0 < left := fun h => z ⟨z1, h⟩
            simp [z1, z2, p18, hv1, hv2, q1, q2, hb, S]
          · simp [z1, p18, hv1, hv2, q1, q2, hb, S]
        · rcases List.mem_append.mp hx with h | h
          · exact h2 x h
          · cases List.mem_singleton.mp h
            unfold Dr; omega
  refine ⟨xs, h1, h2, ?_⟩
  rw [seq_nx he]
  simp [DL.fin]
/-- a number of at most 20 digits -/
def Nb (x : Int) : Prop := 0 ≤ x ∧ x < 100000000000000000000
theorem number_spec {x : Int} (h : 0 ≤ x) (f : Int) : ∃ r, Nb r ∧ h__law_number [.int x, .int f] = .ok (.int r) := by
  have m : ∀ m : Int, 0 < m → modD (.int x) (.int m) = some (.int (x % m)) := fun m hm => mod_pos hm
  unfold h__law_number fnR G__law_number Nb
  by_cases c0 : f = 0
  · exact ⟨x % 2, by omega, by simp [c0, m 2 (by decide), DL.fin]⟩
  by_cases c1 : f = 1
  · exact ⟨x % 4, by omega, by simp [c1, m 4 (by decide), DL.fin]⟩
  by_cases c2 : f = 2
  · exact ⟨x % 10, by omega, by simp [c2, m 10 (by decide), DL.fin]⟩
  by_cases c3 : f = 3
  · exact ⟨x % 1000, by omega, by simp [c3, m 1000 (by decide), DL.fin]⟩
  by_cases c4 : f = 4
  · exact ⟨x % 100000000000000000000, by omega, by simp [c4, p20, m 100000000000000000000 (by decide), DL.fin]⟩
  have hb : 8 ≤ big := by decide
  have h8 : x % 8 = 0 ∨ x % 8 = 1 ∨ x % 8 = 2 ∨ x % 8 = 3 ∨ x % 8 = 4 ∨ x % 8 = 5 ∨ x % 8 = 6 ∨ x % 8 = 7 := by omega
  rcases h8 with h | h | h | h | h | h | h | h
  · exact ⟨1, by decide, by simp [c0, c1, c2, c3, c4, p20, m 8 (by decide), h, hb, DL.fin]⟩
  · exact ⟨1, by decide, by simp [c0, c1, c2, c3, c4, p20, m 8 (by decide), h, hb, DL.fin]⟩
  · exact ⟨2, by decide, by simp [c0, c1, c2, c3, c4, p20, m 8 (by decide), h, hb, DL.fin]⟩
  · exact ⟨2, by decide, by simp [c0, c1, c2, c3, c4, p20, m 8 (by decide), h, hb, DL.fin]⟩
  · exact ⟨3, by decide, by simp [c0, c1, c2, c3, c4, p20, m 8 (by decide), h, hb, DL.fin]⟩
  · exact ⟨10, by decide, by simp [c0, c1, c2, c3, c4, p20, m 8 (by decide), h, hb, DL.fin]⟩
  · exact ⟨99999999999999999999, by decide, by simp [c0, c1, c2, c3, c4, p20, m 8 (by decide), h, hb, DL.fin]⟩
  · exact ⟨0, by decide, by simp [c0, c1, c2, c3, c4, p20, m 8 (by decide), h, hb, DL.fin]⟩

end K23
end
section
set_option maxHeartbeats 200000
namespace DL
open PySem
/-! what a block comes to: N at its end, B at a break, C at a continue, T at a return, X at an exception -/
def WpB (N B C : Slots → Prop) (T : DV → Prop) (X : Exn → Prop) : Out → Prop
  | .nx e => N e
  | .bk e => B e
  | .ct e => C e
  | .rt d _ => T d
  | .ex x _ => X x
  | .stuck => False
structure Wp (N B C : Slots → Prop) (T : DV → Prop) (X : Exn → Prop) (o : Out) : Prop where
  h : WpB N B C T X o
section
variable {N B C N' B' C' : Slots → Prop} {T T' : DV → Prop} {X X' : Exn → Prop} {G G' : Slots → Out} {env e : Slots} {ba : Slots → R Bool} {f fa : Slots → R DV} {fs : Slots → R (List DV)} {gt : DV → Slots → Option Slots} {d : DV} {o : Out} {i : Nat}
theorem wseq (h : Wp (fun e => Wp N B C T X (G' e)) B C T X (G env)) : Wp N B C T X (seqS G G' env) := by
  rw [seqS_app]
  have h := h.h
  cases hg : G env with
  | nx e => rw [hg] at h; exact (show Wp N B C T X (G' e) from h)
  | _ => rw [hg] at h; exact ⟨h⟩
theorem wnx (h : G env = .nx e) (k : N e) : Wp N B C T X (G env) := ⟨by rw [h]; exact k⟩
/-- a step that ends -/
theorem wst (h : G env = .nx e) (k : Wp N B C T X (G' e)) : Wp N B C T X (seqS G G' env) := wseq (wnx h k)
/-- a step that ends in one of several states -/
theorem wex {I : Slots → Prop} (h : ∃ e, G env = .nx e ∧ I e) (k : ∀ e, I e → Wp N B C T X (G' e)) : Wp N B C T X (seqS G G' env) := by
  obtain ⟨e, h1, h2⟩ := h
  exact wst h1 (k e h2)
theorem wmono (h : Wp N B C T X o) (h1 : ∀ e, N e → N' e) (h2 : ∀ e, B e → B' e) (h3 : ∀ e, C e → C' e) (h4 : ∀ d, T d → T' d) (h5 : ∀ x, X x → X' x) : Wp N' B' C' T' X' o := by
  refine ⟨?_⟩
  have h := h.h
  cases o with
  | nx e => exact h1 e h
  | bk e => exact h2 e h
  | ct e => exact h3 e h
  | rt d e => exact h4 d h
  | ex x e => exact h5 x h
  | stuck => exact h
theorem wif {k : Bool} (h : ba env = .ok k) (h1 : k = true → Wp N B C T X (G env)) (h2 : k = false → Wp N B C T X (G' env)) : Wp N B C T X (ifS ba G G' env) := by
  rw [ifS_app, h]
  cases k with
  | true => exact h1 rfl
  | false => exact h2 rfl
theorem wifT (h : ba env = .ok true) (h1 : Wp N B C T X (G env)) : Wp N B C T X (ifS ba G G' env) := wif h (fun _ => h1) fun z => by cases z
theorem wifF (h : ba env = .ok false) (h1 : Wp N B C T X (G' env)) : Wp N B C T X (ifS ba G G' env) := wif h (fun z => by cases z) fun _ => h1
theorem wnxS (h : N env) : Wp N B C T X (nxS env) := ⟨h⟩
theorem wret (h : f env = .ok d) (k : T d) : Wp N B C T X (retS f env) := ⟨by rw [retS_app, h]; exact k⟩
theorem wretM (h : (env[i]? : Option (Option DV)) = some (some d)) (k : T d) : Wp N B C T X (retM i env) := ⟨by rw [retM_app, h]; exact k⟩
theorem wraise {x : Exn} (h : f env = .ex x) (k : X x) : Wp N B C T X (retS f env) := ⟨by rw [retS_app, h]; exact k⟩
theorem wset (h : f env = .ok d) (k : N (env.set i (some (freeze d)))) : Wp N B C T X (setF i f env) := ⟨by rw [setF_app, h]; exact k⟩
/-- a loop by an invariant -/
theorem wfor (ds : List DV) (h : fs env = .ok ds) (I : Nat → Slots → Prop) (h0 : I 0 env)
    (hs : ∀ i d e, ds[i]? = some d → I i e → ∃ e1, gt d e = some e1 ∧ Wp (I (i + 1)) N (I (i + 1)) T X (G e1)) (hn : ∀ e, I ds.length e → N e) : Wp N B C T X (forS fs gt G env) := by
  rw [forS_ok h]
  have go : ∀ (ds : List DV) (I : Nat → Slots → Prop) (env : Slots), I 0 env → (∀ i d e, ds[i]? = some d → I i e → ∃ e1, gt d e = some e1 ∧ Wp (I (i + 1)) N (I (i + 1)) T X (G e1)) → (∀ e, I ds.length e → N e) → Wp N B C T X (loopS gt G ds env) := by
    intro ds
    induction ds with
    | nil => intro I env h0 _ hn; exact ⟨hn env h0⟩
    | cons d ds ih =>
      intro I env h0 hs hn
      obtain ⟨e1, h1, h2⟩ := hs 0 d env rfl h0
      have rest : ∀ e, I 1 e → Wp N B C T X (loopS gt G ds e) := fun e he => ih (fun i => I (i + 1)) e he (fun i d e hd hi => hs (i + 1) d e hd hi) hn
      unfold loopS
      rw [h1]
      simp only []
      have h2 := h2.h
      cases hg : G e1 with
      | nx e => rw [hg] at h2; exact rest e h2
      | ct e => rw [hg] at h2; exact rest e h2
      | bk e => rw [hg] at h2; exact ⟨h2⟩
      | rt d e => rw [hg] at h2; exact ⟨h2⟩
      | ex x e => rw [hg] at h2; exact ⟨h2⟩
      | stuck => rw [hg] at h2; exact ⟨h2⟩
  exact go ds I env h0 hs hn
theorem wforR (n : Nat) (h : fa env = .ok (.int (n : Int))) (hn : n < 2 ^ 62) (I : Nat → Slots → Prop) (h0 : I 0 env)
    (hs : ∀ i e, i < n → I i e → ∃ e1, gt (.int (i : Int)) e = some e1 ∧ Wp (I (i + 1)) N (I (i + 1)) T X (G e1)) (hN : ∀ e, I n e → N e) : Wp N B C T X (forS (rgS1 fa) gt G env) := by
  refine wfor (rngL 0 n) (rg1_ok h hn) I h0 (fun i d e hd hi => ?_) fun e he => hN e ?_
  · obtain ⟨rfl, hlt⟩ := rngL_get hd
    rw [Int.zero_add]
    exact hs i e (by omega) hi
  · rw [rngL_len] at he
    simpa using he
/-- a def's result -/
theorem wfn {n m : Nat} {ds : List DV} (hl : ds.length = n) (h : Wp (fun _ => T .non) (fun _ => False) (fun _ => False) T (fun _ => False) (G (ds.map some ++ List.replicate m none))) : ∃ d, fnR n m G ds = .ok d ∧ T d := by
  unfold fnR
  rw [if_pos hl]
  have h := h.h
  cases hg : G (ds.map some ++ List.replicate m none) with
  | nx e => rw [hg] at h; exact ⟨_, rfl, h⟩
  | rt d e => rw [hg] at h; exact ⟨_, rfl, h⟩
  | bk e => rw [hg] at h; exact h.elim
  | ct e => rw [hg] at h; exact h.elim
  | ex x e => rw [hg] at h; exact h.elim
  | stuck => rw [hg] at h; exact h.elim
theorem wfn' {n m : Nat} {ds : List DV} {r : DV} (hl : ds.length = n) (h : Wp (fun _ => .non = r) (fun _ => False) (fun _ => False) (fun d => d = r) (fun _ => False) (G (ds.map some ++ List.replicate m none))) : fnR n m G ds = .ok r := by
  obtain ⟨d, h1, rfl⟩ := wfn (T := fun d => d = r) hl h
  exact h1
end
end DL
namespace DL
open PySem
section
variable {N B C : Slots → Prop} {T : DV → Prop} {X : Exn → Prop} {G' : Slots → Out} {env : Slots} {fe : Slots → R DV} {d : DV} {f c : Str} {cs : Str → Bool} {xs ys : List (Str × DV)} {i : Nat} {ds : List DV}
/-- self.f = e -/
theorem fld_to (h : fe env = .ok d) (h2 : (env[i]? : Option (Option DV)) = some (some (.obj c xs))) (h3 : cs c = true) (h4 : xs.length < 900) (h5 : putD f d xs = ys) : fldS f cs i lId fe env = .nx (env.set i (some (.obj c ys))) := by
  rw [fldS_app, h]
  simp only [h2]
  rw [if_pos ⟨h3, h4⟩, h5]
/-- xs.append(e) -/
theorem app_to (h2 : (env[i]? : Option (Option DV)) = some (some (.own ds))) (h : fe env = .ok d) (h3 : ds.length < big) : appS i lId fe env = .nx (env.set i (some (.own (ds ++ [d])))) := by
  rw [appS_app]
  simp only [h2, h]
  rw [if_pos h3]
theorem lend_to {g : Slots → R DV} {r d : DV} {l : Bool} (h : (env[i]? : Option (Option DV)) = some (some d)) (h2 : lends d = some l) (h3 : g (env.set i (some (freeze d))) = .ok r) (h4 : apart l r = true) : lendV i g env = .ok r := by
  unfold lendV
  simp only [h, h2, h3]
  rw [if_pos h4]
end
end DL
end
section
set_option maxHeartbeats 2000000
namespace K23
open PySem DL
/-! Ratio(n, d), d above 0 -/
def rat (n d : Int) : List (Str × DV) := [("n", .int n), ("d", .int d)]
abbrev rt (n d : Int) : DV := .ins "Ratio" (rat n d)
theorem ndne : ¬(("n" : Str) = "d") := by decide
theorem init_pos {n d : Int} (h : 0 < d) (hd : d < 2 ^ 250) : h_Ratio_init [] [.int n, .int d] = .ok .non (rat (n / (Int.gcd n d : Nat)) (d / (Int.gcd n d : Nat))) := by
  have hg : 0 < (Nat.gcd n.natAbs d.natAbs : Nat) := Nat.gcd_pos_of_pos_right _ (by omega)
  have hle : Nat.gcd n.natAbs d.natAbs ≤ d.natAbs := Nat.le_of_dvd (by omega) (Nat.gcd_dvd_right ..)
  have eg : Int.gcd n d = Nat.gcd n.natAbs d.natAbs := rfl
  rw [eg]
  generalize hz : (Nat.gcd n.natAbs d.natAbs : Nat) = s at *
  have d1 := div_pos (c := n) (m := (s : Int)) (by omega) (by omega)
  have d2 := div_pos (c := d) (m := (s : Int)) (by omega) (by omega)
  have hd0 : ¬ d = 0 := by omega
  have hd1 : ¬ d < 0 := by omega
  unfold h_Ratio_init fnS G_Ratio_init
  simp [hd0, hd1, hz, d1, d2, finS, slf, putD, rat, ndne, show cs_n "Ratio" = true by decide, show cs_d "Ratio" = true by decide]
theorem fn_ (n d : Int) : List.lookup ("n" : Str) (rat n d) = some (.int n) := by simp [rat, List.lookup]
theorem fd_ (n d : Int) : List.lookup ("d" : Str) (rat n d) = some (.int d) := by
  have h : (("d" : Str) == "n") = false := by decide
  simp [rat, List.lookup, h]
theorem frz_rat (n d : Int) : freeze (.obj "Ratio" (rat n d)) = rt n d := by simp [freeze, freezef, rat]
theorem mk2 {n d : Int} {fs : Slots → DL.R (List DV)} {env : Slots} (h : 0 < d) (hd : d < 2 ^ 250) (hf : fs env = .ok [.int n, .int d]) : shr (mkV "Ratio" h_Ratio_init dd_Ratio2 fs) env = .ok (rt (n / (Int.gcd n d : Nat)) (d / (Int.gcd n d : Nat))) := by
  simp [hf, dd_Ratio2, init_pos h hd, frz_rat]

/-! the law's rows -/
structure Row where
  t : Int
  f : Int
  l : Int
  c : Int
  p : Int
  r : Int
  a : Int
  b : Int
def Row.dv (x : Row) : DV := .tup [.int x.t, .int x.f, .int x.l, .int x.c, .int x.p, .int x.r, .int x.a, .int x.b]
structure RowOk (many : Int) (x : Row) : Prop where
  t0 : 0 ≤ x.t
  t1 : x.t < many
  f0 : 0 ≤ x.f
  f1 : x.f < many
  ne : x.t ≠ x.f
  l : Nb x.l
  c : Nb x.c
  p : Nb x.p
  r : Nb x.r
  a : 0 ≤ x.a ∧ x.a ≤ x.b
  b : 1 ≤ x.b ∧ x.b ≤ 1000
theorem dv_frz (rs : List Row) : (rs.map Row.dv).all isFrz = true := by induction rs <;> simp_all [Row.dv]
theorem dr_at {xs : List Int} (h : ∀ x ∈ xs, Dr x) (j : Nat) (hj : j < xs.length) : ∃ x, xs[j]? = some x ∧ Dr x := ⟨xs[j], List.getElem?_eq_getElem hj, h _ (List.getElem_mem hj)⟩
theorem get_ints {xs : List Int} {j : Nat} {x : Int} (h : xs[j]? = some x) : (xs.map DV.int)[j]? = some (.int x) := by rw [List.getElem?_map, h]; rfl
theorem ne_step {many a : Int} (h : 2 ≤ many) (d : Int) (h0 : 0 ≤ d) (h1 : d < many - 1) : (a + 1 + d) % many ≠ a % many := by
  intro z
  have e1 := Int.emod_emod_of_dvd (a + 1 + d - a) (Int.dvd_refl many)
  have e2 : (a + 1 + d - a) % many = 0 := Int.emod_eq_zero_of_dvd (Int.dvd_of_emod_eq_zero (by rw [Int.sub_emod, z, Int.sub_self, Int.zero_emod]))
  have e3 : a + 1 + d - a = d + 1 := by omega
  rw [e3, Int.emod_eq_of_lt (by omega) (by omega)] at e2
  omega
theorem bott {q : Int} (h : 0 ≤ q) : ∃ b, (b = 1 ∨ b = 2 ∨ b = 3 ∨ b = 5 ∨ b = 1000) ∧ L2.atI [DV.int 1, DV.int 2, DV.int 2, DV.int 3, DV.int 5, DV.int 1000] (q / 6 % 6) = some (.int b) := by
  have h8 : q / 6 % 6 = 0 ∨ q / 6 % 6 = 1 ∨ q / 6 % 6 = 2 ∨ q / 6 % 6 = 3 ∨ q / 6 % 6 = 4 ∨ q / 6 % 6 = 5 := by omega
  rcases h8 with h | h | h | h | h | h <;> rw [h]
  · exact ⟨1, by decide, rfl⟩
  · exact ⟨2, by decide, rfl⟩
  · exact ⟨2, by decide, rfl⟩
  · exact ⟨3, by decide, rfl⟩
  · exact ⟨5, by decide, rfl⟩
  · exact ⟨1000, by decide, rfl⟩
theorem rows_at {rs : List Row} {j : Nat} (h : j < rs.length) : L2.atI (rs.map Row.dv) (j : Int) = some rs[j].dv := by
  rw [atI_nat, List.getElem?_map, List.getElem?_eq_getElem h]; rfl
theorem rows_spec (ns : List Int) (first wide : Nat) (many start goal : Int) (hm : 2 ≤ many ∨ (wide = 0 ∧ 1 ≤ many)) (hm2 : many < 100) (hf : first + wide < 900) (hw : wide < 100) :
    ∃ rs : List Row, rs.length = wide ∧ (∀ x ∈ rs, RowOk many x) ∧ h__law_rows [scr ns, .int first, .int many, .int wide, .int start, .int goal] = .ok (.own (rs.map Row.dv)) := by
  obtain ⟨hx, hlen, hdr, hhead⟩ := draws_spec ns first 6 (by omega) (by decide)
  have hhead : h__law_draws [scr ns, .int first, .int 6] = .ok (.own (hx.map .int)) := hhead
  have mm : ∀ (x m : Int), 0 < m → modD (.int x) (.int m) = some (.int (x % m)) := fun x m h => mod_pos h
  have dd : ∀ (x m : Int), 0 < m → m < 1000000 → divD (.int x) (.int m) = some (.int (x / m)) := fun x m h h2 => div_pos h (by omega)
  have many0 : 0 < many := by omega
  let S : Option DV := some (scr ns)
  let HD : Option DV := some (.lst (hx.map .int))
  obtain ⟨d, h1, rs, h2, h3, rfl⟩ := wfn (n := 6) (m := 12) (G := G__law_rows) (ds := [scr ns, .int first, .int many, .int wide, .int start, .int goal]) (T := fun d => ∃ rs : List Row, rs.length = wide ∧ (∀ x ∈ rs, RowOk many x) ∧ d = .own (rs.map Row.dv)) rfl (by
    simp only [List.map_cons, List.map_nil, List.replicate, List.cons_append, List.nil_append]
    unfold G__law_rows
    refine wst (e := [S, some (.int first), some (.int many), some (.int wide), some (.int start), some (.int goal), HD, none, none, none, none, none, none, none, none, none, none, none]) (by simp [hhead, S, HD]) ?_
    refine wst (e := [S, some (.int first), some (.int many), some (.int wide), some (.int start), some (.int goal), HD, some (.own []), none, none, none, none, none, none, none, none, none, none]) (by simp [S, HD, big]) ?_
    refine wst (e := [S, some (.int first), some (.int many), some (.int wide), some (.int start), some (.int goal), HD, some (.own []), some (.int ((goal - start) % many)), none, none, none, none, none, none, none, none, none]) (by simp [S, HD, mm _ _ many0]) ?_
    generalize (goal - start) % many = chain
    let I : Nat → Slots → Prop := fun i e => ∃ (rs : List Row) (x9 x10 x11 x12 x13 x14 x15 x16 x17 : Option DV), rs.length = i ∧ (∀ x ∈ rs, RowOk many x) ∧ e = [S, some (.int first), some (.int many), some (.int wide), some (.int start), some (.int goal), HD, some (.own (rs.map Row.dv)), some (.int chain), x9, x10, x11, x12, x13, x14, x15, x16, x17]
    refine wseq ?_
    refine wforR (fa := var 3) (gt := nameG 9) wide ?ev ?lt I ?ini ?step ?fin
    case lt => omega
    case ev => simp
    case ini => exact ⟨[], none, none, none, none, none, none, none, none, none, rfl, (fun _ h => nomatch h), rfl⟩
    case fin =>
      rintro e ⟨rs, x9, x10, x11, x12, x13, x14, x15, x16, x17, h1, h2, rfl⟩
      exact wretM rfl ⟨rs, h1, h2, rfl⟩
    case step =>
      rintro i e hi ⟨rs, x9, x10, x11, x12, x13, x14, x15, x16, x17, h1, h2, rfl⟩
      have many2 : 2 ≤ many := by omega
      obtain ⟨ds, dlen, ddr, hds⟩ := draws_spec ns (first + 1 + i) 6 (by omega) (by decide)
      have hds : h__law_draws [scr ns, .int ((first : Int) + 1 + (i : Int)), .int 6] = .ok (.own (ds.map .int)) := by
        have e : ((first + 1 + i : Nat) : Int) = (first : Int) + 1 + (i : Int) := by omega
        rw [← e]; exact hds
      obtain ⟨d0, g0, b0⟩ := dr_at ddr 0 (by omega)
      obtain ⟨d1, g1, b1⟩ := dr_at ddr 1 (by omega)
      obtain ⟨d2, g2, b2⟩ := dr_at ddr 2 (by omega)
      obtain ⟨d3, g3, b3⟩ := dr_at ddr 3 (by omega)
      obtain ⟨d4, g4, b4⟩ := dr_at ddr 4 (by omega)
      obtain ⟨d5, g5, b5⟩ := dr_at ddr 5 (by omega)
      obtain ⟨y0, k0, c0⟩ := dr_at hdr 0 (by omega)
      obtain ⟨y1, k1, c1⟩ := dr_at hdr 1 (by omega)
      obtain ⟨y2, k2, c2⟩ := dr_at hdr 2 (by omega)
      obtain ⟨y3, k3, c3⟩ := dr_at hdr 3 (by omega)
      obtain ⟨y4, k4, c4⟩ := dr_at hdr 4 (by omega)
      let DS : Option DV := some (.lst (ds.map .int))
      let RS : Option DV := some (.own (rs.map Row.dv))
      let E : Option DV → Option DV → Option DV → Option DV → Option DV → Option DV → Option DV → Slots := fun z11 z12 z13 z14 z15 z16 z17 => [S, some (.int first), some (.int many), some (.int wide), some (.int start), some (.int goal), HD, RS, some (.int chain), some (.int i), DS, z11, z12, z13, z14, z15, z16, z17]
      refine ⟨_, rfl, ?_⟩
      refine wst (e := E x11 x12 x13 x14 x15 x16 x17) (by simp [hds, S, E, DS, RS, HD]) ?_
      refine wst (e := E (some (.int (d0 % many))) x12 x13 x14 x15 x16 x17) (by simp [get_ints g0, mm _ _ many0, S, E, DS, RS, HD]) ?_
      refine wst (e := E (some (.int (d0 % many))) (some (.int ((d0 % many + 1 + d0 / many % (many - 1)) % many))) x13 x14 x15 x16 x17) (by simp [get_ints g0, mm _ _ many0, mm _ (many - 1) (by omega), dd _ many many0 (by omega), S, E, DS, RS, HD]) ?_
      refine wst (e := E (some (.int (d0 % many))) (some (.int ((d0 % many + 1 + d0 / many % (many - 1)) % many))) (some (.int (d0 / 400 % 5))) x14 x15 x16 x17) (by simp [get_ints g0, mm, dd, S, E, DS, RS, HD]) ?_
      have f0 : (d0 % many + 1 + d0 / many % (many - 1)) % many ≠ d0 % many := by
        have := ne_step (a := d0 % many) many2 (d0 / many % (many - 1)) (Int.emod_nonneg _ (by omega)) (Int.emod_lt_of_pos _ (by omega))
        rwa [Int.emod_emod] at this
      have nn : ∀ x : Int, 0 ≤ x % many ∧ x % many < many := fun x => ⟨Int.emod_nonneg _ (by omega), Int.emod_lt_of_pos _ many0⟩
      generalize d0 / 400 % 5 = tw
      have h01 := nn d0
      have h02 := nn (d0 % many + 1 + d0 / many % (many - 1))
      generalize (d0 % many + 1 + d0 / many % (many - 1)) % many = fr at f0 h02
      generalize d0 % many = ta at f0 h01
      refine wex (I := fun e => ∃ t f : Int, 0 ≤ t ∧ t < many ∧ 0 ≤ f ∧ f < many ∧ t ≠ f ∧ e = E (some (.int t)) (some (.int f)) (some (.int tw)) x14 x15 x16 x17) ?_ ?_
      · have own : ∃ t f : Int, 0 ≤ t ∧ t < many ∧ 0 ≤ f ∧ f < many ∧ t ≠ f ∧ E (some (.int ta)) (some (.int fr)) (some (.int tw)) x14 x15 x16 x17 = E (some (.int t)) (some (.int f)) (some (.int tw)) x14 x15 x16 x17 := ⟨ta, fr, h01.1, h01.2, h02.1, h02.2, fun z => f0 z.symm, rfl⟩
        by_cases z1 : (i : Int) < chain ∧ 0 < y0 % 3
        · have e1 := nn (start + i)
          have e2 := nn (start + i + 1)
          have e3 : (start + i + 1) % many ≠ (start + i) % many := by
            have := ne_step (a := start + i) many2 0 (Int.le_refl _) (by omega)
            rwa [Int.add_zero] at this
          exact ⟨_, by simp [z1.1, z1.2, get_ints k0, mm, many0, S, E, DS, RS, HD], _, _, e1.1, e1.2, e2.1, e2.2, fun z => e3 z.symm, rfl⟩
        · have c0 : andB (tst (op2 ltD (var 9) (var 8))) (tst (op2 gtD (op2 modD (opN (one intD1) (consL (op2 ixD (var 6) (cst (.int 0))) nilL)) (cst (.int 3))) (cst (.int 0)))) (E (some (.int ta)) (some (.int fr)) (some (.int tw)) x14 x15 x16 x17) = .ok false := by
            by_cases z2 : (i : Int) < chain
            · have z3 : ¬ 0 < y0 % 3 := fun h => z1 ⟨z2, h⟩
              simp [z2, z3, get_ints k0, mm, S, E, DS, RS, HD]
            · simp [z2, S, E, DS, RS, HD]
          have pick : ∀ j : Nat, j < i → ∃ x : Row, RowOk many x ∧ (rs.map Row.dv)[j]? = some x.dv := fun j hj => ⟨rs[j]'(by omega), h2 _ (List.getElem_mem _), by rw [List.getElem?_map, List.getElem?_eq_getElem (by omega)]; rfl⟩
          by_cases t1 : tw = 1 ∧ 0 < (i : Int)
          · obtain ⟨x, rx, hx⟩ := pick (i - 1) (by omega)
            have ix : L2.atI (rs.map Row.dv) ((i : Int) - 1) = some x.dv := by
              have e : ((i : Int) - 1) = ((i - 1 : Nat) : Int) := by omega
              rw [e, atI_nat, hx]
            refine ⟨_, ?_, x.t, x.f, rx.t0, rx.t1, rx.f0, rx.f1, rx.ne, rfl⟩
            rw [ifS_app, c0]
            simp [t1.1, t1.2, show 0 < i by omega, show i ≠ 0 by omega, ix, Row.dv, S, E, DS, RS, HD]
          by_cases t2 : tw = 2 ∧ 1 < (i : Int)
          · obtain ⟨x, rx, hx⟩ := pick (i / 2) (by omega)
            have ix : L2.atI (rs.map Row.dv) ((i : Int) / 2) = some x.dv := by
              have e : ((i : Int) / 2) = ((i / 2 : Nat) : Int) := by omega
              rw [e, atI_nat, hx]
            refine ⟨_, ?_, x.t, x.f, rx.t0, rx.t1, rx.f0, rx.f1, rx.ne, rfl⟩
            rw [ifS_app, c0]
            simp [t2.1, t2.2, show 1 < i by omega, ix, dd, Row.dv, S, E, DS, RS, HD]
          by_cases t3 : tw = 3 ∧ 0 < (i : Int)
          · obtain ⟨x, rx, hx⟩ := pick (i - 1) (by omega)
            have ix : L2.atI (rs.map Row.dv) ((i : Int) - 1) = some x.dv := by
              have e : ((i : Int) - 1) = ((i - 1 : Nat) : Int) := by omega
              rw [e, atI_nat, hx]
            refine ⟨_, ?_, x.f, x.t, rx.f0, rx.f1, rx.t0, rx.t1, fun z => rx.ne z.symm, rfl⟩
            rw [ifS_app, c0]
            simp [t3.1, t3.2, show 0 < i by omega, show i ≠ 0 by omega, ix, Row.dv, S, E, DS, RS, HD]
          refine ⟨_, ?_, own⟩
          rw [ifS_app, c0]
          by_cases i0 : 0 < (i : Int)
          · have n1 : ¬ tw = 1 := fun h => t1 ⟨h, i0⟩
            have n3 : ¬ tw = 3 := fun h => t3 ⟨h, i0⟩
            by_cases n2 : tw = 2
            · have n4 : ¬ 1 < (i : Int) := fun h => t2 ⟨n2, h⟩
              simp [n2, n4, S, E, DS, RS, HD]
            · simp [n1, n2, n3, S, E, DS, RS, HD]
          · have n4 : ¬ 1 < (i : Int) := by omega
            have iz : i = 0 := by omega
            by_cases n1 : tw = 1
            · simp [n1, iz, S, E, DS, RS, HD]
            · by_cases n2 : tw = 2
              · simp [n2, n4, S, E, DS, RS, HD]
              · by_cases n3 : tw = 3 <;> simp [n1, n2, n3, iz, S, E, DS, RS, HD]
      rintro _ ⟨t, f, t0, t1, f0', f1, tf, rfl⟩
      obtain ⟨n0, q0, r0⟩ := number_spec b1.1 (y1 % 6)
      obtain ⟨n1, q1, r1⟩ := number_spec b2.1 (y2 % 6)
      obtain ⟨n2, q2, r2⟩ := number_spec b3.1 (y3 % 6)
      obtain ⟨n3, q3, r3⟩ := number_spec b4.1 (y4 % 6)
      have r4 : ∀ env, rgS1 (cst (.int 4)) env = .ok [.int 0, .int 1, .int 2, .int 3] := fun env => (rg1_int (n := 4) rfl (by decide)).trans rfl
      refine wst (e := E (some (.int t)) (some (.int f)) (some (.int tw)) (some (.lst [.int n0, .int n1, .int n2, .int n3])) x15 x16 x17) ?_ ?_
      · rw [setF_app, lcV_app, r4]
        simp [lcLoop, get_ints g1, get_ints g2, get_ints g3, get_ints g4, get_ints k1, get_ints k2, get_ints k3, get_ints k4, mm, r0, r1, r2, r3, big, freeze, S, E, DS, RS, HD]
      refine wex (I := fun e => ∃ n0 n1 n2 n3 : Int, Nb n0 ∧ Nb n1 ∧ Nb n2 ∧ Nb n3 ∧ e = E (some (.int t)) (some (.int f)) (some (.int tw)) (some (.lst [.int n0, .int n1, .int n2, .int n3])) x15 x16 x17) ?_ ?_
      · by_cases z : d5 % 6 = 1 ∧ 0 < i
        · obtain ⟨z1, z2⟩ := z
          have rx := h2 _ (List.getElem_mem (show i - 1 < rs.length by omega))
          have ix : L2.atI (rs.map Row.dv) ((i : Int) - 1) = some (rs[i - 1]'(by omega)).dv := by
            have e : ((i : Int) - 1) = ((i - 1 : Nat) : Int) := by omega
            rw [e]; exact rows_at _
          exact ⟨_, by simp [get_ints g5, mm, z1, z2, show i ≠ 0 by omega, ix, Row.dv, big, freeze, S, E, DS, RS, HD], _, _, _, _, rx.l, rx.c, rx.p, rx.r, rfl⟩
        · refine ⟨_, ?_, n0, n1, n2, n3, q0, q1, q2, q3, rfl⟩
          by_cases z1 : d5 % 6 = 1
          · have z2 : i = 0 := by omega
            simp [get_ints g5, mm, z1, z2, S, E, DS, RS, HD]
          · simp [get_ints g5, mm, z1, S, E, DS, RS, HD]
      rintro _ ⟨n0, n1, n2, n3, q0, q1, q2, q3, rfl⟩
      obtain ⟨bo, hbo, ebo⟩ := bott b5.1
      refine wst (e := E (some (.int t)) (some (.int f)) (some (.int tw)) (some (.lst [.int n0, .int n1, .int n2, .int n3])) (some (.int bo)) x16 x17) (by simp [get_ints g5, mm, dd, ebo, big, S, E, DS, RS, HD]) ?_
      have hb1 : 1 ≤ bo ∧ bo ≤ 1000 := by omega
      refine wst (e := E (some (.int t)) (some (.int f)) (some (.int tw)) (some (.lst [.int n0, .int n1, .int n2, .int n3])) (some (.int bo)) (some (.int (d5 / 36 % (bo + 1)))) x17) (by simp [get_ints g5, dd, mm _ (bo + 1) (by omega), S, E, DS, RS, HD]) ?_
      have hto : 0 ≤ d5 / 36 % (bo + 1) ∧ d5 / 36 % (bo + 1) ≤ bo := ⟨Int.emod_nonneg _ (by omega), by have := Int.emod_lt_of_pos (d5 / 36) (show 0 < bo + 1 by omega); omega⟩
      generalize d5 / 36 % (bo + 1) = to at hto
      have hlt : rs.length < big := by unfold big; omega
      refine wnx (e := [S, some (.int first), some (.int many), some (.int wide), some (.int start), some (.int goal), HD, some (.own ((rs ++ [(⟨t, f, n0, n1, n2, n3, to, bo⟩ : Row)]).map Row.dv)), some (.int chain), some (.int i), DS, some (.int t), some (.int f), some (.int tw), some (.lst [.int n0, .int n1, .int n2, .int n3]), some (.int bo), some (.int to), x17]) (by simp [hlt, Row.dv, show 8 ≤ big by decide, S, E, DS, RS, HD]) ?_
      refine ⟨_, _, _, _, _, _, _, _, _, _, by simp [h1], fun x hx => ?_, rfl⟩
      rcases List.mem_append.mp hx with h | h
      · exact h2 x h
      · cases List.mem_singleton.mp h
        exact ⟨t0, t1, f0', f1, tf, q0, q1, q2, q3, hto, hb1⟩)
  exact ⟨rs, h2, h3, h1⟩

end K23
end
section
set_option maxHeartbeats 2000000
namespace K23
open PySem DL
/-! the law's net -/
abbrev tx (i : Int) : Str := Str.ofString (toString i)
abbrev enm (k : Nat) : Str := ("e" : Str) ++ tx (k : Int)
abbrev pnm (k : Nat) : Str := ("p" : Str) ++ tx (k : Int)
def yes (r : DL.R DV) : Bool := match r with
  | .ok (.bl b) => b
  | _ => false
theorem yes_ok {r : DL.R DV} (h : yes r = true) : r = .ok (.bl true) := by
  unfold yes at h
  split at h
  · subst h; rfl
  · cases h
theorem enames : ((List.range 33).all fun k => yes (h_is_name [.str (enm k)])) = true := by decide +kernel
theorem pnames : ((List.range 21).all fun k => yes (h_is_name [.str (pnm k)])) = true := by decide +kernel
theorem enew : ((List.range 33).all fun i => !((List.range i).any fun j => enm j == enm i)) = true := by decide +kernel
theorem pnew : ((List.range 21).all fun i => !((List.range i).any fun j => pnm j == pnm i)) = true := by decide +kernel
theorem ename {k : Nat} (h : k < 33) : h_is_name [.str (enm k)] = .ok (.bl true) := yes_ok (List.all_eq_true.mp enames k (List.mem_range.mpr h))
theorem pname {k : Nat} (h : k < 21) : h_is_name [.str (pnm k)] = .ok (.bl true) := yes_ok (List.all_eq_true.mp pnames k (List.mem_range.mpr h))
theorem enms_new {k : Nat} (h : k < 33) : ((List.range k).map fun j => DV.str (enm j)).any (fun y => eqSc y (.str (enm k))) = false := by
  have := List.all_eq_true.mp enew k (List.mem_range.mpr h)
  rw [List.any_map]
  simpa [show ∀ a b : Str, eqSc (.str a) (.str b) = (a == b) from fun _ _ => rfl] using this
theorem pnms_new {k : Nat} (h : k < 21) : ((List.range k).map fun j => DV.str (pnm j)).any (fun y => eqSc y (.str (pnm k))) = false := by
  have := List.all_eq_true.mp pnew k (List.mem_range.mpr h)
  rw [List.any_map]
  simpa [show ∀ a b : Str, eqSc (.str a) (.str b) = (a == b) from fun _ _ => rfl] using this
theorem flat_strs (f : Nat → Str) (l : List Nat) : (l.map fun j => DV.str (f j)).all flat = true := by induction l <;> simp_all [flat]
theorem frz_strs (f : Nat → Str) (l : List Nat) : (l.map fun j => DV.str (f j)).all isFrz = true := by induction l <;> simp_all
def qn (x : Row) : Int := x.a / (Int.gcd x.a x.b : Nat)
def qd (x : Row) : Int := x.b / (Int.gcd x.a x.b : Nat)
theorem q_ok {many : Int} {x : Row} (h : RowOk many x) : 0 ≤ qn x ∧ qn x ≤ qd x ∧ qd x ≤ 1000 := by
  have hg : 0 < (Int.gcd x.a x.b : Nat) := Nat.gcd_pos_of_pos_right _ (by have := h.b; omega)
  refine ⟨Int.ediv_nonneg h.a.1 (by omega), Int.ediv_le_ediv (by omega) h.a.2, ?_⟩
  have := Int.ediv_le_self (a := x.b) (Int.gcd x.a x.b : Nat) (by have := h.b; omega)
  have := h.b
  unfold qd
  omega
def arw (k : Nat) (x : Row) : DV := .tup [.str (enm k), .int x.t, .int x.f, .int x.l, .int x.c, .int x.p, .int x.r, rt (qn x) (qd x)]
def plc (m : Nat) : DV := .tup ((List.range m).map fun k => .str (pnm k))
def arr (rs : List Row) : DV := .tup (rs.mapIdx arw)
def net2 (m : Nat) (rs : List Row) : List (Str × DV) := [("places", plc m), ("arrows", arr rs)]
def netF (m : Nat) (rs : List Row) : List (Str × DV) := [("places", plc m), ("arrows", arr rs), ("names", .tup (rs.mapIdx fun k _ => .str (enm k))), ("tails", .tup (rs.map fun x => .int x.t)), ("heads", .tup (rs.map fun x => .int x.f)), ("lengths", .tup (rs.map fun x => .int x.l)), ("caps", .tup (rs.map fun x => .int x.c)), ("prices", .tup (rs.map fun x => .int x.p)), ("rooms", .tup (rs.map fun x => .int x.r)), ("chances", .tup (rs.map fun x => rt (qn x) (qd x)))]
abbrev netI (m : Nat) (rs : List Row) : DV := .ins "Net" (netF m rs)
theorem is_whole_int (i : Int) : h_is_whole [.int i] = .ok (.bl true) := by
  unfold h_is_whole fnR G_is_whole
  simp [show ans_int (.int i) = some true from rfl, show ans_bool (.int i) = some false from rfl, DL.fin]
theorem is_number_int {i : Int} (h : 0 ≤ i) : h_is_number [.int i] = .ok (.bl true) := by
  unfold h_is_number fnR G_is_number
  simp [is_whole_int, h, DL.fin]
theorem is_chance_spec {a b : Int} (h : 0 ≤ a) (h2 : a ≤ b) (h3 : b ≤ 1000) : h_is_chance [rt a b, .int 1000] = .ok (.bl true) := by
  unfold h_is_chance fnR G_is_chance
  simp [show ans_Ratio (rt a b) = some true from rfl, fn_, fd_, show cs_n "Ratio" = true by decide, show cs_d "Ratio" = true by decide, h, h2, h3, DL.fin]
theorem net_arrow {m : Nat} {rs : List Row} {k : Nat} {x : Row} (hk : k < 33) (h : RowOk m x) : h_Net_is_arrow [.ins "Net" (net2 m rs), arw k x] = .ok (.bl true) := by
  have lp : List.lookup ("places" : Str) (net2 m rs) = some (plc m) := by kernel_rfl
  have l1 : List.lookup ("LARGEST" : Str) (net2 m rs) = none := by kernel_rfl
  have l2 : List.lookup ("FINEST" : Str) (net2 m rs) = none := by kernel_rfl
  have q := q_ok h
  have hl := h.l
  have hc := h.c
  have hp := h.p
  have hr := h.r
  unfold Nb at hl hc hp hr
  have big1 : ∀ i : Int, i < 100000000000000000000 → ¬ 99999999999999999999 < i := fun i h => by omega
  unfold h_Net_is_arrow fnR G_Net_is_arrow
  have t0 := h.t0
  have t1 := h.t1
  have f0 := h.f0
  have f1 := h.f1
  have tf := h.ne
  simp [lp, l1, l2, plc, arw, show cs_places "Net" = true by decide, ename hk, t0, t1, f0, f1, tf, cutL, HT.sIx, loopS, is_number_int, hl, hc, hp, hr, big1, conD, show cc_LARGEST "Net" = true by decide, show cc_FINEST "Net" = true by decide, is_chance_spec q.1 q.2.1 q.2.2, DL.fin]

theorem take_strs (f : Nat → Str) (m i : Nat) (h : i ≤ m) : ((List.range m).map fun k => DV.str (f k)).take i = (List.range i).map fun k => .str (f k) := by
  rw [← List.map_take, List.take_range, Nat.min_eq_left h]
theorem pairs_at {ds : List DV} {i : Nat} {d : DV} (h : (pairsFrom 0 ds)[i]? = some d) : ∃ x, ds[i]? = some x ∧ d = .tup [.int (i : Int), x] := by
  have hi : i < ds.length := by
    have := (List.getElem?_eq_some_iff.mp h).1
    rwa [pairs_len] at this
  have q := pairs_get ds 0 i ds[i] (List.getElem?_eq_getElem hi)
  rw [Nat.zero_add, h] at q
  exact ⟨_, List.getElem?_eq_getElem hi, Option.some.inj q⟩
theorem check_places_spec {m : Nat} {rs : List Row} (h0 : 0 < m) (h1 : m < 21) : h_Net_check_places [.ins "Net" (net2 m rs)] = .ok .non := by
  have lp : List.lookup ("places" : Str) (net2 m rs) = some (plc m) := by kernel_rfl
  have ne : ((List.range m).map fun k => DV.str (pnm k)).isEmpty = false := by
    cases m with
    | zero => omega
    | succ m => simp [List.range_succ]
  unfold h_Net_check_places
  refine wfn' rfl ?_
  simp only [List.map_cons, List.map_nil, List.replicate, List.cons_append, List.nil_append]
  unfold G_Net_check_places
  refine wst (e := [some (.ins "Net" (net2 m rs)), none, none]) (by simp [lp, plc, show cs_places "Net" = true by decide, ne]) ?_
  refine wfor (pairsFrom 0 ((List.range m).map fun k => .str (pnm k))) (by simp [lp, plc, show cs_places "Net" = true by decide]) (fun i e => ∃ x1 x2, e = [some (.ins "Net" (net2 m rs)), x1, x2]) ⟨_, _, rfl⟩ ?_ (fun e _ => by first | trivial | rfl)
  rintro i d e hd ⟨x1, x2, rfl⟩
  obtain ⟨x, hx, rfl⟩ := pairs_at hd
  rw [List.getElem?_map] at hx
  have hi : i < m := by
    have := (List.getElem?_eq_some_iff.mp hd).1
    rw [pairs_len] at this
    simpa using this
  rw [List.getElem?_range hi] at hx
  cases hx
  refine ⟨_, by simp; rfl, wnx (e := [some (.ins "Net" (net2 m rs)), some (.int i), some (.str (pnm i))]) ?_ ⟨_, _, rfl⟩⟩
  have ib : inD (.str (pnm i)) (.tup ((List.range i).map fun k => .str (pnm k))) = some (.bl false) := by
    unfold inD
    rw [inB_items rfl rfl (flat_strs pnm _), pnms_new (by omega)]
    rfl
  simp [lp, plc, show cs_places "Net" = true by decide, pname (show i < 21 by omega), cutL_tn, take_strs pnm m i (by omega), ib]
theorem mapIdx_at {f : Nat → Row → DV} {rs : List Row} {i : Nat} {d : DV} (h : (rs.mapIdx f)[i]? = some d) : ∃ x, rs[i]? = some x ∧ d = f i x := by
  rw [List.getElem?_mapIdx] at h
  cases hx : rs[i]? with
  | none => rw [hx] at h; cases h
  | some x => rw [hx] at h; cases h; exact ⟨x, rfl, rfl⟩
theorem check_arrows_spec {m : Nat} {rs : List Row} (hl : rs.length < 33) (hr : ∀ x ∈ rs, RowOk m x) : h_Net_check_arrows [.ins "Net" (net2 m rs)] = .ok .non := by
  have la : List.lookup ("arrows" : Str) (net2 m rs) = some (arr rs) := by kernel_rfl
  have li : List.lookup ("is_arrow" : Str) (net2 m rs) = none := by kernel_rfl
  unfold h_Net_check_arrows
  refine wfn' rfl ?_
  simp only [List.map_cons, List.map_nil, List.replicate, List.cons_append, List.nil_append]
  unfold G_Net_check_arrows
  refine wst (e := [some (.ins "Net" (net2 m rs)), some (.own []), none, none]) (by simp [show 0 ≤ big by decide]) ?_
  refine wfor (pairsFrom 0 (rs.mapIdx arw)) (by simp [la, arr, show cs_arrows "Net" = true by decide]) (fun i e => ∃ x2 x3, e = [some (.ins "Net" (net2 m rs)), some (.own ((List.range i).map fun k => .str (enm k))), x2, x3]) ⟨_, _, rfl⟩ ?_ (fun e _ => by first | trivial | rfl)
  rintro i d e hd ⟨x2, x3, rfl⟩
  have hi : i < rs.length := by
    have := (List.getElem?_eq_some_iff.mp hd).1
    rw [pairs_len] at this
    simpa using this
  obtain ⟨x, hx, rfl⟩ := pairs_at hd
  obtain ⟨r, hr', rfl⟩ := mapIdx_at hx
  have hrok := hr r (List.mem_of_getElem? hr')
  have ib : inD (.str (enm i)) (.own ((List.range i).map fun k => .str (enm k))) = some (.bl false) := by
    unfold inD
    rw [inB_items rfl rfl (flat_strs enm _), enms_new (by omega)]
    rfl
  have ha := net_arrow (m := m) (rs := rs) (k := i) (x := r) (by omega) hrok
  have ft : isFrz (arw i r) = true := rfl
  refine ⟨[some (.ins "Net" (net2 m rs)), some (.own ((List.range i).map fun k => .str (enm k))), some (.int i), some (arw i r)], by simp, ?_⟩
  refine wst (e := [some (.ins "Net" (net2 m rs)), some (.own ((List.range i).map fun k => .str (enm k))), some (.int i), some (arw i r)]) ?_ ?_
  · have i0 : ixD (arw i r) (.int 0) = some (.str (enm i)) := rfl
    have fa : freeze (arw i r) = arw i r := rfl
    simp [li, ft, fa, ha, i0, ib]
  · have i0 : ixD (arw i r) (.int 0) = some (.str (enm i)) := rfl
    refine wnx (app_to (i := 1) (ds := (List.range i).map fun k => .str (enm k)) (d := .str (enm i)) rfl (by simp [i0]) (by simp [big]; omega)) ⟨some (.int i), some (arw i r), ?_⟩
    simp [List.range_succ]

theorem arws_frz (rs : List Row) : (rs.mapIdx arw).all isFrz = true := by
  rw [List.all_eq_true]
  intro d hd
  obtain ⟨i, hi⟩ := List.mem_iff_getElem?.mp hd
  obtain ⟨x, _, rfl⟩ := mapIdx_at hi
  rfl
/-- a column of the arrows -/
theorem col_ok {gt : DV → Slots → Option Slots} {env0 : Slots} {fe : Slots → DL.R DV} {f : Nat → Row → DV} : ∀ (rs : List Row) (k : Nat), (∀ k x, ∃ e1, gt (arw k x) env0 = some e1 ∧ fe e1 = .ok (f k x)) → lcLoop gt yesT fe env0 (rs.mapIdx fun i => arw (i + k)) = .ok (rs.mapIdx fun i => f (i + k))
  | [], _, _ => rfl
  | x :: rs, k, h => by
    have ih := col_ok rs (k + 1) h
    obtain ⟨e1, h1, h2⟩ := h k x
    rw [List.mapIdx_cons, List.mapIdx_cons]
    unfold lcLoop
    rw [Nat.zero_add, h1]
    have e : ∀ (g : Nat → Row → DV), (rs.mapIdx fun i => g (i + 1 + k)) = rs.mapIdx fun i => g (i + (k + 1)) := fun g => by
      congr 1; funext i; congr 1; omega
    simp only [yesT_app, h2, e arw, e f, ih]
theorem col0 {gt : DV → Slots → Option Slots} {env0 : Slots} {fe : Slots → DL.R DV} (f : Nat → Row → DV) (rs : List Row) (h : ∀ k x, ∃ e1, gt (arw k x) env0 = some e1 ∧ fe e1 = .ok (f k x)) : lcLoop gt yesT fe env0 (rs.mapIdx arw) = .ok (rs.mapIdx f) := col_ok rs 0 h
theorem mapIdx_map (f : Row → DV) : ∀ rs : List Row, (rs.mapIdx fun _ x => f x) = rs.map f
  | [] => rfl
  | x :: rs => by rw [List.mapIdx_cons, List.map_cons, mapIdx_map f rs]
/-- a field of self made of a column of the arrows -/
theorem col_fld {rs : List Row} {fs : List (Str × DV)} {x1 x2 : Option DV} {j : Int} (f : Nat → Row → DV) (cs ce : Str → Bool) (hc : cs "Net" = true) (hl : rs.length < 33) (hf : List.lookup ("arrows" : Str) fs = some (arr rs))
    (hj : ∀ k x, ixD (arw k x) (.int j) = some (f k x)) (hz : ∀ k x, isFrz (f k x) = true) :
    opN (one tupD) (consL (lcV [3] (itS (fz (fldV "arrows" cs ce (var 0)))) (nameG 3) yesT (fz (op2 ixD (var 3) (cst (.int j))))) nilL) [some (.obj "Net" fs), x1, x2, none] = .ok (.tup (rs.mapIdx f)) := by
  have hlc := col0 (gt := nameG 3) (env0 := [some (.obj "Net" fs), x1, x2, none]) (fe := fz (op2 ixD (var 3) (cst (.int j)))) f rs fun k x => ⟨_, rfl, by simp [hj, hz]⟩
  have hall : (rs.mapIdx f).all isFrz = true := by
    rw [List.all_eq_true]
    intro d hd
    obtain ⟨i, hi⟩ := List.mem_iff_getElem?.mp hd
    obtain ⟨x, _, rfl⟩ := mapIdx_at hi
    exact hz i x
  have hb : rs.length ≤ big := by unfold big; omega
  have fo : fldD ("arrows" : Str) cs ce (.obj "Net" fs) = some (arr rs) := by
    show (if cs "Net" = true then List.lookup ("arrows" : Str) fs else none) = _
    rw [if_pos hc, hf]
  have hit : itS (fz (fldV "arrows" cs ce (var 0))) [some (.obj "Net" fs), x1, x2, none] = .ok (rs.mapIdx arw) := by
    simp [fo, arr]
  have hlv : lcV [3] (itS (fz (fldV "arrows" cs ce (var 0)))) (nameG 3) yesT (fz (op2 ixD (var 3) (cst (.int j)))) [some (.obj "Net" fs), x1, x2, none] = .ok (.own (rs.mapIdx f)) := by
    rw [lcV_app, hit]
    simp only [bind_ok, List.length_mapIdx]
    rw [if_pos hb]
    simp only [wipeD_cons, wipeD_nil, List.set_cons_succ, List.set_cons_zero, hlc]
  rw [opN_app, consL_app, hlv]
  simp only [bind_ok, nilL_app, one_app, tup_own, hall, if_true, lift_some]
def netG (m : Nat) (rs : List Row) : List (Str × DV) := [("places", plc m), ("arrows", arr rs), ("names", .tup (rs.mapIdx fun k _ => .str (enm k))), ("tails", .tup (rs.mapIdx fun _ x => .int x.t)), ("heads", .tup (rs.mapIdx fun _ x => .int x.f)), ("lengths", .tup (rs.mapIdx fun _ x => .int x.l)), ("caps", .tup (rs.mapIdx fun _ x => .int x.c)), ("prices", .tup (rs.mapIdx fun _ x => .int x.p)), ("rooms", .tup (rs.mapIdx fun _ x => .int x.r)), ("chances", .tup (rs.mapIdx fun _ x => rt (qn x) (qd x)))]
theorem netG_eq (m : Nat) (rs : List Row) : netG m rs = netF m rs := by unfold netG netF; simp only [mapIdx_map]
theorem init_spec {m : Nat} {rs : List Row} (h0 : 0 < m) (h1 : m < 21) (hl : rs.length < 33) (hr : ∀ x ∈ rs, RowOk m x) :
    h_Net_init [] [.lst ((List.range m).map fun k => .str (pnm k)), .lst (rs.mapIdx arw)] = .ok .non (netF m rs) := by
  let P : DV := .lst ((List.range m).map fun k => .str (pnm k))
  let A : DV := .lst (rs.mapIdx arw)
  have hb : rs.length ≤ big := by unfold big; omega
  have c1 : ¬ (20 : Int) < (m : Int) := by omega
  have c2 : ¬ (32 : Int) < (rs.length : Int) := by omega
  have hA : lcLoop (nameG 3) yesT (opN (one tupD) (consL (var 3) nilL)) [some (.obj "Net" [("places", plc m)]), some P, some A, none] (rs.mapIdx arw) = .ok (rs.mapIdx arw) := col0 arw rs fun k x => ⟨_, rfl, by simp [arw]⟩
  have w : G_Net_init [some (.obj "Net" []), some P, some A, none] = .nx [some (.obj "Net" (netG m rs)), some P, some A, none] := by
    unfold G_Net_init
    rw [seq_nx (e := [some (.obj "Net" []), some P, some A, none]) (by simp [P, conD, show cc_MOST_PLACES "Net" = true by decide, c1])]
    rw [seq_nx (e := [some (.obj "Net" []), some P, some A, none]) (by simp [A, conD, show cc_MOST_ARROWS "Net" = true by decide, c2])]
    rw [seq_nx (e := [some (.obj "Net" [("places", plc m)]), some P, some A, none]) (fld_to (d := plc m) (by simp [P, plc]) rfl (by decide) (by decide) (by kernel_rfl))]
    rw [seq_nx (e := [some (.obj "Net" (net2 m rs)), some P, some A, none]) (fld_to (d := arr rs) (by
      rw [opN_app, consL_app, lcV_app]
      simp only [wipeD_cons, wipeD_nil, List.set_cons_succ, List.set_cons_zero]
      simp [A, hb, hA, arws_frz, arr]) rfl (by decide) (Nat.le_of_ble_eq_true rfl) (by kernel_rfl))]
    have fr : freeze (.obj "Net" (net2 m rs)) = .ins "Net" (net2 m rs) := by simp [freeze, freezef, net2, plc, arr]
    have le : lends (.obj "Net" (net2 m rs)) = some false := by simp [lends, net2, plc, arr]
    have n1 : List.lookup ("check_places" : Str) (net2 m rs) = none := by kernel_rfl
    have n2 : List.lookup ("check_arrows" : Str) (net2 m rs) = none := by kernel_rfl
    rw [seq_nx (e := [some (.obj "Net" (net2 m rs)), some P, some A, none]) (by
      rw [dropS_app, lend_to (l := false) (r := .non) rfl le (by simp [fr, n1, check_places_spec h0 h1]) rfl])]
    rw [seq_nx (e := [some (.obj "Net" (net2 m rs)), some P, some A, none]) (by
      rw [dropS_app, lend_to (l := false) (r := .non) rfl le (by simp [fr, n2, check_arrows_spec hl hr]) rfl])]
    refine (seq_nx (fld_to (ys := (netG m rs).take 3) (col_fld (j := 0) (fun k _ => .str (enm k)) _ _ (by decide) hl (by kernel_rfl) (fun _ _ => rfl) fun _ _ => rfl) rfl (by decide) (Nat.le_of_ble_eq_true rfl) (by kernel_rfl))).trans ?_
    refine (seq_nx (fld_to (ys := (netG m rs).take 4) (col_fld (j := 1) (fun _ x => .int x.t) _ _ (by decide) hl (by kernel_rfl) (fun _ _ => rfl) fun _ _ => rfl) rfl (by decide) (Nat.le_of_ble_eq_true rfl) (by kernel_rfl))).trans ?_
    refine (seq_nx (fld_to (ys := (netG m rs).take 5) (col_fld (j := 2) (fun _ x => .int x.f) _ _ (by decide) hl (by kernel_rfl) (fun _ _ => rfl) fun _ _ => rfl) rfl (by decide) (Nat.le_of_ble_eq_true rfl) (by kernel_rfl))).trans ?_
    refine (seq_nx (fld_to (ys := (netG m rs).take 6) (col_fld (j := 3) (fun _ x => .int x.l) _ _ (by decide) hl (by kernel_rfl) (fun _ _ => rfl) fun _ _ => rfl) rfl (by decide) (Nat.le_of_ble_eq_true rfl) (by kernel_rfl))).trans ?_
    refine (seq_nx (fld_to (ys := (netG m rs).take 7) (col_fld (j := 4) (fun _ x => .int x.c) _ _ (by decide) hl (by kernel_rfl) (fun _ _ => rfl) fun _ _ => rfl) rfl (by decide) (Nat.le_of_ble_eq_true rfl) (by kernel_rfl))).trans ?_
    refine (seq_nx (fld_to (ys := (netG m rs).take 8) (col_fld (j := 5) (fun _ x => .int x.p) _ _ (by decide) hl (by kernel_rfl) (fun _ _ => rfl) fun _ _ => rfl) rfl (by decide) (Nat.le_of_ble_eq_true rfl) (by kernel_rfl))).trans ?_
    refine (seq_nx (fld_to (ys := (netG m rs).take 9) (col_fld (j := 6) (fun _ x => .int x.r) _ _ (by decide) hl (by kernel_rfl) (fun _ _ => rfl) fun _ _ => rfl) rfl (by decide) (Nat.le_of_ble_eq_true rfl) (by kernel_rfl))).trans ?_
    refine (fld_to (ys := netG m rs) (col_fld (j := 7) (fun _ x => rt (qn x) (qd x)) _ _ (by decide) hl (by kernel_rfl) (fun _ _ => rfl) fun _ _ => rfl) rfl (by decide) (Nat.le_of_ble_eq_true rfl) ?_).trans rfl
    kernel_rfl
  unfold h_Net_init fnS
  have w' : G_Net_init (some (.obj "Net" []) :: (([P, A] : List DV).map some ++ List.replicate 1 none)) = _ := w
  rw [if_pos (by rfl)]
  refine (congrArg (finS "Net") w').trans ?_
  rw [netG_eq]
  simp [finS, slf]
theorem nfz_strs (f : Nat → Str) (l : List Nat) : freezes (l.map fun j => DV.str (f j)) = l.map fun j => .str (f j) := freezes_frz (frz_strs f l)
theorem sm_str (k : Nat) (h : k < 1000) : strD (.int (k : Int)) = some (.str (tx (k : Int))) := by
  show (if _ then _ else _) = _
  rw [if_pos]
  have : ((k : Int)).natAbs < 2 ^ 10 := by omega
  by_cases z : ((k : Int)).natAbs = 0
  · rw [z]; decide
  · exact Nat.lt_trans ((Nat.log2_lt z).mpr this) (by decide)
theorem tx_lens : ((List.range 40).all fun k => decide ((tx (k : Int)).length ≤ 5)) = true := by decide +kernel
theorem add_e {k : Nat} (h : k < 40) : addD (.str "e") (.str (tx (k : Int))) = some (.str (enm k)) := by
  have h1 := of_decide_eq_true (List.all_eq_true.mp tx_lens k (List.mem_range.mpr h))
  have h2 : (("e" : Str)).length = 1 := by decide +kernel
  show (if _ then _ else _) = _
  rw [if_pos (by rw [h2]; unfold big; omega)]
theorem add_p {k : Nat} (h : k < 40) : addD (.str "p") (.str (tx (k : Int))) = some (.str (pnm k)) := by
  have h1 := of_decide_eq_true (List.all_eq_true.mp tx_lens k (List.mem_range.mpr h))
  have h2 : (("p" : Str)).length = 1 := by decide +kernel
  show (if _ then _ else _) = _
  rw [if_pos (by rw [h2]; unfold big; omega)]
theorem freeze_net (m : Nat) (rs : List Row) : freeze (.obj "Net" (netF m rs)) = netI m rs := by simp [freeze, freezef, netF, plc, arr]
theorem net_spec {m : Nat} {rs : List Row} (h0 : 0 < m) (h1 : m < 21) (hl : rs.length < 33) (hr : ∀ x ∈ rs, RowOk m x) : h__law_net [.int (m : Int), .lst (rs.map Row.dv)] = .ok (.obj "Net" (netF m rs)) := by
  unfold h__law_net
  refine wfn' rfl ?_
  simp only [List.map_cons, List.map_nil, List.replicate, List.cons_append, List.nil_append]
  unfold G__law_net
  refine wst (e := [some (.int m), some (.lst (rs.map Row.dv)), some (.own []), none, none]) (by simp [show 0 ≤ big by decide]) ?_
  refine wseq ?_
  refine wforR rs.length (by simp) (by omega) (fun i e => ∃ x3 x4, e = [some (.int m), some (.lst (rs.map Row.dv)), some (.own ((rs.take i).mapIdx arw)), x3, x4]) ⟨_, _, rfl⟩ ?_ ?_
  · rintro i e hi ⟨x3, x4, rfl⟩
    have hx : rs[i]? = some rs[i] := List.getElem?_eq_getElem hi
    have ok := hr _ (List.getElem_mem hi)
    generalize hz : rs[i] = x at hx ok
    have ix : L2.atI (rs.map Row.dv) (i : Int) = some x.dv := by rw [atI_nat, List.getElem?_map, hx]; rfl
    refine ⟨[some (.int m), some (.lst (rs.map Row.dv)), some (.own ((rs.take i).mapIdx arw)), some (.int i), x4], by simp, ?_⟩
    refine wst (e := [some (.int m), some (.lst (rs.map Row.dv)), some (.own ((rs.take i).mapIdx arw)), some (.int i), some x.dv]) (by simp [ix, show isFrz x.dv = true from rfl, show freeze x.dv = x.dv from rfl]) ?_
    have hlen : ((rs.take i).mapIdx arw).length = i := by rw [List.length_mapIdx, List.length_take]; omega
    have e6 : mkV "Ratio" h_Ratio_init dd_Ratio2 (consL (fz (op2 ixD (var 4) (cst (.int 6)))) (consL (fz (op2 ixD (var 4) (cst (.int 7)))) nilL)) [some (.int m), some (.lst (rs.map Row.dv)), some (.own ((rs.take i).mapIdx arw)), some (.int i), some x.dv] = .ok (.obj "Ratio" (rat (qn x) (qd x))) := by
      have hb := ok.b
      simp [Row.dv, dd_Ratio2, init_pos (n := x.a) (d := x.b) (by omega) (by omega), qn, qd]
    refine wnx (app_to (i := 2) (d := arw i x) rfl ?_ (by rw [hlen]; unfold big; omega)) ⟨some (.int i), some x.dv, ?_⟩
    · rw [tupV_app]
      simp only [consL_app, shr_app, e6]
      simp [sm_str i (by omega), add_e (show i < 40 by omega), Row.dv, arw, frz_rat, show 8 ≤ big by decide]
    · have e1 : rs.take (i + 1) = rs.take i ++ [x] := by rw [List.take_succ, hx]; rfl
      rw [e1, List.mapIdx_concat]
      have e2 : (rs.take i).length = i := by rw [List.length_take]; omega
      rw [e2]
      rfl
  · rintro e ⟨x3, x4, rfl⟩
    rw [List.take_length]
    refine wst (e := [some (.int m), some (.lst (rs.map Row.dv)), some (.lst (rs.mapIdx arw)), x3, x4]) (by simp [frz_own (arws_frz rs)]) ?_
    refine wret (d := .obj "Net" (netF m rs)) ?_ rfl
    have hp : lcV [3] (rgS1 (var 0)) (nameG 3) yesT (op2 addD (cst (.str "p")) (opN (one strD) (consL (var 3) nilL))) [some (.int m), some (.lst (rs.map Row.dv)), some (.lst (rs.mapIdx arw)), x3, x4] = .ok (.own ((List.range m).map fun k => .str (pnm k))) := by
      have r0 : rgS1 (var 0) [some (.int m), some (.lst (rs.map Row.dv)), some (.lst (rs.mapIdx arw)), x3, x4] = .ok (rngL 0 m) := rg1_ok rfl (by omega)
      rw [lcV_app, r0]
      simp only [bind_ok, rngL_len]
      rw [if_pos (by unfold big; omega), lc_rng (f := fun k => .str (pnm k)) m fun i hi => ⟨_, rfl, by simp [sm_str i (by omega), add_p (show i < 40 by omega)]⟩]
    have frz : freeze (.own ((List.range m).map fun k => .str (pnm k))) = .lst ((List.range m).map fun k => .str (pnm k)) := frz_own (frz_strs pnm _)
    rw [mkV_app, consL_app, hp]
    simp [frz, dd_Net2, init_spec h0 h1 hl hr]

end K23
end
section
set_option maxHeartbeats 200000
namespace DL
open PySem
/-! equality of rows of numbers -/
theorem toPys_ints : ∀ ns : List Int, toPys (ns.map DV.int) = some (ns.map PyData.int)
  | [] => by simp [toPys]
  | n :: ns => by simp [toPys, toPy, toPys_ints ns]
theorem lay_ints : ∀ ns : List Int, PyData.canLayAll0 (ns.map PyData.int) = true
  | [] => rfl
  | n :: ns => by simp [PyData.canLayAll0, PyData.canLay0, lay_ints ns]
theorem eqv_ints : ∀ ns ms : List Int, PyData.eqvAll (ns.map PyData.int) (ms.map PyData.int) = decide (ns = ms)
  | [], [] => rfl
  | [], _ :: _ => rfl
  | _ :: _, [] => rfl
  | n :: ns, m :: ms => by
    rw [List.map_cons, List.map_cons, PyData.eqvAll, PyData.eqv, eqv_ints ns ms]
    by_cases h : n = m <;> simp [h]
theorem depth_ints (ns : List Int) : (PyData.list (ns.map .int)).depth ≤ 64 ∧ (PyData.tuple (ns.map .int)).depth ≤ 64 := by
  have h : ∀ ns : List Int, PyData.depthAll (ns.map PyData.int) ≤ 1 := by
    intro ns
    induction ns with
    | nil => simp [PyData.depthAll]
    | cons n ns ih => simp [PyData.depthAll, PyData.depth]; omega
  have := h ns
  constructor <;> simp [PyData.depth] <;> omega
theorem shaped_list (ns : List Int) : SeqAt.shaped (.list (ns.map .int)) = true := by
  unfold SeqAt.shaped
  rw [Bool.and_eq_true]
  exact ⟨by rw [PyData.canLay0]; exact lay_ints ns, decide_eq_true (depth_ints ns).1⟩
theorem shaped_tup (ns : List Int) : SeqAt.shaped (.tuple (ns.map .int)) = true := by
  unfold SeqAt.shaped
  rw [Bool.and_eq_true]
  exact ⟨by rw [PyData.canLay0]; exact lay_ints ns, decide_eq_true (depth_ints ns).2⟩
/-- a list of numbers: shared, own or read alone -/
def ListOf (d : DV) (ns : List Int) : Prop := d = .lst (ns.map .int) ∨ d = .own (ns.map .int) ∨ d = .scr (ns.map .int)
theorem eqB_lists {x y : DV} {ns ms : List Int} (hx : ListOf x ns) (hy : ListOf y ms) : eqB x y = some (decide (ns = ms)) := by
  have hp : ∀ {x : DV} {ns : List Int}, ListOf x ns → toPy x = some (.list (ns.map .int)) := fun {x ns} h => by
    rcases h with rfl | rfl | rfl <;> simp [toPy, toPys_ints]
  unfold eqB
  rw [hp hx, hp hy]
  simp only [shaped_list, Bool.and_self, if_true, PyData.eqv, eqv_ints]
theorem eqB_tups {ns ms : List Int} : eqB (.tup (ns.map .int)) (.tup (ms.map .int)) = some (decide (ns = ms)) := by
  have hp : ∀ {ns : List Int}, toPy (.tup (ns.map .int)) = some (.tuple (ns.map .int)) := fun {ns} => by simp [toPy, toPys_ints]
  unfold eqB
  rw [hp, hp]
  simp only [shaped_tup, Bool.and_self, if_true, PyData.eqv, eqv_ints]
theorem ne_lists {x y : DV} {ns ms : List Int} (hx : ListOf x ns) (hy : ListOf y ms) : neD x y = some (.bl (!decide (ns = ms))) := by
  unfold neD; rw [eqB_lists hx hy]; rfl
theorem eq_lists {x y : DV} {ns ms : List Int} (hx : ListOf x ns) (hy : ListOf y ms) : eqD x y = some (.bl (decide (ns = ms))) := by
  unfold eqD; rw [eqB_lists hx hy]; rfl
@[simp] theorem ne_ol {ns ms : List Int} : neD (.own (ns.map .int)) (.lst (ms.map .int)) = some (.bl (!decide (ns = ms))) := ne_lists (.inr (.inl rfl)) (.inl rfl)
@[simp] theorem ne_ll {ns ms : List Int} : neD (.lst (ns.map .int)) (.lst (ms.map .int)) = some (.bl (!decide (ns = ms))) := ne_lists (.inl rfl) (.inl rfl)
@[simp] theorem eq_ll {ns ms : List Int} : eqD (.lst (ns.map .int)) (.lst (ms.map .int)) = some (.bl (decide (ns = ms))) := eq_lists (.inl rfl) (.inl rfl)
@[simp] theorem eq_ol {ns ms : List Int} : eqD (.own (ns.map .int)) (.lst (ms.map .int)) = some (.bl (decide (ns = ms))) := eq_lists (.inr (.inl rfl)) (.inl rfl)
@[simp] theorem eq_tt {ns ms : List Int} : eqD (.tup (ns.map .int)) (.tup (ms.map .int)) = some (.bl (decide (ns = ms))) := by unfold eqD; rw [eqB_tups]; rfl
@[simp] theorem ne_tt {ns ms : List Int} : neD (.tup (ns.map .int)) (.tup (ms.map .int)) = some (.bl (!decide (ns = ms))) := by unfold neD; rw [eqB_tups]; rfl
@[simp] theorem eq_bb {a b : Bool} : eqD (.bl a) (.bl b) = some (.bl (a == b)) := by cases a <;> cases b <;> rfl
@[simp] theorem ne_bb {a b : Bool} : neD (.bl a) (.bl b) = some (.bl (a != b)) := by cases a <;> cases b <;> rfl
/-! sums, list(..) -/
theorem sum_own (ns : List Int) : sumD (.own (ns.map .int)) = some (.int ns.sum) := by
  show Option.map (fun ns => DV.int (List.sum ns)) (intsOf (ns.map .int)) = _
  rw [intsOf_ofInts]; rfl
@[simp] theorem list_lstI (ns : List Int) : listD (.lst (ns.map .int)) = some (.own (ns.map .int)) := by
  unfold listD
  simp only [itemsOf, ints_frz, if_true]
@[simp] theorem list_tupI (ns : List Int) : listD (.tup (ns.map .int)) = some (.own (ns.map .int)) := by
  unfold listD
  simp only [itemsOf, ints_frz, if_true]
@[simp] theorem tup_ownI (ns : List Int) : tupD (.own (ns.map .int)) = some (.tup (ns.map .int)) := by rw [tup_own, if_pos (ints_frz ns)]
theorem cutL_map {α β : Type} (f : α → β) (xs : List α) (lo hi : Option Int) : cutL (xs.map f) lo hi = (cutL xs lo hi).map f := by
  unfold cutL
  simp only [List.length_map, List.map_take, List.map_drop]
theorem cutL_len {α : Type} (xs : List α) (lo hi : Option Int) : (cutL xs lo hi).length ≤ xs.length := by
  unfold cutL
  rw [List.length_take, List.length_drop]
  omega
end DL
end
section
set_option maxHeartbeats 2000000
namespace K23
open PySem DL
/-! what may stand in a bound -/
def El : DV → Prop
  | .non => True
  | .int _ => True
  | .str z => SeqAt.shaped (.str z) = true
  | .tup _ => True
  | .ins c _ => c = "Ratio"
  | _ => False
def V1 (d : DV) : Prop := El d ∧ ∀ ds, d = .tup ds → ds.length < 100000 ∧ ∀ x ∈ ds, El x
def V2 (d : DV) : Prop := El d ∧ ∀ ds, d = .tup ds → ds.length < 100000 ∧ ∀ x ∈ ds, V1 x
theorem el_frz {d : DV} (h : El d) : isFrz d = true := by cases d <;> first | rfl | exact h.elim
theorem el_freeze {d : DV} (h : El d) : freeze d = d := freeze_frz (el_frz h)
theorem el_cases {d : DV} (h : El d) : (∃ a, d = .int a) ∨ ((∀ a, d ≠ .int a) ∧ ans_int d = some false) := by
  cases d with
  | int a => exact .inl ⟨a, rfl⟩
  | non => exact .inr ⟨(fun _ z => by cases z), rfl⟩
  | str => exact .inr ⟨(fun _ z => by cases z), rfl⟩
  | tup => exact .inr ⟨(fun _ z => by cases z), rfl⟩
  | ins c fs =>
    obtain rfl : c = "Ratio" := h
    exact .inr ⟨(fun _ z => by cases z), rfl⟩
  | _ => exact h.elim
theorem el_tup {d : DV} (h : El d) : (∃ ds, d = .tup ds) ∨ ((∀ ds, d ≠ .tup ds) ∧ ans_tuple d = some false) := by
  cases d with
  | tup ds => exact .inl ⟨ds, rfl⟩
  | non => exact .inr ⟨(fun _ z => by cases z), rfl⟩
  | str => exact .inr ⟨(fun _ z => by cases z), rfl⟩
  | int => exact .inr ⟨(fun _ z => by cases z), rfl⟩
  | ins c fs =>
    obtain rfl : c = "Ratio" := h
    exact .inr ⟨(fun _ z => by cases z), rfl⟩
  | _ => exact h.elim
theorem el_str {d : DV} (h : El d) : (∃ a, d = .str a) ∨ ((∀ a, d ≠ .str a) ∧ ans_str d = some false) := by
  cases d with
  | str a => exact .inl ⟨a, rfl⟩
  | non => exact .inr ⟨(fun _ z => by cases z), rfl⟩
  | tup => exact .inr ⟨(fun _ z => by cases z), rfl⟩
  | int => exact .inr ⟨(fun _ z => by cases z), rfl⟩
  | ins c fs =>
    obtain rfl : c = "Ratio" := h
    exact .inr ⟨(fun _ z => by cases z), rfl⟩
  | _ => exact h.elim
theorem is_whole_no {d : DV} (h : ans_int d = some false) : h_is_whole [d] = .ok (.bl false) := by
  unfold h_is_whole fnR G_is_whole
  simp [h, DL.fin]
theorem same_whole : h__law_is_integer = h_is_whole := rfl
theorem same_row : h__law_is_row = h_is_row := rfl
theorem same_lot : h__law_is_lot = h_is_lot := rfl
theorem same_word : h__law_has_word = h_has_word := rfl
theorem drop_at {α : Type} {ds : List α} {i : Nat} {d : α} (h : ds[i]? = some d) : ds.drop i = d :: ds.drop (i + 1) := by
  obtain ⟨hi, rfl⟩ := List.getElem?_eq_some_iff.mp h
  exact List.drop_eq_getElem_cons hi
/-! rows, words -/
def rowB (n : Nat) : DV → Bool
  | .tup ds => decide (ds.length = n)
  | _ => false
theorem is_row_spec {d : DV} (hd : El d) (n : Nat) : h_is_row [d, .int (n : Int)] = .ok (.bl (rowB n d)) := by
  unfold h_is_row fnR G_is_row
  rcases el_tup hd with ⟨ds, rfl⟩ | ⟨h1, h2⟩
  · simp [show ans_tuple (.tup ds) = some true from rfl, rowB, DL.fin, show ((ds.length : Int) = (n : Int)) = (ds.length = n) from propext (by omega)]
  · have : rowB n d = false := by
      cases d with
      | tup ds => exact absurd rfl (h1 ds)
      | _ => rfl
    simp [h2, this, DL.fin]
def hasW (w : Str) : DV → Bool
  | .tup [.str a, _] => a == w
  | _ => false
def snd2 : DV → DV
  | .tup [_, b] => b
  | _ => .non
theorem eq_strs {a b : Str} (ha : SeqAt.shaped (.str a) = true) (hb : SeqAt.shaped (.str b) = true) : eqD (.str a) (.str b) = some (.bl (a == b)) := by
  show Option.map DV.bl (if (SeqAt.shaped (.str a) && SeqAt.shaped (.str b)) = true then some (a == b) else none) = _
  rw [ha, hb]
  rfl
theorem has_word_spec {d : DV} (hd : V2 d) {w : Str} (hw : SeqAt.shaped (.str w) = true) : h_has_word [d, .str w] = .ok (.bl (hasW w d)) := by
  have hr : h_is_row [d, .int 2] = .ok (.bl (rowB 2 d)) := is_row_spec hd.1 2
  unfold h_has_word fnR G_has_word
  cases hb : rowB 2 d with
  | false =>
    have : hasW w d = false := by
      unfold hasW
      split
      · cases hb
      · rfl
    simp [el_frz hd.1, el_freeze hd.1, hr, hb, this, DL.fin]
  | true =>
    cases d with
    | tup ds =>
      match ds, hb with
      | [x, y], _ =>
        have hx := ((hd.2 _ rfl).2 x (by simp)).1
        rcases el_str hx with ⟨a, rfl⟩ | ⟨h1, h2⟩
        · simp [hr, show rowB 2 (.tup [.str a, y]) = true from rfl, show ans_str (.str a) = some true from rfl, eq_strs hx hw, hasW, DL.fin]
        · have : hasW w (.tup [x, y]) = false := by
            cases x with
            | str a => exact absurd rfl (h1 a)
            | _ => rfl
          simp [hr, show rowB 2 (.tup [x, y]) = true from rfl, h2, this, DL.fin]
    | _ => cases hb
/-! lots -/
def lgo (size : Int) : Int → List DV → Bool
  | _, [] => true
  | least, .int a :: ds => if least ≤ a ∧ a < size then lgo size (a + 1) ds else false
  | _, _ :: _ => false
def lotB (size : Int) : DV → Bool
  | .tup ds => lgo size 0 ds
  | _ => false
theorem lgo_int {size least a : Int} {ds : List DV} : lgo size least (.int a :: ds) = if least ≤ a ∧ a < size then lgo size (a + 1) ds else false := by first | rfl | rw [lgo]
theorem lgo_no {size least : Int} {d : DV} {ds : List DV} (h : ∀ a, d ≠ .int a) : lgo size least (d :: ds) = false := by
  cases d with
  | int a => exact absurd rfl (h a)
  | _ => rfl
theorem lgo_ints {size : Int} : ∀ {ds : List DV} {least : Int}, lgo size least ds = true → ∃ ns : List Int, ds = ns.map .int
  | [], _, _ => ⟨[], rfl⟩
  | d :: ds, least, h => by
    by_cases z : ∃ a, d = .int a
    · obtain ⟨a, rfl⟩ := z
      rw [lgo_int] at h
      split at h
      · obtain ⟨ns, rfl⟩ := lgo_ints h
        exact ⟨a :: ns, rfl⟩
      · cases h
    · rw [lgo_no fun a e => z ⟨a, e⟩] at h
      cases h
theorem is_lot_spec {d : DV} (hd : V1 d) (size : Int) : h_is_lot [d, .int size] = .ok (.bl (lotB size d)) := by
  unfold h_is_lot
  refine wfn' rfl ?_
  simp only [List.map_cons, List.map_nil, List.replicate, List.cons_append, List.nil_append]
  unfold G_is_lot
  rcases el_tup hd.1 with ⟨ds, rfl⟩ | ⟨h1, h2⟩
  · have hel := (hd.2 ds rfl).2
    refine wst (e := [some (.tup ds), some (.int size), none, none]) (by simp [show ans_tuple (.tup ds) = some true from rfl]) ?_
    refine wst (e := [some (.tup ds), some (.int size), some (.int 0), none]) (by simp) ?_
    refine wseq ?_
    refine wfor ds (by simp) (fun i e => ∃ (least : Int) (x3 : Option DV), lgo size least (ds.drop i) = lgo size 0 ds ∧ e = [some (.tup ds), some (.int size), some (.int least), x3]) ⟨0, none, rfl, rfl⟩ ?_ ?_
    · rintro i x e hx ⟨least, x3, h2, rfl⟩
      have elx := hel x (List.mem_of_getElem? hx)
      rw [drop_at hx] at h2
      refine ⟨[some (.tup ds), some (.int size), some (.int least), some x], by simp, ?_⟩
      rcases el_cases elx with ⟨a, rfl⟩ | ⟨n1, n2⟩
      · rw [lgo_int] at h2
        by_cases c : least ≤ a ∧ a < size
        · rw [if_pos c] at h2
          have c0 : ¬ a < least := by omega
          have c1 : ¬ size ≤ a := by omega
          refine wst (e := [some (.tup ds), some (.int size), some (.int least), some (.int a)]) (by simp [is_whole_int, c0, c1]) ?_
          exact wnx (e := [some (.tup ds), some (.int size), some (.int (a + 1)), some (.int a)]) (by simp) ⟨a + 1, some (.int a), h2, rfl⟩
        · rw [if_neg c] at h2
          refine wseq ?_
          refine wifT ?_ (wret (d := .bl false) rfl (by show _ = DV.bl (lgo size 0 ds); rw [← h2]))
          by_cases c0 : a < least
          · simp [is_whole_int, c0]
          · have c1 : size ≤ a := by omega
            simp [is_whole_int, c0, c1]
      · rw [lgo_no n1] at h2
        refine wseq ?_
        exact wifT (by simp [el_frz elx, el_freeze elx, is_whole_no n2]) (wret (d := .bl false) rfl (by show _ = DV.bl (lgo size 0 ds); rw [← h2]))
    · rintro e ⟨least, x3, h2, rfl⟩
      rw [List.drop_length] at h2
      exact wret (d := .bl true) (by simp) (by show _ = DV.bl (lgo size 0 ds); rw [← h2]; rfl)
  · have : lotB size d = false := by
      cases d with
      | tup ds => exact absurd rfl (h1 ds)
      | _ => rfl
    refine wseq ?_
    exact wifT (by simp [h2]) (wret (d := .bl false) rfl (by rw [this]))
/-! rows of whole numbers -/
def allI : List DV → Bool
  | [] => true
  | .int _ :: ds => allI ds
  | _ :: _ => false
def whB (n : Nat) : DV → Bool
  | .tup ds => decide (ds.length = n) && allI ds
  | _ => false
theorem allI_no {d : DV} {ds : List DV} (h : ∀ a, d ≠ .int a) : allI (d :: ds) = false := by
  cases d with
  | int a => exact absurd rfl (h a)
  | _ => rfl
theorem allI_ints : ∀ {ds : List DV}, allI ds = true → ∃ ns : List Int, ds = ns.map .int
  | [], _ => ⟨[], rfl⟩
  | d :: ds, h => by
    by_cases z : ∃ a, d = .int a
    · obtain ⟨a, rfl⟩ := z
      obtain ⟨ns, rfl⟩ := allI_ints (ds := ds) h
      exact ⟨a :: ns, rfl⟩
    · rw [allI_no fun a e => z ⟨a, e⟩] at h
      cases h
theorem is_wholes_spec {d : DV} (hd : V1 d) (n : Nat) : h_is_wholes [d, .int (n : Int)] = .ok (.bl (whB n d)) := by
  have hr := is_row_spec hd.1 n
  unfold h_is_wholes
  refine wfn' rfl ?_
  simp only [List.map_cons, List.map_nil, List.replicate, List.cons_append, List.nil_append]
  unfold G_is_wholes
  cases hb : rowB n d with
  | false =>
    have : whB n d = false := by
      cases d with
      | tup ds => show (decide (ds.length = n) && allI ds) = false; rw [show decide (ds.length = n) = false from hb]; rfl
      | _ => rfl
    refine wseq ?_
    exact wifT (by simp [el_frz hd.1, el_freeze hd.1, hr, hb]) (wret (d := .bl false) rfl (by rw [this]))
  | true =>
    rcases el_tup hd.1 with ⟨ds, rfl⟩ | ⟨h1, h2⟩
    · have hel := (hd.2 ds rfl).2
      have hw : whB n (.tup ds) = allI ds := by show (decide (ds.length = n) && allI ds) = _; rw [show decide (ds.length = n) = true from hb]; rfl
      rw [hw]
      refine wst (e := [some (.tup ds), some (.int n), none]) (by simp [hr, hb]) ?_
      refine wseq ?_
      refine wfor ds (by simp) (fun i e => ∃ x2 : Option DV, allI (ds.drop i) = allI ds ∧ e = [some (.tup ds), some (.int n), x2]) ⟨none, rfl, rfl⟩ ?_ ?_
      · rintro i x e hx ⟨x2, h2, rfl⟩
        have elx := hel x (List.mem_of_getElem? hx)
        rw [drop_at hx] at h2
        refine ⟨[some (.tup ds), some (.int n), some x], by simp, ?_⟩
        rcases el_cases elx with ⟨a, rfl⟩ | ⟨n1, n2⟩
        · exact wnx (e := [some (.tup ds), some (.int n), some (.int a)]) (by simp [is_whole_int]) ⟨_, h2, rfl⟩
        · rw [allI_no n1] at h2
          exact wifT (by simp [el_frz elx, el_freeze elx, is_whole_no n2]) (wret (d := .bl false) rfl (by rw [← h2]))
      · rintro e ⟨x2, h2, rfl⟩
        rw [List.drop_length] at h2
        exact wret (d := .bl true) (by simp) (by rw [← h2]; rfl)
    · exfalso
      cases d with
      | tup ds => exact h1 ds rfl
      | _ => cases hb

end K23
end
section
set_option maxHeartbeats 2000000
namespace K23
open PySem DL
/-! values, and what the law draws (world) -/
abbrev wy (w : List Int) : DV := .tup (w.map .int)
abbrev rws (rs : List Row) : DV := .lst (rs.map Row.dv)
abbrev en (s g : Int) : DV := .tup [.int s, .int g]
/-! what the law draws -/
theorem many_at {q : Int} : ∃ b : Int, (2 ≤ b ∧ b ≤ 6) ∧ L2.atI [DV.int 2, DV.int 3, DV.int 4, DV.int 4, DV.int 5, DV.int 5, DV.int 6, DV.int 6] (q % 8) = some (.int b) := by
  have h8 : q % 8 = 0 ∨ q % 8 = 1 ∨ q % 8 = 2 ∨ q % 8 = 3 ∨ q % 8 = 4 ∨ q % 8 = 5 ∨ q % 8 = 6 ∨ q % 8 = 7 := by omega
  rcases h8 with h | h | h | h | h | h | h | h <;> rw [h]
  · exact ⟨2, by decide, rfl⟩
  · exact ⟨3, by decide, rfl⟩
  · exact ⟨4, by decide, rfl⟩
  · exact ⟨4, by decide, rfl⟩
  · exact ⟨5, by decide, rfl⟩
  · exact ⟨5, by decide, rfl⟩
  · exact ⟨6, by decide, rfl⟩
  · exact ⟨6, by decide, rfl⟩
theorem every_at {q : Int} : ∃ b : Int, (0 ≤ b ∧ b ≤ 8) ∧ L2.atI [DV.int 0, DV.int 0, DV.int 1, DV.int 2, DV.int 3, DV.int 4, DV.int 8, DV.int 8] (q % 8) = some (.int b) := by
  have h8 : q % 8 = 0 ∨ q % 8 = 1 ∨ q % 8 = 2 ∨ q % 8 = 3 ∨ q % 8 = 4 ∨ q % 8 = 5 ∨ q % 8 = 6 ∨ q % 8 = 7 := by omega
  rcases h8 with h | h | h | h | h | h | h | h <;> rw [h]
  · exact ⟨0, by decide, rfl⟩
  · exact ⟨0, by decide, rfl⟩
  · exact ⟨1, by decide, rfl⟩
  · exact ⟨2, by decide, rfl⟩
  · exact ⟨3, by decide, rfl⟩
  · exact ⟨4, by decide, rfl⟩
  · exact ⟨8, by decide, rfl⟩
  · exact ⟨8, by decide, rfl⟩
/-- a world: places, rows, start, goal, cut -/
structure World (m : Nat) (rs : List Row) (s g : Int) (cut : List Int) : Prop where
  m0 : 2 ≤ m
  m1 : m < 21
  l : rs.length < 33
  ok : ∀ x ∈ rs, RowOk m x
  s0 : 0 ≤ s
  s1 : s < m
  g0 : 0 ≤ g
  g1 : g < m
  ne : s ≠ g
theorem world_spec (ns : List Int) : ∃ (m : Nat) (rs : List Row) (s g : Int) (cut : List Int), World m rs s g cut ∧ h__law_world [scr ns] = .ok (.tup [.int m, rws rs, en s g, wy cut]) := by
  obtain ⟨hx, hlen, hdr, hhead⟩ := draws_spec ns 0 8 (by omega) (by decide)
  have hhead : h__law_draws [scr ns, .int 0, .int 8] = .ok (.own (hx.map .int)) := hhead
  have mm : ∀ (x m : Int), 0 < m → modD (.int x) (.int m) = some (.int (x % m)) := fun x m h => mod_pos h
  have dd : ∀ (x m : Int), 0 < m → m < 1000000 → divD (.int x) (.int m) = some (.int (x / m)) := fun x m h h2 => div_pos h (by omega)
  obtain ⟨y0, k0, c0⟩ := dr_at hdr 0 (by omega)
  obtain ⟨y1, k1, c1⟩ := dr_at hdr 1 (by omega)
  obtain ⟨y2, k2, c2⟩ := dr_at hdr 2 (by omega)
  obtain ⟨y3, k3, c3⟩ := dr_at hdr 3 (by omega)
  obtain ⟨y4, k4, c4⟩ := dr_at hdr 4 (by omega)
  obtain ⟨y5, k5, c5⟩ := dr_at hdr 5 (by omega)
  have k0 := get_ints k0
  have k1 := get_ints k1
  have k2 := get_ints k2
  have k3 := get_ints k3
  have k4 := get_ints k4
  have k5 := get_ints k5
  let S : Option DV := some (scr ns)
  let HD : Option DV := some (.lst (hx.map .int))
  obtain ⟨d, h1, m, rs, s, g, cut, h2, rfl⟩ := wfn (n := 1) (m := 10) (G := G__law_world) (ds := [scr ns]) (T := fun d => ∃ (m : Nat) (rs : List Row) (s g : Int) (cut : List Int), World m rs s g cut ∧ d = .tup [.int m, rws rs, en s g, wy cut]) rfl (by
    simp only [List.map_cons, List.map_nil, List.replicate, List.cons_append, List.nil_append]
    unfold G__law_world
    refine wst (e := [S, HD, none, none, none, none, none, none, none, none, none]) (by simp [hhead, S, HD]) ?_
    obtain ⟨m0, hm0, em0⟩ := many_at (q := y0)
    refine wst (e := [S, HD, some (.int m0), none, none, none, none, none, none, none, none]) (by simp [k0, mm, em0, show 8 ≤ big by decide, S, HD]) ?_
    refine wst (e := [S, HD, some (.int m0), some (.int (2 + y1 % 9)), none, none, none, none, none, none, none]) (by simp [k1, mm, S, HD]) ?_
    refine wex (I := fun e => ∃ w : Int, 0 ≤ w ∧ w < 33 ∧ e = [S, HD, some (.int m0), some (.int w), none, none, none, none, none, none, none]) ?_ ?_
    · by_cases z : y2 % 16 = 6
      · exact ⟨_, by simp [k1, k2, mm, z, S, HD], y1 % 2, by omega, by omega, rfl⟩
      · exact ⟨_, by simp [k2, mm, z, S, HD], 2 + y1 % 9, by omega, by omega, rfl⟩
    rintro _ ⟨w1, hw0, hw1, rfl⟩
    refine wex (I := fun e => ∃ mn w : Nat, 2 ≤ mn ∧ mn < 21 ∧ w < 33 ∧ e = [S, HD, some (.int (mn : Int)), some (.int (w : Int)), none, none, none, none, none, none, none]) ?_ ?_
    · by_cases z : y2 % 8 = 5
      · refine ⟨[S, HD, some (.int (2 + y0 % 19)), some (.int (y1 % 33)), none, none, none, none, none, none, none], by simp [k0, k1, k2, mm, z, S, HD], (2 + y0 % 19).toNat, (y1 % 33).toNat, by omega, by omega, by omega, ?_⟩
        rw [Int.toNat_of_nonneg (by omega), Int.toNat_of_nonneg (by omega)]
      · refine ⟨[S, HD, some (.int m0), some (.int w1), none, none, none, none, none, none, none], by simp [k2, mm, z, S, HD], m0.toNat, w1.toNat, by omega, by omega, by omega, ?_⟩
        rw [Int.toNat_of_nonneg (by omega), Int.toNat_of_nonneg (by omega)]
    rintro _ ⟨mn, w, hm2, hm21, hw33, rfl⟩
    have hmp : (0 : Int) < (mn : Int) := by omega
    refine wst (e := [S, HD, some (.int mn), some (.int w), some (.int (y3 % mn)), none, none, none, none, none, none]) (by simp [k3, mm _ _ hmp, S, HD]) ?_
    refine wst (e := [S, HD, some (.int mn), some (.int w), some (.int (y3 % mn)), some (.int ((y3 % mn + 1 + y3 / mn % (mn - 1)) % mn)), none, none, none, none, none]) (by simp [k3, mm _ _ hmp, mm _ ((mn : Int) - 1) (by omega), dd _ (mn : Int) hmp (by omega), S, HD]) ?_
    have f0 : (y3 % mn + 1 + y3 / mn % (mn - 1)) % mn ≠ y3 % mn := by
      have := ne_step (many := (mn : Int)) (a := y3 % mn) (by omega) (y3 / mn % (mn - 1)) (Int.emod_nonneg _ (by omega)) (Int.emod_lt_of_pos _ (by omega))
      rwa [Int.emod_emod] at this
    have nn : ∀ x : Int, 0 ≤ x % mn ∧ x % mn < mn := fun x => ⟨Int.emod_nonneg _ (by omega), Int.emod_lt_of_pos _ hmp⟩
    have h01 := nn y3
    have h02 := nn (y3 % mn + 1 + y3 / mn % (mn - 1))
    generalize (y3 % (mn : Int) + 1 + y3 / mn % (mn - 1)) % mn = g at f0 h02
    generalize y3 % (mn : Int) = s at f0 h01
    obtain ⟨rs, hrl, hrok, hrows⟩ := rows_spec ns 1 w mn s g (.inl (by omega)) (by omega) (by omega) (by omega)
    have hrows : h__law_rows [scr ns, .int 1, .int mn, .int w, .int s, .int g] = .ok (.own (rs.map Row.dv)) := hrows
    refine wst (e := [S, HD, some (.int mn), some (.int w), some (.int s), some (.int g), some (rws rs), none, none, none, none]) (by simp [hrows, frz_own (dv_frz rs), S, HD]) ?_
    obtain ⟨ev, hev, eev⟩ := every_at (q := y4)
    refine wst (e := [S, HD, some (.int mn), some (.int w), some (.int s), some (.int g), some (rws rs), some (.int ev), none, none, none]) (by simp [k4, mm, eev, show 8 ≤ big by decide, S, HD]) ?_
    refine wst (e := [S, HD, some (.int mn), some (.int w), some (.int s), some (.int g), some (rws rs), some (.int ev), some (.int y5), none, none]) (by simp [k5, S, HD]) ?_
    refine wst (e := [S, HD, some (.int mn), some (.int w), some (.int s), some (.int g), some (rws rs), some (.int ev), some (.int y5), some (.own []), none]) (by simp [show 0 ≤ big by decide, S, HD]) ?_
    refine wseq ?_
    refine wforR w ?c1 ?c2 (fun i e => ∃ (left : Int) (cut : List Int) (x10 : Option DV), cut.length ≤ i ∧ e = [S, HD, some (.int mn), some (.int w), some (.int s), some (.int g), some (rws rs), some (.int ev), some (.int left), some (.own (cut.map .int)), x10]) ?c3 ?c4 ?c5
    case c1 => simp
    case c2 => omega
    case c3 => exact ⟨y5, [], none, Nat.le_refl _, rfl⟩
    case c4 =>
      rintro i e hi ⟨left, cut, x10, hcl, rfl⟩
      have hlt : cut.length < big := by unfold big; omega
      refine ⟨_, by simp; rfl, ?_⟩
      refine wex (I := fun e => ∃ cut' : List Int, cut'.length ≤ i + 1 ∧ e = [S, HD, some (.int mn), some (.int w), some (.int s), some (.int g), some (rws rs), some (.int ev), some (.int left), some (.own (cut'.map .int)), some (.int i)]) ?_ ?_
      · by_cases z : 0 < ev
        · by_cases z2 : left % ev = ev / 2
          · exact ⟨[S, HD, some (.int mn), some (.int w), some (.int s), some (.int g), some (rws rs), some (.int ev), some (.int left), some (.own ((cut ++ [(i : Int)]).map .int)), some (.int i)], by simp [z, z2, mm _ _ z, dd, hlt, S, HD], cut ++ [(i : Int)], by simp; omega, rfl⟩
          · exact ⟨_, by simp [z, z2, mm _ _ z, dd, S, HD], cut, by omega, rfl⟩
        · exact ⟨_, by simp [z, S, HD], cut, by omega, rfl⟩
      · rintro _ ⟨cut', hc', rfl⟩
        exact wnx (e := [S, HD, some (.int mn), some (.int w), some (.int s), some (.int g), some (rws rs), some (.int ev), some (.int (left / 8)), some (.own (cut'.map .int)), some (.int i)]) (by simp [dd, S, HD]) ⟨left / 8, cut', some (.int i), hc', rfl⟩
    case c5 =>
      rintro _ ⟨left, cut, x10, hcl, rfl⟩
      refine wex (I := fun e => ∃ (cut' : List Int), e = [S, HD, some (.int mn), some (.int w), some (.int s), some (.int g), some (rws rs), some (.int ev), some (.int left), some (.own (cut'.map .int)), x10]) ?_ ?_
      · by_cases z : y4 % 8 = 1
        · by_cases z2 : 0 < w
          · exact ⟨_, by simp [k4, k5, mm, mm _ (w : Int) (by omega), z, z2, show 1 ≤ big by decide, S, HD], [y5 % (w : Int)], rfl⟩
          · have z3 : w = 0 := by omega
            exact ⟨_, by simp [k4, mm, z, z3, S, HD], cut, rfl⟩
        · exact ⟨_, by simp [k4, mm, z, S, HD], cut, rfl⟩
      · rintro _ ⟨cut', rfl⟩
        refine wret (d := .tup [.int mn, rws rs, en s g, wy cut']) (by simp [show 4 ≤ big by decide, show 2 ≤ big by decide]) ⟨mn, rs, s, g, cut', ⟨hm2, hm21, by omega, hrok, h01.1, h01.2, h02.1, h02.2, fun z => f0 z.symm⟩, rfl⟩)
  exact ⟨m, rs, s, g, cut, h2, h1⟩

theorem sm_long {n : Int} (h : n.natAbs < 10 ^ 240) : Sm n := Nat.lt_trans h (by decide +kernel)
def LIM : Int := 10 ^ 64 * 10 ^ 64 * 10 ^ 64 * 10 ^ 6
theorem lim_big : 1000000000000000000000000000000 ≤ LIM := by unfold LIM; decide +kernel
theorem lim_sm : (9000 * LIM).natAbs < 10 ^ 240 := by unfold LIM; decide +kernel
theorem long_pow : (op2 mulD (op2 mulD (op2 mulD (op2 powD (cst (.int 10)) (cst (.int 64))) (op2 powD (cst (.int 10)) (cst (.int 64)))) (op2 powD (cst (.int 10)) (cst (.int 64)))) (op2 powD (cst (.int 10)) (cst (.int 6)))) = fun _ => .ok (.int LIM) := by
  have p64 : powD (.int 10) (.int 64) = some (.int (10 ^ 64)) := by rw [pow_int (by decide)]; rfl
  have p6 : powD (.int 10) (.int 6) = some (.int (10 ^ 6)) := by rw [pow_int (by decide)]; rfl
  have e1 : mulD (.int (10 ^ 64)) (.int (10 ^ 64)) = some (.int (10 ^ 64 * 10 ^ 64)) := mul_sm (by unfold Sm; decide +kernel) (by unfold Sm; decide +kernel)
  have e2 : mulD (.int (10 ^ 64 * 10 ^ 64)) (.int (10 ^ 64)) = some (.int (10 ^ 64 * 10 ^ 64 * 10 ^ 64)) := mul_sm (by unfold Sm; decide +kernel) (by unfold Sm; decide +kernel)
  have e3 : mulD (.int (10 ^ 64 * 10 ^ 64 * 10 ^ 64)) (.int (10 ^ 6)) = some (.int (10 ^ 64 * 10 ^ 64 * 10 ^ 64 * 10 ^ 6)) := mul_sm (by unfold Sm; decide +kernel) (by unfold Sm; decide +kernel)
  funext env
  simp only [op2_app, cst_app, bind_ok, p64, p6, e1, e2, e3, lift_some, LIM]
theorem long_spec {xs : List Int} (hx : ∀ x ∈ xs, Dr x) (hl : xs.length ≤ 9) : ∃ r : Int, (0 ≤ r ∧ r < LIM) ∧ h__law_long [.lst (xs.map .int)] = .ok (.int r) := by
  have eM := long_pow
  have hM : 0 < LIM := by have := lim_big; omega
  obtain ⟨d, h1, r, hr, rfl⟩ := wfn (n := 1) (m := 2) (G := G__law_long) (ds := [.lst (xs.map .int)]) (T := fun d => ∃ r : Int, (0 ≤ r ∧ r < LIM) ∧ d = .int r) rfl (by
    simp only [List.map_cons, List.map_nil, List.replicate, List.cons_append, List.nil_append]
    unfold G__law_long
    rw [eM]
    refine wst (e := [some (.lst (xs.map .int)), some (.int 0), none]) (by simp) ?_
    refine wseq ?_
    refine wfor (xs.map .int) (by simp) (fun i e => ∃ (n : Int) (x2 : Option DV), 0 ≤ n ∧ n < (10 ^ 24) ^ i ∧ e = [some (.lst (xs.map .int)), some (.int n), x2]) ⟨0, none, Int.le_refl _, by simp, rfl⟩ ?_ ?_
    · rintro i d e hd ⟨n, x2, n0, n1, rfl⟩
      have hi := (List.getElem?_eq_some_iff.mp hd).1
      rw [List.length_map] at hi
      obtain ⟨x, hxm, rfl⟩ := List.mem_map.mp (List.mem_of_getElem? hd)
      have dx := hx x hxm
      have m24 : ∀ x, modD (.int x) (.int 1000000000000000000000000) = some (.int (x % 1000000000000000000000000)) := fun x => mod_pos (by decide)
      have hn : Sm n := by
        refine sm_long (Nat.lt_of_lt_of_le (?_ : n.natAbs < (10 ^ 24) ^ i) ?_)
        · have e : ((n.natAbs : Nat) : Int) < (((10 ^ 24) ^ i : Nat) : Int) := by
            rw [Int.natAbs_of_nonneg n0]
            rw [Int.natCast_pow, show ((10 ^ 24 : Nat) : Int) = 10 ^ 24 by decide +kernel]
            exact n1
          exact Int.ofNat_lt.mp e
        · calc (10 ^ 24) ^ i ≤ (10 ^ 24) ^ 9 := Nat.pow_le_pow_right (by decide) (by omega)
            _ ≤ 10 ^ 240 := by decide +kernel
      have q := mul_sm hn (b := 1000000000000000000000000) (by unfold Sm; decide +kernel)
      refine ⟨_, by simp; rfl, wnx (e := [some (.lst (xs.map .int)), some (.int (n * 1000000000000000000000000 + x % 1000000000000000000000000)), some (.int x)]) (by simp [p24, q, m24]) ⟨_, _, ?_, ?_, rfl⟩⟩
      · have := Int.mul_nonneg n0 (show (0 : Int) ≤ 1000000000000000000000000 by decide)
        omega
      · have e24 : (10 : Int) ^ 24 = 1000000000000000000000000 := by decide +kernel
        rw [Int.pow_succ, e24]
        rw [e24] at n1
        have : (n + 1) * 1000000000000000000000000 ≤ 1000000000000000000000000 ^ i * 1000000000000000000000000 := Int.mul_le_mul_of_nonneg_right (by omega) (by decide)
        omega
    · rintro e ⟨n, x2, n0, n1, rfl⟩
      exact wret (d := .int (n % LIM)) (by simp [mod_pos hM]) ⟨_, ⟨Int.emod_nonneg _ (by omega), Int.emod_lt_of_pos _ hM⟩, rfl⟩)
  exact ⟨r, hr, h1⟩

end K23
end
section
set_option maxHeartbeats 2000000
namespace K23
open PySem DL
/-! the two looks at a bound -/
def nt (hs : List Int) (i : Int) : Int := hs.getD i.toNat 0
def numI : DV → Int
  | .int a => a
  | _ => 0
def intsD : DV → List Int
  | .tup ds => ds.map numI
  | _ => []
theorem ints_tup (ns : List Int) : intsD (.tup (ns.map .int)) = ns := by
  show (ns.map DV.int).map numI = ns
  rw [List.map_map]
  exact List.map_id ns
theorem at_nt {hs : List Int} {i : Int} (h0 : 0 ≤ i) (h1 : i < hs.length) : L2.atI (hs.map DV.int) i = some (.int (nt hs i)) := by
  have hi : i.toNat < hs.length := by omega
  rw [atI_pos _ h0, List.getElem?_map, List.getElem?_eq_getElem hi]
  show some (DV.int hs[i.toNat]) = some (.int (hs.getD i.toNat 0))
  rw [List.getD_eq_getElem?_getD, List.getElem?_eq_getElem hi]
  rfl
def leftL (n : Nat) (cut : List Int) : List Nat := (List.range n).filter fun (k : Nat) => !decide ((k : Int) ∈ cut)
theorem leftL_all (n : Nat) (cut : List Int) (p : Nat → Bool) : (leftL n cut).all p = (List.range n).all fun k => decide ((k : Int) ∈ cut) || p k := by
  unfold leftL
  rw [List.all_filter]
  congr 1
  funext k
  cases decide ((k : Int) ∈ cut) <;> rfl
theorem la (m : Nat) (rs : List Row) : List.lookup ("arrows" : Str) (netF m rs) = some (arr rs) := by kernel_rfl
theorem lp (m : Nat) (rs : List Row) : List.lookup ("places" : Str) (netF m rs) = some (plc m) := by kernel_rfl
theorem lt (m : Nat) (rs : List Row) : List.lookup ("tails" : Str) (netF m rs) = some (.tup (rs.map fun x => .int x.t)) := by kernel_rfl
theorem lh (m : Nat) (rs : List Row) : List.lookup ("heads" : Str) (netF m rs) = some (.tup (rs.map fun x => .int x.f)) := by kernel_rfl
theorem ll (m : Nat) (rs : List Row) : List.lookup ("left" : Str) (netF m rs) = none := by kernel_rfl
theorem cA : cs_arrows "Net" = true := by decide
theorem cP : cs_places "Net" = true := by decide
theorem cT : cs_tails "Net" = true := by decide
theorem cH : cs_heads "Net" = true := by decide
theorem frz_nats (l : List Nat) : (l.map fun (k : Nat) => DV.int (k : Int)).all isFrz = true := by induction l <;> simp_all
theorem left_spec (m : Nat) {rs : List Row} (hl : rs.length < 33) (cut : List Int) : h_Net_left [netI m rs, wy cut] = .ok (.tup ((leftL rs.length cut).map fun (k : Nat) => .int (k : Int))) := by
  unfold h_Net_left
  refine wfn' rfl ?_
  simp only [List.map_cons, List.map_nil, List.replicate, List.cons_append, List.nil_append]
  unfold G_Net_left
  refine wret (d := .tup ((leftL rs.length cut).map fun (k : Nat) => .int (k : Int))) ?_ rfl
  have r0 : rgS1 (opN (one lenD) (consL (fldV "arrows" cs_arrows ce_arrows (var 0)) nilL)) [some (netI m rs), some (wy cut), none] = .ok (rngL 0 rs.length) := rg1_ok (by simp [la, cA, arr]) (by omega)
  rw [opN_app, consL_app, lcV_app, r0]
  simp only [bind_ok, rngL_len]
  rw [if_pos (by unfold big; omega)]
  rw [lc_rngF (f := fun (k : Nat) => .int (k : Int)) (p := fun (k : Nat) => !decide ((k : Int) ∈ cut)) rs.length fun i hi => ⟨_, rfl, by simp, fun _ => by simp⟩]
  simp only [nilL_app, bind_ok, one_app, tup_own]
  have e : ((List.range rs.length).filter fun (k : Nat) => !decide ((k : Int) ∈ cut)) = leftL rs.length cut := rfl
  rw [e, frz_nats, if_pos rfl]
  rfl
/-- heights -/
def okH (rs : List Row) (ws hs : List Int) (k : Nat) : Bool := match rs[k]? with
  | some x => decide (nt hs x.f ≤ nt hs x.t + nt ws k)
  | none => true
def htB (rs : List Row) (ws : List Int) (s g : Int) (cut : List Int) (m : Nat) (w : Int) (d : DV) : Bool :=
  whB m d && (decide (nt (intsD d) s = 0) && (decide (nt (intsD d) g = w) && (List.range rs.length).all fun k => decide ((k : Int) ∈ cut) || okH rs ws (intsD d) k))
structure Wd (m : Nat) (rs : List Row) (s g : Int) (ws : List Int) : Prop where
  m1 : m < 21
  l : rs.length < 33
  ok : ∀ x ∈ rs, RowOk m x
  s0 : 0 ≤ s
  s1 : s < m
  g0 : 0 ≤ g
  g1 : g < m
  lw : ws.length = rs.length
theorem whB_ints {m : Nat} {d : DV} (h : whB m d = true) : ∃ hs : List Int, hs.length = m ∧ d = .tup (hs.map .int) := by
  cases d with
  | tup ds =>
    have h : (decide (ds.length = m) && allI ds) = true := h
    rw [Bool.and_eq_true] at h
    obtain ⟨hs, rfl⟩ := allI_ints h.2
    exact ⟨hs, by have := of_decide_eq_true h.1; rwa [List.length_map] at this, rfl⟩
  | _ => cases h
theorem plc_len (m : Nat) : lenD (plc m) = some (.int (m : Int)) := by
  show some (DV.int (((List.range m).map fun k => DV.str (pnm k)).length : Int)) = _
  rw [List.length_map, List.length_range]
theorem shows_heights_spec {m : Nat} {rs : List Row} {s g : Int} {ws cut : List Int} (W : Wd m rs s g ws) {c : DV} (hc : c = .lst (ws.map .int) ∨ c = .tup (ws.map .int)) {d : DV} (hd : V1 d) (w : Int) :
    h_shows_heights [netI m rs, c, .int s, .int g, wy cut, d, .int w] = .ok (.bl (htB rs ws s g cut m w d)) := by
  have hwh := is_wholes_spec hd m
  have hix : ∀ i, ixD c (.int i) = L2.atI (ws.map .int) i := fun i => by rcases hc with rfl | rfl <;> rfl
  unfold h_shows_heights
  refine wfn' rfl ?_
  simp only [List.map_cons, List.map_nil, List.replicate, List.cons_append, List.nil_append]
  unfold G_shows_heights
  cases hb : whB m d with
  | false =>
    have : htB rs ws s g cut m w d = false := by unfold htB; rw [hb]; rfl
    refine wseq ?_
    exact wifT (by simp [lp, cP, plc_len, el_frz hd.1, el_freeze hd.1, hwh, hb]) (wret (d := .bl false) rfl (by rw [this]))
  | true =>
    obtain ⟨hs, hl, rfl⟩ := whB_ints hb
    have as := at_nt W.s0 (by rw [hl]; exact W.s1)
    have ag := at_nt W.g0 (by rw [hl]; exact W.g1)
    let E : Option DV → Slots := fun x7 => [some (netI m rs), some c, some (.int s), some (.int g), some (wy cut), some (wy hs), some (.int w), x7]
    have hv : htB rs ws s g cut m w (wy hs) = (decide (nt hs s = 0) && (decide (nt hs g = w) && (leftL rs.length cut).all (okH rs ws hs))) := by
      unfold htB; rw [hb, ints_tup, leftL_all]; rfl
    by_cases z1 : nt hs s = 0
    · by_cases z2 : nt hs g = w
      · rw [hv, decide_eq_true z1, decide_eq_true z2, Bool.true_and, Bool.true_and]
        refine wst (e := E none) (by simp [E, lp, cP, plc_len, hwh, hb, as, ag, z1, z2]) ?_
        refine wseq ?_
        refine wfor ((leftL rs.length cut).map fun (k : Nat) => .int (k : Int)) ?a (fun i e => ∃ x7, ((leftL rs.length cut).drop i).all (okH rs ws hs) = (leftL rs.length cut).all (okH rs ws hs) ∧ e = E x7) ⟨none, rfl, rfl⟩ ?b ?c
        case a => simp [E, ll, left_spec m W.l]
        case b =>
          rintro i x e hx ⟨x7, h2, rfl⟩
          rw [List.getElem?_map] at hx
          cases hk : (leftL rs.length cut)[i]? with
          | none => rw [hk] at hx; cases hx
          | some k =>
            rw [hk] at hx
            cases hx
            have hk2 : k < rs.length := List.mem_range.mp (List.mem_filter.mp (List.mem_of_getElem? hk)).1
            rw [drop_at hk, List.all_cons] at h2
            have hr : rs[k]? = some rs[k] := List.getElem?_eq_getElem hk2
            have ok := W.ok _ (List.getElem_mem hk2)
            generalize rs[k] = r at hr ok
            have af := at_nt ok.f0 (by rw [hl]; exact ok.f1)
            have at' := at_nt ok.t0 (by rw [hl]; exact ok.t1)
            have aw := at_nt (hs := ws) (i := (k : Int)) (by omega) (by rw [W.lw]; omega)
            have ah : (rs.map fun x => DV.int x.f)[k]? = some (.int r.f) := by rw [List.getElem?_map, hr]; rfl
            have ae : (rs.map fun x => DV.int x.t)[k]? = some (.int r.t) := by rw [List.getElem?_map, hr]; rfl
            have hp : okH rs ws hs k = decide (nt hs r.f ≤ nt hs r.t + nt ws k) := by unfold okH; rw [hr]
            refine ⟨E (some (.int k)), by simp [E], ?_⟩
            have ec : tst (op2 gtD (op2 ixD (var 5) (op2 ixD (fldV "heads" cs_heads ce_heads (var 0)) (var 7))) (op2 addD (op2 ixD (var 5) (op2 ixD (fldV "tails" cs_tails ce_tails (var 0)) (var 7))) (op2 ixD (var 1) (var 7)))) (E (some (.int k))) = .ok (decide (nt hs r.t + nt ws k < nt hs r.f)) := by
              rw [tst_app]
              simp only [op2_app, E, fldV_app, var_app, List.getElem?_cons_succ, List.getElem?_cons_zero, bind_ok, fldD_i, cH, cT, lh, lt, if_true, lift_some, ix_tup, atI_nat, ah, ae, hix]
              rw [← atI_nat, aw]
              simp [af, at']
            by_cases z : nt hs r.f ≤ nt hs r.t + nt ws k
            · rw [hp, decide_eq_true z, Bool.true_and] at h2
              exact wifF (by rw [ec, decide_eq_false (by omega)]) (wnxS ⟨_, h2, rfl⟩)
            · rw [hp, decide_eq_false z, Bool.false_and] at h2
              exact wifT (by rw [ec, decide_eq_true (by omega)]) (wret (d := .bl false) rfl (by rw [← h2]))
        case c =>
          rintro e ⟨x7, h2, rfl⟩
          rw [List.length_map, List.drop_length] at h2
          exact wret (d := .bl true) (by simp) (by rw [← h2]; rfl)
      · rw [hv, decide_eq_false z2, Bool.false_and, Bool.and_false]
        refine wseq ?_
        exact wifT (by simp [lp, cP, plc_len, hwh, hb, as, ag, z1, z2]) (wret (d := .bl false) rfl rfl)
    · rw [hv, decide_eq_false z1, Bool.false_and]
      refine wseq ?_
      exact wifT (by simp [lp, cP, plc_len, hwh, hb, as, z1]) (wret (d := .bl false) rfl rfl)

end K23
end
section
set_option maxHeartbeats 2000000
namespace K23
open PySem DL
/-! closed sides -/
def okC (rs : List Row) (ns : List Int) (k : Nat) : Bool := match rs[k]? with
  | some x => !(decide (x.t ∈ ns) && !decide (x.f ∈ ns))
  | none => true
def clB (rs : List Row) (s g : Int) (cut : List Int) (m : Nat) (d : DV) : Bool :=
  lotB m d && (decide (s ∈ intsD d) && (!decide (g ∈ intsD d) && (List.range rs.length).all fun (k : Nat) => decide ((k : Int) ∈ cut) || okC rs (intsD d) k))
theorem lotB_ints {size : Int} {d : DV} (h : lotB size d = true) : ∃ ns : List Int, d = .tup (ns.map .int) := by
  cases d with
  | tup ds => obtain ⟨ns, rfl⟩ := lgo_ints (show lgo size 0 ds = true from h); exact ⟨ns, rfl⟩
  | _ => cases h
theorem shows_closed_spec {m : Nat} {rs : List Row} {s g : Int} {ws cut : List Int} (W : Wd m rs s g ws) {d : DV} (hd : V1 d) :
    h_shows_closed [netI m rs, .int s, .int g, wy cut, d] = .ok (.bl (clB rs s g cut m d)) := by
  have hwh := is_lot_spec hd m
  unfold h_shows_closed
  refine wfn' rfl ?_
  simp only [List.map_cons, List.map_nil, List.replicate, List.cons_append, List.nil_append]
  unfold G_shows_closed
  cases hb : lotB m d with
  | false =>
    have : clB rs s g cut m d = false := by unfold clB; rw [hb]; rfl
    refine wseq ?_
    exact wifT (by simp [lp, cP, plc_len, el_frz hd.1, el_freeze hd.1, hwh, hb]) (wret (d := .bl false) rfl (by rw [this]))
  | true =>
    obtain ⟨ns, rfl⟩ := lotB_ints hb
    let E : Option DV → Slots := fun x5 => [some (netI m rs), some (.int s), some (.int g), some (wy cut), some (wy ns), x5]
    have hv : clB rs s g cut m (wy ns) = (decide (s ∈ ns) && (!decide (g ∈ ns) && (leftL rs.length cut).all (okC rs ns))) := by
      unfold clB; rw [hb, ints_tup, leftL_all]; rfl
    by_cases z1 : s ∈ ns
    · by_cases z2 : g ∈ ns
      · rw [hv, decide_eq_true z2, Bool.not_true, Bool.false_and, Bool.and_false]
        refine wseq ?_
        exact wifT (by simp [lp, cP, plc_len, hwh, hb, z1, z2]) (wret (d := .bl false) rfl rfl)
      · rw [hv, decide_eq_true z1, decide_eq_false z2, Bool.not_false, Bool.true_and, Bool.true_and]
        refine wst (e := E none) (by simp [E, lp, cP, plc_len, hwh, hb, z1, z2]) ?_
        refine wseq ?_
        refine wfor ((leftL rs.length cut).map fun (k : Nat) => .int (k : Int)) ?a (fun i e => ∃ x5, ((leftL rs.length cut).drop i).all (okC rs ns) = (leftL rs.length cut).all (okC rs ns) ∧ e = E x5) ⟨none, rfl, rfl⟩ ?b ?c
        case a => simp [E, ll, left_spec m W.l]
        case b =>
          rintro i x e hx ⟨x5, h2, rfl⟩
          rw [List.getElem?_map] at hx
          cases hk : (leftL rs.length cut)[i]? with
          | none => rw [hk] at hx; cases hx
          | some k =>
            rw [hk] at hx
            cases hx
            have hk2 : k < rs.length := List.mem_range.mp (List.mem_filter.mp (List.mem_of_getElem? hk)).1
            rw [drop_at hk, List.all_cons] at h2
            have hr : rs[k]? = some rs[k] := List.getElem?_eq_getElem hk2
            generalize rs[k] = r at hr
            have ah : (rs.map fun x => DV.int x.f)[k]? = some (.int r.f) := by rw [List.getElem?_map, hr]; rfl
            have ae : (rs.map fun x => DV.int x.t)[k]? = some (.int r.t) := by rw [List.getElem?_map, hr]; rfl
            have hp : okC rs ns k = !(decide (r.t ∈ ns) && !decide (r.f ∈ ns)) := by unfold okC; rw [hr]
            refine ⟨E (some (.int k)), by simp [E], ?_⟩
            have e1 : op2 ixD (fldV "tails" cs_tails ce_tails (var 0)) (var 5) (E (some (.int k))) = .ok (.int r.t) := by
              simp only [op2_app, E, fldV_app, var_app, List.getElem?_cons_succ, List.getElem?_cons_zero, bind_ok, fldD_i, cT, lt, if_true, lift_some, ix_tup, atI_nat, ae]
            have e2 : op2 ixD (fldV "heads" cs_heads ce_heads (var 0)) (var 5) (E (some (.int k))) = .ok (.int r.f) := by
              simp only [op2_app, E, fldV_app, var_app, List.getElem?_cons_succ, List.getElem?_cons_zero, bind_ok, fldD_i, cH, lh, if_true, lift_some, ix_tup, atI_nat, ah]
            have ec : andB (tst (op2 inD (op2 ixD (fldV "tails" cs_tails ce_tails (var 0)) (var 5)) (var 4))) (tst (op2 niD (op2 ixD (fldV "heads" cs_heads ce_heads (var 0)) (var 5)) (var 4))) (E (some (.int k))) = .ok (decide (r.t ∈ ns) && !decide (r.f ∈ ns)) := by
              rw [andB_app, tst_app, op2_app, e1, tst_app, op2_app (fa := op2 ixD (fldV "heads" cs_heads ce_heads (var 0)) (var 5)), e2]
              by_cases z : r.t ∈ ns <;> simp [E, z]
            rw [hp] at h2
            cases hq : (decide (r.t ∈ ns) && !decide (r.f ∈ ns)) with
            | false =>
              rw [hq] at h2 ec
              exact wifF ec (wnxS ⟨_, h2, rfl⟩)
            | true =>
              rw [hq] at h2 ec
              exact wifT ec (wret (d := .bl false) rfl (by rw [← h2]; rfl))
        case c =>
          rintro e ⟨x5, h2, rfl⟩
          rw [List.length_map, List.drop_length] at h2
          exact wret (d := .bl true) (by simp) (by rw [← h2]; rfl)
    · rw [hv, decide_eq_false z1, Bool.false_and]
      refine wseq ?_
      exact wifT (by simp [lp, cP, plc_len, hwh, hb, z1]) (wret (d := .bl false) rfl rfl)
/-! the law's own look -/
def isI : DV → Bool
  | .int _ => true
  | _ => false
theorem is_whole_spec {d : DV} (h : El d) : h_is_whole [d] = .ok (.bl (isI d)) := by
  rcases el_cases h with ⟨a, rfl⟩ | ⟨n1, n2⟩
  · exact is_whole_int a
  · rw [is_whole_no n2]
    cases d with
    | int a => exact absurd rfl (n1 a)
    | _ => rfl
theorem allI_filter : ∀ ds : List DV, decide (0 < ((ds.filter fun d => !isI d).map id).length) = !allI ds
  | [] => rfl
  | d :: ds => by
    by_cases z : ∃ a, d = .int a
    · obtain ⟨a, rfl⟩ := z
      exact allI_filter ds
    · have e : isI d = false := by
        cases d with
        | int a => exact absurd ⟨a, rfl⟩ z
        | _ => rfl
      rw [allI_no fun a h => z ⟨a, h⟩]
      simp [e]
theorem rows_ix {rs : List Row} {k : Nat} {r : Row} (hr : rs[k]? = some r) : L2.atI (rs.map Row.dv) (k : Int) = some r.dv := by rw [atI_nat, List.getElem?_map, hr]; rfl
theorem row0 (r : Row) : ixD r.dv (.int 0) = some (.int r.t) := rfl
theorem row1 (r : Row) : ixD r.dv (.int 1) = some (.int r.f) := rfl
theorem heights_are_spec {m : Nat} {rs : List Row} {s g : Int} {ws cut : List Int} (W : Wd m rs s g ws) {d : DV} (hd : V1 d) (w : Int) :
    h__law_heights_are [rws rs, en s g, wy cut, .lst (ws.map .int), .int (m : Int), d, .int w] = .ok (.bl (htB rs ws s g cut m w d)) := by
  have hrow := is_row_spec hd.1 m
  unfold h__law_heights_are
  refine wfn' rfl ?_
  simp only [List.map_cons, List.map_nil, List.replicate, List.cons_append, List.nil_append]
  unfold G__law_heights_are
  rw [same_row, same_whole]
  let E0 : DV → Option DV → Slots := fun d x7 => [some (rws rs), some (en s g), some (wy cut), some (.lst (ws.map .int)), some (.int (m : Int)), some d, some (.int w), x7, none]
  cases hb : rowB m d with
  | false =>
    have : htB rs ws s g cut m w d = false := by
      have : whB m d = false := by
        cases d with
        | tup ds => show (decide (ds.length = m) && allI ds) = false; rw [show decide (ds.length = m) = false from hb]; rfl
        | _ => rfl
      unfold htB; rw [this]; rfl
    refine wseq ?_
    exact wifT (by simp [el_frz hd.1, el_freeze hd.1, hrow, hb]) (wret (d := .bl false) rfl (by rw [this]))
  | true =>
    rcases el_tup hd.1 with ⟨ds, rfl⟩ | ⟨h1, h2⟩
    · have hel := (hd.2 ds rfl).2
      have hlen := (hd.2 ds rfl).1
      have hlc : lcLoop (nameG 8) (notB (tru (callV h_is_whole [] (consL (fz (var 8)) nilL)))) (fz (var 8)) (E0 (.tup ds) none) ds = .ok ((ds.filter fun d => !isI d).map id) := lc_filter ds fun x hx => ⟨_, rfl, by simp [E0, el_frz (hel x hx), el_freeze (hel x hx), is_whole_spec (hel x hx)], fun _ => by simp [E0, el_frz (hel x hx)]⟩
      have hcv : opN (one lenD) (consL (lcV [8] (itS (fz (var 5))) (nameG 8) (notB (tru (callV h_is_whole [] (consL (fz (var 8)) nilL)))) (fz (var 8))) nilL) (E0 (.tup ds) none) = .ok (.int (((ds.filter fun d => !isI d).map id).length : Int)) := by
        have hlc' : lcLoop (nameG 8) (notB (tru (callV h_is_whole [] (consL (fz (var 8)) nilL)))) (fz (var 8)) (wipeD (E0 (.tup ds) none) [8]) ds = .ok ((ds.filter fun d => !isI d).map id) := hlc
        have hit : itS (fz (var 5)) (E0 (.tup ds) none) = .ok ds := by simp [E0]
        rw [opN_app, consL_app, lcV_app, hit]
        simp only [bind_ok]
        rw [if_pos (show ds.length ≤ big by unfold big; omega), hlc']
        rfl
      have ht : tst (op2 gtD (opN (one lenD) (consL (lcV [8] (itS (fz (var 5))) (nameG 8) (notB (tru (callV h_is_whole [] (consL (fz (var 8)) nilL)))) (fz (var 8))) nilL)) (cst (.int 0))) (E0 (.tup ds) none) = .ok (!allI ds) := by
        rw [tst_app, op2_app, hcv]
        simp only [bind_ok, cst_app, gt_int, lift_some]
        rw [← allI_filter ds]
        congr 2
        exact propext ⟨fun h => by omega, fun h => by omega⟩
      have t1 : orB (notB (tru (callV h_is_row [] (consL (fz (var 5)) (consL (fz (var 4)) nilL))))) (tst (op2 gtD (opN (one lenD) (consL (lcV [8] (itS (fz (var 5))) (nameG 8) (notB (tru (callV h_is_whole [] (consL (fz (var 8)) nilL)))) (fz (var 8))) nilL)) (cst (.int 0)))) (E0 (.tup ds) none) = .ok (!allI ds) := by
        rw [orB_app, ht]
        simp [E0, hrow, hb]
      cases ha : allI ds with
      | false =>
        have : htB rs ws s g cut m w (.tup ds) = false := by
          have : whB m (.tup ds) = false := by show (decide (ds.length = m) && allI ds) = false; rw [ha, Bool.and_false]
          unfold htB; rw [this]; rfl
        rw [ha] at t1
        refine wseq ?_
        exact wifT t1 (wret (d := .bl false) rfl (by rw [this]))
      | true =>
        rw [ha] at t1
        obtain ⟨hs, rfl⟩ := allI_ints ha
        have hl : hs.length = m := by have := of_decide_eq_true (show decide ((hs.map DV.int).length = m) = true from hb); rwa [List.length_map] at this
        have hwb : whB m (wy hs) = true := by show (decide ((hs.map DV.int).length = m) && allI (hs.map .int)) = true; rw [ha, Bool.and_true]; exact hb
        have as := at_nt W.s0 (by rw [hl]; exact W.s1)
        have ag := at_nt W.g0 (by rw [hl]; exact W.g1)
        let p : Nat → Bool := fun k => decide ((k : Int) ∈ cut) || okH rs ws hs k
        have hv : htB rs ws s g cut m w (wy hs) = (decide (nt hs s = 0) && (decide (nt hs g = w) && (List.range rs.length).all p)) := by
          unfold htB; rw [hwb, ints_tup]; rfl
        refine wst (e := E0 (wy hs) none) (by rw [ifS_app, show orB _ _ _ = _ from t1]; rfl) ?_
        by_cases z1 : nt hs s = 0
        · by_cases z2 : nt hs g = w
          · rw [hv, decide_eq_true z1, decide_eq_true z2, Bool.true_and, Bool.true_and]
            refine wst (e := E0 (wy hs) none) (by simp [E0, as, ag, z1, z2]) ?_
            refine wseq ?_
            refine wforR rs.length ?a1 ?a2 (fun i e => ∃ x7, ((List.range rs.length).drop i).all p = (List.range rs.length).all p ∧ e = E0 (wy hs) x7) ⟨none, rfl, rfl⟩ ?b ?c
            case a1 => simp [E0]
            case a2 => have := W.l; omega
            case b =>
              rintro k e hk2 ⟨x7, h2, rfl⟩
              rw [drop_at (i := k) (d := k) (by rw [List.getElem?_range hk2]), List.all_cons] at h2
              have hr : rs[k]? = some rs[k] := List.getElem?_eq_getElem hk2
              have ok := W.ok _ (List.getElem_mem hk2)
              generalize rs[k] = r at hr ok
              have af := at_nt ok.f0 (by rw [hl]; exact ok.f1)
              have at' := at_nt ok.t0 (by rw [hl]; exact ok.t1)
              have aw := at_nt (hs := ws) (i := (k : Int)) (by omega) (by rw [W.lw]; omega)
              have hp : p k = (decide ((k : Int) ∈ cut) || decide (nt hs r.f ≤ nt hs r.t + nt ws k)) := by show (decide ((k : Int) ∈ cut) || okH rs ws hs k) = _; unfold okH; rw [hr]
              refine ⟨E0 (wy hs) (some (.int k)), by simp [E0], ?_⟩
              have ec : andB (tst (op2 niD (var 7) (var 2))) (tst (op2 gtD (op2 ixD (var 5) (op2 ixD (op2 ixD (var 0) (var 7)) (cst (.int 1)))) (op2 addD (op2 ixD (var 5) (op2 ixD (op2 ixD (var 0) (var 7)) (cst (.int 0)))) (op2 ixD (var 3) (var 7))))) (E0 (wy hs) (some (.int k))) = .ok (!p k) := by
                rw [hp]
                by_cases z : (k : Int) ∈ cut
                · simp [E0, z]
                · simp [E0, z, rows_ix hr, row0, row1, af, at', aw]
                  by_cases z3 : nt hs r.f ≤ nt hs r.t + nt ws k
                  · rw [decide_eq_true z3, decide_eq_false (by omega)]; rfl
                  · rw [decide_eq_false z3, decide_eq_true (by omega)]; rfl
              cases hq : p k with
              | true =>
                rw [hq] at h2 ec
                exact wifF ec (wnxS ⟨_, h2, rfl⟩)
              | false =>
                rw [hq] at h2 ec
                exact wifT ec (wret (d := .bl false) rfl (by rw [← h2]; rfl))
            case c =>
              rintro e ⟨x7, h2, rfl⟩
              have hd0 : (List.range rs.length).drop rs.length = [] := List.drop_eq_nil_of_le (by rw [List.length_range]; exact Nat.le_refl _)
              rw [hd0] at h2
              exact wret (d := .bl true) (by simp) (by rw [← h2]; rfl)
          · rw [hv, decide_eq_false z2, Bool.false_and, Bool.and_false]
            refine wseq ?_
            exact wifT (by simp [E0, as, ag, z1, z2]) (wret (d := .bl false) rfl rfl)
        · rw [hv, decide_eq_false z1, Bool.false_and]
          refine wseq ?_
          exact wifT (by simp [E0, as, z1]) (wret (d := .bl false) rfl rfl)
    · exfalso
      cases d with
      | tup ds => exact h1 ds rfl
      | _ => cases hb

end K23
end
section
set_option maxHeartbeats 2000000
namespace K23
open PySem DL
/-! the bound as a whole -/
def OW : Option Int → DV
  | none => .non
  | some w => .int w
def bdB (rs : List Row) (ws : List Int) (s g : Int) (cut : List Int) (m : Nat) (b : DV) : Option Int → Bool
  | none => hasW "closed" b && clB rs s g cut m (snd2 b)
  | some w => hasW "heights" b && htB rs ws s g cut m w (snd2 b)
theorem hasW_tup {w : Str} {b : DV} (h : hasW w b = true) : ∃ a x, b = .tup [.str a, x] := by
  unfold hasW at h
  split at h
  · exact ⟨_, _, rfl⟩
  · cases h
theorem okS1 : SeqAt.shaped (.str "closed") = true := by decide +kernel
theorem okS2 : SeqAt.shaped (.str "heights") = true := by decide +kernel
theorem shows_distance_spec {m : Nat} {rs : List Row} {s g : Int} {ws cut : List Int} (W : Wd m rs s g ws) {c : DV} (hc : c = .lst (ws.map .int) ∨ c = .tup (ws.map .int)) {b : DV} (hb : V2 b) (w : Option Int) :
    h_shows_distance [netI m rs, c, .int s, .int g, wy cut, b, OW w] = .ok (.bl (bdB rs ws s g cut m b w)) := by
  have hz : isFrz c = true := by rcases hc with rfl | rfl <;> rfl
  have hfz : freeze c = c := freeze_frz hz
  have h1 := has_word_spec hb okS1
  have h2 := has_word_spec hb okS2
  unfold h_shows_distance
  refine wfn' rfl ?_
  simp only [List.map_cons, List.map_nil, List.replicate, List.cons_append, List.nil_append]
  unfold G_shows_distance
  cases w with
  | none =>
    refine wseq ?_
    refine wifT (by simp [OW]) (wret (d := .bl (bdB rs ws s g cut m b none)) ?_ rfl)
    show _ = DL.R.ok (DV.bl (hasW "closed" b && clB rs s g cut m (snd2 b)))
    cases hw : hasW "closed" b with
    | false => simp [el_frz hb.1, el_freeze hb.1, h1, hw]
    | true =>
      obtain ⟨a, x, rfl⟩ := hasW_tup hw
      have hx := (hb.2 _ rfl).2 x (by simp)
      simp [h1, hw, el_frz hx.1, el_freeze hx.1, shows_closed_spec W hx, snd2]
  | some w =>
    refine wst (e := [some (netI m rs), some c, some (.int s), some (.int g), some (wy cut), some b, some (.int w)]) (by simp [OW]) ?_
    refine wret (d := .bl (bdB rs ws s g cut m b (some w))) ?_ rfl
    show _ = DL.R.ok (DV.bl (hasW "heights" b && htB rs ws s g cut m w (snd2 b)))
    cases hw : hasW "heights" b with
    | false => simp [el_frz hb.1, el_freeze hb.1, h2, hw]
    | true =>
      obtain ⟨a, x, rfl⟩ := hasW_tup hw
      have hx := (hb.2 _ rfl).2 x (by simp)
      simp [h2, hw, el_frz hx.1, el_freeze hx.1, hz, hfz, shows_heights_spec W hc hx, snd2]
theorem side_is_spec {m : Nat} {rs : List Row} {s g : Int} {cut : List Int} {d : DV} (hd : V1 d) :
    h__law_side_is [rws rs, en s g, wy cut, .int (m : Int), d] = .ok (.bl (lotB m d && (decide (s ∈ intsD d) && !decide (g ∈ intsD d)))) := by
  have hl := is_lot_spec hd m
  unfold h__law_side_is
  refine wfn' rfl ?_
  simp only [List.map_cons, List.map_nil, List.replicate, List.cons_append, List.nil_append]
  unfold G__law_side_is
  rw [same_lot]
  refine wret (d := .bl (lotB m d && (decide (s ∈ intsD d) && !decide (g ∈ intsD d)))) ?_ rfl
  cases hb : lotB m d with
  | false => simp [el_frz hd.1, el_freeze hd.1, hl, hb]
  | true =>
    obtain ⟨ns, rfl⟩ := lotB_ints hb
    rw [ints_tup]
    by_cases z : s ∈ ns <;> simp [hl, hb, z]
theorem leaves_spec {m : Nat} {rs : List Row} {s g : Int} {ws cut : List Int} (W : Wd m rs s g ws) (ns : List Int) :
    h__law_leaves [rws rs, wy cut, wy ns] = .ok (.own (((List.range rs.length).filter fun (k : Nat) => !(decide ((k : Int) ∈ cut) || okC rs ns k)).map fun (k : Nat) => .int (k : Int))) := by
  unfold h__law_leaves
  refine wfn' rfl ?_
  simp only [List.map_cons, List.map_nil, List.replicate, List.cons_append, List.nil_append]
  unfold G__law_leaves
  refine wret (d := .own (((List.range rs.length).filter fun (k : Nat) => !(decide ((k : Int) ∈ cut) || okC rs ns k)).map fun (k : Nat) => .int (k : Int))) ?_ rfl
  have r0 : rgS1 (opN (one lenD) (consL (var 0) nilL)) [some (rws rs), some (wy cut), some (wy ns), none] = .ok (rngL 0 rs.length) := rg1_ok (by simp) (by have := W.l; omega)
  rw [lcV_app, r0]
  simp only [bind_ok, rngL_len]
  rw [if_pos (by have := W.l; unfold big; omega)]
  rw [lc_rngF (f := fun (k : Nat) => .int (k : Int)) (p := fun (k : Nat) => !(decide ((k : Int) ∈ cut) || okC rs ns k)) rs.length fun k hk => ⟨_, rfl, ?_, fun _ => by simp⟩]
  have hr : rs[k]? = some rs[k] := List.getElem?_eq_getElem hk
  generalize rs[k] = r at hr
  have hp : okC rs ns k = !(decide (r.t ∈ ns) && !decide (r.f ∈ ns)) := by unfold okC; rw [hr]
  by_cases z1 : (k : Int) ∈ cut
  · simp [z1]
  · rw [hp]
    by_cases z2 : r.t ∈ ns <;> by_cases z3 : r.f ∈ ns <;> simp [rows_ix hr, row0, row1, z1, z2, z3]
theorem filter0 {α : Type} (p : α → Bool) (f : α → DV) : ∀ l : List α, decide ((((l.filter fun k => !p k).map f).length : Int) = 0) = l.all p
  | [] => rfl
  | a :: l => by
    have ih := filter0 p f l
    cases h : p a with
    | true => simpa [List.filter_cons, h] using ih
    | false =>
      simp [List.filter_cons, h]
      omega
theorem is_bound_spec {m : Nat} {rs : List Row} {s g : Int} {ws cut : List Int} (W : Wd m rs s g ws) {b : DV} (hb : V2 b) (w : Option Int) :
    h__law_is_bound [rws rs, en s g, wy cut, .lst (ws.map .int), .int (m : Int), b, OW w] = .ok (.bl (bdB rs ws s g cut m b w)) := by
  have h1 := has_word_spec hb okS1
  have h2 := has_word_spec hb okS2
  unfold h__law_is_bound
  refine wfn' rfl ?_
  simp only [List.map_cons, List.map_nil, List.replicate, List.cons_append, List.nil_append]
  unfold G__law_is_bound
  rw [same_word]
  cases w with
  | none =>
    refine wseq ?_
    refine wifT (by simp [OW]) ?_
    cases hw : hasW "closed" b with
    | false =>
      have e : bdB rs ws s g cut m b none = false := by show (hasW "closed" b && _) = false; rw [hw]; rfl
      refine wseq ?_
      exact wifT (by simp [el_frz hb.1, el_freeze hb.1, h1, hw]) (wret (d := .bl false) rfl (by rw [e]))
    | true =>
      obtain ⟨a, x, rfl⟩ := hasW_tup hw
      have hx := (hb.2 _ rfl).2 x (by simp)
      have sd := side_is_spec (m := m) (rs := rs) (s := s) (g := g) (cut := cut) hx
      have e : bdB rs ws s g cut m (.tup [.str a, x]) none = clB rs s g cut m x := by show (hasW "closed" _ && _) = _; rw [hw]; rfl
      rw [e]
      cases hl : (lotB m x && (decide (s ∈ intsD x) && !decide (g ∈ intsD x))) with
      | false =>
        rw [hl] at sd
        have e2 : clB rs s g cut m x = false := by
          unfold clB
          rw [← Bool.and_assoc, ← Bool.and_assoc, Bool.and_assoc (lotB m x), hl]; rfl
        refine wseq ?_
        exact wifT (by simp [h1, hw, el_frz hx.1, el_freeze hx.1, sd]) (wret (d := .bl false) rfl (by rw [e2]))
      | true =>
        rw [hl] at sd
        have e2 : clB rs s g cut m x = (List.range rs.length).all fun (k : Nat) => decide ((k : Int) ∈ cut) || okC rs (intsD x) k := by
          unfold clB
          rw [← Bool.and_assoc, ← Bool.and_assoc, Bool.and_assoc (lotB m x), hl, Bool.true_and]
        have hl' : lotB m x = true := by
          rw [Bool.and_eq_true] at hl
          exact hl.1
        obtain ⟨ns, rfl⟩ := lotB_ints hl'
        rw [ints_tup] at e2
        rw [e2]
        refine wst (e := [some (rws rs), some (en s g), some (wy cut), some (.lst (ws.map .int)), some (.int (m : Int)), some (.tup [.str a, wy ns]), some (OW none)]) (by simp [h1, hw, sd]) ?_
        refine wret (d := .bl ((List.range rs.length).all fun (k : Nat) => decide ((k : Int) ∈ cut) || okC rs ns k)) ?_ rfl
        have lv := leaves_spec (cut := cut) W ns
        rw [← filter0 (f := fun (k : Nat) => DV.int (k : Int))]
        simp [lv]
  | some w =>
    refine wst (e := [some (rws rs), some (en s g), some (wy cut), some (.lst (ws.map .int)), some (.int (m : Int)), some b, some (.int w)]) (by simp [OW]) ?_
    refine wret (d := .bl (bdB rs ws s g cut m b (some w))) ?_ rfl
    show _ = DL.R.ok (DV.bl (hasW "heights" b && htB rs ws s g cut m w (snd2 b)))
    cases hw : hasW "heights" b with
    | false => simp [el_frz hb.1, el_freeze hb.1, h2, hw]
    | true =>
      obtain ⟨a, x, rfl⟩ := hasW_tup hw
      have hx := (hb.2 _ rfl).2 x (by simp)
      simp [h2, hw, el_frz hx.1, el_freeze hx.1, heights_are_spec W hx, snd2]
abbrev wld (m : Nat) (rs : List Row) (s g : Int) (cut ws : List Int) : DV := .tup [.int (m : Int), rws rs, en s g, wy cut, .lst (ws.map .int)]
theorem says_spec {m : Nat} {rs : List Row} {s g : Int} {ws cut : List Int} (W : Wd m rs s g ws) {c : DV} (hc : c = .lst (ws.map .int) ∨ c = .tup (ws.map .int)) {b : DV} (hb : V2 b) (w : Option Int) :
    h__law_says [netI m rs, wld m rs s g cut ws, c, b, OW w] = .ok (.bl true) := by
  have hz : isFrz c = true := by rcases hc with rfl | rfl <;> rfl
  have hfz : freeze c = c := freeze_frz hz
  have hw : isFrz (OW w) = true := by cases w <;> rfl
  have hwf : freeze (OW w) = OW w := freeze_frz hw
  have h1 := shows_distance_spec (cut := cut) W hc hb w
  have h2 := is_bound_spec (cut := cut) W hb w
  unfold h__law_says fnR G__law_says
  simp [hz, hfz, hw, hwf, el_frz hb.1, el_freeze hb.1, h1, h2, show ∀ b, ans_bool (.bl b) = some true from fun b => rfl, DL.fin]

end K23
end
section
set_option maxHeartbeats 2000000
namespace K23
open PySem DL
/-! distances -/
theorem bd_mono {c c' : Nat} {v : Int} (h : 0 ≤ v ∧ v ≤ (c : Int) * LIM) (hc : c ≤ c') : 0 ≤ v ∧ v ≤ (c' : Int) * LIM := by
  have l := lim_big
  have := Int.mul_le_mul_of_nonneg_right (show (c : Int) ≤ (c' : Int) by omega) (show 0 ≤ LIM by omega)
  exact ⟨h.1, by omega⟩
theorem bd_add {c : Nat} {v w : Int} (h : 0 ≤ v ∧ v ≤ (c : Int) * LIM) (hw : 0 ≤ w ∧ w < LIM) : 0 ≤ v + w ∧ v + w ≤ ((c + 1 : Nat) : Int) * LIM := by
  have e : ((c + 1 : Nat) : Int) * LIM = (c : Int) * LIM + LIM := by rw [show ((c + 1 : Nat) : Int) = (c : Int) + 1 by omega, Int.add_mul, Int.one_mul]
  rw [e]
  omega
def FOk (m : Nat) (s : Int) (c : Nat) (F : List (Option Int)) : Prop := F.length = m ∧ (∀ o ∈ F, ∀ v, o = some v → 0 ≤ v ∧ v ≤ (c : Int) * LIM) ∧ ∃ v, F[s.toNat]? = some (some v)
theorem fok_mono {m : Nat} {s : Int} {c c' : Nat} {F : List (Option Int)} (h : FOk m s c F) (hc : c ≤ c') : FOk m s c' F := ⟨h.1, fun o ho v e => bd_mono (h.2.1 o ho v e) hc, h.2.2⟩
theorem fok_set {m : Nat} {s t : Int} {c : Nat} {F : List (Option Int)} {v : Int} (h : FOk m s c F) (hv : 0 ≤ v ∧ v ≤ (c : Int) * LIM) : FOk m s c (F.set t.toNat (some v)) := by
  refine ⟨by rw [List.length_set]; exact h.1, fun o ho u e => ?_, ?_⟩
  · rcases List.mem_or_eq_of_mem_set ho with z | z
    · exact h.2.1 o z u e
    · rw [e] at z; cases z; exact hv
  · obtain ⟨u, hu⟩ := h.2.2
    by_cases z : t.toNat = s.toNat
    · exact ⟨v, by rw [z, List.getElem?_set_self (List.getElem?_eq_some_iff.mp hu).1]⟩
    · exact ⟨u, by rw [List.getElem?_set_ne z]; exact hu⟩
theorem at_OW {m : Nat} {s : Int} {c : Nat} {F : List (Option Int)} (h : FOk m s c F) {t : Int} (h0 : 0 ≤ t) (h1 : t < (m : Int)) : ∃ o, o ∈ F ∧ F[t.toNat]? = some o ∧ L2.atI (F.map OW) t = some (OW o) := by
  have hi : t.toNat < F.length := by rw [h.1]; omega
  exact ⟨F[t.toNat], List.getElem_mem hi, List.getElem?_eq_getElem hi, by rw [atI_pos _ h0, List.getElem?_map, List.getElem?_eq_getElem hi]; rfl⟩
theorem ixN_pos {n : Nat} {t : Int} (h0 : 0 ≤ t) (h1 : t < (n : Int)) : L2.ixN n t = some t.toNat := by
  unfold L2.ixN
  rw [if_pos (by omega), if_pos (by omega)]
theorem map_set_OW (F : List (Option Int)) (i : Nat) (v : Int) : (F.map OW).set i (.int v) = (F.set i (some v)).map OW := by rw [List.map_set]; rfl
theorem OW_some (v : Int) : OW (some v) = .int v := rfl
theorem isN_OW (o : Option Int) : isNon (OW o) = !o.isSome := by cases o <;> rfl
theorem frz_OW (o : Option Int) : isFrz (OW o) = true := by cases o <;> rfl
theorem freeze_OW (o : Option Int) : freeze (OW o) = OW o := freeze_frz (frz_OW o)
/-- the rows of a net, or these turned about: tails and fronts -/
def PsOk (m : Nat) (xs : List DV) : Prop := ∀ k, k < xs.length → ∃ x t f, L2.atI xs (k : Int) = some x ∧ ixD x (.int 0) = some (.int t) ∧ ixD x (.int 1) = some (.int f) ∧ 0 ≤ t ∧ t < (m : Int) ∧ 0 ≤ f ∧ f < (m : Int)
theorem set_ix {env : Slots} {i : Nat} {fi fe : Slots → DL.R DV} {ds : List DV} {k : Int} {j : Nat} {d : DV} (h : (env[i]? : Option (Option DV)) = some (some (.own ds))) (h1 : fi env = .ok (.int k)) (h2 : fe env = .ok d) (h3 : L2.ixN ds.length k = some j) : setIxS i lId fi fe env = .nx (env.set i (some (.own (ds.set j d)))) := by
  rw [setIxS_app, h2, h]
  simp only [h1, h3]
theorem far_spec {m n : Nat} {xs : List DV} {ws cut : List Int} {s : Int} (hm : m < 21) (hn : xs.length = n) (hn2 : n < 33) (hp : PsOk m xs) (hl : ws.length = n) (hw : ∀ w ∈ ws, 0 ≤ w ∧ w < LIM) (s0 : 0 ≤ s) (s1 : s < (m : Int)) :
    ∃ F, FOk m s 700 F ∧ h__law_far [.lst xs, .lst (ws.map .int), .int s, wy cut, .int (m : Int)] = .ok (.own (F.map OW)) := by
  let E : List (Option Int) → Option DV → Option DV → Option DV → Option DV → Slots := fun F x6 x7 x9 x10 => [some (.lst xs), some (.lst (ws.map .int)), some (.int s), some (wy cut), some (.int (m : Int)), some (.own (F.map OW)), x6, x7, none, x9, x10]
  obtain ⟨d, h1, F, hF, rfl⟩ := wfn (n := 5) (m := 6) (G := G__law_far) (ds := [.lst xs, .lst (ws.map .int), .int s, wy cut, .int (m : Int)]) (T := fun d => ∃ F, FOk m s 700 F ∧ d = .own (F.map OW)) rfl (by
    simp only [List.map_cons, List.map_nil, List.replicate, List.cons_append, List.nil_append]
    unfold G__law_far
    have c0 : lcV [8] (rgS1 (var 4)) (nameG 8) yesT (cst .non) [some (.lst xs), some (.lst (ws.map .int)), some (.int s), some (wy cut), some (.int (m : Int)), none, none, none, none, none, none] = .ok (.own ((List.replicate m none).map OW)) := by
      have r0 : rgS1 (var 4) [some (.lst xs), some (.lst (ws.map .int)), some (.int s), some (wy cut), some (.int (m : Int)), none, none, none, none, none, none] = .ok (rngL 0 m) := rg1_ok rfl (by omega)
      rw [lcV_app, r0]
      simp only [bind_ok, rngL_len]
      rw [if_pos (by unfold big; omega), lc_rng (f := fun _ => .non) m fun i hi => ⟨_, rfl, rfl⟩]
      congr 2
      rw [List.map_replicate, List.map_const', List.length_range]
      rfl
    refine wst (e := E (List.replicate m none) none none none none) (by rw [setS_app, c0]; rfl) ?_
    have hst := set_ix (env := E (List.replicate m none) none none none none) (i := 5) (fi := var 2) (fe := cst (.int 0)) (ds := (List.replicate m none).map OW) (k := s) (j := s.toNat) (d := .int 0) rfl rfl rfl (by rw [List.length_map, List.length_replicate]; exact ixN_pos s0 s1)
    rw [map_set_OW] at hst
    refine wst (e := E ((List.replicate m none).set s.toNat (some 0)) none none none none) (hst.trans rfl) ?_
    refine wseq ?_
    refine wforR m rfl (by omega) (fun t e => ∃ F x6 x7 x9 x10, FOk m s (t * 33) F ∧ e = E F x6 x7 x9 x10) ⟨_, none, none, none, none, ?_, rfl⟩ ?a ?b
    · refine ⟨by rw [List.length_set, List.length_replicate], fun o ho v e => ?_, 0, ?_⟩
      · rcases List.mem_or_eq_of_mem_set ho with z | z
        · rw [(List.mem_replicate.mp z).2] at e; cases e
        · rw [z] at e; cases e; simp
      · exact List.getElem?_set_self (by rw [List.length_replicate]; omega)
    case a =>
      rintro t e ht ⟨F, x6, x7, x9, x10, hF, rfl⟩
      refine ⟨E F (some (.int t)) x7 x9 x10, by simp [E], ?_⟩
      refine wforR n (by simp [E, hn]) (by omega) (fun k e => ∃ F x7 x9 x10, FOk m s (t * 33 + k) F ∧ e = E F (some (.int t)) x7 x9 x10) ⟨F, x7, x9, x10, hF, rfl⟩ ?a1 ?b1
      case b1 =>
        rintro e ⟨F, x7, x9, x10, hF, rfl⟩
        exact ⟨F, _, x7, x9, x10, fok_mono hF (by omega), rfl⟩
      case a1 =>
        rintro k e hk ⟨F, x7, x9, x10, hF, rfl⟩
        obtain ⟨x, tl, fr, hx, ix0, ix1, tl0, tl1, fr0, fr1⟩ := hp k (by omega)
        obtain ⟨o, ho, -, ao⟩ := at_OW hF tl0 tl1
        obtain ⟨o2, ho2, -, ao2⟩ := at_OW hF fr0 fr1
        have kw : k < ws.length := by omega
        have aw : L2.atI (ws.map DV.int) (k : Int) = some (.int ws[k]) := by rw [atI_nat, List.getElem?_map, List.getElem?_eq_getElem kw]; rfl
        have bw := hw _ (List.getElem_mem kw)
        generalize ws[k] = w at aw bw
        have hF' : FOk m s (t * 33 + (k + 1)) F := fok_mono hF (by omega)
        refine ⟨E F (some (.int t)) (some (.int k)) x9 x10, by simp [E], ?_⟩
        refine wst (e := E F (some (.int t)) (some (.int k)) (some (OW o)) x10) (by simp [E, hx, ix0, ao, frz_OW, freeze_OW]) ?_
        by_cases z : (k : Int) ∈ cut
        · exact wifF (by simp [E, z]) (wnxS ⟨F, _, _, x10, hF', rfl⟩)
        cases o with
        | none => exact wifF (by simp [E, z, isN_OW]) (wnxS ⟨F, _, _, x10, hF', rfl⟩)
        | some v =>
          have bv := hF.2.1 _ ho v rfl
          have bs := bd_add bv bw
          refine wifT (by simp [E, z, isN_OW]) ?_
          refine wst (e := E F (some (.int t)) (some (.int k)) (some (.int v)) (some (OW o2))) (by simp [E, hx, ix1, ao2, frz_OW, freeze_OW, OW_some]) ?_
          have hst : setIxS 5 lId (op2 ixD (op2 ixD (var 0) (var 7)) (cst (.int 1))) (op2 addD (var 9) (op2 ixD (var 1) (var 7))) (E F (some (.int t)) (some (.int k)) (some (.int v)) (some (OW o2))) = .nx (E (F.set fr.toNat (some (v + w))) (some (.int t)) (some (.int k)) (some (.int v)) (some (OW o2))) := by
            have h := set_ix (env := E F (some (.int t)) (some (.int k)) (some (.int v)) (some (OW o2))) (i := 5) (fi := op2 ixD (op2 ixD (var 0) (var 7)) (cst (.int 1))) (fe := op2 addD (var 9) (op2 ixD (var 1) (var 7))) (ds := F.map OW) (k := fr) (j := fr.toNat) (d := .int (v + w)) rfl (by simp [E, hx, ix1]) (by simp [E, aw]) (by rw [List.length_map, hF.1]; exact ixN_pos fr0 fr1)
            rw [map_set_OW] at h
            exact h.trans rfl
          have hF2 : FOk m s (t * 33 + (k + 1)) (F.set fr.toNat (some (v + w))) := fok_set hF' bs
          cases o2 with
          | none => exact wifT (by simp [E, isN_OW]) (wnx hst ⟨_, _, _, _, hF2, rfl⟩)
          | some u =>
            by_cases c : v + w < u
            · exact wifT (by simp [E, isN_OW, OW_some, aw, c]) (wnx hst ⟨_, _, _, _, hF2, rfl⟩)
            · exact wifF (by simp [E, isN_OW, OW_some, aw, c]) (wnxS ⟨F, _, _, _, hF', rfl⟩)
    case b =>
      rintro e ⟨F, x6, x7, x9, x10, hF, rfl⟩
      exact wretM rfl ⟨F, fok_mono hF (by omega), rfl⟩)
  exact ⟨F, hF, h1⟩

end K23
end
section
set_option maxHeartbeats 2000000
namespace K23
open PySem DL
/-! rows turned about, heights by distances -/
abbrev trn (rs : List Row) : List DV := rs.map fun x => .tup [.int x.f, .int x.t]
theorem turned_spec {rs : List Row} (hl : rs.length < 33) : h__law_turned [rws rs] = .ok (.own (trn rs)) := by
  unfold h__law_turned
  refine wfn' rfl ?_
  simp only [List.map_cons, List.map_nil, List.replicate, List.cons_append, List.nil_append]
  unfold G__law_turned
  refine wret (d := .own (trn rs)) ?_ rfl
  have hlc : lcLoop (nameG 1) yesT (tupV (consL (fz (op2 ixD (var 1) (cst (.int 1)))) (consL (fz (op2 ixD (var 1) (cst (.int 0)))) nilL))) [some (rws rs), none] (rs.map Row.dv) = .ok ((rs.map Row.dv).map fun d => .tup [(ixD d (.int 1)).getD .non, (ixD d (.int 0)).getD .non]) := lc_map _ fun d hd => by
    obtain ⟨r, _, rfl⟩ := List.mem_map.mp hd
    exact ⟨_, rfl, by simp [row0, row1, show 2 ≤ big by decide]⟩
  rw [lcV_app]
  simp only [itS_app, fz_app, var_app, List.getElem?_cons_succ, List.getElem?_cons_zero, bind_ok, isf_lst, if_true, walk_lst, lift_some, wipeD_cons, wipeD_nil, List.set_cons_succ, List.set_cons_zero, hlc]
  rw [if_pos (by rw [List.length_map]; unfold big; omega), List.map_map]
  rfl
theorem ps_rows {m : Nat} {rs : List Row} (ok : ∀ x ∈ rs, RowOk m x) : PsOk m (rs.map Row.dv) := fun k hk => by
  rw [List.length_map] at hk
  have o := ok _ (List.getElem_mem hk)
  exact ⟨rs[k].dv, rs[k].t, rs[k].f, rows_ix (List.getElem?_eq_getElem hk), rfl, rfl, o.t0, o.t1, o.f0, o.f1⟩
theorem ps_trn {m : Nat} {rs : List Row} (ok : ∀ x ∈ rs, RowOk m x) : PsOk m (trn rs) := fun k hk => by
  have hk : k < rs.length := by unfold trn at hk; rwa [List.length_map] at hk
  have o := ok _ (List.getElem_mem hk)
  exact ⟨.tup [.int rs[k].f, .int rs[k].t], rs[k].f, rs[k].t, by rw [atI_nat, List.getElem?_map, List.getElem?_eq_getElem hk]; rfl, rfl, rfl, o.f0, o.f1, o.t0, o.t1⟩
theorem filt_OW : ∀ F : List (Option Int), ((F.map OW).filter fun d => !isNon d).map id = (F.filterMap id).map DV.int
  | [] => rfl
  | none :: F => filt_OW F
  | some v :: F => by
    have ih := filt_OW F
    show DV.int v :: ((F.map OW).filter fun d => !isNon d).map id = DV.int v :: (F.filterMap id).map DV.int
    rw [ih]
theorem max_own {ns : List Int} (h : ns ≠ []) : ∃ t ∈ ns, maxD (.own (ns.map .int)) = some (.int t) := by
  cases ns with
  | nil => exact absurd rfl h
  | cons n ns =>
    refine ⟨ns.foldl max n, ?_, ?_⟩
    · rcases (foldl_max ns n).1 with z | z
      · rw [z]; exact List.mem_cons_self ..
      · exact List.mem_cons_of_mem _ z
    · show Option.map DV.int ((intsOf ((n :: ns).map .int)).bind maxI) = _
      rw [intsOf_ofInts]; rfl
theorem some_in {m : Nat} {s : Int} {c : Nat} {F : List (Option Int)} (h : FOk m s c F) : F.filterMap id ≠ [] := by
  obtain ⟨v, hv⟩ := h.2.2
  have := List.mem_of_getElem? hv
  intro z
  have m2 : v ∈ F.filterMap id := List.mem_filterMap.mpr ⟨_, this, rfl⟩
  rw [z] at m2
  cases m2
theorem tops {m : Nat} {s : Int} {c : Nat} {F : List (Option Int)} (hF : FOk m s c F) (hm : m < 21) (env : Slots) (i j : Nat) (hi : (env[i]? : Option (Option DV)) = some (some (.lst (F.map OW)))) (hj : j < env.length) :
    ∃ t, (0 ≤ t ∧ t ≤ (c : Int) * LIM) ∧ opN (one maxD) (consL (lcV [j] (itS (fz (var i))) (nameG j) (tst (op2 isnotD (var j) (cst .non))) (fz (var j))) nilL) env = .ok (.int t) := by
  obtain ⟨t, ht, et⟩ := max_own (some_in hF)
  obtain ⟨o, ho, e⟩ := List.mem_filterMap.mp ht
  refine ⟨t, hF.2.1 o ho t e, ?_⟩
  have hjj : ∀ d : DV, ((env.set j (some d))[j]? : Option (Option DV)) = some (some d) := fun d => List.getElem?_set_self hj
  have hlc : lcLoop (nameG j) (tst (op2 isnotD (var j) (cst .non))) (fz (var j)) (env.set j none) (F.map OW) = .ok (((F.map OW).filter fun d => !isNon d).map id) := lc_filter _ fun d hd => by
    obtain ⟨o, _, rfl⟩ := List.mem_map.mp hd
    exact ⟨_, rfl, by simp [hjj], fun _ => by simp [hjj, frz_OW]⟩
  have hit : itS (fz (var i)) env = .ok (F.map OW) := by simp [hi]
  rw [opN_app, consL_app, lcV_app, hit]
  simp only [bind_ok, wipeD_cons, wipeD_nil, hlc]
  rw [if_pos (by rw [List.length_map, hF.1]; unfold big; omega), filt_OW]
  simp only [bind_ok, nilL_app, one_app, et, lift_some]
theorem map_OW (F : List (Option Int)) (g : Int → Int) (a : Int) : (F.map OW).map (fun d => if isNon d = true then DV.int a else .int (g (numI d))) = (F.map fun o => match o with | some v => g v | none => a).map .int := by
  rw [List.map_map, List.map_map]
  congr 1
  funext o
  cases o <;> rfl
theorem forward_spec {m : Nat} {s : Int} {F : List (Option Int)} (hF : FOk m s 700 F) (hm : m < 21) (ex : Int) : ∃ hs : List Int, hs.length = m ∧ (ex = 0 → ∀ h ∈ hs, 0 ≤ h ∧ h ≤ 700 * LIM) ∧ h__law_forward [.lst (F.map OW), .int ex] = .ok (.own (hs.map .int)) := by
  obtain ⟨t, bt, et⟩ := tops hF hm [some (.lst (F.map OW)), some (.int ex), none, none] 0 3 rfl (Nat.le_of_ble_eq_true rfl)
  refine ⟨F.map fun o => match o with | some v => v | none => t + ex, by rw [List.length_map]; exact hF.1, fun z h hh => ?_, ?_⟩
  · obtain ⟨o, ho, rfl⟩ := List.mem_map.mp hh
    cases o with
    | none => simp only []; subst z; have := bt; omega
    | some v => have := hF.2.1 _ ho v rfl; simp only []; omega
  · unfold h__law_forward
    refine wfn' rfl ?_
    simp only [List.map_cons, List.map_nil, List.replicate, List.cons_append, List.nil_append]
    unfold G__law_forward
    refine wst (e := [some (.lst (F.map OW)), some (.int ex), some (.int t), none]) (by rw [setF_app, et]; rfl) ?_
    refine wret ?_ rfl
    have hlc : lcLoop (nameG 3) yesT (ifV (tst (op2 isD (var 3) (cst .non))) (op2 addD (var 2) (var 1)) (fz (var 3))) [some (.lst (F.map OW)), some (.int ex), some (.int t), none] (F.map OW) = .ok ((F.map OW).map fun d => if isNon d = true then DV.int (t + ex) else .int (id (numI d))) := lc_map _ fun d hd => by
      obtain ⟨o, _, rfl⟩ := List.mem_map.mp hd
      cases o with
      | none => exact ⟨_, rfl, by simp [OW]⟩
      | some v => exact ⟨_, rfl, by simp [OW, numI]⟩
    rw [lcV_app]
    simp only [itS_app, fz_app, var_app, List.getElem?_cons_succ, List.getElem?_cons_zero, bind_ok, isf_lst, if_true, walk_lst, lift_some, wipeD_cons, wipeD_nil, List.set_cons_succ, List.set_cons_zero, hlc]
    rw [if_pos (by rw [List.length_map, hF.1]; unfold big; omega), map_OW F id (t + ex)]
    rfl
theorem backward_spec {m : Nat} {g s : Int} {F : List (Option Int)} (hF : FOk m g 700 F) (hm : m < 21) (s0 : 0 ≤ s) (s1 : s < (m : Int)) : ∃ hs : List Int, hs.length = m ∧ h__law_backward [.lst (F.map OW), .int s] = .ok (.own (hs.map .int)) := by
  obtain ⟨o, ho, -, ao⟩ := at_OW hF s0 s1
  have hb : F.length ≤ big := by rw [hF.1]; unfold big; omega
  cases o with
  | none =>
    refine ⟨F.map fun _ => 0, by rw [List.length_map]; exact hF.1, ?_⟩
    unfold h__law_backward
    refine wfn' rfl ?_
    simp only [List.map_cons, List.map_nil, List.replicate, List.cons_append, List.nil_append]
    unfold G__law_backward
    refine wst (e := [some (.lst (F.map OW)), some (.int s), some .non, none, none]) (by simp [ao, OW]) ?_
    refine wseq ?_
    refine wifT (by simp) (wret ?_ rfl)
    have hlc : lcLoop (nameG 4) yesT (cst (.int 0)) [some (.lst (F.map OW)), some (.int s), some .non, none, none] (F.map OW) = .ok ((F.map OW).map fun _ => .int 0) := lc_map _ fun d hd => ⟨_, rfl, rfl⟩
    rw [lcV_app]
    simp only [itS_app, fz_app, var_app, List.getElem?_cons_succ, List.getElem?_cons_zero, bind_ok, isf_lst, if_true, walk_lst, lift_some, wipeD_cons, wipeD_nil, List.set_cons_succ, List.set_cons_zero, hlc]
    rw [if_pos (by rw [List.length_map]; exact hb), List.map_map, List.map_map]
    rfl
  | some tp =>
    obtain ⟨t, bt, et⟩ := tops hF hm [some (.lst (F.map OW)), some (.int s), some (.int tp), none, none] 0 4 rfl (Nat.le_of_ble_eq_true rfl)
    refine ⟨F.map fun o => match o with | some v => tp - v | none => tp - t - 3, by rw [List.length_map]; exact hF.1, ?_⟩
    unfold h__law_backward
    refine wfn' rfl ?_
    simp only [List.map_cons, List.map_nil, List.replicate, List.cons_append, List.nil_append]
    unfold G__law_backward
    refine wst (e := [some (.lst (F.map OW)), some (.int s), some (.int tp), none, none]) (by simp [ao, OW]) ?_
    refine wst (e := [some (.lst (F.map OW)), some (.int s), some (.int tp), none, none]) (by simp) ?_
    refine wst (e := [some (.lst (F.map OW)), some (.int s), some (.int tp), some (.int (tp - t)), none]) (by rw [setF_app, op2_app, et]; simp) ?_
    refine wret ?_ rfl
    have hlc : lcLoop (nameG 4) yesT (ifV (tst (op2 isD (var 4) (cst .non))) (op2 subD (var 3) (cst (.int 3))) (op2 subD (var 2) (var 4))) [some (.lst (F.map OW)), some (.int s), some (.int tp), some (.int (tp - t)), none] (F.map OW) = .ok ((F.map OW).map fun d => if isNon d = true then DV.int (tp - t - 3) else .int ((fun v => tp - v) (numI d))) := lc_map _ fun d hd => by
      obtain ⟨o, _, rfl⟩ := List.mem_map.mp hd
      cases o with
      | none => exact ⟨_, rfl, by simp [OW]⟩
      | some v => exact ⟨_, rfl, by simp [OW, numI]⟩
    rw [lcV_app]
    simp only [itS_app, fz_app, var_app, List.getElem?_cons_succ, List.getElem?_cons_zero, bind_ok, isf_lst, if_true, walk_lst, lift_some, wipeD_cons, wipeD_nil, List.set_cons_succ, List.set_cons_zero, hlc]
    rw [if_pos (by rw [List.length_map]; exact hb), map_OW F (fun v => tp - v) (tp - t - 3)]

end K23
end
section
set_option maxHeartbeats 2000000
namespace K23
open PySem DL
/-! all heights -/
abbrev LL (hss : List (List Int)) : DV := .lst (hss.map fun hs => .lst (hs.map .int))
theorem ix_ints {hs : List Int} {k : Nat} (h : k < hs.length) : L2.atI (hs.map DV.int) (k : Int) = some (.int hs[k]) := by rw [atI_nat, List.getElem?_map, List.getElem?_eq_getElem h]; rfl
theorem comp_ints {env : Slots} {i j : Nat} {hs : List Int} {fe : Slots → DL.R DV} (g : Int → Int) (hi : (env[i]? : Option (Option DV)) = some (some (.lst (hs.map .int)))) (hl : hs.length ≤ 100) (h : ∀ a ∈ hs, fe ((env.set j none).set j (some (.int a))) = .ok (.int (g a))) :
    shr (lcV [j] (itS (fz (var i))) (nameG j) yesT fe) env = .ok (.lst ((hs.map g).map .int)) := by
  have hlc : lcLoop (nameG j) yesT fe (env.set j none) (hs.map .int) = .ok ((hs.map .int).map fun d => .int (g (numI d))) := lc_map _ fun d hd => by
    obtain ⟨a, ha, rfl⟩ := List.mem_map.mp hd
    exact ⟨_, rfl, h a ha⟩
  have hit : itS (fz (var i)) env = .ok (hs.map .int) := by simp [hi]
  rw [shr_app, lcV_app, hit]
  simp only [bind_ok, wipeD_cons, wipeD_nil, hlc]
  rw [if_pos (by rw [List.length_map]; unfold big; omega)]
  simp only [bind_ok]
  have e : ((hs.map DV.int).map fun d => DV.int (g (numI d))) = (hs.map g).map .int := by rw [List.map_map, List.map_map]; rfl
  rw [e, frz_ints]
theorem comp_rng {env : Slots} {i j m : Nat} {fe : Slots → DL.R DV} (g : Nat → Int) (hi : (env[i]? : Option (Option DV)) = some (some (.int (m : Int)))) (hl : m ≤ 100) (h : ∀ a, a < m → fe ((env.set j none).set j (some (.int (a : Int)))) = .ok (.int (g a))) :
    shr (lcV [j] (rgS1 (var i)) (nameG j) yesT fe) env = .ok (.lst (((List.range m).map g).map .int)) := by
  have hlc : lcLoop (nameG j) yesT fe (env.set j none) (rngL 0 m) = .ok ((List.range m).map fun k => .int (g k)) := lc_rng m fun k hk => ⟨_, rfl, h k hk⟩
  have hit : rgS1 (var i) env = .ok (rngL 0 m) := rg1_ok (by simp [hi]) (by omega)
  rw [shr_app, lcV_app, hit]
  simp only [bind_ok, wipeD_cons, wipeD_nil, hlc, rngL_len]
  rw [if_pos (by unfold big; omega)]
  simp only [bind_ok]
  have e : ((List.range m).map fun k => DV.int (g k)) = ((List.range m).map g).map .int := by rw [List.map_map]; rfl
  rw [e, frz_ints]
theorem comp_rngF {env : Slots} {i j m : Nat} {ft : Slots → DL.R Bool} (p : Nat → Bool) (hi : (env[i]? : Option (Option DV)) = some (some (.int (m : Int)))) (hj : j < env.length) (hl : m ≤ 100) (h : ∀ a, a < m → ft ((env.set j none).set j (some (.int (a : Int)))) = .ok (p a)) :
    lcV [j] (rgS1 (var i)) (nameG j) ft (fz (var j)) env = .ok (.own ((((List.range m).filter p).map fun k : Nat => (k : Int)).map .int)) := by
  have hlc : lcLoop (nameG j) ft (fz (var j)) (env.set j none) (rngL 0 m) = .ok (((List.range m).filter p).map fun k : Nat => .int (k : Int)) := lc_rngF (p := p) m fun k hk => ⟨_, rfl, h k hk, fun _ => by
    have : ((env.set j (some (DV.int (k : Int))))[j]? : Option (Option DV)) = some (some (.int k)) := List.getElem?_set_self hj
    simp [this]⟩
  have hit : rgS1 (var i) env = .ok (rngL 0 m) := rg1_ok (by simp [hi]) (by omega)
  rw [lcV_app, hit]
  simp only [bind_ok, wipeD_cons, wipeD_nil, hlc, rngL_len]
  rw [if_pos (by unfold big; omega)]
  have e : (((List.range m).filter p).map fun k : Nat => DV.int (k : Int)) = (((List.range m).filter p).map fun k : Nat => (k : Int)).map .int := by rw [List.map_map]; rfl
  rw [e]
theorem app_hs {env e : Slots} {i : Nat} {hss : List (List Int)} {fe : Slots → DL.R DV} {hs : List Int} (h2 : (env[i]? : Option (Option DV)) = some (some (.own (hss.map fun hs => .lst (hs.map .int))))) (h : fe env = .ok (.lst (hs.map .int))) (hl : hss.length ≤ 100) (he : env.set i (some (.own ((hss ++ [hs]).map fun hs => .lst (hs.map .int)))) = e) :
    appS i lId fe env = .nx e := by
  rw [app_to h2 h (by rw [List.length_map]; unfold big; omega), ← he, List.map_append]
  rfl
theorem all_heights_spec {m : Nat} {rs : List Row} {s g : Int} {ws cut : List Int} (W : Wd m rs s g ws) (hw : ∀ w ∈ ws, 0 ≤ w ∧ w < LIM) {ds : List Int} (hd : ∀ x ∈ ds, Dr x) (dl : 4 ≤ ds.length) :
    ∃ hss : List (List Int), hss.length = 10 ∧ (∀ hs ∈ hss, hs.length = m) ∧ h__law_all_heights [rws rs, en s g, wy cut, .lst (ws.map .int), .int (m : Int), .lst (ds.map .int)] = .ok (.own (hss.map fun hs => .lst (hs.map .int))) := by
  have mm : ∀ (x m : Int), 0 < m → modD (.int x) (.int m) = some (.int (x % m)) := fun x m h => mod_pos h
  have lb := lim_big
  have ls := lim_sm
  have m1 := W.m1
  obtain ⟨x0, g0, b0⟩ := dr_at hd 0 (by omega)
  obtain ⟨x1, g1, b1⟩ := dr_at hd 1 (by omega)
  obtain ⟨x2, g2, b2⟩ := dr_at hd 2 (by omega)
  have g0 := get_ints g0
  have g1 := get_ints g1
  have g2 := get_ints g2
  obtain ⟨F, hF, eF⟩ := far_spec (m := m) (cut := cut) m1 (List.length_map ..) W.l (ps_rows W.ok) W.lw hw W.s0 W.s1
  obtain ⟨B, hB, eB⟩ := far_spec (m := m) (xs := trn rs) (cut := cut) m1 (List.length_map ..) W.l (ps_trn W.ok) W.lw hw W.g0 W.g1
  obtain ⟨f0, lf0, bf0, ef0⟩ := forward_spec hF m1 0
  obtain ⟨f1, lf1, _, ef1⟩ := forward_spec hF m1 (1 + x1 % 100000000000000000000)
  obtain ⟨f2, lf2, _, ef2⟩ := forward_spec hF m1 (-(x1 % 7))
  obtain ⟨bk, lbk, ebk⟩ := backward_spec hB m1 W.s0 W.s1
  have bf0 := bf0 rfl
  have ag := at_nt W.g0 (by rw [lf0]; exact W.g1)
  have bg : 0 ≤ nt f0 g := by
    have hi : g.toNat < f0.length := by have := W.g0; have := W.g1; omega
    have e : nt f0 g = f0[g.toNat] := by
      unfold nt
      rw [List.getD_eq_getElem?_getD, List.getElem?_eq_getElem hi]; rfl
    rw [e]; exact (bf0 _ (List.getElem_mem hi)).1
  generalize nt f0 g = fg at ag bg
  have hz : (trn rs).all isFrz = true := List.all_eq_true.mpr fun d hd => by obtain ⟨r, _, rfl⟩ := List.mem_map.mp hd; rfl
  have htr := turned_spec W.l
  have frt : freeze (.own (trn rs)) = .lst (trn rs) := frz_own hz
  have frO : ∀ F : List (Option Int), freeze (.own (F.map OW)) = .lst (F.map OW) := fun F => frz_own (List.all_eq_true.mpr fun d hd => by obtain ⟨o, _, rfl⟩ := List.mem_map.mp hd; exact frz_OW o)
  let R : Option DV := some (rws rs)
  let EN : Option DV := some (en s g)
  let C : Option DV := some (wy cut)
  let L : Option DV := some (.lst (ws.map .int))
  let M : Option DV := some (.int (m : Int))
  let D : Option DV := some (.lst (ds.map .int))
  let FF : Option DV := some (.lst (F.map OW))
  let BB : Option DV := some (.lst (B.map OW))
  let H0 : Option DV := some (.lst (f0.map .int))
  let H1 : Option DV := some (.lst (bk.map .int))
  unfold h__law_all_heights
  obtain ⟨d, h1, hss, h2, h3, rfl⟩ := wfn (n := 6) (m := 8) (G := G__law_all_heights) (ds := [rws rs, en s g, wy cut, .lst (ws.map .int), .int (m : Int), .lst (ds.map .int)]) (T := fun d => ∃ hss : List (List Int), hss.length = 10 ∧ (∀ hs ∈ hss, hs.length = m) ∧ d = .own (hss.map fun hs => .lst (hs.map .int))) rfl (by
    simp only [List.map_cons, List.map_nil, List.replicate, List.cons_append, List.nil_append]
    unfold G__law_all_heights
    refine wst (e := [R, EN, C, L, M, D, FF, none, none, none, none, none, none, none]) (by simp [eF, frO, R, EN, C, L, M, D, FF]) ?_
    refine wst (e := [R, EN, C, L, M, D, FF, BB, none, none, none, none, none, none]) (by simp only [setF_app, callV_app, consL_app, nilL_app, fz_app, var_app, R, EN, C, L, M, D, FF, List.getElem?_cons_succ, List.getElem?_cons_zero, bind_ok, isf_lst, isf_tup, isf_int, if_true, List.append_nil, freezes_cons, freezes_nil, frz_lst, htr, frt, op2_app, cst_app, ix_tup, atI_lit, lift_some, frz_int, frz_tup, eB, frO]; rfl) ?_
    refine wst (e := [R, EN, C, L, M, D, FF, BB, H0, none, none, none, none, none]) (by simp [ef0, R, EN, C, L, M, D, FF, BB, H0]) ?_
    refine wst (e := [R, EN, C, L, M, D, FF, BB, H0, H1, none, none, none, none]) (by simp [ebk, R, EN, C, L, M, D, FF, BB, H0, H1]) ?_
    refine wst (e := [R, EN, C, L, M, D, FF, BB, H0, H1, some (.int (x0 % (1 + fg))), none, none, none]) (by simp [g0, ag, mm _ (1 + fg) (by omega), R, EN, C, L, M, D, FF, BB, H0, H1]) ?_
    generalize x0 % (1 + fg) = lev
    let E : List (List Int) → Slots := fun hss => [R, EN, C, L, M, D, FF, BB, H0, H1, some (.int lev), some (.own (hss.map fun hs => .lst (hs.map .int))), none, none]
    refine wst (e := E [f0, f1, bk, f2]) (by simp [p20, g1, mm, ef1, ef2, show 4 ≤ big by decide, E, R, EN, C, L, M, D, FF, BB, H0, H1]) ?_
    let a4 : List Int := (List.range m).map fun (k : Nat) => (f0.getD k 0 + bk.getD k 0) / 2
    let a5 : List Int := f0.map fun a => a / 2
    let a6 : List Int := f0.map fun a => if lev < a then lev else a
    let a7 : List Int := f0.map fun _ => 0
    let a8 : List Int := (List.range m).map fun (k : Nat) => if (k : Int) = s then 0 else 0 - 1 - x2 % 9
    let a9 : List Int := f0.map fun a => 2 * a
    refine wst (e := E [f0, f1, bk, f2, a4]) (app_hs (hss := [f0, f1, bk, f2]) (hs := a4) rfl (comp_rng _ rfl (by omega) fun a ha => ?q1) (by simp) rfl) ?_
    case q1 =>
      have e1 := ix_ints (hs := f0) (k := a) (by omega)
      have e2 := ix_ints (hs := bk) (k := a) (by omega)
      have k1 : f0.getD a 0 = f0[a] := by rw [List.getD_eq_getElem?_getD, List.getElem?_eq_getElem (by omega)]; rfl
      have k2 : bk.getD a 0 = bk[a] := by rw [List.getD_eq_getElem?_getD, List.getElem?_eq_getElem (by omega)]; rfl
      rw [k1, k2]
      simp only [op2_app, var_app, E, List.set_cons_succ, List.set_cons_zero, List.getElem?_cons_succ, List.getElem?_cons_zero, bind_ok, H0, H1, ix_lst, e1, e2, lift_some, add_int, cst_app, div_pos (show (0 : Int) < 2 by decide) (by decide)]
    refine wst (e := E [f0, f1, bk, f2, a4, a5]) (app_hs (hss := [f0, f1, bk, f2, a4]) (hs := a5) rfl (comp_ints _ rfl (by omega) fun a ha => ?q2) (by simp) rfl) ?_
    case q2 => simp only [op2_app, var_app, E, List.set_cons_succ, List.set_cons_zero, List.getElem?_cons_succ, List.getElem?_cons_zero, bind_ok, lift_some, cst_app, div_pos (show (0 : Int) < 2 by decide) (by decide)]
    refine wst (e := E [f0, f1, bk, f2, a4, a5, a6]) (app_hs (hss := [f0, f1, bk, f2, a4, a5]) (hs := a6) rfl (comp_ints _ rfl (by omega) fun a ha => ?q3) (by simp) rfl) ?_
    case q3 => simp only [opN_app, consL_app, nilL_app, two_app, min2D, var_app, E, List.set_cons_succ, List.set_cons_zero, List.getElem?_cons_succ, List.getElem?_cons_zero, bind_ok, lift_some]
    refine wst (e := E [f0, f1, bk, f2, a4, a5, a6, a7]) (app_hs (hss := [f0, f1, bk, f2, a4, a5, a6]) (hs := a7) rfl (comp_ints _ rfl (by omega) fun a ha => rfl) (by simp) rfl) ?_
    refine wst (e := E [f0, f1, bk, f2, a4, a5, a6, a7, a8]) (app_hs (hss := [f0, f1, bk, f2, a4, a5, a6, a7]) (hs := a8) rfl (comp_rng _ rfl (by omega) fun a ha => ?q4) (by simp) rfl) ?_
    case q4 => by_cases z : (a : Int) = s <;> simp [E, EN, D, g2, mm, z]
    refine wst (e := E [f0, f1, bk, f2, a4, a5, a6, a7, a8, a9]) (app_hs (hss := [f0, f1, bk, f2, a4, a5, a6, a7, a8]) (hs := a9) rfl (comp_ints _ rfl (by omega) fun a ha => ?q5) (by simp) rfl) ?_
    case q5 =>
      have ba := bf0 a ha
      have q := mul_sm (a := 2) (b := a) (by unfold Sm; decide +kernel) (sm_long (Nat.lt_of_le_of_lt (by omega) ls))
      simp only [op2_app, var_app, E, List.set_cons_succ, List.set_cons_zero, List.getElem?_cons_succ, List.getElem?_cons_zero, bind_ok, lift_some, cst_app, q]
    refine wretM rfl ⟨_, ?_, ?_, rfl⟩
    · simp
    · intro hs hh
      simp only [List.mem_cons, List.not_mem_nil, or_false] at hh
      rcases hh with h | h | h | h | h | h | h | h | h | h <;> subst h <;> simp [lf0, lf1, lf2, lbk, a4, a5, a6, a7, a8, a9])
  exact ⟨hss, h2, h3, h1⟩

end K23
end
section
set_option maxHeartbeats 2000000
namespace K23
open PySem DL
/-! all sides -/
theorem frO (F : List (Option Int)) : freeze (.own (F.map OW)) = .lst (F.map OW) := frz_own (List.all_eq_true.mpr fun d hd => by obtain ⟨o, _, rfl⟩ := List.mem_map.mp hd; exact frz_OW o)
theorem side_len {m : Nat} (p : Nat → Bool) : (((List.range m).filter p).map fun k : Nat => (k : Int)).length ≤ m := by
  rw [List.length_map]
  have := List.length_filter_le p (List.range m)
  rwa [List.length_range] at this
theorem frz_LL (hss : List (List Int)) : (hss.map fun hs => DV.lst (hs.map .int)).all isFrz = true := List.all_eq_true.mpr fun d hd => by obtain ⟨o, _, rfl⟩ := List.mem_map.mp hd; rfl
theorem add_own {xs ys : List DV} (h1 : xs.all isFrz = true) (h2 : ys.all isFrz = true) (h3 : xs.length + ys.length ≤ 1000) : addD (.own xs) (.own ys) = some (.own (xs ++ ys)) := by
  show (if (xs.all isFrz && ys.all isFrz) = true ∧ xs.length + ys.length ≤ big then some (DV.own (xs ++ ys)) else none) = _
  rw [h1, h2, if_pos ⟨rfl, by unfold big; omega⟩]
theorem all_sides_spec {m : Nat} {rs : List Row} {s g : Int} {ws cut : List Int} (W : Wd m rs s g ws) (hw : ∀ w ∈ ws, 0 ≤ w ∧ w < LIM) {ds : List Int} (hd : ∀ x ∈ ds, Dr x) (dl : 4 ≤ ds.length) :
    ∃ hss : List (List Int), hss.length = 7 ∧ (∀ hs ∈ hss, hs.length ≤ m + 1) ∧ h__law_all_sides [rws rs, en s g, wy cut, .lst (ws.map .int), .int (m : Int), .lst (ds.map .int)] = .ok (.own (hss.map fun hs => .lst (hs.map .int))) := by
  have mm : ∀ (x m : Int), 0 < m → modD (.int x) (.int m) = some (.int (x % m)) := fun x m h => mod_pos h
  have m1 := W.m1
  obtain ⟨x3, g3, b3⟩ := dr_at hd 3 (by omega)
  have g3 := get_ints g3
  have hz : (trn rs).all isFrz = true := List.all_eq_true.mpr fun d hd => by obtain ⟨r, _, rfl⟩ := List.mem_map.mp hd; rfl
  have htr := turned_spec W.l
  have frt : freeze (.own (trn rs)) = .lst (trn rs) := frz_own hz
  let R : Option DV := some (rws rs)
  let EN : Option DV := some (en s g)
  let C : Option DV := some (wy cut)
  let L : Option DV := some (.lst (ws.map .int))
  let M : Option DV := some (.int (m : Int))
  let D : Option DV := some (.lst (ds.map .int))
  let E : List (List Int) → Option DV → Option DV → Option DV → Option DV → Option DV → Option DV → Slots := fun hss x7 x8 x9 x10 x11 x12 => [R, EN, C, L, M, D, some (.own (hss.map fun hs => .lst (hs.map .int))), x7, x8, x9, x10, x11, x12]
  unfold h__law_all_sides
  obtain ⟨d, h1, hss, h2, h3, rfl⟩ := wfn (n := 6) (m := 7) (G := G__law_all_sides) (ds := [rws rs, en s g, wy cut, .lst (ws.map .int), .int (m : Int), .lst (ds.map .int)]) (T := fun d => ∃ hss : List (List Int), hss.length = 7 ∧ (∀ hs ∈ hss, hs.length ≤ m + 1) ∧ d = .own (hss.map fun hs => .lst (hs.map .int))) rfl (by
    simp only [List.map_cons, List.map_nil, List.replicate, List.cons_append, List.nil_append]
    unfold G__law_all_sides
    refine wst (e := E [] none none none none none none) (by simp [show 0 ≤ big by decide, E, R, EN, C, L, M, D]) ?_
    refine wseq ?_
    refine wfor [wy cut, .tup []] (by simp [E, C, show 0 ≤ big by decide, show 2 ≤ big by decide]) (fun i e => ∃ hss x7 x10 x11 x12, hss.length = 2 * i ∧ (∀ hs ∈ hss, hs.length ≤ m + 1) ∧ e = E hss x7 none none x10 x11 x12) ⟨[], none, none, none, none, rfl, (fun _ h => nomatch h), rfl⟩ ?a ?b
    case a =>
      rintro i d e hdi ⟨hss, x7, x10, x11, x12, hl, hb, rfl⟩
      have hi := (List.getElem?_eq_some_iff.mp hdi).1
      have hi : i < 2 := hi
      obtain ⟨c, rfl⟩ : ∃ c : List Int, d = wy c := by
        have := List.mem_of_getElem? hdi
        simp only [List.mem_cons, List.not_mem_nil, or_false] at this
        rcases this with rfl | rfl
        · exact ⟨cut, rfl⟩
        · exact ⟨[], rfl⟩
      obtain ⟨F, hF, eF⟩ := far_spec (m := m) (cut := c) m1 (List.length_map ..) W.l (ps_rows W.ok) W.lw hw W.s0 W.s1
      obtain ⟨B, hB, eB⟩ := far_spec (m := m) (xs := trn rs) (cut := c) m1 (List.length_map ..) W.l (ps_trn W.ok) W.lw hw W.g0 W.g1
      let FF : Option DV := some (.lst (F.map OW))
      let BB : Option DV := some (.lst (B.map OW))
      refine ⟨E hss (some (wy c)) none none x10 x11 x12, by simp [E], ?_⟩
      refine wst (e := E hss (some (wy c)) none none x10 FF x12) (by simp [eF, frO, E, R, EN, C, L, M, D, FF]) ?_
      refine wst (e := E hss (some (wy c)) none none x10 FF BB) (by simp only [setF_app, callV_app, consL_app, nilL_app, fz_app, var_app, E, R, EN, C, L, M, D, FF, List.getElem?_cons_succ, List.getElem?_cons_zero, bind_ok, isf_lst, isf_tup, isf_int, if_true, List.append_nil, freezes_cons, freezes_nil, frz_lst, htr, frt, op2_app, cst_app, ix_tup, atI_lit, lift_some, frz_int, frz_tup, eB, frO]; rfl) ?_
      have atF : ∀ (F : List (Option Int)), F.length = m → ∀ a, a < m → L2.atI (F.map OW) (a : Int) = some (OW (F.getD a none)) := fun F hl a ha => by
        rw [atI_nat, List.getElem?_map, List.getElem?_eq_getElem (by omega), List.getD_eq_getElem?_getD, List.getElem?_eq_getElem (by omega)]; rfl
      have k1 := comp_rngF (env := E hss (some (wy c)) none none x10 FF BB) (i := 4) (j := 10) (m := m) (ft := tst (op2 isnotD (op2 ixD (var 11) (var 10)) (cst .non))) (fun a => (F.getD a none).isSome) rfl (Nat.le_of_ble_eq_true rfl) (by omega) fun a ha => by
        simp only [tst_app, op2_app, E, FF, var_app, cst_app, List.set_cons_succ, List.set_cons_zero, List.getElem?_cons_succ, List.getElem?_cons_zero, bind_ok, ix_lst, atF F hF.1 a ha, lift_some, isnot_non, isN_OW, Bool.not_not]
      let s1 : List Int := ((List.range m).filter fun a => (F.getD a none).isSome).map fun k : Nat => (k : Int)
      let s2 : List Int := ((List.range m).filter fun a => !(B.getD a none).isSome).map fun k : Nat => (k : Int)
      refine wst (e := E (hss ++ [s1]) (some (wy c)) none none x10 FF BB) (app_hs (hss := hss) (hs := s1) rfl (by rw [shr_app, k1]; simp only [bind_ok, frz_ints]; rfl) (by omega) rfl) ?_
      have k2 := comp_rngF (env := E (hss ++ [s1]) (some (wy c)) none none x10 FF BB) (i := 4) (j := 10) (m := m) (ft := tst (op2 isD (op2 ixD (var 12) (var 10)) (cst .non))) (fun a => !(B.getD a none).isSome) rfl (Nat.le_of_ble_eq_true rfl) (by omega) fun a ha => by
        simp only [tst_app, op2_app, E, BB, var_app, cst_app, List.set_cons_succ, List.set_cons_zero, List.getElem?_cons_succ, List.getElem?_cons_zero, bind_ok, ix_lst, atF B hB.1 a ha, lift_some, is_non, isN_OW]
      refine wnx (e := E (hss ++ [s1] ++ [s2]) (some (wy c)) none none x10 FF BB) (app_hs (hss := hss ++ [s1]) (hs := s2) rfl (by rw [shr_app, k2]; simp only [bind_ok, frz_ints]; rfl) (by rw [List.length_append, List.length_singleton]; omega) rfl) ⟨_, _, _, _, _, by simp [hl]; omega, fun hs hh => ?_, rfl⟩
      rcases List.mem_append.mp hh with z | z
      · rcases List.mem_append.mp z with z | z
        · exact hb hs z
        · cases List.mem_singleton.mp z; exact Nat.le_succ_of_le (side_len _)
      · cases List.mem_singleton.mp z; exact Nat.le_succ_of_le (side_len _)
    case b =>
      rintro e ⟨hss, x7, x10, x11, x12, hl, hb, rfl⟩
      have hl : hss.length = 4 := hl
      refine wst (e := E hss x7 (some (.int x3)) none x10 x11 x12) (by simp [g3, E, D]) ?_
      refine wst (e := E hss x7 (some (.int x3)) (some (.own [])) x10 x11 x12) (by simp [E, show 0 ≤ big by decide]) ?_
      refine wseq ?_
      refine wforR m rfl (by omega) (fun i e => ∃ (left : Int) (ns : List Int) (x10 : Option DV), ns.length ≤ i ∧ e = E hss x7 (some (.int left)) (some (.own (ns.map .int))) x10 x11 x12) ⟨x3, [], x10, Nat.le_refl _, rfl⟩ ?a2 ?b2
      case a2 =>
        rintro i e hi ⟨left, ns, x10, hn, rfl⟩
        refine ⟨E hss x7 (some (.int left)) (some (.own (ns.map .int))) (some (.int i)) x11 x12, by simp [E], ?_⟩
        refine wex (I := fun e => ∃ ns' : List Int, ns'.length ≤ i + 1 ∧ e = E hss x7 (some (.int left)) (some (.own (ns'.map .int))) (some (.int i)) x11 x12) ?_ ?_
        · have yes : appS 9 lId (fz (var 10)) (E hss x7 (some (.int left)) (some (.own (ns.map .int))) (some (.int i)) x11 x12) = .nx (E hss x7 (some (.int left)) (some (.own ((ns ++ [(i : Int)]).map .int))) (some (.int i)) x11 x12) := by
            rw [app_to (i := 9) (ds := ns.map .int) (d := .int i) rfl (by simp [E]) (by rw [List.length_map]; unfold big; omega)]
            simp [E]
          have le2 : (ns ++ [(i : Int)]).length ≤ i + 1 := by rw [List.length_append, List.length_singleton]; omega
          by_cases z1 : (i : Int) = s
          · exact ⟨_, by rw [ifS_app, show orB _ _ _ = DL.R.ok true by simp [E, EN, z1]]; exact yes, ns ++ [(i : Int)], le2, rfl⟩
          · by_cases z2 : (i : Int) = g
            · exact ⟨_, by rw [ifS_app, show orB _ _ _ = DL.R.ok false by simp [E, EN, z1, z2]; intro h; exact absurd (z2.trans h) z1]; rfl, ns, by omega, rfl⟩
            · by_cases z3 : left % 2 = 1
              · exact ⟨_, by rw [ifS_app, show orB _ _ _ = DL.R.ok true by simp [E, EN, z1, z2, z3, mm]]; exact yes, ns ++ [(i : Int)], le2, rfl⟩
              · exact ⟨_, by rw [ifS_app, show orB _ _ _ = DL.R.ok false by simp [E, EN, z1, z2, z3, mm]]; rfl, ns, by omega, rfl⟩
        · rintro _ ⟨ns', hn', rfl⟩
          exact wnx (e := E hss x7 (some (.int (left / 2))) (some (.own (ns'.map .int))) (some (.int i)) x11 x12) (by simp [E, div_pos (show (0 : Int) < 2 by decide) (show (2 : Int) < 2 ^ 250 by decide)]) ⟨_, ns', _, hn', rfl⟩
      case b2 =>
        rintro e ⟨left, ns, x10, hn, rfl⟩
        refine wst (e := E hss x7 (some (.int left)) (some (.lst (ns.map .int))) x10 x11 x12) (by simp [E]) ?_
        have k3 := comp_rngF (env := E hss x7 (some (.int left)) (some (.lst (ns.map .int))) x10 x11 x12) (i := 4) (j := 10) (m := m) (ft := tst (op2 neD (var 10) (op2 ixD (var 1) (cst (.int 1))))) (fun (a : Nat) => !decide ((a : Int) = g)) rfl (Nat.le_of_ble_eq_true rfl) (by omega) fun a ha => by
          simp [E, EN]
        let s3 : List Int := ((List.range m).filter fun (a : Nat) => !decide ((a : Int) = g)).map fun k : Nat => (k : Int)
        refine wret (d := .own ((hss ++ [ns, [s], s3]).map fun hs => .lst (hs.map .int))) ?_ ⟨hss ++ [ns, [s], s3], by simp [hl], fun hs hh => ?_, rfl⟩
        · have ao := add_own (xs := hss.map fun hs => DV.lst (hs.map .int)) (ys := [.lst (ns.map .int), .lst [.int s], .lst (s3.map .int)]) (frz_LL hss) rfl (by rw [List.length_map, hl]; exact Nat.le_of_ble_eq_true rfl)
          have e1 : lstV (consL (fz (var 9)) (consL (shr (lstV (consL (fz (op2 ixD (var 1) (cst (.int 0)))) nilL))) (consL (shr (lcV [10] (rgS1 (var 4)) (nameG 10) (tst (op2 neD (var 10) (op2 ixD (var 1) (cst (.int 1))))) (fz (var 10)))) nilL))) (E hss x7 (some (.int left)) (some (.lst (ns.map .int))) x10 x11 x12) = .ok (.own [.lst (ns.map .int), .lst [.int s], .lst (s3.map .int)]) := by
            have f1 : freeze (.own [DV.int s]) = .lst [.int s] := frz_own rfl
            have e2 : shr (lstV (consL (fz (op2 ixD (var 1) (cst (.int 0)))) nilL)) (E hss x7 (some (.int left)) (some (.lst (ns.map .int))) x10 x11 x12) = .ok (.lst [.int s]) := by
              simp [E, EN, show 1 ≤ big by decide, f1]
            rw [lstV_app, consL_app, consL_app, consL_app, e2, shr_app, k3]
            simp only [bind_ok, frz_ints]
            simp [E, show 3 ≤ big by decide, s3]
          rw [op2_app, e1]
          have e0 : var 6 (E hss x7 (some (.int left)) (some (.lst (ns.map .int))) x10 x11 x12) = .ok (.own (hss.map fun hs => .lst (hs.map .int))) := by simp [E]
          rw [e0]
          simp only [bind_ok, ao, lift_some]
          rw [List.map_append]
          rfl
        · rcases List.mem_append.mp hh with z | z
          · exact hb hs z
          · simp only [List.mem_cons, List.not_mem_nil, or_false] at z
            rcases z with rfl | rfl | rfl
            · omega
            · simp
            · exact Nat.le_succ_of_le (side_len _))
  exact ⟨hss, h2, h3, h1⟩

end K23
end
section
set_option maxHeartbeats 2000000
namespace K23
open PySem DL
/-! what is asked of heights -/
theorem v1_of {d : DV} (h : El d) (hn : ∀ ds, d ≠ .tup ds) : V1 d := ⟨h, fun ds e => absurd e (hn ds)⟩
theorem v1_int (i : Int) : V1 (.int i) := v1_of trivial fun _ z => by cases z
theorem v1_tup {ds : List DV} (h : ∀ x ∈ ds, El x) (hl : ds.length < 100000) : V1 (.tup ds) := ⟨trivial, fun es e => by cases e; exact ⟨hl, h⟩⟩
theorem v1_ints {ns : List Int} (hl : ns.length < 1000) : V1 (wy ns) := v1_tup (fun x hx => by obtain ⟨a, _, rfl⟩ := List.mem_map.mp hx; trivial) (by rw [List.length_map]; omega)
theorem v2_of {d : DV} (h : El d) (hn : ∀ ds, d ≠ .tup ds) : V2 d := ⟨h, fun ds e => absurd e (hn ds)⟩
theorem v2_tup {ds : List DV} (h : ∀ x ∈ ds, V1 x) (hl : ds.length < 100000) : V2 (.tup ds) := ⟨trivial, fun es e => by cases e; exact ⟨hl, h⟩⟩
theorem v2_ints {ns : List Int} (hl : ns.length < 1000) : V2 (wy ns) := v2_tup (fun x hx => by obtain ⟨a, _, rfl⟩ := List.mem_map.mp hx; exact v1_int a) (by rw [List.length_map]; omega)
theorem v2_1 {a : DV} (ha : V1 a) : V2 (.tup [a]) := v2_tup (fun x hx => by cases List.mem_singleton.mp hx; exact ha) (Nat.le_of_ble_eq_true rfl)
theorem v2_2 {a b : DV} (ha : V1 a) (hb : V1 b) : V2 (.tup [a, b]) := v2_tup (fun x hx => by
  simp only [List.mem_cons, List.not_mem_nil, or_false] at hx
  rcases hx with rfl | rfl
  · exact ha
  · exact hb) (Nat.le_of_ble_eq_true rfl)
theorem v2_3 {a b c : DV} (ha : V1 a) (hb : V1 b) (hc : V1 c) : V2 (.tup [a, b, c]) := v2_tup (fun x hx => by
  simp only [List.mem_cons, List.not_mem_nil, or_false] at hx
  rcases hx with rfl | rfl | rfl
  · exact ha
  · exact hb
  · exact hc) (Nat.le_of_ble_eq_true rfl)
theorem v1_str {z : Str} (h : SeqAt.shaped (.str z) = true) : V1 (.str z) := v1_of h fun _ e => by cases e
theorem okS3 : SeqAt.shaped (.str "side") = true := by decide +kernel
theorem okS4 : SeqAt.shaped (.str "a") = true := by decide +kernel
theorem v2_frz {b : DV} (h : V2 b) : isFrz b = true := el_frz h.1
theorem v2_freezes {bs : List DV} (h : ∀ b ∈ bs, V2 b) : freezes bs = bs := freezes_frz (List.all_eq_true.mpr fun b hb => v2_frz (h b hb))
theorem mix_V1 {xs ys : List Int} {d : DV} (h : El d) (hl : xs.length + ys.length < 1000) : V1 (.tup (xs.map .int ++ [d] ++ ys.map .int)) := v1_tup (fun x hx => by
  rcases List.mem_append.mp hx with z | z
  · rcases List.mem_append.mp z with z | z
    · obtain ⟨a, _, rfl⟩ := List.mem_map.mp z; trivial
    · cases List.mem_singleton.mp z; exact h
  · obtain ⟨a, _, rfl⟩ := List.mem_map.mp z; trivial) (by simp; omega)
theorem take_ints (hs : List Int) (k : Nat) : cutL (hs.map DV.int) none (some (k : Int)) = (hs.take k).map .int := by rw [cutL_tn, List.map_take]
theorem drop_ints (hs : List Int) (k : Nat) : cutL (hs.map DV.int) (some ((k : Int) + 1)) none = (hs.drop (k + 1)).map .int := by
  have e : (k : Int) + 1 = ((k + 1 : Nat) : Int) := by omega
  rw [e, cutL_nt, List.map_drop]
theorem heights_said_spec {m : Nat} {rs : List Row} {s g : Int} {ws cut : List Int} (W : Wd m rs s g ws) (hm2 : 2 ≤ m) {c : DV} (hc : c = .lst (ws.map .int) ∨ c = .tup (ws.map .int)) {hs : List Int} (hl : hs.length = m) (dr : Int) :
    h__law_heights_said [netI m rs, wld m rs s g cut ws, c, .lst (hs.map .int), .int dr] = .ok (.bl true) := by
  have mm : ∀ (x m : Int), 0 < m → modD (.int x) (.int m) = some (.int (x % m)) := fun x m h => mod_pos h
  have m1 := W.m1
  have hz : isFrz c = true := by rcases hc with rfl | rfl <;> rfl
  have hfz : freeze c = c := freeze_frz hz
  have S : ∀ {b : DV} (_ : V2 b) (w : Option Int), h__law_says [netI m rs, wld m rs s g cut ws, c, b, OW w] = .ok (.bl true) := fun hb w => says_spec W hc hb w
  have SI : ∀ {b : DV} (_ : V2 b) (w : Int), h__law_says [netI m rs, wld m rs s g cut ws, c, b, .int w] = .ok (.bl true) := fun hb w => says_spec W hc hb (some w)
  have SN : ∀ {b : DV} (_ : V2 b), h__law_says [netI m rs, wld m rs s g cut ws, c, b, .non] = .ok (.bl true) := fun hb => says_spec W hc hb none
  have gl : g.toNat < m := by have := W.g0; have := W.g1; omega
  have ge : g = ((g.toNat : Nat) : Int) := by have := W.g0; omega
  let N : Option DV := some (netI m rs)
  let WL : Option DV := some (wld m rs s g cut ws)
  let C : Option DV := some c
  let H : Option DV := some (.lst (hs.map .int))
  let D : Option DV := some (.int dr)
  let M : Option DV := some (.int (m : Int))
  let G : Option DV := some (.int g)
  unfold h__law_heights_said
  refine wfn' rfl ?_
  simp only [List.map_cons, List.map_nil, List.replicate, List.cons_append, List.nil_append]
  unfold G__law_heights_said
  refine wst (e := [N, WL, C, H, D, M, none, none, none, none, none, none, none, none, none, none]) (by simp [N, WL, C, H, D, M]) ?_
  refine wst (e := [N, WL, C, H, D, M, G, none, none, none, none, none, none, none, none, none]) (by simp [N, WL, C, H, D, M, G]) ?_
  let E : Option DV → Option DV → Option DV → Option DV → Option DV → Option DV → Option DV → Option DV → Option DV → Slots := fun x7 x8 x9 x10 x11 x12 x13 x14 x15 => [N, WL, C, H, D, M, G, x7, x8, x9, x10, x11, x12, x13, x14, x15]
  refine wseq ?_
  refine wforR (if 7 < m then 7 else m) ?a1 (by split <;> omega) (fun _ e => ∃ x7 x8 x10 x14 x15, e = E x7 x8 none x10 none none none x14 x15) ⟨none, none, none, none, none, rfl⟩ ?a2 ?a3
  case a1 =>
    by_cases z : 7 < m
    · have z2 : (7 : Int) < (m : Int) := by omega
      simp [M, min2D, z, z2]
    · have z2 : ¬ (7 : Int) < (m : Int) := by omega
      simp [M, min2D, z, z2]
  case a2 =>
    rintro i e hi ⟨x7, x8, x10, x14, x15, rfl⟩
    refine ⟨E (some (.int i)) x8 none x10 none none none x14 x15, by simp [E], ?_⟩
    obtain ⟨k, hk, ek⟩ : ∃ k : Nat, k < m ∧ ((i : Int) + dr) % (m : Int) = (k : Int) := ⟨(((i : Int) + dr) % (m : Int)).toNat, by
      have := Int.emod_nonneg ((i : Int) + dr) (show (m : Int) ≠ 0 by omega)
      have := Int.emod_lt_of_pos ((i : Int) + dr) (show (0 : Int) < (m : Int) by omega)
      omega, by
      have := Int.emod_nonneg ((i : Int) + dr) (show (m : Int) ≠ 0 by omega)
      omega⟩
    refine wst (e := E (some (.int i)) (some (.int k)) none x10 none none none x14 x15) (by simp [E, D, M, mm _ _ (show (0 : Int) < (m : Int) by omega), ek]) ?_
    refine wfor [.int 0, .int 1, .int (-1)] (by simp [show 3 ≤ big by decide]) (fun _ e => ∃ x10 x14 x15, e = E (some (.int i)) (some (.int k)) none x10 none none none x14 x15) ⟨x10, x14, x15, rfl⟩ ?b2 ?b3
    case b3 =>
      rintro e ⟨x10, x14, x15, rfl⟩
      exact ⟨_, _, x10, x14, x15, rfl⟩
    case b2 =>
      rintro j d e hd ⟨x10, x14, x15, rfl⟩
      obtain ⟨ch, rfl⟩ : ∃ ch : Int, d = .int ch := by
        have := List.mem_of_getElem? hd
        simp only [List.mem_cons, List.not_mem_nil, or_false] at this
        rcases this with rfl | rfl | rfl <;> exact ⟨_, rfl⟩
      refine ⟨E (some (.int i)) (some (.int k)) none x10 none none none (some (.int ch)) x15, by simp [E], ?_⟩
      by_cases zc : ch ≠ 0 ∨ i = 0
      · refine wifT (by rcases zc with z | z <;> by_cases z2 : ch = 0 <;> first | exact absurd z2 z | simp [E, z, z2]) ?_
        let v := hs.getD k 0
        have ix := ix_ints (hs := hs) (k := k) (by omega)
        have ev : hs[k]'(by omega) = v := by show _ = hs.getD k 0; rw [List.getD_eq_getElem?_getD, List.getElem?_eq_getElem (by omega)]; rfl
        rw [ev] at ix
        let bent := hs.take k ++ [v + ch] ++ hs.drop (k + 1)
        have lb : bent.length = m := by show (hs.take k ++ [v + ch] ++ hs.drop (k + 1)).length = m; simp; omega
        have e1 : slV (var 3) noPart (part (var 8)) (E (some (.int i)) (some (.int k)) none x10 none none none (some (.int ch)) x15) = .ok (.own ((hs.take k).map .int)) := by simp [E, H, take_ints]
        have e2 : lstV (consL (op2 addD (op2 ixD (var 3) (var 8)) (var 14)) nilL) (E (some (.int i)) (some (.int k)) none x10 none none none (some (.int ch)) x15) = .ok (.own [.int (v + ch)]) := by simp [E, H, ix, show 1 ≤ big by decide]
        have e3 : slV (var 3) (part (op2 addD (var 8) (cst (.int 1)))) noPart (E (some (.int i)) (some (.int k)) none x10 none none none (some (.int ch)) x15) = .ok (.own ((hs.drop (k + 1)).map .int)) := by simp [E, H, drop_ints]
        have lt1 : (hs.take k).length ≤ 30 := by rw [List.length_take]; omega
        have lt2 : (hs.drop (k + 1)).length ≤ 30 := by rw [List.length_drop]; omega
        have a1 := add_own (xs := (hs.take k).map .int) (ys := [.int (v + ch)]) (ints_frz _) rfl (by rw [List.length_map]; show _ + 1 ≤ 1000; omega)
        have a2 := add_own (xs := (hs.take k).map .int ++ [.int (v + ch)]) (ys := (hs.drop (k + 1)).map .int) (by rw [List.all_append, ints_frz]; rfl) (ints_frz _) (by rw [List.length_append, List.length_map, List.length_map]; show _ + 1 + _ ≤ 1000; omega)
        have eb : (hs.take k).map DV.int ++ [.int (v + ch)] ++ (hs.drop (k + 1)).map .int = bent.map .int := by show _ = (hs.take k ++ [v + ch] ++ hs.drop (k + 1)).map DV.int; simp
        refine wst (e := E (some (.int i)) (some (.int k)) none x10 none none none (some (.int ch)) (some (.lst (bent.map .int)))) (by
          rw [setF_app, op2_app, op2_app, e1, bind_ok, e2, bind_ok, a1, lift_some, bind_ok, e3, bind_ok, a2, eb]
          simp [E]) ?_
        have ig : L2.atI (bent.map DV.int) g = some (.int (bent.getD g.toNat 0)) := by
          rw [ge]
          have := ix_ints (hs := bent) (k := g.toNat) (by omega)
          rw [this, List.getD_eq_getElem?_getD, Int.toNat_natCast, List.getElem?_eq_getElem (by omega)]; rfl
        generalize bent.getD g.toNat 0 = bg at ig
        have vb : V2 (.tup [.str "heights", wy bent]) := v2_2 (v1_str okS2) (v1_ints (by omega))
        refine wfor [.int bg, .int (bg + 1), .int (bg - 1)] (by simp [E, G, ig, show 3 ≤ big by decide]) (fun _ e => ∃ x10, e = E (some (.int i)) (some (.int k)) none x10 none none none (some (.int ch)) (some (.lst (bent.map .int)))) ⟨x10, rfl⟩ ?c2 ?c3
        case c3 =>
          rintro e ⟨x10, rfl⟩
          exact ⟨x10, _, _, rfl⟩
        case c2 =>
          rintro j d e hd ⟨x10, rfl⟩
          obtain ⟨w, rfl⟩ : ∃ w : Int, d = .int w := by
            have := List.mem_of_getElem? hd
            simp only [List.mem_cons, List.not_mem_nil, or_false] at this
            rcases this with rfl | rfl | rfl <;> exact ⟨_, rfl⟩
          refine ⟨E (some (.int i)) (some (.int k)) none (some (.int w)) none none none (some (.int ch)) (some (.lst (bent.map .int))), by simp [E], ?_⟩
          exact wifF (by simp [E, N, WL, C, hz, hfz, ints_frz, show 2 ≤ big by decide, SI vb w]) (wnxS ⟨_, rfl⟩)
      · have z1 : ch = 0 := Classical.byContradiction fun h => zc (.inl h)
        have z2 : ¬ i = 0 := fun h => zc (.inr h)
        exact wifF (by simp [E, z1, z2]) (wnxS ⟨x10, _, x15, rfl⟩)
  case a3 =>
    rintro e ⟨x7, x8, x10, x14, x15, rfl⟩
    obtain ⟨k, hk, ek⟩ : ∃ k : Nat, k < m ∧ (dr / 64) % (m : Int) = (k : Int) := ⟨((dr / 64) % (m : Int)).toNat, by
      have := Int.emod_nonneg (dr / 64) (show (m : Int) ≠ 0 by omega)
      have := Int.emod_lt_of_pos (dr / 64) (show (0 : Int) < (m : Int) by omega)
      omega, by
      have := Int.emod_nonneg (dr / 64) (show (m : Int) ≠ 0 by omega)
      omega⟩
    have ix := ix_ints (hs := hs) (k := k) (by omega)
    generalize hs[k]'(by omega) = v at ix
    have ig := ix_ints (hs := hs) (k := g.toNat) (by omega)
    rw [← ge] at ig
    generalize hs[g.toNat]'(by omega) = hg at ig
    refine wst (e := E x7 (some (.int k)) none x10 none none none x14 x15) (by simp [E, D, M, mm _ _ (show (0 : Int) < (m : Int) by omega), div_pos (show (0 : Int) < 64 by decide) (show (64 : Int) < 2 ^ 250 by decide), ek]) ?_
    refine wst (e := E x7 (some (.int k)) (some (wy hs)) x10 none none none x14 x15) (by simp [E, H]) ?_
    refine wst (e := E x7 (some (.int k)) (some (wy hs)) (some (.int hg)) none none none x14 x15) (by simp [E, H, G, ig]) ?_
    have vh := v1_ints (ns := hs) (by omega)
    have hh := v1_str okS2
    have c1 : cutL (hs.map DV.int) (some 1) none = (cutL hs (some 1) none).map .int := cutL_map ..
    have c2 : cutL (hs.map DV.int) none (some (-1)) = (cutL hs none (some (-1))).map .int := cutL_map ..
    have l1 := cutL_len hs (some 1) none
    have l2 := cutL_len hs none (some (-1))
    generalize cutL hs (some 1) none = t1 at c1 l1
    generalize cutL hs none (some (-1)) = t2 at c2 l2
    let bs1 : List DV := [.tup [.str "closed", wy hs], .tup [.str "side", wy hs], wy hs, .tup [.str "heights"], .tup [.str "heights", wy hs, .int 0], .tup [.tup [.str "heights", wy hs]], .tup [.str "heights", wy t1]]
    have hb1 : ∀ b ∈ bs1, V2 b := by
      intro b hb
      simp only [bs1, List.mem_cons, List.not_mem_nil, or_false] at hb
      rcases hb with rfl | rfl | rfl | rfl | rfl | rfl | rfl
      · exact v2_2 (v1_str okS1) vh
      · exact v2_2 (v1_str okS3) vh
      · exact v2_ints (by omega)
      · exact v2_1 hh
      · exact v2_3 hh vh (v1_int 0)
      · exact v2_1 (v1_tup (fun x hx => by
          simp only [List.mem_cons, List.not_mem_nil, or_false] at hx
          rcases hx with rfl | rfl
          · exact okS2
          · trivial) (Nat.le_of_ble_eq_true rfl))
      · exact v2_2 hh (v1_ints (by omega))
    refine wst (e := E x7 (some (.int k)) (some (wy hs)) (some (.int hg)) (some (.own bs1)) none none x14 x15) (by simp [E, c1, show 1 ≤ big by decide, show 2 ≤ big by decide, show 3 ≤ big by decide, show 7 ≤ big by decide, bs1]) ?_
    have e0 : addD (wy hs) (.tup [.int 0]) = some (wy (hs ++ [0])) := by
      rw [add_tup (by rw [List.length_map]; show _ + 1 ≤ big; unfold big; omega)]; simp
    let bs2 : List DV := [.tup [.str "heights", wy (hs ++ [0])], .tup [.str "heights", wy t2], .tup [.str "heights", .tup []], .tup [.str "heights", .int hg], .tup [.non, wy hs], .tup [.int 0, wy hs]]
    have hb2 : ∀ b ∈ bs2, V2 b := by
      intro b hb
      simp only [bs2, List.mem_cons, List.not_mem_nil, or_false] at hb
      rcases hb with rfl | rfl | rfl | rfl | rfl | rfl
      · exact v2_2 hh (v1_ints (by simp; omega))
      · exact v2_2 hh (v1_ints (by omega))
      · exact v2_2 hh (v1_ints (ns := []) (by decide))
      · exact v2_2 hh (v1_int _)
      · exact v2_2 (v1_of trivial fun _ z => by cases z) vh
      · exact v2_2 (v1_int _) vh
    have ab := add_own (xs := bs1) (ys := bs2) rfl rfl (Nat.le_of_ble_eq_true rfl)
    have hb12 : ∀ b ∈ bs1 ++ bs2, V2 b := fun b hb => by
      rcases List.mem_append.mp hb with z | z
      · exact hb1 b z
      · exact hb2 b z
    have e22 : lstV (consL (tupV (consL (cst (.str "heights")) (consL (op2 addD (var 9) (tupV (consL (cst (.int 0)) nilL))) nilL))) (consL (tupV (consL (cst (.str "heights")) (consL (shr (slV (var 9) noPart (part (negV (cst (.int 1)))))) nilL))) (consL (tupV (consL (cst (.str "heights")) (consL (tupV nilL) nilL))) (consL (tupV (consL (cst (.str "heights")) (consL (fz (var 10)) nilL))) (consL (tupV (consL (cst .non) (consL (fz (var 9)) nilL))) (consL (tupV (consL (cst (.int 0)) (consL (fz (var 9)) nilL))) nilL)))))) (E x7 (some (.int k)) (some (wy hs)) (some (.int hg)) (some (.own bs1)) none none x14 x15) = .ok (.own bs2) := by
      simp only [wy] at e0
      simp [E, c2, e0, show 0 ≤ big by decide, show 1 ≤ big by decide, show 2 ≤ big by decide, show 6 ≤ big by decide, bs2]
    refine wst (e := E x7 (some (.int k)) (some (wy hs)) (some (.int hg)) (some (.own (bs1 ++ bs2))) none none x14 x15) (by
      rw [setS_app, op2_app, e22, show var 11 (E x7 (some (.int k)) (some (wy hs)) (some (.int hg)) (some (.own bs1)) none none x14 x15) = .ok (.own bs1) from rfl]
      simp only [bind_ok, ab, lift_some]; rfl) ?_
    have hlen : (bs1 ++ bs2).length = 13 := rfl
    generalize bs1 ++ bs2 = bs at hb12 hlen
    have i1 := init_pos (n := v) (d := 1) (by decide) (by decide)
    refine wseq ?_
    let q : DV := rt (v / (Int.gcd v 1 : Nat)) (1 / (Int.gcd v 1 : Nat))
    have qE : El q := rfl
    refine wfor [.non, .str "a", q, .tup [.int v]] ?p1 (fun i e => ∃ (bs : List DV) (x12 : Option DV), (∀ b ∈ bs, V2 b) ∧ bs.length = 13 + i ∧ e = E x7 (some (.int k)) (some (wy hs)) (some (.int hg)) (some (.own bs)) x12 none x14 x15) ⟨bs, none, hb12, hlen, rfl⟩ ?p2 ?p3
    case p1 =>
      have mq : shr (mkV "Ratio" h_Ratio_init dd_Ratio1 (consL (fz (op2 ixD (var 3) (var 8))) nilL)) (E x7 (some (.int k)) (some (wy hs)) (some (.int hg)) (some (.own bs)) none none x14 x15) = .ok q := by simp [E, H, ix, dd_Ratio1, i1, frz_rat, q]
      rw [itS_app, lstV_app]
      simp only [consL_app, mq]
      simp [E, H, ix, show 1 ≤ big by decide, show 4 ≤ big by decide, q]
    case p2 =>
      rintro i d e hd ⟨bs, x12, hb, hbl, rfl⟩
      have hi := (List.getElem?_eq_some_iff.mp hd).1
      have hi : i < 4 := hi
      have ed : El d := by
        have := List.mem_of_getElem? hd
        simp only [List.mem_cons, List.not_mem_nil, or_false] at this
        rcases this with rfl | rfl | rfl | rfl
        · trivial
        · exact okS4
        · exact qE
        · trivial
      have fd := el_frz ed
      have l1 : (hs.take k).length ≤ 30 := by rw [List.length_take]; omega
      have l2 : (hs.drop (k + 1)).length ≤ 30 := by rw [List.length_drop]; omega
      have a1 : addD (.tup ((hs.take k).map .int)) (.tup [d]) = some (.tup ((hs.take k).map .int ++ [d])) := add_tup (by rw [List.length_map]; show _ + 1 ≤ big; unfold big; omega)
      have a2 : addD (.tup ((hs.take k).map .int ++ [d])) (.tup ((hs.drop (k + 1)).map .int)) = some (.tup ((hs.take k).map .int ++ [d] ++ (hs.drop (k + 1)).map .int)) := add_tup (by rw [List.length_append, List.length_map, List.length_map]; show _ + 1 + _ ≤ big; unfold big; omega)
      have vm := mix_V1 (xs := hs.take k) (ys := hs.drop (k + 1)) ed (by omega)
      refine ⟨E x7 (some (.int k)) (some (wy hs)) (some (.int hg)) (some (.own bs)) (some d) none x14 x15, by simp [E], ?_⟩
      have ev : tupV (consL (cst (.str "heights")) (consL (shr (op2 addD (op2 addD (slV (var 9) noPart (part (var 8))) (tupV (consL (fz (var 12)) nilL))) (slV (var 9) (part (op2 addD (var 8) (cst (.int 1)))) noPart))) nilL)) (E x7 (some (.int k)) (some (wy hs)) (some (.int hg)) (some (.own bs)) (some d) none x14 x15) = .ok (.tup [.str "heights", .tup ((hs.take k).map .int ++ [d] ++ (hs.drop (k + 1)).map .int)]) := by
        have s1 : slV (var 9) noPart (part (var 8)) (E x7 (some (.int k)) (some (wy hs)) (some (.int hg)) (some (.own bs)) (some d) none x14 x15) = .ok (.tup ((hs.take k).map .int)) := by simp [E, take_ints]
        have s2 : slV (var 9) (part (op2 addD (var 8) (cst (.int 1)))) noPart (E x7 (some (.int k)) (some (wy hs)) (some (.int hg)) (some (.own bs)) (some d) none x14 x15) = .ok (.tup ((hs.drop (k + 1)).map .int)) := by simp [E, drop_ints]
        have s3 : tupV (consL (fz (var 12)) nilL) (E x7 (some (.int k)) (some (wy hs)) (some (.int hg)) (some (.own bs)) (some d) none x14 x15) = .ok (.tup [d]) := by simp [E, fd, show 1 ≤ big by decide]
        rw [tupV_app, consL_app, consL_app, shr_app, op2_app, op2_app, s1, bind_ok, s3, bind_ok, a1, lift_some, bind_ok, s2, bind_ok, a2]
        simp [show 2 ≤ big by decide]
      refine wnx (app_to (i := 11) rfl ev (by unfold big; omega)) ⟨bs ++ [_], some d, fun b hb' => ?_, by rw [List.length_append, List.length_singleton]; omega, rfl⟩
      rcases List.mem_append.mp hb' with z | z
      · exact hb b z
      · cases List.mem_singleton.mp z; exact v2_2 hh vm
    case p3 =>
      rintro e ⟨bs, x12, hb, hbl, rfl⟩
      refine wst (e := E x7 (some (.int k)) (some (wy hs)) (some (.int hg)) (some (.lst bs)) x12 none x14 x15) (by simp [E, frz_own (List.all_eq_true.mpr fun b h => v2_frz (hb b h))]) ?_
      refine wseq ?_
      refine wfor bs (by simp [E]) (fun _ e => ∃ x13, e = E x7 (some (.int k)) (some (wy hs)) (some (.int hg)) (some (.lst bs)) x12 x13 x14 x15) ⟨none, rfl⟩ ?r2 ?r3
      case r2 =>
        rintro j b e hj ⟨x13, rfl⟩
        have vb := hb b (List.mem_of_getElem? hj)
        have fb := v2_frz vb
        refine ⟨E x7 (some (.int k)) (some (wy hs)) (some (.int hg)) (some (.lst bs)) x12 (some b) x14 x15, by simp [E], ?_⟩
        exact wifF (by simp [E, N, WL, C, hz, hfz, fb, freeze_frz fb, SI vb hg]) (wnxS ⟨_, rfl⟩)
      case r3 =>
        rintro e ⟨x13, rfl⟩
        have vb : V2 (.tup [.str "heights", wy hs]) := v2_2 hh vh
        exact wret (d := .bl true) (by simp [E, N, WL, C, hz, hfz, show 2 ≤ big by decide, SI vb hg, SN vb]) rfl

end K23
end
section
set_option maxHeartbeats 2000000
namespace K23
open PySem DL
/-! what is asked of sides -/
theorem add_wy {xs ys : List Int} (h : xs.length + ys.length ≤ 1000) : addD (wy xs) (wy ys) = some (wy (xs ++ ys)) := by
  rw [add_tup (by rw [List.length_map, List.length_map]; unfold big; omega)]
  show _ = some (DV.tup ((xs ++ ys).map DV.int))
  rw [List.map_append]
theorem side_said_spec {m : Nat} {rs : List Row} {s g : Int} {ws cut : List Int} (W : Wd m rs s g ws) (hm2 : 2 ≤ m) {c : DV} (hc : c = .lst (ws.map .int) ∨ c = .tup (ws.map .int)) {sd : List Int} (hl : sd.length ≤ m + 1) (dr : Int) :
    h__law_side_said [netI m rs, wld m rs s g cut ws, c, .lst (sd.map .int), .int dr] = .ok (.bl true) := by
  have mm : ∀ (x m : Int), 0 < m → modD (.int x) (.int m) = some (.int (x % m)) := fun x m h => mod_pos h
  have m1 := W.m1
  have hz : isFrz c = true := by rcases hc with rfl | rfl <;> rfl
  have hfz : freeze c = c := freeze_frz hz
  have SI : ∀ {b : DV} (_ : V2 b) (w : Int), h__law_says [netI m rs, wld m rs s g cut ws, c, b, .int w] = .ok (.bl true) := fun hb w => says_spec W hc hb (some w)
  have SN : ∀ {b : DV} (_ : V2 b), h__law_says [netI m rs, wld m rs s g cut ws, c, b, .non] = .ok (.bl true) := fun hb => says_spec W hc hb none
  have hh := v1_str okS1
  have b0 : 0 ≤ big := by decide
  have b1 : 1 ≤ big := by decide
  have b2 : 2 ≤ big := by decide
  have b3 : 3 ≤ big := by decide
  let N : Option DV := some (netI m rs)
  let WL : Option DV := some (wld m rs s g cut ws)
  let C : Option DV := some c
  let H : Option DV := some (.lst (sd.map .int))
  let D : Option DV := some (.int dr)
  let M : Option DV := some (.int (m : Int))
  unfold h__law_side_said
  refine wfn' rfl ?_
  simp only [List.map_cons, List.map_nil, List.replicate, List.cons_append, List.nil_append]
  unfold G__law_side_said
  let E : List DV → Option DV → Option DV → Option DV → Option DV → Option DV → Option DV → Slots := fun bs x7 x8 x9 x10 x11 x12 => [N, WL, C, H, D, M, some (.own bs), x7, x8, x9, x10, x11, x12, none]
  refine wst (e := [N, WL, C, H, D, M, none, none, none, none, none, none, none, none]) (by simp [N, WL, C, H, D, M]) ?_
  refine wst (e := E [] none none none none none none) (by simp [E, b0]) ?_
  refine wseq ?_
  refine wforR (if 7 < m then 7 else m) ?a1 (by split <;> omega) (fun i e => ∃ bs x7 x9 x12, (∀ b ∈ bs, V2 b) ∧ bs.length = i ∧ e = E bs x7 none x9 none none x12) ⟨[], none, none, none, (fun _ h => nomatch h), rfl, rfl⟩ ?a2 ?a3
  case a1 =>
    by_cases z : 7 < m
    · have z2 : (7 : Int) < (m : Int) := by omega
      simp [E, M, min2D, z, z2]
    · have z2 : ¬ (7 : Int) < (m : Int) := by omega
      simp [E, M, min2D, z, z2]
  case a2 =>
    rintro i e hi ⟨bs, x7, x9, x12, hb, hbl, rfl⟩
    have hi7 : i < 7 := by split at hi <;> omega
    generalize ha : ((i : Int) + dr) % (m : Int) = a
    refine ⟨E bs (some (.int i)) none x9 none none x12, by simp [E], ?_⟩
    refine wst (e := E bs (some (.int i)) none (some (.int a)) none none x12) (by simp [E, D, M, mm _ _ (show (0 : Int) < (m : Int) by omega), ha]) ?_
    have k1 := comp_rngF (env := E bs (some (.int i)) none (some (.int a)) none none x12) (i := 5) (j := 13) (m := m) (ft := tst (op2 neD (op2 inD (var 13) (var 3)) (op2 eqD (var 13) (var 9)))) (fun (p : Nat) => decide ((p : Int) ∈ sd) != decide ((p : Int) = a)) rfl (Nat.le_of_ble_eq_true rfl) (by omega) fun p hp => by
      simp only [tst_app, op2_app, E, H, var_app, List.set_cons_succ, List.set_cons_zero, List.getElem?_cons_succ, List.getElem?_cons_zero, bind_ok, in_lstI, eq_int, ne_bb, lift_some]
    have hsl := side_len (m := m) (fun (p : Nat) => decide ((p : Int) ∈ sd) != decide ((p : Int) = a))
    generalize (((List.range m).filter (fun (p : Nat) => decide ((p : Int) ∈ sd) != decide ((p : Int) = a))).map fun k : Nat => (k : Int)) = ns at k1 hsl
    refine wst (e := E bs (some (.int i)) none (some (.int a)) none none (some (.lst (ns.map .int)))) (by rw [setF_app, k1]; simp [E]) ?_
    have vb : V2 (.tup [.str "closed", wy ns]) := v2_2 hh (v1_ints (by omega))
    refine wnx (app_to (i := 6) (d := .tup [.str "closed", wy ns]) rfl (by simp [E, b2]) (by unfold big; omega)) ⟨bs ++ [.tup [.str "closed", wy ns]], _, _, _, fun b hb' => ?_, by rw [List.length_append, List.length_singleton]; omega, rfl⟩
    rcases List.mem_append.mp hb' with z | z
    · exact hb b z
    · cases List.mem_singleton.mp z; exact vb
  case a3 =>
    rintro e ⟨bs, x7, x9, x12, hb, hbl, rfl⟩
    have hbl : bs.length ≤ 7 := by rw [hbl]; split <;> omega
    have hlen : (sd.map DV.int).length = sd.length := List.length_map ..
    refine wst (e := E bs x7 (some (wy sd)) x9 none none x12) (by simp [E, H]) ?_
    obtain ⟨q, hq, eq⟩ : ∃ q : Int, 0 < q ∧ opN (two max2D) (consL (cst (.int 1)) (consL (opN (one lenD) (consL (var 3) nilL)) nilL)) (E bs x7 (some (wy sd)) x9 none none x12) = .ok (.int q) := by
      by_cases z : (sd.length : Int) > 1
      · exact ⟨sd.length, by omega, by simp [E, H, max2D]; omega⟩
      · exact ⟨1, by omega, by simp [E, H, max2D]; omega⟩
    have kn := Int.emod_nonneg (dr / 64) (show q ≠ 0 by omega)
    refine wst (e := E bs x7 (some (wy sd)) (some (.int (dr / 64 % q))) none none x12) (by
      rw [setF_app, op2_app, eq]
      simp [E, D, mm _ _ hq, div_pos (show (0 : Int) < 64 by decide) (show (64 : Int) < 2 ^ 250 by decide)]) ?_
    generalize dr / 64 % q = k at kn
    have c1 : ∀ lo hi, cutL (sd.map DV.int) lo hi = (cutL sd lo hi).map .int := fun lo hi => cutL_map ..
    have cl := fun lo hi => cutL_len sd lo hi
    let bs1 : List DV := [.tup [.str "heights", wy sd], .tup [.str "side", wy sd], wy sd, .tup [.str "closed"], .tup [.str "closed", wy sd, .int 0], .tup [.tup [.str "closed", wy sd]], .tup [.str "closed", .non]]
    have vs := v1_ints (ns := sd) (by omega)
    have hb1 : ∀ b ∈ bs1, V2 b := by
      intro b hb
      simp only [bs1, List.mem_cons, List.not_mem_nil, or_false] at hb
      rcases hb with rfl | rfl | rfl | rfl | rfl | rfl | rfl
      · exact v2_2 (v1_str okS2) vs
      · exact v2_2 (v1_str okS3) vs
      · exact v2_ints (by omega)
      · exact v2_1 hh
      · exact v2_3 hh vs (v1_int 0)
      · exact v2_1 (v1_tup (fun x hx => by
          simp only [List.mem_cons, List.not_mem_nil, or_false] at hx
          rcases hx with rfl | rfl
          · exact okS1
          · trivial) (Nat.le_of_ble_eq_true rfl))
      · exact v2_2 hh (v1_of trivial fun _ z => by cases z)
    have allf : ∀ {bs : List DV}, (∀ b ∈ bs, V2 b) → bs.all isFrz = true := fun h => List.all_eq_true.mpr fun b hb => v2_frz (h b hb)
    have join : ∀ {xs ys : List DV}, (∀ b ∈ xs, V2 b) → (∀ b ∈ ys, V2 b) → ∀ b ∈ xs ++ ys, V2 b := fun h1 h2 b hb => by
      rcases List.mem_append.mp hb with z | z
      · exact h1 b z
      · exact h2 b z
    have a1 := add_own (allf hb) (allf hb1) (show bs.length + 7 ≤ 1000 by omega)
    refine wst (e := E (bs ++ bs1) x7 (some (wy sd)) (some (.int k)) none none x12) (by
      have e1 : var 6 (E bs x7 (some (wy sd)) (some (.int k)) none none x12) = .ok (.own bs) := rfl
      have e2 : lstV (consL (tupV (consL (cst (.str "heights")) (consL (fz (var 8)) nilL))) (consL (tupV (consL (cst (.str "side")) (consL (fz (var 8)) nilL))) (consL (fz (var 8)) (consL (tupV (consL (cst (.str "closed")) nilL)) (consL (tupV (consL (cst (.str "closed")) (consL (fz (var 8)) (consL (cst (.int 0)) nilL)))) (consL (tupV (consL (tupV (consL (cst (.str "closed")) (consL (fz (var 8)) nilL))) nilL)) (consL (tupV (consL (cst (.str "closed")) (consL (cst .non) nilL))) nilL))))))) (E bs x7 (some (wy sd)) (some (.int k)) none none x12) = .ok (.own bs1) := by
        simp [E, b1, b2, b3, show 7 ≤ big by decide, bs1]
      rw [setS_app, op2_app, e1, bind_ok, e2]
      simp only [bind_ok, a1, lift_some]; rfl) ?_
    have hb := join hb hb1
    have hbl : (bs ++ bs1).length ≤ 14 := by rw [List.length_append]; show _ + 7 ≤ 14; omega
    generalize bs ++ bs1 = bs at hb hbl
    have t0 := cl none (some k)
    have t1 := cl (some k) (some (k + 1))
    have t2 := cl (some k) none
    have t3 := cl (some 1) none
    have t4 := cl none (some 1)
    have d0 := c1 none (some k)
    have d1 := c1 (some k) (some (k + 1))
    have d2 := c1 (some k) none
    have d3 := c1 (some 1) none
    have d4 := c1 none (some 1)
    generalize cutL sd none (some k) = u0 at t0 d0
    generalize cutL sd (some k) (some (k + 1)) = u1 at t1 d1
    generalize cutL sd (some k) none = u2 at t2 d2
    generalize cutL sd (some 1) none = u3 at t3 d3
    generalize cutL sd none (some 1) = u4 at t4 d4
    let bs2 : List DV := [.tup [.str "closed", wy (sd ++ [(m : Int)])], .tup [.str "closed", wy ([-1] ++ sd)], .tup [.str "closed", wy (u0 ++ u1 ++ u2)]]
    have hb2 : ∀ b ∈ bs2, V2 b := by
      intro b hb
      simp only [bs2, List.mem_cons, List.not_mem_nil, or_false] at hb
      rcases hb with rfl | rfl | rfl
      · exact v2_2 hh (v1_ints (by simp; omega))
      · exact v2_2 hh (v1_ints (by simp; omega))
      · exact v2_2 hh (v1_ints (by simp; omega))
    have a2 := add_own (allf hb) (allf hb2) (show bs.length + 3 ≤ 1000 by omega)
    have w1 : addD (wy sd) (wy [(m : Int)]) = _ := add_wy (by show sd.length + 1 ≤ 1000; omega)
    have w2 : addD (wy [-1]) (wy sd) = _ := add_wy (by show 1 + sd.length ≤ 1000; omega)
    have w3 : addD (wy u0) (wy u1) = _ := add_wy (by omega)
    have w4 : addD (wy (u0 ++ u1)) (wy u2) = _ := add_wy (by rw [List.length_append]; omega)
    refine wst (e := E (bs ++ bs2) x7 (some (wy sd)) (some (.int k)) none none x12) (by
      have e1 : var 6 (E bs x7 (some (wy sd)) (some (.int k)) none none x12) = .ok (.own bs) := rfl
      have e2 : lstV (consL (tupV (consL (cst (.str "closed")) (consL (op2 addD (var 8) (tupV (consL (fz (var 5)) nilL))) nilL))) (consL (tupV (consL (cst (.str "closed")) (consL (op2 addD (tupV (consL (negV (cst (.int 1))) nilL)) (var 8)) nilL))) (consL (tupV (consL (cst (.str "closed")) (consL (shr (op2 addD (op2 addD (slV (var 8) noPart (part (var 9))) (slV (var 8) (part (var 9)) (part (op2 addD (var 9) (cst (.int 1)))))) (slV (var 8) (part (var 9)) noPart))) nilL))) nilL))) (E bs x7 (some (wy sd)) (some (.int k)) none none x12) = .ok (.own bs2) := by
        have y1 : op2 addD (var 8) (tupV (consL (fz (var 5)) nilL)) (E bs x7 (some (wy sd)) (some (.int k)) none none x12) = .ok (wy (sd ++ [(m : Int)])) := by
          rw [op2_app, show var 8 (E bs x7 (some (wy sd)) (some (.int k)) none none x12) = .ok (wy sd) from rfl, show tupV (consL (fz (var 5)) nilL) (E bs x7 (some (wy sd)) (some (.int k)) none none x12) = .ok (wy [(m : Int)]) by simp [E, M, b1]]
          simp only [bind_ok, w1, lift_some]
        have y2 : op2 addD (tupV (consL (negV (cst (.int 1))) nilL)) (var 8) (E bs x7 (some (wy sd)) (some (.int k)) none none x12) = .ok (wy ([-1] ++ sd)) := by
          rw [op2_app, show var 8 (E bs x7 (some (wy sd)) (some (.int k)) none none x12) = .ok (wy sd) from rfl, show tupV (consL (negV (cst (.int 1))) nilL) (E bs x7 (some (wy sd)) (some (.int k)) none none x12) = .ok (wy [-1]) by simp [b1]]
          simp only [bind_ok, w2, lift_some]
        have y3 : op2 addD (op2 addD (slV (var 8) noPart (part (var 9))) (slV (var 8) (part (var 9)) (part (op2 addD (var 9) (cst (.int 1)))))) (slV (var 8) (part (var 9)) noPart) (E bs x7 (some (wy sd)) (some (.int k)) none none x12) = .ok (wy (u0 ++ u1 ++ u2)) := by
          rw [op2_app, op2_app, show slV (var 8) noPart (part (var 9)) (E bs x7 (some (wy sd)) (some (.int k)) none none x12) = .ok (wy u0) by simp [E, d0], show slV (var 8) (part (var 9)) (part (op2 addD (var 9) (cst (.int 1)))) (E bs x7 (some (wy sd)) (some (.int k)) none none x12) = .ok (wy u1) by simp [E, d1], show slV (var 8) (part (var 9)) noPart (E bs x7 (some (wy sd)) (some (.int k)) none none x12) = .ok (wy u2) by simp [E, d2]]
          simp only [bind_ok, w3, lift_some, w4]
        rw [lstV_app, consL_app, consL_app, consL_app, tupV_app, consL_app, consL_app, y1, tupV_app, consL_app, consL_app, y2, tupV_app, consL_app, consL_app, shr_app, y3]
        simp [b2, b3, bs2]
      rw [setS_app, op2_app, e1, bind_ok, e2]
      simp only [bind_ok, a2, lift_some]; rfl) ?_
    have hb := join hb hb2
    have hbl : (bs ++ bs2).length ≤ 17 := by rw [List.length_append]; show _ + 3 ≤ 17; omega
    generalize bs ++ bs2 = bs at hb hbl
    let bs3 : List DV := [.tup [.str "closed", wy (u3 ++ u4)], .tup [.str "closed", .tup (u0.map .int ++ [.non] ++ u2.map .int)], .tup [.str "closed", .tup (sd.map .int ++ [.str "a"])], .tup [.int 0, wy sd]]
    have hb3 : ∀ b ∈ bs3, V2 b := by
      intro b hb
      simp only [bs3, List.mem_cons, List.not_mem_nil, or_false] at hb
      rcases hb with rfl | rfl | rfl | rfl
      · exact v2_2 hh (v1_ints (by simp; omega))
      · exact v2_2 hh (mix_V1 trivial (by omega))
      · have := mix_V1 (xs := sd) (ys := []) (d := .str "a") okS4 (by simp; omega)
        simp only [List.map_nil, List.append_nil] at this
        exact v2_2 hh this
      · exact v2_2 (v1_int 0) vs
    have a3 := add_own (allf hb) (allf hb3) (show bs.length + 4 ≤ 1000 by omega)
    have w5 : addD (wy u3) (wy u4) = _ := add_wy (by omega)
    have w6 : addD (wy u0) (.tup [.non]) = some (.tup (u0.map .int ++ [.non])) := add_tup (by rw [List.length_map]; show _ + 1 ≤ big; unfold big; omega)
    have w7 : addD (.tup (u0.map .int ++ [.non])) (wy u2) = some (.tup (u0.map .int ++ [.non] ++ u2.map .int)) := add_tup (by rw [List.length_append, List.length_map, List.length_map]; show _ + 1 + _ ≤ big; unfold big; omega)
    have w8 : addD (wy sd) (.tup [.str "a"]) = some (.tup (sd.map .int ++ [.str "a"])) := add_tup (by rw [List.length_map]; show _ + 1 ≤ big; unfold big; omega)
    refine wst (e := E (bs ++ bs3) x7 (some (wy sd)) (some (.int k)) none none x12) (by
      have e1 : var 6 (E bs x7 (some (wy sd)) (some (.int k)) none none x12) = .ok (.own bs) := rfl
      have e2 : lstV (consL (tupV (consL (cst (.str "closed")) (consL (shr (op2 addD (slV (var 8) (part (cst (.int 1))) noPart) (slV (var 8) noPart (part (cst (.int 1)))))) nilL))) (consL (tupV (consL (cst (.str "closed")) (consL (shr (op2 addD (op2 addD (slV (var 8) noPart (part (var 9))) (tupV (consL (cst .non) nilL))) (slV (var 8) (part (var 9)) noPart))) nilL))) (consL (tupV (consL (cst (.str "closed")) (consL (op2 addD (var 8) (tupV (consL (cst (.str "a")) nilL))) nilL))) (consL (tupV (consL (cst (.int 0)) (consL (fz (var 8)) nilL))) nilL)))) (E bs x7 (some (wy sd)) (some (.int k)) none none x12) = .ok (.own bs3) := by
        have y1 : op2 addD (slV (var 8) (part (cst (.int 1))) noPart) (slV (var 8) noPart (part (cst (.int 1)))) (E bs x7 (some (wy sd)) (some (.int k)) none none x12) = .ok (wy (u3 ++ u4)) := by
          rw [op2_app, show slV (var 8) (part (cst (.int 1))) noPart (E bs x7 (some (wy sd)) (some (.int k)) none none x12) = .ok (wy u3) by simp [E, d3], show slV (var 8) noPart (part (cst (.int 1))) (E bs x7 (some (wy sd)) (some (.int k)) none none x12) = .ok (wy u4) by simp [E, d4]]
          simp only [bind_ok, w5, lift_some]
        have y2 : op2 addD (op2 addD (slV (var 8) noPart (part (var 9))) (tupV (consL (cst .non) nilL))) (slV (var 8) (part (var 9)) noPart) (E bs x7 (some (wy sd)) (some (.int k)) none none x12) = .ok (.tup (u0.map .int ++ [.non] ++ u2.map .int)) := by
          rw [op2_app, op2_app, show slV (var 8) noPart (part (var 9)) (E bs x7 (some (wy sd)) (some (.int k)) none none x12) = .ok (wy u0) by simp [E, d0], show tupV (consL (cst .non) nilL) (E bs x7 (some (wy sd)) (some (.int k)) none none x12) = .ok (.tup [.non]) by simp [b1], show slV (var 8) (part (var 9)) noPart (E bs x7 (some (wy sd)) (some (.int k)) none none x12) = .ok (wy u2) by simp [E, d2]]
          simp only [bind_ok, w6, lift_some, w7]
        have y3 : op2 addD (var 8) (tupV (consL (cst (.str "a")) nilL)) (E bs x7 (some (wy sd)) (some (.int k)) none none x12) = .ok (.tup (sd.map .int ++ [.str "a"])) := by
          rw [op2_app, show var 8 (E bs x7 (some (wy sd)) (some (.int k)) none none x12) = .ok (wy sd) from rfl, show tupV (consL (cst (.str "a")) nilL) (E bs x7 (some (wy sd)) (some (.int k)) none none x12) = .ok (.tup [.str "a"]) by simp [b1]]
          simp only [bind_ok, w8, lift_some]
        rw [lstV_app, consL_app, consL_app, consL_app, consL_app, tupV_app, consL_app, consL_app, shr_app, y1, tupV_app, consL_app, consL_app, shr_app, y2, tupV_app, consL_app, consL_app, y3]
        simp [E, b2, show 4 ≤ big by decide, bs3]
      rw [setS_app, op2_app, e1, bind_ok, e2]
      simp only [bind_ok, a3, lift_some]; rfl) ?_
    have hb := join hb hb3
    generalize bs ++ bs3 = bs at hb
    let E2 : Option DV → Option DV → Slots := fun x10 x11 => [N, WL, C, H, D, M, some (.lst bs), x7, some (wy sd), some (.int k), x10, x11, x12, none]
    refine wst (e := E2 none none) (by simp [E, E2, frz_own (allf hb)]) ?_
    refine wseq ?_
    refine wfor bs (by simp [E2]) (fun _ e => ∃ x10, e = E2 x10 none) ⟨none, rfl⟩ ?r2 ?r3
    case r2 =>
      rintro j b e hj ⟨x10, rfl⟩
      have vb := hb b (List.mem_of_getElem? hj)
      have fb := v2_frz vb
      refine ⟨E2 (some b) none, by simp [E2], ?_⟩
      exact wifF (by simp [E2, N, WL, C, hz, hfz, fb, freeze_frz fb, SN vb]) (wnxS ⟨_, rfl⟩)
    case r3 =>
      rintro e ⟨x10, rfl⟩
      have vb : V2 (.tup [.str "closed", wy sd]) := v2_2 hh vs
      refine wseq ?_
      refine wfor [.non, .int 0, .int (dr % 9)] (by simp [E2, D, mm, b3]) (fun _ e => ∃ x11, e = E2 x10 x11) ⟨none, rfl⟩ ?s2 ?s3
      case s2 =>
        rintro j d e hj ⟨x11, rfl⟩
        refine ⟨E2 x10 (some d), by simp [E2], ?_⟩
        have := List.mem_of_getElem? hj
        simp only [List.mem_cons, List.not_mem_nil, or_false] at this
        rcases this with rfl | rfl | rfl
        · exact wifF (by simp [E2, N, WL, C, hz, hfz, b2, SN vb]) (wnxS ⟨_, rfl⟩)
        · exact wifF (by simp [E2, N, WL, C, hz, hfz, b2, SI vb]) (wnxS ⟨_, rfl⟩)
        · exact wifF (by simp [E2, N, WL, C, hz, hfz, b2, SI vb]) (wnxS ⟨_, rfl⟩)
      case s3 =>
        rintro e ⟨x11, rfl⟩
        exact wret (d := .bl true) (by simp) rfl

end K23
end
section
set_option maxHeartbeats 2000000
namespace K23
open PySem DL
theorem weights_spec (ns : List Int) {m : Nat} {rs : List Row} (hl : rs.length < 33) (ok : ∀ x ∈ rs, RowOk m x) : ∃ ws : List Int, ws.length = rs.length ∧ (∀ w ∈ ws, 0 ≤ w ∧ w < LIM) ∧ h__law_weights [scr ns, rws rs] = .ok (.own (ws.map .int)) := by
  obtain ⟨hx, hlen, hdr, hhead⟩ := draws_spec ns 34 2 (by omega) (by decide)
  have hhead : h__law_draws [scr ns, .int 34, .int 2] = .ok (.own (hx.map .int)) := hhead
  have mm : ∀ (x m : Int), 0 < m → modD (.int x) (.int m) = some (.int (x % m)) := fun x m h => mod_pos h
  have lb := lim_big
  obtain ⟨y0, k0, c0⟩ := dr_at hdr 0 (by omega)
  obtain ⟨y1, k1, c1⟩ := dr_at hdr 1 (by omega)
  have k0 := get_ints k0
  have k1 := get_ints k1
  let S : Option DV := some (scr ns)
  let R : Option DV := some (rws rs)
  let HD : Option DV := some (.lst (hx.map .int))
  obtain ⟨d, h1, ws, h2, h3, rfl⟩ := wfn (n := 2) (m := 4) (G := G__law_weights) (ds := [scr ns, rws rs]) (T := fun d => ∃ ws : List Int, ws.length = rs.length ∧ (∀ w ∈ ws, 0 ≤ w ∧ w < LIM) ∧ d = .own (ws.map .int)) rfl (by
    simp only [List.map_cons, List.map_nil, List.replicate, List.cons_append, List.nil_append]
    unfold G__law_weights
    refine wst (e := [S, R, HD, none, none, none]) (by simp [hhead, S, R, HD]) ?_
    refine wst (e := [S, R, HD, some (.own []), none, none]) (by simp [show 0 ≤ big by decide, S, R, HD]) ?_
    refine wseq ?_
    refine wforR rs.length ?c1 ?c2 (fun i e => ∃ (ws : List Int) (x4 x5 : Option DV), ws.length = i ∧ (∀ w ∈ ws, 0 ≤ w ∧ w < LIM) ∧ e = [S, R, HD, some (.own (ws.map .int)), x4, x5]) ?c3 ?c4 ?c5
    case c1 => simp [R]
    case c2 => omega
    case c3 => exact ⟨[], none, none, rfl, (fun _ h => nomatch h), rfl⟩
    case c4 =>
      rintro i e hi ⟨ws, x4, x5, hws, hwb, rfl⟩
      have hlt : (ws.map DV.int).length < big := by rw [List.length_map]; unfold big; omega
      obtain ⟨ds, dlen, ddr, hds⟩ := draws_spec ns (35 + i % 16) (10 + i) (by omega) (by omega)
      have hds : h__law_draws [scr ns, .int (35 + (i : Int) % 16), .int (10 + (i : Int))] = .ok (.own (ds.map .int)) := by
        have e1 : ((35 + i % 16 : Nat) : Int) = 35 + (i : Int) % 16 := by omega
        have e2 : ((10 + i : Nat) : Int) = 10 + (i : Int) := by omega
        rw [← e1, ← e2]; exact hds
      have fin : ∀ r : Int, 0 ≤ r ∧ r < LIM → ∃ (ws' : List Int) (x4 x5 : Option DV), ws'.length = i + 1 ∧ (∀ w ∈ ws', 0 ≤ w ∧ w < LIM) ∧ [S, R, HD, some (.own (ws.map .int)), some (.int i), some (.lst (ds.map .int))].set 3 (some (.own (ws.map .int ++ [.int r]))) = [S, R, HD, some (.own (ws'.map .int)), x4, x5] := fun r hr =>
        ⟨ws ++ [r], some (.int i), some (.lst (ds.map .int)), by simp [hws], fun w hw => by
          rcases List.mem_append.mp hw with z | z
          · exact hwb w z
          · cases List.mem_singleton.mp z; exact hr, by simp⟩
      refine ⟨_, by simp; rfl, ?_⟩
      refine wst (e := [S, R, HD, some (.own (ws.map .int)), some (.int i), some (.lst (ds.map .int))]) (by simp [hds, mm, S, R, HD]) ?_
      obtain ⟨x, gx, bx⟩ := dr_at ddr i (by omega)
      by_cases z0 : y0 % 8 = 0
      · exact wifT (by simp [k0, mm, z0, S, R, HD]) (wnx (app_to (i := 3) (d := .int 0) rfl (by simp) hlt) (fin 0 (by omega)))
      refine wifF (by simp [k0, mm, z0, S, R, HD]) ?_
      by_cases z : y0 % 8 = 1
      · have hc : ∀ x ∈ cutL ds (some (i : Int)) (some ((i : Int) + 9)), Dr x := fun x hx => ddr x (List.mem_of_mem_drop (List.mem_of_mem_take hx))
        have hcl : (cutL ds (some (i : Int)) (some ((i : Int) + 9))).length ≤ 9 := by
          unfold cutL
          have e9 : (i : Int) + 9 = ((i + 9 : Nat) : Int) := by omega
          rw [e9, HT.sIx_nat, HT.sIx_nat, List.length_take, List.length_drop]
          omega
        obtain ⟨r, br, hr⟩ := long_spec hc hcl
        refine wifT (by simp [k0, mm, z, S, R, HD]) (wnx (app_to (i := 3) (d := .int r) rfl ?_ hlt) (fin r br))
        simp [cutL_map, hr]
      refine wifF (by simp [k0, mm, z, S, R, HD]) ?_
      by_cases z2 : y0 % 8 < 5
      · obtain ⟨r, br, hr⟩ := number_spec bx.1 (y1 % 6)
        unfold Nb at br
        refine wifT (by simp [k0, mm, z2, S, R, HD]) (wnx (app_to (i := 3) (d := .int r) rfl ?_ hlt) (fin r (by omega)))
        simp [atI_nat, get_ints gx, k1, mm, hr, S, R, HD]
      · have hr : rs[i]? = some rs[i] := List.getElem?_eq_getElem hi
        have o := (ok _ (List.getElem_mem hi)).l
        unfold Nb at o
        generalize rs[i] = r at hr o
        refine wifF (by simp [k0, mm, z2, S, R, HD]) (wnx (app_to (i := 3) (d := .int r.l) rfl ?_ hlt) (fin r.l (by omega)))
        simp [rows_ix hr, show ixD r.dv (.int 2) = some (.int r.l) from rfl, S, R, HD]
    case c5 =>
      rintro _ ⟨ws, x4, x5, hws, hwb, rfl⟩
      exact wretM rfl ⟨ws, hws, hwb, rfl⟩)
  exact ⟨ws, h2, h3, h1⟩

end K23
end
section
set_option maxHeartbeats 2000000
namespace K23
open PySem DL
theorem freeze_LL (hss : List (List Int)) : freeze (.own (hss.map fun hs => .lst (hs.map .int))) = LL hss := frz_own (frz_LL hss)
theorem pure_law (ns : List Int) (hns : ns.length ≤ 63) : h_law [.scr (ns.map DV.int)] = .ok (.bl true) := by
  obtain ⟨m, rs, s, g, cut, W0, hworld⟩ := world_spec ns
  have hnet := net_spec (m := m) (rs := rs) (by have := W0.m0; omega) W0.m1 W0.l W0.ok
  obtain ⟨ws, hwl, hwb, hws⟩ := weights_spec ns W0.l W0.ok
  have W : Wd m rs s g ws := ⟨W0.m1, W0.l, W0.ok, W0.s0, W0.s1, W0.g0, W0.g1, hwl⟩
  have hm2 := W0.m0
  obtain ⟨ds, dlen, ddr, hds⟩ := draws_spec ns 51 22 (by decide) (by decide)
  have hds : h__law_draws [scr ns, .int 51, .int 22] = .ok (.own (ds.map .int)) := hds
  have mm : ∀ (x m : Int), 0 < m → modD (.int x) (.int m) = some (.int (x % m)) := fun x m h => mod_pos h
  obtain ⟨hss, hl10, hlm, ehs⟩ := all_heights_spec (cut := cut) W hwb ddr (by omega)
  obtain ⟨sss, sl7, slm, ess⟩ := all_sides_spec (cut := cut) W hwb ddr (by omega)
  have dat : ∀ j : Nat, j < 22 → ∃ x, L2.atI (ds.map DV.int) (j : Int) = some (.int x) := fun j hj => by
    obtain ⟨x, hx, _⟩ := dr_at ddr j (by omega)
    exact ⟨x, by rw [atI_nat]; exact get_ints hx⟩
  obtain ⟨x2, e2⟩ := dat 2 (by decide)
  obtain ⟨x4, e4⟩ := dat 4 (by decide)
  have e2 : L2.atI (ds.map DV.int) 2 = some (.int x2) := e2
  have e4 : L2.atI (ds.map DV.int) 4 = some (.int x4) := e4
  have b0 : 0 ≤ big := by decide
  have b2 : 2 ≤ big := by decide
  have b3 : 3 ≤ big := by decide
  have b5 : 5 ≤ big := by decide
  have b7 : 7 ≤ big := by decide
  let S : Option DV := some (scr ns)
  let M : Option DV := some (.int (m : Int))
  let RS : Option DV := some (rws rs)
  let EN : Option DV := some (en s g)
  let CU : Option DV := some (wy cut)
  let L : Option DV := some (.lst (ws.map .int))
  let WL : Option DV := some (wld m rs s g cut ws)
  let N : Option DV := some (netI m rs)
  let D : Option DV := some (.lst (ds.map .int))
  unfold h_law
  refine wfn' rfl ?_
  simp only [List.map_cons, List.map_nil, List.replicate, List.cons_append, List.nil_append]
  unfold G_law
  refine wst (e := [S, M, RS, EN, CU, none, none, none, none, none, none, none, none, none, none]) (by simp [hworld, S, M, RS, EN, CU]) ?_
  refine wst (e := [S, M, RS, EN, CU, L, none, none, none, none, none, none, none, none, none]) (by simp [hws, S, M, RS, EN, CU, L]) ?_
  refine wst (e := [S, M, RS, EN, CU, L, WL, none, none, none, none, none, none, none, none]) (by simp [b5, S, M, RS, EN, CU, L, WL]) ?_
  refine wst (e := [S, M, RS, EN, CU, L, WL, N, none, none, none, none, none, none, none]) (by simp [hnet, freeze_net, S, M, RS, EN, CU, L, WL, N]) ?_
  refine wst (e := [S, M, RS, EN, CU, L, WL, N, D, none, none, none, none, none, none]) (by simp [hds, S, M, RS, EN, CU, L, WL, N, D]) ?_
  refine wst (e := [S, M, RS, EN, CU, L, WL, N, D, L, none, none, none, none, none]) (by simp [S, M, RS, EN, CU, L, WL, N, D]) ?_
  refine wex (I := fun e => ∃ c : DV, (c = .lst (ws.map .int) ∨ c = .tup (ws.map .int)) ∧ e = [S, M, RS, EN, CU, L, WL, N, D, some c, none, none, none, none, none]) ?_ ?_
  · have i4 : op2 ixD (var 8) (cst (.int 4)) [S, M, RS, EN, CU, L, WL, N, D, L, none, none, none, none, none] = .ok (.int x4) := by
      rw [op2_app]; show (lift (L2.atI (ds.map DV.int) 4)) = _; rw [e4]; rfl
    have t4 : tst (op2 eqD (op2 modD (opN (one intD1) (consL (op2 ixD (var 8) (cst (.int 4))) nilL)) (cst (.int 2))) (cst (.int 1))) [S, M, RS, EN, CU, L, WL, N, D, L, none, none, none, none, none] = .ok (decide (x4 % 2 = 1)) := by
      rw [tst_app, op2_app, op2_app, opN_app, consL_app, i4]
      simp [mm]
    by_cases z : x4 % 2 = 1
    · exact ⟨_, by rw [ifS_app, t4, decide_eq_true z]; simp [L], _, .inr rfl, rfl⟩
    · exact ⟨_, by rw [ifS_app, t4, decide_eq_false z]; rfl, _, .inl rfl, rfl⟩
  rintro _ ⟨c, hc, rfl⟩
  have hz : isFrz c = true := by rcases hc with rfl | rfl <;> rfl
  have hfz : freeze c = c := freeze_frz hz
  have hlc : listD c = some (.own (ws.map .int)) := by rcases hc with rfl | rfl <;> simp
  have SI : ∀ {b : DV} (_ : V2 b) (w : Int), h__law_says [netI m rs, wld m rs s g cut ws, c, b, .int w] = .ok (.bl true) := fun hb w => says_spec W hc hb (some w)
  have SN : ∀ {b : DV} (_ : V2 b), h__law_says [netI m rs, wld m rs s g cut ws, c, b, .non] = .ok (.bl true) := fun hb => says_spec W hc hb none
  refine wst (e := [S, M, RS, EN, CU, L, WL, N, D, some c, some (LL hss), none, none, none, none]) (by simp [ehs, freeze_LL, S, M, RS, EN, CU, L, WL, N, D]) ?_
  let E : Option DV → Option DV → Option DV → Slots := fun z12 z13 z14 => [S, M, RS, EN, CU, L, WL, N, D, some c, some (LL hss), some (LL sss), z12, z13, z14]
  refine wst (e := E none none none) (by simp [ess, freeze_LL, E, S, M, RS, EN, CU, L, WL, N, D]) ?_
  have LLat : ∀ {hss : List (List Int)} {k : Nat} (h : k < hss.length), L2.atI (hss.map fun hs => DV.lst (hs.map .int)) (k : Int) = some (.lst (hss[k].map .int)) := fun {hss k} h => by rw [atI_nat, List.getElem?_map, List.getElem?_eq_getElem h]; rfl
  refine wseq ?_
  refine wforR 10 (by simp [E, hl10]) (by decide) (fun _ e => ∃ z12, e = E z12 none none) ⟨none, rfl⟩ ?a1 ?a2
  case a1 =>
    rintro k e hk ⟨z12, rfl⟩
    have hk2 : k < hss.length := by omega
    obtain ⟨xk, exk⟩ := dat (5 + k) (by omega)
    have exk : L2.atI (ds.map DV.int) (5 + (k : Int)) = some (.int xk) := by
      have e1 : ((5 + k : Nat) : Int) = 5 + (k : Int) := by omega
      rw [← e1]; exact exk
    have hsp := heights_said_spec (cut := cut) W hm2 hc (hlm _ (List.getElem_mem hk2)) xk
    refine ⟨E (some (.int k)) none none, by simp [E], ?_⟩
    exact wifF (by simp [E, N, WL, D, hz, hfz, LLat hk2, exk, hsp]) (wnxS ⟨_, rfl⟩)
  case a2 =>
    rintro e ⟨z12, rfl⟩
    refine wseq ?_
    refine wforR 7 (by simp [E, sl7]) (by decide) (fun _ e => ∃ z12, e = E z12 none none) ⟨z12, rfl⟩ ?b1 ?b2
    case b1 =>
      rintro k e hk ⟨z12, rfl⟩
      have hk2 : k < sss.length := by omega
      obtain ⟨xk, exk⟩ := dat (15 + k) (by omega)
      have exk : L2.atI (ds.map DV.int) (15 + (k : Int)) = some (.int xk) := by
        have e1 : ((15 + k : Nat) : Int) = 15 + (k : Int) := by omega
        rw [← e1]; exact exk
      have hsp := side_said_spec (cut := cut) W hm2 hc (slm _ (List.getElem_mem hk2)) xk
      refine ⟨E (some (.int k)) none none, by simp [E], ?_⟩
      exact wifF (by simp [E, N, WL, D, hz, hfz, LLat hk2, exk, hsp]) (wnxS ⟨_, rfl⟩)
    case b2 =>
      rintro e ⟨z12, rfl⟩
      have i2 : ∀ z13 z14, opN (one intD1) (consL (op2 ixD (var 8) (cst (.int 2))) nilL) (E z12 z13 z14) = .ok (.int x2) := fun z13 z14 => by
        have : op2 ixD (var 8) (cst (.int 2)) (E z12 z13 z14) = .ok (.int x2) := by
          rw [op2_app]; show (lift (L2.atI (ds.map DV.int) 2)) = _; rw [e2]; rfl
        rw [opN_app, consL_app, this]; rfl
      have j2 : ∀ z13 z14, op2 modD (opN (one intD1) (consL (op2 ixD (var 8) (cst (.int 2))) nilL)) (cst (.int 50)) (E z12 z13 z14) = .ok (.int (x2 % 50)) := fun z13 z14 => by
        rw [op2_app, i2]; simp [mm]
      have ip := init_pos (n := x2 % 50) (d := 3) (by decide) (by decide)
      let q : DV := rt (x2 % 50 / (Int.gcd (x2 % 50) 3 : Nat)) (3 / (Int.gcd (x2 % 50) 3 : Nat))
      have mq : shr (mkV "Ratio" h_Ratio_init dd_Ratio2 (consL (op2 modD (opN (one intD1) (consL (op2 ixD (var 8) (cst (.int 2))) nilL)) (cst (.int 50))) (consL (cst (.int 3)) nilL))) (E z12 none none) = .ok q := by
        rw [shr_app, mkV_app, consL_app, j2]
        simp [dd_Ratio2, ip, frz_rat, q]
      let vals : List DV := [.non, .int 0, .int (x2 % 50), .str "heights", .tup [], q, .tup [.tup [], .tup []]]
      have hvals : ∀ v ∈ vals, V2 v := by
        intro v hv
        simp only [vals, List.mem_cons, List.not_mem_nil, or_false] at hv
        rcases hv with rfl | rfl | rfl | rfl | rfl | rfl | rfl
        · exact v2_of trivial fun _ z => by cases z
        · exact v2_of trivial fun _ z => by cases z
        · exact v2_of trivial fun _ z => by cases z
        · exact v2_of okS2 fun _ z => by cases z
        · exact v2_tup (fun x h => nomatch h) (Nat.le_of_ble_eq_true rfl)
        · exact v2_of rfl fun _ z => by simp [q, rt] at z
        · exact v2_2 (v1_ints (ns := []) (by decide)) (v1_ints (ns := []) (by decide))
      refine wseq ?_
      refine wfor vals ?v1 (fun _ e => ∃ z13 z14, e = E z12 z13 z14) ⟨none, none, rfl⟩ ?v2 ?v3
      case v1 =>
        rw [itS_app, lstV_app, consL_app, consL_app, consL_app, j2, consL_app, consL_app, consL_app, mq]
        simp [b0, b2, b7, vals, q]
      case v2 =>
        rintro j v e hvj ⟨z13, z14, rfl⟩
        have vb := hvals v (List.mem_of_getElem? hvj)
        have fb := v2_frz vb
        refine ⟨E z12 (some v) z14, by simp [E], ?_⟩
        refine wfor [.non, .int 0, .int (x2 % 50)] ?w1 (fun _ e => ∃ z14, e = E z12 (some v) z14) ⟨z14, rfl⟩ ?w2 ?w3
        case w1 =>
          rw [itS_app, lstV_app, consL_app, consL_app, consL_app, j2]
          simp [b3]
        case w3 =>
          rintro e ⟨z14, rfl⟩
          exact ⟨_, _, rfl⟩
        case w2 =>
          rintro j d e hj ⟨z14, rfl⟩
          refine ⟨E z12 (some v) (some d), by simp [E], ?_⟩
          have := List.mem_of_getElem? hj
          simp only [List.mem_cons, List.not_mem_nil, or_false] at this
          rcases this with rfl | rfl | rfl
          · exact wifF (by simp [E, N, WL, hz, hfz, fb, freeze_frz fb, SN vb]) (wnxS ⟨_, rfl⟩)
          · exact wifF (by simp [E, N, WL, hz, hfz, fb, freeze_frz fb, SI vb]) (wnxS ⟨_, rfl⟩)
          · exact wifF (by simp [E, N, WL, hz, hfz, fb, freeze_frz fb, SI vb]) (wnxS ⟨_, rfl⟩)
      case v3 =>
        rintro e ⟨z13, z14, rfl⟩
        exact wret (d := .bl true) (by simp [E, L, hlc]) rfl

end K23
end
section
set_option maxHeartbeats 0
namespace K23
open PySem PySem.Spec L2 PyProof.Rows DL
theorem chain {P : Program} {w : PySem.World} {K : PySem.W.Frag} {mg : Str → Option Value} {base : Heap} (s : Say K mg) {fd : FuncData} (F : FunD K "law" "law" (defArgs (top 61)) (defBody (top 61)) (defScope (top 61)) [] [] (He.fAd K ("law", none)) fd) : Fno false P w K mg base (L2.CX P w) 10 (He.fAd K ("law", none)) fd ["script"] (spP ⟨K, gam K cls⟩ h_law) := by
  have d_is_whole := ok_is_whole (P := P) (w := w) (base := base) s
  have d_is_number := ok_is_number (P := P) (w := w) (base := base) s d_is_whole
  have d_is_row := ok_is_row (P := P) (w := w) (base := base) s
  have d_is_wholes := ok_is_wholes (P := P) (w := w) (base := base) s d_is_row d_is_whole
  have d_is_lot := ok_is_lot (P := P) (w := w) (base := base) s d_is_whole
  have d_has_word := ok_has_word (P := P) (w := w) (base := base) s d_is_row
  obtain ⟨fd_Ratio, F_Ratio⟩ := s.f_Ratio_init
  have i_Ratio := ok_Ratio_init (P := P) (w := w) (base := base) s F_Ratio
  obtain ⟨ds_Ratio1, v_Ratio1, b_Ratio1⟩ := F_Ratio.binds1 (ps := ["self", "n", "d"]) 2 0 (by decide) rfl (fun _ _ _ _ _ _ _ us its hu hi => match us, its, hu, hi with | [_, _], [_], _, _ => ⟨_, rfl, rfl⟩)
  have d_Ratio1 : MkD P w K mg base (gam K cls) "Ratio" 1 dd_Ratio1 h_Ratio_init := ⟨_, _, _, _, _, _, rfl, s.g_Ratio, s.k_Ratio, i_Ratio, b_Ratio1, v_Ratio1, fun _ => (.cons (.int _) .nil)⟩
  obtain ⟨ds_Ratio2, v_Ratio2, b_Ratio2⟩ := F_Ratio.binds1 (ps := ["self", "n", "d"]) 3 1 (by decide) rfl (fun _ _ _ _ _ _ _ us its hu hi => match us, its, hu, hi with | [_, _, _], [_], _, _ => ⟨_, rfl, rfl⟩)
  have d_Ratio2 : MkD P w K mg base (gam K cls) "Ratio" 1 dd_Ratio2 h_Ratio_init := ⟨_, _, _, _, _, _, rfl, s.g_Ratio, s.k_Ratio, i_Ratio, b_Ratio2, v_Ratio2, fun _ => .nil⟩
  have d_has_only := ok_has_only (P := P) (w := w) (base := base) s
  have d_is_name := ok_is_name (P := P) (w := w) (base := base) s d_has_only
  have d_is_chance := ok_is_chance (P := P) (w := w) (base := base) s
  have d_Net_is_arrow := ok_Net_is_arrow (P := P) (w := w) (base := base) s d_is_chance d_is_name d_is_number
  have d_Net_check_places := ok_Net_check_places (P := P) (w := w) (base := base) s d_is_name
  have d_Net_check_arrows := ok_Net_check_arrows (P := P) (w := w) (base := base) s d_Net_is_arrow
  obtain ⟨fd_Net, F_Net⟩ := s.f_Net_init
  have i_Net := ok_Net_init (P := P) (w := w) (base := base) s d_Net_check_arrows d_Net_check_places F_Net
  have d_Net2 : MkD P w K mg base (gam K cls) "Net" 7 dd_Net2 h_Net_init := ⟨_, _, _, _, _, _, rfl, s.g_Net, s.k_Net, i_Net, F_Net.bindsN (fun _ _ _ _ _ _ us hl => match us, hl with | [_, _, _], _ => rfl), .nil, fun _ => .nil⟩
  have d_Net_left := ok_Net_left (P := P) (w := w) (base := base) s
  have d_shows_heights := ok_shows_heights (P := P) (w := w) (base := base) s d_is_wholes d_Net_left
  have d_shows_closed := ok_shows_closed (P := P) (w := w) (base := base) s d_is_lot d_Net_left
  have d_shows_distance := ok_shows_distance (P := P) (w := w) (base := base) s d_has_word d_shows_closed d_shows_heights
  have d__law_cell := ok__law_cell (P := P) (w := w) (base := base) s
  have d__law_mixed := ok__law_mixed (P := P) (w := w) (base := base) s
  have d__law_draws := ok__law_draws (P := P) (w := w) (base := base) s d__law_cell d__law_mixed
  have d__law_number := ok__law_number (P := P) (w := w) (base := base) s
  have d__law_rows := ok__law_rows (P := P) (w := w) (base := base) s d__law_draws d__law_number
  have d__law_net := ok__law_net (P := P) (w := w) (base := base) s d_Net2 d_Ratio1 d_Ratio2
  have d__law_is_integer := ok__law_is_integer (P := P) (w := w) (base := base) s
  have d__law_is_row := ok__law_is_row (P := P) (w := w) (base := base) s
  have d__law_is_lot := ok__law_is_lot (P := P) (w := w) (base := base) s d__law_is_integer
  have d__law_has_word := ok__law_has_word (P := P) (w := w) (base := base) s d__law_is_row
  have d__law_far := ok__law_far (P := P) (w := w) (base := base) s
  have d__law_heights_are := ok__law_heights_are (P := P) (w := w) (base := base) s d__law_is_integer d__law_is_row
  have d__law_side_is := ok__law_side_is (P := P) (w := w) (base := base) s d__law_is_lot
  have d__law_leaves := ok__law_leaves (P := P) (w := w) (base := base) s
  have d__law_world := ok__law_world (P := P) (w := w) (base := base) s d__law_draws d__law_rows
  have d__law_long := ok__law_long (P := P) (w := w) (base := base) s
  have d__law_weights := ok__law_weights (P := P) (w := w) (base := base) s d__law_draws d__law_long d__law_number
  have d__law_turned := ok__law_turned (P := P) (w := w) (base := base) s
  have d__law_forward := ok__law_forward (P := P) (w := w) (base := base) s
  have d__law_backward := ok__law_backward (P := P) (w := w) (base := base) s
  have d__law_all_heights := ok__law_all_heights (P := P) (w := w) (base := base) s d__law_backward d__law_far d__law_forward d__law_turned
  have d__law_all_sides := ok__law_all_sides (P := P) (w := w) (base := base) s d__law_far d__law_turned
  have d__law_is_bound := ok__law_is_bound (P := P) (w := w) (base := base) s d__law_has_word d__law_heights_are d__law_leaves d__law_side_is
  have d__law_says := ok__law_says (P := P) (w := w) (base := base) s d__law_is_bound d_shows_distance
  have d__law_heights_said := ok__law_heights_said (P := P) (w := w) (base := base) s d__law_says d_Ratio1 d_Ratio2
  have d__law_side_said := ok__law_side_said (P := P) (w := w) (base := base) s d__law_says
  exact fn_law s d__law_all_heights d__law_all_sides d__law_draws d__law_heights_said d__law_net d__law_says d__law_side_said d__law_weights d__law_world d_Ratio1 d_Ratio2 F
theorem facts {P : Program} {w : PySem.World} {K : PySem.W.Frag} {h : Heap} {mg : Str → Option Value} {f : Addr} (X : K.In h) (G : h.Ns mainGlobals mg) (hfa : mg ("law" : Str) = some (.ref f)) (c : SayX faL fnL exL K) :
    ∃ fd : FuncData, (∀ (s : Shared) (v : Value), BindsTo s fd ⟨[v], []⟩ [("script", v)]) ∧ ∀ base : Heap, K.In base → base.Ns mainGlobals mg → FnOk P w K mg base (CXu P) 10 f fd ["script"] (spP ⟨K, gam K cls⟩ h_law) := by
  have s := say_of X G c
  obtain ⟨fd, F⟩ := s.f_law
  have e := hfa.symm.trans s.g_law
  cases e
  have b := FunD.bindsA (ps := ["script"]) F fun _ _ _ _ _ _ us hl => match us, hl with | [_], _ => rfl
  refine ⟨fd, fun s v => b s [v] rfl, fun base _ _ => ?_⟩
  exact fnok_u (chain (P := P) (w := w) (base := base) s F).ok
end K23
open PySem PySem.W PySem.Calls PyProof.Rows
theorem PySem.Challenge.cw_cutsagainst_k23_distance_bounds_judged_e_holds : PySem.Challenge.rw_cutsagainst_k23_distance_bounds_judged_e.Holds := by
  w_on; o_law
  refine HandSHeadRun.head_imp (r := OpenLaw.row PySem.Challenge.rw_cutsagainst_k23_distance_bounds_judged_e) (q := view (OpenLaw.row PySem.Challenge.rw_cutsagainst_k23_distance_bounds_judged_e).prog [0, 61]) (H := K23.hk) (ob := K23.ob) (M := 100000) (loose := K23.loose) (d := HandSHeadRun.topDef (OpenLaw.row PySem.Challenge.rw_cutsagainst_k23_distance_bounds_judged_e).prog 61) (kwd := []) K23.ob_eq
    K23.run (by kernel_rfl) (by kernel_rfl) (by kernel_rfl) (by rfl) (by first | assumption | decide +kernel) (by decide +kernel) ⟨rfl, rfl, rfl, rfl, rfl, by decide +kernel⟩ ?hw ?hc
  case hw => w_witness2
  case hc =>
    refine L2.walk_ofE (l := PySem.Challenge.rw_cutsagainst_k23_distance_bounds_judged_e) (n := 63) (k := 10) (x := "script") (CX := DL.CXu (PySem.Challenge.rw_cutsagainst_k23_distance_bounds_judged_e).prog) rfl (by decide) (by kernel_rfl) ⟨rfl, by decide, by decide⟩ ?F DL.cxu_false
    case F =>
      intro w mg fa h Y G hmg0
      obtain ⟨K, KX, c⟩ := Y
      have hmg : mg ("law" : PySem.Str) = some (.ref fa) := by
        have e : (HandSHeadRun.topDef (OpenLaw.row PySem.Challenge.rw_cutsagainst_k23_distance_bounds_judged_e).prog 61).name = ("law" : PySem.Str) := by kernel_rfl
        rw [← e]
        exact hmg0
      obtain ⟨fd, hb, hF⟩ := K23.facts (P := (PySem.Challenge.rw_cutsagainst_k23_distance_bounds_judged_e).prog) (w := w) KX G hmg c
      refine ⟨K, fd, _, KX, hb, fun H a ns hl _ hS => ?_, hF⟩
      refine ⟨H, [.scr (ns.map DL.DV.int)], .refl H, .cons (.scr hS (DL.script_rf ns)) .nil, ?_⟩
      rw [K23.pure_law ns hl]
      intro v F' H' A _ _ r
      exact r.bl_inv
end
