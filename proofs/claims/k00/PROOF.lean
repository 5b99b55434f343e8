import PyProof.Rows.All
import Wide.All
import OpenK.AllK
import Wide.FinOn
import HandS.ForMost
import HandS.ForExc
import HandS.TupAny
import HandS.TupMul
import HandS.Wide
import HandS.Conv
import HandS.Sort
import HandS.Style
import HandS.Flow
import HandS.TupLe
import HandS.Text
import HandS.SortInts
import HandS.Gcd
import HandS.IsInst
import KE.KExcIs
import KE.KSortedM
import HandS.Walk
import HandS.CallSlots
import HandS.Defaults
import HandS.ExcField
import HandS.ClsMeth
import HandS.ExcValue
import HandS.ExcOwn
import HandS.HotCalls
import KE.KCallOwn
import HandS.Head0
import HandS.Head1
import HandS.Head2
import HandS.HeadEnd
import HandS.HeadHook1
import HandS.HeadHook2
import HandS.FStr
import HandS.Head3
import PySem.Challenge.RW_cutsagainst_k00_ratios_exact
set_option Elab.async false
set_option linter.all false
set_option maxRecDepth 100000
section
set_option maxHeartbeats 200000
namespace DL
open PySem L2

/-- deep values: what a Python value is, without addresses. lst, ins: shared, never changed again; own, obj: held at one place alone, may be changed there -/
inductive DV where
  | non | bl (b : Bool) | int (i : Int) | str (x : Str)
  | tup (ds : List DV) | lst (ds : List DV) | own (ds : List DV)
  | ins (c : Str) (fs : List (Str × DV)) | obj (c : Str) (fs : List (Str × DV))
  | scr (ds : List DV)   -- a list that is read alone (the script, one of the written part)
  | rng (lo hi : Int)
  | exc (c : Str) (fs : List (Str × DV))   -- a caught exception

/-- the written part and the classes by name -/
structure Gc where
  K : PySem.W.Frag
  cl : Str → Option Addr

/-- the object at p is a record of an exception: its class, its dict -/
def ExcAt (p C : Addr) (dx : Option Addr) (φ : Heap → Prop) : Prop := ∀ h, φ h → ∃ o vs, h.get? p = some o ∧ o.cls = .ref C ∧ o.dict = dx ∧ o.data = .fields vs

mutual
inductive RF (g : Gc) (F : Hp) : V → DV → Prop
  | non : RF g F .non .non
  | bl (b : Bool) : RF g F (.bl b) (.bl b)
  | int (i : Int) : RF g F (.int i) (.int i)
  | str (x : Str) : RF g F (.str x) (.str x)
  | tup {p : Addr} {vs : List V} {ds : List DV} : SqT g.K F p vs → RFs g F vs ds → RF g F (.ref p) (.tup ds)
  | lst {p : Addr} {vs : List V} {ds : List DV} : F p = some (.lst vs) → RFs g F vs ds → RF g F (.ref p) (.lst ds)
  | scr {p : Addr} {vs : List V} {ds : List DV} : SqL g.K F p vs → RFs g F vs ds → RF g F (.ref p) (.scr ds)
  | rng {p : Addr} {lo hi : Int} : F p = some (.rng lo hi) → RF g F (.ref p) (.rng lo hi)
  | ins {p C dx : Addr} {c : Str} {fs : List (Str × V)} {ds : List (Str × DV)} : F p = some (.ins C dx fs) → g.cl c = some C → RFf g F fs ds → RF g F (.ref p) (.ins c ds)
  | exc {p C : Addr} {c : Str} {φ : Heap → Prop} : F p = some (.ext φ) → ExcAt p C none φ → g.cl c = some C → RF g F (.ref p) (.exc c [])
  | excD {p C d : Addr} {c : Str} {φ : Heap → Prop} {fs : List (Str × V)} {ds : List (Str × DV)} : F p = some (.ext φ) → ExcAt p C (some d) φ → g.cl c = some C → F d = some (.xd fs) → RFf g F fs ds → RF g F (.ref p) (.exc c ds)
inductive RFs (g : Gc) (F : Hp) : List V → List DV → Prop
  | nil : RFs g F [] []
  | cons {v : V} {d : DV} {vs : List V} {ds : List DV} : RF g F v d → RFs g F vs ds → RFs g F (v :: vs) (d :: ds)
inductive RFf (g : Gc) (F : Hp) : List (Str × V) → List (Str × DV) → Prop
  | nil : RFf g F [] []
  | cons {n : Str} {v : V} {d : DV} {vs : List (Str × V)} {ds : List (Str × DV)} : RF g F v d → RFf g F vs ds → RFf g F ((n, v) :: vs) ((n, d) :: ds)
end

theorem rd_same {F F' : Hp} {a : Addr} {u : HO} (e : Same F F') (h : Rd F a u) : Rd F' a u := by
  rcases h with h | ⟨o, h⟩
  · exact .inl (e _ _ h)
  · exact .inr ⟨o, e _ _ h⟩
theorem sqT_same {K : PySem.W.Frag} {F F' : Hp} {a : Addr} {xs : List V} (e : Same F F') (h : SqT K F a xs) : SqT K F' a xs := by
  rcases h with h | h
  · exact .inl (rd_same e h)
  · exact .inr h
theorem sqL_same {K : PySem.W.Frag} {F F' : Hp} {a : Addr} {xs : List V} (e : Same F F') (h : SqL K F a xs) : SqL K F' a xs := e.seq h

mutual
theorem RF.mono {g : Gc} {F F' : Hp} (e : Same F F') : ∀ {v : V} {d : DV}, RF g F v d → RF g F' v d
  | _, _, .non => .non
  | _, _, .bl b => .bl b
  | _, _, .int i => .int i
  | _, _, .str x => .str x
  | _, _, .tup h r => .tup (sqT_same e h) (RFs.mono e r)
  | _, _, .lst h r => .lst (e _ _ h) (RFs.mono e r)
  | _, _, .scr h r => .scr (sqL_same e h) (RFs.mono e r)
  | _, _, .rng h => .rng (e _ _ h)
  | _, _, .ins h c r => .ins (e _ _ h) c (RFf.mono e r)
  | _, _, .exc h k c => .exc (e _ _ h) k c
  | _, _, .excD h k c q r => .excD (e _ _ h) k c (e _ _ q) (RFf.mono e r)
theorem RFs.mono {g : Gc} {F F' : Hp} (e : Same F F') : ∀ {v : List V} {d : List DV}, RFs g F v d → RFs g F' v d
  | _, _, .nil => .nil
  | _, _, .cons h r => .cons (RF.mono e h) (RFs.mono e r)
theorem RFf.mono {g : Gc} {F F' : Hp} (e : Same F F') : ∀ {v : List (Str × V)} {d : List (Str × DV)}, RFf g F v d → RFf g F' v d
  | _, _, .nil => .nil
  | _, _, .cons h r => .cons (RF.mono e h) (RFf.mono e r)
end

/-! ### owned -/
mutual
inductive RO (g : Gc) (F H : Hp) : V → DV → List Addr → Prop
  | frz {v : V} {d : DV} : RF g F v d → RO g F H v d []
  | own {p : Addr} {vs : List V} {ds : List DV} {A : List Addr} : H p = some (.lst vs) → ROs g F H vs ds A → RO g F H (.ref p) (.own ds) (p :: A)
  | obj {p C dx : Addr} {c : Str} {fs : List (Str × V)} {ds : List (Str × DV)} {A : List Addr} : H p = some (.ins C dx fs) → g.cl c = some C → ROf g F H fs ds A → RO g F H (.ref p) (.obj c ds) (p :: A)
inductive ROs (g : Gc) (F H : Hp) : List V → List DV → List Addr → Prop
  | nil : ROs g F H [] [] []
  | cons {v : V} {d : DV} {A : List Addr} {vs : List V} {ds : List DV} {B : List Addr} : RO g F H v d A → ROs g F H vs ds B → ROs g F H (v :: vs) (d :: ds) (A ++ B)
inductive ROf (g : Gc) (F H : Hp) : List (Str × V) → List (Str × DV) → List Addr → Prop
  | nil : ROf g F H [] [] []
  | cons {n : Str} {v : V} {d : DV} {A : List Addr} {vs : List (Str × V)} {ds : List (Str × DV)} {B : List Addr} : RO g F H v d A → ROf g F H vs ds B → ROf g F H ((n, v) :: vs) ((n, d) :: ds) (A ++ B)
end

mutual
theorem RO.mono {g : Gc} {F F' H H' : Hp} (e : Same F F') : ∀ {v : V} {d : DV} {A : List Addr}, (∀ a ∈ A, H' a = H a) → RO g F H v d A → RO g F' H' v d A
  | _, _, _, _, .frz h => .frz (h.mono e)
  | _, _, _, k, .own h r => .own ((k _ (List.mem_cons_self ..)).trans h) (ROs.mono e (fun a ha => k a (List.mem_cons_of_mem _ ha)) r)
  | _, _, _, k, .obj h c r => .obj ((k _ (List.mem_cons_self ..)).trans h) c (ROf.mono e (fun a ha => k a (List.mem_cons_of_mem _ ha)) r)
theorem ROs.mono {g : Gc} {F F' H H' : Hp} (e : Same F F') : ∀ {v : List V} {d : List DV} {A : List Addr}, (∀ a ∈ A, H' a = H a) → ROs g F H v d A → ROs g F' H' v d A
  | _, _, _, _, .nil => .nil
  | _, _, _, k, .cons h r => .cons (RO.mono e (fun a ha => k a (List.mem_append_left _ ha)) h) (ROs.mono e (fun a ha => k a (List.mem_append_right _ ha)) r)
theorem ROf.mono {g : Gc} {F F' H H' : Hp} (e : Same F F') : ∀ {v : List (Str × V)} {d : List (Str × DV)} {A : List Addr}, (∀ a ∈ A, H' a = H a) → ROf g F H v d A → ROf g F' H' v d A
  | _, _, _, _, .nil => .nil
  | _, _, _, k, .cons h r => .cons (RO.mono e (fun a ha => k a (List.mem_append_left _ ha)) h) (ROf.mono e (fun a ha => k a (List.mem_append_right _ ha)) r)
end

/-! what is owned stands in the heap -/
mutual
theorem RO.there {g : Gc} {F H : Hp} : ∀ {v : V} {d : DV} {A : List Addr}, RO g F H v d A → ∀ a ∈ A, ∃ o, H a = some o
  | _, _, _, .frz _ => fun _ h => nomatch h
  | _, _, _, .own h r => fun a ha => (List.mem_cons.mp ha).elim (fun e => e ▸ ⟨_, h⟩) (ROs.there r a)
  | _, _, _, .obj h _ r => fun a ha => (List.mem_cons.mp ha).elim (fun e => e ▸ ⟨_, h⟩) (ROf.there r a)
theorem ROs.there {g : Gc} {F H : Hp} : ∀ {v : List V} {d : List DV} {A : List Addr}, ROs g F H v d A → ∀ a ∈ A, ∃ o, H a = some o
  | _, _, _, .nil => fun _ h => nomatch h
  | _, _, _, .cons h r => fun a ha => (List.mem_append.mp ha).elim (RO.there h a) (ROs.there r a)
theorem ROf.there {g : Gc} {F H : Hp} : ∀ {v : List (Str × V)} {d : List (Str × DV)} {A : List Addr}, ROf g F H v d A → ∀ a ∈ A, ∃ o, H a = some o
  | _, _, _, .nil => fun _ h => nomatch h
  | _, _, _, .cons h r => fun a ha => (List.mem_append.mp ha).elim (RO.there h a) (ROf.there r a)
end

/-! ### frozen or not -/
def isFrz : DV → Bool
  | .own _ => false
  | .obj _ _ => false
  | _ => true
mutual
def freeze : DV → DV
  | .own ds => .lst (freezes ds)
  | .obj c fs => .ins c (freezef fs)
  | .non => .non
  | .bl b => .bl b
  | .int i => .int i
  | .str x => .str x
  | .tup ds => .tup ds
  | .lst ds => .lst ds
  | .ins c fs => .ins c fs
  | .scr ds => .scr ds
  | .rng a b => .rng a b
  | .exc c fs => .exc c fs
def freezes : List DV → List DV
  | [] => []
  | d :: ds => freeze d :: freezes ds
def freezef : List (Str × DV) → List (Str × DV)
  | [] => []
  | (n, d) :: ds => (n, freeze d) :: freezef ds
end
theorem freezes_eq : ∀ ds : List DV, freezes ds = ds.map freeze
  | [] => by simp [freezes]
  | d :: ds => by simp [freezes, freezes_eq ds]
theorem RF.isFrz {g : Gc} {F : Hp} {v : V} {d : DV} (h : RF g F v d) : isFrz d = true := by cases h <;> rfl
theorem freeze_frz {d : DV} (h : isFrz d = true) : freeze d = d := by
  cases d <;> first | (simp [freeze]; done) | (simp [DL.isFrz] at h)
theorem RO.frz_inv {g : Gc} {F H : Hp} {v : V} {d : DV} {A : List Addr} (h : RO g F H v d A) (e : DL.isFrz d = true) : RF g F v d ∧ A = [] := by
  cases h with
  | frz h => exact ⟨h, rfl⟩
  | own => simp [DL.isFrz] at e
  | obj => simp [DL.isFrz] at e

/-- F with what stands at A in H -/
def ext (F H : Hp) (A : List Addr) : Hp := fun a => if a ∈ A then H a else F a
theorem ext_nil {F H : Hp} : ext F H [] = F := by funext a; simp [ext]
theorem ext_in {F H : Hp} {A : List Addr} {a : Addr} (h : a ∈ A) : ext F H A a = H a := by simp [ext, h]
theorem ext_out {F H : Hp} {A : List Addr} {a : Addr} (h : a ∉ A) : ext F H A a = F a := by simp [ext, h]
theorem ext_same {F H : Hp} {A : List Addr} (k : ∀ a ∈ A, F a = none) : Same F (ext F H A) := fun a o e => by
  rw [ext_out]
  · exact e
  · intro ha; rw [k a ha] at e; cases e
theorem ext_mono {F H : Hp} {A B : List Addr} (s : ∀ a ∈ A, a ∈ B) (k : ∀ a ∈ B, F a = none) : Same (ext F H A) (ext F H B) := fun a o e => by
  by_cases ha : a ∈ A
  · rw [ext_in ha] at e
    rw [ext_in (s a ha)]
    exact e
  · rw [ext_out ha] at e
    exact ext_same k a o e
theorem ext_sub {F H : Hp} {A : List Addr} (s : Same F H) : Same (ext F H A) H := fun a o e => by
  by_cases ha : a ∈ A
  · rw [ext_in ha] at e; exact e
  · rw [ext_out ha] at e; exact s a o e

mutual
theorem RO.freeze {g : Gc} {F H : Hp} : ∀ {v : V} {d : DV} {A : List Addr}, RO g F H v d A → (∀ a ∈ A, F a = none) → RF g (ext F H A) v (DL.freeze d)
  | _, _, _, .frz h, _ => by rw [freeze_frz h.isFrz, ext_nil]; exact h
  | _, _, _, .own (p := p) (A := A) h r, k => by
    unfold DL.freeze
    refine .lst ((ext_in (List.mem_cons_self ..)).trans h) (RFs.mono (ext_mono (fun a ha => List.mem_cons_of_mem _ ha) k) (ROs.freeze r fun a ha => k a (List.mem_cons_of_mem _ ha)))
  | _, _, _, .obj (p := p) (A := A) h c r, k => by
    unfold DL.freeze
    refine .ins ((ext_in (List.mem_cons_self ..)).trans h) c (RFf.mono (ext_mono (fun a ha => List.mem_cons_of_mem _ ha) k) (ROf.freeze r fun a ha => k a (List.mem_cons_of_mem _ ha)))
theorem ROs.freeze {g : Gc} {F H : Hp} : ∀ {v : List V} {d : List DV} {A : List Addr}, ROs g F H v d A → (∀ a ∈ A, F a = none) → RFs g (ext F H A) v (freezes d)
  | _, _, _, .nil, _ => by rw [freezes]; exact .nil
  | _, _, _, .cons (A := A) (B := B) h r, k => by
    rw [freezes]
    exact .cons (RF.mono (ext_mono (fun a ha => List.mem_append_left _ ha) k) (RO.freeze h fun a ha => k a (List.mem_append_left _ ha)))
      (RFs.mono (ext_mono (fun a ha => List.mem_append_right _ ha) k) (ROs.freeze r fun a ha => k a (List.mem_append_right _ ha)))
theorem ROf.freeze {g : Gc} {F H : Hp} : ∀ {v : List (Str × V)} {d : List (Str × DV)} {A : List Addr}, ROf g F H v d A → (∀ a ∈ A, F a = none) → RFf g (ext F H A) v (freezef d)
  | _, _, _, .nil, _ => by rw [freezef]; exact .nil
  | _, _, _, .cons (A := A) (B := B) h r, k => by
    rw [freezef]
    exact .cons (RF.mono (ext_mono (fun a ha => List.mem_append_left _ ha) k) (RO.freeze h fun a ha => k a (List.mem_append_left _ ha)))
      (RFf.mono (ext_mono (fun a ha => List.mem_append_right _ ha) k) (ROf.freeze r fun a ha => k a (List.mem_append_right _ ha)))
end
end DL
end
section
set_option maxHeartbeats 200000
namespace DL
open PySem L2

abbrev Slots := List (Option DV)

inductive RE (g : Gc) (F H : Hp) : St → Slots → List Addr → Prop
  | nil : RE g F H [] [] []
  | non {x : Option V} {σ : St} {env : Slots} {A : List Addr} : RE g F H σ env A → RE g F H (x :: σ) (none :: env) A
  | som {v : V} {d : DV} {A : List Addr} {σ : St} {env : Slots} {B : List Addr} : RO g F H v d A → RE g F H σ env B → RE g F H (some v :: σ) (some d :: env) (A ++ B)

theorem RE.mono {g : Gc} {F F' H H' : Hp} (e : Same F F') : ∀ {σ : St} {env : Slots} {A : List Addr}, (∀ a ∈ A, H' a = H a) → RE g F H σ env A → RE g F' H' σ env A
  | _, _, _, _, .nil => .nil
  | _, _, _, k, .non r => .non (RE.mono e k r)
  | _, _, _, k, .som h r => .som (RO.mono e (fun a ha => k a (List.mem_append_left _ ha)) h) (RE.mono e (fun a ha => k a (List.mem_append_right _ ha)) r)
theorem RE.there {g : Gc} {F H : Hp} : ∀ {σ : St} {env : Slots} {A : List Addr}, RE g F H σ env A → ∀ a ∈ A, ∃ o, H a = some o
  | _, _, _, .nil => fun _ h => nomatch h
  | _, _, _, .non r => RE.there r
  | _, _, _, .som h r => fun a ha => (List.mem_append.mp ha).elim (RO.there h a) (RE.there r a)
theorem RE.len {g : Gc} {F H : Hp} : ∀ {σ : St} {env : Slots} {A : List Addr}, RE g F H σ env A → σ.length = env.length
  | _, _, _, .nil => rfl
  | _, _, _, .non r => congrArg Nat.succ (RE.len r)
  | _, _, _, .som _ r => congrArg Nat.succ (RE.len r)
/-- what a slot holds, and what is left without it -/
theorem RE.get {g : Gc} {F H : Hp} : ∀ {σ : St} {env : Slots} {As : List Addr} {i : Nat} {d : DV}, RE g F H σ env As → env[i]? = some (some d) →
    ∃ v A B, σ[i]? = some (some v) ∧ RO g F H v d A ∧ RE g F H σ (env.set i none) B ∧ ∀ a, As.count a = A.count a + B.count a
  | _, _, _, _, _, .nil, h => by simp at h
  | _, _, _, 0, _, .non r, h => by simp at h
  | _, _, _, i + 1, _, .non r, h => by
    obtain ⟨v, A, B, h1, h2, h3, h4⟩ := RE.get (i := i) r (by simpa using h)
    exact ⟨v, A, B, by simpa using h1, h2, by simpa using RE.non h3, h4⟩
  | _, _, _, 0, _, .som (A := A) (B := B) hv r, h => by
    simp at h; subst h
    exact ⟨_, A, B, rfl, hv, .non r, fun a => List.count_append⟩
  | _, _, _, i + 1, _, .som (A := A0) (B := B0) hv r, h => by
    obtain ⟨v, A, B, h1, h2, h3, h4⟩ := RE.get (i := i) r (by simpa using h)
    exact ⟨v, A, A0 ++ B, by simpa using h1, h2, by simpa using RE.som hv h3, fun a => by rw [List.count_append, List.count_append, h4]; omega⟩
/-- a slot forgotten -/
theorem RE.forget {g : Gc} {F H : Hp} : ∀ {σ : St} {env : Slots} {As : List Addr} (i : Nat) (x : Option V), RE g F H σ env As → ∃ B, RE g F H (σ.set i x) (env.set i none) B ∧ ∀ a, B.count a ≤ As.count a
  | _, _, _, _, _, .nil => ⟨[], .nil, fun _ => Nat.le_refl _⟩
  | _, _, _, 0, x, .non r => ⟨_, .non r, fun _ => Nat.le_refl _⟩
  | _, _, _, i + 1, x, .non r => by
    obtain ⟨B, h1, h2⟩ := RE.forget i x r
    exact ⟨B, .non h1, h2⟩
  | _, _, _, 0, x, .som (A := A) hv r => ⟨_, .non r, fun a => by rw [List.count_append]; omega⟩
  | _, _, _, i + 1, x, .som (A := A) (B := B0) hv r => by
    obtain ⟨B, h1, h2⟩ := RE.forget i x r
    exact ⟨A ++ B, .som hv h1, fun a => by rw [List.count_append, List.count_append]; have := h2 a; omega⟩
/-- a slot filled -/
theorem RE.put {g : Gc} {F H : Hp} : ∀ {σ : St} {env : Slots} {As : List Addr} (i : Nat) {v : V} {d : DV} {A : List Addr}, RE g F H σ env As → RO g F H v d A →
    ∃ B, RE g F H (σ.set i (some v)) (env.set i (some d)) B ∧ ∀ a, B.count a ≤ A.count a + As.count a
  | _, _, _, _, _, _, _, .nil, _ => ⟨[], .nil, fun _ => by simp⟩
  | _, _, _, 0, _, _, _, .non r, h => ⟨_, .som h r, fun _ => by rw [List.count_append]; omega⟩
  | _, _, _, i + 1, _, _, _, .non r, h => by
    obtain ⟨B, h1, h2⟩ := RE.put i r h
    exact ⟨B, .non h1, h2⟩
  | _, _, _, 0, _, _, _, .som (A := A) hv r, h => ⟨_, .som h r, fun a => by rw [List.count_append, List.count_append]; omega⟩
  | _, _, _, i + 1, _, _, _, .som (A := A) (B := B0) hv r, h => by
    obtain ⟨B, h1, h2⟩ := RE.put i r h
    exact ⟨A ++ B, .som hv h1, fun a => by rw [List.count_append, List.count_append]; have := h2 a; omega⟩
/-- a slot filled again with what it holds -/
theorem RE.back {g : Gc} {F H : Hp} : ∀ {σ : St} {env : Slots} {As : List Addr} {i : Nat} {v : V} {d : DV} {A : List Addr}, RE g F H σ env As → σ[i]? = some (some v) → RO g F H v d A →
    ∃ B, RE g F H σ (env.set i (some d)) B ∧ ∀ a, B.count a ≤ A.count a + As.count a := by
  intro σ env As i v d A r e h
  obtain ⟨B, h1, h2⟩ := RE.put i r h
  have : σ.set i (some v) = σ := by
    apply List.ext_getElem?
    intro j
    by_cases hj : i = j
    · subst hj
      have hlt : i < σ.length := (List.getElem?_eq_some_iff.mp e).1
      rw [List.getElem?_set_self hlt, e]
    · rw [List.getElem?_set_ne hj]
  rw [this] at h1
  exact ⟨B, h1, h2⟩

theorem cpos {A : List Addr} {a : Addr} : a ∈ A ↔ 0 < A.count a := List.count_pos_iff.symm

/-- the state as expressions see it: F what is shared, A what the slots own -/
structure SA (g : Gc) (F : Hp) (As : List Addr) (σ : St) (H : Hp) (env : Slots) : Prop where
  fh : Same F H
  sl : RE g F H σ env As
  nd : ∀ a, As.count a ≤ 1
  fx : ∀ a ∈ As, F a = none

/-- a pure step: the heap grows, what is shared grows by new objects -/
structure Ext (F H F' H' : Hp) : Prop where
  hh : Same H H'
  ff : Same F F'
  fh : Same F' H'
  new : ∀ a o, F' a = some o → F a = none → H a = none
theorem Ext.refl {F H : Hp} (s : Same F H) : Ext F H F H := ⟨.refl _, .refl _, s, fun a o e n => by rw [n] at e; cases e⟩
theorem Ext.trans {F H F1 H1 F2 H2 : Hp} (a : Ext F H F1 H1) (b : Ext F1 H1 F2 H2) : Ext F H F2 H2 :=
  ⟨a.hh.trans b.hh, a.ff.trans b.ff, b.fh, fun x o e n => by
    cases q : F1 x with
    | some u => exact a.new x u q n
    | none => exact a.hh.free (b.new x o e q)⟩
/-- F with one object more -/
theorem Ext.lay {F H : Hp} {p : Addr} {o : HO} (s : Same F H) (n : H p = none) : Ext F H (upd F p o) (upd H p o) := by
  have nF : F p = none := s.free n
  refine ⟨fun a u e => ?_, fun a u e => ?_, fun a u e => ?_, fun a u e m => ?_⟩
  · rw [upd_ne (ne_of_none e n)]; exact e
  · rw [upd_ne (ne_of_none e nF)]; exact e
  · by_cases h : a = p
    · subst h; rw [upd_same] at e ⊢; exact e
    · rw [upd_ne h] at e ⊢; exact s a u e
  · by_cases h : a = p
    · subst h; exact n
    · rw [upd_ne h, m] at e; cases e
/-- the heap with one object more, nothing shared besides -/
theorem Ext.own {F H : Hp} {p : Addr} {o : HO} (s : Same F H) (n : H p = none) : Ext F H F (upd H p o) := by
  have k : Same H (upd H p o) := fun a u e => by rw [upd_ne (ne_of_none e n)]; exact e
  exact ⟨k, .refl _, s.trans k, fun a u e m => by rw [m] at e; cases e⟩

theorem RO.ext {g : Gc} {F H F' H' : Hp} {v : V} {d : DV} {A : List Addr} (x : Ext F H F' H') (r : RO g F H v d A) : RO g F' H' v d A :=
  r.mono x.ff fun a ha => by
    obtain ⟨o, ho⟩ := r.there a ha
    rw [ho]
    exact x.hh a o ho
theorem ROs.ext {g : Gc} {F H F' H' : Hp} {v : List V} {d : List DV} {A : List Addr} (x : Ext F H F' H') (r : ROs g F H v d A) : ROs g F' H' v d A :=
  r.mono x.ff fun a ha => by
    obtain ⟨o, ho⟩ := r.there a ha
    rw [ho]
    exact x.hh a o ho
/-- what is owned stays owned over a pure step -/
theorem Ext.apart {F H F' H' : Hp} {a : Addr} {o : HO} (x : Ext F H F' H') (h : H a = some o) (n : F a = none) : F' a = none := by
  cases q : F' a with
  | none => rfl
  | some u =>
    have := x.new a u q n
    rw [h] at this; cases this
theorem SA.ext {g : Gc} {F H F' H' : Hp} {As : List Addr} {σ : St} {env : Slots} (x : Ext F H F' H') (S : SA g F As σ H env) : SA g F' As σ H' env := by
  refine ⟨x.fh, S.sl.mono x.ff fun a ha => ?_, S.nd, fun a ha => ?_⟩
  · obtain ⟨o, ho⟩ := S.sl.there a ha
    rw [ho]
    exact x.hh a o ho
  · obtain ⟨o, ho⟩ := S.sl.there a ha
    exact x.apart ho (S.fx a ha)

/-- new and owned: apart from each other, from what is shared and from what stood at H -/
structure Fresh (F H : Hp) (A : List Addr) : Prop where
  nd : ∀ a, A.count a ≤ 1
  nF : ∀ a ∈ A, F a = none
  nH : ∀ a ∈ A, H a = none
theorem Fresh.nil {F H : Hp} : Fresh F H [] := ⟨fun _ => by simp, (fun _ h => nomatch h), (fun _ h => nomatch h)⟩
theorem Fresh.one {F H : Hp} {p : Addr} (s : Same F H) (n : H p = none) : Fresh F H [p] := by
  refine ⟨fun a => ?_, fun a h => ?_, fun a h => ?_⟩
  · rw [List.count_singleton]
    split <;> omega
  · have e : a = p := by simpa using h
    subst e; exact s.free n
  · have e : a = p := by simpa using h
    subst e; exact n

/-- an exception: its class's name, its fields -/
structure Exn where
  c : Str
  fs : List (Str × DV)
/-- what an expression comes to -/
inductive R (α : Type) where
  | ok (a : α) | ex (x : Exn) | stuck
def R.bind {α β : Type} (r : R α) (f : α → R β) : R β := match r with
  | .ok a => f a
  | .ex x => .ex x
  | .stuck => .stuck
/-- how it lies in the heap -/
def XOk (g : Gc) (F : Hp) (cls : Value) (dx : Option Addr) (x : Exn) : Prop :=
  ∃ C, cls = .ref C ∧ g.cl x.c = some C ∧ ((dx = none ∧ x.fs = []) ∨ ∃ d fs, dx = some d ∧ F d = some (.xd fs) ∧ RFf g F fs x.fs)

/-- the reading of an expression that gives a value to keep -/
def rdE (g : Gc) (W : WX) (f : Slots → R DV) : TE := fun σ H Q => ∃ F As env, SA g F As σ H env ∧ match f env with
  | .ok d => ∀ v F' H' A, Ext F H F' H' → Fresh F' H A → RO g F' H' v d A → Q v H'
  | .ex x => ∀ cls dx F' H', Ext F H F' H' → XOk g F' cls dx x → W cls dx σ H'
  | .stuck => False
/-- .. a value to look at -/
def rdV (g : Gc) (W : WX) (f : Slots → R DV) : TE := fun σ H Q => ∃ F As env, SA g F As σ H env ∧ match f env with
  | .ok d => ∀ v F' H' A, Ext F H F' H' → RO g F' H' v d A → Q v H'
  | .ex x => ∀ cls dx F' H', Ext F H F' H' → XOk g F' cls dx x → W cls dx σ H'
  | .stuck => False
/-- .. of a test -/
def rdT (g : Gc) (W : WX) (f : Slots → R Bool) : TT := fun σ H Q => ∃ F As env, SA g F As σ H env ∧ match f env with
  | .ok b => ∀ F' H', Ext F H F' H' → Q b H'
  | .ex x => ∀ cls dx F' H', Ext F H F' H' → XOk g F' cls dx x → W cls dx σ H'
  | .stuck => False
/-- .. of several expressions, each a value to keep (rdA) -/
def rdA (g : Gc) (W : WX) (f : Slots → R (List DV)) : TA := fun σ H Q => ∃ F As env, SA g F As σ H env ∧ match f env with
  | .ok ds => ∀ vs F' H' A, Ext F H F' H' → Fresh F' H A → ROs g F' H' vs ds A → Q vs H'
  | .ex x => ∀ cls dx F' H', Ext F H F' H' → XOk g F' cls dx x → W cls dx σ H'
  | .stuck => False
/-- .. several values to look at -/
def rdL (g : Gc) (W : WX) (f : Slots → R (List DV)) : TA := fun σ H Q => ∃ F As env, SA g F As σ H env ∧ match f env with
  | .ok ds => ∀ vs F' H' A, Ext F H F' H' → ROs g F' H' vs ds A → Q vs H'
  | .ex x => ∀ cls dx F' H', Ext F H F' H' → XOk g F' cls dx x → W cls dx σ H'
  | .stuck => False

structure DE (X : Cx) (Γ : Str → Option Addr) (W : WX) (e : Expr) (f : Slots → R DV) : Prop where
  pe : PE X e (rdE ⟨X.K, Γ⟩ W f)
structure DT (X : Cx) (Γ : Str → Option Addr) (W : WX) (e : Expr) (f : Slots → R DV) : Prop where
  pe : PE X e (rdV ⟨X.K, Γ⟩ W f)
structure DB (X : Cx) (Γ : Str → Option Addr) (W : WX) (e : Expr) (f : Slots → R Bool) : Prop where
  pt : PT X e (rdT ⟨X.K, Γ⟩ W f)
structure DA (X : Cx) (Γ : Str → Option Addr) (W : WX) (es : List Expr) (f : Slots → R (List DV)) : Prop where
  pa : PA X es (rdA ⟨X.K, Γ⟩ W f)
structure DK (X : Cx) (Γ : Str → Option Addr) (W : WX) (es : List Expr) (f : Slots → R (List DV)) : Prop where
  pa : PA X es (rdL ⟨X.K, Γ⟩ W f)

theorem pe_imp {X : Cx} {e : Expr} {t t' : TE} (h : PE X e t) (i : ∀ σ H Q, t' σ H Q → t σ H Q) : PE X e t' := ⟨fun pins s σ H Q I q => h.run pins s σ H Q I (i _ _ _ q)⟩
theorem pt_imp {X : Cx} {e : Expr} {t t' : TT} (h : PT X e t) (i : ∀ σ H Q, t' σ H Q → t σ H Q) : PT X e t' := ⟨fun pins s σ H Q I q => h.run pins s σ H Q I (i _ _ _ q)⟩
theorem pw_imp {X : Cx} {e : Expr} {t t' : TT} (h : PW X e t) (i : ∀ σ H Q, t' σ H Q → t σ H Q) : PW X e t' := ⟨fun wh pins s σ H Q I q => h.run wh pins s σ H Q I (i _ _ _ q)⟩
theorem pa_imp {X : Cx} {es : List Expr} {t t' : TA} (h : PA X es t) (i : ∀ σ H Q, t' σ H Q → t σ H Q) : PA X es t' := ⟨fun pos pins s σ H Q I q => h.run pos pins s σ H Q I (i _ _ _ q)⟩
theorem ps_imp {X : Cx} {st : Stmt} {t t' : TS} (h : PS X st t) (i : ∀ D σ H, t' D σ H → t D σ H) : PS X st t' := ⟨fun pins s σ H D I q => h.run pins s σ H D I (i _ _ _ q)⟩
theorem pss_imp {X : Cx} {st : List Stmt} {t t' : TS} (h : PSs X st t) (i : ∀ D σ H, t' D σ H → t D σ H) : PSs X st t' := ⟨fun pins s σ H D I q => h.run pins s σ H D I (i _ _ _ q)⟩

section
variable {X : Cx} {Γ : Str → Option Addr} {W : WX} {e a b : Expr} {f fa fb : Slots → R DV} {pos : Pos}

/-- looked at in place of kept -/
theorem DE.dt (h : DE X Γ W e f) : DT X Γ W e f := ⟨pe_imp h.pe fun σ H Q ⟨F, As, env, S, q⟩ => by
  refine ⟨F, As, env, S, ?_⟩
  cases hf : f env with
  | ok d => rw [hf] at q; exact fun v F' H' A x _ r => q v F' H' A x r
  | ex x => rw [hf] at q; exact q
  | stuck => rw [hf] at q; exact q⟩
/-- shared, so it may be kept -/
def fz (f : Slots → R DV) : Slots → R DV := fun env => (f env).bind fun d => if isFrz d then .ok d else .stuck
theorem DT.de (h : DT X Γ W e f) : DE X Γ W e (fz f) := ⟨pe_imp h.pe fun σ H Q ⟨F, As, env, S, q⟩ => by
  refine ⟨F, As, env, S, ?_⟩
  unfold fz at q
  cases hf : f env with
  | ok d =>
    rw [hf] at q
    by_cases hz : isFrz d = true
    · simp only [R.bind, hz, if_true] at q
      exact fun v F' H' A x r => q v F' H' [] x .nil (.frz (r.frz_inv hz).1)
    · simp only [R.bind, hz] at q
      exact q.elim
  | ex x => rw [hf] at q; exact q
  | stuck => rw [hf] at q; exact q⟩

/-! ### names, constants -/
def var (i : Nat) : Slots → R DV := fun env => match env[i]? with
  | some (some d) => .ok d
  | _ => .stuck
theorem dt_var (i : Nat) {x : Str} (hN : X.N[i]? = some x := by rfl) (hv : Vis X.env.scope x := by first | exact Or.inl rfl | exact Or.inr (Or.inl rfl) | exact Or.inr (Or.inr rfl)) (hd : (x == ("__debug__" : Str)) = false := by decide)
    (hcd : (x == ("__classdict__" : Str)) = false := by decide) : DT X Γ W (.Name x pos) (var i) := ⟨pe_imp (pe_var hN hv hd hcd) fun σ H Q ⟨F, As, env, S, q⟩ => by
  unfold var at q
  split at q
  · rename_i d hd
    split at hd
    · rename_i d' e
      cases hd
      obtain ⟨v, A, _, h1, h2, _⟩ := S.sl.get e
      exact ⟨v, h1, q v F H A (.refl S.fh) h2⟩
    · cases hd
  · rename_i x hd
    split at hd <;> cases hd
  · exact q.elim⟩
def cst (d : DV) : Slots → R DV := fun _ => .ok d
theorem de_c {v : V} {d : DV} (h : PE X e (tC v)) (r : ∀ g F, RF g F v d) : DE X Γ W e (cst d) := ⟨pe_imp h fun σ H Q ⟨F, As, env, S, q⟩ => q v F H [] (.refl S.fh) .nil (.frz (r _ _))⟩
theorem de_int {i : Int} {j : Nat} : DE X Γ W (.Constant (.int i) j pos) (cst (.int i)) := de_c pe_int fun _ _ => .int i
theorem de_bl {c : Bool} {j : Nat} : DE X Γ W (.Constant (.bool c) j pos) (cst (.bl c)) := de_c pe_bl fun _ _ => .bl c
theorem de_non {j : Nat} : DE X Γ W (.Constant .none j pos) (cst .non) := de_c pe_non fun _ _ => .non
theorem de_str {x : Str} {j : Nat} : DE X Γ W (.Constant (.str x) j pos) (cst (.str x)) := de_c pe_str fun _ _ => .str x
end
end DL
end
section
set_option maxHeartbeats 1000000
namespace DL
open PySem L2 PyProof.Rows

section
variable {g : Gc} {F H : Hp} {x : V} {A : List Addr}
theorem RO.int_inv {i : Int} (h : RO g F H x (.int i) A) : x = .int i := by
  obtain ⟨r, _⟩ := h.frz_inv rfl
  cases r; rfl
theorem RO.str_inv {i : Str} (h : RO g F H x (.str i) A) : x = .str i := by
  obtain ⟨r, _⟩ := h.frz_inv rfl
  cases r; rfl
theorem RO.bl_inv {i : Bool} (h : RO g F H x (.bl i) A) : x = .bl i := by
  obtain ⟨r, _⟩ := h.frz_inv rfl
  cases r; rfl
theorem RO.non_inv (h : RO g F H x .non A) : x = .non := by
  obtain ⟨r, _⟩ := h.frz_inv rfl
  cases r; rfl
theorem RO.tup_inv {ds : List DV} (h : RO g F H x (.tup ds) A) : ∃ p vs, x = .ref p ∧ SqT g.K F p vs ∧ RFs g F vs ds := by
  obtain ⟨r, _⟩ := h.frz_inv rfl
  cases r with
  | tup h1 h2 => exact ⟨_, _, rfl, h1, h2⟩
theorem RO.rng_inv {lo hi : Int} (h : RO g F H x (.rng lo hi) A) : ∃ p, x = .ref p ∧ F p = some (.rng lo hi) := by
  obtain ⟨r, _⟩ := h.frz_inv rfl
  cases r with
  | rng h1 => exact ⟨_, rfl, h1⟩
theorem RFs.ros : ∀ {vs : List V} {ds : List DV}, RFs g F vs ds → ROs g F H vs ds []
  | _, _, .nil => .nil
  | _, _, .cons h r => ROs.cons (A := []) (B := []) (.frz h) r.ros
theorem RFs.len : ∀ {vs : List V} {ds : List DV}, RFs g F vs ds → vs.length = ds.length
  | _, _, .nil => rfl
  | _, _, .cons h r => congrArg Nat.succ r.len
theorem ROs.len : ∀ {vs : List V} {ds : List DV} {A : List Addr}, ROs g F H vs ds A → vs.length = ds.length
  | _, _, _, .nil => rfl
  | _, _, _, .cons h r => congrArg Nat.succ r.len
theorem ROs.frz : ∀ {vs : List V} {ds : List DV} {A : List Addr}, ROs g F H vs ds A → ds.all isFrz = true → RFs g F vs ds ∧ A = []
  | _, _, _, .nil, _ => ⟨.nil, rfl⟩
  | _, _, _, .cons h r, e => by
    rw [List.all_cons, Bool.and_eq_true] at e
    obtain ⟨h1, h2⟩ := h.frz_inv e.1
    obtain ⟨r1, r2⟩ := r.frz e.2
    subst h2 r2
    exact ⟨.cons h1 r1, rfl⟩
theorem RFs.get : ∀ {vs : List V} {ds : List DV} {i : Nat} {d : DV}, RFs g F vs ds → ds[i]? = some d → ∃ v, vs[i]? = some v ∧ RF g F v d
  | _, _, _, _, .nil, e => by simp at e
  | _, _, 0, _, .cons h r, e => by simp at e; subst e; exact ⟨_, rfl, h⟩
  | _, _, i + 1, _, .cons h r, e => by
    obtain ⟨v, h1, h2⟩ := r.get (i := i) (by simpa using e)
    exact ⟨v, by simpa using h1, h2⟩
theorem RFs.at : ∀ {vs : List V} {ds : List DV} {i : Nat} {v : V}, RFs g F vs ds → vs[i]? = some v → ∃ d, ds[i]? = some d ∧ RF g F v d
  | _, _, _, _, .nil, e => by simp at e
  | _, _, 0, _, .cons h r, e => by simp at e; subst e; exact ⟨_, rfl, h⟩
  | _, _, i + 1, _, .cons h r, e => by
    obtain ⟨v, h1, h2⟩ := r.at (i := i) (by simpa using e)
    exact ⟨v, by simpa using h1, h2⟩
theorem ROs.get : ∀ {vs : List V} {ds : List DV} {A : List Addr} {i : Nat} {d : DV}, ROs g F H vs ds A → ds[i]? = some d → ∃ v B, vs[i]? = some v ∧ RO g F H v d B
  | _, _, _, _, _, .nil, e => by simp at e
  | _, _, _, 0, _, .cons h r, e => by simp at e; subst e; exact ⟨_, _, rfl, h⟩
  | _, _, _, i + 1, _, .cons h r, e => by
    obtain ⟨v, B, h1, h2⟩ := r.get (i := i) (by simpa using e)
    exact ⟨v, B, by simpa using h1, h2⟩
theorem RFs.append : ∀ {vs us : List V} {ds es : List DV}, RFs g F vs ds → RFs g F us es → RFs g F (vs ++ us) (ds ++ es)
  | _, _, _, _, .nil, r => r
  | _, _, _, _, .cons h r, q => .cons h (r.append q)
theorem RFs.take : ∀ {vs : List V} {ds : List DV} (n : Nat), RFs g F vs ds → RFs g F (vs.take n) (ds.take n)
  | _, _, 0, _ => .nil
  | _, _, _ + 1, .nil => .nil
  | _, _, n + 1, .cons h r => .cons h (r.take n)
theorem RFs.drop : ∀ {vs : List V} {ds : List DV} (n : Nat), RFs g F vs ds → RFs g F (vs.drop n) (ds.drop n)
  | _, _, 0, r => r
  | _, _, _ + 1, .nil => .nil
  | _, _, n + 1, .cons _ r => r.drop n
theorem RFs.rep {vs : List V} {ds : List DV} (r : RFs g F vs ds) : ∀ n, RFs g F (List.replicate n vs).flatten (List.replicate n ds).flatten
  | 0 => .nil
  | n + 1 => by
    rw [List.replicate_succ, List.replicate_succ, List.flatten_cons, List.flatten_cons]
    exact r.append (r.rep n)
theorem RFs.reverse {vs : List V} {ds : List DV} (r : RFs g F vs ds) : RFs g F vs.reverse ds.reverse := by
  induction r using RFs.rec (motive_1 := fun _ _ _ => True) (motive_3 := fun _ _ _ => True) with
  | nil => exact .nil
  | cons h r _ ih =>
    rw [List.reverse_cons, List.reverse_cons]
    exact ih.append (.cons h .nil)
  | _ => trivial
theorem RFs.ints : ∀ {vs : List V} {ns : List Int}, RFs g F vs (ns.map .int) → vs = ns.map .int
  | _, [], .nil => rfl
  | _, n :: ns, .cons h r => by
    cases h
    rw [List.map_cons, r.ints]
theorem RFs.ofInts : ∀ (ns : List Int), RFs g F (ns.map .int) (ns.map .int)
  | [] => .nil
  | n :: ns => .cons (.int n) (RFs.ofInts ns)
end

/-- the items of a list -/
def elems : DV → Option (List DV)
  | .lst ds => some ds
  | .own ds => some ds
  | _ => none
def big : Nat := 1000000
theorem big_le {n : Nat} (h : n ≤ big) : n ≤ sizeLine := Nat.le_trans h (by decide)
theorem big_lt {n : Nat} (h : n ≤ big) : n < sizeLine := Nat.lt_of_le_of_lt h (by decide)
theorem elems_inv {g : Gc} {F H : Hp} {x : V} {d : DV} {A : List Addr} {ds : List DV} (s : Same F H) (h : RO g F H x d A) (e : elems d = some ds) : ∃ p vs B, x = .ref p ∧ H p = some (.lst vs) ∧ ROs g F H vs ds B := by
  cases d with
  | lst zs =>
    cases e
    obtain ⟨r, _⟩ := h.frz_inv rfl
    cases r with
    | lst h1 h2 => exact ⟨_, _, _, rfl, s _ _ h1, h2.ros⟩
  | own zs =>
    cases e
    cases h with
    | frz r => cases r
    | own h1 h2 => exact ⟨_, _, _, rfl, h1, h2⟩
  | _ => cases e

/-- what is wanted of a value just made -/
abbrev Gv (g : Gc) (F H : Hp) (d : DV) (Q : VK) : Prop := ∀ v F' H' A, Ext F H F' H' → Fresh F' H A → RO g F' H' v d A → Q v H'
section
variable {g : Gc} {F H : Hp} {d : DV} {Q : VK} {v : V}
theorem Gv.frz (k : Gv g F H d Q) (s : Same F H) (r : RF g F v d) : Q v H := k v F H [] (.refl s) .nil (.frz r)
theorem Gv.own {vs : List V} {ds : List DV} (k : Gv g F H (.own ds) Q) (s : Same F H) (r : RFs g F vs ds) {l : Addr} (hl : H l = none) : Q (.ref l) (upd H l (.lst vs)) :=
  k _ F _ [l] (.own s hl) (.one s hl) (.own upd_same r.ros)
theorem Gv.tup {vs : List V} {ds : List DV} (k : Gv g F H (.tup ds) Q) (s : Same F H) (r : RFs g F vs ds) {l : Addr} (hl : H l = none) : Q (.ref l) (upd H l (.tup vs)) :=
  k _ _ _ [] (.lay s hl) .nil (.frz (.tup (.of upd_same) (r.mono (Ext.lay (o := .tup vs) s hl).ff)))
end
def lift {α : Type} : Option α → R α
  | some a => .ok a
  | none => .stuck

/-- an operation on two values that are looked at -/
def OpV (g : Gc) (r : R2) (h : DV → DV → Option DV) : Prop :=
  ∀ {F H : Hp} {x y : V} {dx dy d : DV} {A1 A2 : List Addr} {Q : VK}, Same F H → RO g F H x dx A1 → RO g F H y dy A2 → h dx dy = some d →
    Gv g F H d Q → r x y H Q
def op2 (h : DV → DV → Option DV) (fa fb : Slots → R DV) : Slots → R DV := fun env => (fa env).bind fun x => (fb env).bind fun y => lift (h x y)

section
variable {X : Cx} {Γ : Str → Option Addr} {W : WX} {e a b c : Expr} {f fa fb fc : Slots → R DV} {pos : Pos} {r r' : R2} {h h' : DV → DV → Option DV}

theorem rd2 (hv : OpV ⟨X.K, Γ⟩ r h) {σ : L2.St} {H : Hp} {Q : VK} (q : rdE ⟨X.K, Γ⟩ W (op2 h fa fb) σ H Q) : tOp r (rdV ⟨X.K, Γ⟩ W fa) (rdV ⟨X.K, Γ⟩ W fb) σ H Q := by
  obtain ⟨F, As, env, S, q⟩ := q
  refine ⟨F, As, env, S, ?_⟩
  unfold op2 at q
  cases ha : fa env with
  | stuck => rw [ha] at q; exact q
  | ex x => rw [ha] at q; exact q
  | ok dx =>
    rw [ha] at q
    intro x F1 H1 A1 x1 r1
    refine ⟨F1, As, env, S.ext x1, ?_⟩
    cases hb : fb env with
    | stuck => rw [hb] at q; exact q.elim
    | ex x => rw [hb] at q; exact fun cls dx F' H' x2 o => q cls dx F' H' (x1.trans x2) o
    | ok dy =>
      rw [hb] at q
      intro y F2 H2 A2 x2 r2
      cases hd : h dx dy with
      | none => simp only [R.bind, hd, lift] at q
      | some d =>
        simp only [R.bind, hd, lift] at q
        refine hv x2.fh (r1.ext x2) r2 hd fun v F' H' A x3 fr ro => q v F' H' A ((x1.trans x2).trans x3) ⟨fr.nd, fr.nF, fun a ha => (x1.trans x2).hh.free (fr.nH a ha)⟩ ro
theorem de_op {op : Operator} (ho : OpR X (binaryOp op) r) (hv : OpV ⟨X.K, Γ⟩ r h) (ha : DT X Γ W a fa) (hb : DT X Γ W b fb) : DE X Γ W (.BinOp a op b pos) (op2 h fa fb) :=
  ⟨pe_imp (pe_op ho ha.pe hb.pe) fun σ H Q q => rd2 hv q⟩
theorem de_cmp {op : CmpOp} (ho : OpR X (compareOp op) r) (hv : OpV ⟨X.K, Γ⟩ r h) (ha : DT X Γ W a fa) (hb : DT X Γ W b fb) (hm : behindInMarks op b = false := by first | exact nomark _ | rfl) : DE X Γ W (.Compare a [op] [b] pos) (op2 h fa fb) :=
  ⟨pe_imp (pe_cmpR ho ha.pe hb.pe hm) fun σ H Q q => rd2 hv q⟩

theorem OpV.or (h1 : OpV ⟨X.K, Γ⟩ r h) (h2 : OpV ⟨X.K, Γ⟩ r' h') : OpV ⟨X.K, Γ⟩ (fun x y H Q => r x y H Q ∨ r' x y H Q) (fun x y => match h x y with | some d => some d | none => h' x y) := by
  intro F H x y dx dy d A1 A2 Q s rx ry e k
  cases q : h dx dy with
  | some z =>
    simp only [q] at e
    cases e
    exact .inl (h1 s rx ry q k)
  | none =>
    simp only [q] at e
    exact .inr (h2 s rx ry e k)

/-! ### arithmetic -/
def addD : DV → DV → Option DV
  | .int i, .int j => some (.int (i + j))
  | .str x, .str y => if x.length + y.length ≤ big then some (.str (x ++ y)) else none
  | .tup xs, .tup ys => if xs.length + ys.length ≤ big then some (.tup (xs ++ ys)) else none
  | x, y => match elems x, elems y with
    | some xs, some ys => if (xs.all isFrz && ys.all isFrz) = true ∧ xs.length + ys.length ≤ big then some (.own (xs ++ ys)) else none
    | _, _ => none
theorem addD_lists {x y d : DV} {xs ys : List DV} (hx : elems x = some xs) (hy : elems y = some ys) (e : addD x y = some d) : (xs.all isFrz = true ∧ ys.all isFrz = true) ∧ xs.length + ys.length ≤ big ∧ d = .own (xs ++ ys) := by
  have e2 : (if (xs.all isFrz && ys.all isFrz) = true ∧ xs.length + ys.length ≤ big then some (DV.own (xs ++ ys)) else none) = some d := by
    cases x <;> first | (cases hx; done) | skip
    all_goals cases y <;> first | (cases hy; done) | skip
    all_goals cases hx; cases hy; exact e
  split at e2
  · rename_i c
    rw [Bool.and_eq_true] at c
    cases e2
    exact ⟨c.1, c.2, rfl⟩
  · cases e2
def rAddA (K : PySem.W.Frag) : R2 := fun x y H Q => (rI0 fun i j => .int (i + j)) x y H Q ∨ (∃ i j, x = .str i ∧ y = .str j ∧ i.length + j.length ≤ sizeLine ∧ Q (.str (i ++ j)) H) ∨ rCatA K x y H Q ∨ rCat x y H Q
theorem or_add : OpR X (binaryOp .Add) (rAddA X.K) := op_add.or (op_add_str.or (op_catA.or op_cat))
theorem ov_add : OpV ⟨X.K, Γ⟩ (rAddA X.K) addD := by
  intro F H x y dx dy d A1 A2 Q s rx ry e k
  have lists : ∀ xs ys, elems dx = some xs → elems dy = some ys → rAddA X.K x y H Q := fun xs ys hx hy => by
    obtain ⟨⟨z1, z2⟩, hz, rfl⟩ := addD_lists hx hy e
    obtain ⟨p, vs, B1, rfl, hp, r1⟩ := elems_inv s rx hx
    obtain ⟨q, us, B2, rfl, hq, r2⟩ := elems_inv s ry hy
    refine .inr (.inr (.inr ⟨p, q, vs, us, rfl, rfl, hp, hq, by rw [r1.len, r2.len]; exact big_le hz, fun l hl => ?_⟩))
    exact k.own s ((r1.frz z1).1.append (r2.frz z2).1) hl
  cases dx with
  | int i =>
    cases dy with
    | int j =>
      cases e
      cases rx.int_inv
      cases ry.int_inv
      exact .inl ⟨i, j, rfl, rfl, k.frz s (.int _)⟩
    | _ => cases e
  | str i =>
    cases dy with
    | str j =>
      have e : (if i.length + j.length ≤ big then some (DV.str (i ++ j)) else none) = some d := e
      split at e
      · rename_i c
        cases e
        cases rx.str_inv
        cases ry.str_inv
        exact .inr (.inl ⟨i, j, rfl, rfl, big_le c, k.frz s (.str _)⟩)
      · cases e
    | _ => cases e
  | tup xs =>
    cases dy with
    | tup ys =>
      have e : (if xs.length + ys.length ≤ big then some (DV.tup (xs ++ ys)) else none) = some d := e
      split at e
      · rename_i c
        cases e
        obtain ⟨p, vs, rfl, hp, r1⟩ := rx.tup_inv
        obtain ⟨q, us, rfl, hq, r2⟩ := ry.tup_inv
        refine .inr (.inr (.inl ⟨p, q, vs, us, rfl, rfl, sqT_same s hp, sqT_same s hq, by rw [r1.len, r2.len]; exact big_le c, fun z => ?_, fun _ z => ?_, fun _ _ l hl => k.tup s (r1.append r2) hl⟩))
        · subst z
          cases r1
          exact k.frz s (.tup hq r2)
        · subst z
          cases r2
          exact k.frz s (.tup hp (by rw [List.append_nil]; exact r1))
      · cases e
    | _ => cases e
  | lst xs =>
    cases dy with
    | lst ys => exact lists xs ys rfl rfl
    | own ys => exact lists xs ys rfl rfl
    | _ => cases e
  | own xs =>
    cases dy with
    | lst ys => exact lists xs ys rfl rfl
    | own ys => exact lists xs ys rfl rfl
    | _ => cases e
  | _ => cases dy <;> cases e
theorem de_add (ha : DT X Γ W a fa) (hb : DT X Γ W b fb) : DE X Γ W (.BinOp a .Add b pos) (op2 addD fa fb) := de_op or_add ov_add ha hb

/-- ints alone, under a condition -/
def intD (c : Int → Int → Bool) (f : Int → Int → DV) : DV → DV → Option DV
  | .int i, .int j => if c i j = true then some (f i j) else none
  | _, _ => none
theorem ov_int {C : Int → Int → Prop} {G : Int → Int → V} {c : Int → Int → Bool} {f : Int → Int → DV} (hc : ∀ i j, c i j = true → C i j) (hf : ∀ g F i j, RF g F (G i j) (f i j)) : OpV ⟨X.K, Γ⟩ (rI C G) (intD c f) := by
  intro F H x y dx dy d A1 A2 Q s rx ry e k
  cases dx with
  | int i =>
    cases dy with
    | int j =>
      have e : (if c i j = true then some (f i j) else none) = some d := e
      split at e
      · rename_i z
        cases e
        cases rx.int_inv
        cases ry.int_inv
        exact ⟨i, j, rfl, rfl, hc i j z, k.frz s (hf _ _ i j)⟩
      · cases e
    | _ => cases e
  | _ => cases dy <;> cases e
theorem ov_int0 {G : Int → Int → V} {f : Int → Int → DV} (hf : ∀ g F i j, RF g F (G i j) (f i j)) : OpV ⟨X.K, Γ⟩ (rI0 G) (intD (fun _ _ => true) f) := by
  intro F H x y dx dy d A1 A2 Q s rx ry e k
  cases dx with
  | int i =>
    cases dy with
    | int j =>
      cases e
      cases rx.int_inv
      cases ry.int_inv
      exact ⟨i, j, rfl, rfl, k.frz s (hf _ _ i j)⟩
    | _ => cases e
  | _ => cases dy <;> cases e
def subD : DV → DV → Option DV := intD (fun _ _ => true) fun i j => .int (i - j)
theorem de_sub (ha : DT X Γ W a fa) (hb : DT X Γ W b fb) : DE X Γ W (.BinOp a .Sub b pos) (op2 subD fa fb) := de_op op_sub (ov_int0 fun _ _ i j => .int (i - j)) ha hb
/-- a list by an int | two ints -/
def mulD : DV → DV → Option DV
  | .int i, .int j => if i.natAbs.log2 + j.natAbs.log2 < 1000000 then some (.int (i * j)) else none
  | x, .int j => match elems x with
    | some xs => if xs.all isFrz = true ∧ (-(2 ^ 63) ≤ j ∧ j < 2 ^ 63) ∧ xs.length * j.toNat ≤ big then some (.own (List.replicate j.toNat xs).flatten) else none
    | none => none
  | _, _ => none
theorem mulD_list {x d : DV} {xs : List DV} {j : Int} (hx : elems x = some xs) (e : mulD x (.int j) = some d) : xs.all isFrz = true ∧ (-(2 ^ 63) ≤ j ∧ j < 2 ^ 63) ∧ xs.length * j.toNat ≤ big ∧ d = .own (List.replicate j.toNat xs).flatten := by
  have e2 : (if xs.all isFrz = true ∧ (-(2 ^ 63) ≤ j ∧ j < 2 ^ 63) ∧ xs.length * j.toNat ≤ big then some (DV.own (List.replicate j.toNat xs).flatten) else none) = some d := by
    cases x <;> first | (cases hx; done) | (cases hx; exact e)
  split at e2
  · rename_i c
    cases e2
    exact ⟨c.1, c.2.1, c.2.2, rfl⟩
  · cases e2
theorem or_mul : OpR X (binaryOp .Mult) (fun x y H Q => (rI CMulW fun i j => .int (i * j)) x y H Q ∨ rRep x y H Q) := op_mulW.or op_rep
theorem ov_mul : OpV ⟨X.K, Γ⟩ (fun x y H Q => (rI CMulW fun i j => .int (i * j)) x y H Q ∨ rRep x y H Q) mulD := by
  intro F H x y dx dy d A1 A2 Q s rx ry e k
  cases dy with
  | int j =>
    cases ry.int_inv
    cases hx : elems dx with
    | some xs =>
      obtain ⟨z, h1, h2, rfl⟩ := mulD_list hx e
      obtain ⟨p, vs, B, rfl, hp, r1⟩ := elems_inv s rx hx
      refine .inr ⟨p, j, vs, rfl, rfl, hp, h1.1, h1.2, ?_, fun l hl => k.own s ((r1.frz z).1.rep _) hl⟩
      rw [r1.len]
      exact big_le h2
    | none =>
      cases dx with
      | int i =>
        have e : (if i.natAbs.log2 + j.natAbs.log2 < 1000000 then some (DV.int (i * j)) else none) = some d := e
        split at e
        · rename_i c
          cases e
          cases rx.int_inv
          exact .inl ⟨i, j, rfl, rfl, c, k.frz s (.int _)⟩
        · cases e
      | lst _ => cases hx
      | own _ => cases hx
      | _ => cases e
  | _ => cases dx <;> cases e
theorem de_mul (ha : DT X Γ W a fa) (hb : DT X Γ W b fb) : DE X Γ W (.BinOp a .Mult b pos) (op2 mulD fa fb) := de_op or_mul ov_mul ha hb
/-- floor: of a positive divisor, of a negative one -/
def fdivI (i j : Int) : Int := if 0 < j then i / j else i.fdiv j
def CDivA (_ j : Int) : Prop := j ≠ 0 ∧ j.natAbs.log2 < 9000
theorem op_fdivA : OpR X (binaryOp .FloorDiv) (rI CDivA fun i j => .int (fdivI i j)) := opI fun i j _ _ _ _ _ hc q => by
  refine floordiv_int hc.1 ?_ (.inl (PyProof.noPylong_of_log2 hc.2))
  unfold fdivI at q
  split at q
  · rw [Int.fdiv_eq_ediv_of_nonneg i (by omega)]; exact q
  · exact q
def divD : DV → DV → Option DV := intD (fun _ j => decide (j ≠ 0 ∧ j.natAbs.log2 < 9000)) fun i j => .int (fdivI i j)
theorem de_div (ha : DT X Γ W a fa) (hb : DT X Γ W b fb) : DE X Γ W (.BinOp a .FloorDiv b pos) (op2 divD fa fb) := de_op op_fdivA (ov_int (fun _ _ h => of_decide_eq_true h) fun _ _ _ _ => .int _) ha hb
def fmodI (i j : Int) : Int := if 0 < j then i % j else i.fmod j
theorem op_modA : OpR X (binaryOp .Mod) (rI (fun _ j => j ≠ 0) fun i j => .int (fmodI i j)) := opI fun i j _ _ _ _ _ hc q => by
  refine mod_int' hc ?_
  unfold fmodI at q
  split at q
  · rw [Int.fmod_eq_emod_of_nonneg i (by omega)]; exact q
  · exact q
def modD : DV → DV → Option DV := intD (fun _ j => decide (j ≠ 0)) fun i j => .int (fmodI i j)
theorem de_mod (ha : DT X Γ W a fa) (hb : DT X Γ W b fb) : DE X Γ W (.BinOp a .Mod b pos) (op2 modD fa fb) := de_op op_modA (ov_int (fun _ _ h => of_decide_eq_true h) fun _ _ _ _ => .int _) ha hb
def powD : DV → DV → Option DV := intD (fun i j => decide (0 ≤ j ∧ j ≤ 1000000 ∧ i.natAbs < 2 ^ 64)) fun i j => .int (i ^ j.toNat)
theorem de_pow (ha : DT X Γ W a fa) (hb : DT X Γ W b fb) : DE X Γ W (.BinOp a .Pow b pos) (op2 powD fa fb) := de_op op_pow (ov_int (fun _ _ h => of_decide_eq_true h) fun _ _ _ _ => .int _) ha hb

/-! ### order -/
/-- ints of a tuple -/
def intsOf : List DV → Option (List Int)
  | [] => some []
  | .int i :: r => (intsOf r).map (i :: ·)
  | _ => none
theorem intsOf_map : ∀ {ds : List DV} {ns : List Int}, intsOf ds = some ns → ds = ns.map .int
  | [], _, h => by cases h; rfl
  | .int i :: r, ns, h => by
    cases q : intsOf r with
    | none => simp [intsOf, q] at h
    | some ms =>
      simp [intsOf, q] at h
      subst h
      rw [List.map_cons, intsOf_map q]
  | .non :: _, _, h => by cases h
  | .bl _ :: _, _, h => by cases h
  | .str _ :: _, _, h => by cases h
  | .tup _ :: _, _, h => by cases h
  | .lst _ :: _, _, h => by cases h
  | .own _ :: _, _, h => by cases h
  | .ins _ _ :: _, _, h => by cases h
  | .obj _ _ :: _, _, h => by cases h
  | .scr _ :: _, _, h => by cases h
  | .rng _ _ :: _, _, h => by cases h
  | .exc _ _ :: _, _, h => by cases h
theorem intsOf_ofInts : ∀ (ns : List Int), intsOf (ns.map .int) = some ns
  | [] => rfl
  | n :: ns => by
    show (intsOf (ns.map .int)).map (n :: ·) = _
    rw [intsOf_ofInts ns]; rfl
def ltD : DV → DV → Option DV
  | .int i, .int j => some (.bl (decide (i < j)))
  | .tup xs, .tup ys => match intsOf xs, intsOf ys with
    | some ns, some ms => some (.bl (HT.lexLt ns ms))
    | _, _ => none
  | _, _ => none
theorem ov_lt : OpV ⟨X.K, Γ⟩ (fun x y H Q => (rI0 fun i j => .bl (decide (i < j))) x y H Q ∨ rLtT X.K x y H Q) ltD := by
  intro F H x y dx dy d A1 A2 Q s rx ry e k
  cases dx with
  | int i =>
    cases dy with
    | int j =>
      cases e
      cases rx.int_inv
      cases ry.int_inv
      exact .inl ⟨i, j, rfl, rfl, k.frz s (.bl _)⟩
    | _ => cases e
  | tup xs =>
    cases dy with
    | tup ys =>
      cases h1 : intsOf xs with
      | none => simp [ltD, h1] at e
      | some ns =>
        cases h2 : intsOf ys with
        | none => simp [ltD, h1, h2] at e
        | some ms =>
          simp [ltD, h1, h2] at e
          subst e
          obtain ⟨p, vs, rfl, hp, r1⟩ := rx.tup_inv
          obtain ⟨q, us, rfl, hq, r2⟩ := ry.tup_inv
          rw [intsOf_map h1] at r1
          rw [intsOf_map h2] at r2
          have e1 := r1.ints
          have e2 := r2.ints
          subst e1 e2
          exact .inr ⟨p, q, ns, ms, rfl, rfl, sqT_same s hp, sqT_same s hq, k.frz s (.bl _)⟩
    | _ => cases e
  | _ => cases dy <;> cases e
theorem de_lt (hu : X.A.units < cLine) (ha : DT X Γ W a fa) (hb : DT X Γ W b fb) : DE X Γ W (.Compare a [.Lt] [b] pos) (op2 ltD fa fb) := de_cmp (op_lt.or (op_ltT hu)) ov_lt ha hb
def leD : DV → DV → Option DV := intD (fun _ _ => true) fun i j => .bl (decide (i ≤ j))
def gtD : DV → DV → Option DV := intD (fun _ _ => true) fun i j => .bl (decide (j < i))
def geD : DV → DV → Option DV := intD (fun _ _ => true) fun i j => .bl (decide (j ≤ i))
theorem de_le (ha : DT X Γ W a fa) (hb : DT X Γ W b fb) : DE X Γ W (.Compare a [.LtE] [b] pos) (op2 leD fa fb) := de_cmp op_le (ov_int0 fun _ _ _ _ => .bl _) ha hb
theorem de_gt (ha : DT X Γ W a fa) (hb : DT X Γ W b fb) : DE X Γ W (.Compare a [.Gt] [b] pos) (op2 gtD fa fb) := de_cmp op_gt (ov_int0 fun _ _ _ _ => .bl _) ha hb
theorem de_ge (ha : DT X Γ W a fa) (hb : DT X Γ W b fb) : DE X Γ W (.Compare a [.GtE] [b] pos) (op2 geD fa fb) := de_cmp op_ge (ov_int0 fun _ _ _ _ => .bl _) ha hb

/-! ### == of data -/
mutual
def toPy : DV → Option PyData
  | .non => some .none
  | .bl b => some (.bool b)
  | .int i => some (.int i)
  | .str x => some (.str x)
  | .tup ds => (toPys ds).map .tuple
  | .lst ds => (toPys ds).map .list
  | .own ds => (toPys ds).map .list
  | .scr ds => (toPys ds).map .list
  | .ins _ _ => none
  | .obj _ _ => none
  | .rng _ _ => none
  | .exc _ _ => none
def toPys : List DV → Option (List PyData)
  | [] => some []
  | d :: ds => match toPy d, toPys ds with
    | some p, some ps => some (p :: ps)
    | _, _ => none
end
mutual
theorem RF.dp {g : Gc} {F : Hp} : ∀ {v : V} {d : DV} {p : PyData}, RF g F v d → toPy d = some p → Dp g.K F v p
  | _, _, _, .non, e => by simp [toPy] at e; subst e; exact .non
  | _, _, _, .bl b, e => by simp [toPy] at e; subst e; exact .bl b
  | _, _, _, .int b, e => by simp [toPy] at e; subst e; exact .int b
  | _, _, _, .str b, e => by simp [toPy] at e; subst e; exact .str b
  | _, _, _, .tup (ds := ds) h r, e => by
    simp only [toPy, Option.map_eq_some_iff] at e
    obtain ⟨ps, e1, rfl⟩ := e
    exact .tup h (RFs.dp r e1)
  | _, _, _, .lst h r, e => by
    simp only [toPy, Option.map_eq_some_iff] at e
    obtain ⟨ps, e1, rfl⟩ := e
    exact .lst (.of h) (RFs.dp r e1)
  | _, _, _, .scr h r, e => by
    simp only [toPy, Option.map_eq_some_iff] at e
    obtain ⟨ps, e1, rfl⟩ := e
    exact .lst h (RFs.dp r e1)
  | _, _, _, .rng h, e => by simp [toPy] at e
  | _, _, _, .ins _ _ _, e => by simp [toPy] at e
  | _, _, _, .exc _ _ _, e => by simp [toPy] at e
  | _, _, _, .excD _ _ _ _ _, e => by simp [toPy] at e
theorem RFs.dp {g : Gc} {F : Hp} : ∀ {v : List V} {d : List DV} {p : List PyData}, RFs g F v d → toPys d = some p → DpAll g.K F v p
  | _, _, _, .nil, e => by simp [toPys] at e; subst e; exact .nil
  | _, _, _, .cons (d := d) (ds := ds) h r, e => by
    cases q1 : toPy d with
    | none => simp [toPys, q1] at e
    | some p1 =>
      cases q2 : toPys ds with
      | none => simp [toPys, q1, q2] at e
      | some p2 =>
        simp [toPys, q1, q2] at e
        subst e
        exact .cons (RF.dp h q1) (RFs.dp r q2)
end
mutual
theorem Dp.same {K : PySem.W.Frag} {F H : Hp} (s : Same F H) : ∀ {v : V} {p : PyData}, Dp K F v p → Dp K H v p
  | _, _, .non => .non
  | _, _, .bl b => .bl b
  | _, _, .int b => .int b
  | _, _, .str b => .str b
  | _, _, .lst h r => .lst (sqL_same s h) (DpAll.same s r)
  | _, _, .tup h r => .tup (sqT_same s h) (DpAll.same s r)
theorem DpAll.same {K : PySem.W.Frag} {F H : Hp} (s : Same F H) : ∀ {v : List V} {p : List PyData}, DpAll K F v p → DpAll K H v p
  | _, _, .nil => .nil
  | _, _, .cons h r => .cons (Dp.same s h) (DpAll.same s r)
end
mutual
theorem RO.dp {g : Gc} {F H : Hp} (s : Same F H) : ∀ {v : V} {d : DV} {A : List Addr} {p : PyData}, RO g F H v d A → toPy d = some p → Dp g.K H v p
  | _, _, _, _, .frz h, e => Dp.same s (h.dp e)
  | _, _, _, _, .own h r, e => by
    simp only [toPy, Option.map_eq_some_iff] at e
    obtain ⟨ps, e1, rfl⟩ := e
    exact .lst (.of h) (ROs.dp s r e1)
  | _, _, _, _, .obj _ _ _, e => by simp [toPy] at e
theorem ROs.dp {g : Gc} {F H : Hp} (s : Same F H) : ∀ {v : List V} {d : List DV} {A : List Addr} {p : List PyData}, ROs g F H v d A → toPys d = some p → DpAll g.K H v p
  | _, _, _, _, .nil, e => by simp [toPys] at e; subst e; exact .nil
  | _, _, _, _, .cons (d := d) (ds := ds) h r, e => by
    cases q1 : toPy d with
    | none => simp [toPys, q1] at e
    | some p1 =>
      cases q2 : toPys ds with
      | none => simp [toPys, q1, q2] at e
      | some p2 =>
        simp [toPys, q1, q2] at e
        subst e
        exact .cons (RO.dp s h q1) (ROs.dp s r q2)
end
def eqB (x y : DV) : Option Bool := match toPy x, toPy y with
  | some p, some q => if SeqAt.shaped p && SeqAt.shaped q then some (PyData.eqv p q) else none
  | _, _ => none
theorem eqB_inv {x y : DV} {b : Bool} (h : eqB x y = some b) : ∃ p q, toPy x = some p ∧ toPy y = some q ∧ SeqAt.shaped p = true ∧ SeqAt.shaped q = true ∧ b = PyData.eqv p q := by
  unfold eqB at h
  cases h1 : toPy x with
  | none => simp [h1] at h
  | some p =>
    cases h2 : toPy y with
    | none => simp [h1, h2] at h
    | some q =>
      simp only [h1, h2] at h
      split at h
      · rename_i c
        rw [Bool.and_eq_true] at c
        cases h
        exact ⟨p, q, rfl, rfl, c.1, c.2, rfl⟩
      · cases h
def eqD (x y : DV) : Option DV := (eqB x y).map .bl
def neD (x y : DV) : Option DV := (eqB x y).map fun b => .bl (!b)
theorem ov_eq : OpV ⟨X.K, Γ⟩ (rEqD X.K) eqD := by
  intro F H x y dx dy d A1 A2 Q s rx ry e k
  simp only [eqD, Option.map_eq_some_iff] at e
  obtain ⟨b, e, rfl⟩ := e
  obtain ⟨p, q, h1, h2, h3, h4, rfl⟩ := eqB_inv e
  exact ⟨p, q, rx.dp s h1, ry.dp s h2, h3, h4, k.frz s (.bl _)⟩
theorem ov_ne : OpV ⟨X.K, Γ⟩ (rNeD X.K) neD := by
  intro F H x y dx dy d A1 A2 Q s rx ry e k
  simp only [neD, Option.map_eq_some_iff] at e
  obtain ⟨b, e, rfl⟩ := e
  obtain ⟨p, q, h1, h2, h3, h4, rfl⟩ := eqB_inv e
  exact ⟨p, q, rx.dp s h1, ry.dp s h2, h3, h4, k.frz s (.bl _)⟩
theorem de_eq (hu : X.A.units + 64 < cLine) (ha : DT X Γ W a fa) (hb : DT X Γ W b fb) : DE X Γ W (.Compare a [.Eq] [b] pos) (op2 eqD fa fb) := de_cmp (op_eqD hu) ov_eq ha hb
theorem de_ne (hu : X.A.units + 64 < cLine) (ha : DT X Γ W a fa) (hb : DT X Γ W b fb) : DE X Γ W (.Compare a [.NotEq] [b] pos) (op2 neD fa fb) := de_cmp (op_neD hu) ov_ne ha hb
end
end DL
end
section
set_option maxHeartbeats 1000000
namespace DL
open PySem L2 PyProof.Rows

/-! ### in -/
def flat : DV → Bool
  | .non => true
  | .bl _ => true
  | .int _ => true
  | .str _ => true
  | _ => false
def eqSc : DV → DV → Bool
  | .non, .non => true
  | .bl a, .bl b => a == b
  | .bl a, .int b => (if a then 1 else 0) == b
  | .int a, .bl b => a == (if b then 1 else 0)
  | .int a, .int b => a == b
  | .str a, .str b => a == b
  | _, _ => false
def itemsOf : DV → Option (List DV)
  | .lst ds => some ds
  | .own ds => some ds
  | .scr ds => some ds
  | .tup ds => some ds
  | _ => none
theorem items_inv {g : Gc} {F H : Hp} {x : V} {d : DV} {A : List Addr} {ds : List DV} (s : Same F H) (h : RO g F H x d A) (e : itemsOf d = some ds) : ∃ p vs B, x = .ref p ∧ (SqL g.K H p vs ∨ SqT g.K H p vs) ∧ ROs g F H vs ds B := by
  cases d with
  | lst zs =>
    cases e
    obtain ⟨r, _⟩ := h.frz_inv rfl
    cases r with
    | lst h1 h2 => exact ⟨_, _, _, rfl, .inl (.of (s _ _ h1)), h2.ros⟩
  | own zs =>
    cases e
    cases h with
    | frz r => cases r
    | own h1 h2 => exact ⟨_, _, _, rfl, .inl (.of h1), h2⟩
  | scr zs =>
    cases e
    obtain ⟨r, _⟩ := h.frz_inv rfl
    cases r with
    | scr h1 h2 => exact ⟨_, _, _, rfl, .inl (sqL_same s h1), h2.ros⟩
  | tup zs =>
    cases e
    obtain ⟨r, _⟩ := h.frz_inv rfl
    cases r with
    | tup h1 h2 => exact ⟨_, _, _, rfl, .inr (sqT_same s h1), h2.ros⟩
  | _ => cases e
theorem flat_frz {d : DV} (h : flat d = true) : isFrz d = true := by cases d <;> first | rfl | cases h
theorem flat_v {g : Gc} {F H : Hp} {x : V} {d : DV} {A : List Addr} (h : RO g F H x d A) (e : flat d = true) : flatV x = true := by
  obtain ⟨r, _⟩ := h.frz_inv (flat_frz e)
  cases r <;> first | rfl | cases e
theorem eqSc_v {g : Gc} {F H F' H' : Hp} {x y : V} {d e : DV} {A B : List Addr} (h1 : RO g F H x d A) (h2 : RO g F' H' y e B) (f1 : flat d = true) (f2 : flat e = true) : eqV x y = eqSc d e := by
  obtain ⟨r1, _⟩ := h1.frz_inv (flat_frz f1)
  obtain ⟨r2, _⟩ := h2.frz_inv (flat_frz f2)
  cases r1 <;> first | (cases f1; done) | (cases r2 <;> first | rfl | (cases f2; done))
theorem flats {g : Gc} {F H : Hp} : ∀ {vs : List V} {ds : List DV} {A : List Addr}, ROs g F H vs ds A → ds.all flat = true → vs.all flatV = true
  | _, _, _, .nil, _ => rfl
  | _, _, _, .cons h r, e => by
    rw [List.all_cons, Bool.and_eq_true] at e ⊢
    exact ⟨flat_v h e.1, flats r e.2⟩
theorem inV_eq {g : Gc} {F H : Hp} {x : V} {d : DV} {A : List Addr} (hx : RO g F H x d A) (fx : flat d = true) : ∀ {vs : List V} {ds : List DV} {B : List Addr}, ROs g F H vs ds B → ds.all flat = true → inV x vs = ds.any fun y => eqSc y d
  | _, _, _, .nil, _ => rfl
  | _, _, _, .cons h r, e => by
    rw [List.all_cons, Bool.and_eq_true] at e
    unfold inV
    rw [List.any_cons, List.any_cons, eqSc_v h hx e.1 fx]
    have := inV_eq hx fx r e.2
    unfold inV at this
    rw [this]
def inStr (x z : Str) : Option Bool := match x.cps.toList with
  | [c] => some (decide (c ∈ z.cps.toList))
  | _ => none
def inB (x c : DV) : Option Bool := match itemsOf c with
  | some xs => if (flat x && xs.all flat) = true then some (xs.any fun y => eqSc y x) else none
  | none => match x, c with
    | .int i, .rng lo hi => some (decide (lo ≤ i ∧ i < hi))
    | .str x, .str z => inStr x z
    | _, _ => none
def inD (x c : DV) : Option DV := (inB x c).map .bl
def niD (x c : DV) : Option DV := (inB x c).map fun b => .bl (!b)
def rInR : R2 := fun x y H Q => ∃ i a lo hi, x = V.int i ∧ y = V.ref a ∧ H a = some (.rng lo hi) ∧ Q (.bl (decide (lo ≤ i ∧ i < hi))) H
def rNiR : R2 := fun x y H Q => ∃ i a lo hi, x = V.int i ∧ y = V.ref a ∧ H a = some (.rng lo hi) ∧ Q (.bl (!decide (lo ≤ i ∧ i < hi))) H
def rInC : R2 := fun x y H Q => ∃ (c : Nat) (z : Str), x = .str ⟨#[c]⟩ ∧ y = .str z ∧ Q (.bl (decide (c ∈ z.cps.toList))) H
def rNiC : R2 := fun x y H Q => ∃ (c : Nat) (z : Str), x = .str ⟨#[c]⟩ ∧ y = .str z ∧ Q (.bl (!decide (c ∈ z.cps.toList))) H
def rInA (K : PySem.W.Frag) : R2 := fun x y H Q => rIn K false x y H Q ∨ rInR x y H Q ∨ rInC x y H Q
def rNiA (K : PySem.W.Frag) : R2 := fun x y H Q => rIn K true x y H Q ∨ rNiR x y H Q ∨ rNiC x y H Q
section
variable {X : Cx}
theorem op_notIn_rng : OpR X (compareOp .NotIn) rNiR := by
  intro pins s σ H x y v u Q I rx ry h
  obtain ⟨i, a, lo, hi, rfl, rfl, ha, q⟩ := h
  obtain ⟨k, rfl⟩ := rx
  obtain rfl : u = Value.ref a := ry
  obtain ⟨t1, t2, t3, ho⟩ := I.hok a _ ha
  show wpAny _ _ (do return Value.bool (!(← contains (Value.ref a) (Value.int i k)))) _ _ s
  refine wpAny_bind (wpAny_contains_slot (T := "range") ⟨_, ho, rfl⟩ F.slot_range_contains (call_meets F.slot_range_contains ⟨_, ho, rfl⟩ F.entry_range_contains (F.args_range_contains_2 _ _) (q_contains a lo hi i t1 t2 t3 k)
    ⟨ho, wpAny_truthy_bool (wpAny_pure ⟨.bl _, H, I, rfl, ?_⟩)⟩))
  rw [place1]
  exact q
theorem or_in : OpR X (compareOp .In) (rInA X.K) := op_in_seq.or (op_in_rng.or op_in_sign)
theorem or_ni : OpR X (compareOp .NotIn) (rNiA X.K) := op_notIn_seq.or (op_notIn_rng.or op_notIn_sign)
end
theorem inStr_inv {x z : Str} {b : Bool} (h : inStr x z = some b) : ∃ c, x = ⟨#[c]⟩ ∧ b = decide (c ∈ z.cps.toList) := by
  unfold inStr at h
  split at h
  · rename_i c hc
    cases h
    refine ⟨c, ?_, rfl⟩
    cases x with
    | mk a => cases a with
      | mk l => 
        have : l = [c] := hc
        subst this
        rfl
  · cases h
section
variable {X : Cx} {Γ : Str → Option Addr} {W : WX} {e a b c : Expr} {f fa fb fc : Slots → R DV} {pos : Pos}
theorem inB_cases {F H : Hp} {x y : V} {dx dy : DV} {A1 A2 : List Addr} {k : Bool} (s : Same F H) (rx : RO ⟨X.K, Γ⟩ F H x dx A1) (ry : RO ⟨X.K, Γ⟩ F H y dy A2) (e : inB dx dy = some k) :
    (∃ p xs, y = .ref p ∧ (SqL X.K H p xs ∨ SqT X.K H p xs) ∧ flatV x = true ∧ xs.all flatV = true ∧ k = inV x xs) ∨ (∃ i a lo hi, x = V.int i ∧ y = V.ref a ∧ H a = some (.rng lo hi) ∧ k = decide (lo ≤ i ∧ i < hi)) ∨
      (∃ (c : Nat) (z : Str), x = .str ⟨#[c]⟩ ∧ y = .str z ∧ k = decide (c ∈ z.cps.toList)) := by
  unfold inB at e
  cases hi : itemsOf dy with
  | some xs =>
    simp only [hi] at e
    split at e
    · rename_i c
      rw [Bool.and_eq_true] at c
      cases e
      obtain ⟨p, vs, B, rfl, h1, h2⟩ := items_inv s ry hi
      exact .inl ⟨p, vs, rfl, h1, flat_v rx c.1, flats h2 c.2, (inV_eq rx c.1 h2 c.2).symm⟩
    · cases e
  | none =>
    simp only [hi] at e
    split at e
    · cases e
      cases rx.int_inv
      obtain ⟨p, rfl, hp⟩ := ry.rng_inv
      exact .inr (.inl ⟨_, p, _, _, rfl, rfl, s _ _ hp, rfl⟩)
    · obtain ⟨c, rfl, rfl⟩ := inStr_inv e
      cases rx.str_inv
      cases ry.str_inv
      exact .inr (.inr ⟨c, _, rfl, rfl, rfl⟩)
    · cases e
theorem ov_in : OpV ⟨X.K, Γ⟩ (rInA X.K) inD := by
  intro F H x y dx dy d A1 A2 Q s rx ry e k
  simp only [inD, Option.map_eq_some_iff] at e
  obtain ⟨b, e, rfl⟩ := e
  have q := k.frz s (v := .bl b) (.bl b)
  rcases inB_cases s rx ry e with ⟨p, xs, rfl, h1, h2, h3, rfl⟩ | ⟨i, p, lo, hi, rfl, rfl, h, rfl⟩ | ⟨c, z, rfl, rfl, rfl⟩
  · exact .inl ⟨p, xs, rfl, h1, h2, h3, q⟩
  · exact .inr (.inl ⟨i, p, lo, hi, rfl, rfl, h, q⟩)
  · exact .inr (.inr ⟨c, z, rfl, rfl, q⟩)
theorem ov_ni : OpV ⟨X.K, Γ⟩ (rNiA X.K) niD := by
  intro F H x y dx dy d A1 A2 Q s rx ry e k
  simp only [niD, Option.map_eq_some_iff] at e
  obtain ⟨b, e, rfl⟩ := e
  have q := k.frz s (v := .bl (!b)) (.bl (!b))
  rcases inB_cases s rx ry e with ⟨p, xs, rfl, h1, h2, h3, rfl⟩ | ⟨i, p, lo, hi, rfl, rfl, h, rfl⟩ | ⟨c, z, rfl, rfl, rfl⟩
  · exact .inl ⟨p, xs, rfl, h1, h2, h3, q⟩
  · exact .inr (.inl ⟨i, p, lo, hi, rfl, rfl, h, q⟩)
  · exact .inr (.inr ⟨c, z, rfl, rfl, q⟩)
theorem de_in (ha : DT X Γ W a fa) (hb : DT X Γ W b fb) (hm : behindInMarks .In b = false := by rfl) : DE X Γ W (.Compare a [.In] [b] pos) (op2 inD fa fb) := de_cmp or_in ov_in ha hb hm
theorem de_ni (ha : DT X Γ W a fa) (hb : DT X Γ W b fb) (hm : behindInMarks .NotIn b = false := by rfl) : DE X Γ W (.Compare a [.NotIn] [b] pos) (op2 niD fa fb) := de_cmp or_ni ov_ni ha hb hm

/-! ### is -/
def isNon : DV → Bool
  | .non => true
  | _ => false
def isB (x y : DV) : Option Bool := match y with
  | .non => some (isNon x)
  | .bl b => match x with
    | .bl a => some (decide (a = b))
    | _ => none
  | _ => none
def isD (x y : DV) : Option DV := (isB x y).map .bl
def isnotD (x y : DV) : Option DV := (isB x y).map fun b => .bl (!b)
theorem isNon_v {g : Gc} {F H : Hp} {x : V} {d : DV} {A : List Addr} (h : RO g F H x d A) : decide (x = .non) = isNon d := by
  cases h with
  | frz r => cases r <;> rfl
  | own _ _ => rfl
  | obj _ _ _ => rfl
theorem ov_is : OpV ⟨X.K, Γ⟩ (fun x y H Q => (y = .non ∧ Q (.bl (decide (x = .non))) H) ∨ (∃ a b, x = .bl a ∧ y = .bl b ∧ Q (.bl (decide (a = b))) H)) isD := by
  intro F H x y dx dy d A1 A2 Q s rx ry e k
  simp only [isD, Option.map_eq_some_iff] at e
  obtain ⟨b, e, rfl⟩ := e
  have q := k.frz s (v := .bl b) (.bl b)
  cases dy with
  | non =>
    cases e
    cases ry.non_inv
    exact .inl ⟨rfl, by rw [isNon_v rx]; exact q⟩
  | bl c =>
    cases dx with
    | bl a =>
      cases e
      cases ry.bl_inv
      cases rx.bl_inv
      exact .inr ⟨a, c, rfl, rfl, q⟩
    | _ => cases e
  | _ => cases e
theorem ov_isnot : OpV ⟨X.K, Γ⟩ (fun x y H Q => (y = .non ∧ Q (.bl (!decide (x = .non))) H) ∨ (∃ a b, x = .bl a ∧ y = .bl b ∧ Q (.bl (!decide (a = b))) H)) isnotD := by
  intro F H x y dx dy d A1 A2 Q s rx ry e k
  simp only [isnotD, Option.map_eq_some_iff] at e
  obtain ⟨b, e, rfl⟩ := e
  have q := k.frz s (v := .bl (!b)) (.bl (!b))
  cases dy with
  | non =>
    cases e
    cases ry.non_inv
    exact .inl ⟨rfl, by rw [isNon_v rx]; exact q⟩
  | bl c =>
    cases dx with
    | bl a =>
      cases e
      cases ry.bl_inv
      cases rx.bl_inv
      exact .inr ⟨a, c, rfl, rfl, q⟩
    | _ => cases e
  | _ => cases e
theorem de_is (ha : DT X Γ W a fa) (hb : DT X Γ W b fb) : DE X Γ W (.Compare a [.Is] [b] pos) (op2 isD fa fb) := de_cmp (op_isN.or op_is_bl) ov_is ha hb
theorem de_isnot (ha : DT X Γ W a fa) (hb : DT X Γ W b fb) : DE X Γ W (.Compare a [.IsNot] [b] pos) (op2 isnotD fa fb) := de_cmp (op_notN.or op_isnot_bl) ov_isnot ha hb

/-! ### tests -/
def truB : DV → Option Bool
  | .non => some false
  | .bl b => some b
  | .int i => some (i != 0)
  | .str x => if x.length ≤ big then some (decide (x.length ≠ 0)) else none
  | .tup ds => some (!ds.isEmpty)
  | .lst ds => some (!ds.isEmpty)
  | .own ds => some (!ds.isEmpty)
  | .scr ds => some (!ds.isEmpty)
  | _ => none
theorem empty_len {α β : Type} {l : List α} {k : List β} (h : l.length = k.length) : l.isEmpty = k.isEmpty := by
  cases l <;> cases k <;> first | rfl | (simp at h)
theorem tru_v {g : Gc} {F H : Hp} {x : V} {d : DV} {A : List Addr} {b : Bool} (s : Same F H) (h : RO g F H x d A) (e : truB d = some b) : TruV g.K x H b := by
  cases d with
  | non => cases e; cases h.non_inv; rfl
  | bl c => cases e; cases h.bl_inv; rfl
  | int i => cases e; cases h.int_inv; rfl
  | str z =>
    have e : (if z.length ≤ big then some (decide (z.length ≠ 0)) else none) = some b := e
    split at e
    · rename_i c
      cases e
      cases h.str_inv
      refine ⟨big_le c, ?_⟩
      by_cases hz : z.length = 0 <;> simp [hz]
    · cases e
  | tup ds =>
    cases e
    obtain ⟨p, vs, rfl, hp, r⟩ := h.tup_inv
    exact .inr (.inl ⟨vs, sqT_same s hp, by rw [empty_len r.len]⟩)
  | lst ds =>
    cases e
    obtain ⟨p, vs, B, rfl, hp, r⟩ := elems_inv s h rfl
    exact .inl ⟨vs, .of hp, by rw [empty_len r.len]⟩
  | own ds =>
    cases e
    obtain ⟨p, vs, B, rfl, hp, r⟩ := elems_inv s h rfl
    exact .inl ⟨vs, .of hp, by rw [empty_len r.len]⟩
  | scr ds =>
    cases e
    obtain ⟨r, _⟩ := h.frz_inv rfl
    cases r with
    | scr h1 h2 => exact .inl ⟨_, sqL_same s h1, by rw [empty_len h2.len]⟩
  | _ => cases e
/-- the value of a test that is a bool | the truth of a value -/
def tst (f : Slots → R DV) : Slots → R Bool := fun env => (f env).bind fun d => match d with
  | .bl b => .ok b
  | _ => .stuck
def tru (f : Slots → R DV) : Slots → R Bool := fun env => (f env).bind fun d => lift (truB d)
theorem rdT_of {t : TE} {k : DV → R Bool} {KK : V → Hp → Bool → Prop} (hk : ∀ {F H v d A b}, Same F H → RO ⟨X.K, Γ⟩ F H v d A → k d = .ok b → KK v H b) (hx : ∀ d x, k d ≠ .ex x)
    {σ : L2.St} {H : Hp} {Q : Bool → Hp → Prop} (q : rdT ⟨X.K, Γ⟩ W (fun env => (f env).bind k) σ H Q) : rdV ⟨X.K, Γ⟩ W f σ H fun x H' => ∃ b, KK x H' b ∧ Q b H' := by
  obtain ⟨F, As, env, S, q⟩ := q
  refine ⟨F, As, env, S, ?_⟩
  dsimp only at q ⊢
  cases hf : f env with
  | stuck => rw [hf] at q; exact q
  | ex x => rw [hf] at q; exact q
  | ok d =>
    rw [hf] at q
    intro v F' H' A x r
    simp only [R.bind] at q
    cases hd : k d with
    | stuck => rw [hd] at q; exact q.elim
    | ex x => exact absurd hd (hx d x)
    | ok b =>
      rw [hd] at q
      exact ⟨b, hk x.fh r hd, q F' H' x⟩
theorem db_tru (ha : DT X Γ W a fa) (he : ∀ whole, isTrue a X.env whole = (do let v ← whole; standAt a.pos; holding [v] (truthy v)) := by intro _; rfl) : DB X Γ W a (tru fa) :=
  ⟨pt_imp (pt_truth ha.pe he) fun σ H Q q => rdT_of (t := fun _ _ _ => True) (k := fun d => lift (truB d)) (KK := fun v H b => TruV X.K v H b) (fun {F H v d A b} s r e => by
    cases hd : truB d with
    | none => rw [hd] at e; cases e
    | some c => rw [hd] at e; cases e; exact tru_v s r hd) (fun d x e => by cases hd : truB d <;> (rw [hd] at e; cases e)) q⟩
theorem db_cmp {op : CmpOp} {r : R2} {h : DV → DV → Option DV} (ho : OpR X (compareOp op) r) (hv : OpV ⟨X.K, Γ⟩ r h) (ha : DT X Γ W a fa) (hb : DT X Γ W b fb) (hm : behindInMarks op b = false := by first | exact nomark _ | rfl) :
    DB X Γ W (.Compare a [op] [b] pos) (tst (op2 h fa fb)) :=
  ⟨pt_imp (pt_cmpR ho ha.pe hb.pe hm) fun σ H Q q => by
    refine rd2 (h := h) hv ?_
    obtain ⟨F, As, env, S, q⟩ := q
    refine ⟨F, As, env, S, ?_⟩
    unfold tst at q
    cases hf : op2 h fa fb env with
    | stuck => rw [hf] at q; exact q
    | ex x => rw [hf] at q; exact q
    | ok d =>
      rw [hf] at q
      intro v F' H' A x _ r
      cases d with
      | bl b =>
        cases r.bl_inv
        exact ⟨b, rfl, q F' H' x⟩
      | _ => exact q.elim⟩
theorem db_lt (hu : X.A.units < cLine) (ha : DT X Γ W a fa) (hb : DT X Γ W b fb) : DB X Γ W (.Compare a [.Lt] [b] pos) (tst (op2 ltD fa fb)) := db_cmp (op_lt.or (op_ltT hu)) ov_lt ha hb
theorem db_le (ha : DT X Γ W a fa) (hb : DT X Γ W b fb) : DB X Γ W (.Compare a [.LtE] [b] pos) (tst (op2 leD fa fb)) := db_cmp op_le (ov_int0 fun _ _ _ _ => .bl _) ha hb
theorem db_gt (ha : DT X Γ W a fa) (hb : DT X Γ W b fb) : DB X Γ W (.Compare a [.Gt] [b] pos) (tst (op2 gtD fa fb)) := db_cmp op_gt (ov_int0 fun _ _ _ _ => .bl _) ha hb
theorem db_ge (ha : DT X Γ W a fa) (hb : DT X Γ W b fb) : DB X Γ W (.Compare a [.GtE] [b] pos) (tst (op2 geD fa fb)) := db_cmp op_ge (ov_int0 fun _ _ _ _ => .bl _) ha hb
theorem db_eq (hu : X.A.units + 64 < cLine) (ha : DT X Γ W a fa) (hb : DT X Γ W b fb) : DB X Γ W (.Compare a [.Eq] [b] pos) (tst (op2 eqD fa fb)) := db_cmp (op_eqD hu) ov_eq ha hb
theorem db_ne (hu : X.A.units + 64 < cLine) (ha : DT X Γ W a fa) (hb : DT X Γ W b fb) : DB X Γ W (.Compare a [.NotEq] [b] pos) (tst (op2 neD fa fb)) := db_cmp (op_neD hu) ov_ne ha hb
theorem db_in (ha : DT X Γ W a fa) (hb : DT X Γ W b fb) (hm : behindInMarks .In b = false := by rfl) : DB X Γ W (.Compare a [.In] [b] pos) (tst (op2 inD fa fb)) := db_cmp or_in ov_in ha hb hm
theorem db_ni (ha : DT X Γ W a fa) (hb : DT X Γ W b fb) (hm : behindInMarks .NotIn b = false := by rfl) : DB X Γ W (.Compare a [.NotIn] [b] pos) (tst (op2 niD fa fb)) := db_cmp or_ni ov_ni ha hb hm
theorem db_is (ha : DT X Γ W a fa) (hb : DT X Γ W b fb) : DB X Γ W (.Compare a [.Is] [b] pos) (tst (op2 isD fa fb)) := db_cmp (op_isN.or op_is_bl) ov_is ha hb
theorem db_isnot (ha : DT X Γ W a fa) (hb : DT X Γ W b fb) : DB X Γ W (.Compare a [.IsNot] [b] pos) (tst (op2 isnotD fa fb)) := db_cmp (op_notN.or op_isnot_bl) ov_isnot ha hb

variable {ba bb bc : Slots → R Bool} {rest : List Expr}
def andB (fa fb : Slots → R Bool) : Slots → R Bool := fun env => (fa env).bind fun c => if c = true then fb env else .ok false
def orB (fa fb : Slots → R Bool) : Slots → R Bool := fun env => (fa env).bind fun c => if c = true then .ok true else fb env
def notB (fa : Slots → R Bool) : Slots → R Bool := fun env => (fa env).bind fun c => .ok (!c)
structure DW (X : Cx) (Γ : Str → Option Addr) (W : WX) (e : Expr) (f : Slots → R Bool) : Prop where
  pw : PW X e (rdT ⟨X.K, Γ⟩ W f)
theorem DW.db (h : DW X Γ W e ba) : DB X Γ W e ba := ⟨h.pw.pt⟩
theorem dw_and1 (h : DB X Γ W a ba) : DW X Γ W (.BoolOp .And [a] pos) ba := ⟨pw_and1 h.pt⟩
theorem dw_or1 (h : DB X Γ W a ba) : DW X Γ W (.BoolOp .Or [a] pos) ba := ⟨pw_or1 h.pt⟩
/-- one test behind another -/
theorem rdT_seq {k : Bool → Slots → R Bool} {T : Bool → L2.St → Hp → (Bool → Hp → Prop) → Prop} (ht : ∀ c σ H Q, rdT ⟨X.K, Γ⟩ W (k c) σ H Q → T c σ H Q) {σ : L2.St} {H : Hp} {Q : Bool → Hp → Prop}
    (q : rdT ⟨X.K, Γ⟩ W (fun env => (ba env).bind fun c => k c env) σ H Q) : rdT ⟨X.K, Γ⟩ W ba σ H fun c H1 => T c σ H1 Q := by
  obtain ⟨F, As, env, S, q⟩ := q
  refine ⟨F, As, env, S, ?_⟩
  dsimp only at q ⊢
  cases hf : ba env with
  | stuck => rw [hf] at q; exact q
  | ex x => rw [hf] at q; exact q
  | ok c =>
    rw [hf] at q
    intro F1 H1 x1
    refine ht c σ H1 Q ⟨F1, As, env, S.ext x1, ?_⟩
    simp only [R.bind] at q
    cases hk : k c env with
    | stuck => rw [hk] at q; exact q
    | ex x => rw [hk] at q; exact fun cls dx F' H' x2 o => q cls dx F' H' (x1.trans x2) o
    | ok b => rw [hk] at q; exact fun F' H' x2 => q F' H' (x1.trans x2)
theorem rdT_ok {c : Bool} {σ : L2.St} {H : Hp} {Q : Bool → Hp → Prop} (q : rdT ⟨X.K, Γ⟩ W (fun _ => .ok c) σ H Q) : Q c H := by
  obtain ⟨F, As, env, S, q⟩ := q
  exact q F H (.refl S.fh)
theorem dw_and (ha : DB X Γ W a ba) (hb : DW X Γ W (.BoolOp .And (b :: rest) pos) bb) : DW X Γ W (.BoolOp .And (a :: b :: rest) pos) (andB ba bb) :=
  ⟨pw_imp (pw_and ha.pt hb.pw) fun σ H Q q => rdT_seq (k := fun c env => if c = true then bb env else .ok false) (T := fun c σ H Q => if c = true then rdT ⟨X.K, Γ⟩ W bb σ H Q else Q false H) (fun c σ H Q q => by
    cases c with
    | true => rw [if_pos rfl]; simp only [if_true] at q; exact q
    | false => rw [if_neg (by decide)]; simp only [Bool.false_eq_true, if_false] at q; exact rdT_ok q) q⟩
theorem dw_or (ha : DB X Γ W a ba) (hb : DW X Γ W (.BoolOp .Or (b :: rest) pos) bb) : DW X Γ W (.BoolOp .Or (a :: b :: rest) pos) (orB ba bb) :=
  ⟨pw_imp (pw_or ha.pt hb.pw) fun σ H Q q => rdT_seq (k := fun c env => if c = true then .ok true else bb env) (T := fun c σ H Q => if c = true then Q true H else rdT ⟨X.K, Γ⟩ W bb σ H Q) (fun c σ H Q q => by
    cases c with
    | true => rw [if_pos rfl]; simp only [if_true] at q; exact rdT_ok q
    | false => rw [if_neg (by decide)]; simp only [Bool.false_eq_true, if_false] at q; exact q) q⟩
theorem db_not (ha : DB X Γ W a ba) : DB X Γ W (.UnaryOp .Not a pos) (notB ba) :=
  ⟨pt_imp (pt_not ha.pt) fun σ H Q q => rdT_seq (k := fun c _ => .ok (!c)) (T := fun c σ H Q => Q (!c) H) (fun c σ H Q q => rdT_ok q) q⟩

/-! ### and, or, not, if as values -/
def notV (fa : Slots → R DV) : Slots → R DV := fun env => (fa env).bind fun d => lift ((truB d).map fun b => .bl (!b))
theorem de_not (ha : DT X Γ W a fa) : DE X Γ W (.UnaryOp .Not a pos) (notV fa) :=
  ⟨pe_imp (pe_notT ha.pe) fun σ H Q q => by
    obtain ⟨F, As, env, S, q⟩ := q
    refine ⟨F, As, env, S, ?_⟩
    unfold notV at q
    cases hf : fa env with
    | stuck => rw [hf] at q; exact q
    | ex x => rw [hf] at q; exact q
    | ok d =>
      rw [hf] at q
      intro v F' H' A x r
      cases hd : truB d with
      | none => simp only [R.bind, hd, Option.map_none, lift] at q
      | some b =>
        simp only [R.bind, hd, Option.map_some, lift] at q
        exact ⟨b, tru_v x.fh r hd, q _ F' H' [] x .nil (.frz (.bl _))⟩⟩
/-- one expression behind another -/
theorem rdE_seq {k : DV → Slots → R DV} {T : V → L2.St → Hp → VK → Prop} (ht : ∀ v d A F H' σ Q, Same F H' → RO ⟨X.K, Γ⟩ F H' v d A → rdE ⟨X.K, Γ⟩ W (k d) σ H' Q → T v σ H' Q) {σ : L2.St} {H : Hp} {Q : VK}
    (q : rdE ⟨X.K, Γ⟩ W (fun env => (fa env).bind fun c => k c env) σ H Q) : rdV ⟨X.K, Γ⟩ W fa σ H fun v H1 => T v σ H1 Q := by
  obtain ⟨F, As, env, S, q⟩ := q
  refine ⟨F, As, env, S, ?_⟩
  dsimp only at q ⊢
  cases hf : fa env with
  | stuck => rw [hf] at q; exact q
  | ex x => rw [hf] at q; exact q
  | ok d =>
    rw [hf] at q
    intro v F1 H1 A1 x1 r1
    refine ht v d A1 F1 H1 σ Q x1.fh r1 ⟨F1, As, env, S.ext x1, ?_⟩
    simp only [R.bind] at q
    cases hk : k d env with
    | stuck => rw [hk] at q; exact q
    | ex x => rw [hk] at q; exact fun cls dx F' H' x2 o => q cls dx F' H' (x1.trans x2) o
    | ok b => rw [hk] at q; exact fun v F' H' A x2 fr ro => q v F' H' A (x1.trans x2) ⟨fr.nd, fr.nF, fun a ha => x1.hh.free (fr.nH a ha)⟩ ro
theorem rdE_ok {d : DV} {v : V} {σ : L2.St} {H : Hp} {Q : VK} (r : ∀ g F, RF g F v d) (q : rdE ⟨X.K, Γ⟩ W (fun _ => .ok d) σ H Q) : Q v H := by
  obtain ⟨F, As, env, S, q⟩ := q
  exact q v F H [] (.refl S.fh) .nil (.frz (r _ _))
def andV (fa fb : Slots → R DV) : Slots → R DV := fun env => (fa env).bind fun d => match d with
  | .bl true => fb env
  | .bl false => .ok (.bl false)
  | _ => .stuck
def orV (fa fb : Slots → R DV) : Slots → R DV := fun env => (fa env).bind fun d => match d with
  | .bl true => .ok (.bl true)
  | .bl false => fb env
  | _ => .stuck
theorem rdE_no {σ : L2.St} {H : Hp} {Q : VK} (q : rdE ⟨X.K, Γ⟩ W (fun _ => .stuck) σ H Q) : False := by
  obtain ⟨F, As, env, S, q⟩ := q
  exact q
theorem de_one {op} (h : DE X Γ W a fa) : DE X Γ W (.BoolOp op [a] pos) fa := ⟨pe_one h.pe⟩
theorem de_and (ha : DT X Γ W a fa) (hb : DE X Γ W (.BoolOp .And (b :: rest) pos) fb) : DE X Γ W (.BoolOp .And (a :: b :: rest) pos) (andV fa fb) :=
  ⟨pe_imp (pe_and ha.pe hb.pe) fun σ H Q q => rdE_seq (k := fun d env => match d with | .bl true => fb env | .bl false => .ok (.bl false) | _ => .stuck)
    (T := fun x σ H1 Q => ∃ c, x = .bl c ∧ if c = true then rdE ⟨X.K, Γ⟩ W fb σ H1 Q else Q (.bl false) H1) (fun v d A F H' σ Q _ r q => by
      cases d with
      | bl c =>
        cases r.bl_inv
        refine ⟨c, rfl, ?_⟩
        cases c with
        | true => exact q
        | false => exact rdE_ok (fun _ _ => .bl false) q
      | _ => exact (rdE_no q).elim) q⟩
theorem de_or (ha : DT X Γ W a fa) (hb : DE X Γ W (.BoolOp .Or (b :: rest) pos) fb) : DE X Γ W (.BoolOp .Or (a :: b :: rest) pos) (orV fa fb) :=
  ⟨pe_imp (pe_or ha.pe hb.pe) fun σ H Q q => rdE_seq (k := fun d env => match d with | .bl true => .ok (.bl true) | .bl false => fb env | _ => .stuck)
    (T := fun x σ H1 Q => ∃ c, x = .bl c ∧ if c = true then Q (.bl true) H1 else rdE ⟨X.K, Γ⟩ W fb σ H1 Q) (fun v d A F H' σ Q _ r q => by
      cases d with
      | bl c =>
        cases r.bl_inv
        refine ⟨c, rfl, ?_⟩
        cases c with
        | true => exact rdE_ok (fun _ _ => .bl true) q
        | false => exact q
      | _ => exact (rdE_no q).elim) q⟩
def ifV (c : Slots → R Bool) (fa fb : Slots → R DV) : Slots → R DV := fun env => (c env).bind fun k => if k = true then fa env else fb env
theorem rdTE_seq {k : Bool → Slots → R DV} {T : Bool → L2.St → Hp → VK → Prop} (ht : ∀ c σ H Q, rdE ⟨X.K, Γ⟩ W (k c) σ H Q → T c σ H Q) {σ : L2.St} {H : Hp} {Q : VK}
    (q : rdE ⟨X.K, Γ⟩ W (fun env => (ba env).bind fun c => k c env) σ H Q) : rdT ⟨X.K, Γ⟩ W ba σ H fun c H1 => T c σ H1 Q := by
  obtain ⟨F, As, env, S, q⟩ := q
  refine ⟨F, As, env, S, ?_⟩
  dsimp only at q ⊢
  cases hf : ba env with
  | stuck => rw [hf] at q; exact q
  | ex x => rw [hf] at q; exact q
  | ok c =>
    rw [hf] at q
    intro F1 H1 x1
    refine ht c σ H1 Q ⟨F1, As, env, S.ext x1, ?_⟩
    simp only [R.bind] at q
    cases hk : k c env with
    | stuck => rw [hk] at q; exact q
    | ex x => rw [hk] at q; exact fun cls dx F' H' x2 o => q cls dx F' H' (x1.trans x2) o
    | ok b => rw [hk] at q; exact fun v F' H' A x2 fr ro => q v F' H' A (x1.trans x2) ⟨fr.nd, fr.nF, fun a ha => x1.hh.free (fr.nH a ha)⟩ ro
theorem de_if (hc : DB X Γ W c bc) (ha : DE X Γ W a fa) (hb : DE X Γ W b fb) : DE X Γ W (.IfExp c a b pos) (ifV bc fa fb) :=
  ⟨pe_imp (pe_ifExp hc.pt ha.pe hb.pe) fun σ H Q q => rdTE_seq (k := fun c env => if c = true then fa env else fb env) (T := fun c σ H Q => if c = true then rdE ⟨X.K, Γ⟩ W fa σ H Q else rdE ⟨X.K, Γ⟩ W fb σ H Q) (fun c σ H Q q => by
    cases c with
    | true => exact q
    | false => exact q) q⟩
def negV (fa : Slots → R DV) : Slots → R DV := fun env => (fa env).bind fun d => match d with
  | .int i => .ok (.int (-i))
  | _ => .stuck
theorem de_neg (ha : DT X Γ W a fa) : DE X Γ W (.UnaryOp .USub a pos) (negV fa) :=
  ⟨pe_imp (pe_un un_neg ha.pe) fun σ H Q q => rdE_seq (k := fun d env => match d with | .int i => .ok (.int (-i)) | _ => .stuck) (T := fun x σ H Q => (rU fun i => .int (-i)) x H Q) (fun v d A F H' σ Q _ r q => by
    cases d with
    | int i =>
      cases r.int_inv
      exact ⟨i, rfl, rdE_ok (fun _ _ => .int _) q⟩
    | _ => exact (rdE_no q).elim) q⟩
end
end DL
end
section
set_option maxHeartbeats 1000000
namespace DL
open PySem L2 PyProof.Rows
section
variable {X : Cx} {Γ : Str → Option Addr} {W : WX} {e a b c : Expr} {f fa fb fc : Slots → R DV} {pos : Pos} {es : List Expr} {fs : Slots → R (List DV)}

/-! ### argument lists -/
def nilL : Slots → R (List DV) := fun _ => .ok []
def consL (fa : Slots → R DV) (fs : Slots → R (List DV)) : Slots → R (List DV) := fun env => (fa env).bind fun d => (fs env).bind fun ds => .ok (d :: ds)
theorem dk_nil : DK X Γ W [] nilL := ⟨pa_imp pa_nil fun σ H Q ⟨F, As, env, S, q⟩ => q [] F H [] (.refl S.fh) .nil⟩
theorem dk_cons (ha : DT X Γ W e fa) (hr : DK X Γ W es fs) (hs : starEach (e :: es) X.env = (false, eval e X.env) :: starEach es X.env := by rfl) : DK X Γ W (e :: es) (consL fa fs) :=
  ⟨pa_imp (pa_cons ha.pe hr.pa hs) fun σ H Q ⟨F, As, env, S, q⟩ => by
    refine ⟨F, As, env, S, ?_⟩
    unfold consL at q
    cases hf : fa env with
    | stuck => rw [hf] at q; exact q
    | ex x => rw [hf] at q; exact q
    | ok d =>
      rw [hf] at q
      intro v F1 H1 A1 x1 r1
      refine ⟨F1, As, env, S.ext x1, ?_⟩
      simp only [R.bind] at q
      cases hg : fs env with
      | stuck => rw [hg] at q; exact q
      | ex x => rw [hg] at q; exact fun cls dx F' H' x2 o => q cls dx F' H' (x1.trans x2) o
      | ok ds =>
        rw [hg] at q
        exact fun vs F2 H2 A2 x2 r2 => q (v :: vs) F2 H2 _ (x1.trans x2) (.cons (r1.ext x2) r2)⟩
theorem da_nil : DA X Γ W [] nilL := ⟨pa_imp pa_nil fun σ H Q ⟨F, As, env, S, q⟩ => q [] F H [] (.refl S.fh) .nil .nil⟩
theorem Fresh.app {F H F1 H1 F2 H2 : Hp} {A1 A2 : List Addr} (x1 : Ext F H F1 H1) (x2 : Ext F1 H1 F2 H2) (h1 : Fresh F1 H A1) (t : ∀ a ∈ A1, ∃ o, H1 a = some o) (h2 : Fresh F2 H1 A2) : Fresh F2 H (A1 ++ A2) := by
  refine ⟨fun a => ?_, fun a ha => ?_, fun a ha => ?_⟩
  · rw [List.count_append]
    have n1 := h1.nd a
    have n2 := h2.nd a
    by_cases c1 : a ∈ A1
    · by_cases c2 : a ∈ A2
      · obtain ⟨o, ho⟩ := t a c1
        rw [h2.nH a c2] at ho; cases ho
      · have := List.count_eq_zero.mpr c2
        omega
    · have := List.count_eq_zero.mpr c1
      omega
  · rcases List.mem_append.mp ha with h | h
    · obtain ⟨o, ho⟩ := t a h
      exact x2.apart ho (h1.nF a h)
    · exact h2.nF a h
  · rcases List.mem_append.mp ha with h | h
    · exact h1.nH a h
    · exact x1.hh.free (h2.nH a h)
theorem da_cons (ha : DE X Γ W e fa) (hr : DA X Γ W es fs) (hs : starEach (e :: es) X.env = (false, eval e X.env) :: starEach es X.env := by rfl) : DA X Γ W (e :: es) (consL fa fs) :=
  ⟨pa_imp (pa_cons ha.pe hr.pa hs) fun σ H Q ⟨F, As, env, S, q⟩ => by
    refine ⟨F, As, env, S, ?_⟩
    unfold consL at q
    cases hf : fa env with
    | stuck => rw [hf] at q; exact q
    | ex x => rw [hf] at q; exact q
    | ok d =>
      rw [hf] at q
      intro v F1 H1 A1 x1 f1 r1
      refine ⟨F1, As, env, S.ext x1, ?_⟩
      simp only [R.bind] at q
      cases hg : fs env with
      | stuck => rw [hg] at q; exact q
      | ex x => rw [hg] at q; exact fun cls dx F' H' x2 o => q cls dx F' H' (x1.trans x2) o
      | ok ds =>
        rw [hg] at q
        exact fun vs F2 H2 A2 x2 f2 r2 => q (v :: vs) F2 H2 _ (x1.trans x2) (Fresh.app x1 x2 f1 r1.there f2) (.cons (r1.ext x2) r2)⟩

/-! ### displays -/
def tupV (fs : Slots → R (List DV)) : Slots → R DV := fun env => (fs env).bind fun ds => if ds.all isFrz = true ∧ ds.length ≤ big then .ok (.tup ds) else .stuck
def lstV (fs : Slots → R (List DV)) : Slots → R DV := fun env => (fs env).bind fun ds => if ds.length ≤ big then .ok (.own ds) else .stuck
/-- a value from several that are kept | that are looked at -/
theorem rdA_seq {k : List DV → R DV} {T : List V → Hp → VK → Prop} (hx : ∀ d x, k d ≠ .ex x)
    (ht : ∀ vs ds A F H' Q d, Same F H' → ROs ⟨X.K, Γ⟩ F H' vs ds A → (∀ a, A.count a ≤ 1) → (∀ a ∈ A, F a = none) → k ds = .ok d → (∀ v F' H2 B, Ext F H' F' H2 → (∀ a, B.count a ≤ 1) → (∀ a ∈ B, F' a = none ∧ (a ∈ A ∨ H' a = none)) → RO ⟨X.K, Γ⟩ F' H2 v d B → Q v H2) → T vs H' Q)
    {σ : L2.St} {H : Hp} {Q : VK} (q : rdE ⟨X.K, Γ⟩ W (fun env => (fs env).bind k) σ H Q) : rdA ⟨X.K, Γ⟩ W fs σ H fun vs H1 => T vs H1 Q := by
  obtain ⟨F, As, env, S, q⟩ := q
  refine ⟨F, As, env, S, ?_⟩
  dsimp only at q ⊢
  cases hf : fs env with
  | stuck => rw [hf] at q; exact q
  | ex x => rw [hf] at q; exact q
  | ok ds =>
    rw [hf] at q
    intro vs F1 H1 A1 x1 f1 r1
    simp only [R.bind] at q
    cases hk : k ds with
    | stuck => rw [hk] at q; exact q.elim
    | ex x => exact absurd hk (hx ds x)
    | ok d =>
      rw [hk] at q
      refine ht vs ds A1 F1 H1 Q d x1.fh r1 f1.nd f1.nF hk fun v F' H2 B x2 n1 n2 ro => q v F' H2 B (x1.trans x2) ⟨n1, fun a ha => (n2 a ha).1, fun a ha => ?_⟩ ro
      rcases (n2 a ha).2 with h | h
      · exact f1.nH a h
      · exact x1.hh.free h
theorem de_tup {k : Nat} (h : DA X Γ W es fs) : DE X Γ W (.Tuple es k pos) (tupV fs) :=
  ⟨pe_imp (pe_tup h.pa) fun σ H Q q => rdA_seq (k := fun ds => if ds.all isFrz = true ∧ ds.length ≤ big then .ok (.tup ds) else .stuck) (T := fun xs H1 Q => xs.length ≤ sizeLine ∧ ∀ p, H1 p = none → Q (.ref p) (upd H1 p (.tup xs)))
    (fun d x z => by split at z <;> cases z) (fun vs ds A F H' Q d s r n1 n2 e k => by
      split at e
      · rename_i c
        cases e
        obtain ⟨r1, rfl⟩ := r.frz c.1
        refine ⟨by rw [r.len]; exact big_le c.2, fun p hp => ?_⟩
        exact k _ _ _ [] (.lay s hp) (fun _ => by simp) (fun _ h => nomatch h) (.frz (.tup (.of upd_same) (r1.mono (Ext.lay (o := .tup vs) s hp).ff)))
      · cases e) q⟩
theorem de_lst (h : DA X Γ W es fs) : DE X Γ W (.List es pos) (lstV fs) :=
  ⟨pe_imp (pe_lst h.pa) fun σ H Q q => rdA_seq (k := fun ds => if ds.length ≤ big then .ok (.own ds) else .stuck) (T := fun xs H1 Q => xs.length ≤ sizeLine ∧ ∀ p, H1 p = none → Q (.ref p) (upd H1 p (.lst xs)))
    (fun d x z => by split at z <;> cases z) (fun vs ds A F H' Q d s r n1 n2 e k => by
      split at e
      · rename_i c
        cases e
        refine ⟨by rw [r.len]; exact big_le c, fun p hp => ?_⟩
        have hp' : p ∉ A := fun h => by
          obtain ⟨o, ho⟩ := r.there p h
          rw [hp] at ho; cases ho
        refine k _ F _ (p :: A) (.own s hp) (fun a => ?_) (fun a ha => ?_) (.own upd_same (r.ext (.own s hp)))
        · rw [List.count_cons]
          have := n1 a
          by_cases h : p = a
          · subst h
            have := List.count_eq_zero.mpr hp'
            simp
            omega
          · simp [h]
            omega
        · rcases List.mem_cons.mp ha with h | h
          · subst h; exact ⟨s.free hp, .inr hp⟩
          · exact ⟨n2 a h, .inl h⟩
      · cases e) q⟩

/-! ### items -/
/-- the item at an index -/
def ixD (x i : DV) : Option DV := match x, i with
  | .str z, .int i => if z.length ≤ big then (atI z.cps.toList i).map fun c => .str ⟨#[c]⟩ else none
  | x, .int i => (itemsOf x).bind fun ds => atI ds i
  | _, _ => none
theorem at_len {α β : Type} {xs : List α} {ys : List β} (h : xs.length = ys.length) {i : Int} {d : β} (e : atI ys i = some d) : ∃ j : Nat, ys[j]? = some d ∧ (∀ v, xs[j]? = some v → atI xs i = some v) := by
  unfold atI at e ⊢
  rw [h]
  cases q : ixN ys.length i with
  | none => rw [q] at e; cases e
  | some j =>
    rw [q] at e
    exact ⟨j, e, fun v hv => hv⟩
theorem dt_ix (ha : DT X Γ W a fa) (hb : DT X Γ W b fb) (hs : PlainIx b := by intro _ _; rfl) : DT X Γ W (.Subscript a b pos) (op2 ixD fa fb) :=
  ⟨pe_imp (pe_ix ix_seq ha.pe hb.pe hs) fun σ H Q ⟨F, As, env, S, q⟩ => by
    refine ⟨F, As, env, S, ?_⟩
    unfold op2 at q
    cases ha : fa env with
    | stuck => rw [ha] at q; exact q
    | ex x => rw [ha] at q; exact q
    | ok dx =>
      rw [ha] at q
      intro x F1 H1 A1 x1 r1
      refine ⟨F1, As, env, S.ext x1, ?_⟩
      simp only [R.bind] at q
      cases hb : fb env with
      | stuck => rw [hb] at q; exact q.elim
      | ex x => rw [hb] at q; exact fun cls dx F' H' x2 o => q cls dx F' H' (x1.trans x2) o
      | ok dy =>
        rw [hb] at q
        intro y F2 H2 A2 x2 r2
        simp only [lift] at q
        cases hd : ixD dx dy with
        | none => rw [hd] at q; exact q.elim
        | some d =>
          rw [hd] at q
          have k := fun v B (r : RO ⟨X.K, Γ⟩ F2 H2 v d B) => q v F2 H2 B (x1.trans x2) r
          have r1 := r1.ext x2
          have seqs : ∀ ds i, itemsOf dx = some ds → dy = .int i → atI ds i = some d → rIx X.K x y H2 Q := fun ds i h1 h2 h3 => by
            subst h2
            cases r2.int_inv
            obtain ⟨p, vs, B, rfl, hp, rr⟩ := items_inv x2.fh r1 h1
            obtain ⟨j, e1, e2⟩ := at_len rr.len h3
            obtain ⟨v, B', e3, e4⟩ := rr.get e1
            rcases hp with hp | hp
            · exact .inl ⟨p, vs, i, v, rfl, rfl, hp, e2 v e3, k v B' e4⟩
            · exact .inr (.inl ⟨p, vs, i, v, rfl, rfl, hp, e2 v e3, k v B' e4⟩)
          cases dx with
          | str z =>
            cases dy with
            | int i =>
              have hd : (if z.length ≤ big then (atI z.cps.toList i).map fun c => DV.str ⟨#[c]⟩ else none) = some d := hd
              split at hd
              · rename_i hz
                rw [Option.map_eq_some_iff] at hd
                obtain ⟨c, hc, rfl⟩ := hd
                cases r1.str_inv
                cases r2.int_inv
                exact .inr (.inr ⟨z, i, c, rfl, rfl, big_le hz, hc, k _ [] (.frz (.str _))⟩)
              · cases hd
            | _ => cases hd
          | lst ds =>
            cases dy with
            | int i => exact seqs ds i rfl rfl hd
            | _ => cases hd
          | own ds =>
            cases dy with
            | int i => exact seqs ds i rfl rfl hd
            | _ => cases hd
          | scr ds =>
            cases dy with
            | int i => exact seqs ds i rfl rfl hd
            | _ => cases hd
          | tup ds =>
            cases dy with
            | int i => exact seqs ds i rfl rfl hd
            | _ => cases hd
          | _ => cases dy <;> cases hd⟩

/-! ### slices -/
structure DO (X : Cx) (Γ : Str → Option Addr) (W : WX) (o : Option Expr) (f : Slots → R (Option Int)) : Prop where
  po : PO X o fun σ H Q => ∃ F As env, SA ⟨X.K, Γ⟩ F As σ H env ∧ match f env with
    | .ok i => ∀ F' H', Ext F H F' H' → Q i H'
    | .ex x => ∀ cls dx F' H', Ext F H F' H' → XOk ⟨X.K, Γ⟩ F' cls dx x → W cls dx σ H'
    | .stuck => False
theorem po_imp {o : Option Expr} {t t' : TO} (h : PO X o t) (i : ∀ σ H Q, t' σ H Q → t σ H Q) : PO X o t' := ⟨fun pins s σ H Q I q => h.run pins s σ H Q I (i _ _ _ q)⟩
def noPart : Slots → R (Option Int) := fun _ => .ok none
def part (fa : Slots → R DV) : Slots → R (Option Int) := fun env => (fa env).bind fun d => match d with
  | .int i => .ok (some i)
  | _ => .stuck
theorem do_none : DO X Γ W none noPart := ⟨po_imp po_none fun σ H Q ⟨F, As, env, S, q⟩ => q F H (.refl S.fh)⟩
theorem do_some (h : DT X Γ W a fa) : DO X Γ W (some a) (part fa) := ⟨po_imp (po_some h.pe) fun σ H Q ⟨F, As, env, S, q⟩ => by
  refine ⟨F, As, env, S, ?_⟩
  unfold part at q
  cases ha : fa env with
  | stuck => rw [ha] at q; exact q
  | ex x => rw [ha] at q; exact q
  | ok dx =>
    rw [ha] at q
    intro x F1 H1 A1 x1 r1
    simp only [R.bind] at q
    cases dx with
    | int i =>
      cases r1.int_inv
      exact ⟨i, rfl, q F1 H1 x1⟩
    | _ => exact q.elim⟩
def cutL {α : Type} (xs : List α) (lo hi : Option Int) : List α := (xs.drop (HT.sIx xs.length 0 lo)).take (HT.sIx xs.length xs.length hi - HT.sIx xs.length 0 lo)
theorem cutL_v (xs : List V) (lo hi : Option Int) : cutV xs lo hi = cutL xs lo hi := rfl
theorem RFs.cut {g : Gc} {F : Hp} {vs : List V} {ds : List DV} (r : RFs g F vs ds) (lo hi : Option Int) : RFs g F (cutV vs lo hi) (cutL ds lo hi) := by
  unfold cutV cutL
  rw [r.len]
  exact (r.drop _).take _
def cutD (x : DV) (lo hi : Option Int) : Option DV := match x with
  | .str z => if z.length ≤ big then some (.str (cutS z lo hi)) else none
  | .tup ds => some (.tup (cutL ds lo hi))
  | .lst ds => some (.own (cutL ds lo hi))
  | .own ds => if ds.all isFrz = true then some (.own (cutL ds lo hi)) else none
  | .scr ds => some (.own (cutL ds lo hi))
  | _ => none
def rCutA (K : PySem.W.Frag) : V → Option Int → Option Int → Hp → VK → Prop := fun x lo hi H Q => rSlA K x lo hi H Q ∨ rSlL K x lo hi H Q ∨ rSlS x lo hi H Q
theorem sl_any : SlR X (rCutA X.K) := sl_tupA.or (sl_list.or sl_str)
theorem cut_whole {ds : List DV} {lo hi : Option Int} (h : HT.sIx ds.length 0 lo = 0 ∧ HT.sIx ds.length ds.length hi = ds.length) : cutL ds lo hi = ds := by
  unfold cutL
  rw [h.1, h.2]
  simp
theorem cut_ok {F H : Hp} {x : V} {dx d : DV} {A : List Addr} {lo hi : Option Int} {Q : VK} (s : Same F H) (r : RO ⟨X.K, Γ⟩ F H x dx A) (e : cutD dx lo hi = some d) (k : Gv ⟨X.K, Γ⟩ F H d Q) : rCutA X.K x lo hi H Q := by
  cases dx with
  | str z =>
    have e : (if z.length ≤ big then some (DV.str (cutS z lo hi)) else none) = some d := e
    split at e
    · rename_i hz
      cases e
      cases r.str_inv
      exact .inr (.inr ⟨z, rfl, big_le hz, k.frz s (.str _)⟩)
    · cases e
  | tup ds =>
    cases e
    obtain ⟨p, vs, rfl, hp, rr⟩ := r.tup_inv
    refine .inl ⟨p, vs, rfl, sqT_same s hp, fun hw => ?_, fun _ l hl => k.tup s (rr.cut lo hi) hl⟩
    rw [rr.len] at hw
    rw [cut_whole hw] at k
    exact k.frz s (.tup hp rr)
  | lst ds =>
    cases e
    obtain ⟨rf, _⟩ := r.frz_inv rfl
    cases rf with
    | lst h1 h2 => exact .inr (.inl ⟨_, _, rfl, .of (s _ _ h1), fun l hl => k.own s (h2.cut lo hi) hl⟩)
  | scr ds =>
    cases e
    obtain ⟨rf, _⟩ := r.frz_inv rfl
    cases rf with
    | scr h1 h2 => exact .inr (.inl ⟨_, _, rfl, sqL_same s h1, fun l hl => k.own s (h2.cut lo hi) hl⟩)
  | own ds =>
    have e : (if ds.all isFrz = true then some (DV.own (cutL ds lo hi)) else none) = some d := e
    split at e
    · rename_i hz
      cases e
      obtain ⟨p, vs, B, rfl, hp, rr⟩ := elems_inv s r rfl
      exact .inr (.inl ⟨_, _, rfl, .of hp, fun l hl => k.own s ((rr.frz hz).1.cut lo hi) hl⟩)
    · cases e
  | _ => cases e
def slV (fa : Slots → R DV) (fl fh : Slots → R (Option Int)) : Slots → R DV := fun env => (fa env).bind fun x => (fl env).bind fun l => (fh env).bind fun h => lift (cutD x l h)
theorem de_slice {lo hi : Option Expr} {fl fh : Slots → R (Option Int)} {p2 : Pos} (ha : DT X Γ W a fa) (hl : DO X Γ W lo fl) (hh : DO X Γ W hi fh) : DE X Γ W (.Subscript a (.Slice lo hi none p2) pos) (slV fa fl fh) :=
  ⟨pe_imp (pe_slice sl_any ha.pe hl.po hh.po) fun σ H Q ⟨F, As, env, S, q⟩ => by
    refine ⟨F, As, env, S, ?_⟩
    unfold slV at q
    cases ha : fa env with
    | stuck => rw [ha] at q; exact q
    | ex x => rw [ha] at q; exact q
    | ok dx =>
      rw [ha] at q
      intro x F1 H1 A1 x1 r1
      refine ⟨F1, As, env, S.ext x1, ?_⟩
      simp only [R.bind] at q
      cases hb : fl env with
      | stuck => rw [hb] at q; exact q.elim
      | ex x => rw [hb] at q; exact fun cls dx F' H' x2 o => q cls dx F' H' (x1.trans x2) o
      | ok l =>
        rw [hb] at q
        intro F2 H2 x2
        refine ⟨F2, As, env, (S.ext x1).ext x2, ?_⟩
        simp only [R.bind] at q
        cases hc : fh env with
        | stuck => rw [hc] at q; exact q.elim
        | ex x => rw [hc] at q; exact fun cls dx F' H' x3 o => q cls dx F' H' ((x1.trans x2).trans x3) o
        | ok h =>
          rw [hc] at q
          intro F3 H3 x3
          simp only [lift] at q
          cases hd : cutD dx l h with
          | none => rw [hd] at q; exact q.elim
          | some d =>
            rw [hd] at q
            have x123 := (x1.trans x2).trans x3
            exact cut_ok x3.fh ((r1.ext x2).ext x3) hd fun v F' H' A x4 fr ro => q v F' H' A (x123.trans x4) ⟨fr.nd, fr.nF, fun a ha => x123.hh.free (fr.nH a ha)⟩ ro⟩
/-- xs[::-1] -/
def revV (fa : Slots → R DV) : Slots → R DV := fun env => (fa env).bind fun x => match x with
  | .lst ds => .ok (.own ds.reverse)
  | .own ds => if ds.all isFrz = true then .ok (.own ds.reverse) else .stuck
  | _ => .stuck
theorem de_rev {k : Nat} {p1 p2 p3 : Pos} (ha : DT X Γ W a fa) : DE X Γ W (.Subscript a (.Slice none none (some (.UnaryOp .USub (.Constant (.int 1) k p1) p2)) p3) pos) (revV fa) :=
  ⟨pe_imp (pe_revL ha.pe) fun σ H Q ⟨F, As, env, S, q⟩ => by
    refine ⟨F, As, env, S, ?_⟩
    unfold revV at q
    cases ha : fa env with
    | stuck => rw [ha] at q; exact q
    | ex x => rw [ha] at q; exact q
    | ok dx =>
      rw [ha] at q
      intro x F1 H1 A1 x1 r1
      simp only [R.bind] at q
      have fin : ∀ {ds vs p}, H1 p = some (.lst vs) → RFs ⟨X.K, Γ⟩ F1 vs ds → (∀ v F' H' A, Ext F H F' H' → Fresh F' H A → RO ⟨X.K, Γ⟩ F' H' v (.own ds.reverse) A → Q v H') → ∃ a xs, V.ref p = .ref a ∧ SqL X.K H1 a xs ∧ ∀ p, H1 p = none → Q (.ref p) (upd H1 p (.lst xs.reverse)) :=
        fun {ds vs p} hp rr k => ⟨p, vs, rfl, .of hp, fun l hl => Gv.own (g := ⟨X.K, Γ⟩) (F := F1) (fun v F' H' A x2 fr ro => k v F' H' A (x1.trans x2) ⟨fr.nd, fr.nF, fun a ha => x1.hh.free (fr.nH a ha)⟩ ro) x1.fh rr.reverse hl⟩
      cases dx with
      | lst ds =>
        obtain ⟨rf, _⟩ := r1.frz_inv rfl
        cases rf with
        | lst h1 h2 => exact fin (x1.fh _ _ h1) h2 q
      | own ds =>
        have q : (match (if ds.all isFrz = true then R.ok (DV.own ds.reverse) else R.stuck) with
          | .ok d => ∀ v F' H' A, Ext F H F' H' → Fresh F' H A → RO ⟨X.K, Γ⟩ F' H' v d A → Q v H'
          | .ex x => ∀ cls dx F' H', Ext F H F' H' → XOk ⟨X.K, Γ⟩ F' cls dx x → W cls dx σ H'
          | .stuck => False) := q
        by_cases hz : ds.all isFrz = true
        · rw [if_pos hz] at q
          obtain ⟨p, vs, B, rfl, hp, rr⟩ := elems_inv x1.fh r1 rfl
          exact fin hp (rr.frz hz).1 q
        · rw [if_neg hz] at q
          exact q.elim
      | _ => exact q.elim⟩

/-! ### built-in functions -/
structure CallV (g : Gc) (r : List V → Hp → VK → Prop) (h : List DV → Option DV) : Prop where
  run : ∀ {F H : Hp} {vs : List V} {ds : List DV} {d : DV} {A : List Addr} {Q : VK}, Same F H → ROs g F H vs ds A → h ds = some d → Gv g F H d Q → r vs H Q
def opN (h : List DV → Option DV) (fs : Slots → R (List DV)) : Slots → R DV := fun env => (fs env).bind fun ds => lift (h ds)
theorem rdN {r : List V → Hp → VK → Prop} {h : List DV → Option DV} (hv : CallV ⟨X.K, Γ⟩ r h) {σ : L2.St} {H : Hp} {Q : VK} (q : rdE ⟨X.K, Γ⟩ W (opN h fs) σ H Q) : tCB r (rdL ⟨X.K, Γ⟩ W fs) σ H Q := by
  obtain ⟨F, As, env, S, q⟩ := q
  refine ⟨F, As, env, S, ?_⟩
  unfold opN at q
  cases ha : fs env with
  | stuck => rw [ha] at q; exact q
  | ex x => rw [ha] at q; exact q
  | ok ds =>
    rw [ha] at q
    intro vs F1 H1 A1 x1 r1
    simp only [R.bind, lift] at q
    cases hd : h ds with
    | none => rw [hd] at q; exact q.elim
    | some d =>
      rw [hd] at q
      exact hv.run x1.fh r1 hd fun v F' H' A x2 fr ro => q v F' H' A (x1.trans x2) ⟨fr.nd, fr.nF, fun a ha => x1.hh.free (fr.nH a ha)⟩ ro
section
variable {x : Str} {p : Pos} {id T : String} {r r' : List V → Hp → VK → Prop} {h h' : List DV → Option DV}
theorem de_callB (hc : CallR X (.builtin id) r) (hv : CallV ⟨X.K, Γ⟩ r h) (hb : bootBuiltins x = some (.builtin id)) (hm : X.mg x = none) (ha : DK X Γ W (e :: es) fs) (hg : Gl X x := by rfl) (hn : x ≠ "__name__" := by decide) (hdb : (x == ("__debug__" : Str)) = false := by decide)
    (he : starEach (e :: es) X.env = (false, eval e X.env) :: starEach es X.env := by rfl) (hpl : (backTo pos (starEach es X.env)).any (·.1) = false := by rfl) : DE X Γ W (.Call (.Name x p) (e :: es) [] pos) (opN h fs) :=
  ⟨pe_imp (pe_callB hc hg hm hb ha.pa hn hdb he hpl) fun σ H Q q => rdN hv q⟩
theorem de_callTy (hc : CallR X (.type T) r) (hv : CallV ⟨X.K, Γ⟩ r h) (hb : bootBuiltins x = some (.type T)) (hm : X.mg x = none) (ha : DK X Γ W (e :: es) fs) (hg : Gl X x := by rfl) (hn : x ≠ "__name__" := by decide) (hdb : (x == ("__debug__" : Str)) = false := by decide)
    (he : starEach (e :: es) X.env = (false, eval e X.env) :: starEach es X.env := by rfl) (hpl : (backTo pos (starEach es X.env)).any (·.1) = false := by rfl) : DE X Γ W (.Call (.Name x p) (e :: es) [] pos) (opN h fs) :=
  ⟨pe_imp (pe_callTy hc hg hm hb ha.pa hn hdb he hpl) fun σ H Q q => rdN hv q⟩
theorem de_callF (hc : CallR X (.builtin id) r) (hv : CallV ⟨X.K, Γ⟩ r h) (hm : X.mg x = some (.builtin id)) (ha : DK X Γ W (e :: es) fs) (hg : Gl X x := by rfl) (hdb : (x == ("__debug__" : Str)) = false := by decide)
    (he : starEach (e :: es) X.env = (false, eval e X.env) :: starEach es X.env := by rfl) (hpl : (backTo pos (starEach es X.env)).any (·.1) = false := by rfl) : DE X Γ W (.Call (.Name x p) (e :: es) [] pos) (opN h fs) :=
  ⟨pe_imp (pe_callBfun hc hg hm ha.pa hdb he hpl) fun σ H Q q => rdN hv q⟩
theorem CallV.or (h1 : CallV ⟨X.K, Γ⟩ r h) (h2 : CallV ⟨X.K, Γ⟩ r' h') : CallV ⟨X.K, Γ⟩ (fun xs H Q => r xs H Q ∨ r' xs H Q) (fun xs => match h xs with | some d => some d | none => h' xs) := by
  refine ⟨fun {F H vs ds d A Q} s rs e k => ?_⟩
  cases q : h ds with
  | some z =>
    simp only [q] at e
    cases e
    exact .inl (h1.run s rs q k)
  | none =>
    simp only [q] at e
    exact .inr (h2.run s rs e k)
end
end
end DL
end
section
set_option maxHeartbeats 1000000
namespace DL
open PySem L2 PyProof.Rows

theorem ROs.one_inv {g : Gc} {F H : Hp} {vs : List V} {d : DV} {A : List Addr} (h : ROs g F H vs [d] A) : ∃ v B, vs = [v] ∧ RO g F H v d B := by
  cases h with
  | cons h1 h2 => cases h2; exact ⟨_, _, rfl, h1⟩
theorem ROs.two_inv {g : Gc} {F H : Hp} {vs : List V} {d e : DV} {A : List Addr} (h : ROs g F H vs [d, e] A) : ∃ v u B C, vs = [v, u] ∧ RO g F H v d B ∧ RO g F H u e C := by
  cases h with
  | cons h1 h2 =>
    obtain ⟨u, C, rfl, h3⟩ := h2.one_inv
    exact ⟨_, _, _, _, rfl, h1, h3⟩
/-- a function of one value, of two -/
def one (h : DV → Option DV) : List DV → Option DV
  | [d] => h d
  | _ => none
def two (h : DV → DV → Option DV) : List DV → Option DV
  | [d, e] => h d e
  | _ => none
section
variable {X : Cx} {Γ : Str → Option Addr} {W : WX}
theorem cv_one {r : List V → Hp → VK → Prop} {h : DV → Option DV} (k : ∀ {F H x dx d A Q}, Same F H → RO ⟨X.K, Γ⟩ F H x dx A → h dx = some d → Gv ⟨X.K, Γ⟩ F H d Q → r [x] H Q) : CallV ⟨X.K, Γ⟩ r (one h) := by
  refine ⟨fun {F H vs ds d A Q} s rs e q => ?_⟩
  match ds, e, rs with
  | [dx], e, rs =>
    obtain ⟨v, B, rfl, r1⟩ := rs.one_inv
    exact k s r1 e q
theorem cv_two {r : List V → Hp → VK → Prop} {h : DV → DV → Option DV} (k : ∀ {F H x dx y dy d A B Q}, Same F H → RO ⟨X.K, Γ⟩ F H x dx A → RO ⟨X.K, Γ⟩ F H y dy B → h dx dy = some d → Gv ⟨X.K, Γ⟩ F H d Q → r [x, y] H Q) : CallV ⟨X.K, Γ⟩ r (two h) := by
  refine ⟨fun {F H vs ds d A Q} s rs e q => ?_⟩
  match ds, e, rs with
  | [dx, dy], e, rs =>
    obtain ⟨v, u, B, C, rfl, r1, r2⟩ := rs.two_inv
    exact k s r1 r2 e q

/-! ### len -/
def lenD (d : DV) : Option DV := match d with
  | .str z => if z.length ≤ big then some (.int z.length) else none
  | d => (itemsOf d).map fun ds => .int ds.length
theorem lenD_items {d : DV} {ds : List DV} (h : itemsOf d = some ds) : lenD d = some (.int ds.length) := by
  cases d <;> cases h <;> rfl
def rLenA (K : PySem.W.Frag) : List V → Hp → VK → Prop := fun xs H Q => (∃ p ys, xs = [.ref p] ∧ (SqL K H p ys ∨ SqT K H p ys) ∧ Q (.int ys.length) H) ∨ (∃ z, xs = [.str z] ∧ z.length ≤ sizeLine ∧ Q (.int z.length) H)
theorem cr_len : CallR X (.builtin "len") (rLenA X.K) := call_len_seq.or call_len_str
theorem cv_len : CallV ⟨X.K, Γ⟩ (rLenA X.K) (one lenD) := by
  refine cv_one ?_
  intro F H x dx d A Q s r e k
  cases q : itemsOf dx with
  | some ds =>
    rw [lenD_items q] at e
    cases e
    obtain ⟨p, vs, B, rfl, hp, rr⟩ := items_inv s r q
    refine .inl ⟨p, vs, rfl, hp, ?_⟩
    rw [rr.len]
    exact k.frz s (.int _)
  | none =>
    cases dx with
    | str z =>
      have e : (if z.length ≤ big then some (DV.int z.length) else none) = some d := e
      split at e
      · rename_i hz
        cases e
        cases r.str_inv
        exact .inr ⟨z, rfl, big_le hz, k.frz s (.int _)⟩
      · cases e
    | lst _ => cases q
    | own _ => cases q
    | scr _ => cases q
    | tup _ => cases q
    | _ => cases e
/-! ### numbers -/
def absD (d : DV) : Option DV := match d with
  | .int i => some (.int (if i < 0 then -i else i))
  | _ => none
theorem cv_abs : CallV ⟨X.K, Γ⟩ (fun xs H Q => ∃ i, xs = [.int i] ∧ Q (.int (if i < 0 then -i else i)) H) (one absD) := by
  refine cv_one ?_
  intro F H x dx d A Q s r e k
  cases dx with
  | int i =>
    cases e
    cases r.int_inv
    exact ⟨i, rfl, k.frz s (.int _)⟩
  | _ => cases e
def intD1 (d : DV) : Option DV := match d with
  | .int i => some (.int i)
  | .bl b => some (.int (if b then 1 else 0))
  | _ => none
theorem cv_int : CallV ⟨X.K, Γ⟩ (fun xs H Q => (∃ i, xs = [.int i] ∧ Q (.int i) H) ∨ ∃ k, xs = [.bl k] ∧ Q (.int (if k then 1 else 0)) H) (one intD1) := by
  refine cv_one ?_
  intro F H x dx d A Q s r e k
  cases dx with
  | int i =>
    cases e
    cases r.int_inv
    exact .inl ⟨i, rfl, k.frz s (.int _)⟩
  | bl b =>
    cases e
    cases r.bl_inv
    exact .inr ⟨b, rfl, k.frz s (.int _)⟩
  | _ => cases e
def strD (d : DV) : Option DV := match d with
  | .int i => if i.natAbs.log2 < 1920 then some (.str (toString i)) else none
  | _ => none
theorem cv_str : CallV ⟨X.K, Γ⟩ (fun xs H Q => ∃ i, xs = [.int i] ∧ i.natAbs.log2 < 1920 ∧ Q (.str (toString i)) H) (one strD) := by
  refine cv_one ?_
  intro F H x dx d A Q s r e k
  cases dx with
  | int i =>
    have e : (if i.natAbs.log2 < 1920 then some (DV.str (toString i)) else none) = some d := e
    split at e
    · rename_i hz
      cases e
      cases r.int_inv
      exact ⟨i, rfl, hz, k.frz s (.str _)⟩
    · cases e
  | _ => cases e
def max2D (d e : DV) : Option DV := match d, e with
  | .int i, .int j => some (.int (if j > i then j else i))
  | _, _ => none
def min2D (d e : DV) : Option DV := match d, e with
  | .int i, .int j => some (.int (if j < i then j else i))
  | _, _ => none
theorem cv_max2 : CallV ⟨X.K, Γ⟩ (fun xs H Q => ∃ i j, xs = [.int i, .int j] ∧ Q (.int (if j > i then j else i)) H) (two max2D) := by
  refine cv_two ?_
  intro F H x dx y dy d A B Q s r1 r2 e k
  cases dx with
  | int i =>
    cases dy with
    | int j =>
      cases e
      cases r1.int_inv
      cases r2.int_inv
      exact ⟨i, j, rfl, k.frz s (.int _)⟩
    | _ => cases e
  | _ => cases dy <;> cases e
theorem cv_min2 : CallV ⟨X.K, Γ⟩ (fun xs H Q => ∃ i j, xs = [.int i, .int j] ∧ Q (.int (if j < i then j else i)) H) (two min2D) := by
  refine cv_two ?_
  intro F H x dx y dy d A B Q s r1 r2 e k
  cases dx with
  | int i =>
    cases dy with
    | int j =>
      cases e
      cases r1.int_inv
      cases r2.int_inv
      exact ⟨i, j, rfl, k.frz s (.int _)⟩
    | _ => cases e
  | _ => cases dy <;> cases e
def gcdD (d e : DV) : Option DV := match d, e with
  | .int i, .int j => some (.int ((Nat.gcd i.natAbs j.natAbs : Nat) : Int))
  | _, _ => none
theorem cv_gcd : CallV ⟨X.K, Γ⟩ rGcd (two gcdD) := by
  refine cv_two ?_
  intro F H x dx y dy d A B Q s r1 r2 e k
  cases dx with
  | int i =>
    cases dy with
    | int j =>
      cases e
      cases r1.int_inv
      cases r2.int_inv
      exact ⟨i, j, rfl, k.frz s (.int _)⟩
    | _ => cases e
  | _ => cases dy <;> cases e

/-! ### lists of ints -/
def numsD (d : DV) : Option (List Int) := match d with
  | .lst ds => intsOf ds
  | .own ds => intsOf ds
  | .scr ds => intsOf ds
  | _ => none
theorem nums_inv {F H : Hp} {x : V} {d : DV} {A : List Addr} {ns : List Int} (s : Same F H) (h : RO ⟨X.K, Γ⟩ F H x d A) (e : numsD d = some ns) : ∃ p, x = .ref p ∧ SqL X.K H p (ns.map .int) := by
  have frz : ∀ ns : List Int, (ns.map DV.int).all isFrz = true := fun ns => by
    rw [List.all_map]
    exact List.all_eq_true.mpr fun _ _ => rfl
  cases d with
  | lst ds =>
    obtain ⟨p, vs, B, rfl, hp, r⟩ := elems_inv s h rfl
    have := intsOf_map (ds := ds) e
    subst this
    have r' := (r.frz (frz ns)).1.ints
    subst r'
    exact ⟨p, rfl, .of hp⟩
  | own ds =>
    obtain ⟨p, vs, B, rfl, hp, r⟩ := elems_inv s h rfl
    have := intsOf_map (ds := ds) e
    subst this
    have r' := (r.frz (frz ns)).1.ints
    subst r'
    exact ⟨p, rfl, .of hp⟩
  | scr ds =>
    have := intsOf_map (ds := ds) e
    subst this
    obtain ⟨r, _⟩ := h.frz_inv rfl
    cases r with
    | scr h1 h2 =>
      have r' := h2.ints
      subst r'
      exact ⟨_, rfl, sqL_same s h1⟩
  | _ => cases e
def sumD (d : DV) : Option DV := (numsD d).map fun ns => .int ns.sum
theorem cv_sum : CallV ⟨X.K, Γ⟩ (rSum X.K) (one sumD) := by
  refine cv_one ?_
  intro F H x dx d A Q s r e k
  simp only [sumD, Option.map_eq_some_iff] at e
  obtain ⟨ns, e, rfl⟩ := e
  obtain ⟨p, rfl, hp⟩ := nums_inv s r e
  exact ⟨p, ns, rfl, hp, k.frz s (.int _)⟩
def maxI : List Int → Option Int
  | [] => none
  | n :: ns => some (ns.foldl max n)
def minI : List Int → Option Int
  | [] => none
  | n :: ns => some (ns.foldl min n)
theorem foldl_max : ∀ (ns : List Int) (n : Int), (ns.foldl max n = n ∨ ns.foldl max n ∈ ns) ∧ n ≤ ns.foldl max n ∧ ∀ y ∈ ns, y ≤ ns.foldl max n
  | [], n => ⟨.inl rfl, Int.le_refl _, fun _ h => nomatch h⟩
  | m :: ns, n => by
    obtain ⟨h1, h2, h3⟩ := foldl_max ns (max n m)
    rw [List.foldl_cons]
    refine ⟨?_, by omega, fun y hy => ?_⟩
    · rcases h1 with h | h
      · by_cases c : n ≤ m
        · right
          rw [h, show max n m = m by omega]
          exact List.mem_cons_self ..
        · left
          rw [h]; omega
      · exact .inr (List.mem_cons_of_mem _ h)
    · rcases List.mem_cons.mp hy with rfl | h
      · omega
      · exact h3 y h
theorem foldl_min : ∀ (ns : List Int) (n : Int), (ns.foldl min n = n ∨ ns.foldl min n ∈ ns) ∧ ns.foldl min n ≤ n ∧ ∀ y ∈ ns, ns.foldl min n ≤ y
  | [], n => ⟨.inl rfl, Int.le_refl _, fun _ h => nomatch h⟩
  | m :: ns, n => by
    obtain ⟨h1, h2, h3⟩ := foldl_min ns (min n m)
    rw [List.foldl_cons]
    refine ⟨?_, by omega, fun y hy => ?_⟩
    · rcases h1 with h | h
      · by_cases c : m ≤ n
        · right
          rw [h, show min n m = m by omega]
          exact List.mem_cons_self ..
        · left
          rw [h]; omega
      · exact .inr (List.mem_cons_of_mem _ h)
    · rcases List.mem_cons.mp hy with rfl | h
      · omega
      · exact h3 y h
theorem maxI_eq {ns : List Int} {m k : Int} (h : maxI ns = some k) (hm : m ∈ ns) (hg : ∀ y, y ∈ ns → y ≤ m) : m = k := by
  cases ns with
  | nil => cases h
  | cons n ns =>
    cases h
    obtain ⟨h1, h2, h3⟩ := foldl_max ns n
    have l1 : m ≤ ns.foldl max n := by
      rcases List.mem_cons.mp hm with rfl | h
      · exact h2
      · exact h3 m h
    have l2 : ns.foldl max n ≤ m := by
      rcases h1 with h | h
      · rw [h]; exact hg n (List.mem_cons_self ..)
      · exact hg _ (List.mem_cons_of_mem _ h)
    omega
theorem minI_eq {ns : List Int} {m k : Int} (h : minI ns = some k) (hm : m ∈ ns) (hg : ∀ y, y ∈ ns → m ≤ y) : m = k := by
  cases ns with
  | nil => cases h
  | cons n ns =>
    cases h
    obtain ⟨h1, h2, h3⟩ := foldl_min ns n
    have l1 : ns.foldl min n ≤ m := by
      rcases List.mem_cons.mp hm with rfl | h
      · exact h2
      · exact h3 m h
    have l2 : m ≤ ns.foldl min n := by
      rcases h1 with h | h
      · rw [h]; exact hg n (List.mem_cons_self ..)
      · exact hg _ (List.mem_cons_of_mem _ h)
    omega
def maxD (d : DV) : Option DV := ((numsD d).bind maxI).map .int
def minD (d : DV) : Option DV := ((numsD d).bind minI).map .int
theorem cv_max : CallV ⟨X.K, Γ⟩ (rMax X.K) (one maxD) := by
  refine cv_one ?_
  intro F H x dx d A Q s r e k
  simp only [maxD, Option.map_eq_some_iff, Option.bind_eq_some_iff] at e
  obtain ⟨m, ⟨ns, e, em⟩, rfl⟩ := e
  obtain ⟨p, rfl, hp⟩ := nums_inv s r e
  refine ⟨p, ns, rfl, hp, ?_, fun m' h1 h2 => ?_⟩
  · cases ns with
    | nil => cases em
    | cons _ _ => exact Nat.succ_pos _
  · rw [maxI_eq em h1 h2]
    exact k.frz s (.int _)
theorem cv_min : CallV ⟨X.K, Γ⟩ (rMin X.K) (one minD) := by
  refine cv_one ?_
  intro F H x dx d A Q s r e k
  simp only [minD, Option.map_eq_some_iff, Option.bind_eq_some_iff] at e
  obtain ⟨m, ⟨ns, e, em⟩, rfl⟩ := e
  obtain ⟨p, rfl, hp⟩ := nums_inv s r e
  refine ⟨p, ns, rfl, hp, ?_, fun m' h1 h2 => ?_⟩
  · cases ns with
    | nil => cases em
    | cons _ _ => exact Nat.succ_pos _
  · rw [minI_eq em h1 h2]
    exact k.frz s (.int _)
def srt (ns : List Int) : List Int := ns.mergeSort fun a b => decide (a ≤ b)
theorem srt_perm (ns : List Int) : (srt ns).Perm ns := List.mergeSort_perm _ _
theorem srt_ord (ns : List Int) : (srt ns).Pairwise (· ≤ ·) := by
  have := List.pairwise_mergeSort (le := fun a b : Int => decide (a ≤ b)) (fun a b c h1 h2 => by
    have := of_decide_eq_true h1
    have := of_decide_eq_true h2
    exact decide_eq_true (by omega)) (fun a b => by
    simp
    omega) ns
  exact this.imp fun h => of_decide_eq_true h
theorem srt_eq {ns ms : List Int} (hp : ms.Perm ns) (ho : ms.Pairwise (· ≤ ·)) : ms = srt ns := PySem.W.ksm_same (hp.trans (srt_perm ns).symm) ho (srt_ord ns)
def sortD (d : DV) : Option DV := (numsD d).map fun ns => .own ((srt ns).map .int)
theorem cv_sorted : CallV ⟨X.K, Γ⟩ (rSortedI X.K) (one sortD) := by
  refine cv_one ?_
  intro F H x dx d A Q s r e k
  simp only [sortD, Option.map_eq_some_iff] at e
  obtain ⟨ns, e, rfl⟩ := e
  obtain ⟨p, rfl, hp⟩ := nums_inv s r e
  refine ⟨p, ns, rfl, hp, fun ns' l h1 h2 hl => ?_⟩
  rw [srt_eq h1 h2]
  exact k.own s (RFs.ofInts _) hl

/-! ### list(..), tuple(..), range(..) -/
def listD (d : DV) : Option DV := match itemsOf d with
  | some ds => if ds.all isFrz = true then some (.own ds) else none
  | none => none
theorem cv_list : CallV ⟨X.K, Γ⟩ (fun xs H Q => ∃ p ys, xs = [.ref p] ∧ (SqL X.K H p ys ∨ SqT X.K H p ys) ∧ ∀ l, H l = none → Q (.ref l) (upd H l (.lst ys))) (one listD) := by
  refine cv_one ?_
  intro F H x dx d A Q s r e k
  cases q : itemsOf dx with
  | none => simp [listD, q] at e
  | some ds =>
    simp only [listD, q] at e
    split at e
    · rename_i hz
      cases e
      obtain ⟨p, vs, B, rfl, hp, rr⟩ := items_inv s r q
      exact ⟨p, vs, rfl, hp, fun l hl => k.own s (rr.frz hz).1 hl⟩
    · cases e
def tupD (d : DV) : Option DV := match d with
  | .tup ds => some (.tup ds)
  | .lst ds => some (.tup ds)
  | .scr ds => some (.tup ds)
  | .own ds => if ds.all isFrz = true then some (.tup ds) else none
  | _ => none
theorem cv_tuple : CallV ⟨X.K, Γ⟩ (fun xs H Q => ∃ p ys, xs = [.ref p] ∧ ((SqL X.K H p ys ∧ ∀ l, H l = none → Q (.ref l) (upd H l (.tup ys))) ∨ (SqT X.K H p ys ∧ Q (.ref p) H))) (one tupD) := by
  refine cv_one ?_
  intro F H x dx d A Q s r e k
  cases dx with
  | tup ds =>
    cases e
    obtain ⟨rf, _⟩ := r.frz_inv rfl
    cases rf with
    | tup h1 h2 => exact ⟨_, _, rfl, .inr ⟨sqT_same s h1, k.frz s (.tup h1 h2)⟩⟩
  | lst ds =>
    cases e
    obtain ⟨rf, _⟩ := r.frz_inv rfl
    cases rf with
    | lst h1 h2 => exact ⟨_, _, rfl, .inl ⟨.of (s _ _ h1), fun l hl => k.tup s h2 hl⟩⟩
  | scr ds =>
    cases e
    obtain ⟨rf, _⟩ := r.frz_inv rfl
    cases rf with
    | scr h1 h2 => exact ⟨_, _, rfl, .inl ⟨sqL_same s h1, fun l hl => k.tup s h2 hl⟩⟩
  | own ds =>
    have e : (if ds.all isFrz = true then some (DV.tup ds) else none) = some d := e
    split at e
    · rename_i hz
      cases e
      obtain ⟨p, vs, B, rfl, hp, rr⟩ := elems_inv s r rfl
      exact ⟨_, _, rfl, .inl ⟨.of hp, fun l hl => k.tup s (rr.frz hz).1 hl⟩⟩
    · cases e
  | _ => cases e
theorem cr_range1 : CallR X (.type "range") (fun vs H Q => ∃ j, vs = [V.int j] ∧ ∀ p, H p = none → Q (.ref p) (upd H p (.rng 0 j))) := by
  intro pins s σ H vs us Q I r h
  obtain ⟨j, rfl, q⟩ := h
  obtain ⟨u2, rfl, rj⟩ := vals1 r
  obtain ⟨u, rfl⟩ := rj
  refine call_range_1 ⟨.ref s.heap.objs.size, upd H s.heap.objs.size (.rng 0 j), I.laid (t' := _) (fun b o e => Heap.get?_push_of_some _ e) (Nat.le_refl _) ?_, rfl, q _ (I.hok.fresh (Nat.le_refl _))⟩
  exact ⟨_, u, _, Heap.get?_push_size _ rfl⟩
theorem Gv.rng {g : Gc} {F H : Hp} {Q : VK} {lo hi : Int} (k : Gv g F H (.rng lo hi) Q) (s : Same F H) {l : Addr} (hl : H l = none) : Q (.ref l) (upd H l (.rng lo hi)) :=
  k _ _ _ [] (.lay s hl) .nil (.frz (.rng upd_same))
def rng1D (d : DV) : Option DV := match d with
  | .int j => some (.rng 0 j)
  | _ => none
def rng2D (d e : DV) : Option DV := match d, e with
  | .int i, .int j => some (.rng i j)
  | _, _ => none
theorem cv_range1 : CallV ⟨X.K, Γ⟩ (fun vs H Q => ∃ j, vs = [V.int j] ∧ ∀ p, H p = none → Q (.ref p) (upd H p (.rng 0 j))) (one rng1D) := by
  refine cv_one ?_
  intro F H x dx d A Q s r e k
  cases dx with
  | int i =>
    cases e
    cases r.int_inv
    exact ⟨i, rfl, fun l hl => k.rng s hl⟩
  | _ => cases e
theorem cv_range2 : CallV ⟨X.K, Γ⟩ (fun vs H Q => ∃ i j, vs = [V.int i, V.int j] ∧ ∀ p, H p = none → Q (.ref p) (upd H p (.rng i j))) (two rng2D) := by
  refine cv_two ?_
  intro F H x dx y dy d A B Q s r1 r2 e k
  cases dx with
  | int i =>
    cases dy with
    | int j =>
      cases e
      cases r1.int_inv
      cases r2.int_inv
      exact ⟨i, j, rfl, fun l hl => k.rng s hl⟩
    | _ => cases e
  | _ => cases dy <;> cases e
/-- the numbers of a range -/
def rngL (a b : Int) : List DV := (List.range (b - a).toNat).map fun (i : Nat) => .int (a + i)
theorem rgV_rf {g : Gc} {F : Hp} (a b : Int) : RFs g F (rgV a b) (rngL a b) := by
  unfold rgV rngL
  generalize List.range (b - a).toNat = l
  induction l with
  | nil => exact .nil
  | cons n l ih => exact .cons (.int _) ih
def rgOk (a b : Int) : Bool := decide (-(2 ^ 62) ≤ a ∧ a < 2 ^ 62 ∧ -(2 ^ 62) ≤ b ∧ b < 2 ^ 62 ∧ (b - a).toNat ≤ big)
theorem rgOk_of {a b : Int} (h : rgOk a b = true) : RgOk a b := by
  obtain ⟨h1, h2, h3, h4, h5⟩ := of_decide_eq_true h
  exact ⟨h1, h2, h3, h4, Nat.le_trans h5 (by decide)⟩
/-- range(..) as what list( ) and tuple( ) take -/
structure DR (X : Cx) (Γ : Str → Option Addr) (W : WX) (e : Expr) (f : Slots → R (Int × Int)) : Prop where
  pr : PRg X e fun σ H Q => ∃ F As env, SA ⟨X.K, Γ⟩ F As σ H env ∧ match f env with
    | .ok (i, j) => ∀ F' H', Ext F H F' H' → Q i j H'
    | .ex x => ∀ cls dx F' H', Ext F H F' H' → XOk ⟨X.K, Γ⟩ F' cls dx x → W cls dx σ H'
    | .stuck => False
theorem prg_imp {e : Expr} {t t' : L2.St → Hp → (Int → Int → Hp → Prop) → Prop} (h : PRg X e t) (i : ∀ σ H Q, t' σ H Q → t σ H Q) : PRg X e t' := by
  intro pins s σ H Q I q
  exact h pins s σ H Q I (i _ _ _ q)

section
variable {e a b : Expr} {fa fb : Slots → R DV} {pos : Pos} {fr : Slots → R (Int × Int)}
def rg1 (fa : Slots → R DV) : Slots → R (Int × Int) := fun env => (fa env).bind fun d => match d with
  | .int j => .ok (0, j)
  | _ => .stuck
def rg2 (fa fb : Slots → R DV) : Slots → R (Int × Int) := fun env => (fa env).bind fun d => (fb env).bind fun e => match d, e with
  | .int i, .int j => .ok (i, j)
  | _, _ => .stuck
theorem dr_1 {p : Pos} (hm : X.mg "range" = none) (ha : DT X Γ W a fa) (hg : Gl X "range" := by rfl) (na : starEach [a] X.env = (false, eval a X.env) :: starEach [] X.env := by rfl) : DR X Γ W (.Call (.Name "range" p) [a] [] pos) (rg1 fa) :=
  ⟨prg_imp (prg_1 hg hm ha.pe na) fun σ H Q ⟨F, As, env, S, q⟩ => by
    refine ⟨F, As, env, S, ?_⟩
    unfold rg1 at q
    cases ha : fa env with
    | stuck => rw [ha] at q; exact q
    | ex x => rw [ha] at q; exact q
    | ok dx =>
      rw [ha] at q
      intro x F1 H1 A1 x1 r1
      cases dx with
      | int i =>
        cases r1.int_inv
        exact ⟨i, rfl, q F1 H1 x1⟩
      | _ => exact q.elim⟩
theorem dr_2 {p : Pos} (hm : X.mg "range" = none) (ha : DT X Γ W a fa) (hb : DT X Γ W b fb) (hg : Gl X "range" := by rfl) (na : starEach [a, b] X.env = (false, eval a X.env) :: starEach [b] X.env := by rfl)
    (nb : starEach [b] X.env = (false, eval b X.env) :: starEach [] X.env := by rfl) (hp : (backTo pos (starEach [b] X.env)).any (·.1) = false := by rfl) : DR X Γ W (.Call (.Name "range" p) [a, b] [] pos) (rg2 fa fb) :=
  ⟨prg_imp (prg_2 hg hm ha.pe hb.pe na nb hp) fun σ H Q ⟨F, As, env, S, q⟩ => by
    refine ⟨F, As, env, S, ?_⟩
    unfold rg2 at q
    cases ha : fa env with
    | stuck => rw [ha] at q; exact q
    | ex x => rw [ha] at q; exact q
    | ok dx =>
      rw [ha] at q
      intro x F1 H1 A1 x1 r1
      refine ⟨F1, As, env, S.ext x1, ?_⟩
      simp only [R.bind] at q
      cases hb : fb env with
      | stuck => rw [hb] at q; exact q.elim
      | ex x => rw [hb] at q; exact fun cls dx F' H' x2 o => q cls dx F' H' (x1.trans x2) o
      | ok dy =>
        rw [hb] at q
        intro y F2 H2 A2 x2 r2
        cases dx with
        | int i =>
          cases dy with
          | int j =>
            cases (r1.ext x2).int_inv
            cases r2.int_inv
            exact ⟨i, j, rfl, rfl, q F2 H2 (x1.trans x2)⟩
          | _ => exact q.elim
        | _ => cases dy <;> exact q.elim⟩
def lrgV (fr : Slots → R (Int × Int)) : Slots → R DV := fun env => (fr env).bind fun p => if rgOk p.1 p.2 = true then .ok (.own (rngL p.1 p.2)) else .stuck
def trgV (fr : Slots → R (Int × Int)) : Slots → R DV := fun env => (fr env).bind fun p => if rgOk p.1 p.2 = true then .ok (.tup (rngL p.1 p.2)) else .stuck
theorem de_listRg {p : Pos} (hc : X.calm = true) (hm : X.mg "list" = none) (he : DR X Γ W e fr) (hg : Gl X "list" := by rfl) (na : starEach [e] X.env = (false, eval e X.env) :: starEach [] X.env := by rfl) : DE X Γ W (.Call (.Name "list" p) [e] [] pos) (lrgV fr) :=
  ⟨pe_imp (pe_listRg hc hg hm he.pr na) fun σ H Q ⟨F, As, env, S, q⟩ => by
    refine ⟨F, As, env, S, ?_⟩
    unfold lrgV at q
    cases ha : fr env with
    | stuck => rw [ha] at q; exact q
    | ex x => rw [ha] at q; exact q
    | ok p =>
      rw [ha] at q
      obtain ⟨i, j⟩ := p
      intro F1 H1 x1
      simp only [R.bind] at q
      by_cases hz : rgOk i j = true
      · rw [if_pos hz] at q
        exact ⟨rgOk_of hz, fun l hl => Gv.own (g := ⟨X.K, Γ⟩) (F := F1) (fun v F' H' A x2 fr ro => q v F' H' A (x1.trans x2) ⟨fr.nd, fr.nF, fun a ha => x1.hh.free (fr.nH a ha)⟩ ro) x1.fh (rgV_rf i j) hl⟩
      · rw [if_neg hz] at q
        exact q.elim⟩
theorem de_tupRg {p : Pos} (hc : X.calm = true) (hm : X.mg "tuple" = none) (he : DR X Γ W e fr) (hg : Gl X "tuple" := by rfl) (na : starEach [e] X.env = (false, eval e X.env) :: starEach [] X.env := by rfl) : DE X Γ W (.Call (.Name "tuple" p) [e] [] pos) (trgV fr) :=
  ⟨pe_imp (pe_tupRg hc hg hm he.pr na) fun σ H Q ⟨F, As, env, S, q⟩ => by
    refine ⟨F, As, env, S, ?_⟩
    unfold trgV at q
    cases ha : fr env with
    | stuck => rw [ha] at q; exact q
    | ex x => rw [ha] at q; exact q
    | ok p =>
      rw [ha] at q
      obtain ⟨i, j⟩ := p
      intro F1 H1 x1
      simp only [R.bind] at q
      by_cases hz : rgOk i j = true
      · rw [if_pos hz] at q
        exact ⟨rgOk_of hz, fun l hl => Gv.tup (g := ⟨X.K, Γ⟩) (F := F1) (fun v F' H' A x2 fr ro => q v F' H' A (x1.trans x2) ⟨fr.nd, fr.nF, fun a ha => x1.hh.free (fr.nH a ha)⟩ ro) x1.fh (rgV_rf i j) hl⟩
      · rw [if_neg hz] at q
        exact q.elim⟩
end

/-! ### isinstance -/
/-- the type of a value, as isinstance asks it -/
def tyv (Γ : Str → Option Addr) : DV → Option Value
  | .non => some (.type "NoneType")
  | .bl _ => some (.type "bool")
  | .int _ => some (.type "int")
  | .str _ => some (.type "str")
  | .tup _ => some (.type "tuple")
  | .lst _ => some (.type "list")
  | .own _ => some (.type "list")
  | .scr _ => some (.type "list")
  | .ins c _ => (Γ c).map .ref
  | .obj c _ => (Γ c).map .ref
  | .exc c _ => (Γ c).map .ref
  | .rng _ _ => none
/-- what a class of the text must say, so that isinstance asks its instances rightly -/
structure InsT (K : PySem.W.Frag) (C : Addr) : Prop where
  cl : Cls K C
  ha : PySem.W.findIn K (.ref C) "__class__" = some (some (.builtin "object.__class__"))
  hn : PySem.W.specialIn K (.builtin "object.__class__") "__get__" = some (some (.builtin "getset_descriptor.__get__"))
  ht : PySem.W.takesIn K (.builtin "object.__class__") = some true
  hm : PySem.W.mroIn K C (.type "object") = some true
theorem TyOf.sqL {K : PySem.W.Frag} {H : Hp} {p : Addr} {vs : List V} (h : SqL K H p vs) : TyX K H (.ref p) (.type "list") := by
  rcases h with (h | ⟨o, h⟩) | ⟨o, its, n, h1, h2, _⟩
  · exact .base (.lst h)
  · exact .base (.frz h)
  · exact .kList h1 h2
theorem TyOf.sqT {K : PySem.W.Frag} {H : Hp} {p : Addr} {vs : List V} (h : SqT K H p vs) : TyX K H (.ref p) (.type "tuple") := by
  rcases h with (h | ⟨o, h⟩) | ⟨o, its, n, h1, h2, _⟩
  · exact .base (.tup h)
  · exact .fTuple h
  · exact .kTuple h1 h2
/-- what an exception class of the text must say, so that isinstance asks its instances rightly -/
structure ExcK (K : PySem.W.Frag) (C : Addr) : Prop where
  hc : (PySem.W.clsIn K C).isSome = true
  hg : PySem.W.findIn K (.ref C) "__getattribute__" = some (some (.builtin "BaseException.__getattribute__"))
  hk : PySem.W.findIn K (.ref C) "__getattr__" = some none
  hs : PySem.W.subIn K (.ref C) (.type "BaseException") = some true
  ha : PySem.W.findIn K (.ref C) "__class__" = some (some (.builtin "object.__class__"))
  hn : PySem.W.specialIn K (.builtin "object.__class__") "__get__" = some (some (.builtin "getset_descriptor.__get__"))
  ht : PySem.W.takesIn K (.builtin "object.__class__") = some true
  hm : PySem.W.mroIn K C (.type "object") = some true
/-- what isinstance asks of a value -/
def IsOk (K : PySem.W.Frag) (x : Value) (t : Value) (h : Heap) : Prop := ∃ P : Heap → Prop, PySem.W.KitX K x t P ∧ P h ∧ x ≠ .builtin "__main__.__loader__#opaque"
/-- the classes of what is asked -/
structure ClsT (K : PySem.W.Frag) (Γ : Str → Option Addr) (d : DV) : Prop where
  ins : ∀ c fs C, (d = .ins c fs ∨ d = .obj c fs) → Γ c = some C → InsT K C
  exc : ∀ c fs C, d = .exc c fs → Γ c = some C → ExcK K C
theorem exc_inst {s : Shared} {p C : Addr} {dx : Option Addr} {φ : Heap → Prop} {H : Hp} (h : HOk X.prog X.w H s.heap) (e : H p = some (.ext φ)) (k : ExcAt p C dx φ) (hd : ∀ d, dx = some d → ∃ fs, H d = some (.xd fs)) :
    ∃ ox od, PySem.W.InstAt s.heap p ox C od := by
  obtain ⟨h1, _, _⟩ := (show ObjOk X.prog X.w H s.heap p (.ext φ) from h p _ e)
  obtain ⟨o, vs, e1, e2, e3, e4⟩ := k _ h1
  cases dx with
  | none => exact ⟨o, none, e1, e2, by unfold PySem.W.notCls; rw [e4] <;> rfl, by rw [e3]; trivial⟩
  | some d =>
    obtain ⟨fs, e5⟩ := hd d rfl
    obtain ⟨mA, ⟨od, es, ep, q, r⟩, _⟩ := (show ObjOk X.prog X.w H s.heap d (.xd fs) from h d _ e5)
    exact ⟨o, some od, e1, e2, by unfold PySem.W.notCls; rw [e4] <;> rfl, by rw [e3]; exact q⟩
theorem ty_of {pins : List (Addr × Obj)} {σ : L2.St} {s : Shared} {F H : Hp} {x : V} {xv : Value} {d : DV} {A : List Addr} {t : Value} (I : Inv X pins σ H s) (rx : RelV x xv) (s' : Same F H) (r : RO ⟨X.K, Γ⟩ F H x d A) (e : tyv Γ d = some t) (hi : ClsT X.K Γ d) : IsOk X.K xv t s.heap := by
  have ins : ∀ {p C dx c fs}, H p = some (.ins C dx fs) → Γ c = some C → InsT X.K C → TyX X.K H (.ref p) (.ref C) := fun {p C dx c fs} h1 _ T => .base (.ins h1 T.cl T.ha T.hn T.ht T.hm)
  have go : TyX X.K H x t → IsOk X.K xv t s.heap := fun ty => kit_of I rx ty
  cases r with
  | frz rf =>
    cases rf with
    | non => cases e; exact go (.base .non)
    | bl b => cases e; exact go (.base (.bl b))
    | int b => cases e; exact go (.base (.int b))
    | str b => cases e; exact go (.base (.str b))
    | tup h r => cases e; exact go (TyOf.sqT (sqT_same s' h))
    | lst h r => cases e; exact go (TyOf.sqL (.of (s' _ _ h)))
    | scr h r => cases e; exact go (TyOf.sqL (sqL_same s' h))
    | rng h => cases e
    | ins h c r =>
      have c : Γ _ = some _ := c
      simp only [tyv, c, Option.map_some, Option.some.injEq] at e
      subst e
      exact go (ins (s' _ _ h) c (hi.ins _ _ _ (.inl rfl) c))
    | exc h k c =>
      have c : Γ _ = some _ := c
      simp only [tyv, c, Option.map_some, Option.some.injEq] at e
      subst e
      obtain rfl := rx
      have T := hi.exc _ _ _ rfl c
      obtain ⟨ox, od, J⟩ := exc_inst (X := X) I.hok (s' _ _ h) k (fun _ z => nomatch z)
      exact ⟨_, PySem.W.kitx_exc T.hc T.hg T.hk T.hs T.ha T.hn T.ht T.hm, J, fun z => nomatch z⟩
    | excD h k c q r =>
      have c : Γ _ = some _ := c
      simp only [tyv, c, Option.map_some, Option.some.injEq] at e
      subst e
      obtain rfl := rx
      have T := hi.exc _ _ _ rfl c
      obtain ⟨ox, od, J⟩ := exc_inst (X := X) I.hok (s' _ _ h) k (fun d z => by cases z; exact ⟨_, s' _ _ q⟩)
      exact ⟨_, PySem.W.kitx_exc T.hc T.hg T.hk T.hs T.ha T.hn T.ht T.hm, J, fun z => nomatch z⟩
  | own h r => cases e; exact go (TyOf.sqL (.of h))
  | obj h c r =>
    have c : Γ _ = some _ := c
    simp only [tyv, c, Option.map_some, Option.some.injEq] at e
    subst e
    exact go (ins h c (hi.ins _ _ _ (.inr rfl) c))
/-- ans: what isinstance(.., (us)) answers; one: us is one class, not in a tuple -/
structure Isi (K : PySem.W.Frag) (Γ : Str → Option Addr) (us : List Value) (ans : DV → Option Bool) : Prop where
  yes : ∀ d t b, tyv Γ d = some t → ans d = some b → PySem.W.kitAny K t us = some b
  ty : ∀ d b, ans d = some b → (tyv Γ d).isSome = true
  cls : ∀ d b, ans d = some b → ClsT K Γ d
theorem kitAny_one {K : PySem.W.Frag} {t u : Value} {b : Bool} (h : PySem.W.kitAny K t [u] = some b) : PySem.W.kitOne K t u = some b := by
  unfold PySem.W.kitAny at h
  cases q : PySem.W.kitOne K t u with
  | none => rw [q] at h; cases h
  | some c =>
    rw [q] at h
    cases c with
    | true => exact h
    | false => exact h
def rIsD (K : PySem.W.Frag) (Γ : Str → Option Addr) : List V → Hp → VK → Prop := fun xs H Q => ∃ (x c : V) (u : Value) (F : Hp) (d : DV) (A : List Addr) (ans : DV → Option Bool) (b : Bool), xs = [x, c] ∧ ClsV c u ∧ Same F H ∧ RO ⟨K, Γ⟩ F H x d A ∧ Isi K Γ [u] ans ∧ ans d = some b ∧ Q (.bl b) H
def rIsDT (K : PySem.W.Frag) (Γ : Str → Option Addr) : List V → Hp → VK → Prop := fun xs H Q => ∃ (x : V) (tp : Addr) (cs : List V) (us : List Value) (F : Hp) (d : DV) (A : List Addr) (ans : DV → Option Bool) (b : Bool), xs = [x, .ref tp] ∧ H tp = some (.tup cs) ∧ Paired ClsV cs us ∧ Same F H ∧ RO ⟨K, Γ⟩ F H x d A ∧ Isi K Γ us ans ∧ ans d = some b ∧ Q (.bl b) H
theorem call_isD : CallR X (.builtin "isinstance") (rIsD X.K Γ) := by
  intro pins s σ H xs us Q I r h
  obtain ⟨x, c, u, F, d, A, ans, b, rfl, hc, sf, ro, hi, ha, q⟩ := h
  obtain ⟨u1, u2, rfl, r1, r2⟩ := vals2 r
  have e2 := hc.eq r2
  subst e2
  obtain ⟨t, ht⟩ := Option.isSome_iff_exists.mp (hi.ty d b ha)
  obtain ⟨P, Z, p, hx⟩ := ty_of I r1 sf ro ht (hi.cls d b ha)
  exact PySem.W.kia_one Z I.kIn p (kitAny_one (hi.yes d t b ht ha)) hx fun tk => ⟨.bl b, H, I.tok tk, rfl, q⟩
theorem call_isDT : CallR X (.builtin "isinstance") (rIsDT X.K Γ) := by
  intro pins s σ H xs us Q I r h
  obtain ⟨x, tp, cs, ws, F, d, A, ans, b, rfl, hT, hc, sf, ro, hi, ha, q⟩ := h
  obtain ⟨u1, u2, rfl, r1, r2⟩ := vals2 r
  cases (show u2 = Value.ref tp from r2)
  obtain ⟨t, ht⟩ := Option.isSome_iff_exists.mp (hi.ty d b ha)
  obtain ⟨P, Z, p, hx⟩ := ty_of I r1 sf ro ht (hi.cls d b ha)
  obtain ⟨_, its, rv, o, h1, h2, n, h3⟩ := (show ObjOk X.prog X.w H s.heap tp (.tup cs) from I.hok tp _ hT)
  have e3 := ClsV.all hc rv
  subst e3
  obtain ⟨oc, od, dt, sl⟩ := o
  simp only at h2 h3
  subst h2 h3
  exact PySem.W.kia_tup Z I.kIn p h1 (hi.yes d t b ht ha) hx fun tk => ⟨.bl b, H, I.tok tk, rfl, q⟩
section
variable {e a b : Expr} {fa fb : Slots → R DV} {pos p : Pos}
def isiV (ans : DV → Option Bool) (fa : Slots → R DV) : Slots → R DV := fun env => (fa env).bind fun d => lift ((ans d).map .bl)
/-- isinstance(a, T), T written and known -/
theorem de_isi {c : V} {u : Value} {ans : DV → Option Bool} (hm : X.mg "isinstance" = none) (ha : DT X Γ W a fa) (hb : PE X b (tC c)) (hc : ClsV c u) (hi : Isi X.K Γ [u] ans) (hg : Gl X "isinstance" := by rfl)
    (he : starEach [a, b] X.env = (false, eval a X.env) :: starEach [b] X.env := by rfl) (he2 : starEach [b] X.env = (false, eval b X.env) :: starEach [] X.env := by rfl) (hpl : (backTo pos (starEach [b] X.env)).any (·.1) = false := by rfl) :
    DE X Γ W (.Call (.Name "isinstance" p) [a, b] [] pos) (isiV ans fa) :=
  ⟨pe_imp (pe_callB (call_isD (Γ := Γ)) hg hm boot_isinstance (pa_cons ha.pe (pa_cons hb pa_nil he2) he) (by decide) (by decide) he hpl) fun σ H Q ⟨F, As, env, S, q⟩ => by
    refine ⟨F, As, env, S, ?_⟩
    unfold isiV at q
    cases ha : fa env with
    | stuck => rw [ha] at q; exact q
    | ex x => rw [ha] at q; exact q
    | ok dx =>
      rw [ha] at q
      intro x F1 H1 A1 x1 r1
      simp only [R.bind] at q
      cases hd : ans dx with
      | none => rw [hd] at q; exact q.elim
      | some k =>
        rw [hd] at q
        exact ⟨x, c, u, F1, dx, A1, ans, k, rfl, hc, x1.fh, r1, hi, hd, q _ F1 H1 [] x1 .nil (.frz (.bl k))⟩⟩
/-- several classes, in a tuple -/
def tCs (cs : List V) : TA := fun _ H Q => Q cs H
theorem pa_cs {es : List Expr} {cs : List V} {c : V} (h : PE X e (tC c)) (hr : PA X es (tCs cs)) (he : starEach (e :: es) X.env = (false, eval e X.env) :: starEach es X.env := by rfl) : PA X (e :: es) (tCs (c :: cs)) := pa_imp (pa_cons h hr he) fun σ H Q q => q
theorem pa_cs0 : PA X [] (tCs []) := pa_imp pa_nil fun σ H Q q => q
theorem de_isiT {es : List Expr} {kx : Nat} {pos' : Pos} {cs : List V} {us : List Value} {ans : DV → Option Bool} (hm : X.mg "isinstance" = none) (ha : DT X Γ W a fa) (hb : PA X es (tCs cs)) (hl : cs.length ≤ 100) (hc : Paired ClsV cs us) (hi : Isi X.K Γ us ans) (hg : Gl X "isinstance" := by rfl)
    (he : starEach [a, .Tuple es kx pos'] X.env = (false, eval a X.env) :: starEach [.Tuple es kx pos'] X.env := by rfl) (he2 : starEach [.Tuple es kx pos'] X.env = (false, eval (.Tuple es kx pos') X.env) :: starEach [] X.env := by rfl) (hpl : (backTo pos (starEach [.Tuple es kx pos'] X.env)).any (·.1) = false := by rfl) :
    DE X Γ W (.Call (.Name "isinstance" p) [a, .Tuple es kx pos'] [] pos) (isiV ans fa) :=
  ⟨pe_imp (pe_callB (call_isDT (Γ := Γ)) hg hm boot_isinstance (pa_cons ha.pe (pa_cons (pe_tup hb) pa_nil he2) he) (by decide) (by decide) he hpl) fun σ H Q ⟨F, As, env, S, q⟩ => by
    refine ⟨F, As, env, S, ?_⟩
    unfold isiV at q
    cases ha : fa env with
    | stuck => rw [ha] at q; exact q
    | ex x => rw [ha] at q; exact q
    | ok dx =>
      rw [ha] at q
      intro x F1 H1 A1 x1 r1
      simp only [R.bind] at q
      cases hd : ans dx with
      | none => rw [hd] at q; exact q.elim
      | some k =>
        rw [hd] at q
        refine ⟨by rw [sizeLine_eq]; omega, fun tp htp => ?_⟩
        have x2 : Ext F H F1 (upd H1 tp (.tup cs)) := x1.trans (.own x1.fh htp)
        exact ⟨x, tp, cs, us, F1, dx, A1, ans, k, rfl, upd_same, hc, x2.fh, r1.ext (.own x1.fh htp), hi, hd, q _ F1 _ [] x2 .nil (.frz (.bl k))⟩⟩
end
end
end DL
end
section
set_option maxHeartbeats 1000000
namespace DL
open PySem L2 PyProof.Rows

/-- F0: what was shared at the entry; H0: the heap at the entry; W: what of it may be written; self: what slot 0 holds throughout (a method's self) -/
structure Base where
  F0 : Hp
  H0 : Hp
  W : List Addr
  self : Option V
structure RelAt (g : Gc) (B : Base) (F : Hp) (As : List Addr) (σ : L2.St) (H : Hp) (env : Slots) : Prop where
  sa : SA g F As σ H env
  f0 : Same B.F0 F
  fr : ∀ a o, F a = some o → B.F0 a = none → B.H0 a = none ∨ a ∈ B.W
  fm : ∀ a o, B.H0 a = some o → a ∉ B.W → H a = some o
  ft : ∀ a o, B.H0 a = some o → ∃ o', H a = some o'
  ow : ∀ a ∈ As, B.H0 a = none ∨ a ∈ B.W
  pin : ∀ v, B.self = some v → (∃ c fs, env[0]? = some (some (.obj c fs))) → σ[0]? = some (some v)
/-- a value that is held besides the slots -/
structure Kept (g : Gc) (B : Base) (F : Hp) (As : List Addr) (H : Hp) (v : V) (d : DV) (A : List Addr) : Prop where
  r : RO g F H v d A
  nd : ∀ a, As.count a + A.count a ≤ 1
  nF : ∀ a ∈ A, F a = none
  ow : ∀ a ∈ A, B.H0 a = none ∨ a ∈ B.W
section
variable {g : Gc} {B : Base} {F F' H H' : Hp} {As A : List Addr} {σ : L2.St} {env : Slots} {v : V} {d : DV} {i : Nat}
theorem RF.notobj (r : RF g F v d) : ∀ c fs, d ≠ .obj c fs := fun c fs e => by subst e; cases r
theorem pin_set {x : Option V} {w : V} (hi : i ≠ 0 ∨ ∀ c fs, d ≠ .obj c fs) (h : (∃ c fs, env[0]? = some (some (.obj c fs))) → σ[0]? = some (some w)) : (∃ c fs, (env.set i (some d))[0]? = some (some (.obj c fs))) → (σ.set i x)[0]? = some (some w) := by
  rintro ⟨c, fs, e⟩
  by_cases h0 : i = 0
  · subst h0
    rcases hi with hi | hi
    · exact absurd rfl hi
    · cases env with
      | nil => cases e
      | cons y l =>
        have e : some (some d) = some (some (DV.obj c fs)) := e
        cases e
        exact absurd rfl (hi c fs)
  · rw [List.getElem?_set_ne h0] at e ⊢
    exact h ⟨c, fs, e⟩
theorem pin_frz {w : V} (h : (∃ c fs, env[0]? = some (some (.obj c fs))) → σ[0]? = some (some w)) : (∃ c fs, (env.set i (some (freeze d)))[0]? = some (some (.obj c fs))) → σ[0]? = some (some w) := by
  rintro ⟨c, fs, e⟩
  by_cases h0 : i = 0
  · subst h0
    cases env with
    | nil => cases e
    | cons y l =>
      have e : some (some (DL.freeze d)) = some (some (DV.obj c fs)) := e
      have e : DL.freeze d = DV.obj c fs := Option.some.inj (Option.some.inj e)
      cases d <;> simp [DL.freeze] at e
  · rw [List.getElem?_set_ne h0] at e
    exact h ⟨c, fs, e⟩
theorem RelAt.ext (x : Ext F H F' H') (R : RelAt g B F As σ H env) : RelAt g B F' As σ H' env := by
  refine ⟨R.sa.ext x, R.f0.trans x.ff, fun a o e n => ?_, fun a o e n => x.hh a o (R.fm a o e n), fun a o e => ?_, R.ow, R.pin⟩
  · cases q : F a with
    | some u => exact R.fr a u q n
    | none =>
      have hn := x.new a o e q
      refine .inl ?_
      cases q0 : B.H0 a with
      | none => rfl
      | some u =>
        obtain ⟨o', ho'⟩ := R.ft a u q0
        rw [hn] at ho'; cases ho'
  · obtain ⟨o', ho'⟩ := R.ft a o e
    exact ⟨o', x.hh a o' ho'⟩
/-- what a pure step made is held besides -/
theorem RelAt.keep (x : Ext F H F' H') (R : RelAt g B F As σ H env) (f : Fresh F' H A) (r : RO g F' H' v d A) : Kept g B F' As H' v d A := by
  refine ⟨r, fun a => ?_, f.nF, fun a ha => .inl ?_⟩
  · have h1 := R.sa.nd a
    have h2 := f.nd a
    by_cases c : a ∈ A
    · by_cases c2 : a ∈ As
      · obtain ⟨o, ho⟩ := R.sa.sl.there a c2
        rw [f.nH a c] at ho; cases ho
      · have := List.count_eq_zero.mpr c2
        omega
    · have := List.count_eq_zero.mpr c
      omega
  · cases q0 : B.H0 a with
    | none => rfl
    | some u =>
      obtain ⟨o', ho'⟩ := R.ft a u q0
      rw [f.nH a ha] at ho'; cases ho'
theorem RelAt.put (R : RelAt g B F As σ H env) (K : Kept g B F As H v d A) (hi : i ≠ 0 ∨ ∀ c fs, d ≠ .obj c fs) : ∃ As', RelAt g B F As' (σ.set i (some v)) H (env.set i (some d)) := by
  obtain ⟨As', s', cnt⟩ := RE.put i R.sa.sl K.r
  have sub : ∀ a ∈ As', a ∈ As ∨ a ∈ A := fun a ha => by
    have h1 := cnt a
    have h2 := cpos.mp ha
    by_cases c : 0 < As.count a
    · exact .inl (cpos.mpr c)
    · exact .inr (cpos.mpr (by omega))
  refine ⟨As', ⟨R.sa.fh, s', fun a => ?_, fun a ha => ?_⟩, R.f0, R.fr, R.fm, R.ft, fun a ha => ?_, fun w e => pin_set hi (R.pin w e)⟩
  · have h1 := cnt a
    have h2 := K.nd a
    omega
  · rcases sub a ha with h | h
    · exact R.sa.fx a h
    · exact K.nF a h
  · rcases sub a ha with h | h
    · exact R.ow a h
    · exact K.ow a h
/-- a shared value goes into a slot -/
theorem RelAt.putF (R : RelAt g B F As σ H env) (r : RF g F v d) : ∃ As', RelAt g B F As' (σ.set i (some v)) H (env.set i (some d)) :=
  R.put (A := []) ⟨.frz r, fun a => by have := R.sa.nd a; simpa using this, (fun _ h => nomatch h), fun _ h => nomatch h⟩ (.inr (RF.notobj r))
/-- a slot's own content is shared from now on -/
theorem RelAt.freeze (R : RelAt g B F As σ H env) (e : env[i]? = some (some d)) : ∃ F' As', Same F F' ∧ RelAt g B F' As' σ H (env.set i (some (freeze d))) := by
  obtain ⟨v, A, B', h1, h2, h3, h4⟩ := R.sa.sl.get e
  have nF : ∀ a ∈ A, F a = none := fun a ha => R.sa.fx a (cpos.mpr (by have := h4 a; have := cpos.mp ha; omega))
  have sF : Same F (DL.ext F H A) := ext_same nF
  have sub : ∀ a ∈ B', a ∈ As := fun a ha => cpos.mpr (by have := h4 a; have := cpos.mp ha; omega)
  have notA : ∀ a ∈ B', a ∉ A := fun a hb ha => by
    have := R.sa.nd a
    have := h4 a
    have := cpos.mp hb
    have := cpos.mp ha
    omega
  have r' := RO.freeze h2 nF
  obtain ⟨Bf, s', cnt⟩ := RE.back (i := i) (h3.mono sF (H' := H) fun _ _ => rfl) h1 (.frz r')
  have es : (env.set i none).set i (some (DL.freeze d)) = env.set i (some (DL.freeze d)) := List.set_set ..
  rw [es] at s'
  have sub' : ∀ a ∈ Bf, a ∈ B' := fun a ha => cpos.mpr (by have h1 := cnt a; have h2 := cpos.mp ha; rw [List.count_nil] at h1; omega)
  refine ⟨DL.ext F H A, Bf, sF, ⟨ext_sub R.sa.fh, s', fun a => ?_, fun a ha => ?_⟩, R.f0.trans sF, fun a o q n => ?_, R.fm, R.ft, fun a ha => R.ow a (sub a (sub' a ha)), fun w q => pin_frz (R.pin w q)⟩
  · have h1 := cnt a
    have h2 := h4 a
    have h3 := R.sa.nd a
    rw [List.count_nil] at h1
    omega
  · rw [ext_out (notA a (sub' a ha))]
    exact R.sa.fx a (sub a (sub' a ha))
  · by_cases ha : a ∈ A
    · exact R.ow a (cpos.mpr (by have := h4 a; have := cpos.mp ha; omega))
    · rw [ext_out ha] at q
      exact R.fr a o q n
end

/-! ### statements -/
inductive Out where
  | nx (env : Slots) | rt (d : DV) (env : Slots) | bk (env : Slots) | ct (env : Slots) | ex (x : Exn) (env : Slots) | stuck
def PostS (g : Gc) (B : Base) (W : WX) (F : Hp) (D : Ends) : Out → Prop
  | .nx env => ∀ F' As σ H, Same F F' → RelAt g B F' As σ H env → D.nx σ H
  | .rt d env => ∀ v F' As A σ H, Same F F' → RelAt g B F' As σ H env → Kept g B F' As H v d A → D.rt v H
  | .bk env => ∀ F' As σ H, Same F F' → RelAt g B F' As σ H env → D.bk σ H
  | .ct env => ∀ F' As σ H, Same F F' → RelAt g B F' As σ H env → D.ct σ H
  | .ex x env => ∀ cls dx F' As σ H, Same F F' → RelAt g B F' As σ H env → XOk g F' cls dx x → W cls dx σ H
  | .stuck => False
theorem PostS.mono {g : Gc} {B : Base} {W : WX} {F F' : Hp} {D : Ends} (s : Same F F') : ∀ {o : Out}, PostS g B W F D o → PostS g B W F' D o
  | .nx _, h => fun F1 As σ H s1 R => h F1 As σ H (s.trans s1) R
  | .rt _ _, h => fun v F1 As A σ H s1 R K => h v F1 As A σ H (s.trans s1) R K
  | .bk _, h => fun F1 As σ H s1 R => h F1 As σ H (s.trans s1) R
  | .ct _, h => fun F1 As σ H s1 R => h F1 As σ H (s.trans s1) R
  | .ex _ _, h => fun c d F1 As σ H s1 R K => h c d F1 As σ H (s.trans s1) R K
  | .stuck, h => h
/-- other ends -/
theorem PostS.ends {g : Gc} {B : Base} {W : WX} {F : Hp} {D D' : Ends} (h1 : ∀ σ H, D.nx σ H → D'.nx σ H) (h2 : ∀ v H, D.rt v H → D'.rt v H) (h3 : ∀ σ H, D.bk σ H → D'.bk σ H) (h4 : ∀ σ H, D.ct σ H → D'.ct σ H) : ∀ {o : Out}, PostS g B W F D o → PostS g B W F D' o
  | .nx _, h => fun F1 As σ H s1 R => h1 _ _ (h F1 As σ H s1 R)
  | .rt _ _, h => fun v F1 As A σ H s1 R K => h2 _ _ (h v F1 As A σ H s1 R K)
  | .bk _, h => fun F1 As σ H s1 R => h3 _ _ (h F1 As σ H s1 R)
  | .ct _, h => fun F1 As σ H s1 R => h4 _ _ (h F1 As σ H s1 R)
  | .ex _ _, h => h
  | .stuck, h => h
def rdS (g : Gc) (W : WX) (G : Slots → Out) : TS := fun D σ H => ∃ B F As env, RelAt g B F As σ H env ∧ PostS g B W F D (G env)
structure DS (X : Cx) (Γ : Str → Option Addr) (W : WX) (st : Stmt) (G : Slots → Out) : Prop where
  ps : PS X st (rdS ⟨X.K, Γ⟩ W G)
structure DSs (X : Cx) (Γ : Str → Option Addr) (W : WX) (st : List Stmt) (G : Slots → Out) : Prop where
  pss : PSs X st (rdS ⟨X.K, Γ⟩ W G)

def bindE (f : Slots → R DV) (k : DV → Slots → Out) : Slots → Out := fun env => match f env with
  | .ok d => k d env
  | .ex x => .ex x env
  | .stuck => .stuck
def bindB (f : Slots → R Bool) (k : Bool → Slots → Out) : Slots → Out := fun env => match f env with
  | .ok d => k d env
  | .ex x => .ex x env
  | .stuck => .stuck
def seqS (a b : Slots → Out) : Slots → Out := fun env => match a env with
  | .nx e => b e
  | o => o
def nxS : Slots → Out := fun env => .nx env

section
variable {X : Cx} {Γ : Str → Option Addr} {W : WX} {e a b c : Expr} {f fa fb : Slots → R DV} {pos : Pos} {st : Stmt} {rest sa sb : List Stmt} {G G' : Slots → Out} {fc : Slots → R Bool}

theorem rdS_E {k : DV → Slots → Out} {T : V → TS} (ht : ∀ v d B F As env A D σ H, RelAt ⟨X.K, Γ⟩ B F As σ H env → Kept ⟨X.K, Γ⟩ B F As H v d A → PostS ⟨X.K, Γ⟩ B W F D (k d env) → T v D σ H) {D : Ends} {σ : L2.St} {H : Hp}
    (q : rdS ⟨X.K, Γ⟩ W (bindE f k) D σ H) : rdE ⟨X.K, Γ⟩ W f σ H fun v H1 => T v D σ H1 := by
  obtain ⟨B, F, As, env, R, q⟩ := q
  refine ⟨F, As, env, R.sa, ?_⟩
  unfold bindE at q
  cases hf : f env with
  | stuck => rw [hf] at q; exact q
  | ex x =>
    rw [hf] at q
    exact fun cls dx F' H' xx o => q cls dx F' As σ H' xx.ff (R.ext xx) o
  | ok d =>
    rw [hf] at q
    exact fun v F' H' A xx fr r => ht v d B F' As env A D σ H' (R.ext xx) (R.keep xx fr r) (q.mono xx.ff)
theorem rdS_B {k : Bool → Slots → Out} {T : Bool → TS} (ht : ∀ c D σ H, rdS ⟨X.K, Γ⟩ W (k c) D σ H → T c D σ H) {D : Ends} {σ : L2.St} {H : Hp}
    (q : rdS ⟨X.K, Γ⟩ W (bindB fc k) D σ H) : rdT ⟨X.K, Γ⟩ W fc σ H fun c H1 => T c D σ H1 := by
  obtain ⟨B, F, As, env, R, q⟩ := q
  refine ⟨F, As, env, R.sa, ?_⟩
  unfold bindB at q
  cases hf : fc env with
  | stuck => rw [hf] at q; exact q
  | ex x =>
    rw [hf] at q
    exact fun cls dx F' H' xx o => q cls dx F' As σ H' xx.ff (R.ext xx) o
  | ok c =>
    rw [hf] at q
    exact fun F' H' xx => ht c D σ H' ⟨B, F', As, env, R.ext xx, q.mono xx.ff⟩

/-! blocks -/
theorem dss_nil : DSs X Γ W [] nxS := ⟨pss_imp pss_nil fun D σ H ⟨B, F, As, env, R, q⟩ => q F As σ H (.refl F) R⟩
theorem rdS_seq {D : Ends} {σ : L2.St} {H : Hp} (q : rdS ⟨X.K, Γ⟩ W (seqS G G') D σ H) : tSeq (rdS ⟨X.K, Γ⟩ W G) (rdS ⟨X.K, Γ⟩ W G') D σ H := by
  obtain ⟨B, F, As, env, R, q⟩ := q
  refine ⟨B, F, As, env, R, ?_⟩
  unfold seqS at q
  cases hg : G env with
  | nx e1 => rw [hg] at q; exact fun F' As' σ' H' s R' => ⟨B, F', As', e1, R', q.mono s⟩
  | rt d e1 => rw [hg] at q; exact q
  | bk e1 => rw [hg] at q; exact q
  | ct e1 => rw [hg] at q; exact q
  | ex x e1 => rw [hg] at q; exact q
  | stuck => rw [hg] at q; exact q
theorem dss_cons (h1 : DS X Γ W st G) (h2 : DSs X Γ W rest G') : DSs X Γ W (st :: rest) (seqS G G') := ⟨pss_imp (pss_cons h1.ps h2.pss) fun D σ H q => rdS_seq q⟩
theorem dss_one (h1 : DS X Γ W st G) : DSs X Γ W [st] G := ⟨pss_one h1.ps⟩
/-- a slot is shared from here on -/
def frzS (i : Nat) : Slots → Out := fun env => match env[i]? with
  | some (some d) => .nx (env.set i (some (freeze d)))
  | _ => .stuck
theorem dss_frz (i : Nat) (h : DSs X Γ W sa G) : DSs X Γ W sa (seqS (frzS i) G) := ⟨pss_imp h.pss fun D σ H ⟨B, F, As, env, R, q⟩ => by
  unfold seqS frzS at q
  cases he : env[i]? with
  | none => rw [he] at q; exact q.elim
  | some x =>
    cases x with
    | none => rw [he] at q; exact q.elim
    | some d =>
      rw [he] at q
      obtain ⟨F', As', s, R'⟩ := R.freeze he
      exact ⟨B, F', As', _, R', q.mono s⟩⟩

/-! small statements -/
theorem ds_pass : DS X Γ W (.Pass pos) nxS := ⟨ps_imp ps_pass fun D σ H ⟨B, F, As, env, R, q⟩ => q F As σ H (.refl F) R⟩
def bkS : Slots → Out := fun env => .bk env
def ctS : Slots → Out := fun env => .ct env
theorem ds_break : DS X Γ W (.Break pos) bkS := ⟨ps_imp ps_break fun D σ H ⟨B, F, As, env, R, q⟩ => q F As σ H (.refl F) R⟩
theorem ds_continue : DS X Γ W (.Continue pos) ctS := ⟨ps_imp ps_continue fun D σ H ⟨B, F, As, env, R, q⟩ => q F As σ H (.refl F) R⟩
def dropS (f : Slots → R DV) : Slots → Out := bindE f fun _ env => .nx env
theorem ds_expr (he : DE X Γ W e f) (hs : swapsWith e none pos.line X.env = pure false := by rfl) : DS X Γ W (.Expr e pos) (dropS f) :=
  ⟨ps_imp (ps_expr he.pe hs) fun D σ H q => rdS_E (k := fun _ env => .nx env) (T := fun _ D σ H => D.nx σ H) (fun v d B F As env A D σ H R K q => q F As σ H (.refl F) R) q⟩
def retS (f : Slots → R DV) : Slots → Out := bindE f fun d env => .rt d env
theorem ds_ret (he : DE X Γ W e f) : DS X Γ W (.Return (some e) pos) (retS f) :=
  ⟨ps_imp (ps_ret he.pe) fun D σ H q => rdS_E (k := fun d env => .rt d env) (T := fun v D σ H => D.rt v H) (fun v d B F As env A D σ H R K q => q v F As A σ H (.refl F) R K) q⟩
theorem ds_retN : DS X Γ W (.Return none pos) (fun env => .rt .non env) :=
  ⟨ps_imp ps_retN fun D σ H ⟨B, F, As, env, R, q⟩ => q .non F As [] σ H (.refl F) R ⟨.frz .non, fun a => by have := R.sa.nd a; simpa using this, (fun _ h => nomatch h), fun _ h => nomatch h⟩⟩
def setS (i : Nat) (f : Slots → R DV) : Slots → Out := bindE f fun d env => .nx (env.set i (some d))
/-- name = value; slot 0 of a method stays -/
theorem ds_set {i : Nat} {x : Str} {pos' : Pos} (hN : X.N.Nodup) (he : DE X Γ W e f) (h0 : i ≠ 0) (hi : X.N[i]? = some x := by rfl) (hx : Loc X.env.scope x := by first | exact .inl rfl | exact .inr rfl)
    (hs : swapsWith e (some (.Name x pos')) pos.line X.env = pure false := by rfl) (hf : X.fn x = true ∨ X.env.scope.names.lookup x = some .local := by first | exact .inl rfl | exact .inr rfl) :
    DS X Γ W (.Assign [.Name x pos'] e pos) (setS i f) :=
  ⟨ps_imp (ps_set hN hi hx he.pe hs hf) fun D σ H q => rdS_E (k := fun d env => .nx (env.set i (some d))) (T := fun v D σ H => gName i v σ H D.nx) (fun v d B F As env A D σ H R K q => by
    obtain ⟨As', R'⟩ := R.put K (.inl h0)
    exact q F As' _ H (.refl F) R') q⟩
def isObj : DV → Bool
  | .obj _ _ => true
  | _ => false
def setS0 (i : Nat) (f : Slots → R DV) : Slots → Out := bindE f fun d env => if isObj d then .stuck else .nx (env.set i (some d))
/-- .. slot 0 of a def that is no method -/
theorem ds_set0 {i : Nat} {x : Str} {pos' : Pos} (hN : X.N.Nodup) (he : DE X Γ W e f) (hi : X.N[i]? = some x := by rfl) (hx : Loc X.env.scope x := by first | exact .inl rfl | exact .inr rfl)
    (hs : swapsWith e (some (.Name x pos')) pos.line X.env = pure false := by rfl) (hf : X.fn x = true ∨ X.env.scope.names.lookup x = some .local := by first | exact .inl rfl | exact .inr rfl) :
    DS X Γ W (.Assign [.Name x pos'] e pos) (setS0 i f) :=
  ⟨ps_imp (ps_set hN hi hx he.pe hs hf) fun D σ H q => rdS_E (k := fun d env => if isObj d then .stuck else .nx (env.set i (some d))) (T := fun v D σ H => gName i v σ H D.nx) (fun v d B F As env A D σ H R K q => by
    by_cases c : isObj d = true
    · simp only [if_pos c] at q
      exact q.elim
    · simp only [if_neg c] at q
      obtain ⟨As', R'⟩ := R.put K (.inr fun c' fs e => by subst e; exact c rfl)
      exact q F As' _ H (.refl F) R') q⟩
def ifS (c : Slots → R Bool) (G G' : Slots → Out) : Slots → Out := bindB c fun k env => if k = true then G env else G' env
theorem ds_if (hc : DB X Γ W c fc) (ha : DSs X Γ W sa G) (hb : DSs X Γ W sb G') : DS X Γ W (.If c sa sb pos) (ifS fc G G') :=
  ⟨ps_imp (ps_if hc.pt ha.pss hb.pss) fun D σ H q => rdS_B (k := fun k env => if k = true then G env else G' env) (T := fun k D σ H => if k = true then rdS ⟨X.K, Γ⟩ W G D σ H else rdS ⟨X.K, Γ⟩ W G' D σ H) (fun c D σ H q => by
    cases c with
    | true => exact q
    | false => exact q) q⟩

/-! while, by a number of turns that is enough -/
def whileS (fc : Slots → R Bool) (G : Slots → Out) : Nat → Slots → Out
  | 0 => fun _ => .stuck
  | n + 1 => bindB fc fun k env => if k = true then (match G env with
      | .nx e => whileS fc G n e
      | .ct e => whileS fc G n e
      | .bk e => .nx e
      | o => o) else .nx env
theorem ds_while (n : Slots → Nat) (hp : PassesOwn (model X.prog X.w) X.A X.env X.xe) (hc : DB X Γ W c fc) (hb : DSs X Γ W sa G) : DS X Γ W (.While c sa [] pos) (fun env => whileS fc G (n env) env) :=
  ⟨ps_imp (ps_while hp hc.pt hb.pss) fun D σ H ⟨B, F, As, env, R, q⟩ => by
    refine ⟨fun m σ' H' => ∃ F' As' env', Same F F' ∧ RelAt ⟨X.K, Γ⟩ B F' As' σ' H' env' ∧ PostS ⟨X.K, Γ⟩ B W F' D (whileS fc G m env'), ⟨n env, F, As, env, .refl F, R, q⟩, ?_⟩
    rintro m σ1 H1 ⟨F1, As1, env1, s1, R1, q1⟩
    cases m with
    | zero => exact q1.elim
    | succ m =>
      refine ⟨F1, As1, env1, R1.sa, ?_⟩
      unfold whileS bindB at q1
      cases hf : fc env1 with
      | stuck => rw [hf] at q1; exact q1
      | ex x =>
        rw [hf] at q1
        exact fun cls dx F' H' xx o => q1 cls dx F' As1 σ1 H' xx.ff (R1.ext xx) o
      | ok k =>
        rw [hf] at q1
        intro F2 H2 xx
        cases k with
        | false =>
          exact q1 F2 As1 σ1 H2 xx.ff (R1.ext xx)
        | true =>
          refine ⟨fun σ' H' => ∃ F' As' env', Same F F' ∧ RelAt ⟨X.K, Γ⟩ B F' As' σ' H' env' ∧ PostS ⟨X.K, Γ⟩ B W F' D (whileS fc G m env'), fun σ' H' h => ⟨m, Nat.lt_succ_self m, h⟩, B, F2, As1, env1, R1.ext xx, ?_⟩
          have q2 := q1.mono xx.ff
          simp only [if_true] at q2
          have s2 : Same F F2 := s1.trans xx.ff
          cases hg : G env1 with
          | nx e => rw [hg] at q2; exact fun F' As' σ' H' s R' => ⟨F', As', e, s2.trans s, R', q2.mono s⟩
          | ct e => rw [hg] at q2; exact fun F' As' σ' H' s R' => ⟨F', As', e, s2.trans s, R', q2.mono s⟩
          | bk e => rw [hg] at q2; exact q2
          | rt d e => rw [hg] at q2; exact q2
          | ex x e => rw [hg] at q2; exact q2
          | stuck => rw [hg] at q2; exact q2⟩
end
end DL
end
section
set_option maxHeartbeats 1000000
namespace DL
open PySem L2 PyProof.Rows

/-! ### what is walked -/
/-- J gives the values ds, one a turn, as long as what is shared in F stands -/
structure DWk (g : Gc) (J : It) (F : Hp) (ds : List DV) : Prop where
  go : ∀ i H, i < ds.length → Same F H → J.go i H
  stop : ∀ H, Same F H → J.stop ds.length H
  yld : ∀ i F1 H x H1, i < ds.length → Same F F1 → Same F1 H → J.yld i H x H1 → ∃ F2 d, Ext F1 H F2 H1 ∧ ds[i]? = some d ∧ RF g F2 x d
def rdI (g : Gc) (W : WX) (f : Slots → R (List DV)) : TI := fun σ H R => ∃ F As env, SA g F As σ H env ∧ match f env with
  | .ok ds => ∀ J F' H', Ext F H F' H' → DWk g J F' ds → R J H'
  | .ex x => ∀ cls dx F' H', Ext F H F' H' → XOk g F' cls dx x → W cls dx σ H'
  | .stuck => False
structure DI (X : Cx) (Γ : Str → Option Addr) (W : WX) (tg iter : Expr) (f : Slots → R (List DV)) : Prop where
  pi : PI X tg iter (rdI ⟨X.K, Γ⟩ W f)
theorem pi_imp {X : Cx} {tg iter : Expr} {t t' : TI} (h : PI X tg iter t) (i : ∀ σ H Q, t' σ H Q → t σ H Q) : PI X tg iter t' := ⟨fun pins s σ H R I q => h.run pins s σ H R I (i _ _ _ q)⟩
/-- the numbers lo, lo + 1, .. -/
theorem dwk_range {g : Gc} {F : Hp} {lo hi : Int} : DWk g (Itr lo (hi - lo).toNat) F (rngL lo hi) := by
  have hl : (rngL lo hi).length = (hi - lo).toNat := by unfold rngL; simp
  refine ⟨fun i H h _ => by rw [hl] at h; exact h, fun H _ => by rw [hl]; exact Nat.le_refl _, fun i F1 H x H1 h _ s1 y => ?_⟩
  obtain ⟨rfl, rfl⟩ := y
  rw [hl] at h
  refine ⟨F1, _, .refl s1, ?_, .int _⟩
  unfold rngL
  rw [List.getElem?_map, List.getElem?_range h]
  rfl
/-- the items of a shared list, of a shared tuple, the signs of a text -/
theorem dwk_list {g : Gc} {F : Hp} {p : Addr} {vs : List V} {ds : List DV} (h : SqL g.K F p vs) (r : RFs g F vs ds) : DWk g (Itl g.K p) F ds := by
  refine ⟨fun i H hi s => ?_, fun H s => ⟨vs, sqL_same s h, by rw [r.len]; exact Nat.le_refl _⟩, fun i F1 H x H1 hi s s1 y => ?_⟩
  · obtain ⟨v, e1, _⟩ := r.get (List.getElem?_eq_getElem hi)
    exact ⟨vs, v, sqL_same s h, e1⟩
  · obtain ⟨rfl, y⟩ := y
    obtain ⟨d, e, rf⟩ := r.at (y vs (sqL_same (s.trans s1) h))
    exact ⟨F1, d, .refl s1, e, rf.mono s⟩
theorem dwk_tup {g : Gc} {F : Hp} {p : Addr} {vs : List V} {ds : List DV} (h : SqT g.K F p vs) (r : RFs g F vs ds) : DWk g (Itt g.K p) F ds := by
  refine ⟨fun i H hi s => ?_, fun H s => ⟨vs, sqT_same s h, by rw [r.len]; exact Nat.le_refl _⟩, fun i F1 H x H1 hi s s1 y => ?_⟩
  · obtain ⟨v, e1, _⟩ := r.get (List.getElem?_eq_getElem hi)
    exact ⟨vs, v, sqT_same s h, e1⟩
  · obtain ⟨rfl, y⟩ := y
    obtain ⟨d, e, rf⟩ := r.at (y vs (sqT_same (s.trans s1) h))
    exact ⟨F1, d, .refl s1, e, rf.mono s⟩
/-- the signs of a text -/
def signs (z : Str) : List DV := z.cps.toList.map fun c => .str ⟨#[c]⟩
theorem dwk_str {g : Gc} {F : Hp} {z : Str} : DWk g (Its z) F (signs z) := by
  have hl : (signs z).length = z.cps.size := by unfold signs; simp
  refine ⟨fun i H h _ => by rw [hl] at h; exact h, fun H _ => by rw [hl]; exact Nat.le_refl _, fun i F1 H x H1 h _ s1 y => ?_⟩
  obtain ⟨rfl, c, hc, rfl⟩ := y
  refine ⟨F1, _, .refl s1, ?_, .str _⟩
  unfold signs
  rw [List.getElem?_map, Array.getElem?_toList, hc]
  rfl
/-- a list, a tuple or a text -/
def iSeq (K : PySem.W.Frag) (tl : TE) : TI := fun σ H R => tl σ H fun x H1 => (∃ a xs, x = .ref a ∧ SqL K H1 a xs ∧ R (Itl K a) H1) ∨ (∃ a xs, x = .ref a ∧ SqT K H1 a xs ∧ R (Itt K a) H1) ∨ ∃ z, x = .str z ∧ R (Its z) H1
theorem pi_seq {X : Cx} {tg l : Expr} {tl : TE} (hl : PE X l tl) : PI X tg l (iSeq X.K tl) := by
  refine ⟨fun pins s σ H R I h => thn (hl.run pins s σ H _ I h) fun v s1 ⟨x, H1, I1, r1, q1⟩ => ?_⟩
  rcases q1 with ⟨a, xs, rfl, hq, q⟩ | ⟨a, xs, rfl, hq, q⟩ | ⟨z, rfl, q⟩
  · cases r1
    obtain ⟨its, rv, p, hz⟩ := I1.list hq
    exact wpAny_pyIter_list p.isList (pi_one (tk := s1.toks) I1 _ (turn_list a _) ⟨_, Heap.get?_push_size _ rfl, rfl, rfl⟩ q)
  · cases r1
    obtain ⟨its, rv, p, hz⟩ := I1.tuple hq
    exact wpAny_pyIter_tuple (show s1.heap.IsTuple a its.toArray from p) (pi_one (tk := s1.toks) I1 _ (turn_tuple a _) ⟨_, Heap.get?_push_size _ rfl, rfl, rfl⟩ q)
  · obtain ⟨t, rfl⟩ := r1
    cases ha : z.cps.all (· < 128)
    · exact wpAny_pyIter_wide ha (pi_one (tk := s1.toks) I1 _ (turn_str _ z t _ (.inr rfl)) ⟨_, Heap.get?_push_size _ rfl, rfl, rfl⟩ q)
    · exact wpAny_pyIter_ascii ha (pi_one (tk := s1.toks) I1 _ (turn_str _ z t _ (.inl rfl)) ⟨_, Heap.get?_push_size _ rfl, rfl, rfl⟩ q)
/-- what a loop over a value that is kept gives -/
def walkD : DV → Option (List DV)
  | .lst ds => some ds
  | .scr ds => some ds
  | .tup ds => some ds
  | .own ds => some (freezes ds)
  | .str z => some (signs z)
  | _ => none
def itS (f : Slots → R DV) : Slots → R (List DV) := fun env => (f env).bind fun d => lift (walkD d)
section
variable {X : Cx} {Γ : Str → Option Addr} {W : WX} {e a b c tg iter : Expr} {f fa fb : Slots → R DV} {pos p : Pos} {st : Stmt} {rest sa sb : List Stmt} {G G' : Slots → Out} {fc : Slots → R Bool}
theorem di_seq (h : DE X Γ W iter f) : DI X Γ W tg iter (itS f) :=
  ⟨pi_imp (pi_seq h.pe) fun σ H Q ⟨F, As, env, S, q⟩ => by
    refine ⟨F, As, env, S, ?_⟩
    unfold itS at q
    cases hf : f env with
    | stuck => rw [hf] at q; exact q
    | ex x => rw [hf] at q; exact q
    | ok d =>
      rw [hf] at q
      intro v F1 H1 A x1 fr r
      simp only [R.bind, lift] at q
      cases d with
      | lst ds =>
        obtain ⟨rf, _⟩ := r.frz_inv rfl
        cases rf with
        | lst h1 h2 => exact .inl ⟨_, _, rfl, .of (x1.fh _ _ h1), q _ F1 H1 x1 (dwk_list (g := ⟨X.K, Γ⟩) (.of h1) h2)⟩
      | scr ds =>
        obtain ⟨rf, _⟩ := r.frz_inv rfl
        cases rf with
        | scr h1 h2 => exact .inl ⟨_, _, rfl, sqL_same x1.fh h1, q _ F1 H1 x1 (dwk_list (g := ⟨X.K, Γ⟩) h1 h2)⟩
      | tup ds =>
        obtain ⟨rf, _⟩ := r.frz_inv rfl
        cases rf with
        | tup h1 h2 => exact .inr (.inl ⟨_, _, rfl, sqT_same x1.fh h1, q _ F1 H1 x1 (dwk_tup (g := ⟨X.K, Γ⟩) h1 h2)⟩)
      | str z =>
        cases r.str_inv
        exact .inr (.inr ⟨z, rfl, q _ F1 H1 x1 dwk_str⟩)
      | own ds =>
        have x2 : Ext F H (DL.ext F1 H1 A) H1 := ⟨x1.hh, x1.ff.trans (ext_same fr.nF), ext_sub x1.fh, fun a o e n => by
          by_cases ha : a ∈ A
          · exact fr.nH a ha
          · rw [ext_out ha] at e
            exact x1.new a o e n⟩
        have rf := RO.freeze r fr.nF
        cases r with
        | frz r => cases r
        | own h1 h2 =>
          unfold DL.freeze at rf
          cases rf with
          | lst h3 h4 => exact .inl ⟨_, _, rfl, .of (x2.fh _ _ h3), q _ _ H1 x2 (dwk_list (g := ⟨X.K, Γ⟩) (.of h3) h4)⟩
      | _ => exact q.elim⟩
def rgS1 (f : Slots → R DV) : Slots → R (List DV) := fun env => (f env).bind fun d => match d with
  | .int j => if -(2 ^ 62) ≤ j ∧ j < 2 ^ 62 then .ok (rngL 0 j) else .stuck
  | _ => .stuck
theorem di_range1 (hm : X.mg "range" = none) (h : DT X Γ W a fa) (hg : Gl X "range" := by rfl) (hs : starEach [a] X.env = [(false, eval a X.env)] := by rfl) : DI X Γ W tg (.Call (.Name "range" p) [a] [] pos) (rgS1 fa) :=
  ⟨pi_imp (pi_range1 hg hm (pa_cons h.pe pa_nil hs) hs) fun σ H Q ⟨F, As, env, S, q⟩ => by
    refine ⟨F, As, env, S, ?_⟩
    unfold rgS1 at q
    cases hf : fa env with
    | stuck => rw [hf] at q; exact q
    | ex x => rw [hf] at q; exact q
    | ok d =>
      rw [hf] at q
      intro v F1 H1 A x1 r
      simp only [R.bind] at q
      cases d with
      | int j =>
        cases r.int_inv
        by_cases c : -(2 ^ 62) ≤ j ∧ j < 2 ^ 62
        · simp only [if_pos c] at q
          exact ⟨j, rfl, c.1, c.2, q _ F1 H1 x1 (by simpa using dwk_range (g := ⟨X.K, Γ⟩) (F := F1) (lo := 0) (hi := j))⟩
        · simp only [if_neg c] at q
      | _ => exact q.elim⟩
def rgS2 (fa fb : Slots → R DV) : Slots → R (List DV) := fun env => (fa env).bind fun d => (fb env).bind fun e => match d, e with
  | .int i, .int j => if -(2 ^ 62) ≤ i ∧ i < 2 ^ 62 ∧ -(2 ^ 62) ≤ j ∧ j < 2 ^ 62 then .ok (rngL i j) else .stuck
  | _, _ => .stuck
theorem di_range2 (hm : X.mg "range" = none) (h : DT X Γ W a fa) (h2 : DT X Γ W b fb) (hg : Gl X "range" := by rfl) (hs : starEach [a, b] X.env = [(false, eval a X.env), (false, eval b X.env)] := by rfl) (hs2 : starEach [b] X.env = [(false, eval b X.env)] := by rfl)
    (hs3 : starEach [a, b] X.env = (false, eval a X.env) :: starEach [b] X.env := by rfl) : DI X Γ W tg (.Call (.Name "range" p) [a, b] [] pos) (rgS2 fa fb) :=
  ⟨pi_imp (pi_range2 hg hm (pa_cons h.pe (pa_cons h2.pe pa_nil hs2) hs3) hs hs2) fun σ H Q ⟨F, As, env, S, q⟩ => by
    refine ⟨F, As, env, S, ?_⟩
    unfold rgS2 at q
    cases hf : fa env with
    | stuck => rw [hf] at q; exact q
    | ex x => rw [hf] at q; exact q
    | ok d =>
      rw [hf] at q
      intro v F1 H1 A x1 r
      refine ⟨F1, As, env, S.ext x1, ?_⟩
      simp only [R.bind] at q
      cases hb : fb env with
      | stuck => rw [hb] at q; exact q.elim
      | ex x => rw [hb] at q; exact fun cls dx F' H' x2 o => q cls dx F' H' (x1.trans x2) o
      | ok d2 =>
        rw [hb] at q
        intro u F2 H2 A2 x2 r2
        cases d with
        | int i =>
          cases d2 with
          | int j =>
            cases r.int_inv
            cases r2.int_inv
            by_cases c : -(2 ^ 62) ≤ i ∧ i < 2 ^ 62 ∧ -(2 ^ 62) ≤ j ∧ j < 2 ^ 62
            · simp only [if_pos c] at q
              exact ⟨i, j, rfl, c, q _ F2 H2 (x1.trans x2) dwk_range⟩
            · simp only [if_neg c] at q
          | _ => exact q.elim
        | _ => cases d2 <;> exact q.elim⟩

/-! ### targets -/
def rdG (g : Gc) (gt : DV → Slots → Option Slots) : TG := fun v σ H Q => ∃ B F As env d, RelAt g B F As σ H env ∧ RF g F v d ∧ match gt d env with
  | some env' => ∀ As' σ', RelAt g B F As' σ' H env' → Q σ' H
  | none => False
structure DG (X : Cx) (Γ : Str → Option Addr) (tg : Expr) (gt : DV → Slots → Option Slots) : Prop where
  pg : PG X tg (rdG ⟨X.K, Γ⟩ gt)
theorem pg_imp {X : Cx} {tg : Expr} {t t' : TG} (h : PG X tg t) (i : ∀ v σ H Q, t' v σ H Q → t v σ H Q) : PG X tg t' := ⟨fun pins s σ H v u Q I r q => h.run pins s σ H v u Q I r (i _ _ _ _ q)⟩
def nameG (i : Nat) : DV → Slots → Option Slots := fun d env => some (env.set i (some d))
theorem dg_name {i : Nat} {x : Str} (hN : X.N.Nodup) (hi : X.N[i]? = some x := by rfl) (hx : Loc X.env.scope x := by first | exact .inl rfl | exact .inr rfl) (hf : X.fn x = true ∨ X.env.scope.names.lookup x = some .local := by first | exact .inl rfl | exact .inr rfl) :
    DG X Γ (.Name x pos) (nameG i) :=
  ⟨pg_imp (pg_name hN hi hx hf) fun v σ H Q ⟨B, F, As, env, d, R, r, q⟩ => by
    obtain ⟨As', R'⟩ := R.putF r
    exact q As' _ R'⟩
def rdGs (g : Gc) (gt : List DV → Slots → Option Slots) : TGs := fun vs σ H Q => ∃ B F As env ds, RelAt g B F As σ H env ∧ RFs g F vs ds ∧ match gt ds env with
  | some env' => ∀ As' σ', RelAt g B F As' σ' H env' → Q σ' H
  | none => False
structure DGs (X : Cx) (Γ : Str → Option Addr) (tgs : List Expr) (gt : List DV → Slots → Option Slots) : Prop where
  pgs : PGs X tgs (rdGs ⟨X.K, Γ⟩ gt)
theorem pgs_imp {X : Cx} {tg : List Expr} {t t' : TGs} (h : PGs X tg t) (i : ∀ v σ H Q, t' v σ H Q → t v σ H Q) : PGs X tg t' := ⟨fun pins s σ H v u Q I r q => h.run pins s σ H v u Q I r (i _ _ _ _ q)⟩
def nilG : List DV → Slots → Option Slots := fun ds env => match ds with
  | [] => some env
  | _ => none
def consG (gt : DV → Slots → Option Slots) (gs : List DV → Slots → Option Slots) : List DV → Slots → Option Slots := fun ds env => match ds with
  | d :: ds => (gt d env).bind fun e => gs ds e
  | [] => none
theorem dgs_nil : DGs X Γ [] nilG := ⟨pgs_imp pgs_nil fun vs σ H Q ⟨B, F, As, env, ds, R, r, q⟩ => by
  cases r with
  | nil => exact ⟨rfl, q As σ R⟩
  | cons _ _ => exact q.elim⟩
theorem dgs_cons {es : List Expr} {gt : DV → Slots → Option Slots} {gs : List DV → Slots → Option Slots} (h1 : DG X Γ e gt) (h2 : DGs X Γ es gs) (hs : (assignEach (e :: es) X.env).map (·.2) = assign e X.env :: (assignEach es X.env).map (·.2) := by rfl) : DGs X Γ (e :: es) (consG gt gs) :=
  ⟨pgs_imp (pgs_cons h1.pg h2.pgs hs) fun vs σ H Q ⟨B, F, As, env, ds, R, r, q⟩ => by
    cases r with
    | nil => exact q.elim
    | @cons _ d _ ds r1 r2 =>
      refine ⟨_, _, rfl, B, F, As, env, _, R, r1, ?_⟩
      unfold consG at q
      cases hg : gt d env with
      | none => simp only [hg, Option.bind_none] at q
      | some env1 =>
        simp only [hg, Option.bind_some] at q
        exact fun As1 σ1 R1 => ⟨B, F, As1, env1, ds, R1, r2, q⟩⟩
def tupG (n : Nat) (gs : List DV → Slots → Option Slots) : DV → Slots → Option Slots := fun d env => match d with
  | .tup ds => if ds.length = n then gs ds env else none
  | _ => none
theorem dg_tup {es : List Expr} {k n : Nat} {gs : List DV → Slots → Option Slots} (hc : X.calm = true) (h : DGs X Γ es gs) (hn : (assignEach es X.env).length = n := by rfl) (hst : (assignEach es X.env).findIdx? (·.1) = none := by rfl) : DG X Γ (.Tuple es k pos) (tupG n gs) :=
  ⟨pg_imp (pg_tup hc h.pgs hn hst) fun v σ H Q ⟨B, F, As, env, d, R, r, q⟩ => by
    cases r with
    | @tup p vs ds h1 h2 =>
      have q : (match (if ds.length = n then gs ds env else none) with
        | some env' => ∀ As' σ', RelAt ⟨X.K, Γ⟩ B F As' σ' H env' → Q σ' H
        | none => False) := q
      by_cases c : ds.length = n
      · rw [if_pos c] at q
        exact ⟨p, vs, rfl, sqT_same R.sa.fh h1, by rw [h2.len]; exact c, B, F, As, env, ds, R, h2, q⟩
      · rw [if_neg c] at q
        exact q.elim
    | _ => exact q.elim⟩
/-- targets = a value -/
def asgS (f : Slots → R DV) (gt : DV → Slots → Option Slots) : Slots → Out := bindE f fun d env => if isFrz d = true then (match gt d env with
  | some e => .nx e
  | none => .stuck) else .stuck
theorem ds_asg {gt : DV → Slots → Option Slots} (he : DE X Γ W e f) (hg : DG X Γ tg gt) (hs : swapsWithSole [tg] e pos.line X.env = pure false := by rfl) (hw : swappedStores [tg] e X.env = pure none := by rfl)
    (h1 : (assignEach [tg] X.env).map (·.2) = [assign tg X.env] := by rfl) : DS X Γ W (.Assign [tg] e pos) (asgS f gt) :=
  ⟨ps_imp (ps_asg he.pe hg.pg hs hw h1) fun D σ H q => rdS_E (k := fun d env => if isFrz d = true then (match gt d env with | some e => .nx e | none => .stuck) else .stuck) (T := fun v D σ H => rdG ⟨X.K, Γ⟩ gt v σ H D.nx) (fun v d B F As env A D σ H R K q => by
    by_cases c : isFrz d = true
    · simp only [if_pos c] at q
      refine ⟨B, F, As, env, d, R, (K.r.frz_inv c).1, ?_⟩
      cases hg : gt d env with
      | none => rw [hg] at q; exact q
      | some e1 => rw [hg] at q; exact fun As' σ' R' => q F As' σ' H (.refl F) R'
    · simp only [if_neg c] at q
      exact q.elim) q⟩

/-! ### for -/
def loopS (gt : DV → Slots → Option Slots) (G : Slots → Out) : List DV → Slots → Out
  | [], env => .nx env
  | d :: ds, env => match gt d env with
    | none => .stuck
    | some e => match G e with
      | .nx e => loopS gt G ds e
      | .ct e => loopS gt G ds e
      | .bk e => .nx e
      | o => o
def forS (fs : Slots → R (List DV)) (gt : DV → Slots → Option Slots) (G : Slots → Out) : Slots → Out := fun env => match fs env with
  | .ok ds => loopS gt G ds env
  | .ex x => .ex x env
  | .stuck => .stuck
theorem ds_for {fs : Slots → R (List DV)} {gt : DV → Slots → Option Slots} (hp : PassesOwn (model X.prog X.w) X.A X.env X.xe) (hc : X.calm = true) (hi : DI X Γ W tg iter fs) (hg : DG X Γ tg gt) (hb : DSs X Γ W sa G)
    (hs : ∀ x, foldedSetIterable iter X.env x = pure x := by intro _; rfl) : DS X Γ W (.For tg iter sa [] pos) (forS fs gt G) :=
  ⟨ps_imp (ps_for hp hc hi.pi hg.pg hb.pss hs) fun D σ H ⟨B, F, As, env, R, q⟩ => by
    refine ⟨F, As, env, R.sa, ?_⟩
    unfold forS at q
    cases hf : fs env with
    | stuck => rw [hf] at q; exact q
    | ex x =>
      rw [hf] at q
      exact fun cls dx F' H' xx o => q cls dx F' As σ H' xx.ff (R.ext xx) o
    | ok ds =>
      rw [hf] at q
      intro J F1 H1 x1 wk
      refine ⟨fun i m σ' H' => m = ds.length - i ∧ i ≤ ds.length ∧ ∃ F' As' env', Same F1 F' ∧ RelAt ⟨X.K, Γ⟩ B F' As' σ' H' env' ∧ PostS ⟨X.K, Γ⟩ B W F' D (loopS gt G (ds.drop i) env'),
        ⟨ds.length, rfl, Nat.zero_le _, F1, As, env, .refl F1, R.ext x1, q.mono x1.ff⟩, ?_⟩
      rintro i m σ2 H2 ⟨rfl, hi, F2, As2, env2, s2, R2, q2⟩
      by_cases hlt : i < ds.length
      · refine .inr ⟨wk.go i H2 hlt (s2.trans R2.sa.fh), fun σ' H' => ∃ F' As' env', Same F1 F' ∧ RelAt ⟨X.K, Γ⟩ B F' As' σ' H' env' ∧ PostS ⟨X.K, Γ⟩ B W F' D (loopS gt G (ds.drop (i + 1)) env'),
          fun σ' H' h => ⟨ds.length - (i + 1), by omega, rfl, hlt, h⟩, fun x H3 y => ?_⟩
        obtain ⟨F3, d, x3, e3, r3⟩ := wk.yld i F2 H2 x H3 hlt s2 R2.sa.fh y
        have q3 := q2.mono x3.ff
        have ed : ds.drop i = d :: ds.drop (i + 1) := by
          rw [List.drop_eq_getElem_cons hlt]
          have : ds[i] = d := by
            rw [List.getElem?_eq_getElem hlt] at e3
            exact Option.some.inj e3
          rw [this]
        rw [ed] at q3
        unfold loopS at q3
        refine ⟨B, F3, As2, env2, d, R2.ext x3, r3, ?_⟩
        cases hgt : gt d env2 with
        | none => rw [hgt] at q3; exact q3
        | some env3 =>
          rw [hgt] at q3
          intro As4 σ4 R4
          refine ⟨B, F3, As4, env3, R4, ?_⟩
          have s3 : Same F1 F3 := s2.trans x3.ff
          dsimp only at q3
          cases hG : G env3 with
          | nx e => rw [hG] at q3; exact fun F' As' σ' H' s R' => ⟨F', As', e, s3.trans s, R', q3.mono s⟩
          | ct e => rw [hG] at q3; exact fun F' As' σ' H' s R' => ⟨F', As', e, s3.trans s, R', q3.mono s⟩
          | bk e => rw [hG] at q3; exact q3
          | rt d e => rw [hG] at q3; exact q3
          | ex x e => rw [hG] at q3; exact q3
          | stuck => rw [hG] at q3; exact q3
      · have e : i = ds.length := by omega
        subst e
        rw [List.drop_length] at q2
        exact .inl ⟨wk.stop H2 (s2.trans R2.sa.fh), q2 F2 As2 σ2 H2 (.refl F2) R2⟩⟩
end
end DL
end
section
set_option maxHeartbeats 1000000
namespace DL
open PySem L2 PyProof.Rows

/-! ### list comprehensions -/
def base0 : Base := ⟨fun _ => none, fun _ => none, [], none⟩
theorem SA.rel {g : Gc} {F H : Hp} {As : List Addr} {σ : L2.St} {env : Slots} (S : SA g F As σ H env) : RelAt g base0 F As σ H env :=
  ⟨S, (fun _ _ e => by cases e), (fun _ _ _ _ => .inl rfl), (fun _ _ e => by cases e), (fun _ _ e => by cases e), (fun _ _ => .inl rfl), fun _ e => by cases e⟩
def wipeD (env : Slots) : List Nat → Slots
  | [] => env
  | v :: vs => (wipeD env vs).set v none
theorem SA.wipe {g : Gc} {F H : Hp} {As : List Addr} {σ : L2.St} {env : Slots} (S : SA g F As σ H env) : ∀ vs : List Nat, ∃ Bs, SA g F Bs (wipe σ vs) H (wipeD env vs) ∧ ∀ a ∈ Bs, a ∈ As
  | [] => ⟨As, S, fun _ h => h⟩
  | v :: vs => by
    obtain ⟨Bs, S', sub⟩ := SA.wipe S vs
    obtain ⟨Cs, s', cnt⟩ := RE.forget v none S'.sl
    have sub' : ∀ a ∈ Cs, a ∈ Bs := fun a ha => cpos.mpr (by have := cnt a; have := cpos.mp ha; omega)
    exact ⟨Cs, ⟨S'.fh, s', fun a => Nat.le_trans (cnt a) (S'.nd a), fun a ha => S'.fx a (sub' a ha)⟩, fun a ha => sub a (sub' a ha)⟩
theorem wipe_comm (σ : L2.St) (i : Nat) (x : Option V) : ∀ vs : List Nat, i ∉ vs → wipe (σ.set i x) vs = (wipe σ vs).set i x
  | [], _ => rfl
  | v :: vs, h => by
    unfold wipe
    rw [wipe_comm σ i x vs fun z => h (List.mem_cons_of_mem _ z)]
    exact List.set_comm _ _ fun e => h (e ▸ List.mem_cons_self ..)
theorem wipe_own (σ : L2.St) (i : Nat) (x : Option V) : ∀ vs : List Nat, i ∈ vs → wipe (σ.set i x) vs = wipe σ vs
  | v :: vs, h => by
    unfold wipe
    by_cases hi : i ∈ vs
    · rw [wipe_own σ i x vs hi]
    · have e : i = v := by
        rcases List.mem_cons.mp h with e | z
        · exact e
        · exact absurd z hi
      subst e
      rw [wipe_comm σ i x vs hi, List.set_set]
theorem wipe_twice (σ : L2.St) (vs : List Nat) : ∀ ws : List Nat, (∀ i ∈ ws, i ∈ vs) → wipe (wipe σ ws) vs = wipe σ vs
  | [], _ => rfl
  | w :: ws, h => by
    show wipe ((wipe σ ws).set w none) vs = _
    rw [wipe_own _ w none vs (h w (List.mem_cons_self ..)), wipe_twice σ vs ws fun i hi => h i (List.mem_cons_of_mem _ hi)]
/-- the targets of a block: its own names vs alone change -/
def rdGb (g : Gc) (vs : List Nat) (gt : DV → Slots → Option Slots) : TG := fun v σ H Q => ∃ F As env d, SA g F As σ H env ∧ RF g F v d ∧ match gt d env with
  | some env' => ∀ As' σ', SA g F As' σ' H env' → (∀ a ∈ As', a ∈ As) → wipe σ' vs = wipe σ vs → Q σ' H
  | none => False
structure DGb (X : Cx) (Γ : Str → Option Addr) (vs : List Nat) (tg : Expr) (gt : DV → Slots → Option Slots) : Prop where
  pg : PG X tg (rdGb ⟨X.K, Γ⟩ vs gt)
section
variable {X : Cx} {Γ : Str → Option Addr} {W : WX} {e a b c tg iter : Expr} {f fa fb : Slots → R DV} {pos p : Pos} {vs : List Nat}
theorem dgb_name {i : Nat} {x : Str} (hN : X.N.Nodup) (h0 : i ∈ vs) (hi : X.N[i]? = some x := by rfl) (hx : Loc X.env.scope x := by first | exact .inl rfl | exact .inr rfl) (hf : X.fn x = true ∨ X.env.scope.names.lookup x = some .local := by first | exact .inl rfl | exact .inr rfl) :
    DGb X Γ vs (.Name x pos) (nameG i) :=
  ⟨pg_imp (pg_name hN hi hx hf) fun v σ H Q ⟨F, As, env, d, S, r, q⟩ => by
    obtain ⟨As', s', cnt⟩ := RE.put i S.sl (.frz r)
    have sub : ∀ a ∈ As', a ∈ As := fun a ha => cpos.mpr (by have h1 := cnt a; have h2 := cpos.mp ha; rw [List.count_nil] at h1; omega)
    exact q As' _ ⟨S.fh, s', fun a => by have h1 := cnt a; have h2 := S.nd a; rw [List.count_nil] at h1; omega, fun a ha => S.fx a (sub a ha)⟩ sub (wipe_own σ i _ vs h0)⟩
def rdGbs (g : Gc) (vs : List Nat) (gt : List DV → Slots → Option Slots) : TGs := fun us σ H Q => ∃ F As env ds, SA g F As σ H env ∧ RFs g F us ds ∧ match gt ds env with
  | some env' => ∀ As' σ', SA g F As' σ' H env' → (∀ a ∈ As', a ∈ As) → wipe σ' vs = wipe σ vs → Q σ' H
  | none => False
structure DGbs (X : Cx) (Γ : Str → Option Addr) (vs : List Nat) (tgs : List Expr) (gt : List DV → Slots → Option Slots) : Prop where
  pgs : PGs X tgs (rdGbs ⟨X.K, Γ⟩ vs gt)
theorem dgbs_nil : DGbs X Γ vs [] nilG := ⟨pgs_imp pgs_nil fun us σ H Q ⟨F, As, env, ds, S, r, q⟩ => by
  cases r with
  | nil => exact ⟨rfl, q As σ S (fun _ h => h) rfl⟩
  | cons _ _ => exact q.elim⟩
theorem dgbs_cons {es : List Expr} {gt : DV → Slots → Option Slots} {gs : List DV → Slots → Option Slots} (h1 : DGb X Γ vs e gt) (h2 : DGbs X Γ vs es gs) (hs : (assignEach (e :: es) X.env).map (·.2) = assign e X.env :: (assignEach es X.env).map (·.2) := by rfl) : DGbs X Γ vs (e :: es) (consG gt gs) :=
  ⟨pgs_imp (pgs_cons h1.pg h2.pgs hs) fun us σ H Q ⟨F, As, env, ds, S, r, q⟩ => by
    cases r with
    | nil => exact q.elim
    | @cons _ d _ ds r1 r2 =>
      refine ⟨_, _, rfl, F, As, env, _, S, r1, ?_⟩
      unfold consG at q
      cases hg : gt d env with
      | none => simp only [hg, Option.bind_none] at q
      | some env1 =>
        simp only [hg, Option.bind_some] at q
        intro As1 σ1 S1 sub1 w1
        refine ⟨F, As1, env1, ds, S1, r2, ?_⟩
        cases hg2 : gs ds env1 with
        | none => rw [hg2] at q; exact q
        | some env2 => rw [hg2] at q; exact fun As2 σ2 S2 sub2 w2 => q As2 σ2 S2 (fun a ha => sub1 a (sub2 a ha)) (w2.trans w1)⟩
theorem dgb_tup {es : List Expr} {k n : Nat} {gs : List DV → Slots → Option Slots} (hc : X.calm = true) (h : DGbs X Γ vs es gs) (hn : (assignEach es X.env).length = n := by rfl) (hst : (assignEach es X.env).findIdx? (·.1) = none := by rfl) : DGb X Γ vs (.Tuple es k pos) (tupG n gs) :=
  ⟨pg_imp (pg_tup hc h.pgs hn hst) fun v σ H Q ⟨F, As, env, d, S, r, q⟩ => by
    cases r with
    | @tup p us ds h1 h2 =>
      have q : (match (if ds.length = n then gs ds env else none) with
        | some env' => ∀ As' σ', SA ⟨X.K, Γ⟩ F As' σ' H env' → (∀ a ∈ As', a ∈ As) → wipe σ' vs = wipe σ vs → Q σ' H
        | none => False) := q
      by_cases c : ds.length = n
      · rw [if_pos c] at q
        exact ⟨p, us, rfl, sqT_same S.fh h1, by rw [h2.len]; exact c, F, As, env, ds, S, h2, q⟩
      · rw [if_neg c] at q
        exact q.elim
    | _ => exact q.elim⟩
/-- the tests of a clause -/
structure DTs (X : Cx) (Γ : Str → Option Addr) (W : WX) (ifs : List Expr) (f : Slots → R Bool) : Prop where
  pts : PTs X ifs (rdT ⟨X.K, Γ⟩ W f)
theorem pts_imp {X : Cx} {es : List Expr} {t t' : TT} (h : PTs X es t) (i : ∀ σ H Q, t' σ H Q → t σ H Q) : PTs X es t' := ⟨fun pins s σ H Q I q => h.run pins s σ H Q I (i _ _ _ q)⟩
def yesT : Slots → R Bool := fun _ => .ok true
theorem dts_nil : DTs X Γ W [] yesT := ⟨pts_imp pts_nil fun σ H Q ⟨F, As, env, S, q⟩ => q F H (.refl S.fh)⟩
theorem dts_one {f : Slots → R Bool} (h : DB X Γ W c f) : DTs X Γ W [c] f := ⟨pts_one h.pt⟩

def lcLoop (gt : DV → Slots → Option Slots) (ft : Slots → R Bool) (fe : Slots → R DV) (env0 : Slots) : List DV → R (List DV)
  | [] => .ok []
  | d :: ds => match gt d env0 with
    | none => .stuck
    | some e1 => match ft e1 with
      | .ok true => match fe e1 with
        | .ok x => match lcLoop gt ft fe env0 ds with
          | .ok r => .ok (x :: r)
          | _ => .stuck
        | _ => .stuck
      | .ok false => lcLoop gt ft fe env0 ds
      | _ => .stuck
def lcV (vs : List Nat) (fs : Slots → R (List DV)) (gt : DV → Slots → Option Slots) (ft : Slots → R Bool) (fe : Slots → R DV) : Slots → R DV := fun env => (fs env).bind fun ds =>
  if ds.length ≤ big then (match lcLoop gt ft fe (wipeD env vs) ds with
    | .ok r => .ok (.own r)
    | _ => .stuck) else .stuck
theorem ROs.snoc {g : Gc} {F H : Hp} {u : V} {d : DV} {B : List Addr} (h : RO g F H u d B) : ∀ {us : List V} {ds : List DV} {A : List Addr}, ROs g F H us ds A → ∃ C, ROs g F H (us ++ [u]) (ds ++ [d]) C ∧ ∀ a, C.count a = A.count a + B.count a
  | _, _, _, .nil => ⟨B ++ [], .cons h .nil, fun a => by simp⟩
  | _, _, _, .cons (A := A1) (B := A2) h1 r => by
    obtain ⟨C, r', cnt⟩ := ROs.snoc h r
    exact ⟨A1 ++ C, .cons h1 r', fun a => by rw [List.count_append, List.count_append, cnt]; omega⟩
theorem lc_read {fs : Slots → R (List DV)} {gt : DV → Slots → Option Slots} {ft : Slots → R Bool} {fe : Slots → R DV} {g : Gc} {σ : L2.St} {H : Hp} {Q : VK} (q : rdE g W (lcV vs fs gt ft fe) σ H Q) :
    tLc (rdI g W fs) (rdGb g vs gt) (rdT g (fun _ _ _ _ => False) ft) (rdE g (fun _ _ _ _ => False) fe) vs σ H Q := by
  obtain ⟨F, As, env, S, q⟩ := q
  refine ⟨F, As, env, S, ?_⟩
  unfold lcV at q
  cases hf : fs env with
  | stuck => rw [hf] at q; exact q
  | ex x => rw [hf] at q; exact q
  | ok ds =>
    rw [hf] at q
    simp only [R.bind] at q
    by_cases hb : ds.length ≤ big
    · rw [if_pos hb] at q
      cases hr : lcLoop gt ft fe (wipeD env vs) ds with
      | stuck => rw [hr] at q; exact q.elim
      | ex x => rw [hr] at q; exact q.elim
      | ok res =>
        rw [hr] at q
        intro J F1 H1 x1 wk D hD
        have S1 := S.ext x1
        obtain ⟨Bs, SB, subB⟩ := S1.wipe vs
        have hDB : D ∉ Bs := fun h => by
          obtain ⟨o, ho⟩ := SB.sl.there D h
          rw [hD] at ho; cases ho
        refine ⟨fun i m H' => m = ds.length - i ∧ i ≤ ds.length ∧ ∃ F' us done A rest, Ext F1 H1 F' H' ∧ SA g F' Bs (wipe σ vs) H' (wipeD env vs) ∧ F' D = none ∧ H' D = some (.lst us) ∧ ROs g F' H' us done A ∧ (∀ a, A.count a ≤ 1) ∧ D ∉ A ∧
            (∀ a ∈ A, F' a = none ∧ H1 a = none) ∧ lcLoop gt ft fe (wipeD env vs) (ds.drop i) = .ok rest ∧ done ++ rest = res ∧ done.length ≤ i, ?_, ?_⟩
        · refine ⟨ds.length, rfl, Nat.zero_le _, F1, [], [], [], res, .own x1.fh hD, SB.ext (.own x1.fh hD), x1.fh.free hD, upd_same, .nil, fun _ => by simp, (fun h => nomatch h), (fun _ h => nomatch h), hr, rfl, Nat.le_refl _⟩
        · rintro i m H2 ⟨rfl, hi, F2, us, done, A, rest, x2, S2, fD, hD2, r2, n2, dA, fx2, e2, e3, le⟩
          by_cases hlt : i < ds.length
          · refine .inr ⟨wk.go i H2 hlt (x2.ff.trans x2.fh), fun H' => i + 1 ≤ ds.length ∧ ∃ F' us done A rest, Ext F1 H1 F' H' ∧ SA g F' Bs (wipe σ vs) H' (wipeD env vs) ∧ F' D = none ∧ H' D = some (.lst us) ∧ ROs g F' H' us done A ∧ (∀ a, A.count a ≤ 1) ∧ D ∉ A ∧
              (∀ a ∈ A, F' a = none ∧ H1 a = none) ∧ lcLoop gt ft fe (wipeD env vs) (ds.drop (i + 1)) = .ok rest ∧ done ++ rest = res ∧ done.length ≤ i + 1, fun H' h => ⟨ds.length - (i + 1), by omega, rfl, h⟩, fun x H3 y => ?_⟩
            obtain ⟨F3, d, x3, ed, r3⟩ := wk.yld i F2 H2 x H3 hlt x2.ff x2.fh y
            have edr : ds.drop i = d :: ds.drop (i + 1) := by
              rw [List.drop_eq_getElem_cons hlt]
              have : ds[i] = d := by
                rw [List.getElem?_eq_getElem hlt] at ed
                exact Option.some.inj ed
              rw [this]
            rw [edr] at e2
            unfold lcLoop at e2
            refine ⟨F3, Bs, wipeD env vs, d, S2.ext x3, r3, ?_⟩
            cases hg : gt d (wipeD env vs) with
            | none => rw [hg] at e2; cases e2
            | some env1 =>
              rw [hg] at e2
              intro As4 σ4 S4 sub4 w4
              refine ⟨w4.trans (wipe_twice σ vs vs fun _ h => h), F3, As4, env1, S4, ?_⟩
              dsimp only at e2
              cases ht : ft env1 with
              | stuck => rw [ht] at e2; cases e2
              | ex x => rw [ht] at e2; cases e2
              | ok b =>
                rw [ht] at e2
                intro F5 H5 x5
                have x35 := x3.trans x5
                cases b with
                | false =>
                  have x15 := x2.trans x35
                  exact ⟨hlt, F5, us, done, A, rest, x15, S2.ext x35, x35.apart hD2 fD, x35.hh _ _ hD2, r2.ext x35, n2, dA, fun a ha => ⟨x35.apart (r2.there a ha).choose_spec (fx2 a ha).1, (fx2 a ha).2⟩, e2, e3, Nat.le_succ_of_le le⟩
                | true =>
                  refine ⟨F5, As4, env1, S4.ext x5, ?_⟩
                  dsimp only at e2
                  cases he : fe env1 with
                  | stuck => rw [he] at e2; cases e2
                  | ex x => rw [he] at e2; cases e2
                  | ok x =>
                    rw [he] at e2
                    dsimp only at e2
                    cases hl : lcLoop gt ft fe (wipeD env vs) (ds.drop (i + 1)) with
                    | stuck => rw [hl] at e2; cases e2
                    | ex x => rw [hl] at e2; cases e2
                    | ok rest1 =>
                      rw [hl] at e2
                      cases e2
                      intro v F6 H6 A6 x6 f6 r6
                      have x26 := x35.trans x6
                      have fD6 := x26.apart hD2 fD
                      have hD6 := x26.hh _ _ hD2
                      have D6 : D ∉ A6 := fun h => by
                        have := f6.nH D h
                        rw [x35.hh _ _ hD2] at this; cases this
                      have r2' := r2.ext x26
                      obtain ⟨C, rC, cC⟩ := ROs.snoc (g := g) (F := F6) (H := upd H6 D (.lst (us ++ [v]))) (r6.mono (.refl _) fun a ha => upd_ne fun z => D6 (z ▸ ha)) (r2'.mono (.refl _) fun a ha => upd_ne fun z => dA (z ▸ ha))
                      have memC : ∀ a ∈ C, a ∈ A ∨ a ∈ A6 := fun a ha => by
                        have h1 := cC a
                        have h2 := cpos.mp ha
                        by_cases c : 0 < A.count a
                        · exact .inl (cpos.mpr c)
                        · exact .inr (cpos.mpr (by omega))
                      have x16 := x2.trans x26
                      have x17 : Ext F1 H1 F6 (upd H6 D (.lst (us ++ [v]))) := ⟨fun a o e => by rw [upd_ne (ne_of_none e hD)]; exact x16.hh a o e, x16.ff, fun a o e => by rw [upd_ne fun z => by rw [z, fD6] at e; cases e]; exact x16.fh a o e, x16.new⟩
                      refine ⟨us, hD6, by rw [r2.len]; exact big_lt (Nat.le_trans le (by omega)), hlt, F6, us ++ [v], done ++ [x], C, rest1, x17, ⟨x17.fh, (S2.ext x26).sl.mono (.refl _) fun a ha => upd_ne fun z => hDB (z ▸ ha), S2.nd, (S2.ext x26).fx⟩, fD6, upd_same, rC, fun a => ?_, fun h => ?_, fun a ha => ?_, rfl, by simpa using e3, by rw [List.length_append]; simpa using le⟩
                      · rw [cC]
                        have h1 := n2 a
                        have h2 := f6.nd a
                        by_cases c : a ∈ A6
                        · by_cases c2 : a ∈ A
                          · obtain ⟨o, ho⟩ := r2.there a c2
                            have := f6.nH a c
                            rw [x35.hh a o ho] at this; cases this
                          · have := List.count_eq_zero.mpr c2
                            omega
                        · have := List.count_eq_zero.mpr c
                          omega
                      · rcases memC D h with z | z
                        · exact dA z
                        · exact D6 z
                      · rcases memC a ha with z | z
                        · exact ⟨x26.apart (r2.there a z).choose_spec (fx2 a z).1, (fx2 a z).2⟩
                        · exact ⟨f6.nF a z, (x2.trans x35).hh.free (f6.nH a z)⟩
          · have e : i = ds.length := by omega
            subst e
            rw [List.drop_length] at e2
            cases e2
            rw [List.append_nil] at e3
            subst e3
            refine .inl ⟨wk.stop H2 (x2.ff.trans x2.fh), q _ F2 H2 (D :: A) (x1.trans x2) ⟨fun a => ?_, fun a ha => ?_, fun a ha => ?_⟩ (.own hD2 r2)⟩
            · rw [List.count_cons]
              have := n2 a
              by_cases h : D = a
              · subst h
                have := List.count_eq_zero.mpr dA
                simp
                omega
              · simp [h]
                omega
            · rcases List.mem_cons.mp ha with h | h
              · subst h; exact fD
              · exact (fx2 a h).1
            · rcases List.mem_cons.mp ha with h | h
              · subst h; exact x1.hh.free hD
              · exact x1.hh.free (fx2 a h).2
    · rw [if_neg hb] at q
      exact q.elim
/-- [elt for tg in iter if ..] -/
theorem de_lc {fs : Slots → R (List DV)} {gt : DV → Slots → Option Slots} {ft : Slots → R Bool} {fe : Slots → R DV} {elt : Expr} {ifs : List Expr} {scope : Scope} {own : List (Str × Nat)} (hc : X.calm = true) (hN : X.N.Nodup) (ok : BlkOk X.N X.env.scope scope own) (hi : DI X Γ W tg iter fs)
    (hg : ∀ (s : Shared) (H : Hp) (C : Addr) (cl : List (Str × Addr)) (fp : List Addr), DGb (X.blk s H scope (compEnvC scope cl C X.env) fp) Γ (own.map (·.2)) tg gt)
    (ht : ∀ (s : Shared) (H : Hp) (C : Addr) (cl : List (Str × Addr)) (fp : List Addr), DTs (X.blk s H scope (compEnvC scope cl C X.env) fp) Γ (fun _ _ _ _ => False) ifs ft)
    (he : ∀ (s : Shared) (H : Hp) (C : Addr) (cl : List (Str × Addr)) (fp : List Addr), DE (X.blk s H scope (compEnvC scope cl C X.env) fp) Γ (fun _ _ _ _ => False) elt fe)
    (hs : ∀ x, foldedSetIterable iter X.env x = pure x := by intro _; rfl) : DE X Γ W (.ListComp elt [⟨tg, iter, ifs, 0⟩] scope pos) (lcV (own.map (·.2)) fs gt ft fe) :=
  ⟨pe_imp (pe_lc (own := own) (g := rdGb ⟨X.K, Γ⟩ (own.map (·.2)) gt) hc hN hi.pi ok (fun s H C cl fp => (hg s H C cl fp).pg) (fun s H C cl fp => (ht s H C cl fp).pts) (fun s H C cl fp => (he s H C cl fp).pe) hs) fun σ H Q q => lc_read q⟩
/-- y = [..] on one line -/
theorem ds_setLc {i : Nat} {y : Str} {py spos : Pos} {fs : Slots → R (List DV)} {gt : DV → Slots → Option Slots} {ft : Slots → R Bool} {fe : Slots → R DV} {elt : Expr} {ifs : List Expr} {scope : Scope} {own : List (Str × Nat)} (hc : X.calm = true) (hN : X.N.Nodup) (ok : BlkOk X.N X.env.scope scope own) (h0 : i ≠ 0)
    (hi : DI X Γ W tg iter fs)
    (hg : ∀ (s : Shared) (H : Hp) (C : Addr) (cl : List (Str × Addr)) (fp : List Addr), DGb (X.blk s H scope (compEnvC scope cl C X.env) fp) Γ (own.map (·.2)) tg gt)
    (ht : ∀ (s : Shared) (H : Hp) (C : Addr) (cl : List (Str × Addr)) (fp : List Addr), DTs (X.blk s H scope (compEnvC scope cl C X.env) fp) Γ (fun _ _ _ _ => False) ifs ft)
    (he : ∀ (s : Shared) (H : Hp) (C : Addr) (cl : List (Str × Addr)) (fp : List Addr), DE (X.blk s H scope (compEnvC scope cl C X.env) fp) Γ (fun _ _ _ _ => False) elt fe)
    (hsw : swapsWith (.ListComp elt [⟨tg, iter, ifs, 0⟩] scope pos) (some (.Name y py)) spos.line X.env = pure true)
    (hy : X.N[i]? = some y := by rfl) (hyl : X.env.scope.names.lookup y = some .local := by rfl) (hs : ∀ x, foldedSetIterable iter X.env x = pure x := by intro _; rfl) :
    DS X Γ W (.Assign [.Name y py] (.ListComp elt [⟨tg, iter, ifs, 0⟩] scope pos) spos) (setS i (lcV (own.map (·.2)) fs gt ft fe)) := by
  have h := ps_setLc (own := own) (g := rdGb ⟨X.K, Γ⟩ (own.map (·.2)) gt) (tt := rdT ⟨X.K, Γ⟩ (fun _ _ _ _ => False) ft) (te := rdE ⟨X.K, Γ⟩ (fun _ _ _ _ => False) fe) hc hN hy hyl hsw hi.pi ok (fun s H C cl fp => (hg s H C cl fp).pg) (fun s H C cl fp => (ht s H C cl fp).pts) (fun s H C cl fp => (he s H C cl fp).pe) hs
  refine ⟨ps_imp h fun D σ H q => ?_⟩
  exact lc_read (rdS_E (k := fun d env => .nx (env.set i (some d))) (T := fun v D σ H => gName i v σ H D.nx) (fun v d B F As env A D σ H R K q => by
      obtain ⟨As', R'⟩ := R.put K (.inl h0)
      exact q F As' _ H (.refl F) R') q)
end
end DL
end
section
set_option maxHeartbeats 1000000
namespace DL
open PySem L2 PyProof.Rows

/-! ### what a def promises -/
/-- a def that changes nothing: h of the arguments -/
def spP (g : Gc) (h : List DV → R DV) : Sp := fun vs H Q E => ∃ F ds, Same F H ∧ RFs g F vs ds ∧ match h ds with
  | .ok d => ∀ v F' H' A, Ext F H F' H' → Fresh F' H A → RO g F' H' v d A → Q v H'
  | .ex x => ∀ cls dx F' H', Ext F H F' H' → XOk g F' cls dx x → E cls dx H'
  | .stuck => False
def fin : Out → R DV
  | .rt d _ => .ok d
  | .nx _ => .ok .non
  | .ex x _ => .ex x
  | _ => .stuck
/-- the body G as a function of n arguments; m further slots -/
def fnR (n m : Nat) (G : Slots → Out) : List DV → R DV := fun ds => if ds.length = n then fin (G (ds.map some ++ List.replicate m none)) else .stuck
theorem RFs.length {g : Gc} {F : Hp} : ∀ {vs : List V} {ds : List DV}, RFs g F vs ds → vs.length = ds.length
  | _, _, .nil => rfl
  | _, _, .cons _ r => congrArg Nat.succ (RFs.length r)
theorem RE.nones {g : Gc} {F H : Hp} : ∀ n : Nat, RE g F H (List.replicate n none) (List.replicate n none) []
  | 0 => .nil
  | n + 1 => .non (RE.nones n)
theorem RE.start {g : Gc} {F H : Hp} {m : Nat} : ∀ {vs : List V} {ds : List DV}, RFs g F vs ds → RE g F H (vs.map some ++ List.replicate m none) (ds.map some ++ List.replicate m none) []
  | _, _, .nil => RE.nones m
  | _, _, .cons h r => RE.som (A := []) (B := []) (.frz h) (RE.start r)
theorem RelAt.start {g : Gc} {F H : Hp} {m : Nat} {N : List Str} {vs : List V} {ds : List DV} (s : Same F H) (r : RFs g F vs ds) (hN : N.length = vs.length + m) :
    RelAt g ⟨F, H, [], none⟩ F [] (L2.start N vs) H (ds.map some ++ List.replicate m none) := by
  have e : L2.start N vs = vs.map some ++ List.replicate m none := by
    unfold L2.start
    rw [hN, Nat.add_sub_cancel_left]
  rw [e]
  exact ⟨⟨s, RE.start r, fun a => by simp, (fun _ h => nomatch h)⟩, .refl F, fun a o q n => (by rw [show F a = none from n] at q; cases q), fun a o q _ => q, fun a o q => ⟨o, q⟩, (fun _ h => nomatch h), fun v z => nomatch z⟩
/-- what a def leaves behind -/
theorem RelAt.out {g : Gc} {F0 H0 F F' H : Hp} {As : List Addr} {σ : L2.St} {env : Slots} (s : Same F F') (R : RelAt g ⟨F0, H0, [], none⟩ F' As σ H env) : Ext F0 H0 F' H :=
  ⟨fun a o e => R.fm a o e (fun z => nomatch z), R.f0, R.sa.fh, fun a o e n => (R.fr a o e n).elim id fun z => nomatch z⟩
theorem post_fin {g : Gc} {F H : Hp} {E : XK} {Q : VK} {o : Out} (h : match fin o with
    | .ok d => ∀ v F' H' A, Ext F H F' H' → Fresh F' H A → RO g F' H' v d A → Q v H'
    | .ex x => ∀ cls dx F' H', Ext F H F' H' → XOk g F' cls dx x → E cls dx H'
    | .stuck => False) : PostS g ⟨F, H, [], none⟩ (fun cls d _ H => E cls d H) F { nx := fun _ H' => Q .non H', rt := Q } o := by
  cases o with
  | nx env => exact fun F' As σ H' s R => h .non F' H' [] (R.out s) .nil (.frz .non)
  | rt d env =>
    exact fun v F' As A σ H' s R K => h v F' H' A (R.out s) ⟨fun a => by have := K.nd a; omega, K.nF, fun a ha => (K.ow a ha).elim id fun z => nomatch z⟩ K.r
  | bk env => exact h.elim
  | ct env => exact h.elim
  | ex x env => exact fun cls dx F' As σ H' s R o => h cls dx F' H' (R.out s) o
  | stuck => exact h
section
variable {P : Program} {w : World} {K : PySem.W.Frag} {mg : Str → Option Value} {base : Heap} {Γ : Str → Option Addr} {CX : CXT}
/-- a def keeps the promise, by its body -/
theorem fn_d {x qual : Str} {params : Arguments} {body : List Stmt} {scope : Scope} {dvs : List V} {kws : List (Str × V)} {f : Addr} {fd : FuncData} {N ps : List Str} {k m : Nat} {G : Slots → Out}
    (F : FunD K x qual params body scope dvs kws f fd) (S : FnScope N ps scope) (hN : N.length = ps.length + m)
    (hb : ∀ (cdv : Value) (A : Around) (outer : List Env) (s : Shared) (H : Hp) (E : XK), Room k (A.deeper (envOfC qual scope s.heap.objs.size f cdv)) →
      DSs (cxOf CX P w K mg base N qual scope f cdv A outer s H E) Γ (fun cls d _ H => E cls d H) body G) :
    FnOk P w K mg base CX (k + 1) f fd ps (spP ⟨K, Γ⟩ (fnR ps.length m G)) := by
  have hl : ∀ {vs : List V} {H : Hp} {Q : VK} {E : XK}, spP ⟨K, Γ⟩ (fnR ps.length m G) vs H Q E → vs.length = ps.length := by
    rintro vs H Q E ⟨F, ds, _, r, q⟩
    rw [r.length]
    by_cases c : ds.length = ps.length
    · exact c
    · unfold fnR at q
      rw [if_neg c] at q
      exact q.elim
  refine F.ok S (fun vs H Q E h => hl h) fun cdv A outer s H vs Q E hr h => ⟨_, (hb cdv A outer s H E hr).pss, ?_⟩
  have l := hl h
  obtain ⟨F, ds, sf, r, q⟩ := h
  unfold fnR at q
  rw [if_pos (by rw [← r.length]; exact l)] at q
  exact ⟨⟨F, H, [], none⟩, F, [], _, RelAt.start sf r (by rw [l]; exact hN), post_fin q⟩
end

/-! ### calls -/
section
variable {X : Cx} {Γ : Str → Option Addr} {W : WX} {e a b c : Expr} {es : List Expr} {f fa fb : Slots → R DV} {fs : Slots → R (List DV)} {pos p : Pos} {CX : CXT} {k : Nat} {fA : Addr} {fd : FuncData} {ps : List Str} {h : List DV → R DV} {dvs : List V} {dds : List DV} {ds : List Value} {x : Str}
def callV (h : List DV → R DV) (dds : List DV) (fs : Slots → R (List DV)) : Slots → R DV := fun env => (fs env).bind fun ds => h (freezes ds ++ dds)
/-- f(e, ..): the arguments are shared from here on -/
theorem de_call (F : FnOk X.prog X.w X.K X.mg X.base CX k fA fd ps (spP ⟨X.K, Γ⟩ h)) (hr : Room k X.A) (hm : X.mg x = some (.ref fA)) (hk : PySem.W.keepIn X.K (.ref fA) = true) (hb : Binds X.K fd ps ds) (hd : Vals dvs ds) (hdd : ∀ F, RFs ⟨X.K, Γ⟩ F dvs dds) (hx : ∀ σ, PassesAt CX X σ (WE W σ))
    (ha : DA X Γ W (e :: es) fs) (hg : Gl X x := by rfl) (hdb : (x == ("__debug__" : Str)) = false := by decide) (he : starEach (e :: es) X.env = (false, eval e X.env) :: starEach es X.env := by rfl) (hpl : (backTo pos (starEach es X.env)).any (·.1) = false := by rfl) :
    DE X Γ W (.Call (.Name x p) (e :: es) [] pos) (callV h dds fs) :=
  ⟨pe_imp (pe_callSD (E := WE W) F hr hg hm hk hb hd hx ha.pa hdb he hpl) fun σ H Q ⟨F0, As, env, S, q⟩ => by
    refine ⟨F0, As, env, S, ?_⟩
    unfold callV at q
    cases hf : fs env with
    | stuck => rw [hf] at q; exact q
    | ex x => rw [hf] at q; exact q
    | ok ds =>
      rw [hf] at q
      intro vs F1 H1 A x1 fr r
      have x2 : Ext F0 H (DL.ext F1 H1 A) H1 := ⟨x1.hh, x1.ff.trans (ext_same fr.nF), ext_sub x1.fh, fun a o e n => by
        by_cases ha : a ∈ A
        · exact fr.nH a ha
        · rw [ext_out ha] at e
          exact x1.new a o e n⟩
      refine ⟨_, _, x2.fh, (ROs.freeze r fr.nF).append (hdd _), ?_⟩
      simp only [R.bind] at q
      cases hh : h (freezes ds ++ dds) with
      | stuck => rw [hh] at q; exact q
      | ex x => rw [hh] at q; exact fun cls dx F' H' x3 o => q cls dx F' H' (x2.trans x3) o
      | ok d => rw [hh] at q; exact fun v F' H' A' x3 fr' r' => q v F' H' A' (x2.trans x3) ⟨fr'.nd, fr'.nF, fun a ha => by
          cases z : H a with
          | none => rfl
          | some o => have := x2.hh a o z; rw [fr'.nH a ha] at this; cases this⟩ r'⟩
/-- f() -/
theorem de_call0 (F : FnOk X.prog X.w X.K X.mg X.base CX k fA fd ps (spP ⟨X.K, Γ⟩ h)) (hr : Room k X.A) (hm : X.mg x = some (.ref fA)) (hk : PySem.W.keepIn X.K (.ref fA) = true) (hb : Binds X.K fd ps ds) (hd : Vals dvs ds) (hdd : ∀ F, RFs ⟨X.K, Γ⟩ F dvs dds) (hx : ∀ σ, PassesAt CX X σ (WE W σ))
    (hg : Gl X x := by rfl) (hdb : (x == ("__debug__" : Str)) = false := by decide) :
    DE X Γ W (.Call (.Name x p) [] [] pos) (callV h dds fun _ => .ok []) := by
  refine ⟨⟨fun pins s σ H Q I ⟨F0, As, env, S, q⟩ => ?_⟩⟩
  refine wpAny_Call_Name_kw (ld_glob I hg hm ?_ hdb)
  refine PySem.W.callWith_K0 I.kIn hk (run_fnSD (us := []) (vs := []) F hr hb hd (hx σ) I .nil ?_)
  refine ⟨F0, _, S.fh, hdd _, ?_⟩
  unfold callV at q
  simp only [R.bind] at q
  rw [show h (freezes [] ++ dds) = h dds from rfl] at q
  show (match h dds with
    | .ok d => ∀ v F' H' A, Ext F0 H F' H' → Fresh F' H A → RO ⟨X.K, Γ⟩ F' H' v d A → Q v H'
    | .ex x => ∀ cls dx F' H', Ext F0 H F' H' → XOk ⟨X.K, Γ⟩ F' cls dx x → WE W σ cls dx H'
    | .stuck => False)
  cases hh : h dds with
  | stuck => rw [hh] at q; exact q
  | ex x => rw [hh] at q; exact q
  | ok d => rw [hh] at q; exact q
end
end DL
end
section
set_option maxHeartbeats 1000000
namespace DL
open PySem L2 PyProof.Rows

/-! ### fields -/
theorem RFf.get {g : Gc} {F : Hp} {n : Str} {d : DV} : ∀ {vs : List (Str × V)} {ds : List (Str × DV)}, RFf g F vs ds → ds.lookup n = some d → ∃ v, vs.lookup n = some v ∧ RF g F v d
  | _, _, .nil, e => by simp at e
  | _, _, .cons (n := m) (v := v) (d := d') h r, e => by
    simp only [List.lookup] at e ⊢
    cases q : n == m with
    | true => rw [q] at e; cases e; exact ⟨v, rfl, h⟩
    | false => rw [q] at e; exact RFf.get r e
theorem RFf.none {g : Gc} {F : Hp} {n : Str} : ∀ {vs : List (Str × V)} {ds : List (Str × DV)}, RFf g F vs ds → ds.lookup n = none → vs.lookup n = none
  | _, _, .nil, e => rfl
  | _, _, .cons (n := m) (v := v) (d := d') h r, e => by
    simp only [List.lookup] at e ⊢
    cases q : n == m with
    | true => rw [q] at e; cases e
    | false => rw [q] at e; exact RFf.none r e
theorem ROf.get {g : Gc} {F H : Hp} {n : Str} {d : DV} : ∀ {vs : List (Str × V)} {ds : List (Str × DV)} {A : List Addr}, ROf g F H vs ds A → ds.lookup n = some d → ∃ v B, vs.lookup n = some v ∧ RO g F H v d B
  | _, _, _, .nil, e => by simp at e
  | _, _, _, .cons (n := m) (v := v) (d := d') (A := A) h r, e => by
    simp only [List.lookup] at e ⊢
    cases q : n == m with
    | true => rw [q] at e; cases e; exact ⟨v, A, rfl, h⟩
    | false => rw [q] at e; exact ROf.get r e
theorem ROf.none {g : Gc} {F H : Hp} {n : Str} : ∀ {vs : List (Str × V)} {ds : List (Str × DV)} {A : List Addr}, ROf g F H vs ds A → ds.lookup n = none → vs.lookup n = none
  | _, _, _, .nil, e => rfl
  | _, _, _, .cons (n := m) (v := v) (d := d') h r, e => by
    simp only [List.lookup] at e ⊢
    cases q : n == m with
    | true => rw [q] at e; cases e
    | false => rw [q] at e; exact ROf.none r e
/-- a field set -/
def putD (n : Str) (d : DV) : List (Str × DV) → List (Str × DV)
  | [] => [(n, d)]
  | (m, x) :: r => if m = n then (m, d) :: r else (m, x) :: putD n d r
theorem ROf.put {g : Gc} {F H : Hp} {n : Str} {v : V} {d : DV} {A : List Addr} (h0 : RO g F H v d A) : ∀ {vs : List (Str × V)} {ds : List (Str × DV)} {B : List Addr}, ROf g F H vs ds B →
    ∃ C, ROf g F H (putF n v vs) (putD n d ds) C ∧ ∀ a, C.count a ≤ B.count a + A.count a
  | _, _, _, .nil => ⟨_, .cons h0 .nil, fun a => by simp⟩
  | _, _, _, .cons (n := m) (v := v') (d := d') (A := A') (vs := vs) (ds := ds) (B := B) h r => by
    unfold putF putD
    by_cases q : m = n
    · rw [if_pos q, if_pos q]
      exact ⟨_, .cons h0 r, fun a => by rw [List.count_append, List.count_append]; omega⟩
    · rw [if_neg q, if_neg q]
      obtain ⟨C, h1, h2⟩ := ROf.put h0 r
      exact ⟨_, .cons h h1, fun a => by rw [List.count_append, List.count_append]; have := h2 a; omega⟩
theorem ROf.len {g : Gc} {F H : Hp} : ∀ {vs : List (Str × V)} {ds : List (Str × DV)} {A : List Addr}, ROf g F H vs ds A → vs.length = ds.length
  | _, _, _, .nil => rfl
  | _, _, _, .cons _ r => congrArg Nat.succ (ROf.len r)

/-- the classes cs hand out the field f of their instances -/
def AtK (K : PySem.W.Frag) (Γ : Str → Option Addr) (f : Str) (cs : Str → Bool) : Prop := ∀ c C, cs c = true → Γ c = some C → Cls K C ∧ NoAttr K C f
/-- .. of exceptions -/
def AxK (K : PySem.W.Frag) (Γ : Str → Option Addr) (f : Str) (cs : Str → Bool) : Prop := ∀ c C, cs c = true → Γ c = some C → XfC K C ∧ PySem.W.findIn K (.ref C) f = some none
def fldD (f : Str) (cs ce : Str → Bool) : DV → Option DV
  | .ins c fs => if cs c then fs.lookup f else none
  | .obj c fs => if cs c then fs.lookup f else none
  | .exc c fs => if ce c then fs.lookup f else none
  | _ => none
theorem fldD_ins {f : Str} {cs ce : Str → Bool} {c : Str} {fs : List (Str × DV)} {d : DV} (h : fldD f cs ce (.ins c fs) = some d) : cs c = true ∧ fs.lookup f = some d := by
  have h : (if cs c = true then fs.lookup f else none) = some d := h
  by_cases z : cs c = true
  · rw [if_pos z] at h; exact ⟨z, h⟩
  · rw [if_neg z] at h; cases h
theorem fldD_obj {f : Str} {cs ce : Str → Bool} {c : Str} {fs : List (Str × DV)} {d : DV} (h : fldD f cs ce (.obj c fs) = some d) : cs c = true ∧ fs.lookup f = some d := fldD_ins (ce := ce) h
theorem fldD_exc {f : Str} {cs ce : Str → Bool} {c : Str} {fs : List (Str × DV)} {d : DV} (h : fldD f cs ce (.exc c fs) = some d) : ce c = true ∧ fs.lookup f = some d := fldD_ins (cs := ce) (ce := ce) h
def fldV (f : Str) (cs ce : Str → Bool) (fa : Slots → R DV) : Slots → R DV := fun env => (fa env).bind fun d => lift (fldD f cs ce d)
section
variable {X : Cx} {Γ : Str → Option Addr} {W : WX} {e a b c o : Expr} {es : List Expr} {fa fb fo : Slots → R DV} {fs : Slots → R (List DV)} {pos p : Pos} {f : Str} {cs ce : Str → Bool}
theorem exc_field {pins : List (Addr × Obj)} {σ : L2.St} {H : Hp} {s : Shared} {A : Around} {E : Value → Shared → Prop} {p C d : Addr} {φ : Heap → Prop} {xs : List (Str × V)} {v : V} {bb : Bool} {Q : Value → Shared → Prop} (I : Inv X pins σ H s) (e : H p = some (.ext φ)) (k : ExcAt p C (some d) φ) (T : XfC X.K C) (hno : PySem.W.findIn X.K (.ref C) f = some none) (hd : H d = some (.xd xs)) (l : xs.lookup f = some v)
    (h : ∀ u s', Inv X pins σ H s' → L2.RelV v u → Q u s') : wpAny (model X.prog X.w) A (getAttr (.ref p) f bb) Q E s := by
  obtain ⟨h1, _, _⟩ := (show ObjOk X.prog X.w H s.heap p (.ext φ) from I.hok p _ e)
  obtain ⟨ob, vs, e1, e2, e3, e4⟩ := k _ h1
  obtain ⟨mA, hns, hr⟩ := (show ObjOk X.prog X.w H s.heap d (.xd xs) from I.hok d _ hd)
  obtain ⟨od, ho, hl⟩ := lookIn_ns hns
  obtain ⟨u, hu, ru⟩ := RelO.some_of (v := v) (o := mA f) (by rw [← l]; exact hr f)
  have J : PySem.W.InstAt s.heap p ob C (some od) := ⟨e1, e2, by unfold PySem.W.notCls; rw [e4] <;> rfl, by rw [e3]; exact ho⟩
  exact HandSPX.exc_get I.kIn J T.ga T.gg T.exC (PySem.W.findObj_own T.hdC hno rfl (by rw [hl, hu])) (handed_of ru) (h u _ (I.tok _) ru)
/-- o.f -/
theorem dt_fld (ho : DT X Γ W o fo) (hk : AtK X.K Γ f cs) (hx : AxK X.K Γ f ce) (hb : attributeBase o f X.env (eval o X.env) = eval o X.env := by rfl) : DT X Γ W (.Attribute o f pos) (fldV f cs ce fo) := by
  refine ⟨⟨fun pins s σ H Q I ⟨F, As, env, S, q⟩ => ?_⟩⟩
  refine attr_of hb (thn (ho.pe.run pins s σ H (fun x H1 => ∃ d F1 A, Ext F H F1 H1 ∧ RO ⟨X.K, Γ⟩ F1 H1 x d A ∧ ∃ d', fldD f cs ce d = some d' ∧ ∀ v F' H' A, Ext F H F' H' → RO ⟨X.K, Γ⟩ F' H' v d' A → Q v H') I ?_) fun u s1 ⟨x, H1, I1, rx, d, F1, A, x1, r, d', hd, q1⟩ => ?_)
  · refine ⟨F, As, env, S, ?_⟩
    unfold fldV at q
    cases hf : fo env with
    | stuck => rw [hf] at q; exact q
    | ex x => rw [hf] at q; exact q
    | ok d =>
      rw [hf] at q
      simp only [R.bind] at q
      cases hd : fldD f cs ce d with
      | none => rw [hd] at q; exact q.elim
      | some d' =>
        rw [hd] at q
        exact fun v F' H' A x1 r => ⟨d, F', A, x1, r, d', hd, q⟩
  · cases r with
    | frz rf =>
      cases rf with
      | @ins p C dx c vs ds h1 h2 h3 =>
        obtain ⟨z, hd⟩ := fldD_ins hd
        obtain ⟨v, l, r'⟩ := h3.get hd
        obtain ⟨k1, k2⟩ := hk c C z h2
        obtain rfl : u = Value.ref p := rx
        exact getattr_ok I1 (x1.fh _ _ h1) k1 k2 l fun u' s2 I2 ru => ⟨v, H1, I2, ru, q1 v F1 H1 [] x1 (.frz r')⟩
      | exc h1 h2 h3 =>
        obtain ⟨z, hd⟩ := fldD_exc hd
        cases hd
      | @excD p C d c φ vs ds h1 h2 h3 h4 h5 =>
        obtain ⟨z, hd⟩ := fldD_exc hd
        obtain ⟨v, l, r'⟩ := h5.get hd
        obtain ⟨k1, k2⟩ := hx c C z h3
        obtain rfl : u = Value.ref p := rx
        exact exc_field I1 (x1.fh _ _ h1) h2 k1 k2 (x1.fh _ _ h4) l fun u' s2 I2 ru => ⟨v, H1, I2, ru, q1 v F1 H1 [] x1 (.frz r')⟩
      | _ => exact nomatch hd
    | own h1 h2 => exact nomatch hd
    | @obj p C dx c vs ds A' h1 h2 h3 =>
      obtain ⟨z, hd⟩ := fldD_obj hd
      obtain ⟨v, B, l, r'⟩ := h3.get hd
      obtain ⟨k1, k2⟩ := hk c C z h2
      obtain rfl : u = Value.ref p := rx
      exact getattr_ok I1 h1 k1 k2 l fun u' s2 I2 ru => ⟨v, H1, I2, ru, q1 v F1 H1 B x1 r'⟩

/-! ### methods that change nothing -/
def methV (c m : Str) (h : List DV → R DV) (dds : List DV) (fo : Slots → R DV) (fs : Slots → R (List DV)) : Slots → R DV := fun env => (fo env).bind fun d => match freeze d with
  | .ins c' xs => if c' = c ∧ xs.lookup m = none then (fs env).bind fun ds => h (.ins c' xs :: (freezes ds ++ dds)) else .stuck
  | _ => .stuck
variable {CX : CXT} {k : Nat} {fA C : Addr} {fd : FuncData} {ps : List Str} {h : List DV → R DV} {dvs : List V} {dds : List DV} {ds : List Value} {m c' : Str} {apos : Pos}
theorem meth_run {pins : List (Addr × Obj)} {s : Shared} {σ : L2.St} {H F F2 H2 : Hp} {Q : VK} {xs : List (Str × DV)} {us : List Value} {vs : List V} {dvl : List DV} {x : V} {xv : Value} (F0 : FnOk X.prog X.w X.K X.mg X.base CX k fA fd ps (spP ⟨X.K, Γ⟩ h)) (hr : Room k X.A) (hb : Binds X.K fd ps ds) (hd : Vals dvs ds) (hdd : ∀ F, RFs ⟨X.K, Γ⟩ F dvs dds) (hx : ∀ σ, PassesAt CX X σ (WE W σ))
    (I : Inv X pins σ H2 s) (x2 : DL.Ext F H F2 H2) (rx : L2.RelV x xv) (r : Vals vs us) (r1 : RF ⟨X.K, Γ⟩ F2 x (.ins c' xs)) (r2 : RFs ⟨X.K, Γ⟩ F2 vs dvl)
    (q : match h (.ins c' xs :: (dvl ++ dds)) with
      | .ok d => ∀ v F' H' A, DL.Ext F H F' H' → Fresh F' H A → RO ⟨X.K, Γ⟩ F' H' v d A → Q v H'
      | .ex e => ∀ cls dx F' H', DL.Ext F H F' H' → XOk ⟨X.K, Γ⟩ F' cls dx e → W cls dx σ H'
      | .stuck => False) : wpAny (model X.prog X.w) X.A (call (.ref fA) (xv :: us)) (EP X pins σ Q) X.xe s := by
  refine run_fnSD (us := xv :: us) (vs := x :: vs) F0 hr hb hd (hx σ) I (.cons rx r) ⟨F2, _, x2.fh, .cons r1 (r2.append (hdd _)), ?_⟩
  cases hh : h (.ins c' xs :: (dvl ++ dds)) with
  | stuck => rw [hh] at q; exact q
  | ex e => rw [hh] at q; exact fun cls dx F' H' x3 o => q cls dx F' H' (x2.trans x3) o
  | ok d => rw [hh] at q; exact fun v F' H' A' x3 fr' r' => q v F' H' A' (x2.trans x3) ⟨fr'.nd, fr'.nF, fun a ha => by
      cases z : H a with
      | none => rfl
      | some o => have := x2.hh a o z; rw [fr'.nH a ha] at this; cases this⟩ r'
theorem frz_ext {F H F1 H1 : Hp} {A : List Addr} (x1 : DL.Ext F H F1 H1) (fr : Fresh F1 H A) : DL.Ext F H (DL.ext F1 H1 A) H1 :=
  ⟨x1.hh, x1.ff.trans (ext_same fr.nF), ext_sub x1.fh, fun a o e n => by
    by_cases ha : a ∈ A
    · exact fr.nH a ha
    · rw [ext_out ha] at e
      exact x1.new a o e n⟩
theorem fresh_none {F H F1 H1 : Hp} {A : List Addr} (x1 : DL.Ext F H F1 H1) (fr : Fresh F1 H A) {B : Hp} (y : Same F B) : True := trivial
theorem ins_of {F : Hp} {g : Gc} {x : V} {c : Str} {xs : List (Str × DV)} (r : RF g F x (.ins c xs)) : ∃ p C dx vs, x = .ref p ∧ F p = some (.ins C dx vs) ∧ g.cl c = some C ∧ RFf g F vs xs := by
  cases r with
  | ins h1 h2 h3 => exact ⟨_, _, _, _, rfl, h1, h2, h3⟩
/-- o.m(e, ..): o and the arguments are shared from here on -/
theorem de_meth {pl : Sem Bool} (ho : DE X Γ W o fo) (hC : Γ c' = some C) (hc : Cls X.K C) (hm : Meth X.K C m fA) (F : FnOk X.prog X.w X.K X.mg X.base CX k fA fd ps (spP ⟨X.K, Γ⟩ h)) (hr : Room k X.A) (hb : Binds X.K fd ps ds) (hd : Vals dvs ds) (hdd : ∀ F, RFs ⟨X.K, Γ⟩ F dvs dds) (hx : ∀ σ, PassesAt CX X σ (WE W σ))
    (ha : DA X Γ W (e :: es) fs) (hst : starEach (e :: es) X.env = (false, eval e X.env) :: starEach es X.env := by rfl) (hpl : (backTo pos (starEach es X.env)).any (·.1) = false := by rfl)
    (ht : eval (.Call (.Attribute o m apos) (e :: es) [] pos) X.env = (do
      let ov ← eval o X.env
      standAt apos.atName
      let (f, first) ← holding [ov] (getMethod ov m pl)
      callWith pos f first (backTo pos (starEach (e :: es) X.env)) (backToKw pos (keywordEach [] X.env))) := by rfl) :
    DE X Γ W (.Call (.Attribute o m apos) (e :: es) [] pos) (methV c' m h dds fo fs) := by
  refine ⟨⟨fun pins s σ H Q I ⟨F0, As, env, S, q⟩ => ?_⟩⟩
  let q1 : V → Hp → Prop := fun x H1 => ∃ d F1 xs, DL.Ext F0 H F1 H1 ∧ freeze d = .ins c' xs ∧ xs.lookup m = none ∧ RF ⟨X.K, Γ⟩ F1 x (.ins c' xs) ∧ (match (fs env).bind fun ds => h (.ins c' xs :: (freezes ds ++ dds)) with
      | .ok d => ∀ v F' H' A, DL.Ext F0 H F' H' → Fresh F' H A → RO ⟨X.K, Γ⟩ F' H' v d A → Q v H'
      | .ex e => ∀ cls dx F' H', DL.Ext F0 H F' H' → XOk ⟨X.K, Γ⟩ F' cls dx e → W cls dx σ H'
      | .stuck => False)
  refine PySem.W.methodCall_KW (pl := pl) (thn (ho.pe.run pins s σ H q1 I ?_) fun u s1 ⟨x, H1, I1, rx, d, F1, xs, x1, e1, e2, r1, q2⟩ => ?_) ht
  · refine ⟨F0, As, env, S, ?_⟩
    unfold methV at q
    cases hf : fo env with
    | stuck => rw [hf] at q; exact q
    | ex x => rw [hf] at q; exact q
    | ok d =>
      rw [hf] at q
      intro v F' H' A x1 fr r
      have r1 := RO.freeze r fr.nF
      simp only [R.bind] at q
      cases hz : freeze d with
      | ins c0 xs =>
        rw [hz] at q r1
        simp only at q
        by_cases z : c0 = c' ∧ xs.lookup m = none
        · obtain ⟨z1, z2⟩ := z
          subst z1
          refine ⟨d, _, xs, frz_ext x1 fr, hz, z2, r1, ?_⟩
          simp only [z2, and_self, if_true] at q
          exact q
        · rw [if_neg z] at q
          exact q.elim
      | _ =>
        rw [hz] at q
        exact q.elim
  · obtain ⟨p, C0, dx, vs, rfl, h1, h2, h3⟩ := ins_of r1
    obtain rfl : u = Value.ref p := rx
    have eC : C0 = C := by have := h2.symm.trans hC; cases this; rfl
    subst eC
    refine getmeth_ok I1 (x1.fh _ _ h1) hc hm (h3.none e2) ?_
    refine PySem.W.callWith_K (first := [.ref p]) (h₀ := X.base) I.ok.mod.kin hm.kp (thn (ha.pa.run pos pins s1 σ H1 (fun vs H2 => ∃ dvl F2, DL.Ext F0 H F2 H2 ∧ RF ⟨X.K, Γ⟩ F2 (.ref p) (.ins c' xs) ∧ RFs ⟨X.K, Γ⟩ F2 vs dvl ∧ (match h (.ins c' xs :: (dvl ++ dds)) with
      | .ok d => ∀ v F' H' A, DL.Ext F0 H F' H' → Fresh F' H A → RO ⟨X.K, Γ⟩ F' H' v d A → Q v H'
      | .ex e => ∀ cls dx F' H', DL.Ext F0 H F' H' → XOk ⟨X.K, Γ⟩ F' cls dx e → W cls dx σ H'
      | .stuck => False)) I1 ?_) fun us s2 ⟨vs, H2, I2, r, dvl, F2, x2, r3, r4, q3⟩ => ⟨I2.kIn, ?_⟩) hst hpl
    · refine ⟨F1, As, env, S.ext x1, ?_⟩
      cases hfs : fs env with
      | stuck => rw [hfs] at q2; exact q2
      | ex e => rw [hfs] at q2; exact fun cls dx F' H' x2 o => q2 cls dx F' H' (x1.trans x2) o
      | ok ds =>
        rw [hfs] at q2
        intro vs F2 H2 A x2 fr r
        exact ⟨freezes ds, _, x1.trans (frz_ext x2 fr), r1.mono (x2.ff.trans (ext_same fr.nF)), ROs.freeze r fr.nF, q2⟩
    · exact meth_run (x := .ref p) F hr hb hd hdd hx I2 x2 rfl r r3 r4 q3
end
end DL
end
section
set_option maxHeartbeats 1000000
namespace DL
open PySem L2 PyProof.Rows

section
variable {X : Cx} {Γ : Str → Option Addr} {W : WX} {e a b c o : Expr} {es : List Expr} {fa fb fo : Slots → R DV} {fs : Slots → R (List DV)} {pos p : Pos} {f : Str} {cs ce : Str → Bool}
variable {CX : CXT} {k : Nat} {fA C : Addr} {fd : FuncData} {ps : List Str} {h : List DV → R DV} {dvs : List V} {dds : List DV} {ds : List Value} {m c' : Str} {apos : Pos}
/-- o.m() -/
theorem de_meth0 {pl : Sem Bool} (ho : DE X Γ W o fo) (hC : Γ c' = some C) (hc : Cls X.K C) (hm : Meth X.K C m fA) (F : FnOk X.prog X.w X.K X.mg X.base CX k fA fd ps (spP ⟨X.K, Γ⟩ h)) (hr : Room k X.A) (hb : Binds X.K fd ps ds) (hd : Vals dvs ds) (hdd : ∀ F, RFs ⟨X.K, Γ⟩ F dvs dds) (hx : ∀ σ, PassesAt CX X σ (WE W σ))
    (ht : eval (.Call (.Attribute o m apos) [] [] pos) X.env = (do
      let ov ← eval o X.env
      standAt apos.atName
      let (f, first) ← holding [ov] (getMethod ov m pl)
      callWith pos f first (backTo pos (starEach [] X.env)) (backToKw pos (keywordEach [] X.env))) := by rfl) :
    DE X Γ W (.Call (.Attribute o m apos) [] [] pos) (methV c' m h dds fo fun _ => .ok []) := by
  refine ⟨⟨fun pins s σ H Q I ⟨F0, As, env, S, q⟩ => ?_⟩⟩
  let q1 : V → Hp → Prop := fun x H1 => ∃ F1 xs, DL.Ext F0 H F1 H1 ∧ xs.lookup m = none ∧ RF ⟨X.K, Γ⟩ F1 x (.ins c' xs) ∧ (match h (.ins c' xs :: ([] ++ dds)) with
      | .ok d => ∀ v F' H' A, DL.Ext F0 H F' H' → Fresh F' H A → RO ⟨X.K, Γ⟩ F' H' v d A → Q v H'
      | .ex e => ∀ cls dx F' H', DL.Ext F0 H F' H' → XOk ⟨X.K, Γ⟩ F' cls dx e → W cls dx σ H'
      | .stuck => False)
  refine PySem.W.methodCall_KW (pl := pl) (thn (ho.pe.run pins s σ H q1 I ?_) fun u s1 ⟨x, H1, I1, rx, F1, xs, x1, e2, r1, q2⟩ => ?_) ht
  · refine ⟨F0, As, env, S, ?_⟩
    unfold methV at q
    cases hf : fo env with
    | stuck => rw [hf] at q; exact q
    | ex x => rw [hf] at q; exact q
    | ok d =>
      rw [hf] at q
      intro v F' H' A x1 fr r
      have r1 := RO.freeze r fr.nF
      simp only [R.bind] at q
      cases hz : freeze d with
      | ins c0 xs =>
        rw [hz] at q r1
        simp only at q
        by_cases z : c0 = c' ∧ xs.lookup m = none
        · obtain ⟨z1, z2⟩ := z
          subst z1
          refine ⟨_, xs, frz_ext x1 fr, z2, r1, ?_⟩
          simp only [z2, and_self, if_true] at q
          exact q
        · rw [if_neg z] at q
          exact q.elim
      | _ =>
        rw [hz] at q
        exact q.elim
  · obtain ⟨p, C0, dx, vs, rfl, h1, h2, h3⟩ := ins_of r1
    obtain rfl : u = Value.ref p := rx
    have eC : C0 = C := by have := h2.symm.trans hC; cases this; rfl
    subst eC
    refine getmeth_ok I1 (x1.fh _ _ h1) hc hm (h3.none e2) ?_
    exact PySem.W.callWith_K0 (first := [.ref p]) I1.kIn hm.kp (meth_run (x := .ref p) (us := []) (vs := []) (dvl := []) F hr hb hd hdd hx I1 x1 rfl .nil r1 .nil q2)
end

/-! ### a self that is changed -/
inductive RS where
  | ok (d : DV) (fs : List (Str × DV)) | ex (x : Exn) (fs : List (Str × DV)) | stuck
structure ExtW (F H F' H' : Hp) (W : List Addr) : Prop where
  hh : ∀ a o, H a = some o → a ∉ W → H' a = some o
  ht : ∀ a o, H a = some o → ∃ o', H' a = some o'
  ff : Same F F'
  fh : Same F' H'
  new : ∀ a o, F' a = some o → F a = none → H a = none ∨ a ∈ W
structure FreshW (F H : Hp) (A W : List Addr) : Prop where
  nd : ∀ a, A.count a ≤ 1
  nF : ∀ a ∈ A, F a = none
  nH : ∀ a ∈ A, H a = none ∨ a ∈ W
/-- h: of self's fields and the arguments -/
def spS (g : Gc) (c : Str) (h : List (Str × DV) → List DV → RS) : Sp := fun vs H Q E => ∃ v0 vs' F fs ds A0, vs = v0 :: vs' ∧ Same F H ∧ RFs g F vs' ds ∧ RO g F H v0 (.obj c fs) A0 ∧ (∀ a, A0.count a ≤ 1) ∧ (∀ a ∈ A0, F a = none) ∧ match h fs ds with
  | .ok d fs' => ∀ v F' H' A A', ExtW F H F' H' A0 → RO g F' H' v0 (.obj c fs') A → RO g F' H' v d A' → FreshW F' H (A ++ A') A0 → Q v H'
  | .ex x fs' => ∀ cls dx F' H' A, ExtW F H F' H' A0 → RO g F' H' v0 (.obj c fs') A → FreshW F' H A A0 → XOk g F' cls dx x → E cls dx H'
  | .stuck => False
def slf (c : Str) (env : Slots) : Option (List (Str × DV)) := match (env[0]? : Option (Option DV)) with
  | some (some (DV.obj c' fs)) => if c' = c then some fs else none
  | _ => none
def finS (c : Str) : Out → RS
  | .rt d env => match slf c env with | some fs => .ok d fs | none => .stuck
  | .nx env => match slf c env with | some fs => .ok .non fs | none => .stuck
  | .ex x env => match slf c env with | some fs => .ex x fs | none => .stuck
  | _ => .stuck
def fnS (c : Str) (n m : Nat) (G : Slots → Out) : List (Str × DV) → List DV → RS := fun fs ds => if ds.length + 1 = n then finS c (G (some (.obj c fs) :: (ds.map some ++ List.replicate m none))) else .stuck
theorem slf_some {c : Str} {env : Slots} {fs : List (Str × DV)} (h : slf c env = some fs) : env[0]? = some (some (.obj c fs)) := by
  unfold slf at h
  split at h
  · rename_i c' fs' e
    split at h
    · rename_i z
      cases h
      rw [e, z]
    · cases h
  · cases h
section
variable {g : Gc} {F0 H0 F F' H : Hp} {As A0 : List Addr} {σ : L2.St} {env : Slots} {v0 : V} {c : Str} {fs : List (Str × DV)}
theorem RelAt.startS {m : Nat} {N : List Str} {vs : List V} {ds : List DV} (s : Same F H) (r : RFs g F vs ds) (r0 : RO g F H v0 (.obj c fs) A0) (nd : ∀ a, A0.count a ≤ 1) (nF : ∀ a ∈ A0, F a = none) (hN : N.length = (vs.length + 1) + m) :
    RelAt g ⟨F, H, A0, some v0⟩ F (A0 ++ []) (L2.start N (v0 :: vs)) H (some (.obj c fs) :: (ds.map some ++ List.replicate m none)) := by
  have e : L2.start N (v0 :: vs) = some v0 :: (vs.map some ++ List.replicate m none) := by
    unfold L2.start
    rw [hN]
    simp
  rw [e]
  refine ⟨⟨s, .som r0 (RE.start r), fun a => ?_, fun a ha => ?_⟩, .refl F, fun a o q n => ?_, fun a o q _ => q, fun a o q => ⟨o, q⟩, fun a ha => ?_, fun v z _ => ?_⟩
  · rw [List.append_nil]; exact nd a
  · rw [List.append_nil] at ha; exact nF a ha
  · rw [show F a = none from n] at q; cases q
  · rw [List.append_nil] at ha; exact .inr ha
  · cases z; rfl
theorem RelAt.outW {B : Base} (s : Same B.F0 F') (R : RelAt g B F' As σ H env) : ExtW B.F0 B.H0 F' H B.W := ⟨R.fm, R.ft, R.f0, R.sa.fh, R.fr⟩
/-- what a method leaves of self -/
theorem RelAt.self {B : Base} (R : RelAt g B F' As σ H env) (hv : B.self = some v0) (hs : slf c env = some fs) : ∃ A, RO g F' H v0 (.obj c fs) A ∧ ∀ a, A.count a ≤ As.count a := by
  have e := slf_some hs
  obtain ⟨v, A, Bx, h1, h2, h3, h4⟩ := R.sa.sl.get e
  have p := R.pin v0 hv ⟨c, fs, e⟩
  rw [p] at h1
  cases h1
  exact ⟨A, h2, fun a => by have := h4 a; omega⟩
theorem post_finS {E : XK} {Q : VK} {o : Out} (h : match finS c o with
    | .ok d fs' => ∀ v F' H' A A', ExtW F H F' H' A0 → RO g F' H' v0 (.obj c fs') A → RO g F' H' v d A' → FreshW F' H (A ++ A') A0 → Q v H'
    | .ex x fs' => ∀ cls dx F' H' A, ExtW F H F' H' A0 → RO g F' H' v0 (.obj c fs') A → FreshW F' H A A0 → XOk g F' cls dx x → E cls dx H'
    | .stuck => False) : PostS g ⟨F, H, A0, some v0⟩ (fun cls d _ H => E cls d H) F { nx := fun _ H' => Q .non H', rt := Q } o := by
  cases o with
  | nx env =>
    intro F' As σ H' s R
    unfold finS at h
    simp only at h
    cases hs : slf c env with
    | none => rw [hs] at h; exact h.elim
    | some fs' =>
      rw [hs] at h
      obtain ⟨A, r, cn⟩ := R.self rfl hs
      refine h .non F' H' A [] (R.outW s) r (.frz .non) ⟨fun a => ?_, fun a ha => ?_, fun a ha => ?_⟩
      · rw [List.append_nil]; have := cn a; have := R.sa.nd a; omega
      · rw [List.append_nil] at ha; exact R.sa.fx a (cpos.mpr (by have := cn a; have := cpos.mp ha; omega))
      · rw [List.append_nil] at ha; exact R.ow a (cpos.mpr (by have := cn a; have := cpos.mp ha; omega))
  | rt d env =>
    intro v F' As A' σ H' s R K
    unfold finS at h
    simp only at h
    cases hs : slf c env with
    | none => rw [hs] at h; exact h.elim
    | some fs' =>
      rw [hs] at h
      obtain ⟨A, r, cn⟩ := R.self rfl hs
      have sub : ∀ a ∈ A, a ∈ As := fun a ha => cpos.mpr (by have := cn a; have := cpos.mp ha; omega)
      refine h v F' H' A A' (R.outW s) r K.r ⟨fun a => ?_, fun a ha => ?_, fun a ha => ?_⟩
      · rw [List.count_append]; have := cn a; have := K.nd a; omega
      · exact (List.mem_append.mp ha).elim (fun z => R.sa.fx a (sub a z)) (K.nF a)
      · exact (List.mem_append.mp ha).elim (fun z => R.ow a (sub a z)) (K.ow a)
  | bk env => exact h.elim
  | ct env => exact h.elim
  | ex x env =>
    intro cls dx F' As σ H' s R o
    unfold finS at h
    simp only at h
    cases hs : slf c env with
    | none => rw [hs] at h; exact h.elim
    | some fs' =>
      rw [hs] at h
      obtain ⟨A, r, cn⟩ := R.self rfl hs
      exact h cls dx F' H' A (R.outW s) r ⟨fun a => by have := cn a; have := R.sa.nd a; omega, fun a ha => R.sa.fx a (cpos.mpr (by have := cn a; have := cpos.mp ha; omega)), fun a ha => R.ow a (cpos.mpr (by have := cn a; have := cpos.mp ha; omega))⟩ o
  | stuck => exact h
end
section
variable {P : Program} {w : World} {K : PySem.W.Frag} {mg : Str → Option Value} {base : Heap} {Γ : Str → Option Addr} {CX : CXT}
theorem fn_s {c : Str} {x qual : Str} {params : Arguments} {body : List Stmt} {scope : Scope} {dvs : List V} {kws : List (Str × V)} {f : Addr} {fd : FuncData} {N ps : List Str} {k m : Nat} {G : Slots → Out}
    (F : FunD K x qual params body scope dvs kws f fd) (S : FnScope N ps scope) (hN : N.length = ps.length + m)
    (hb : ∀ (cdv : Value) (A : Around) (outer : List Env) (s : Shared) (H : Hp) (E : XK), Room k (A.deeper (envOfC qual scope s.heap.objs.size f cdv)) →
      DSs (cxOf CX P w K mg base N qual scope f cdv A outer s H E) Γ (fun cls d _ H => E cls d H) body G) :
    FnOk P w K mg base CX (k + 1) f fd ps (spS ⟨K, Γ⟩ c (fnS c ps.length m G)) := by
  have hl : ∀ {vs : List V} {H : Hp} {Q : VK} {E : XK}, spS ⟨K, Γ⟩ c (fnS c ps.length m G) vs H Q E → vs.length = ps.length := by
    rintro vs H Q E ⟨v0, vs', F, fs, ds, A0, rfl, _, r, _, _, _, q⟩
    show vs'.length + 1 = ps.length
    rw [r.length]
    by_cases c : ds.length + 1 = ps.length
    · exact c
    · unfold fnS at q
      rw [if_neg c] at q
      exact q.elim
  refine F.ok S (fun vs H Q E h => hl h) fun cdv A outer s H vs Q E hr h => ⟨_, (hb cdv A outer s H E hr).pss, ?_⟩
  have l := hl h
  obtain ⟨v0, vs', F, fs, ds, A0, rfl, sf, r, r0, nd, nF, q⟩ := h
  have l : vs'.length + 1 = ps.length := l
  unfold fnS at q
  rw [if_pos (by rw [← r.length]; exact l)] at q
  exact ⟨⟨F, H, A0, some v0⟩, F, _, _, RelAt.startS sf r r0 nd nF (by rw [l]; exact hN), post_finS q⟩
end
end DL
end
section
set_option maxHeartbeats 1000000
namespace DL
open PySem L2 PyProof.Rows

/-! ### a part of what a slot holds, written -/
section
variable {g : Gc} {B : Base} {F H : Hp} {As A : List Addr} {σ : L2.St} {env : Slots} {i : Nat} {d0 : DV}
theorem RelAt.mut (R : RelAt g B F As σ H env) (nk : ∀ a, As.count a + A.count a ≤ 1) (kF : ∀ a ∈ A, F a = none) (ko : ∀ a ∈ A, B.H0 a = none ∨ a ∈ B.W) (he : env[i]? = some (some d0)) :
    ∃ v0 A0, σ[i]? = some (some v0) ∧ RO g F H v0 d0 A0 ∧ (∀ a ∈ A0, a ∉ A) ∧ (∀ a, A0.count a ≤ 1) ∧ ∀ p o' d1 A1, p ∈ A0 → RO g F (upd H p o') v0 d1 A1 → (∀ a, A1.count a ≤ A0.count a + A.count a) → (isObj d1 = true → isObj d0 = true) → ∃ As', RelAt g B F As' σ (upd H p o') (env.set i (some d1)) := by
  obtain ⟨v0, A0, C, h1, h2, h3, h4⟩ := R.sa.sl.get he
  have inAs : ∀ a ∈ A0, a ∈ As := fun a ha => cpos.mpr (by have := h4 a; have := cpos.mp ha; omega)
  refine ⟨v0, A0, h1, h2, fun a ha hb => ?_, fun a => by have := h4 a; have := R.sa.nd a; omega, fun p o' d1 A1 hp r1 hc ho => ?_⟩
  · have := nk a; have := cpos.mp (inAs a ha); have := cpos.mp hb; omega
  have pF : F p = none := R.sa.fx p (inAs p hp)
  have pC : p ∉ C := fun z => by have := R.sa.nd p; have := h4 p; have := cpos.mp hp; have := cpos.mp z; omega
  have hC : RE g F (upd H p o') σ (env.set i none) C := h3.mono (.refl F) fun a ha => upd_ne fun z => pC (z ▸ ha)
  obtain ⟨As', s', cnt⟩ := RE.back (i := i) hC h1 r1
  rw [List.set_set] at s'
  have sub : ∀ a ∈ As', a ∈ As ∨ a ∈ A := fun a ha => by
    have := cnt a; have := hc a; have := h4 a; have := cpos.mp ha
    by_cases z : 0 < As.count a
    · exact .inl (cpos.mpr z)
    · exact .inr (cpos.mpr (by omega))
  refine ⟨As', ⟨fun a o e => ?_, s', fun a => ?_, fun a ha => ?_⟩, R.f0, R.fr, fun a o e n => ?_, fun a o e => ?_, fun a ha => ?_, fun w e => ?_⟩
  · rw [upd_ne (fun z => by rw [z, pF] at e; cases e)]; exact R.sa.fh a o e
  · have := cnt a; have := hc a; have := h4 a; have := nk a; omega
  · exact (sub a ha).elim (R.sa.fx a) (kF a)
  · rw [upd_ne (fun z => by
      subst z
      rcases R.ow a (inAs a hp) with k | k
      · rw [e] at k; cases k
      · exact n k)]
    exact R.fm a o e n
  · by_cases z : a = p
    · subst z; exact ⟨o', upd_same⟩
    · rw [upd_ne z]; exact R.ft a o e
  · exact (sub a ha).elim (R.ow a) (ko a)
  · rintro ⟨c, fs, e2⟩
    refine R.pin w e ?_
    by_cases h0 : i = 0
    · subst h0
      have lt : 0 < env.length := (List.getElem?_eq_some_iff.mp he).1
      rw [List.getElem?_set_self lt] at e2
      cases e2
      have := ho rfl
      cases d0 with
      | obj c' fs' => exact ⟨c', fs', he⟩
      | _ => cases this
    · rw [List.getElem?_set_ne h0] at e2
      exact ⟨c, fs, e2⟩
end
/-- a part of a deep value: its value in the heap, the part, the whole with another part -/
structure Lens where
  at_ : Gc → Hp → V → V → Prop
  get : DV → Option DV
  put : DV → DV → DV
/-- g, cs: the classes whose fields are gone through -/
structure Lens.Ok (L : Lens) : Prop where
  ob : ∀ d0 d d', L.get d0 = some d → (isObj d' = true → isObj d = true) → isObj (L.put d0 d') = true → isObj d0 = true
  uni : ∀ {g : Gc} {H : Hp} {v0 v v' : V}, L.at_ g H v0 v → L.at_ g H v0 v' → v = v'
  mono : ∀ {g : Gc} {H H' : Hp} {v0 v : V}, Same H H' → L.at_ g H v0 v → L.at_ g H' v0 v
  sel : ∀ {g : Gc} {F H : Hp} {v0 : V} {d0 : DV} {A0 : List Addr} {d : DV}, RO g F H v0 d0 A0 → L.get d0 = some d → ∃ (v : V) (A C : List Addr), L.at_ g H v0 v ∧ RO g F H v d A ∧ (∀ a, A0.count a = A.count a + C.count a) ∧
    ∀ (H' : Hp) (d' : DV) (A' : List Addr), (∀ a ∈ C, H' a = H a) → RO g F H' v d' A' → ∃ A1 : List Addr, RO g F H' v0 (L.put d0 d') A1 ∧ ∀ a, A1.count a ≤ A'.count a + C.count a
def lId : Lens := ⟨fun _ _ v0 v => v = v0, some, fun _ d' => d'⟩
theorem lId_ok : lId.Ok := ⟨fun d0 d d' e k z => by cases e; exact k z, fun {g H v0 v v'} a b => a.trans b.symm, fun {g H H' v0 v} _ a => a, fun {g F H v0 d0 A0 d} r e => by
  cases e
  exact ⟨v0, A0, [], rfl, r, fun a => by simp, fun H' d' A' _ r' => ⟨A', r', fun a => by simp⟩⟩⟩
/-- the field f -/
def lFld (f : Str) (cs : Str → Bool) (L : Lens) : Lens := ⟨fun g H v0 v => ∃ p C dx vs c, L.at_ g H v0 (.ref p) ∧ H p = some (.ins C dx vs) ∧ vs.lookup f = some v ∧ cs c = true ∧ g.cl c = some C,
  fun d => (L.get d).bind fun e => match e with | .obj c fs => if cs c then fs.lookup f else none | _ => none,
  fun d d' => match L.get d with | some (.obj c fs) => L.put d (.obj c (putD f d' fs)) | _ => d⟩
/-- the last item -/
def lLast (L : Lens) : Lens := ⟨fun g H v0 v => ∃ p vs, L.at_ g H v0 (.ref p) ∧ H p = some (.lst vs) ∧ vs.getLast? = some v,
  fun d => (L.get d).bind fun e => match e with | .own ds => ds.getLast? | _ => none,
  fun d d' => match L.get d with | some (.own ds) => L.put d (.own (ds.dropLast ++ [d'])) | _ => d⟩
theorem ROf.sel {g : Gc} {F H : Hp} {f : Str} {d : DV} : ∀ {vs : List (Str × V)} {ds : List (Str × DV)} {A : List Addr}, ROf g F H vs ds A → ds.lookup f = some d →
    ∃ (v : V) (A1 C : List Addr), vs.lookup f = some v ∧ RO g F H v d A1 ∧ (∀ a, A.count a = A1.count a + C.count a) ∧ ∀ (H' : Hp) (d' : DV) (A' : List Addr), (∀ a ∈ C, H' a = H a) → RO g F H' v d' A' → ∃ A2 : List Addr, ROf g F H' vs (putD f d' ds) A2 ∧ ∀ a, A2.count a ≤ A'.count a + C.count a
  | _, _, _, .nil, e => by simp at e
  | _, _, _, .cons (n := m) (v := v) (d := d0) (A := A) (vs := vs) (ds := ds) (B := B) h r, e => by
    by_cases q : m = f
    · subst q
      simp only [List.lookup, beq_self_eq_true] at e ⊢
      cases e
      refine ⟨v, A, B, rfl, h, fun a => List.count_append, fun H' d' A' k r' => ⟨A' ++ B, ?_, fun a => by rw [List.count_append]; omega⟩⟩
      rw [putD, if_pos rfl]
      exact .cons r' (r.mono (.refl F) k)
    · have q2 : (f == m) = false := by simpa using fun z => q z.symm
      simp only [List.lookup, q2] at e ⊢
      obtain ⟨v1, A1, C, h1, h2, h3, h4⟩ := ROf.sel r e
      refine ⟨v1, A1, A ++ C, h1, h2, fun a => by rw [List.count_append, List.count_append, h3]; omega, fun H' d' A' k r' => ?_⟩
      obtain ⟨A2, k1, k2⟩ := h4 H' d' A' (fun a ha => k a (List.mem_append_right _ ha)) r'
      refine ⟨A ++ A2, ?_, fun a => by rw [List.count_append, List.count_append]; have := k2 a; omega⟩
      rw [putD, if_neg q]
      exact .cons (h.mono (.refl F) fun a ha => k a (List.mem_append_left _ ha)) k1
theorem lFld_ok {f : Str} {cs : Str → Bool} {L : Lens} (h : L.Ok) : (lFld f cs L).Ok := by
  refine ⟨fun d0 d d' e k hz => ?_, fun {g H v0 v v'} a b => ?_, fun {g H H' v0 v} s a => ?_, fun {g F H v0 d0 A0 d} r e => ?_⟩
  rotate_left
  · obtain ⟨p, C, dx, vs, c, a1, a2, a3, _⟩ := a
    obtain ⟨p', C', dx', vs', c', b1, b2, b3, _⟩ := b
    have := h.uni a1 b1
    cases this
    rw [a2] at b2; cases b2
    rw [a3] at b3; cases b3; rfl
  · obtain ⟨p, C, dx, vs, c, a1, a2, a3, a4⟩ := a
    exact ⟨p, C, dx, vs, c, h.mono s a1, s _ _ a2, a3, a4⟩
  rotate_left
  · unfold lFld at hz e
    simp only at hz e
    cases q : L.get d0 with
    | none => rw [q] at e; cases e
    | some e0 =>
      rw [q] at hz e
      cases e0 with
      | obj c fs => exact h.ob _ _ _ q (fun _ => rfl) hz
      | _ => cases e
  · unfold lFld at e ⊢
    simp only at e ⊢
    cases q : L.get d0 with
    | none => rw [q] at e; cases e
    | some e0 =>
      rw [q] at e
      cases e0 with
      | obj c fs =>
        simp only [Option.bind_some] at e
        by_cases z : cs c = true
        · rw [if_pos z] at e
          obtain ⟨v, A, C, s1, s2, s3, s4⟩ := h.sel r q
          cases s2 with
          | frz rf => cases rf
          | @obj p Cc dx _ vs _ Af h1 h2 h3 =>
            obtain ⟨v1, A1, C1, k1, k2, k3, k4⟩ := ROf.sel h3 e
            refine ⟨v1, A1, p :: (C1 ++ C), ⟨p, Cc, dx, vs, c, s1, h1, k1, z, h2⟩, k2, fun a => by rw [s3, List.count_cons, List.count_cons, List.count_append, k3]; omega, fun H' d' A' k r' => ?_⟩
            obtain ⟨A2, m1, m2⟩ := k4 H' d' A' (fun a ha => k a (List.mem_cons_of_mem _ (List.mem_append_left _ ha))) r'
            obtain ⟨A3, n1, n2⟩ := s4 H' _ _ (fun a ha => k a (List.mem_cons_of_mem _ (List.mem_append_right _ ha))) (.obj ((k p (List.mem_cons_self ..)).trans h1) h2 m1)
            refine ⟨A3, n1, fun a => ?_⟩
            have := n2 a; have := m2 a
            rw [List.count_cons] at *
            rw [List.count_append]
            omega
        · rw [if_neg z] at e; cases e
      | _ => cases e
theorem ROs.last {g : Gc} {F H : Hp} {d : DV} : ∀ {vs : List V} {ds : List DV} {A : List Addr}, ROs g F H vs ds A → ds.getLast? = some d →
    ∃ (v : V) (A1 C : List Addr), vs.getLast? = some v ∧ RO g F H v d A1 ∧ (∀ a, A.count a = A1.count a + C.count a) ∧ ∀ (H' : Hp) (d' : DV) (A' : List Addr), (∀ a ∈ C, H' a = H a) → RO g F H' v d' A' → ∃ A2 : List Addr, ROs g F H' vs (ds.dropLast ++ [d']) A2 ∧ ∀ a, A2.count a ≤ A'.count a + C.count a
  | _, _, _, .nil, e => by simp at e
  | _, _, _, .cons (v := v) (d := d0) (A := A) h .nil, e => by
    simp at e
    subst e
    exact ⟨v, A, [], rfl, h, fun a => by simp, fun H' d' A' k r' => ⟨A' ++ [], by simpa using ROs.cons r' .nil, fun a => by simp⟩⟩
  | _, _, _, .cons (v := v) (d := d0) (A := A) h (.cons (v := v2) (d := d2) (A := A3) (vs := vs) (ds := ds) (B := B3) q2 r2), e => by
    have r := ROs.cons q2 r2
    rw [List.getLast?_cons_cons] at e
    obtain ⟨v1, A1, C, h1, h2, h3, h4⟩ := ROs.last r e
    refine ⟨v1, A1, A ++ C, by rw [List.getLast?_cons_cons]; exact h1, h2, fun a => by have := h3 a; simp only [List.count_append] at *; omega, fun H' d' A' k r' => ?_⟩
    obtain ⟨A2, k1, k2⟩ := h4 H' d' A' (fun a ha => k a (List.mem_append_right _ ha)) r'
    refine ⟨A ++ A2, ?_, fun a => by rw [List.count_append, List.count_append]; have := k2 a; omega⟩
    exact .cons (h.mono (.refl F) fun a ha => k a (List.mem_append_left _ ha)) k1
theorem lLast_ok {L : Lens} (h : L.Ok) : (lLast L).Ok := by
  refine ⟨fun d0 d d' e k hz => ?_, fun {g H v0 v v'} a b => ?_, fun {g H H' v0 v} s a => ?_, fun {g F H v0 d0 A0 d} r e => ?_⟩
  rotate_left
  · obtain ⟨p, vs, a1, a2, a3⟩ := a
    obtain ⟨p', vs', b1, b2, b3⟩ := b
    have := h.uni a1 b1
    cases this
    rw [a2] at b2; cases b2
    rw [a3] at b3; cases b3; rfl
  · obtain ⟨p, vs, a1, a2, a3⟩ := a
    exact ⟨p, vs, h.mono s a1, s _ _ a2, a3⟩
  rotate_left
  · unfold lLast at hz e
    simp only at hz e
    cases q : L.get d0 with
    | none => rw [q] at e; cases e
    | some e0 =>
      rw [q] at hz e
      cases e0 with
      | own ds => exact h.ob d0 (.own ds) (.own (ds.dropLast ++ [d'])) q (fun z => Bool.noConfusion (show false = true from z)) hz
      | _ => cases e
  · unfold lLast at e ⊢
    simp only at e ⊢
    cases q : L.get d0 with
    | none => rw [q] at e; cases e
    | some e0 =>
      rw [q] at e
      cases e0 with
      | own ds =>
        simp only [Option.bind_some] at e
        obtain ⟨v, A, C, s1, s2, s3, s4⟩ := h.sel r q
        cases s2 with
        | frz rf => cases rf
        | @own p vs _ Af h1 h3 =>
          obtain ⟨v1, A1, C1, k1, k2, k3, k4⟩ := ROs.last h3 e
          refine ⟨v1, A1, p :: (C1 ++ C), ⟨p, vs, s1, h1, k1⟩, k2, fun a => by rw [s3, List.count_cons, List.count_cons, List.count_append, k3]; omega, fun H' d' A' k r' => ?_⟩
          obtain ⟨A2, m1, m2⟩ := k4 H' d' A' (fun a ha => k a (List.mem_cons_of_mem _ (List.mem_append_left _ ha))) r'
          obtain ⟨A3, n1, n2⟩ := s4 H' _ _ (fun a ha => k a (List.mem_cons_of_mem _ (List.mem_append_right _ ha))) (.own ((k p (List.mem_cons_self ..)).trans h1) m1)
          refine ⟨A3, n1, fun a => ?_⟩
          have := n2 a; have := m2 a
          rw [List.count_cons] at *
          rw [List.count_append]
          omega
      | _ => cases e
def mget (i : Nat) (L : Lens) (env : Slots) : Option DV := match (env[i]? : Option (Option DV)) with
  | some (some d) => L.get d
  | _ => none
def mput (i : Nat) (L : Lens) (d : DV) (env : Slots) : Slots := match (env[i]? : Option (Option DV)) with
  | some (some d0) => env.set i (some (L.put d0 d))
  | _ => env
theorem mget_some {i : Nat} {L : Lens} {env : Slots} {d : DV} (h : mget i L env = some d) : ∃ d0, env[i]? = some (some d0) ∧ L.get d0 = some d := by
  unfold mget at h
  split at h
  · rename_i d0 e
    exact ⟨d0, e, h⟩
  · cases h
section
variable {g : Gc} {B : Base} {F H : Hp} {As A : List Addr} {σ : L2.St} {env : Slots} {i : Nat} {d0 dm d : DV} {L : Lens} {v : V}
theorem RelAt.lens (R : RelAt g B F As σ H env) (hL : L.Ok) (nk : ∀ a, As.count a + A.count a ≤ 1) (kF : ∀ a ∈ A, F a = none) (ko : ∀ a ∈ A, B.H0 a = none ∨ a ∈ B.W) (he : mget i L env = some dm) :
    ∃ v0 vm Am, σ[i]? = some (some v0) ∧ L.at_ g H v0 vm ∧ RO g F H vm dm Am ∧ (∀ a, Am.count a + A.count a ≤ 1) ∧ ∀ p o' dm' Am', p ∈ Am → RO g F (upd H p o') vm dm' Am' → (∀ a, Am'.count a ≤ Am.count a + A.count a) → (isObj dm' = true → isObj dm = true) → ∃ As', RelAt g B F As' σ (upd H p o') (mput i L dm' env) := by
  obtain ⟨d0, e1, e2⟩ := mget_some he
  obtain ⟨v0, A0, s1, r0, ap, nd, put⟩ := R.mut nk kF ko e1
  obtain ⟨vm, Am, C, l1, l2, l3, l4⟩ := hL.sel r0 e2
  refine ⟨v0, vm, Am, s1, l1, l2, fun a => ?_, fun p o' dm' Am' hp r1 hc ho => ?_⟩
  · have := l3 a; have := nd a
    by_cases z : a ∈ A0
    · have := List.count_eq_zero.mpr (ap a z)
      omega
    · have h1 := List.count_eq_zero.mpr z
      have := nk a
      omega
  · have pC : p ∉ C := fun z => by have := nd p; have := l3 p; have := cpos.mp hp; have := cpos.mp z; omega
    obtain ⟨A1, k1, k2⟩ := l4 (upd H p o') dm' Am' (fun a ha => upd_ne fun z => pC (z ▸ ha)) r1
    unfold mput
    rw [e1]
    exact put p o' _ A1 (cpos.mpr (by have := l3 p; have := cpos.mp hp; omega)) k1 (fun a => by have := k2 a; have := hc a; have := l3 a; omega) (hL.ob _ _ _ e2 ho)
end
/-- o is a part of what slot i holds -/
structure DP (X : Cx) (Γ : Str → Option Addr) (o : Expr) (i : Nat) (L : Lens) : Prop where
  ok : L.Ok
  pe : PE X o (fun σ H Q => ∃ v0 v, σ[i]? = some (some v0) ∧ L.at_ ⟨X.K, Γ⟩ H v0 v ∧ Q v H)
section
variable {X : Cx} {Γ : Str → Option Addr} {W : WX} {e a b c o ie : Expr} {fe fi : Slots → R DV} {pos p apos kpos : Pos} {f : Str} {cs : Str → Bool} {i : Nat} {L : Lens}
theorem dp_var (i : Nat) {x : Str} (hN : X.N[i]? = some x := by rfl) (hv : Vis X.env.scope x := by first | exact Or.inl rfl | exact Or.inr (Or.inl rfl) | exact Or.inr (Or.inr rfl)) (hd : (x == ("__debug__" : Str)) = false := by decide)
    (hcd : (x == ("__classdict__" : Str)) = false := by decide) : DP X Γ (.Name x pos) i lId := ⟨lId_ok, pe_imp (pe_var hN hv hd hcd) fun σ H Q ⟨v0, v, h1, h2, q⟩ => by
  have h2 : v = v0 := h2
  subst h2
  exact ⟨v, h1, q⟩⟩
theorem dp_fld (h : DP X Γ o i L) (hk : AtK X.K Γ f cs) (hb : attributeBase o f X.env (eval o X.env) = eval o X.env := by rfl) : DP X Γ (.Attribute o f pos) i (lFld f cs L) :=
  ⟨lFld_ok h.ok, pe_imp (pe_fld h.pe hb) fun σ H Q ⟨v0, v, h1, ⟨p, C, dx, vs, c, l1, l2, l3, l4, l5⟩, q⟩ => by
    obtain ⟨k1, k2⟩ := hk c C l4 l5
    exact ⟨v0, .ref p, h1, l1, p, C, dx, vs, v, rfl, l2, k1, k2, l3, q⟩⟩
/-- o.append(e) -/
def appS (i : Nat) (L : Lens) (fe : Slots → R DV) : Slots → Out := fun env => match mget i L env with
  | some (.own _) => bindE fe (fun d env => match mget i L env with
    | some (.own ds) => if ds.length < big then .nx (mput i L (.own (ds ++ [d])) env) else .stuck
    | _ => .stuck) env
  | _ => .stuck
theorem ROs.length {g : Gc} {F H : Hp} : ∀ {vs : List V} {ds : List DV} {A : List Addr}, ROs g F H vs ds A → vs.length = ds.length
  | _, _, _, .nil => rfl
  | _, _, _, .cons _ r => congrArg Nat.succ (ROs.length r)
theorem nil_k {B : Base} {As : List Addr} {F : Hp} (h : ∀ a, As.count a ≤ 1) : (∀ a, As.count a + ([] : List Addr).count a ≤ 1) ∧ (∀ a ∈ ([] : List Addr), F a = none) ∧ (∀ a ∈ ([] : List Addr), B.H0 a = none ∨ a ∈ B.W) :=
  ⟨fun a => by have := h a; simpa using this, (fun _ h => nomatch h), (fun _ h => nomatch h)⟩
theorem ds_app (ho : DP X Γ o i L) (he : DE X Γ W e fe) (hbase : attributeBase o "append" X.env (eval o X.env) = eval o X.env := by rfl)
    (hfew : ((backTo kpos (starEach [e] X.env)).all (fun x => !x.1) && (backToKw kpos (keywordEach [] X.env)).all (fun x => x.1.isSome)
      && decide ([e].length + ([] : List Keyword).length + (if ([] : List Keyword).isEmpty then 0 else 1) < 30)) = true := by rfl)
    (hline : (apos.endLine == kpos.line) = true := by rfl) (hs : starEach [e] X.env = (false, eval e X.env) :: starEach [] X.env := by rfl) (hplain : (backTo kpos (starEach [] X.env)).any (·.1) = false := by rfl)
    (hsw : swapsWith (.Call (.Attribute o "append" apos) [e] [] kpos) none pos.line X.env = pure false := by rfl) :
    DS X Γ W (.Expr (.Call (.Attribute o "append" apos) [e] [] kpos) pos) (appS i L fe) := by
  have pe := pe_bm PySem.F.plainAttrs_list PySem.F.slot_list_append PySem.F.type_list_append mt_append ho.pe (pa_cons he.pe pa_nil hs) hbase hfew hline hs hplain
  refine ⟨ps_imp (ps_expr pe hsw) fun D σ H ⟨B, F, As, env, R, q⟩ => ?_⟩
  unfold appS at q
  cases hm : mget i L env with
  | none => rw [hm] at q; exact q.elim
  | some dm =>
    rw [hm] at q
    cases dm with
    | own ds =>
      have n0 := nil_k (B := B) (F := F) R.sa.nd
      obtain ⟨v0, vm, Am, s1, l1, l2, _, _⟩ := R.lens ho.ok (A := []) n0.1 n0.2.1 n0.2.2 hm
      cases l2 with
      | frz rf => cases rf
      | @own p vs _ Af h1 h2 =>
        refine ⟨v0, .ref p, s1, l1, .inl ⟨rfl, vs, .of h1⟩, F, As, env, R.sa, ?_⟩
        unfold bindE at q
        cases hf : fe env with
        | stuck => rw [hf] at q; exact q
        | ex x =>
          rw [hf] at q
          exact fun cls dx F' H' xx o => q cls dx F' As σ H' xx.ff (R.ext xx) o
        | ok d =>
          rw [hf] at q
          intro v F' H' A xx fr r
          have R' := R.ext xx
          have K := R.keep xx fr r
          simp only [hm] at q
          by_cases hz : ds.length < big
          · rw [if_pos hz] at q
            obtain ⟨v0', vm', Am', s1', l1', l2', nd', put⟩ := R'.lens ho.ok K.nd K.nF K.ow hm
            rw [s1] at s1'
            cases s1'
            have ev := ho.ok.uni (ho.ok.mono xx.hh l1) l1'
            subst ev
            cases l2' with
            | frz rf => cases rf
            | @own _ vs' _ Af' h1' h2' =>
              obtain ⟨C, rC, cC⟩ := ROs.snoc K.r h2'
              have pno : ∀ a ∈ C, a ≠ p := fun a ha z => by
                subst z
                have := cC a; have := cpos.mp ha; have := nd' a
                rw [List.count_cons_self] at this
                omega
              obtain ⟨As', R2⟩ := put p (.lst (vs' ++ [v])) (.own (ds ++ [d])) (p :: C) (List.mem_cons_self ..) (.own upd_same (rC.mono (.refl _) fun a ha => upd_ne (pno a ha))) (fun a => by rw [List.count_cons, List.count_cons, cC]; omega) (fun z => Bool.noConfusion (show false = true from z))
              exact ⟨p, vs', v, rfl, rfl, h1', by rw [sizeLine_eq, h2'.length]; unfold big at hz; omega, q F' As' σ _ xx.ff R2⟩
          · rw [if_neg hz] at q; exact q.elim
    | _ => exact q.elim
end
end DL
end
section
set_option maxHeartbeats 1000000
namespace DL
open PySem L2 PyProof.Rows

theorem Kept.ext {g : Gc} {B : Base} {F H F' H' : Hp} {As A : List Addr} {v : V} {d : DV} (K : Kept g B F As H v d A) (x : Ext F H F' H') : Kept g B F' As H' v d A :=
  ⟨K.r.ext x, K.nd, fun a ha => by obtain ⟨o, ho⟩ := K.r.there a ha; exact x.apart ho (K.nF a ha), K.ow⟩
theorem ROs.put {g : Gc} {F H : Hp} {v : V} {d : DV} {B : List Addr} (h0 : RO g F H v d B) : ∀ {vs : List V} {ds : List DV} {A : List Addr} (j : Nat), ROs g F H vs ds A → ∃ C, ROs g F H (vs.set j v) (ds.set j d) C ∧ ∀ a, C.count a ≤ A.count a + B.count a
  | _, _, _, _, .nil => ⟨[], .nil, fun a => by simp⟩
  | _, _, _, 0, .cons (A := A) (B := B2) h r => ⟨_, .cons h0 r, fun a => by rw [List.count_append, List.count_append]; omega⟩
  | _, _, _, j + 1, .cons (A := A) (B := B2) h r => by
    obtain ⟨C, h1, h2⟩ := ROs.put h0 j r
    exact ⟨A ++ C, .cons h h1, fun a => by rw [List.count_append, List.count_append]; have := h2 a; omega⟩
section
variable {X : Cx} {Γ : Str → Option Addr} {W : WX} {e a b c o ie : Expr} {es : List Expr} {fe fi : Slots → R DV} {fs : Slots → R (List DV)} {pos pos' p apos kpos : Pos} {f : Str} {cs : Str → Bool} {i : Nat} {L : Lens}
/-- o.f = e -/
def fldS (f : Str) (cs : Str → Bool) (i : Nat) (L : Lens) (fe : Slots → R DV) : Slots → Out := bindE fe fun d env => match mget i L env with
  | some (.obj c fs) => if cs c = true ∧ fs.length < 900 then .nx (mput i L (.obj c (putD f d fs)) env) else .stuck
  | _ => .stuck
theorem ds_fld (ho : DP X Γ o i L) (he : DE X Γ W e fe) (hk : AtK X.K Γ f cs) (hs : swapsWith e (some (.Attribute o f pos')) pos.line X.env = pure false := by rfl) :
    DS X Γ W (.Assign [.Attribute o f pos'] e pos) (fldS f cs i L fe) := by
  refine ⟨ps_imp (ps_fld ho.pe he.pe hs) fun D σ H q => rdS_E (T := fun v D σ H1 => ∃ v0 x, σ[i]? = some (some v0) ∧ L.at_ ⟨X.K, Γ⟩ H1 v0 x ∧ ∃ a C dx fs, x = .ref a ∧ H1 a = some (.ins C dx fs) ∧ Cls X.K C ∧ NoAttr X.K C f ∧ fs.length < 1000 ∧ D.nx σ (upd H1 a (.ins C dx (putF f v fs)))) (fun v d B F As env A D σ H R K q => ?_) q⟩
  cases hm : mget i L env with
  | none => rw [hm] at q; exact q.elim
  | some dm =>
    rw [hm] at q
    cases dm with
    | obj c fs =>
      simp only at q
      by_cases z : cs c = true ∧ fs.length < 900
      · rw [if_pos z] at q
        obtain ⟨v0, vm, Am, s1, l1, l2, nd, put⟩ := R.lens ho.ok K.nd K.nF K.ow hm
        cases l2 with
        | frz rf => cases rf
        | @obj p C dx _ vs _ Af h1 h2 h3 =>
          obtain ⟨k1, k2⟩ := hk c C z.1 h2
          obtain ⟨A2, r2, c2⟩ := ROf.put (n := f) K.r h3
          have pno : ∀ a ∈ A2, a ≠ p := fun a ha y => by
            subst y
            have := c2 a; have := cpos.mp ha; have := nd a
            rw [List.count_cons_self] at this
            omega
          obtain ⟨As', R2⟩ := put p (.ins C dx (putF f v vs)) (.obj c (putD f d fs)) (p :: A2) (List.mem_cons_self ..) (.obj upd_same h2 (r2.mono (.refl _) fun a ha => upd_ne (pno a ha))) (fun a => by rw [List.count_cons, List.count_cons]; have := c2 a; omega) (fun _ => rfl)
          refine ⟨v0, .ref p, s1, l1, p, C, dx, vs, rfl, h1, k1, k2, by rw [h3.len]; omega, q F As' σ _ (.refl F) R2⟩
      · rw [if_neg z] at q; exact q.elim
    | _ => exact q.elim
/-- o[ie] = e -/
def setIxS (i : Nat) (L : Lens) (fi fe : Slots → R DV) : Slots → Out := bindE fe fun d env => match mget i L env with
  | some (.own ds) => match fi env with
    | .ok (.int k) => match ixN ds.length k with
      | some j => .nx (mput i L (.own (ds.set j d)) env)
      | none => .stuck
    | _ => .stuck
  | _ => .stuck
theorem ds_setIx (ho : DP X Γ o i L) (hi : DT X Γ W ie fi) (he : DE X Γ W e fe) (hs : swapsWithSole [.Subscript o ie p] e pos.line X.env = pure false := by rfl) (hw : swappedStores [.Subscript o ie p] e X.env = pure none := by rfl)
    (h1 : (assignEach [.Subscript o ie p] X.env).map (·.2) = [assign (.Subscript o ie p) X.env] := by rfl) (ha : ∀ v, assign (.Subscript o ie p) X.env v = (do
      let ov ← holding [v] (eval o X.env)
      let iv ← holding [v, ov] (eval ie X.env)
      standAt p
      holding [v, ov, iv] (setItem ov iv v)
      release [v, ov, iv] []) := by intro _; rfl) : DS X Γ W (.Assign [.Subscript o ie p] e pos) (setIxS i L fi fe) := by
  refine ⟨ps_imp (ps_asg he.pe (pg_sub ho.pe hi.pe set_list ha) hs hw h1) fun D σ H q => rdS_E (T := fun v D σ H1 => gSub (fun σ H Q => ∃ v0 v, σ[i]? = some (some v0) ∧ L.at_ ⟨X.K, Γ⟩ H v0 v ∧ Q v H) (rdV ⟨X.K, Γ⟩ W fi) rSetL v σ H1 D.nx) (fun v d B F As env A D σ H R K q => ?_) q⟩
  cases hm : mget i L env with
  | none => rw [hm] at q; exact q.elim
  | some dm =>
    rw [hm] at q
    cases dm with
    | own ds =>
      simp only at q
      obtain ⟨v0, vm, Am, s1, l1, l2, _, _⟩ := R.lens ho.ok K.nd K.nF K.ow hm
      cases l2 with
      | frz rf => cases rf
      | @own p vs _ Af h1' h2 =>
        refine ⟨v0, .ref p, s1, l1, F, As, env, R.sa, ?_⟩
        cases hf : fi env with
        | stuck => rw [hf] at q; exact q
        | ex x => rw [hf] at q; exact q.elim
        | ok di =>
          rw [hf] at q
          intro w F' H' A' xx r
          cases di with
          | int k =>
            simp only at q
            cases r.int_inv
            cases hj : ixN ds.length k with
            | none => rw [hj] at q; exact q.elim
            | some j =>
              rw [hj] at q
              simp only at q
              have R' := R.ext xx
              have K' := K.ext xx
              obtain ⟨v0', vm', Am', s1', l1', l2', nd', put⟩ := R'.lens ho.ok K'.nd K'.nF K'.ow hm
              rw [s1] at s1'
              cases s1'
              have ev := ho.ok.uni (ho.ok.mono xx.hh l1) l1'
              subst ev
              cases l2' with
              | frz rf => cases rf
              | @own _ vs' _ Af' h1'' h2' =>
                obtain ⟨C, rC, cC⟩ := ROs.put K'.r j h2'
                have pno : ∀ a ∈ C, a ≠ p := fun a ha z => by
                  subst z
                  have := cC a; have := cpos.mp ha; have := nd' a
                  rw [List.count_cons_self] at this
                  omega
                obtain ⟨As', R2⟩ := put p (.lst (vs'.set j v)) (.own (ds.set j d)) (p :: C) (List.mem_cons_self ..) (.own upd_same (rC.mono (.refl _) fun a ha => upd_ne (pno a ha))) (fun a => by rw [List.count_cons, List.count_cons]; have := cC a; omega) (fun z => Bool.noConfusion (show false = true from z))
                exact ⟨p, vs', k, j, rfl, rfl, h1'', by rw [h2'.length]; exact hj, q F' As' σ _ xx.ff R2⟩
          | _ => exact q.elim
    | _ => exact q.elim

/-! ### C(e, ..) -/
variable {CX : CXT} {k : Nat} {fA C : Addr} {fd : FuncData} {ps : List Str} {h : List (Str × DV) → List DV → RS} {dvs : List V} {dds : List DV} {ds : List Value} {x c' : Str}
theorem run_makeD {pins : List (Addr × Obj)} {σ : L2.St} {H : Hp} {s : Shared} {Q : VK} {us : List Value} {vs : List V} {sp : Sp} {E : L2.St → XK} (M : Mk X.K C fA) (F : FnOk X.prog X.w X.K X.mg X.base CX k fA fd ps sp) (hr : Room (k + 1) X.A) (hb : Binds X.K fd ps ds) (hd : Vals dvs ds)
    (hx : PassesAt CX X σ (E σ)) (I : Inv X pins σ H s) (r : Vals vs us)
    (hsp : ∀ y dx, H y = none → H dx = none → dx ≠ y → sp (.ref y :: (vs ++ dvs)) (upd (upd H dx (.own y)) y (.ins C dx [])) (fun v H2 => v = .non ∧ Q (.ref y) H2) (E σ)) :
    wpAny (model X.prog X.w) X.A (call (.ref C) us) (EP X pins σ Q) X.xe s := by
  have hq := hsp (s.heap.objs.size + 1) s.heap.objs.size (I.hok.fresh (Nat.le_succ _)) (I.hok.fresh (Nat.le_refl _)) (Nat.ne_of_lt (Nat.lt_succ_self _))
  have J := Inv.made (C := C) I
  have r2 : Vals (V.ref (s.heap.objs.size + 1) :: (vs ++ dvs)) (Value.ref (s.heap.objs.size + 1) :: (us ++ ds)) := .cons rfl (r.append hd)
  have hl : (Value.ref (s.heap.objs.size + 1) :: us ++ ds).length = ps.length := ((F.len _ _ _ _ hq).symm.trans r2.length).symm
  refine wpAny_call (make_map (f := fA) I.kIn M.makes M.init (beq_iff_eq.mp M.fn) (codeAny_mono (F.run _ X.stack _ _ ⟨Value.ref (s.heap.objs.size + 1) :: us, []⟩ (Value.ref (s.heap.objs.size + 1) :: (us ++ ds)) _ _ (E σ) (hr.make C us []) (J.env0.make C us []) (hb _ (Value.ref (s.heap.objs.size + 1) :: us) J.kIn hl) r2 hq) fun r s' hz => ?_))
  cases r with
  | error e => exact hx pins _ _ e s' J hz
  | ok fl =>
    cases fl with
    | ret u =>
      obtain ⟨v, H', I3, rv, ev, q3⟩ := J.after hz
      subst ev
      exact ⟨rv, ⟨V.ref (s.heap.objs.size + 1), H', I3, rfl, q3⟩⟩
    | next => exact hz.elim
    | brk => exact hz.elim
    | cont => exact hz.elim
def mkV (c : Str) (h : List (Str × DV) → List DV → RS) (dds : List DV) (fs : Slots → R (List DV)) : Slots → R DV := fun env => (fs env).bind fun ds => match h [] (freezes ds ++ dds) with
  | .ok .non fs => .ok (.obj c fs)
  | .ex x _ => .ex x
  | _ => .stuck
/-- the promise of __init__ for a new instance -/
theorem make_sp {F0 H F1 H1 : Hp} {Q : VK} {σ : L2.St} {vs : List V} {dvl : List DV} (hC : Γ c' = some C) (x1 : Ext F0 H F1 H1) (r : RFs ⟨X.K, Γ⟩ F1 vs dvl) (q : match (match h [] dvl with
      | .ok .non fs => DL.R.ok (DV.obj c' fs)
      | .ex x _ => .ex x
      | _ => .stuck) with
    | .ok d => ∀ v F' H' A, Ext F0 H F' H' → Fresh F' H A → RO ⟨X.K, Γ⟩ F' H' v d A → Q v H'
    | .ex e => ∀ cls dx F' H', Ext F0 H F' H' → XOk ⟨X.K, Γ⟩ F' cls dx e → W cls dx σ H'
    | .stuck => False) (y dx : Addr) (hy : H1 y = none) (hdx : H1 dx = none) (ne : dx ≠ y) :
    spS ⟨X.K, Γ⟩ c' h (.ref y :: vs) (upd (upd H1 dx (.own y)) y (.ins C dx [])) (fun v H2 => v = .non ∧ Q (.ref y) H2) (WE W σ) := by
  have yF : F1 y = none := x1.fh.free hy
  have dF : F1 dx = none := x1.fh.free hdx
  have up : ∀ a o, H1 a = some o → upd (upd H1 dx (.own y)) y (.ins C dx []) a = some o := fun a o e => by
    rw [upd_ne (fun z => by rw [z, hy] at e; cases e), upd_ne (fun z => by rw [z, hdx] at e; cases e)]
    exact e
  have back : ∀ {F' H'}, ExtW F1 (upd (upd H1 dx (.own y)) y (.ins C dx [])) F' H' [y] → Ext F0 H F' H' := fun {F' H'} w => by
    refine x1.trans ⟨fun a o e => w.hh a o (up a o e) fun z => ?_, w.ff, w.fh, fun a o e n => ?_⟩
    · have z : a = y := by simpa using z
      rw [z, hy] at e; cases e
    · rcases w.new a o e n with k | k
      · cases z : H1 a with
        | none => rfl
        | some u => rw [up a u z] at k; cases k
      · have z : a = y := by simpa using k
        rw [z]; exact hy
  refine ⟨.ref y, vs, F1, [], dvl, [y], rfl, fun a o e => up a o (x1.fh a o e), r, .obj upd_same hC .nil, fun a => ?_, fun a ha => ?_, ?_⟩
  · rw [List.count_singleton]; split <;> omega
  · have z : a = y := by simpa using ha
    rw [z]; exact yF
  cases hh : h [] dvl with
  | stuck => rw [hh] at q; exact q
  | ex e fs => rw [hh] at q; exact fun cls dx F' H' A w _ _ o => q cls dx F' H' (back w) o
  | ok d fs =>
    rw [hh] at q
    cases d with
    | non =>
      intro v F' H' A A' w r1 r2 fr
      cases r2 with
      | frz rf =>
        cases rf
        refine ⟨rfl, q (.ref y) F' H' A (back w) ⟨fun a => ?_, fun a ha => fr.nF a (List.mem_append_left _ ha), fun a ha => ?_⟩ r1⟩
        · have := fr.nd a; rw [List.count_append] at this; omega
        · have b1 := x1.hh
          cases z : H a with
          | none => rfl
          | some u =>
            rcases fr.nH a (List.mem_append_left _ ha) with k | k
            · rw [up a u (b1 a u z)] at k; cases k
            · have e : a = y := by simpa using k
              have := b1 a u z
              rw [e, hy] at this; cases this
    | _ => exact q.elim
theorem de_make (M : Mk X.K C fA) (hC : Γ c' = some C) (F : FnOk X.prog X.w X.K X.mg X.base CX k fA fd ps (spS ⟨X.K, Γ⟩ c' h)) (hr : Room (k + 1) X.A) (hm : X.mg x = some (.ref C)) (hb : Binds X.K fd ps ds) (hd : Vals dvs ds) (hdd : ∀ F, RFs ⟨X.K, Γ⟩ F dvs dds) (hx : ∀ σ, PassesAt CX X σ (WE W σ))
    (ha : DA X Γ W (e :: es) fs) (hg : Gl X x := by rfl) (hdb : (x == ("__debug__" : Str)) = false := by decide) (he : starEach (e :: es) X.env = (false, eval e X.env) :: starEach es X.env := by rfl) (hpl : (backTo pos (starEach es X.env)).any (·.1) = false := by rfl) :
    DE X Γ W (.Call (.Name x p) (e :: es) [] pos) (mkV c' h dds fs) := by
  refine ⟨⟨fun pins s σ H Q I ⟨F0, As, env, S, q⟩ => ?_⟩⟩
  refine wpAny_Call_Name_kw (ld_glob I hg hm ?_ hdb)
  refine PySem.W.callWith_K (h₀ := X.base) I.ok.mod.kin M.kp (thn (ha.pa.run pos pins s σ H (fun vs H1 => ∃ F1 dvl, Ext F0 H F1 H1 ∧ RFs ⟨X.K, Γ⟩ F1 vs dvl ∧ (match (match h [] (dvl ++ dds) with
      | .ok .non fs => DL.R.ok (DV.obj c' fs)
      | .ex x _ => .ex x
      | _ => .stuck) with
    | .ok d => ∀ v F' H' A, Ext F0 H F' H' → Fresh F' H A → RO ⟨X.K, Γ⟩ F' H' v d A → Q v H'
    | .ex e => ∀ cls dx F' H', Ext F0 H F' H' → XOk ⟨X.K, Γ⟩ F' cls dx e → W cls dx σ H'
    | .stuck => False)) I ?_) fun us s1 ⟨vs, H1, I1, r, F1, dvl, x1, r1, q1⟩ => ⟨I1.kIn, ?_⟩) he hpl
  · refine ⟨F0, As, env, S, ?_⟩
    unfold mkV at q
    cases hf : fs env with
    | stuck => rw [hf] at q; exact q
    | ex x => rw [hf] at q; exact q
    | ok ds =>
      rw [hf] at q
      exact fun vs F' H' A x1 fr r => ⟨_, freezes ds, frz_ext x1 fr, ROs.freeze r fr.nF, q⟩
  · exact run_makeD (E := WE W) M F hr hb hd (hx σ) I1 r fun y dx hy hdx ne => make_sp hC x1 (r1.append (hdd _)) q1 y dx hy hdx ne
theorem de_make0 (M : Mk X.K C fA) (hC : Γ c' = some C) (F : FnOk X.prog X.w X.K X.mg X.base CX k fA fd ps (spS ⟨X.K, Γ⟩ c' h)) (hr : Room (k + 1) X.A) (hm : X.mg x = some (.ref C)) (hb : Binds X.K fd ps ds) (hd : Vals dvs ds) (hdd : ∀ F, RFs ⟨X.K, Γ⟩ F dvs dds) (hx : ∀ σ, PassesAt CX X σ (WE W σ))
    (hg : Gl X x := by rfl) (hdb : (x == ("__debug__" : Str)) = false := by decide) :
    DE X Γ W (.Call (.Name x p) [] [] pos) (mkV c' h dds fun _ => .ok []) := by
  refine ⟨⟨fun pins s σ H Q I ⟨F0, As, env, S, q⟩ => ?_⟩⟩
  refine wpAny_Call_Name_kw (ld_glob I hg hm ?_ hdb)
  refine PySem.W.callWith_K0 I.kIn M.kp (run_makeD (us := []) (vs := []) (E := WE W) M F hr hb hd (hx σ) I .nil fun y dx hy hdx ne => make_sp (dvl := dds) hC (.refl S.fh) (hdd _) q y dx hy hdx ne)
end
end DL
end
section
set_option maxHeartbeats 1000000
namespace DL
open PySem PySem.Spec L2 PyProof.Rows

/-! ### try .. except, the caught one tracked in the heap -/
/-- the caught exception: class, dict -/
def excP (a : Addr) (cls : Value) (d : Option Addr) : Heap → Prop := fun h => ∃ o vs, h.get? a = some o ∧ o.cls = cls ∧ o.dict = d ∧ o.data = .fields vs
theorem excP_at {a C : Addr} {d : Option Addr} : ExcAt a C d (excP a (.ref C) d) := fun _ h => h
/-- the suite's context, without pins of its own -/
abbrev stx (X : Cx) (a : Addr) (pn : List (Addr × Obj)) : Cx := X.suite a pn
section
variable {X : Cx} {pins : List (Addr × Obj)} {σ : L2.St} {H : Hp} {s : Shared}
theorem suite0 (I : Inv X pins σ H s) (a : Addr) : Inv (stx X a (X.pn ++ pins)) [] σ H s :=
  ⟨I.ok.suite _ _, I.os, I.bare, I.base, I.loc, I.cell, I.free, I.freeC, fun p hp => I.pin p (by simpa using hp), I.hok, I.len⟩
theorem unsuite0 {a : Addr} {pn' : List (Addr × Obj)} (I : Inv (stx X a (X.pn ++ pins)) pn' σ H s) (ok : X.Ok) : Inv X pins σ H s :=
  ⟨ok, I.os, I.bare, I.base, I.loc, I.cell, I.free, I.freeC, fun p hp => I.pin p (List.mem_append_left _ hp), I.hok, I.len⟩
/-- the exception is tracked from here on -/
theorem track_exc {B : Heap} {sI s' : Shared} {h4 : Heap} {a : Addr} {cls : Value} {d : Option Addr} (J : Inv X pins σ H sI) (nb : ∀ b o, sI.heap.get? b = some o → b ∉ frs X.stack → B.get? b = some o) (fl : HandSPX.FlyingZ B X.stack a (Zc cls d) h4)
    (up : sI.heap.UpToSlots h4) (na : H a = none) (nfr : a ∉ frs X.stack) (os : s'.os = sI.os) (ag : AllBare s'.gens) : Inv X pins σ (upd H a (.ext (excP a cls d))) { s' with heap := h4 } := by
  obtain ⟨G, g1, g2⟩ := restrict h4 fun b => decide (b ≠ a)
  have gk : ∀ b o, b ≠ a → h4.get? b = some o → G.get? b = some o := fun b o hb e => (g1 b (decide_eq_true hb)).trans e
  have ga : G.get? a = none := g2 a (decide_eq_false fun z => z rfl)
  have gs : ∀ b o, G.get? b = some o → h4.get? b = some o := fun b o e => by
    by_cases z : b = a
    · rw [z, ga] at e; cases e
    · exact (g1 b (decide_eq_true z)).symm.trans e
  have hB : B.get? a = none := fl.2.1
  have hI : sI.heap.get? a = none := by
    cases q : sI.heap.get? a with
    | none => rfl
    | some o =>
      have := nb a o q nfr
      rw [hB] at this; cases this
  have JG : Inv X pins σ H { s' with heap := G } := J.landed nb (s' := { s' with heap := G }) (fun b o e => gk b o (fun z => by rw [z, hB] at e; cases e) (fl.1 b o e)) (fun b o e hnf => by
    obtain ⟨sl, q⟩ := up b o e hnf
    exact ⟨sl, gk b _ (fun z => by rw [z, hI] at e; cases e) q⟩) os ag
  obtain ⟨oe, vs, e1, e2, e3⟩ := fl.there
  exact JG.laidN (h' := h4) (t' := s'.toks) gs ga na ⟨⟨oe, vs, e1, e2.1, e2.2, e3⟩, ⟨oe, e1⟩, fun h1 h2 ⟨o, ws, k1, k2⟩ k => ⟨o, ws, k o k1, k2⟩⟩
end
/-- what the clause wishes of an exception of the body: slot i is the name's -/
def wExt (K : PySem.W.Frag) (c : Value) (i : Nat) (ts : Addr → Value → Option Addr → TS) (Wout : WX) (D : Ends) : WX := fun cls d σ H =>
  ∃ b, PySem.W.exmOne K cls c = some b ∧ (b = true → ∀ a, H a = none → ts a cls d { nx := fun σ' H' => D.nx (σ'.set i none) H', rt := D.rt, bk := fun σ' H' => D.bk (σ'.set i none) H', ct := fun σ' H' => D.ct (σ'.set i none) H' } (σ.set i (some (.ref a))) (upd H a (.ext (excP a cls d)))) ∧
    (b = false → Wout cls d σ H)
section
variable {X : Cx} {x n : Str} {c : Value} {i : Nat} {body suite : List Stmt} {b0 : Stmt} {np pos pos' : Pos} {tb : WX → TS} {ts : Addr → Value → Option Addr → TS} {Wo : WX}
theorem ps_try_ext (hs : X.stack = X.env :: X.outer) (hf : X.env.frame = some X.env.locals) (hN : X.N.Nodup) (hi : X.N[i]? = some n) (hln : X.env.kindOf n = some .local) (hc : Names X x c) (tk : Takes X Wo)
    (hb : ∀ (W : WX) (pn : List (Addr × Obj)) (xe : Value → Shared → Prop), Takes (X.tr pn xe) W → PassesOwn (model X.prog X.w) X.A X.env xe → PSs (X.tr pn xe) body (tb W))
    (hsu : ∀ (a : Addr) (cls : Value) (d : Option Addr) (pn : List (Addr × Obj)), PSs (stx X a pn) (b0 :: suite) (ts a cls d)) :
    PS X (.Try body [.ExceptHandler (some (.Name x np)) (some n) (b0 :: suite) pos'] [] [] pos) (fun D σ H => tb (wExt X.K c i ts Wo D) D σ H) := by
  refine ⟨fun pins s σ H D I h => ?_⟩
  have okX := I.ok
  have frX : X.A.frames = some (X.env :: X.outer) := by rw [okX.frames, hs]
  refine wpAny_Try_except (wpAny_mono ((hb (wExt X.K c i ts Wo D) (X.pn ++ pins) (fun e z₁ => wpAny (model X.prog X.w) X.A (noteFrame e X.env) (fun _ z₂ => wpAny (model X.prog X.w) X.A (setFlight e none) (fun _ z₃ =>
    wpAny (model X.prog X.w) X.A (handleBy e X.env [.ExceptHandler (some (.Name x np)) (some n) (b0 :: suite) pos']) (SP X pins D) X.xe z₃) X.xe z₂) X.xe z₁) (fun u s' xx => ?_) PassesOwn.looking).run [] s σ H D (I.toTry _) h) (fun f s1 hsp => ?_) (fun e s1 he => he))
  · obtain ⟨a, B, sI, pins', σ', H', cls, d, rfl, J0, nb, up, sky, na, os, ag, b, hb1, hyes, hno⟩ := xx
    have J : Inv X pins σ' H' sI := J0.ofTry okX
    have skyX : Sky B (X.env :: X.outer) a (Zc cls d) X.env.locals s'.heap := hs ▸ sky
    show wpAny (model X.prog X.w) X.A (noteFrame (.ref a) X.env) _ _ _
    refine Sky.land Zc.steady frX hf skyX fun h3 fl3 up3 => ?_
    obtain ⟨oe3, vs3, he3, hz3, hd3⟩ := fl3.there
    have nfr : a ∉ frs (X.env :: X.outer) := fun hm => by
      obtain ⟨_, o', e', hnf⟩ := fl3.2.2.1.mem hm
      rw [he3] at e'
      cases e'
      exact hnf _ hd3
    have J3 : Inv X pins σ' (upd H' a (.ext (excP a cls d))) { s' with heap := h3 } := track_exc J nb (hs ▸ fl3) (up.trans up3) na (hs ▸ nfr) os ag
    have S3 := suite0 J3 a
    refine wpAny_handleBy_cons (codeAny_handlers_test ?_) (by intro q; cases q)
    have LT : PySem.W.Looks (model X.prog X.w) h3 (typeOf (.ref a)) cls := fun A Q E s k q => wpAny_typeOf_ref (k _ _ he3) (by rw [hz3.1]; exact q)
    have LM := PySem.W.exm_one (M := model X.prog X.w) (J3.kIn) LT hb1
    have test : ∀ {Q : Value → Shared → Prop} {E : Value → Shared → Prop}, Q c { s' with heap := h3 } → wpAny (model X.prog X.w) (X.A.mark (some (.ref a))) (eval (.Name x np) X.env) Q E { s' with heap := h3 } := fun {Q E} q => by
      obtain ⟨hg, hdb, hm | ⟨hm, hv, hnn⟩⟩ := hc
      · exact ld_glob (X := stx X a (X.pn ++ pins)) S3 hg hm q hdb
      · exact ld_blt (X := stx X a (X.pn ++ pins)) S3 hg hm hv q hnn hdb
    refine test (LM.here ?_)
    cases b with
    | true =>
      refine codeAny_handlers_suite_as (HandSPX.lands_againZ fl3 fun h4 fl4 up4 => ?_)
      have J4 : Inv X pins σ' (upd H' a (.ext (excP a cls d))) { s' with heap := h4 } := track_exc J nb (hs ▸ fl4) ((up.trans up3).trans up4) na (hs ▸ nfr) os ag
      refine store_ok (X := stx X a (X.pn ++ pins)) (v := .ref a) (suite0 J4 a) hN hi (.inl hln) rfl (fun s5 S5 => ?_) (.inr hln)
      refine wpAny_mono ((hsu a cls d (X.pn ++ pins)).run [] s5 _ _ _ S5 (hyes rfl a na)) (fun f s6 hsp => ?_) (fun _ _ z => False.elim z)
      have fin : ∀ {σ6 : L2.St} {H6 : Hp} {Q : Shared → Prop}, Inv (stx X a (X.pn ++ pins)) [] σ6 H6 s6 → (∀ s7, Inv X pins (σ6.set i none) H6 s7 → Q s7) →
          wpAny (model X.prog X.w) X.A (do bindName X.env n .none; unbindBehindTheSuite X.env n pos') (fun _ s7 => Q s7) X.xe s6 := fun {σ6 H6 Q} S6 hq => gone_ok (unsuite0 S6 okX) hN hi hln hq
      cases f with
      | ret u =>
        obtain ⟨v6, σ6, H6, S6, r6, q6⟩ := hsp
        exact fin S6 fun s7 J7 => ⟨_, _, _, J7, r6, q6⟩
      | next => obtain ⟨σ6, H6, S6, q6⟩ := hsp; exact fin S6 fun s7 J7 => ⟨_, _, J7, q6⟩
      | brk => obtain ⟨σ6, H6, S6, q6⟩ := hsp; exact fin S6 fun s7 J7 => ⟨_, _, J7, q6⟩
      | cont => obtain ⟨σ6, H6, S6, q6⟩ := hsp; exact fin S6 fun s7 J7 => ⟨_, _, J7, q6⟩
    | false =>
      show wpAny _ X.A (handleBy (.ref a) X.env []) _ _ _
      refine wpAny_handleBy_nil ?_
      obtain ⟨k1, k2, k3, oe, vs, T, oT, ts', he, hz, hd, h1, hr⟩ := id fl3
      unfold PySem.passOn
      refine wpAny_bind (wpAny_field he hd h1 ?_)
      rw [if_neg (show ¬ ((Value.ref T == Value.none) = true) from by simp)]
      have out : wpAny (model X.prog X.w) X.A (setFlight (.ref a) X.env.frame) (fun _ z4 => wpAny (model X.prog X.w) X.A (throw (.ref a) : Sem Flow) (SP X pins D) X.xe z4) X.xe { s' with heap := h3 } := by
        rw [hf]
        exact HandSPX.setFlight_upZ fl3 fun h4 hh4 up4 => wpAny_throw (tk _ _ ⟨a, B, sI, pins, σ', H', cls, d, rfl, J, nb, (up.trans up3).trans up4, .inr (.inr (by rw [hs]; exact hh4)), na, os, ag, hno rfl⟩)
      first
        | exact wpAny_bind (wpAny_pure (wpAny_bind out))
        | exact wpAny_bind out
  · cases f with
    | ret u => obtain ⟨v, σ', H', J', r, q⟩ := hsp; exact ⟨v, σ', H', J'.ofTry okX, r, q⟩
    | next => obtain ⟨σ', H', J', q⟩ := hsp; exact wpAny_execs_nil ⟨σ', H', J'.ofTry okX, q⟩
    | brk => obtain ⟨σ', H', J', q⟩ := hsp; exact ⟨σ', H', J'.ofTry okX, q⟩
    | cont => obtain ⟨σ', H', J', q⟩ := hsp; exact ⟨σ', H', J'.ofTry okX, q⟩
end
end DL
end
section
set_option maxHeartbeats 1000000
namespace DL
open PySem PySem.Spec L2 PyProof.Rows

section
variable {g : Gc} {B : Base} {F F' H : Hp} {As A : List Addr} {σ : L2.St} {env : Slots} {v : V} {d : DV} {i : Nat}
/-- a slot is emptied -/
theorem RelAt.forget (R : RelAt g B F As σ H env) (i : Nat) (x : Option V) : ∃ As', RelAt g B F As' (σ.set i x) H (env.set i none) ∧ ∀ a, As'.count a ≤ As.count a := by
  obtain ⟨As', s', cnt⟩ := R.sa.sl.forget i x
  have sub : ∀ a ∈ As', a ∈ As := fun a ha => cpos.mpr (by have := cnt a; have := cpos.mp ha; omega)
  refine ⟨As', ⟨⟨R.sa.fh, s', fun a => by have := cnt a; have := R.sa.nd a; omega, fun a ha => R.sa.fx a (sub a ha)⟩, R.f0, R.fr, R.fm, R.ft, fun a ha => R.ow a (sub a ha), fun w e => ?_⟩, cnt⟩
  rintro ⟨c, fs, e2⟩
  by_cases h0 : i = 0
  · subst h0
    cases env with
    | nil => cases e2
    | cons y l =>
      have e2 : some (none : Option DV) = some (some (DV.obj c fs)) := e2
      cases e2
  · rw [List.getElem?_set_ne h0] at e2 ⊢
    exact R.pin w e ⟨c, fs, e2⟩
theorem Kept.less {As' : List Addr} (K : Kept g B F As H v d A) (h : ∀ a, As'.count a ≤ As.count a) : Kept g B F As' H v d A := ⟨K.r, fun a => by have := h a; have := K.nd a; omega, K.nF, K.ow⟩
/-- shared objects that are new, seen in a heap that is laid over -/
theorem RelAt.lay {p : Addr} {o : HO} (R : RelAt g B F As σ H env) (hp : H p = none) : RelAt g B (upd F p o) As σ (upd H p o) env := R.ext (Ext.lay R.sa.fh hp)
theorem fields_of {d : Option Addr} {c : Str} {xfs : List (Str × DV)} {C a : Addr} {φ : Heap → Prop} {F : Hp} (hc : g.cl c = some C) (ha : F a = some (.ext φ)) (k : ExcAt a C d φ) (h : (d = none ∧ xfs = []) ∨ ∃ d' fs, d = some d' ∧ F d' = some (.xd fs) ∧ RFf g F fs xfs) : RF g F (.ref a) (.exc c xfs) := by
  rcases h with ⟨rfl, rfl⟩ | ⟨d', fs, rfl, e1, e2⟩
  · exact .exc ha k hc
  · exact .excD ha k hc e1 e2
end
/-- the ends of a suite: its name goes -/
def unS (i : Nat) : Out → Out
  | .nx e => .nx (e.set i none)
  | .rt d e => .rt d (e.set i none)
  | .bk e => .bk (e.set i none)
  | .ct e => .ct (e.set i none)
  | .ex _ _ => .stuck
  | .stuck => .stuck
/-- m: is an exception of that class caught -/
def tryS (i : Nat) (m : Str → Option Bool) (Gb Gs : Slots → Out) : Slots → Out := fun env => match Gb env with
  | .ex x e => match m x.c with
    | some true => unS i (Gs (e.set i (some (.exc x.c x.fs))))
    | some false => .ex x e
    | none => .stuck
  | o => o
section
variable {X : Cx} {Γ : Str → Option Addr} {W : WX} {x n : Str} {c : Value} {i : Nat} {body suite : List Stmt} {b0 : Stmt} {np pos pos' : Pos} {Gb Gs : Slots → Out} {m : Str → Option Bool}
theorem post_unS {g : Gc} {B : Base} {F : Hp} {D : Ends} {o : Out} (h : PostS g B W F D (unS i o)) : PostS g B (fun _ _ _ _ => False) F { nx := fun σ' H' => D.nx (σ'.set i none) H', rt := D.rt, bk := fun σ' H' => D.bk (σ'.set i none) H', ct := fun σ' H' => D.ct (σ'.set i none) H' } o := by
  cases o with
  | nx e => exact fun F' As σ H s R => let ⟨As', R', _⟩ := R.forget i none; h F' As' _ H s R'
  | bk e => exact fun F' As σ H s R => let ⟨As', R', _⟩ := R.forget i none; h F' As' _ H s R'
  | ct e => exact fun F' As σ H s R => let ⟨As', R', _⟩ := R.forget i none; h F' As' _ H s R'
  | rt d e => exact fun v F' As A σ H s R K => let ⟨As', R', l⟩ := R.forget i none; h v F' As' A _ H s R' (K.less l)
  | ex x e => exact h.elim
  | stuck => exact h
theorem ds_tryAs (hs : X.stack = X.env :: X.outer) (hf : X.env.frame = some X.env.locals) (hN : X.N.Nodup) (hi : X.N[i]? = some n) (hln : X.env.kindOf n = some .local) (hc : Names X x c) (tk : Takes X W)
    (hm : ∀ c' C b, Γ c' = some C → m c' = some b → PySem.W.exmOne X.K (.ref C) c = some b)
    (hb : ∀ (W' : WX) (pn : List (Addr × Obj)) (xe : Value → Shared → Prop), Takes (X.tr pn xe) W' → PassesOwn (model X.prog X.w) X.A X.env xe → DSs (X.tr pn xe) Γ W' body Gb)
    (hsu : ∀ (a : Addr) (pn : List (Addr × Obj)), DSs (stx X a pn) Γ (fun _ _ _ _ => False) (b0 :: suite) Gs) :
    DS X Γ W (.Try body [.ExceptHandler (some (.Name x np)) (some n) (b0 :: suite) pos'] [] [] pos) (tryS i m Gb Gs) := by
  refine ⟨ps_imp (ps_try_ext (tb := fun W' => rdS ⟨X.K, Γ⟩ W' Gb) (ts := fun _ _ _ => rdS ⟨X.K, Γ⟩ (fun _ _ _ _ => False) Gs) hs hf hN hi hln hc tk (fun W' pn xe t p => (hb W' pn xe t p).pss) fun a cls d pn => (hsu a pn).pss) fun D σ H ⟨B, F, As, env, R, q⟩ => ⟨B, F, As, env, R, ?_⟩⟩
  unfold tryS at q
  cases hg : Gb env with
  | nx e => rw [hg] at q; exact q
  | rt d e => rw [hg] at q; exact q
  | bk e => rw [hg] at q; exact q
  | ct e => rw [hg] at q; exact q
  | stuck => rw [hg] at q; exact q
  | ex x e =>
    rw [hg] at q
    intro cls dx F' As' σ' H' s R' o
    obtain ⟨C, rfl, hC, ho⟩ := o
    simp only at q
    cases hk : m x.c with
    | none => rw [hk] at q; exact q.elim
    | some b =>
      rw [hk] at q
      refine ⟨b, hm _ _ _ hC hk, fun hb a na => ?_, fun hb => ?_⟩
      · subst hb
        have R2 := R'.lay (o := .ext (excP a (.ref C) dx)) na
        have s2 : Same F' (upd F' a (.ext (excP a (.ref C) dx))) := (Ext.lay R'.sa.fh na).ff
        have rf : RF ⟨X.K, Γ⟩ (upd F' a (.ext (excP a (.ref C) dx))) (.ref a) (.exc x.c x.fs) := by
          refine fields_of (g := ⟨X.K, Γ⟩) hC upd_same excP_at ?_
          rcases ho with ho | ⟨d', fs, e1, e2, e3⟩
          · exact .inl ho
          · exact .inr ⟨d', fs, e1, s2 _ _ e2, e3.mono s2⟩
        obtain ⟨As2, R3⟩ := R2.putF (i := i) rf
        exact ⟨B, _, As2, _, R3, (post_unS q).mono (s.trans s2)⟩
      · subst hb
        exact q (.ref C) dx F' As' σ' H' s R' ⟨C, rfl, hC, ho⟩
/-- raise C('m') -/
theorem ds_raise {cn : Str} {C : Addr} {bmB : List Value} {Bn newId initId : String} {msg : Str} {j : Nat} {p p2 q0 : Pos} (hcalm : X.calm = true) (tk : Takes X W) (F : ExcBaseFacts Bn newId initId bmB) (q : PySem.W.excIn X.K C bmB newId = true) (gC : X.mg x = some (.ref C)) (kC : PySem.W.keepIn X.K (.ref C) = true) (r : Raises X (.ref C)) (hC : Γ cn = some C) (hg : Gl X x := by rfl)
    (hdb : (x == ("__debug__" : Str)) = false := by decide) : DS X Γ W (.Raise (some (.Call (.Name x p) [.Constant (.str msg) j p2] [] q0)) none pos) (fun env => .ex ⟨cn, []⟩ env) :=
  ⟨ps_imp (ps_raise hcalm tk (pmk_own F q gC kC r hg hdb)) fun D σ H ⟨B, F, As, env, R, h⟩ => h (.ref C) none F As σ H (.refl F) R ⟨C, rfl, hC, .inl ⟨rfl, rfl⟩⟩⟩
end
end DL
end
section
set_option maxHeartbeats 1000000
namespace DL
open PySem PySem.Spec L2 PyProof.Rows

/-! ### defs that may be called in a suite, too: they raise nothing, they run no loop -/
abbrev RoomS := L2H.RoomH
structure FnS (P : Program) (w : World) (K : PySem.W.Frag) (mg : Str → Option Value) (base : Heap) (CX : CXT) (k : Nat) (f : Addr) (fd : FuncData) (ps : List Str) (sp : Sp) : Prop where
  len : ∀ vs H Q E, sp vs H Q E → vs.length = ps.length
  run : ∀ (A : Around) (outer : List Env) (s : Shared) (H : Hp) (args : Args) (us : List Value) (vs : List V) (Q : VK) (E : XK), RoomS k A → Env0 P w K mg base A outer s H → BindsTo s fd args (ps.zip us) → Vals vs us → sp vs H Q E →
    codeAny (model P w) A (.call (.ref f) args) (CR CX outer P w H s Q E) s
theorem FnS.ok {P : Program} {w : World} {K : PySem.W.Frag} {mg : Str → Option Value} {base : Heap} {CX : CXT} {k : Nat} {f : Addr} {fd : FuncData} {ps : List Str} {sp : Sp} (F : FnS P w K mg base CX k f fd ps sp) : FnOk P w K mg base CX k f fd ps sp :=
  ⟨F.len, fun A outer s H args us vs Q E hr => F.run A outer s H args us vs Q E (L2H.roomH_of hr)⟩
def cxS (CX : CXT) (P : Program) (w : World) (K : PySem.W.Frag) (mg : Str → Option Value) (base : Heap) (N : List Str) (qual : Str) (scope : Scope) (f : Addr) (cd : Value) (A : Around) (outer : List Env) (s : Shared) (H : Hp) (E : XK) : Cx :=
  { cxOf CX P w K mg base N qual scope f cd A outer s H E with calm := false }
theorem startS {CX : CXT} {P : Program} {w : World} {K : PySem.W.Frag} {mg : Str → Option Value} {base : Heap} {N ps : List Str} {qual : Str} {scope : Scope} {f : Addr} {cd : Value} {A : Around} {outer : List Env} {s s1 : Shared} {H : Hp} {E : XK} {us : List Value} {vs : List V}
    (S : FnScope N ps scope) (e0 : Env0 P w K mg base A outer s H) (hl : vs.length = ps.length) (r : Vals vs us)
    (x : InCallC s s.heap.objs.size (bindL (envOfC qual scope s.heap.objs.size f cd).kindOf (ps.zip us) fun _ => none) (cellsFrom (s.heap.objs.size + 1) scope.names []) (bindC (envOfC qual scope s.heap.objs.size f cd).kindOf (ps.zip us) fun _ => none) s1) :
    Inv (cxS CX P w K mg base N qual scope f cd A outer s H E) [] (L2.start N vs) H s1 := by
  have J := inv_start (CX := CX) (A := { A with handled := none }) (E := E) S rfl (⟨e0.frames, e0.mod, e0.bs, e0.bsz, e0.funs, e0.frf, e0.hok, e0.bare⟩ : Env0 P w K mg base { A with handled := none } outer s H) hl r x
  have o := J.ok
  exact ⟨⟨o.mod, o.kind, o.glob, o.blt, o.above, o.inj, o.has, o.cab, (fun z => Bool.noConfusion (show false = true from z)), Around.frames_deeper e0.frames, o.stk, o.exf, o.bs, o.bsz, o.noex, o.exfs, o.funs, o.frf⟩, J.os, J.bare, J.base, J.loc, J.cell, J.free, J.freeC, J.pin, J.hok, J.len⟩
theorem fnS_of {CX : CXT} {P : Program} {w : World} {K : PySem.W.Frag} {mg : Str → Option Value} {base : Heap} {k : Nat} {f : Addr} {x qual : Str} {params : Arguments} {body : List Stmt} {scope : Scope} {dvs : List V} {kws : List (Str × V)} {fd : FuncData} {N ps : List Str} {sp : Sp}
    (F : FunD K x qual params body scope dvs kws f fd) (S : FnScope N ps scope) (len : ∀ vs H Q E, sp vs H Q E → vs.length = ps.length)
    (hb : ∀ (cdv : Value) (A : Around) (outer : List Env) (s : Shared) (H : Hp) (vs : List V) (Q : VK) (E : XK), RoomS k (A.deeper (envOfC qual scope s.heap.objs.size f cdv)) → sp vs H Q E →
      ∃ t, PSs (cxS CX P w K mg base N qual scope f cdv A outer s H E) body t ∧ t { nx := fun _ H' => Q .non H', rt := Q } (L2.start N vs) H) :
    FnS P w K mg base CX (k + 1) f fd ps sp := by
  obtain ⟨oc, od, dV, kV, doc, pm, an, cdv, ct, osl, rfl, lk, hcd, _, _⟩ := F.ex
  refine ⟨len, fun A outer s H args us vs Q E hr e0 hbd r hsp => ?_⟩
  have hl := len _ _ _ _ hsp
  have KX : K.In s.heap := e0.mod.kin.keeps fun b o e => (e0.bs b o e).1
  have lim : s.heap.NoLimit := e0.mod.nolimit.keeps fun b o e => (e0.bs b o e).1
  refine codeAny_call_function hr.depth (KX _ _ lk) rfl S.co S.gen rfl (PySem.W.codeRec_of KX hcd) (hbd _ _ _ _ (wpAny_newFunctionEnv_cells S.kind (fun ⟨n, v⟩ hy => by
    rcases S.par n (List.of_mem_zip hy).1 with q | q
    · exact .inl q
    · exact .inr ⟨q, PySem.W.cellsFrom_some _ _ _ (.inl q)⟩) fun env he s1 y => ?_))
  subst he
  refine ⟨lim.keeps y.toInCall.keep, codeAny_func ?_⟩
  obtain ⟨t, ht, hq⟩ := hb cdv A outer s H vs Q E (hr.deeper _) hsp
  have I : Inv (cxS CX P w K mg base N qual scope f cdv A outer s H E) [] (L2.start N vs) H s1 := startS S e0 hl r y
  refine wpAny_mono (ht.run [] s1 (L2.start N vs) H _ I hq) (fun fl s' hs => ?_) fun e s' hs => hs
  cases fl with
  | ret u => obtain ⟨v, σ', H', J, rv, q⟩ := hs; exact ⟨v, H', J.os, J.bare, J.base, J.hok, rv, q⟩
  | next => obtain ⟨σ', H', J, q⟩ := hs; exact ⟨.non, H', J.os, J.bare, J.base, J.hok, rfl, q⟩
  | brk => obtain ⟨_, _, _, q⟩ := hs; exact q.elim
  | cont => obtain ⟨_, _, _, q⟩ := hs; exact q.elim
section
variable {P : Program} {w : World} {K : PySem.W.Frag} {mg : Str → Option Value} {base : Heap} {Γ : Str → Option Addr} {CX : CXT}
/-- such a def keeps the promise, by its body -/
theorem fn_sd {x qual : Str} {params : Arguments} {body : List Stmt} {scope : Scope} {dvs : List V} {kws : List (Str × V)} {f : Addr} {fd : FuncData} {N ps : List Str} {k m : Nat} {G : Slots → Out}
    (F : FunD K x qual params body scope dvs kws f fd) (S : FnScope N ps scope) (hN : N.length = ps.length + m)
    (hb : ∀ (cdv : Value) (A : Around) (outer : List Env) (s : Shared) (H : Hp) (E : XK), RoomS k (A.deeper (envOfC qual scope s.heap.objs.size f cdv)) →
      DSs (cxS CX P w K mg base N qual scope f cdv A outer s H E) Γ (fun cls d _ H => E cls d H) body G) :
    FnS P w K mg base CX (k + 1) f fd ps (spP ⟨K, Γ⟩ (fnR ps.length m G)) := by
  have hl : ∀ {vs : List V} {H : Hp} {Q : VK} {E : XK}, spP ⟨K, Γ⟩ (fnR ps.length m G) vs H Q E → vs.length = ps.length := by
    rintro vs H Q E ⟨F, ds, _, r, q⟩
    rw [r.length]
    by_cases c : ds.length = ps.length
    · exact c
    · unfold fnR at q
      rw [if_neg c] at q
      exact q.elim
  refine fnS_of F S (fun vs H Q E h => hl h) fun cdv A outer s H vs Q E hr h => ⟨_, (hb cdv A outer s H E hr).pss, ?_⟩
  have l := hl h
  obtain ⟨F, ds, sf, r, q⟩ := h
  unfold fnR at q
  rw [if_pos (by rw [← r.length]; exact l)] at q
  exact ⟨⟨F, H, [], none⟩, F, [], _, RelAt.start sf r (by rw [l]; exact hN), post_fin q⟩
end

/-! ### what a call needs, in one -/
/-- R: the room, for FnOk or for FnS -/
structure Fno (S : Bool) (P : Program) (w : World) (K : PySem.W.Frag) (mg : Str → Option Value) (base : Heap) (CX : CXT) (k : Nat) (f : Addr) (fd : FuncData) (ps : List Str) (sp : Sp) : Prop where
  ok : FnOk P w K mg base CX k f fd ps sp
  s : S = true → FnS P w K mg base CX k f fd ps sp
/-- a def by its name: k its depth, n its parameters, dds the defaults, h what it computes -/
structure Def (S : Bool) (P : Program) (w : World) (K : PySem.W.Frag) (mg : Str → Option Value) (base : Heap) (CX : CXT) (Γ : Str → Option Addr) (x : Str) (k : Nat) (ps : List Str) (h : List DV → R DV) : Prop where
  ex : ∃ f fd, mg x = some (.ref f) ∧ PySem.W.keepIn K (.ref f) = true ∧ Fno S P w K mg base CX k f fd ps (spP ⟨K, Γ⟩ h) ∧ Binds K fd ps []
/-- the context X: room for k, what is raised passes; S: a suite, or the like -/
structure Kx (S : Bool) (X : Cx) (W : WX) (CX : CXT) (k : Nat) : Prop where
  nd : X.N.Nodup
  rm : RoomS k X.A
  ho : S = false → X.A.handled = none
  hx : ∀ σ, PassesAt CX X σ (WE W σ)
structure Ky (X : Cx) (W : WX) : Prop where
  calm : X.calm = true
  po : PassesOwn (model X.prog X.w) X.A X.env X.xe
  tk : Takes X W
theorem Kx.room {X : Cx} {W : WX} {CX : CXT} {k j : Nat} (x : Kx false X W CX k) (h : j ≤ k) : Room j X.A := ⟨x.ho rfl, by have := x.rm.dp; omega, by have := x.rm.un; omega⟩
theorem Kx.u {S : Bool} {X : Cx} {W : WX} {CX : CXT} {k : Nat} (x : Kx S X W CX k) : X.A.units < cLine := by have := x.rm.un; omega
theorem Kx.u64 {S : Bool} {X : Cx} {W : WX} {CX : CXT} {k : Nat} (x : Kx S X W CX k) : X.A.units + 64 < cLine := by have := x.rm.un; omega
theorem passF {X : Cx} (σ : L2.St) : PassesAt (L2.CX X.prog X.w) X σ (WE (fun _ _ _ _ => False) σ) := fun _ _ _ _ _ _ c => by
  obtain ⟨_, _, _, _, _, _, _, _, _, _, _, _, h⟩ := c
  exact h.elim
section
variable {S : Bool} {X : Cx} {Γ : Str → Option Addr} {W : WX} {e : Expr} {es : List Expr} {fs : Slots → R (List DV)} {pos p : Pos} {CX : CXT} {k j : Nat} {ps : List Str} {h : List DV → R DV} {x : Str}
theorem run_fnSS {pins : List (Addr × Obj)} {σ : L2.St} {H : Hp} {s : Shared} {Q : VK} {us : List Value} {vs : List V} {f : Addr} {fd : FuncData} {sp : Sp} {E : XK} (F : FnS X.prog X.w X.K X.mg X.base CX k f fd ps sp) (hr : RoomS k X.A) (hb : Binds X.K fd ps []) (hx : PassesAt CX X σ E)
    (I : Inv X pins σ H s) (r : Vals vs us) (hsp : sp vs H Q E) : wpAny (model X.prog X.w) X.A (call (.ref f) us) (EP X pins σ Q) X.xe s := by
  have hl : us.length = ps.length := r.length.symm.trans (F.len _ _ _ _ hsp)
  have b := hb s us I.kIn (by rw [List.append_nil]; exact hl)
  rw [List.append_nil] at b
  refine wpAny_call (codeAny_mono (F.run X.A X.stack s H ⟨us, []⟩ us vs Q E hr I.env0 b r hsp) fun r s' hq => ?_)
  cases r with
  | error e => exact hx pins H s e s' I hq
  | ok fl => cases fl with
    | ret u => exact I.after hq
    | next => exact hq.elim
    | brk => exact hq.elim
    | cont => exact hq.elim
theorem run_any {pins : List (Addr × Obj)} {σ : L2.St} {H : Hp} {s : Shared} {Q : VK} {us : List Value} {vs : List V} {f : Addr} {fd : FuncData} {sp : Sp} (kx : Kx S X W CX k) (F : Fno S X.prog X.w X.K X.mg X.base CX j f fd ps sp) (hj : j ≤ k) (hb : Binds X.K fd ps [])
    (I : Inv X pins σ H s) (r : Vals vs us) (hsp : sp vs H Q (WE W σ)) : wpAny (model X.prog X.w) X.A (call (.ref f) us) (EP X pins σ Q) X.xe s := by
  cases S with
  | true => exact run_fnSS (F.s rfl) (kx.rm.mono hj) hb (kx.hx σ) I r hsp
  | false =>
    have hsp2 : sp (vs ++ []) H Q (WE W σ) := by rw [List.append_nil]; exact hsp
    exact run_fnSD (E := WE W) (dvs := []) F.ok (kx.room hj) hb .nil (kx.hx σ) I r hsp2
theorem de_callN (kx : Kx S X W CX k) (D : Def S X.prog X.w X.K X.mg X.base CX Γ x j ps h) (hj : j ≤ k) (ha : DA X Γ W (e :: es) fs) (hg : Gl X x := by rfl) (hdb : (x == ("__debug__" : Str)) = false := by decide) (he : starEach (e :: es) X.env = (false, eval e X.env) :: starEach es X.env := by rfl) (hpl : (backTo pos (starEach es X.env)).any (·.1) = false := by rfl) :
    DE X Γ W (.Call (.Name x p) (e :: es) [] pos) (callV h [] fs) := by
  obtain ⟨f, fd, hm, hk, F, hb⟩ := D.ex
  refine ⟨⟨fun pins s σ H Q I ⟨F0, As, env, S0, q⟩ => ?_⟩⟩
  refine wpAny_Call_Name_kw (ld_glob I hg hm ?_ hdb)
  refine PySem.W.callWith_K (h₀ := X.base) I.ok.mod.kin hk (thn (ha.pa.run pos pins s σ H (fun vs H1 => spP ⟨X.K, Γ⟩ h vs H1 Q (WE W σ)) I ?_) fun us s1 ⟨vs, H1, I1, r, q1⟩ => ⟨I1.kIn, ?_⟩) he hpl
  · refine ⟨F0, As, env, S0, ?_⟩
    unfold callV at q
    cases hf : fs env with
    | stuck => rw [hf] at q; exact q
    | ex x => rw [hf] at q; exact q
    | ok ds =>
      rw [hf] at q
      intro vs F1 H1 A x1 fr r
      have x2 := frz_ext x1 fr
      refine ⟨_, _, x2.fh, ROs.freeze r fr.nF, ?_⟩
      simp only [R.bind, List.append_nil] at q
      cases hh : h (freezes ds) with
      | stuck => rw [hh] at q; exact q
      | ex x => rw [hh] at q; exact fun cls dx F' H' x3 o => q cls dx F' H' (x2.trans x3) o
      | ok d => rw [hh] at q; exact fun v F' H' A' x3 fr' r' => q v F' H' A' (x2.trans x3) ⟨fr'.nd, fr'.nF, fun a ha => by
          cases z : H a with
          | none => rfl
          | some o => have := x2.hh a o z; rw [fr'.nH a ha] at this; cases this⟩ r'
  · exact run_any kx F hj hb I1 r q1
end
end DL
end
section
set_option maxHeartbeats 1000000
namespace DL
open PySem PySem.Spec L2 PyProof.Rows

section
variable {X : Cx} {Γ : Str → Option Addr} {W : WX} {e a b c : Expr} {f fa fb : Slots → R DV} {pos : Pos} {st : Stmt} {rest sa sb : List Stmt} {G G' : Slots → Out}
/-- name = value, shared from here on -/
def setF (i : Nat) (f : Slots → R DV) : Slots → Out := bindE f fun d env => .nx (env.set i (some (freeze d)))
theorem ds_setF {i : Nat} {x : Str} {pos' : Pos} (hN : X.N.Nodup) (he : DE X Γ W e f) (hi : X.N[i]? = some x := by rfl) (hx : Loc X.env.scope x := by first | exact .inl rfl | exact .inr rfl)
    (hs : swapsWith e (some (.Name x pos')) pos.line X.env = pure false := by rfl) (hf : X.fn x = true ∨ X.env.scope.names.lookup x = some .local := by first | exact .inl rfl | exact .inr rfl) :
    DS X Γ W (.Assign [.Name x pos'] e pos) (setF i f) :=
  ⟨ps_imp (ps_set hN hi hx he.pe hs hf) fun D σ H q => rdS_E (k := fun d env => .nx (env.set i (some (freeze d)))) (T := fun v D σ H => gName i v σ H D.nx) (fun v d B F As env A D σ H R K q => by
    have sF : Same F (DL.ext F H A) := ext_same K.nF
    have notA : ∀ a ∈ As, a ∉ A := fun a h1 h2 => by have := K.nd a; have := cpos.mp h1; have := cpos.mp h2; omega
    have R2 : RelAt ⟨X.K, Γ⟩ B (DL.ext F H A) As σ H env := by
      refine ⟨⟨ext_sub R.sa.fh, R.sa.sl.mono sF (fun _ _ => rfl), R.sa.nd, fun a ha => ?_⟩, R.f0.trans sF, fun a o e n => ?_, R.fm, R.ft, R.ow, R.pin⟩
      · rw [ext_out (notA a ha)]; exact R.sa.fx a ha
      · by_cases ha : a ∈ A
        · exact K.ow a ha
        · rw [ext_out ha] at e; exact R.fr a o e n
    obtain ⟨As', R'⟩ := R2.putF (i := i) (RO.freeze K.r K.nF)
    exact q _ As' _ H sF R') q⟩
/-- return name: what the slot owns goes out -/
def retM (i : Nat) : Slots → Out := fun env => match (env[i]? : Option (Option DV)) with
  | some (some d) => .rt d (env.set i none)
  | _ => .stuck
theorem ds_retM (i : Nat) {x : Str} {p : Pos} (hN : X.N[i]? = some x := by rfl) (hv : Vis X.env.scope x := by first | exact Or.inl rfl | exact Or.inr (Or.inl rfl) | exact Or.inr (Or.inr rfl)) (hd : (x == ("__debug__" : Str)) = false := by decide)
    (hcd : (x == ("__classdict__" : Str)) = false := by decide) : DS X Γ W (.Return (some (.Name x p)) pos) (retM i) :=
  ⟨ps_imp (ps_ret (pe_var hN hv hd hcd)) fun D σ H ⟨B, F, As, env, R, q⟩ => by
    unfold retM at q
    cases he : env[i]? with
    | none => rw [he] at q; exact q.elim
    | some y =>
      cases y with
      | none => rw [he] at q; exact q.elim
      | some d =>
        rw [he] at q
        obtain ⟨v, A, C, s1, r, s2, cnt⟩ := R.sa.sl.get he
        have nd : ∀ a, C.count a + A.count a ≤ 1 := fun a => by have := cnt a; have := R.sa.nd a; omega
        have inA : ∀ a, a ∈ A ∨ a ∈ C → a ∈ As := fun a h => cpos.mpr (by have := cnt a; rcases h with h | h <;> have := cpos.mp h <;> omega)
        refine ⟨v, s1, q v F C A σ H (.refl F) ⟨⟨R.sa.fh, s2, fun a => by have := nd a; omega, fun a ha => R.sa.fx a (inA a (.inr ha))⟩, R.f0, R.fr, R.fm, R.ft, fun a ha => R.ow a (inA a (.inr ha)), fun w e => ?_⟩ ⟨r, nd, fun a ha => R.sa.fx a (inA a (.inl ha)), fun a ha => R.ow a (inA a (.inl ha))⟩⟩
        rintro ⟨c, fs, e2⟩
        by_cases h0 : i = 0
        · subst h0
          cases env with
          | nil => cases e2
          | cons y l =>
            have e2 : some (none : Option DV) = some (some (DV.obj c fs)) := e2
            cases e2
        · rw [List.getElem?_set_ne h0] at e2
          exact R.pin w e ⟨c, fs, e2⟩⟩
end

/-! ### own operators: both sides shared; the method raises nothing -/
/-- the method x of the class c: S, k, h as in Def -/
structure MDef (S : Bool) (P : Program) (w : World) (K : PySem.W.Frag) (mg : Str → Option Value) (base : Heap) (CX : CXT) (Γ : Str → Option Addr) (c x : Str) (k : Nat) (ps : List Str) (h : List DV → R DV) : Prop where
  ex : ∃ C f fd, Γ c = some C ∧ Cls K C ∧ Meth K C x f ∧ PySem.W.selfFirst K C = true ∧ Fno S P w K mg base CX k f fd ps (spP ⟨K, Γ⟩ h) ∧ Binds K fd ps []
theorem relV_ni {v : V} {u : Value} (r : L2.RelV v u) : u ≠ .notImplemented := by
  intro e
  subst e
  cases v <;> first | (obtain ⟨t, e⟩ := r; cases e) | cases r
theorem back_of {X : Cx} {pins : List (Addr × Obj)} {σ : L2.St} {Q : VK} {u : Value} {s' : Shared} (h : EP X pins σ Q u s') : PySem.W.CmpBack (EP X pins σ Q) u s' := by
  obtain ⟨v, H', I, r, q⟩ := h
  have := relV_ni r
  unfold PySem.W.CmpBack
  split
  · exact this rfl
  · exact ⟨v, H', I, r, q⟩
section
variable {S : Bool} {X : Cx} {Γ : Str → Option Addr} {W : WX} {a b : Expr} {fa fb : Slots → R DV} {pos : Pos} {CX : CXT} {k j : Nat} {ps : List Str} {h : List DV → R DV} {c x : Str}
/-- a method called at two shared values -/
theorem call_own {pins : List (Addr × Obj)} {σ : L2.St} {H F2 F : Hp} {H0 : Hp} {s : Shared} {Q : VK} {vs : List V} {us : List Value} {dvl : List DV} {f : Addr} {fd : FuncData} (kx : Kx S X W CX k) (Fn : Fno S X.prog X.w X.K X.mg X.base CX j f fd ps (spP ⟨X.K, Γ⟩ h)) (hj : j ≤ k) (hb : Binds X.K fd ps [])
    (I : Inv X pins σ H s) (x2 : DL.Ext F H0 F2 H) (rv : Vals vs us) (r2 : RFs ⟨X.K, Γ⟩ F2 vs dvl) (q : match h dvl with
      | .ok d => ∀ v F' H' A, DL.Ext F H0 F' H' → Fresh F' H0 A → RO ⟨X.K, Γ⟩ F' H' v d A → Q v H'
      | .ex e => ∀ cls dx F' H', DL.Ext F H0 F' H' → XOk ⟨X.K, Γ⟩ F' cls dx e → W cls dx σ H'
      | .stuck => False) : wpAny (model X.prog X.w) X.A (call (.ref f) us) (EP X pins σ Q) X.xe s := by
  refine run_any kx Fn hj hb I rv ⟨F2, dvl, x2.fh, r2, ?_⟩
  cases hh : h dvl with
  | stuck => rw [hh] at q; exact q
  | ex e => rw [hh] at q; exact fun cls dx F' H' x3 o => q cls dx F' H' (x2.trans x3) o
  | ok d => rw [hh] at q; exact fun v F' H' A' x3 fr' r' => q v F' H' A' (x2.trans x3) ⟨fr'.nd, fr'.nF, fun a ha => by
      cases z : H0 a with
      | none => rfl
      | some o => have := x2.hh a o z; rw [fr'.nH a ha] at this; cases this⟩ r'
theorem both_read {σ : L2.St} {H : Hp} {Q : VK} {g : DV → DV → R DV} (T : V → V → TE) (q : rdE ⟨X.K, Γ⟩ W (fun env => (fa env).bind fun d => (fb env).bind fun e => g (freeze d) (freeze e)) σ H Q)
    (ht : ∀ v w F0 H0 F2 H2 d e, DL.Ext F0 H0 F2 H2 → H0 = H → RF ⟨X.K, Γ⟩ F2 v d → RF ⟨X.K, Γ⟩ F2 w e → (match g d e with
      | .ok d => ∀ v F' H' A, DL.Ext F0 H0 F' H' → Fresh F' H0 A → RO ⟨X.K, Γ⟩ F' H' v d A → Q v H'
      | .ex e => ∀ cls dx F' H', DL.Ext F0 H0 F' H' → XOk ⟨X.K, Γ⟩ F' cls dx e → W cls dx σ H'
      | .stuck => False) → T v w σ H2 Q) : rdE ⟨X.K, Γ⟩ W fa σ H fun v H1 => rdE ⟨X.K, Γ⟩ W fb σ H1 fun w H2 => T v w σ H2 Q := by
  obtain ⟨F, As, env, Sa, q⟩ := q
  refine ⟨F, As, env, Sa, ?_⟩
  have q : (match ((fa env).bind fun d => (fb env).bind fun e => g (freeze d) (freeze e)) with
    | .ok d => ∀ v F' H' A, DL.Ext F H F' H' → Fresh F' H A → RO ⟨X.K, Γ⟩ F' H' v d A → Q v H'
    | .ex e => ∀ cls dx F' H', DL.Ext F H F' H' → XOk ⟨X.K, Γ⟩ F' cls dx e → W cls dx σ H'
    | .stuck => False) := q
  cases hf : fa env with
  | stuck => rw [hf] at q; exact q
  | ex x => rw [hf] at q; exact q
  | ok d =>
    rw [hf] at q
    simp only [R.bind] at q
    intro v F1 H1 A1 x1 fr1 r1
    have y1 := frz_ext x1 fr1
    have z1 := RO.freeze r1 fr1.nF
    refine ⟨_, As, env, Sa.ext y1, ?_⟩
    cases hg : fb env with
    | stuck => rw [hg] at q; exact q
    | ex x => rw [hg] at q; exact fun cls dx F' H' x2 o => q cls dx F' H' (y1.trans x2) o
    | ok e =>
      rw [hg] at q
      intro w F2 H2 A2 x2 fr2 r2
      have y2 := frz_ext x2 fr2
      exact ht v w F H _ H2 _ _ (y1.trans y2) rfl (z1.mono y2.ff) (RO.freeze r2 fr2.nF) q
def ownO (c : Str) (h : List DV → R DV) (d e : DV) : R DV := match d, e with
  | .ins c1 xs, .ins c2 ys => if c1 = c ∧ c2 = c then h [.ins c1 xs, .ins c2 ys] else .stuck
  | _, _ => .stuck
def opO (c : Str) (h : List DV → R DV) (fa fb : Slots → R DV) : Slots → R DV := fun env => (fa env).bind fun d => (fb env).bind fun e => ownO c h (freeze d) (freeze e)
theorem ownO_inv {d e : DV} (h0 : ownO c h d e ≠ .stuck) : ∃ xs ys, d = .ins c xs ∧ e = .ins c ys ∧ ownO c h d e = h [.ins c xs, .ins c ys] := by
  unfold ownO at h0 ⊢
  split at h0
  · rename_i c1 xs c2 ys
    by_cases z : c1 = c ∧ c2 = c
    · obtain ⟨rfl, rfl⟩ := z
      exact ⟨xs, ys, rfl, rfl, by simp⟩
    · rw [if_neg z] at h0; exact absurd rfl h0
  · exact absurd rfl h0
/-- a + b and the like of two instances of the class c -/
theorem de_opO {op : Operator} (kx : Kx S X W CX k) (D : MDef S X.prog X.w X.K X.mg X.base CX Γ c (PySem.dunder op.info.2) j ps h) (hj : j ≤ k) (ha : DE X Γ W a fa) (hb : DE X Γ W b fb)
    (ht : ∀ env, eval (.BinOp a op b pos) env = eval (.BinOp a op b pos) env := by intro _; rfl) : DE X Γ W (.BinOp a op b pos) (opO c h fa fb) := by
  obtain ⟨C, f, fd, hC, hc, hm, hsf, Fn, hbn⟩ := D.ex
  refine ⟨⟨fun pins s σ H Q I q => ?_⟩⟩
  have q2 := both_read (T := fun v w σ H2 Q => ∃ F0 H0 F2 xs ys, DL.Ext F0 H0 F2 H2 ∧ RF ⟨X.K, Γ⟩ F2 v (.ins c xs) ∧ RF ⟨X.K, Γ⟩ F2 w (.ins c ys) ∧ (match h [.ins c xs, .ins c ys] with
      | .ok d => ∀ v F' H' A, DL.Ext F0 H0 F' H' → Fresh F' H0 A → RO ⟨X.K, Γ⟩ F' H' v d A → Q v H'
      | .ex e => ∀ cls dx F' H', DL.Ext F0 H0 F' H' → XOk ⟨X.K, Γ⟩ F' cls dx e → W cls dx σ H'
      | .stuck => False)) (g := ownO c h) q fun v w F0 H0 F2 H2 d e x2 _ r1 r2 q => by
    have ns : ownO c h d e ≠ .stuck := fun z => by rw [z] at q; exact q
    obtain ⟨xs, ys, rfl, rfl, e3⟩ := ownO_inv ns
    rw [e3] at q
    exact ⟨F0, H0, F2, xs, ys, x2, r1, r2, q⟩
  refine wpAny_BinOp (binT (R := fun v w H2 => ∃ F0 H0 F2 xs ys, DL.Ext F0 H0 F2 H2 ∧ RF ⟨X.K, Γ⟩ F2 v (.ins c xs) ∧ RF ⟨X.K, Γ⟩ F2 w (.ins c ys) ∧ (match h [.ins c xs, .ins c ys] with
      | .ok d => ∀ v F' H' A, DL.Ext F0 H0 F' H' → Fresh F' H0 A → RO ⟨X.K, Γ⟩ F' H' v d A → Q v H'
      | .ex e => ∀ cls dx F' H', DL.Ext F0 H0 F' H' → XOk ⟨X.K, Γ⟩ F' cls dx e → W cls dx σ H'
      | .stuck => False)) ha.pe hb.pe I q2 fun va vb s2 x y H2 I2 rx ry ⟨F0, H0, F2, xs, ys, x2, r1, r2, q4⟩ => ?_)
  obtain ⟨p, C1, dx, vs, rfl, h1, h2, h3⟩ := ins_of r1
  obtain ⟨p2, C2, dx2, vs2, rfl, k1, k2, k3⟩ := ins_of r2
  obtain rfl : va = Value.ref p := rx
  obtain rfl : vb = Value.ref p2 := ry
  have e1 : C1 = C := Option.some.inj (h2.symm.trans hC)
  have e2 : C2 = C := Option.some.inj (k2.symm.trans hC)
  subst e1 e2
  obtain ⟨mA, J, _⟩ := ins_get I2.hok (x2.fh _ _ h1)
  obtain ⟨mB, J', _⟩ := ins_get I2.hok (x2.fh _ _ k1)
  obtain ⟨od, J, _⟩ := J.look
  obtain ⟨od', J', _⟩ := J'.look
  obtain ⟨m, hF⟩ := I2.fr
  refine PySem.W.binop_K hF I2.ok.mod.kin J J'.type hsf hm.at_ hm.fn (wpAny_mono (call_own (vs := [.ref p, .ref p2]) kx Fn hj hbn I2 x2 (.cons rfl (.cons rfl .nil)) (.cons r1 (.cons r2 .nil)) q4) (fun u s' hu => back_of hu) fun _ _ z => z)

theorem Kx.f {S : Bool} {X : Cx} {W : WX} {CX : CXT} {k : Nat} (kx : Kx S X W CX k) : Kx S X (fun _ _ _ _ => False) (L2.CX X.prog X.w) k := ⟨kx.nd, kx.rm, kx.ho, passF⟩
/-- a == b by the class c's own __eq__; nf: what may stand on the right -/
def eqOwn (c : Str) (h : List DV → R DV) (nf : DV → Bool) (d e : DV) : R DV := match d with
  | .ins c1 xs => if c1 = c ∧ nf e = true then (match h [.ins c1 xs, e] with | .ok v => .ok v | _ => .stuck) else .stuck
  | _ => .stuck
def eqO (c : Str) (h : List DV → R DV) (nf : DV → Bool) (fa fb : Slots → R DV) : Slots → R DV := fun env => (fa env).bind fun d => (fb env).bind fun e => eqOwn c h nf (freeze d) (freeze e)
structure NfOk (K : PySem.W.Frag) (Γ : Str → Option Addr) (c : Str) (nf : DV → Bool) : Prop where
  ok : ∀ e C, nf e = true → Γ c = some C → ∃ t, tyv Γ e = some t ∧ ClsT K Γ e ∧ PySem.W.notFirst K C t = true
theorem eqOwn_inv {nf : DV → Bool} {d e : DV} (h0 : eqOwn c h nf d e ≠ .stuck) : ∃ xs v, d = .ins c xs ∧ nf e = true ∧ h [.ins c xs, e] = .ok v ∧ eqOwn c h nf d e = .ok v := by
  unfold eqOwn at h0 ⊢
  cases d with
  | ins c1 xs =>
    simp only at h0 ⊢
    by_cases z : c1 = c ∧ nf e = true
    · rw [if_pos z] at h0 ⊢
      obtain ⟨rfl, z2⟩ := z
      cases hh : h [.ins c1 xs, e] with
      | ok v => exact ⟨xs, v, rfl, z2, hh, by simp⟩
      | ex x => rw [hh] at h0; exact absurd rfl h0
      | stuck => rw [hh] at h0; exact absurd rfl h0
    · rw [if_neg z] at h0; exact absurd rfl h0
  | _ => exact absurd rfl h0
theorem de_eqO {nf : DV → Bool} (kx : Kx S X W CX k) (D : MDef S X.prog X.w X.K X.mg X.base (L2.CX X.prog X.w) Γ c "__eq__" j ps h) (hj : j ≤ k) (hn : NfOk X.K Γ c nf) (ha : DE X Γ W a fa) (hb : DE X Γ W b fb) (hm : behindInMarks .Eq b = false := by first | exact nomark _ | rfl) : DE X Γ W (.Compare a [.Eq] [b] pos) (eqO c h nf fa fb) := by
  obtain ⟨C, f, fd, hC, hc, hme, hsf, Fn, hbn⟩ := D.ex
  let r : R2 := fun x y H2 Q => ∃ F0 H0 F2 xs e v0, DL.Ext F0 H0 F2 H2 ∧ RF ⟨X.K, Γ⟩ F2 x (.ins c xs) ∧ RF ⟨X.K, Γ⟩ F2 y e ∧ nf e = true ∧ h [.ins c xs, e] = .ok v0 ∧ ∀ v F' H' A, DL.Ext F0 H0 F' H' → Fresh F' H0 A → RO ⟨X.K, Γ⟩ F' H' v v0 A → Q v H'
  have op : OpR X (compareOp .Eq) r := by
    rintro pins s σ H x y va vb Q I rx ry ⟨F0, H0, F2, xs, e, v0, x2, r1, r2, hnf, hv, q⟩
    obtain ⟨p, C1, dx, vs, rfl, h1, h2, h3⟩ := ins_of r1
    obtain rfl : va = Value.ref p := rx
    have e1 : C1 = C := Option.some.inj (h2.symm.trans hC)
    subst e1
    obtain ⟨mA, J, _⟩ := ins_get I.hok (x2.fh _ _ h1)
    obtain ⟨od, J, _⟩ := J.look
    obtain ⟨m, hF⟩ := I.fr
    obtain ⟨t, ht, hcl, hnt⟩ := hn.ok e C1 hnf hC
    obtain ⟨P, Z, hP, _⟩ := ty_of I ry x2.fh (.frz r2) ht hcl
    refine PySem.W.cmp_K (op := .Eq) (tb := t) kx.u hF I.ok.mod.kin J (Z.ty _ _ I.kIn hP) hnt hme.at_ hme.fn (wpAny_mono (call_own (vs := [.ref p, y]) kx.f Fn hj hbn I x2 (.cons rfl (.cons ry .nil)) (.cons r1 (.cons r2 .nil)) (by rw [hv]; exact q)) (fun u s' hu => back_of hu) fun _ _ z => z)
  refine ⟨pe_imp (pe_cmpR op ha.pe hb.pe hm) fun σ H Q q => ?_⟩
  exact both_read (T := fun v w σ H2 Q => r v w H2 Q) (g := eqOwn c h nf) q fun v w F0 H0 F2 H2 d e x2 _ r1 r2 q => by
    have ns : eqOwn c h nf d e ≠ .stuck := fun z => by rw [z] at q; exact q
    obtain ⟨xs, v0, rfl, e2, e3, e4⟩ := eqOwn_inv ns
    rw [e4] at q
    exact ⟨F0, H0, F2, xs, e, v0, x2, r1, r2, e2, e3, q⟩
/-- str(a) by the class c's own __str__ -/
def strO (c : Str) (h : List DV → R DV) (fa : Slots → R DV) : Slots → R DV := fun env => (fa env).bind fun d => match freeze d with
  | .ins c1 xs => if c1 = c then (match h [.ins c1 xs] with | .ok (.str z) => .ok (.str z) | _ => .stuck) else .stuck
  | _ => .stuck
end
end DL
end
section
set_option maxHeartbeats 1000000
namespace DL
open PySem PySem.Spec L2 PyProof.Rows

section
variable {X : Cx} {Γ : Str → Option Addr} {W : WX} {e a b c : Expr} {f fa fb fe : Slots → R DV} {fs : Slots → R (List DV)} {pos : Pos} {x y : Str} {i j : Nat}
theorem RelAt.shareK {g : Gc} {B : Base} {F H : Hp} {As A : List Addr} {σ : L2.St} {env : Slots} {v : V} {d : DV} (R : RelAt g B F As σ H env) (K : Kept g B F As H v d A) : RelAt g B (DL.ext F H A) As σ H env ∧ RF g (DL.ext F H A) v (DL.freeze d) ∧ Same F (DL.ext F H A) := by
  have sF : Same F (DL.ext F H A) := ext_same K.nF
  have notA : ∀ a ∈ As, a ∉ A := fun a h1 h2 => by have := K.nd a; have := cpos.mp h1; have := cpos.mp h2; omega
  refine ⟨⟨⟨ext_sub R.sa.fh, R.sa.sl.mono sF (fun _ _ => rfl), R.sa.nd, fun a ha => ?_⟩, R.f0.trans sF, fun a o e n => ?_, R.fm, R.ft, R.ow, R.pin⟩, RO.freeze K.r K.nF, sF⟩
  · rw [ext_out (notA a ha)]; exact R.sa.fx a ha
  · by_cases ha : a ∈ A
    · exact K.ow a ha
    · rw [ext_out ha] at e; exact R.fr a o e n
/-- several values kept at once -/
theorem RelAt.shareAll {g : Gc} {B : Base} {F H F' H' : Hp} {As A : List Addr} {σ : L2.St} {env : Slots} {vs : List V} {ds : List DV} (R : RelAt g B F As σ H env) (x1 : Ext F H F' H') (fr : Fresh F' H A) (r : ROs g F' H' vs ds A) : RelAt g B (DL.ext F' H' A) As σ H' env ∧ RFs g (DL.ext F' H' A) vs (freezes ds) ∧ Same F (DL.ext F' H' A) := by
  have x2 := frz_ext x1 fr
  exact ⟨R.ext x2, ROs.freeze r fr.nF, x2.ff⟩
/-- x, y = a, b -/
def parS (i j : Nat) (fs : Slots → R (List DV)) : Slots → Out := fun env => match fs env with
  | .ok [d1, d2] => .nx ((env.set i (some (freeze d1))).set j (some (freeze d2)))
  | .ex x => .ex x env
  | _ => .stuck
theorem ds_par {px py pt : Pos} {kt k2 pt2} (hc : X.calm = true) (hN : X.N.Nodup) (ha : DA X Γ W [a, b] fs) (hi : X.N[i]? = some x := by rfl) (hj : X.N[j]? = some y := by rfl) (hij : i ≠ j := by decide)
    (hx : X.env.scope.names.lookup x = some .local := by rfl) (hy : X.env.scope.names.lookup y = some .local := by rfl)
    (hw : swappedStores [.Tuple [.Name x px, .Name y py] kt pt] (.Tuple [a, b] k2 pt2) X.env = pure (some [x, y]) := by rfl)
    (hs : swapsWithSole [.Tuple [.Name x px, .Name y py] kt pt] (.Tuple [a, b] k2 pt2) pos.line X.env = pure false := by rfl) :
    DS X Γ W (.Assign [.Tuple [.Name x px, .Name y py] kt pt] (.Tuple [a, b] k2 pt2) pos) (parS i j fs) :=
  ⟨ps_imp (ps_par hc hN hi hj hij hx hy ha.pa hw hs) fun D σ H ⟨B, F, As, env, R, q⟩ => by
    refine ⟨F, As, env, R.sa, ?_⟩
    unfold parS at q
    cases hf : fs env with
    | stuck => rw [hf] at q; exact q
    | ex x => rw [hf] at q; exact fun cls dx F' H' xx o => q cls dx F' As σ H' xx.ff (R.ext xx) o
    | ok ds =>
      rw [hf] at q
      intro vs F1 H1 A x1 fr r
      obtain ⟨R1, r1, s1⟩ := R.shareAll x1 fr r
      match ds, q, r1 with
      | [], q, _ => exact q.elim
      | [_], q, _ => exact q.elim
      | _ :: _ :: _ :: _, q, _ => exact q.elim
      | [d1, d2], q, r1 =>
        cases r1 with
        | cons h1 r1 =>
          cases r1 with
          | cons h2 r1 =>
            cases r1
            obtain ⟨As1, R2⟩ := R1.putF (i := i) h1
            obtain ⟨As2, R3⟩ := R2.putF (i := j) h2
            exact ⟨_, _, rfl, q _ As2 _ _ s1 R3⟩⟩
/-- x op= e, ints -/
def augD (g : Int → Int → Int) (d e : DV) : Option DV := match d, e with
  | .int a, .int b => some (.int (g a b))
  | _, _ => none
def augS (i : Nat) (g : Int → Int → Int) (fe : Slots → R DV) : Slots → Out := fun env => match (env[i]? : Option (Option DV)) with
  | some (some (.int n)) => bindE fe (fun d env => match d with | .int m => .nx (env.set i (some (.int (g n m)))) | _ => .stuck) env
  | _ => .stuck
theorem ds_aug {op : Operator} {g : Int → Int → Int} {px : Pos} (hN : X.N.Nodup) (ho : PIp X op (ipI g)) (he : DE X Γ W e fe) (hi : X.N[i]? = some x := by rfl) (hx : Loc X.env.scope x := by first | exact .inl rfl | exact .inr rfl) (hf : X.fn x = true ∨ X.env.scope.names.lookup x = some .local := by first | exact .inl rfl | exact .inr rfl) :
    DS X Γ W (.AugAssign (.Name x px) op e pos) (augS i g fe) :=
  ⟨ps_imp (ps_aug hN hi hx he.pe ho hf) fun D σ H ⟨B, F, As, env, R, q⟩ => by
    unfold augS at q
    cases h1 : (env[i]? : Option (Option DV)) with
    | none => rw [h1] at q; exact q.elim
    | some y =>
      cases y with
      | none => rw [h1] at q; exact q.elim
      | some d =>
        rw [h1] at q
        obtain ⟨v, A, _, s1, r, _, _⟩ := R.sa.sl.get h1
        cases d with
        | int n =>
          cases r.int_inv
          refine ⟨_, s1, F, As, env, R.sa, ?_⟩
          simp only at q
          unfold bindE at q
          cases hf2 : fe env with
          | stuck => rw [hf2] at q; exact q
          | ex x => rw [hf2] at q; exact fun cls dx F' H' xx o => q cls dx F' As σ H' xx.ff (R.ext xx) o
          | ok d2 =>
            rw [hf2] at q
            intro w F1 H1 A1 x1 fr r2
            cases d2 with
            | int m =>
              cases r2.int_inv
              obtain ⟨As1, R2⟩ := (R.ext x1).putF (i := i) (.int (g n m))
              exact ⟨n, m, rfl, rfl, q F1 As1 _ H1 x1.ff R2⟩
            | _ => exact q.elim
        | _ => exact q.elim⟩
end
end DL
end
section
set_option maxHeartbeats 1000000
namespace DL
open PySem PySem.Spec L2 PyProof.Rows

/-! ### the contexts within -/
section
variable {S : Bool} {X : Cx} {Γ : Str → Option Addr} {W W1 : WX} {k : Nat}
theorem Kx.b (kx : Kx S X W (L2.CX X.prog X.w) k) (s : Shared) (H : Hp) {scope : Scope} (C : Addr) (cl : List (Str × Addr)) (fp : List Addr) : Kx S (X.blk s H scope (compEnvC scope cl C X.env) fp) (fun _ _ _ _ => False) (L2.CX X.prog X.w) k := ⟨kx.nd, kx.rm, kx.ho, passF⟩
theorem Kx.t (kx : Kx S X W (L2.CX X.prog X.w) k) {pn : List (Addr × Obj)} {xe : Value → Shared → Prop} (t : Takes (X.tr pn xe) W1) : Kx S (X.tr pn xe) W1 (L2.CX X.prog X.w) k := ⟨kx.nd, kx.rm, kx.ho, passAt t⟩
theorem Ky.t (ky : Ky X W) {pn : List (Addr × Obj)} {xe : Value → Shared → Prop} (t : Takes (X.tr pn xe) W1) (p : PassesOwn (model X.prog X.w) X.A X.env xe) : Ky (X.tr pn xe) W1 := ⟨ky.calm, p, t⟩
theorem Kx.s (kx : Kx S X W (L2.CX X.prog X.w) k) (a : Addr) (pn : List (Addr × Obj)) : Kx true (stx X a pn) (fun _ _ _ _ => False) (L2.CX X.prog X.w) k := ⟨kx.nd, ⟨kx.rm.dp, kx.rm.un⟩, (fun z => Bool.noConfusion z), passF⟩
end
/-! ### facts of the classes, as the head tells them -/
section
variable {K : PySem.W.Frag} {mg : Str → Option Value} {Γ : Str → Option Addr}
/-- C('m') may be raised -/
structure Rz (K : PySem.W.Frag) (mg : Str → Option Value) (Γ : Str → Option Addr) (x : Str) : Prop where
  ex : ∃ C, Γ x = some C ∧ mg x = some (.ref C) ∧ PySem.W.keepIn K (.ref C) = true ∧ PySem.W.excIn K C He.veBase "ValueError.__new__" = true ∧ PySem.W.subIn K (.ref C) (.type "BaseException") = some true ∧ PySem.W.typeIn K (.ref C) = some (.type "type")
/-- except x: mt tells which classes it catches -/
structure Tz (K : PySem.W.Frag) (mg : Str → Option Value) (Γ : Str → Option Addr) (x : Str) (mt : Str → Option Bool) : Prop where
  ex : ∃ C, mg x = some (.ref C) ∧ ∀ c' C' b, Γ c' = some C' → mt c' = some b → PySem.W.exmOne K (.ref C') (.ref C) = some b
end
section
variable {S : Bool} {X : Cx} {Γ : Str → Option Addr} {W : WX} {k : Nat} {x n : Str} {i : Nat} {body suite : List Stmt} {b0 : Stmt} {np pos pos' p p2 q0 : Pos} {Gb Gs : Slots → Out} {mt : Str → Option Bool}
theorem ds_raiseN {msg : Str} {j : Nat} (ky : Ky X W) (r : Rz X.K X.mg Γ x) (hg : Gl X x := by rfl) (hdb : (x == ("__debug__" : Str)) = false := by decide) : DS X Γ W (.Raise (some (.Call (.Name x p) [.Constant (.str msg) j p2] [] q0)) none pos) (fun env => .ex ⟨x, []⟩ env) := by
  obtain ⟨C, h1, h2, h3, h4, h5, h6⟩ := r.ex
  exact ds_raise ky.calm ky.tk PySem.F.excBase_ValueError h4 h2 h3 (raises_own h5 h6) h1 hg hdb
theorem ds_tryN (kx : Kx S X W (L2.CX X.prog X.w) k) (ky : Ky X W) (m : Tz X.K X.mg Γ x mt)
    (hb : ∀ (W' : WX) (pn : List (Addr × Obj)) (xe : Value → Shared → Prop), Takes (X.tr pn xe) W' → PassesOwn (model X.prog X.w) X.A X.env xe → DSs (X.tr pn xe) Γ W' body Gb)
    (hsu : ∀ (a : Addr) (pn : List (Addr × Obj)), DSs (stx X a pn) Γ (fun _ _ _ _ => False) (b0 :: suite) Gs)
    (hs : X.stack = X.env :: X.outer := by rfl) (hf : X.env.frame = some X.env.locals := by rfl) (hi : X.N[i]? = some n := by rfl) (hln : X.env.kindOf n = some .local := by rfl) (hg : Gl X x := by rfl) (hdb : (x == ("__debug__" : Str)) = false := by decide) :
    DS X Γ W (.Try body [.ExceptHandler (some (.Name x np)) (some n) (b0 :: suite) pos'] [] [] pos) (tryS i mt Gb Gs) := by
  obtain ⟨C, h1, h2⟩ := m.ex
  exact ds_tryAs hs hf kx.nd hi hln ⟨hg, hdb, .inl h1⟩ ky.tk h2 hb hsu
theorem pe_bt {T : String} (hm : X.mg x = none) (hv : bootBuiltins x = some (.type T)) (hg : Gl X x := by rfl) (hn : x ≠ "__name__" := by decide) (hd : (x == ("__debug__" : Str)) = false := by decide) : PE X (.Name x p) (tC (.ty T)) := pe_bltn hg hm hv rfl hn hd
theorem pe_own {C : Addr} (hm : X.mg x = some (.ref C)) (hg : Gl X x := by rfl) (hd : (x == ("__debug__" : Str)) = false := by decide) : PE X (.Name x p) (tC (.ref C)) := pe_glob hg hm rfl hd
end
/-! ### isinstance, by tables -/
def primT : DV → Option String
  | .non => some "NoneType"
  | .bl _ => some "bool"
  | .int _ => some "int"
  | .str _ => some "str"
  | .tup _ => some "tuple"
  | .lst _ => some "list"
  | .own _ => some "list"
  | .scr _ => some "list"
  | _ => none
/-- tb: built-in types, ti: classes of instances, tx: classes of exceptions -/
def ansT (tb : List (String × Bool)) (ti tx : List (Str × Bool)) : DV → Option Bool
  | .ins c _ => ti.lookup c
  | .obj c _ => ti.lookup c
  | .exc c _ => tx.lookup c
  | d => (primT d).bind fun n => tb.lookup n
section
variable {K : PySem.W.Frag} {Γ : Str → Option Addr}
def insB (K : PySem.W.Frag) (x : Str) : Bool := (He.Fa.cls x).ok K && (decide (PySem.W.findIn K (.ref (He.ga K x)) "__class__" = some (some (.builtin "object.__class__"))) && (decide (PySem.W.specialIn K (.builtin "object.__class__") "__get__" = some (some (.builtin "getset_descriptor.__get__"))) &&
  (decide (PySem.W.takesIn K (.builtin "object.__class__") = some true) && decide (PySem.W.mroIn K (He.ga K x) (.type "object") = some true))))
theorem insB_ok {x : Str} (h : insB K x = true) : InsT K (He.ga K x) := by
  unfold insB at h
  simp only [Bool.and_eq_true, decide_eq_true_eq] at h
  obtain ⟨h1, h2, h3, h4, h5⟩ := h
  exact ⟨He.cls_ok h1, h2, h3, h4, h5⟩
def excB (K : PySem.W.Frag) (x : Str) : Bool := (PySem.W.clsIn K (He.ga K x)).isSome && (decide (PySem.W.findIn K (.ref (He.ga K x)) "__getattribute__" = some (some (.builtin "BaseException.__getattribute__"))) && (decide (PySem.W.findIn K (.ref (He.ga K x)) "__getattr__" = some none) &&
  (decide (PySem.W.subIn K (.ref (He.ga K x)) (.type "BaseException") = some true) && (decide (PySem.W.findIn K (.ref (He.ga K x)) "__class__" = some (some (.builtin "object.__class__"))) && (decide (PySem.W.specialIn K (.builtin "object.__class__") "__get__" = some (some (.builtin "getset_descriptor.__get__"))) &&
  (decide (PySem.W.takesIn K (.builtin "object.__class__") = some true) && decide (PySem.W.mroIn K (He.ga K x) (.type "object") = some true)))))))
theorem excB_ok {x : Str} (h : excB K x = true) : ExcK K (He.ga K x) := by
  unfold excB at h
  simp only [Bool.and_eq_true, decide_eq_true_eq] at h
  obtain ⟨h1, h2, h3, h4, h5, h6, h7, h8⟩ := h
  exact ⟨h1, h2, h3, h4, h5, h6, h7, h8⟩
def isiB (K : PySem.W.Frag) (us : List Value) (tb : List (String × Bool)) (ti tx : List (Str × Bool)) : Bool :=
  (tb.all fun p => decide (PySem.W.kitAny K (.type p.1) us = some p.2)) && ((ti.all fun p => decide (PySem.W.kitAny K (.ref (He.ga K p.1)) us = some p.2) && insB K p.1) && tx.all fun p => decide (PySem.W.kitAny K (.ref (He.ga K p.1)) us = some p.2) && excB K p.1)
theorem lookup_mem {α β : Type} [BEq α] [LawfulBEq α] {a : α} {b : β} : ∀ {l : List (α × β)}, l.lookup a = some b → (a, b) ∈ l
  | [], h => by simp at h
  | (c, d) :: l, h => by
    simp only [List.lookup] at h
    cases q : a == c with
    | true => rw [q] at h; cases h; rw [eq_of_beq q]; exact List.mem_cons_self ..
    | false => rw [q] at h; exact List.mem_cons_of_mem _ (lookup_mem h)
/-- the classes of the text by name -/
def gam (K : PySem.W.Frag) (l : List Str) : Str → Option Addr := fun c => if l.contains c then some (He.ga K c) else none
theorem gam_some {l : List Str} {c : Str} {C : Addr} (h : gam K l c = some C) : C = He.ga K c := by
  unfold gam at h
  split at h
  · cases h; rfl
  · cases h
theorem isiB_ok {us : List Value} {tb : List (String × Bool)} {ti tx : List (Str × Bool)} {l : List Str} (h : isiB K us tb ti tx = true) (hi : (ti.all fun p => l.contains p.1) = true) (hx : (tx.all fun p => l.contains p.1) = true) : Isi K (gam K l) us (ansT tb ti tx) := by
  unfold isiB at h
  simp only [Bool.and_eq_true, List.all_eq_true, decide_eq_true_eq] at h
  obtain ⟨h1, h2, h3⟩ := h
  have prim : ∀ {d : DV} {n : String} {b : Bool}, tb.lookup n = some b → PySem.W.kitAny K (.type n) us = some b := fun {d n b} e => h1 (n, b) (lookup_mem e)
  refine ⟨fun d t b ht ha => ?_, fun d b ha => ?_, fun d b ha => ⟨fun c fs C hd hc => ?_, fun c fs C hd hc => ?_⟩⟩
  · cases d <;> simp only [tyv, ansT, primT, Option.bind_some, Option.bind_none, Option.map_eq_some_iff, Option.some.injEq, reduceCtorEq] at ht ha
    case ins c fs => obtain ⟨C, hc, rfl⟩ := ht; rw [gam_some hc]; exact (h2 _ (lookup_mem ha)).1
    case obj c fs => obtain ⟨C, hc, rfl⟩ := ht; rw [gam_some hc]; exact (h2 _ (lookup_mem ha)).1
    case exc c fs => obtain ⟨C, hc, rfl⟩ := ht; rw [gam_some hc]; exact (h3 _ (lookup_mem ha)).1
    all_goals (subst ht; exact prim (d := .non) ha)
  · cases d <;> simp only [tyv, ansT, primT, Option.bind_some, Option.bind_none, reduceCtorEq, Option.isSome_some, Option.isSome_map] at ha ⊢
    case ins c fs => have := List.all_eq_true.mp hi _ (lookup_mem ha); unfold gam; rw [if_pos this]; rfl
    case obj c fs => have := List.all_eq_true.mp hi _ (lookup_mem ha); unfold gam; rw [if_pos this]; rfl
    case exc c fs => have := List.all_eq_true.mp hx _ (lookup_mem ha); unfold gam; rw [if_pos this]; rfl
  · rw [gam_some hc]
    rcases hd with rfl | rfl
    · exact insB_ok (h2 _ (lookup_mem ha)).2
    · exact insB_ok (h2 _ (lookup_mem ha)).2
  · rw [gam_some hc]
    subst hd
    exact excB_ok (h3 _ (lookup_mem ha)).2
end
end DL
end
section
set_option maxHeartbeats 1000000
namespace DL
open PySem PySem.Spec L2 PyProof.Rows

/-- a class by its name, made with arguments that lack the defaults dds; h: what its __init__ computes -/
structure MkD (P : Program) (w : World) (K : PySem.W.Frag) (mg : Str → Option Value) (base : Heap) (Γ : Str → Option Addr) (x : Str) (k : Nat) (dds : List DV) (h : List (Str × DV) → List DV → RS) : Prop where
  ex : ∃ C f fd ps dvs ds, Γ x = some C ∧ mg x = some (.ref C) ∧ Mk K C f ∧ FnOk P w K mg base (L2.CX P w) k f fd ps (spS ⟨K, Γ⟩ x h) ∧ Binds K fd ps ds ∧ Vals dvs ds ∧ ∀ F, RFs ⟨K, Γ⟩ F dvs dds
section
variable {S : Bool} {X : Cx} {Γ : Str → Option Addr} {W : WX} {e a o : Expr} {es : List Expr} {fa fo : Slots → R DV} {fs : Slots → R (List DV)} {pos p apos : Pos} {k j : Nat} {h : List DV → R DV} {x c m : Str} {ps : List Str} {dds : List DV}
theorem de_mk {h : List (Str × DV) → List DV → RS} (kx : Kx false X W (L2.CX X.prog X.w) k) (D : MkD X.prog X.w X.K X.mg X.base Γ x j dds h) (hj : j + 1 ≤ k) (ha : DA X Γ W (e :: es) fs) (hg : Gl X x := by rfl) (hdb : (x == ("__debug__" : Str)) = false := by decide) (he : starEach (e :: es) X.env = (false, eval e X.env) :: starEach es X.env := by rfl) (hpl : (backTo pos (starEach es X.env)).any (·.1) = false := by rfl) :
    DE X Γ W (.Call (.Name x p) (e :: es) [] pos) (mkV x h dds fs) := by
  obtain ⟨C, f, fd, ps, dvs, ds, hC, hm, M, F, hb, hd, hdd⟩ := D.ex
  exact de_make M hC F (kx.room hj) hm hb hd hdd kx.hx ha hg hdb he hpl
/-- o.m(e, ..) -/
theorem de_methN {pl : Sem Bool} (kx : Kx false X W (L2.CX X.prog X.w) k) (D : MDef false X.prog X.w X.K X.mg X.base (L2.CX X.prog X.w) Γ c m j ps h) (hj : j ≤ k) (ho : DE X Γ W o fo) (ha : DA X Γ W (e :: es) fs) (hst : starEach (e :: es) X.env = (false, eval e X.env) :: starEach es X.env := by rfl) (hpl : (backTo pos (starEach es X.env)).any (·.1) = false := by rfl)
    (ht : eval (.Call (.Attribute o m apos) (e :: es) [] pos) X.env = (do
      let ov ← eval o X.env
      standAt apos.atName
      let (f, first) ← holding [ov] (getMethod ov m pl)
      callWith pos f first (backTo pos (starEach (e :: es) X.env)) (backToKw pos (keywordEach [] X.env))) := by rfl) :
    DE X Γ W (.Call (.Attribute o m apos) (e :: es) [] pos) (methV c m h [] fo fs) := by
  obtain ⟨C, f, fd, hC, hc, hm, _, Fn, hbn⟩ := D.ex
  exact de_meth ho hC hc hm Fn.ok (kx.room hj) hbn .nil (fun _ => .nil) kx.hx ha hst hpl ht
/-- str(a), a an instance -/
theorem de_strO (kx : Kx false X W (L2.CX X.prog X.w) k) (D : MDef false X.prog X.w X.K X.mg X.base (L2.CX X.prog X.w) Γ c "__str__" j ps h) (hj : j + 1 ≤ k) (hm : X.mg "str" = none) (ha : DE X Γ W a fa) (hg : Gl X "str" := by rfl)
    (hs : starEach [a] X.env = (false, eval a X.env) :: starEach [] X.env := by rfl) : DE X Γ W (.Call (.Name "str" p) [a] [] pos) (strO c h fa) := by
  obtain ⟨C, f, fd, hC, hc, hme, _, Fn, hbn⟩ := D.ex
  refine ⟨⟨fun pins s σ H Q I ⟨F0, As, env, S0, q⟩ => ?_⟩⟩
  refine wpAny_Call_Name_kw (ld_blt I hg hm (u := .type "str") (by decide +kernel) ?_)
  refine PyProof.Rows.callWith_type1 (thn ((pa_cons ha.pe pa_nil hs).run pos pins s σ H (fun vs H1 => ∃ v F1 xs z, vs = [v] ∧ DL.Ext F0 H F1 H1 ∧ RF ⟨X.K, Γ⟩ F1 v (.ins c xs) ∧ h [.ins c xs] = .ok (.str z) ∧ ∀ v F' H' A, DL.Ext F0 H F' H' → Fresh F' H A → RO ⟨X.K, Γ⟩ F' H' v (.str z) A → Q v H') I ?_) fun us s1 ⟨vs, H1, I1, r, v, F1, xs, z, ev, x1, r1, e1, q1⟩ => ?_) hs rfl
  · refine ⟨F0, As, env, S0, ?_⟩
    unfold strO at q
    cases hf : fa env with
    | stuck => rw [hf] at q; exact q
    | ex x => rw [hf] at q; exact q
    | ok d =>
      rw [hf] at q
      intro v F1 H1 A x1 fr r
      have r1 := RO.freeze r fr.nF
      simp only [R.bind] at q
      cases hz : freeze d with
      | ins c1 xs =>
        rw [hz] at q r1
        simp only at q
        by_cases z : c1 = c
        · subst z
          simp only [if_true] at q
          cases hh : h [.ins c1 xs] with
          | ok d2 =>
            rw [hh] at q
            cases d2 with
            | str z => exact ⟨v, _, xs, z, rfl, frz_ext x1 fr, r1, hh, q⟩
            | _ => exact q.elim
          | ex x => rw [hh] at q; exact q.elim
          | stuck => rw [hh] at q; exact q.elim
        · rw [if_neg z] at q; exact q.elim
      | _ => rw [hz] at q; exact q.elim
  · subst ev
    obtain ⟨u, rfl, ru⟩ := r.one
    obtain ⟨p, C1, dx, vs, rfl, h1, h2, h3⟩ := ins_of r1
    obtain rfl : u = Value.ref p := ru
    have e2 : C1 = C := Option.some.inj (h2.symm.trans hC)
    subst e2
    obtain ⟨mA, J, _⟩ := ins_get I1.hok (x1.fh _ _ h1)
    obtain ⟨od, J, _⟩ := J.look
    have hr : Room j X.A.in1.in1 := ((kx.room (show j + 1 ≤ k from hj)).in1 |> fun r => ⟨r.hd, r.dp, by have := (kx.room (show j + 1 ≤ k from hj)).un; show X.A.units + 1 + 1 + 16 * j + 200 < cLine; omega⟩)
    have e0 : Env0 X.prog X.w X.K X.mg X.base X.A.in1.in1 X.stack s1 H1 := I1.env0.in1.in1
    have hsp : spP ⟨X.K, Γ⟩ h [.ref p] H1 (fun v H2 => v = .str z ∧ Q (.str z) H2) (fun _ _ _ => False) := ⟨F1, [.ins c xs], x1.fh, .cons r1 .nil, by
      rw [e1]
      intro v F' H' A x3 fr3 r3
      cases r3.str_inv
      exact ⟨rfl, q1 (.str z) F' H' [] (x1.trans x3) .nil (.frz (.str z))⟩⟩
    have hl : ps.length = 1 := (Fn.ok.len _ _ _ _ hsp).symm
    have b := hbn s1 [.ref p] I1.kIn (by simp [hl])
    rw [List.append_nil] at b
    refine PySem.W.kso_call (by have := hr.un; omega) I1.kIn J hme.at_ hme.fn (wpAny_call (codeAny_mono (Fn.ok.run X.A.in1.in1 X.stack s1 H1 ⟨[.ref p], []⟩ [.ref p] [.ref p] _ _ hr e0 b (.cons rfl .nil) hsp) fun r s' hq => ?_))
    cases r with
    | error e =>
      obtain ⟨_, _, _, _, _, _, _, _, _, _, _, _, hF⟩ := hq
      exact hF.elim
    | ok fl => cases fl with
      | ret u =>
        obtain ⟨v, H', I3, rv, ev, q3⟩ := I1.after hq
        subst ev
        obtain ⟨t, rfl⟩ := rv
        exact ⟨.str z, H', I3, ⟨t, rfl⟩, q3⟩
      | next => exact hq.elim
      | brk => exact hq.elim
      | cont => exact hq.elim
end
end DL
end
section
set_option maxHeartbeats 1000000
namespace DL
open PySem PySem.Spec L2 PyProof.Rows
section
variable {P : Program} {w : World} {K : PySem.W.Frag} {mg : Str → Option Value} {base : Heap} {Γ : Str → Option Addr} {x qual : Str} {params : Arguments} {body : List Stmt} {scope : Scope} {dvs : List V} {kws : List (Str × V)} {f : Addr} {fd : FuncData} {N ps : List Str} {k m : Nat} {G : Slots → Out}
theorem kx_of {cdv : Value} {A : Around} {outer : List Env} {s : Shared} {H : Hp} {E : XK} (S : FnScope N ps scope) (hr : Room k (A.deeper (envOfC qual scope s.heap.objs.size f cdv))) :
    Kx false (cxOf (L2.CX P w) P w K mg base N qual scope f cdv A outer s H E) (fun cls d _ H => E cls d H) (L2.CX P w) k ∧ Ky (cxOf (L2.CX P w) P w K mg base N qual scope f cdv A outer s H E) (fun cls d _ H => E cls d H) := by
  have tk : Takes (cxOf (L2.CX P w) P w K mg base N qual scope f cdv A outer s H E) (fun cls d _ H => E cls d H) := takes_of rfl rfl rfl rfl
  exact ⟨⟨S.nd, ⟨hr.dp, hr.un⟩, fun _ => hr.hd, passAt tk⟩, ⟨rfl, passes_of rfl, tk⟩⟩
/-- a def, by its body's derivation -/
theorem def_d (F : FunD K x qual params body scope dvs kws f fd) (S : FnScope N ps scope) (hN : N.length = ps.length + m)
    (hb : ∀ (cdv : Value) (A : Around) (outer : List Env) (s : Shared) (H : Hp) (E : XK), Kx false (cxOf (L2.CX P w) P w K mg base N qual scope f cdv A outer s H E) (fun cls d _ H => E cls d H) (L2.CX P w) k → Ky (cxOf (L2.CX P w) P w K mg base N qual scope f cdv A outer s H E) (fun cls d _ H => E cls d H) →
      DSs (cxOf (L2.CX P w) P w K mg base N qual scope f cdv A outer s H E) Γ (fun cls d _ H => E cls d H) body G) : Fno false P w K mg base (L2.CX P w) (k + 1) f fd ps (spP ⟨K, Γ⟩ (fnR ps.length m G)) :=
  ⟨fn_d F S hN fun cdv A outer s H E hr => let ⟨kx, ky⟩ := kx_of S hr; hb cdv A outer s H E kx ky, fun z => Bool.noConfusion z⟩
/-- the same of an __init__ and the like -/
theorem def_s {c : Str} (F : FunD K x qual params body scope dvs kws f fd) (S : FnScope N ps scope) (hN : N.length = ps.length + m)
    (hb : ∀ (cdv : Value) (A : Around) (outer : List Env) (s : Shared) (H : Hp) (E : XK), Kx false (cxOf (L2.CX P w) P w K mg base N qual scope f cdv A outer s H E) (fun cls d _ H => E cls d H) (L2.CX P w) k → Ky (cxOf (L2.CX P w) P w K mg base N qual scope f cdv A outer s H E) (fun cls d _ H => E cls d H) →
      DSs (cxOf (L2.CX P w) P w K mg base N qual scope f cdv A outer s H E) Γ (fun cls d _ H => E cls d H) body G) : FnOk P w K mg base (L2.CX P w) (k + 1) f fd ps (spS ⟨K, Γ⟩ c (fnS c ps.length m G)) :=
  fn_s F S hN fun cdv A outer s H E hr => let ⟨kx, ky⟩ := kx_of S hr; hb cdv A outer s H E kx ky
/-- a def that may be called in a suite -/
theorem def_sd (F : FunD K x qual params body scope dvs kws f fd) (S : FnScope N ps scope) (hN : N.length = ps.length + m)
    (hb : ∀ (cdv : Value) (A : Around) (outer : List Env) (s : Shared) (H : Hp) (E : XK), Kx true (cxS (L2.CX P w) P w K mg base N qual scope f cdv A outer s H E) (fun cls d _ H => E cls d H) (L2.CX P w) k →
      DSs (cxS (L2.CX P w) P w K mg base N qual scope f cdv A outer s H E) Γ (fun cls d _ H => E cls d H) body G) : Fno true P w K mg base (L2.CX P w) (k + 1) f fd ps (spP ⟨K, Γ⟩ (fnR ps.length m G)) := by
  have h := fn_sd (CX := L2.CX P w) F S hN fun cdv A outer s H E hr => by
    have tk : Takes (cxS (L2.CX P w) P w K mg base N qual scope f cdv A outer s H E) (fun cls d _ H => E cls d H) := takes_of rfl rfl rfl rfl
    exact hb cdv A outer s H E ⟨S.nd, hr, (fun z => Bool.noConfusion z), passAt tk⟩
  exact ⟨h.ok, fun _ => h⟩
theorem Fno.weak {S : Bool} {CX : CXT} {sp : Sp} (h : Fno true P w K mg base CX k f fd ps sp) : Fno S P w K mg base CX k f fd ps sp := ⟨h.ok, fun _ => h.s rfl⟩
theorem Def.weak {S : Bool} {CX : CXT} {h : List DV → R DV} (D : Def true P w K mg base CX Γ x k ps h) : Def S P w K mg base CX Γ x k ps h := by
  obtain ⟨f, fd, h1, h2, h3, h4⟩ := D.ex
  exact ⟨f, fd, h1, h2, h3.weak, h4⟩
end
end DL
end
section
set_option maxHeartbeats 1000000
namespace DL
open PySem PySem.Spec L2 PyProof.Rows

/-! ### f-strings of ints and texts -/
section
variable {X : Cx} {Γ : Str → Option Addr} {W : WX} {e a b : Expr} {es : List Expr} {fa fb fe : Slots → R DV} {fs : Slots → R (List DV)} {pos : Pos}
def fmtD : DV → Option Str
  | .str z => if z.length < big then some z else none
  | .int i => if i.natAbs.log2 < 1920 then some (toString i) else none
  | _ => none
/-- each part's reading gives a text -/
structure DF (X : Cx) (Γ : Str → Option Addr) (W : WX) (e : Expr) (f : Slots → R DV) : Prop where
  pe : PE X e (rdV ⟨X.K, Γ⟩ W f)
def fmtV (f : Slots → R DV) : Slots → R DV := fun env => (f env).bind fun d => match fmtD d with
  | some z => .ok (.str z)
  | none => .stuck
theorem df_fmt (h : DT X Γ W e fe) : DF X Γ W (.FormattedValue e (-1) none pos) (fmtV fe) := ⟨pe_imp (pe_fmt h.pe) fun σ H Q ⟨F, As, env, S, q⟩ => by
  refine ⟨F, As, env, S, ?_⟩
  unfold fmtV at q
  cases hf : fe env with
  | stuck => rw [hf] at q; exact q
  | ex x => rw [hf] at q; exact q
  | ok d =>
    rw [hf] at q
    intro v F1 H1 A x1 r
    simp only [R.bind] at q
    cases d with
    | str z =>
      cases r.str_inv
      unfold fmtD at q
      by_cases c : z.length < big
      · simp only [if_pos c] at q
        exact .inl ⟨z, rfl, by rw [sizeLine_eq]; unfold big at c; omega, q _ F1 H1 [] x1 (.frz (.str z))⟩
      · simp only [if_neg c] at q
    | int i =>
      cases r.int_inv
      unfold fmtD at q
      by_cases c : i.natAbs.log2 < 1920
      · simp only [if_pos c] at q
        exact .inr ⟨i, rfl, c, q _ F1 H1 [] x1 (.frz (.str _))⟩
      · simp only [if_neg c] at q
    | _ => exact q.elim⟩
theorem df_lit {z : Str} {j : Nat} : DF X Γ W (.Constant (.str z) j pos) (cst (.str z)) := ⟨(de_str (X := X) (Γ := Γ) (W := W)).dt.pe⟩
/-- several parts behind acc -/
def joinV : List (Slots → R DV) → Str → Slots → R DV
  | [], acc => fun _ => .ok (.str acc)
  | f :: fs, acc => fun env => (f env).bind fun d => match d with
    | .str y => if (acc ++ y).length < big then joinV fs (acc ++ y) env else .stuck
    | _ => .stuck
inductive DFs (X : Cx) (Γ : Str → Option Addr) (W : WX) : List Expr → List (Slots → R DV) → Prop where
  | nil : DFs X Γ W [] []
  | cons {e : Expr} {f : Slots → R DV} {es : List Expr} {fs : List (Slots → R DV)} (h : DF X Γ W e f) (r : DFs X Γ W es fs) : DFs X Γ W (e :: es) (f :: fs)
theorem DFs.pj {es : List Expr} {fs : List (Slots → R DV)} (h : DFs X Γ W es fs) : PJ X es (fs.map fun f => rdV ⟨X.K, Γ⟩ W f) := by
  induction h with
  | nil => exact .nil
  | cons h _ ih => exact .cons h.pe ih
theorem join_read {σ : L2.St} {Q : VK} : ∀ (fs : List (Slots → R DV)) (acc : Str) (F0 H0 F H : Hp) (As : List Addr) (env : Slots), SA ⟨X.K, Γ⟩ F As σ H env → DL.Ext F0 H0 F H → (match joinV fs acc env with
    | .ok d => ∀ v F' H' A, DL.Ext F0 H0 F' H' → Fresh F' H0 A → RO ⟨X.K, Γ⟩ F' H' v d A → Q v H'
    | .ex x => ∀ cls dx F' H', DL.Ext F0 H0 F' H' → XOk ⟨X.K, Γ⟩ F' cls dx x → W cls dx σ H'
    | .stuck => False) → tJs (fs.map fun f => rdV ⟨X.K, Γ⟩ W f) acc σ H fun out H1 => Q (.str out) H1
  | [], acc, F0, H0, F, H, As, env, S, x0, q => q _ F H [] x0 .nil (.frz (.str acc))
  | f :: fs, acc, F0, H0, F, H, As, env, S, x0, q => by
    refine ⟨F, As, env, S, ?_⟩
    unfold joinV at q
    cases hf : f env with
    | stuck => rw [hf] at q; exact q
    | ex x => rw [hf] at q; exact fun cls dx F' H' x1 o => q cls dx F' H' (x0.trans x1) o
    | ok d =>
      rw [hf] at q
      intro v F1 H1 A x1 r
      simp only [R.bind] at q
      cases d with
      | str y =>
        cases r.str_inv
        simp only at q
        by_cases c : (acc ++ y).length < big
        · rw [if_pos c] at q
          exact ⟨y, rfl, by rw [sizeLine_eq]; unfold big at c; omega, join_read fs (acc ++ y) F0 H0 F1 H1 As env (S.ext x1) (x0.trans x1) q⟩
        · rw [if_neg c] at q; exact q.elim
      | _ => exact q.elim
theorem de_joined {v1 v2 : Expr} {rest : List Expr} {fs : List (Slots → R DV)} (h : DFs X Γ W (v1 :: v2 :: rest) fs) : DE X Γ W (.JoinedStr (v1 :: v2 :: rest) pos) (joinV fs Str.empty) :=
  ⟨pe_imp (pe_joined h.pj) fun σ H Q ⟨F, As, env, S, q⟩ => join_read fs Str.empty F H F H As env S (.refl S.fh) q⟩
end

/-! ### a != b of two instances of a class that has an own __eq__, no __ne__ -/
theorem ns_some {K : PySem.W.Frag} {h : Heap} {N : Addr} {mN : Str → Option Value} {n : Str} {v : Value} (X : K.In h) (G : h.Ns N mN) (e : PySem.W.nsIn K N n = some (some v)) : mN n = some v := by
  obtain ⟨ob, es, ep, h1, h2, _, h3⟩ := G
  unfold PySem.W.nsIn at e
  split at e
  · rename_i c d es' n' sl q
    have z := X _ _ q
    rw [h1] at z
    cases z; cases h2
    split at e
    · rename_i en he
      cases e
      rw [← h3]; unfold nsFind findBy; rw [← Array.find?_toList, he]; rfl
    · split at e <;> cases e
  · cases e
def neB (K : PySem.W.Frag) (C f : Addr) : Bool := match K.lookup C with
  | some ⟨.type "type", _, .cls cd, sl⟩ => (match cd.mro, sl.toList with
    | .ref C' :: bm, [_, _, _, _, some (.builtin _), _] => C' == C && bm == [.type "object"] && !cd.hasDel && PySem.W.nsOkIn K cd.ns && PySem.W.nsIn K cd.ns "__eq__" == some (some (.ref f)) && PySem.W.nsIn K cd.ns "__ne__" == some none
    | _, _ => false)
  | _ => false
theorem neB_ok {K : PySem.W.Frag} {h : Heap} {C f : Addr} (X : K.In h) (q : neB K C f = true) : ∃ nm N qn bs hdct sn sub ab col dd k0 k1 k2 k3 k5 newId mN,
    h.get? C = some (excClassObj nm qn C N bs [.type "object"] hdct sn sub ab col dd k0 k1 k2 k3 k5 newId) ∧ h.Ns N mN ∧ mN "__eq__" = some (.ref f) ∧ mN "__ne__" = none := by
  unfold neB at q
  split at q
  · rename_i dd cd sl ho
    split at q
    · rename_i C' bm k0 k1 k2 k3 n k5 hm hs
      simp only [Bool.and_eq_true, beq_iff_eq, Bool.not_eq_true'] at q
      obtain ⟨⟨⟨⟨⟨rfl, rfl⟩, hdel⟩, hok⟩, he⟩, hne⟩ := q
      obtain ⟨nm, bs, mro, ns, qn, hd, sn, sub, ab, col, del⟩ := cd
      dsimp only at hm hdel hok he hne
      subst hm hdel
      have hsl : sl = #[k0, k1, k2, k3, some (.builtin n), k5] := by
        obtain ⟨l⟩ := sl
        simp only at hs
        rw [hs]
      subst hsl
      have hn : h.Ns ns _ := .of_isNs (PySem.W.isNs_of_in X hok)
      exact ⟨nm, ns, qn, bs, hd, sn, sub, ab, col, dd, k0, k1, k2, k3, k5, n, _, X _ _ ho, hn, ns_some X hn he, PySem.W.nsMap_none_of_in X hok hne⟩
    · cases q
  · cases q

structure NeOk (K : PySem.W.Frag) (Γ : Str → Option Addr) (c : Str) : Prop where
  ok : ∀ C f, Γ c = some C → PySem.W.findIn K (.ref C) "__eq__" = some (some (.ref f)) → neB K C f = true ∧ PySem.W.isFn K (.ref f) = true
section
variable {S : Bool} {X : Cx} {Γ : Str → Option Addr} {W : WX} {a b : Expr} {fa fb : Slots → R DV} {pos : Pos} {k j : Nat} {ps : List Str} {h : List DV → R DV} {c : Str}
def neOwn (c : Str) (h : List DV → R DV) (d e : DV) : R DV := match d, e with
  | .ins c1 xs, .ins c2 ys => if c1 = c ∧ c2 = c then (match h [.ins c1 xs, .ins c2 ys] with | .ok (.bl v) => .ok (.bl (!v)) | _ => .stuck) else .stuck
  | _, _ => .stuck
def neO (c : Str) (h : List DV → R DV) (fa fb : Slots → R DV) : Slots → R DV := fun env => (fa env).bind fun d => (fb env).bind fun e => neOwn c h (freeze d) (freeze e)
theorem neOwn_inv {d e : DV} (h0 : neOwn c h d e ≠ .stuck) : ∃ xs ys v, d = .ins c xs ∧ e = .ins c ys ∧ h [.ins c xs, .ins c ys] = .ok (.bl v) ∧ neOwn c h d e = .ok (.bl (!v)) := by
  unfold neOwn at h0 ⊢
  split at h0
  · rename_i c1 xs c2 ys
    by_cases z : c1 = c ∧ c2 = c
    · rw [if_pos z] at h0
      obtain ⟨rfl, rfl⟩ := z
      split at h0
      · rename_i v hh
        refine ⟨xs, ys, v, rfl, rfl, hh, ?_⟩
        rename_i c2'
        simp [hh]
      · exact absurd rfl h0
    · rw [if_neg z] at h0; exact absurd rfl h0
  · exact absurd rfl h0
theorem de_neO (kx : Kx false X W (L2.CX X.prog X.w) k) (D : MDef false X.prog X.w X.K X.mg X.base (L2.CX X.prog X.w) Γ c "__eq__" j ps h) (hj : j + 1 ≤ k) (hn : NeOk X.K Γ c) (ha : DE X Γ W a fa) (hb : DE X Γ W b fb) (hm : behindInMarks .NotEq b = false := by first | exact nomark _ | rfl) : DE X Γ W (.Compare a [.NotEq] [b] pos) (neO c h fa fb) := by
  obtain ⟨C, f, fd, hC, hc, hme, hsf, Fn, hbn⟩ := D.ex
  let r : R2 := fun x y H2 Q => ∃ F0 H0 F2 xs ys v0, DL.Ext F0 H0 F2 H2 ∧ RF ⟨X.K, Γ⟩ F2 x (.ins c xs) ∧ RF ⟨X.K, Γ⟩ F2 y (.ins c ys) ∧ h [.ins c xs, .ins c ys] = .ok (.bl v0) ∧ ∀ v F' H' A, DL.Ext F0 H0 F' H' → Fresh F' H0 A → RO ⟨X.K, Γ⟩ F' H' v (.bl (!v0)) A → Q v H'
  have op : OpR X (compareOp .NotEq) r := by
    rintro pins s σ H x y va vb Q I rx ry ⟨F0, H0, F2, xs, ys, v0, x2, r1, r2, hv, q⟩
    obtain ⟨p, C1, dx, vs, rfl, h1, h2, h3⟩ := ins_of r1
    obtain ⟨p2, C2, dx2, vs2, rfl, k1, k2, k3⟩ := ins_of r2
    obtain rfl : va = Value.ref p := rx
    obtain rfl : vb = Value.ref p2 := ry
    have e1 : C1 = C := Option.some.inj (h2.symm.trans hC)
    have e2 : C2 = C := Option.some.inj (k2.symm.trans hC)
    subst e1 e2
    obtain ⟨mA, J, _⟩ := ins_get I.hok (x2.fh _ _ h1)
    obtain ⟨mB, J', _⟩ := ins_get I.hok (x2.fh _ _ k1)
    obtain ⟨od, J, _⟩ := J.look
    obtain ⟨od', J', _⟩ := J'.look
    obtain ⟨q1, q2⟩ := hn.ok _ f hC hme.at_
    obtain ⟨nm, N, qn, bs, hdct, sn, sub, ab, col, dd, z0, z1, z2, z3, z5, newId, mN, o1, o2, o3, o4⟩ := neB_ok I.kIn q1
    have hr : Room j X.A.in1 := (kx.room hj).in1
    obtain ⟨hp, gg, dr, tk, os⟩ := s
    have e0 : Env0 X.prog X.w X.K X.mg X.base X.A.in1 X.stack ⟨hp, gg, dr, tk, os⟩ H := I.env0.in1
    have hsp : spP ⟨X.K, Γ⟩ h [.ref p, .ref p2] H (fun v H2 => v = .bl v0 ∧ Q (.bl (!v0)) H2) (fun _ _ _ => False) := ⟨F2, [.ins c xs, .ins c ys], x2.fh, .cons r1 (.cons r2 .nil), by
      rw [hv]
      intro v F' H' A x3 fr3 r3
      cases r3.bl_inv
      exact ⟨rfl, q (.bl (!v0)) F' H' [] (x2.trans x3) .nil (.frz (.bl _))⟩⟩
    have hl : ps.length = 2 := (Fn.ok.len _ _ _ _ hsp).symm
    have b := hbn ⟨hp, gg, dr, tk, os⟩ [.ref p, .ref p2] I.kIn (by simp [hl])
    rw [List.append_nil] at b
    obtain ⟨of, hof, hofc⟩ : ∃ of, hp.get? f = some of ∧ of.cls = .type "function" := by
      have z : PySem.W.typeIn X.K (.ref f) = some (.type "function") := beq_iff_eq.mp q2
      obtain ⟨ob, h1, h2⟩ := Option.map_eq_some_iff.mp (show (X.K.lookup f).map (·.cls) = some (.type "function") from z)
      exact ⟨ob, I.kIn _ _ h1, h2⟩
    refine compareOp_ne_ownEq F.cmp_object ⟨_, of, nm, qn, N, bs, hdct, sn, sub, ab, col, dd, z0, z1, z2, z3, z5, newId, mN, _, J.at_, J.cls, o1, o2, o3, hof, hofc, F.cmp_object.mro, F.cmp_object.eq.lookup, o4⟩ J'.at_ J'.cls (by have := kx.u64; omega) (wpAny_call (codeAny_mono (Fn.ok.run X.A.in1 X.stack ⟨hp, gg, dr, tk, os⟩ H ⟨[.ref p, .ref p2], []⟩ [.ref p, .ref p2] [.ref p, .ref p2] _ _ hr e0 b (.cons rfl (.cons rfl .nil)) hsp) fun r s' hq => ?_))
    cases r with
    | error e =>
      obtain ⟨_, _, _, _, _, _, _, _, _, _, _, _, hF⟩ := hq
      exact hF.elim
    | ok fl => cases fl with
      | ret u =>
        obtain ⟨v, H', I3, rv, ev, q3⟩ := I.after hq
        subst ev
        obtain rfl : u = .bool v0 := rv
        exact ⟨v0, rfl, .bl (!v0), H', I3, rfl, q3⟩
      | next => exact hq.elim
      | brk => exact hq.elim
      | cont => exact hq.elim
  refine ⟨pe_imp (pe_cmpR op ha.pe hb.pe hm) fun σ H Q q => ?_⟩
  exact both_read (T := fun v w σ H2 Q => r v w H2 Q) (g := neOwn c h) q fun v w F0 H0 F2 H2 d e x2 _ r1 r2 q => by
    have ns : neOwn c h d e ≠ .stuck := fun z => by rw [z] at q; exact q
    obtain ⟨xs, ys, v0, rfl, rfl, e3, e4⟩ := neOwn_inv ns
    rw [e4] at q
    exact ⟨F0, H0, F2, xs, ys, v0, x2, r1, r2, e3, q⟩
end
end DL
end
section
set_option maxHeartbeats 1000000
namespace DL
open PySem PySem.Spec L2 PyProof.Rows
/-- what may stand on the right of an own ==: one of the class, an int, a tuple -/
def nfD (c : Str) : DV → Bool
  | .ins c' _ => c' == c
  | .int _ => true
  | .tup _ => true
  | _ => false
section
variable {K : PySem.W.Frag} {l : List Str} {c : Str}
def nfB (K : PySem.W.Frag) (c : Str) : Bool := PySem.W.notFirst K (He.ga K c) (.type "int") && (PySem.W.notFirst K (He.ga K c) (.type "tuple") && (insB K c && PySem.W.notFirst K (He.ga K c) (.ref (He.ga K c))))
theorem nfB_ok (h : nfB K c = true) (hl : l.contains c = true) : NfOk K (gam K l) c (nfD c) := by
  unfold nfB at h
  simp only [Bool.and_eq_true] at h
  obtain ⟨h1, h2, h3, h4⟩ := h
  have hg : gam K l c = some (He.ga K c) := by unfold gam; rw [if_pos hl]
  refine ⟨fun e C he hC => ?_⟩
  rw [gam_some hC]
  cases e with
  | int i => exact ⟨_, rfl, ⟨(fun _ _ _ z => by rcases z with z | z <;> cases z), (fun _ _ _ z => by cases z)⟩, h1⟩
  | tup ds => exact ⟨_, rfl, ⟨(fun _ _ _ z => by rcases z with z | z <;> cases z), (fun _ _ _ z => by cases z)⟩, h2⟩
  | ins c' fs =>
    have e1 : c' = c := by simpa [nfD] using he
    subst e1
    refine ⟨.ref (He.ga K c'), by simp [tyv, hg], ⟨fun c2 fs2 C2 z hz => ?_, (fun _ _ _ z => by cases z)⟩, h4⟩
    rcases z with z | z
    · cases z; rw [gam_some hz]; exact insB_ok h3
    · cases z
  | _ => cases he
/-- facts of fields, of classes -/
def atB (K : PySem.W.Frag) (f : Str) (cs : List Str) : Bool := cs.all fun c => (He.Fa.cls c).ok K && (He.Fa.noat c f).ok K
theorem atB_ok {f : Str} {cs : List Str} (h : atB K f cs = true) : AtK K (gam K l) f fun c => cs.contains c := by
  intro c C hc hC
  rw [gam_some hC]
  have := List.all_eq_true.mp h c (by simpa using hc)
  simp only [Bool.and_eq_true] at this
  exact ⟨He.cls_ok this.1, He.noat_ok this.2⟩
def axB (K : PySem.W.Frag) (f : Str) (cs : List Str) : Bool := cs.all fun c => xfB K (He.ga K c) && decide (PySem.W.findIn K (.ref (He.ga K c)) f = some none)
theorem axB_ok {f : Str} {cs : List Str} (h : axB K f cs = true) : AxK K (gam K l) f fun c => cs.contains c := by
  intro c C hc hC
  rw [gam_some hC]
  have := List.all_eq_true.mp h c (by simpa using hc)
  simp only [Bool.and_eq_true, decide_eq_true_eq] at this
  exact ⟨xfB_ok this.1, this.2⟩
theorem rz_ok {mg : Str → Option Value} {x : Str} (hl : l.contains x = true) (hm : mg x = some (.ref (He.ga K x))) (c : (He.Fa.exc x).ok K = true) : Rz K mg (gam K l) x := by
  obtain ⟨h1, h2, h3, h4⟩ := He.exc_ok c
  exact ⟨_, by unfold gam; rw [if_pos hl], hm, h2, h1, h3, h4⟩
def tzB (K : PySem.W.Frag) (x : Str) (tx : List (Str × Bool)) : Bool := tx.all fun p => decide (PySem.W.exmOne K (.ref (He.ga K p.1)) (.ref (He.ga K x)) = some p.2)
theorem tz_ok {mg : Str → Option Value} {x : Str} {tx : List (Str × Bool)} (hm : mg x = some (.ref (He.ga K x))) (h : tzB K x tx = true) : Tz K mg (gam K l) x fun c => tx.lookup c := by
  refine ⟨_, hm, fun c' C' b hC hb => ?_⟩
  rw [gam_some hC]
  have := List.all_eq_true.mp h _ (lookup_mem hb)
  simpa using this
theorem ne_ok {f : Addr} (h : neB K (He.ga K c) f = true) (hf : PySem.W.findIn K (.ref (He.ga K c)) "__eq__" = some (some (.ref f))) (h2 : PySem.W.isFn K (.ref f) = true) : NeOk K (gam K l) c := by
  refine ⟨fun C g hC hg => ?_⟩
  rw [gam_some hC] at hg ⊢
  rw [hf] at hg
  cases hg
  exact ⟨h, h2⟩
end
/-- y = [..] on one line, shared from here on -/
theorem ds_setLcF {X : Cx} {Γ : Str → Option Addr} {W : WX} {tg iter : Expr} {pos : Pos} {i : Nat} {y : Str} {py spos : Pos} {fs : Slots → R (List DV)} {gt : DV → Slots → Option Slots} {ft : Slots → R Bool} {fe : Slots → R DV} {elt : Expr} {ifs : List Expr} {scope : Scope} {own : List (Str × Nat)} (hc : X.calm = true) (hN : X.N.Nodup) (ok : BlkOk X.N X.env.scope scope own)
    (hi : DI X Γ W tg iter fs)
    (hg : ∀ (s : Shared) (H : Hp) (C : Addr) (cl : List (Str × Addr)) (fp : List Addr), DGb (X.blk s H scope (compEnvC scope cl C X.env) fp) Γ (own.map (·.2)) tg gt)
    (ht : ∀ (s : Shared) (H : Hp) (C : Addr) (cl : List (Str × Addr)) (fp : List Addr), DTs (X.blk s H scope (compEnvC scope cl C X.env) fp) Γ (fun _ _ _ _ => False) ifs ft)
    (he : ∀ (s : Shared) (H : Hp) (C : Addr) (cl : List (Str × Addr)) (fp : List Addr), DE (X.blk s H scope (compEnvC scope cl C X.env) fp) Γ (fun _ _ _ _ => False) elt fe)
    (hsw : swapsWith (.ListComp elt [⟨tg, iter, ifs, 0⟩] scope pos) (some (.Name y py)) spos.line X.env = pure true := by exact sw_true rfl rfl rfl rfl)
    (hy : X.N[i]? = some y := by rfl) (hyl : X.env.scope.names.lookup y = some .local := by rfl) (hs : ∀ x, foldedSetIterable iter X.env x = pure x := by intro _; rfl) :
    DS X Γ W (.Assign [.Name y py] (.ListComp elt [⟨tg, iter, ifs, 0⟩] scope pos) spos) (setF i (lcV (own.map (·.2)) fs gt ft fe)) := by
  have h := ps_setLc (own := own) (g := rdGb ⟨X.K, Γ⟩ (own.map (·.2)) gt) (tt := rdT ⟨X.K, Γ⟩ (fun _ _ _ _ => False) ft) (te := rdE ⟨X.K, Γ⟩ (fun _ _ _ _ => False) fe) hc hN hy hyl hsw hi.pi ok (fun s H C cl fp => (hg s H C cl fp).pg) (fun s H C cl fp => (ht s H C cl fp).pts) (fun s H C cl fp => (he s H C cl fp).pe) hs
  refine ⟨ps_imp h fun D σ H q => lc_read (rdS_E (k := fun d env => .nx (env.set i (some (freeze d)))) (T := fun v D σ H => gName i v σ H D.nx) (fun v d B F As env A D σ H R K q => ?_) q)⟩
  obtain ⟨R1, r1, s1⟩ := R.shareK K
  obtain ⟨As', R'⟩ := R1.putF (i := i) r1
  exact q _ As' _ H s1 R'
end DL
end
section
set_option maxHeartbeats 1000000
namespace DL
open PySem PySem.Spec L2 PyProof.Rows
/-! ### the head: He's facts, and further tests -/
def obsX (fa : List He.Fa) (fn : List He.DefD) (ex : List (PySem.W.Frag → Bool)) (K : PySem.W.Frag) : He.AlD := ((He.obsD fa fn K).1 && ex.all fun t => t K, (He.obsD fa fn K).2)
structure SayX (fa : List He.Fa) (fn : List He.DefD) (ex : List (PySem.W.Frag → Bool)) (K : PySem.W.Frag) : Prop where
  he : He.SaysD fa fn K
  ex : ex.all (fun t => t K) = true
def hookX (n : Nat) (fa : List He.Fa) (fn : List He.DefD) (ex : List (PySem.W.Frag → Bool)) : PySem.W.Hook where
  α := He.AlD
  obs := fun s => obsX fa fn ex (He.frG s.heap.get? (He.asD s.heap.get? n))
  val := fun _ => He.valD fn
  says := fun _ h => ∃ K : PySem.W.Frag, K.In h ∧ SayX fa fn ex K
  of := fun _ s e => by
    have h1 : ((He.obsD fa fn (He.frG s.heap.get? (He.asD s.heap.get? n))).1 && ex.all fun t => t (He.frG s.heap.get? (He.asD s.heap.get? n))) = true := congrArg (fun z : He.AlD => z.1) e
    have h2 : (obsX fa fn ex (He.frG s.heap.get? (He.asD s.heap.get? n))).2 = (He.valD fn).2 := by rw [e]
    obtain ⟨h3, h4⟩ := Bool.and_eq_true_iff.mp h1
    exact ⟨_, He.frG_in, ⟨Prod.ext h3 h2, h4⟩⟩
  keeps := fun _ _ _ ⟨K, hK, c⟩ k => ⟨K, PySem.W.Frag.In.keeps hK k, c⟩
def obsXG (n : Nat) (fa : List He.Fa) (fn : List He.DefD) (ex : List (PySem.W.Frag → Bool)) (g : Addr → Option Obj) : He.AlD := obsX fa fn ex (He.frG g (He.asD g n))
theorem obsXG_eq {n : Nat} {fa : List He.Fa} {fn : List He.DefD} {ex : List (PySem.W.Frag → Bool)} {g : Addr → Option Obj} {s : Shared} (h : ∀ a, g a = s.heap.get? a) : obsXG n fa fn ex g = (hookX n fa fn ex).obs s := by
  have e : g = s.heap.get? := funext h
  rw [e] <;> rfl
section
variable {fa : List He.Fa} {fn : List He.DefD} {ex : List (PySem.W.Frag → Bool)} {K : PySem.W.Frag}
theorem SayX.test (c : SayX fa fn ex K) (i : Nat) {t : PySem.W.Frag → Bool} (h : ex[i]? = some t := by rfl) : t K = true := List.all_eq_true.mp c.ex t (List.mem_of_getElem? h)
theorem gl_ok {x : Str} {v : Value} {h : Heap} {mg : Str → Option Value} (X : K.In h) (G : h.Ns mainGlobals mg) (c : He.eqO (PySem.W.nsIn K mainGlobals x) (some (some v)) = true) : mg x = some v := PySem.W.mg_of X G (He.eqO_ok c)
end
/-- script: the list of ints that the law is handed -/
theorem script_rf {g : Gc} {F : Hp} : ∀ ns : List Int, RFs g F (ns.map V.int) (ns.map DV.int)
  | [] => .nil
  | n :: ns => .cons (.int n) (script_rf ns)
end DL
end
section
set_option maxHeartbeats 1000000
namespace DL
open PySem PySem.Spec L2 PyProof.Rows
/-- what may be let out, whatever the world -/
def CXu (P : Program) : CXT := fun outer H s E e s' => ∃ w, L2.CX P w outer H s E e s'
theorem fnok_u {P : Program} {w : World} {K : PySem.W.Frag} {mg : Str → Option Value} {base : Heap} {k : Nat} {f : Addr} {fd : FuncData} {ps : List Str} {sp : Sp} (F : FnOk P w K mg base (L2.CX P w) k f fd ps sp) : FnOk P w K mg base (CXu P) k f fd ps sp :=
  ⟨F.len, fun A outer s H args us vs Q E hr e0 hb hv hs => codeAny_mono (F.run A outer s H args us vs Q E hr e0 hb hv hs) fun r s' hq => by
    cases r with
    | error e => exact ⟨w, hq⟩
    | ok fl => cases fl <;> exact hq⟩
theorem cxu_false {P : Program} (H : Hp) (s : Shared) (e : Value) (s' : Shared) (z : CXu P [] H s (fun _ _ _ => False) e s') : False := by
  obtain ⟨_, _, _, _, _, _, _, _, _, _, _, _, _, hF⟩ := z
  exact hF
end DL
end
section
set_option maxHeartbeats 200000
namespace DL
open PySem
section
variable {α β : Type} {a : α} {x : Exn} {f : α → R β}
@[simp] theorem bind_ok : (R.ok a).bind f = f a := rfl
@[simp] theorem bind_ex : (R.ex x : R α).bind f = .ex x := rfl
@[simp] theorem bind_stuck : (R.stuck : R α).bind f = .stuck := rfl
@[simp] theorem lift_some : lift (some a) = .ok a := rfl
@[simp] theorem lift_none : lift (none : Option α) = .stuck := rfl
end
section
variable {env : Slots} {fa fb f : Slots → R DV} {ba bb : Slots → R Bool} {fs : Slots → R (List DV)} {G G' : Slots → Out} {h : DV → DV → Option DV} {hl : List DV → Option DV} {d e : DV} {i : Nat}
@[simp] theorem var_app : var i env = (match (env[i]? : Option (Option DV)) with | some (some d) => .ok d | _ => .stuck) := rfl
@[simp] theorem cst_app : cst d env = .ok d := rfl
@[simp] theorem fz_app : fz f env = (f env).bind fun d => if isFrz d then .ok d else .stuck := rfl
@[simp] theorem op2_app : op2 h fa fb env = (fa env).bind fun x => (fb env).bind fun y => lift (h x y) := rfl
@[simp] theorem opN_app : opN hl fs env = (fs env).bind fun ds => lift (hl ds) := rfl
@[simp] theorem nilL_app : nilL env = .ok [] := rfl
@[simp] theorem consL_app : consL fa fs env = (fa env).bind fun d => (fs env).bind fun ds => .ok (d :: ds) := rfl
@[simp] theorem tst_app : tst f env = (f env).bind fun d => (match d with | .bl b => .ok b | _ => .stuck) := rfl
@[simp] theorem tru_app : tru f env = (f env).bind fun d => lift (truB d) := rfl
@[simp] theorem andB_app : andB ba bb env = (ba env).bind fun c => if c = true then bb env else .ok false := rfl
@[simp] theorem orB_app : orB ba bb env = (ba env).bind fun c => if c = true then .ok true else bb env := rfl
@[simp] theorem notB_app : notB ba env = (ba env).bind fun c => .ok (!c) := rfl
@[simp] theorem ifS_app : ifS ba G G' env = (match ba env with | .ok k => if k = true then G env else G' env | .ex x => .ex x env | .stuck => .stuck) := rfl
@[simp] theorem seqS_app : seqS G G' env = (match G env with | .nx e => G' e | o => o) := rfl
@[simp] theorem nxS_app : nxS env = .nx env := rfl
@[simp] theorem retS_app : retS f env = (match f env with | .ok d => .rt d env | .ex x => .ex x env | .stuck => .stuck) := rfl
@[simp] theorem setF_app : setF i f env = (match f env with | .ok d => .nx (env.set i (some (freeze d))) | .ex x => .ex x env | .stuck => .stuck) := rfl
@[simp] theorem setS_app : setS i f env = (match f env with | .ok d => .nx (env.set i (some d)) | .ex x => .ex x env | .stuck => .stuck) := rfl
@[simp] theorem one_app {g : DV → Option DV} : one g [d] = g d := rfl
@[simp] theorem two_app : two h [d, e] = h d e := rfl
end

section
variable {a b : Int} {z : Str} {k : Bool} {ds : List DV} {c : Str} {fs : List (Str × DV)} {env : Slots} {f fe fo : Slots → R DV} {cs ce : Str → Bool} {i : Nat} {L : Lens}
@[simp] theorem add_int : addD (.int a) (.int b) = some (.int (a + b)) := rfl
@[simp] theorem sub_int : subD (.int a) (.int b) = some (.int (a - b)) := rfl
@[simp] theorem lt_int : ltD (.int a) (.int b) = some (.bl (decide (a < b))) := rfl
@[simp] theorem le_int : leD (.int a) (.int b) = some (.bl (decide (a ≤ b))) := rfl
@[simp] theorem gt_int : gtD (.int a) (.int b) = some (.bl (decide (b < a))) := rfl
@[simp] theorem ge_int : geD (.int a) (.int b) = some (.bl (decide (b ≤ a))) := rfl
theorem mul_int (h : a.natAbs.log2 + b.natAbs.log2 < 1000000) : mulD (.int a) (.int b) = some (.int (a * b)) := by
  show (if _ then _ else _) = _
  rw [if_pos h]
theorem div_int (h : b ≠ 0) (h2 : b.natAbs.log2 < 9000) : divD (.int a) (.int b) = some (.int (fdivI a b)) := by
  show (if _ then _ else _) = _
  rw [if_pos (decide_eq_true ⟨h, h2⟩)]
theorem mod_int (h : b ≠ 0) : modD (.int a) (.int b) = some (.int (fmodI a b)) := by
  show (if _ then _ else _) = _
  rw [if_pos (decide_eq_true h)]
@[simp] theorem gcd_int : gcdD (.int a) (.int b) = some (.int ((Nat.gcd a.natAbs b.natAbs : Nat) : Int)) := rfl
@[simp] theorem eq_int : eqD (.int a) (.int b) = some (.bl (decide (a = b))) := by
  have h : ∀ i : Int, SeqAt.shaped (.int i) = true := fun i => by rfl
  show Option.map DV.bl (if (SeqAt.shaped (.int a) && SeqAt.shaped (.int b)) = true then some (a == b) else none) = _
  rw [h, h]
  by_cases c : a = b <;> simp [c]
@[simp] theorem ne_int : neD (.int a) (.int b) = some (.bl (!decide (a = b))) := by
  have h : ∀ i : Int, SeqAt.shaped (.int i) = true := fun i => by rfl
  show Option.map (fun b => DV.bl (!b)) (if (SeqAt.shaped (.int a) && SeqAt.shaped (.int b)) = true then some (a == b) else none) = _
  rw [h, h]
  by_cases c : a = b <;> simp [c]
@[simp] theorem frz_int : freeze (.int a) = .int a := rfl
@[simp] theorem frz_bl : freeze (.bl k) = .bl k := rfl
@[simp] theorem frz_str : freeze (.str z) = .str z := rfl
@[simp] theorem frz_non : freeze .non = .non := rfl
@[simp] theorem frz_tup : freeze (.tup ds) = .tup ds := rfl
@[simp] theorem frz_ins : freeze (.ins c fs) = .ins c fs := rfl
@[simp] theorem isf_int : isFrz (.int a) = true := rfl
@[simp] theorem isf_bl : isFrz (.bl k) = true := rfl
@[simp] theorem isf_str : isFrz (.str z) = true := rfl
@[simp] theorem isf_tup : isFrz (.tup ds) = true := rfl
@[simp] theorem isf_ins : isFrz (.ins c fs) = true := rfl
@[simp] theorem isf_lst : isFrz (.lst ds) = true := rfl
@[simp] theorem isf_scr : isFrz (.scr ds) = true := rfl
@[simp] theorem isf_non : isFrz .non = true := rfl
@[simp] theorem negV_app : negV f env = (f env).bind fun d => (match d with | .int i => .ok (.int (-i)) | _ => .stuck) := rfl
@[simp] theorem fldV_app : fldV c cs ce fo env = (fo env).bind fun d => lift (fldD c cs ce d) := rfl
@[simp] theorem fldD_i {f : Str} : fldD f cs ce (.ins c fs) = if cs c then fs.lookup f else none := rfl
theorem mget_id' {d : DV} (h : env[i]? = some (some d)) : mget i lId env = some d := by unfold mget; rw [h]; rfl
theorem mput_id' {d e : DV} (h : env[i]? = some (some d)) : mput i lId e env = env.set i (some e) := by unfold mput; rw [h]; rfl
theorem fldS_ok {n : Str} {d : DV} (h : fe env = .ok d) (h2 : env[0]? = some (some (.obj c fs))) (h3 : cs c = true) (h4 : fs.length < 900) : fldS n cs 0 lId fe env = .nx (env.set 0 (some (.obj c (putD n d fs)))) := by
  unfold fldS bindE
  rw [h]
  simp only [mget_id' h2]
  rw [if_pos ⟨h3, h4⟩]
  simp only [mput_id' h2]
end
end DL
end
section
set_option maxHeartbeats 0
namespace K00
open PySem PySem.Spec L2 PyProof.Rows DL
abbrev top (i : Nat) : Stmt := PySem.Challenge.pw_cutsagainst_k00_ratios_exact.main.body.getD i (.Pass ⟨0, 0, 0, 0⟩)
abbrev cbody (st : Stmt) : List Stmt := match st with
  | .ClassDef _ _ _ b _ _ _ _ _ _ _ => b
  | _ => []
abbrev cls : List Str := ["CutsError", "BadText", "BadValue", "BadRatio", "BadLot", "TooMany", "Ratio"]
def ans_BadLot_BadText_BadValue_TooMany : DV → Option Bool := ansT [("NoneType", false), ("bool", false), ("int", false), ("str", false), ("tuple", false), ("list", false)] [("Ratio", false)] [("BadRatio", false)]
def ans_CutsError : DV → Option Bool := ansT [("NoneType", false), ("bool", false), ("int", false), ("str", false), ("tuple", false), ("list", false)] [("Ratio", false)] [("BadRatio", true)]
def ans_Ratio : DV → Option Bool := ansT [("NoneType", false), ("bool", false), ("int", false), ("str", false), ("tuple", false), ("list", false)] [("Ratio", true)] [("BadRatio", false)]
def ans_ValueError : DV → Option Bool := ansT [("NoneType", false), ("bool", false), ("int", false), ("str", false), ("tuple", false), ("list", false)] [("Ratio", false)] [("BadRatio", true)]
def ans_bool : DV → Option Bool := ansT [("NoneType", false), ("bool", true), ("int", false), ("str", false), ("tuple", false), ("list", false)] [("Ratio", false)] [("BadRatio", false)]
def ans_int : DV → Option Bool := ansT [("NoneType", false), ("bool", true), ("int", true), ("str", false), ("tuple", false), ("list", false)] [("Ratio", false)] [("BadRatio", false)]
def mt_BadRatio : Str → Option Bool := fun c => List.lookup c [("BadRatio", true)]
def cs_d : Str → Bool := fun c => List.contains (["Ratio"] : List Str) c
def ce_d : Str → Bool := fun c => List.contains ([] : List Str) c
def cs_n : Str → Bool := fun c => List.contains (["Ratio"] : List Str) c
def ce_n : Str → Bool := fun c => List.contains ([] : List Str) c
def N_Ratio_init : List Str := ["self", "n", "d", "shared"]
def G_Ratio_init : Slots → Out := (seqS (ifS (tst (op2 eqD (var 2) (cst (.int 0)))) (fun env => .ex ⟨"BadRatio", []⟩ env) nxS)
      (seqS (setF 3 (opN (two gcdD) (consL (var 1) (consL (var 2) nilL))))
      (seqS (ifS (tst (op2 ltD (var 2) (cst (.int 0)))) (setF 3 (negV (var 3))) nxS)
      (seqS (fldS "n" cs_n 0 lId (op2 divD (var 1) (var 3)))
      (fldS "d" cs_d 0 lId (op2 divD (var 2) (var 3)))))))
def h_Ratio_init : List (Str × DV) → List DV → RS := fnS "Ratio" 3 1 G_Ratio_init
def dd_Ratio1 : List DV := [.int 1]
def dd_Ratio2 : List DV := []
def N_Ratio_eq : List Str := ["self", "other"]
def G_Ratio_eq : Slots → Out := (retS (andV (isiV ans_Ratio (var 1)) (andV (op2 eqD (fldV "n" cs_n ce_n (var 0)) (fldV "n" cs_n ce_n (var 1))) (op2 eqD (fldV "d" cs_d ce_d (var 0)) (fldV "d" cs_d ce_d (var 1))))))
def h_Ratio_eq : List DV → R DV := fnR 2 0 G_Ratio_eq
def N_Ratio_add : List Str := ["self", "other"]
def G_Ratio_add : Slots → Out := (retS (mkV "Ratio" h_Ratio_init dd_Ratio2 (consL (op2 addD (op2 mulD (fldV "n" cs_n ce_n (var 0)) (fldV "d" cs_d ce_d (var 1))) (op2 mulD (fldV "n" cs_n ce_n (var 1)) (fldV "d" cs_d ce_d (var 0)))) (consL (op2 mulD (fldV "d" cs_d ce_d (var 0)) (fldV "d" cs_d ce_d (var 1))) nilL))))
def h_Ratio_add : List DV → R DV := fnR 2 0 G_Ratio_add
def N_Ratio_sub : List Str := ["self", "other"]
def G_Ratio_sub : Slots → Out := (retS (mkV "Ratio" h_Ratio_init dd_Ratio2 (consL (op2 subD (op2 mulD (fldV "n" cs_n ce_n (var 0)) (fldV "d" cs_d ce_d (var 1))) (op2 mulD (fldV "n" cs_n ce_n (var 1)) (fldV "d" cs_d ce_d (var 0)))) (consL (op2 mulD (fldV "d" cs_d ce_d (var 0)) (fldV "d" cs_d ce_d (var 1))) nilL))))
def h_Ratio_sub : List DV → R DV := fnR 2 0 G_Ratio_sub
def N_Ratio_mul : List Str := ["self", "other"]
def G_Ratio_mul : Slots → Out := (retS (mkV "Ratio" h_Ratio_init dd_Ratio2 (consL (op2 mulD (fldV "n" cs_n ce_n (var 0)) (fldV "n" cs_n ce_n (var 1))) (consL (op2 mulD (fldV "d" cs_d ce_d (var 0)) (fldV "d" cs_d ce_d (var 1))) nilL))))
def h_Ratio_mul : List DV → R DV := fnR 2 0 G_Ratio_mul
def N_Ratio_str : List Str := ["self"]
def G_Ratio_str : Slots → Out := (retS (joinV [fmtV (fldV "n" cs_n ce_n (var 0)), cst (.str "/"), fmtV (fldV "d" cs_d ce_d (var 0))] Str.empty))
def h_Ratio_str : List DV → R DV := fnR 1 0 G_Ratio_str
def N_Ratio_over : List Str := ["self", "other"]
def G_Ratio_over : Slots → Out := (retS (mkV "Ratio" h_Ratio_init dd_Ratio2 (consL (op2 mulD (fldV "n" cs_n ce_n (var 0)) (fldV "d" cs_d ce_d (var 1))) (consL (op2 mulD (fldV "d" cs_d ce_d (var 0)) (fldV "n" cs_n ce_n (var 1))) nilL))))
def h_Ratio_over : List DV → R DV := fnR 2 0 G_Ratio_over
def N_Ratio_compare : List Str := ["self", "other", "left", "right"]
def G_Ratio_compare : Slots → Out := (seqS (setF 2 (op2 mulD (fldV "n" cs_n ce_n (var 0)) (fldV "d" cs_d ce_d (var 1))))
      (seqS (setF 3 (op2 mulD (fldV "n" cs_n ce_n (var 1)) (fldV "d" cs_d ce_d (var 0))))
      (seqS (ifS (tst (op2 ltD (var 2) (var 3))) (retS (negV (cst (.int 1)))) nxS)
      (seqS (ifS (tst (op2 gtD (var 2) (var 3))) (retS (cst (.int 1))) nxS)
      (retS (cst (.int 0)))))))
def h_Ratio_compare : List DV → R DV := fnR 2 2 G_Ratio_compare
def N__law_cell : List Str := ["script", "k"]
def G__law_cell : Slots → Out := (seqS (ifS (tst (op2 ltD (var 1) (opN (one lenD) (consL (var 0) nilL)))) (retS (fz (op2 ixD (var 0) (var 1)))) nxS)
      (retS (cst (.int 0))))
def h__law_cell : List DV → R DV := fnR 2 0 G__law_cell
def N__law_mixed : List Str := ["cell", "k", "first", "second"]
def G__law_mixed : Slots → Out := (seqS (setF 2 (op2 modD (op2 addD (op2 addD (op2 mulD (op2 modD (opN (one intD1) (consL (var 0) nilL)) (cst (.int 1000003))) (cst (.int 48271))) (op2 mulD (var 1) (cst (.int 69621)))) (cst (.int 11))) (cst (.int 2147483647))))
      (seqS (setF 3 (op2 modD (op2 addD (op2 addD (op2 mulD (var 2) (cst (.int 16807))) (op2 mulD (op2 mulD (var 1) (var 1)) (cst (.int 31)))) (op2 modD (opN (one intD1) (consL (var 0) nilL)) (cst (.int 8191)))) (cst (.int 2147483647))))
      (retS (op2 modD (op2 addD (op2 mulD (var 3) (cst (.int 69621))) (var 2)) (cst (.int 2147483629))))))
def h__law_mixed : List DV → R DV := fnR 2 2 G__law_mixed
def N__law_row : List Str := ["cell", "many", "row", "left", "k"]
def G__law_row : Slots → Out := (seqS (setS 2 (lstV nilL))
      (seqS (setF 3 (opN (one absD) (consL (var 0) nilL)))
      (seqS (forS (rgS1 (var 1)) (nameG 4) (ifS (andB (tst (op2 geD (opN (one absD) (consL (var 0) nilL)) (op2 powD (cst (.int 10)) (cst (.int 18))))) (tst (op2 gtD (var 3) (cst (.int 0))))) (seqS (appS 2 lId (op2 modD (opN (one intD1) (consL (var 3) nilL)) (op2 powD (cst (.int 10)) (cst (.int 61)))))
      (setF 3 (op2 divD (var 3) (op2 powD (cst (.int 10)) (cst (.int 61)))))) (appS 2 lId (op2 addD (op2 mulD (callV h__law_mixed [] (consL (fz (var 0)) (consL (fz (var 4)) nilL))) (cst (.int 2147483647))) (callV h__law_mixed [] (consL (fz (var 0)) (consL (op2 addD (var 4) (cst (.int 50))) nilL)))))))
      (retM 2))))
def h__law_row : List DV → R DV := fnR 2 3 G__law_row
def N__law_number : List Str := ["draw", "form"]
def G__law_number : Slots → Out := (seqS (ifS (tst (op2 eqD (var 1) (cst (.int 0)))) (retS (op2 modD (opN (one intD1) (consL (var 0) nilL)) (cst (.int 13)))) nxS)
      (seqS (ifS (tst (op2 eqD (var 1) (cst (.int 1)))) (retS (op2 modD (opN (one intD1) (consL (var 0) nilL)) (cst (.int 1009)))) nxS)
      (retS (op2 modD (opN (one intD1) (consL (var 0) nilL)) (op2 powD (cst (.int 10)) (cst (.int 60)))))))
def h__law_number : List DV → R DV := fnR 2 0 G__law_number
def N__law_gcd : List Str := ["first", "second", "k"]
def G__law_gcd : Slots → Out := (seqS (setF 0 (opN (one absD) (consL (var 0) nilL)))
      (seqS (setF 1 (opN (one absD) (consL (var 1) nilL)))
      (seqS (forS (rgS1 (cst (.int 2000))) (nameG 2) (seqS (ifS (tst (op2 eqD (var 1) (cst (.int 0)))) bkS nxS)
      (parS 0 1 (consL (fz (var 1)) (consL (op2 modD (opN (one intD1) (consL (var 0) nilL)) (var 1)) nilL)))))
      (retS (fz (var 0))))))
def h__law_gcd : List DV → R DV := fnR 2 1 G__law_gcd
def N__law_fraction : List Str := ["script", "k", "row", "n", "d", "factor"]
def G__law_fraction : Slots → Out := (seqS (setF 2 (callV h__law_row [] (consL (callV h__law_cell [] (consL (fz (var 0)) (consL (fz (var 1)) nilL))) (consL (cst (.int 6)) nilL))))
      (seqS (setF 3 (callV h__law_number [] (consL (fz (op2 ixD (var 2) (cst (.int 0)))) (consL (op2 modD (opN (one intD1) (consL (op2 ixD (var 2) (cst (.int 2))) nilL)) (cst (.int 3))) nilL))))
      (seqS (setF 4 (callV h__law_number [] (consL (fz (op2 ixD (var 2) (cst (.int 1)))) (consL (op2 modD (op2 divD (opN (one intD1) (consL (op2 ixD (var 2) (cst (.int 2))) nilL)) (cst (.int 3))) (cst (.int 3))) nilL))))
      (seqS (ifS (tst (op2 eqD (op2 modD (opN (one intD1) (consL (op2 ixD (var 2) (cst (.int 3))) nilL)) (cst (.int 3))) (cst (.int 1)))) (seqS (setF 5 (op2 addD (cst (.int 1)) (op2 modD (op2 divD (opN (one intD1) (consL (op2 ixD (var 2) (cst (.int 3))) nilL)) (cst (.int 3))) (op2 powD (cst (.int 10)) (cst (.int 20))))))
      (seqS (setF 3 (op2 mulD (var 3) (var 5)))
      (setF 4 (op2 mulD (var 4) (var 5))))) nxS)
      (seqS (ifS (tst (op2 eqD (op2 modD (opN (one intD1) (consL (op2 ixD (var 2) (cst (.int 4))) nilL)) (cst (.int 9))) (cst (.int 4)))) (setF 4 (cst (.int 0))) nxS)
      (seqS (ifS (tst (op2 eqD (op2 modD (op2 divD (opN (one intD1) (consL (op2 ixD (var 2) (cst (.int 4))) nilL)) (cst (.int 9))) (cst (.int 2))) (cst (.int 1)))) (setF 3 (negV (var 3))) nxS)
      (seqS (ifS (tst (op2 eqD (op2 modD (opN (one intD1) (consL (op2 ixD (var 2) (cst (.int 5))) nilL)) (cst (.int 2))) (cst (.int 1)))) (setF 4 (negV (var 4))) nxS)
      (retS (tupV (consL (fz (var 3)) (consL (fz (var 4)) nilL)))))))))))
def h__law_fraction : List DV → R DV := fnR 2 4 G__law_fraction
def N__law_lowest : List Str := ["n", "d", "shared"]
def G__law_lowest : Slots → Out := (seqS (setF 2 (callV h__law_gcd [] (consL (fz (var 0)) (consL (fz (var 1)) nilL))))
      (seqS (ifS (tst (op2 ltD (var 1) (cst (.int 0)))) (setF 2 (negV (var 2))) nxS)
      (retS (tupV (consL (op2 divD (var 0) (var 2)) (consL (op2 divD (var 1) (var 2)) nilL))))))
def h__law_lowest : List DV → R DV := fnR 2 1 G__law_lowest
def N__law_is_integer : List Str := ["actual"]
def G__law_is_integer : Slots → Out := (retS (andV (isiV ans_int (var 0)) (notV (isiV ans_bool (var 0)))))
def h__law_is_integer : List DV → R DV := fnR 1 0 G__law_is_integer
def N__law_is : List Str := ["ratio", "due"]
def G__law_is : Slots → Out := (seqS (ifS (orB (notB (tru (isiV ans_Ratio (var 0)))) (orB (notB (tru (callV h__law_is_integer [] (consL (fz (fldV "n" cs_n ce_n (var 0))) nilL)))) (notB (tru (callV h__law_is_integer [] (consL (fz (fldV "d" cs_d ce_d (var 0))) nilL)))))) (retS (cst (.bl false))) nxS)
      (retS (andV (op2 eqD (fldV "n" cs_n ce_n (var 0)) (op2 ixD (var 1) (cst (.int 0)))) (op2 eqD (fldV "d" cs_d ce_d (var 0)) (op2 ixD (var 1) (cst (.int 1)))))))
def h__law_is : List DV → R DV := fnR 2 0 G__law_is
def N__law_is_bad_ratio : List Str := ["e"]
def G__law_is_bad_ratio : Slots → Out := (seqS (ifS (orB (notB (tru (isiV ans_CutsError (var 0)))) (notB (tru (isiV ans_ValueError (var 0))))) (retS (cst (.bl false))) nxS)
      (retS (notV (isiV ans_BadLot_BadText_BadValue_TooMany (var 0)))))
def h__law_is_bad_ratio : List DV → R DV := fnR 1 0 G__law_is_bad_ratio
def N__law_raises : List Str := ["n", "d", "e"]
def G__law_raises : Slots → Out := (seqS (tryS 2 mt_BadRatio (dropS (mkV "Ratio" h_Ratio_init dd_Ratio2 (consL (fz (var 0)) (consL (fz (var 1)) nilL)))) (retS (callV h__law_is_bad_ratio [] (consL (fz (var 2)) nilL))))
      (retS (cst (.bl false))))
def h__law_raises : List DV → R DV := fnR 2 1 G__law_raises
def N__law_over_raises : List Str := ["ratio", "e"]
def G__law_over_raises : Slots → Out := (seqS (tryS 1 mt_BadRatio (dropS (methV "Ratio" "over" h_Ratio_over [] (fz (var 0)) (consL (mkV "Ratio" h_Ratio_init dd_Ratio2 (consL (cst (.int 0)) (consL (cst (.int 7)) nilL))) nilL))) (retS (callV h__law_is_bad_ratio [] (consL (fz (var 1)) nilL))))
      (retS (cst (.bl false))))
def h__law_over_raises : List DV → R DV := fnR 1 1 G__law_over_raises
def N__law_written : List Str := ["due"]
def G__law_written : Slots → Out := (retS (op2 addD (op2 addD (opN (one strD) (consL (op2 ixD (var 0) (cst (.int 0))) nilL)) (cst (.str "/"))) (opN (one strD) (consL (op2 ixD (var 0) (cst (.int 1))) nilL))))
def h__law_written : List DV → R DV := fnR 1 0 G__law_written
def N__law_whole : List Str := ["n", "whole"]
def G__law_whole : Slots → Out := (seqS (setF 1 (mkV "Ratio" h_Ratio_init dd_Ratio1 (consL (fz (var 0)) nilL)))
      (retS (andV (callV h__law_is [] (consL (fz (var 1)) (consL (tupV (consL (fz (var 0)) (consL (cst (.int 1)) nilL))) nilL))) (andV (op2 eqD (strO "Ratio" h_Ratio_str (fz (var 1))) (callV h__law_written [] (consL (tupV (consL (fz (var 0)) (consL (cst (.int 1)) nilL))) nilL))) (eqO "Ratio" h_Ratio_eq (nfD "Ratio") (fz (var 1)) (mkV "Ratio" h_Ratio_init dd_Ratio2 (consL (negV (var 0)) (consL (negV (cst (.int 1))) nilL))))))))
def h__law_whole : List DV → R DV := fnR 1 1 G__law_whole
def N__law_sums : List Str := ["first", "second", "a", "b"]
def G__law_sums : Slots → Out := (seqS (ifS (notB (tru (callV h__law_is [] (consL (opO "Ratio" h_Ratio_add (fz (var 0)) (fz (var 1))) (consL (callV h__law_lowest [] (consL (op2 addD (op2 mulD (op2 ixD (var 2) (cst (.int 0))) (op2 ixD (var 3) (cst (.int 1)))) (op2 mulD (op2 ixD (var 3) (cst (.int 0))) (op2 ixD (var 2) (cst (.int 1))))) (consL (op2 mulD (op2 ixD (var 2) (cst (.int 1))) (op2 ixD (var 3) (cst (.int 1)))) nilL))) nilL))))) (retS (cst (.bl false))) nxS)
      (seqS (ifS (notB (tru (callV h__law_is [] (consL (opO "Ratio" h_Ratio_sub (fz (var 0)) (fz (var 1))) (consL (callV h__law_lowest [] (consL (op2 subD (op2 mulD (op2 ixD (var 2) (cst (.int 0))) (op2 ixD (var 3) (cst (.int 1)))) (op2 mulD (op2 ixD (var 3) (cst (.int 0))) (op2 ixD (var 2) (cst (.int 1))))) (consL (op2 mulD (op2 ixD (var 2) (cst (.int 1))) (op2 ixD (var 3) (cst (.int 1)))) nilL))) nilL))))) (retS (cst (.bl false))) nxS)
      (retS (callV h__law_is [] (consL (opO "Ratio" h_Ratio_mul (fz (var 0)) (fz (var 1))) (consL (callV h__law_lowest [] (consL (op2 mulD (op2 ixD (var 2) (cst (.int 0))) (op2 ixD (var 3) (cst (.int 0)))) (consL (op2 mulD (op2 ixD (var 2) (cst (.int 1))) (op2 ixD (var 3) (cst (.int 1)))) nilL))) nilL))))))
def h__law_sums : List DV → R DV := fnR 4 0 G__law_sums
def N__law_order : List Str := ["first", "second", "a", "b", "due", "told", "step"]
def G__law_order : Slots → Out := (seqS (setF 4 (cst (.int 0)))
      (seqS (ifS (tst (op2 ltD (op2 mulD (op2 ixD (var 2) (cst (.int 0))) (op2 ixD (var 3) (cst (.int 1)))) (op2 mulD (op2 ixD (var 3) (cst (.int 0))) (op2 ixD (var 2) (cst (.int 1)))))) (setF 4 (negV (cst (.int 1)))) nxS)
      (seqS (ifS (tst (op2 gtD (op2 mulD (op2 ixD (var 2) (cst (.int 0))) (op2 ixD (var 3) (cst (.int 1)))) (op2 mulD (op2 ixD (var 3) (cst (.int 0))) (op2 ixD (var 2) (cst (.int 1)))))) (setF 4 (cst (.int 1))) nxS)
      (seqS (setF 5 (methV "Ratio" "compare" h_Ratio_compare [] (fz (var 0)) (consL (fz (var 1)) nilL)))
      (seqS (ifS (orB (notB (tru (callV h__law_is_integer [] (consL (fz (var 5)) nilL)))) (tst (op2 neD (var 5) (var 4)))) (retS (cst (.bl false))) nxS)
      (seqS (ifS (orB (tst (op2 neD (methV "Ratio" "compare" h_Ratio_compare [] (fz (var 1)) (consL (fz (var 0)) nilL)) (negV (var 4)))) (tst (op2 neD (methV "Ratio" "compare" h_Ratio_compare [] (fz (var 0)) (consL (mkV "Ratio" h_Ratio_init dd_Ratio2 (consL (op2 mulD (op2 ixD (var 2) (cst (.int 0))) (cst (.int 3))) (consL (op2 mulD (op2 ixD (var 2) (cst (.int 1))) (cst (.int 3))) nilL))) nilL)) (cst (.int 0))))) (retS (cst (.bl false))) nxS)
      (seqS (setF 6 (op2 modD (opN (one absD) (consL (op2 ixD (var 2) (cst (.int 0))) nilL)) (cst (.int 97))))
      (seqS (ifS (orB (tst (op2 isnotD (eqO "Ratio" h_Ratio_eq (nfD "Ratio") (mkV "Ratio" h_Ratio_init dd_Ratio2 (consL (cst (.int 1)) (consL (op2 addD (var 6) (cst (.int 2))) nilL))) (mkV "Ratio" h_Ratio_init dd_Ratio2 (consL (cst (.int 1)) (consL (op2 addD (var 6) (cst (.int 3))) nilL)))) (cst (.bl false)))) (tst (op2 isnotD (eqO "Ratio" h_Ratio_eq (nfD "Ratio") (mkV "Ratio" h_Ratio_init dd_Ratio1 (consL (op2 addD (var 6) (cst (.int 2))) nilL)) (mkV "Ratio" h_Ratio_init dd_Ratio1 (consL (op2 addD (var 6) (cst (.int 3))) nilL))) (cst (.bl false))))) (retS (cst (.bl false))) nxS)
      (seqS (ifS (tst (op2 eqD (var 2) (var 3))) (retS (andV (op2 isD (eqO "Ratio" h_Ratio_eq (nfD "Ratio") (fz (var 0)) (fz (var 1))) (cst (.bl true))) (op2 isD (neO "Ratio" h_Ratio_eq (fz (var 0)) (fz (var 1))) (cst (.bl false))))) nxS)
      (retS (andV (op2 isD (eqO "Ratio" h_Ratio_eq (nfD "Ratio") (fz (var 0)) (fz (var 1))) (cst (.bl false))) (op2 isD (neO "Ratio" h_Ratio_eq (fz (var 0)) (fz (var 1))) (cst (.bl true))))))))))))))
def h__law_order : List DV → R DV := fnR 4 3 G__law_order
def N_law : List Str := ["script", "pairs", "pair", "dues", "first", "second", "a", "b"]
def G_law : Slots → Out := (seqS (setF 1 (lstV (consL (callV h__law_fraction [] (consL (fz (var 0)) (consL (cst (.int 0)) nilL))) (consL (callV h__law_fraction [] (consL (fz (var 0)) (consL (cst (.int 1)) nilL))) nilL))))
      (seqS (ifS (orB (notB (tru (callV h__law_whole [] (consL (fz (op2 ixD (op2 ixD (var 1) (cst (.int 0))) (cst (.int 0)))) nilL)))) (notB (tru (callV h__law_raises [] (consL (fz (op2 ixD (op2 ixD (var 1) (cst (.int 1))) (cst (.int 0)))) (consL (cst (.int 0)) nilL)))))) (retS (cst (.bl false))) nxS)
      (seqS (forS (itS (fz (var 1))) (nameG 2) (ifS (andB (tst (op2 eqD (op2 ixD (var 2) (cst (.int 1))) (cst (.int 0)))) (notB (tru (callV h__law_raises [] (consL (fz (op2 ixD (var 2) (cst (.int 0)))) (consL (fz (op2 ixD (var 2) (cst (.int 1)))) nilL)))))) (retS (cst (.bl false))) nxS))
      (seqS (setF 3 (lcV [2] (itS (fz (var 1))) (nameG 2) yesT (ifV (tst (op2 neD (op2 ixD (var 2) (cst (.int 1))) (cst (.int 0)))) (callV h__law_lowest [] (consL (fz (op2 ixD (var 2) (cst (.int 0)))) (consL (fz (op2 ixD (var 2) (cst (.int 1)))) nilL))) (tupV (consL (fz (op2 ixD (var 2) (cst (.int 0)))) (consL (cst (.int 1)) nilL))))))
      (seqS (setF 4 (ifV (tst (op2 neD (op2 ixD (op2 ixD (var 1) (cst (.int 0))) (cst (.int 1))) (cst (.int 0)))) (mkV "Ratio" h_Ratio_init dd_Ratio2 (consL (fz (op2 ixD (op2 ixD (var 1) (cst (.int 0))) (cst (.int 0)))) (consL (fz (op2 ixD (op2 ixD (var 1) (cst (.int 0))) (cst (.int 1)))) nilL))) (mkV "Ratio" h_Ratio_init dd_Ratio2 (consL (fz (op2 ixD (op2 ixD (var 1) (cst (.int 0))) (cst (.int 0)))) (consL (cst (.int 1)) nilL)))))
      (seqS (setF 5 (ifV (tst (op2 neD (op2 ixD (op2 ixD (var 1) (cst (.int 1))) (cst (.int 1))) (cst (.int 0)))) (mkV "Ratio" h_Ratio_init dd_Ratio2 (consL (fz (op2 ixD (op2 ixD (var 1) (cst (.int 1))) (cst (.int 0)))) (consL (fz (op2 ixD (op2 ixD (var 1) (cst (.int 1))) (cst (.int 1)))) nilL))) (mkV "Ratio" h_Ratio_init dd_Ratio1 (consL (fz (op2 ixD (op2 ixD (var 1) (cst (.int 1))) (cst (.int 0)))) nilL))))
      (seqS (setF 6 (fz (op2 ixD (var 3) (cst (.int 0)))))
      (seqS (setF 7 (fz (op2 ixD (var 3) (cst (.int 1)))))
      (seqS (ifS (orB (notB (tru (callV h__law_is [] (consL (fz (var 4)) (consL (fz (var 6)) nilL))))) (orB (notB (tru (callV h__law_is [] (consL (fz (var 5)) (consL (fz (var 7)) nilL))))) (tst (op2 neD (strO "Ratio" h_Ratio_str (fz (var 4))) (callV h__law_written [] (consL (fz (var 6)) nilL)))))) (retS (cst (.bl false))) nxS)
      (seqS (ifS (orB (notB (tru (callV h__law_sums [] (consL (fz (var 4)) (consL (fz (var 5)) (consL (fz (var 6)) (consL (fz (var 7)) nilL))))))) (notB (tru (callV h__law_order [] (consL (fz (var 4)) (consL (fz (var 5)) (consL (fz (var 6)) (consL (fz (var 7)) nilL)))))))) (retS (cst (.bl false))) nxS)
      (seqS (ifS (andB (tst (op2 eqD (op2 ixD (var 7) (cst (.int 0))) (cst (.int 0)))) (notB (tru (callV h__law_over_raises [] (consL (fz (var 4)) nilL))))) (retS (cst (.bl false))) nxS)
      (seqS (ifS (andB (tst (op2 neD (op2 ixD (var 7) (cst (.int 0))) (cst (.int 0)))) (notB (tru (callV h__law_is [] (consL (methV "Ratio" "over" h_Ratio_over [] (fz (var 4)) (consL (fz (var 5)) nilL)) (consL (callV h__law_lowest [] (consL (op2 mulD (op2 ixD (var 6) (cst (.int 0))) (op2 ixD (var 7) (cst (.int 1)))) (consL (op2 mulD (op2 ixD (var 6) (cst (.int 1))) (op2 ixD (var 7) (cst (.int 0)))) nilL))) nilL)))))) (retS (cst (.bl false))) nxS)
      (seqS (ifS (orB (tst (op2 isnotD (eqO "Ratio" h_Ratio_eq (nfD "Ratio") (fz (var 4)) (fz (op2 ixD (var 6) (cst (.int 0))))) (cst (.bl false)))) (tst (op2 isnotD (eqO "Ratio" h_Ratio_eq (nfD "Ratio") (fz (var 4)) (tupV (consL (fz (op2 ixD (var 6) (cst (.int 0)))) (consL (fz (op2 ixD (var 6) (cst (.int 1)))) nilL)))) (cst (.bl false))))) (retS (cst (.bl false))) nxS)
      (retS (andV (callV h__law_over_raises [] (consL (fz (var 5)) nilL)) (andV (callV h__law_is [] (consL (fz (var 4)) (consL (fz (var 6)) nilL))) (andV (callV h__law_is [] (consL (fz (var 5)) (consL (fz (var 7)) nilL))) (op2 eqD (strO "Ratio" h_Ratio_str (fz (var 5))) (callV h__law_written [] (consL (fz (var 7)) nilL))))))))))))))))))))
def h_law : List DV → R DV := fnR 1 7 G_law
structure Say (K : PySem.W.Frag) (mg : Str → Option Value) : Prop where
  n_ValueError : mg "ValueError" = none
  n_abs : mg "abs" = none
  n_bool : mg "bool" = none
  n_int : mg "int" = none
  n_isinstance : mg "isinstance" = none
  n_len : mg "len" = none
  n_range : mg "range" = none
  n_str : mg "str" = none
  g_gcd : mg "gcd" = some (.builtin "math.gcd")
  g_CutsError : mg "CutsError" = some (.ref (He.ga K "CutsError"))
  g_BadText : mg "BadText" = some (.ref (He.ga K "BadText"))
  g_BadValue : mg "BadValue" = some (.ref (He.ga K "BadValue"))
  g_BadRatio : mg "BadRatio" = some (.ref (He.ga K "BadRatio"))
  g_BadLot : mg "BadLot" = some (.ref (He.ga K "BadLot"))
  g_TooMany : mg "TooMany" = some (.ref (He.ga K "TooMany"))
  g_Ratio : mg "Ratio" = some (.ref (He.ga K "Ratio"))
  f_Ratio_init : ∃ fd, FunD K "__init__" "Ratio.__init__" (defArgs ((cbody (top 9)).getD 0 (.Pass ⟨0, 0, 0, 0⟩))) (defBody ((cbody (top 9)).getD 0 (.Pass ⟨0, 0, 0, 0⟩))) (defScope ((cbody (top 9)).getD 0 (.Pass ⟨0, 0, 0, 0⟩))) [V.int 1] [] (He.fAd K ("Ratio", some "__init__")) fd
  k_Ratio : Mk K (He.ga K "Ratio") (He.fAd K ("Ratio", some "__init__"))
  f_Ratio_eq : ∃ fd, FunD K "__eq__" "Ratio.__eq__" (defArgs ((cbody (top 9)).getD 1 (.Pass ⟨0, 0, 0, 0⟩))) (defBody ((cbody (top 9)).getD 1 (.Pass ⟨0, 0, 0, 0⟩))) (defScope ((cbody (top 9)).getD 1 (.Pass ⟨0, 0, 0, 0⟩))) [] [] (He.fAd K ("Ratio", some "__eq__")) fd
  k_Ratio_eq : Cls K (He.ga K "Ratio") ∧ Meth K (He.ga K "Ratio") "__eq__" (He.fAd K ("Ratio", some "__eq__")) ∧ PySem.W.selfFirst K (He.ga K "Ratio") = true
  f_Ratio_add : ∃ fd, FunD K "__add__" "Ratio.__add__" (defArgs ((cbody (top 9)).getD 2 (.Pass ⟨0, 0, 0, 0⟩))) (defBody ((cbody (top 9)).getD 2 (.Pass ⟨0, 0, 0, 0⟩))) (defScope ((cbody (top 9)).getD 2 (.Pass ⟨0, 0, 0, 0⟩))) [] [] (He.fAd K ("Ratio", some "__add__")) fd
  k_Ratio_add : Cls K (He.ga K "Ratio") ∧ Meth K (He.ga K "Ratio") "__add__" (He.fAd K ("Ratio", some "__add__")) ∧ PySem.W.selfFirst K (He.ga K "Ratio") = true
  f_Ratio_sub : ∃ fd, FunD K "__sub__" "Ratio.__sub__" (defArgs ((cbody (top 9)).getD 3 (.Pass ⟨0, 0, 0, 0⟩))) (defBody ((cbody (top 9)).getD 3 (.Pass ⟨0, 0, 0, 0⟩))) (defScope ((cbody (top 9)).getD 3 (.Pass ⟨0, 0, 0, 0⟩))) [] [] (He.fAd K ("Ratio", some "__sub__")) fd
  k_Ratio_sub : Cls K (He.ga K "Ratio") ∧ Meth K (He.ga K "Ratio") "__sub__" (He.fAd K ("Ratio", some "__sub__")) ∧ PySem.W.selfFirst K (He.ga K "Ratio") = true
  f_Ratio_mul : ∃ fd, FunD K "__mul__" "Ratio.__mul__" (defArgs ((cbody (top 9)).getD 4 (.Pass ⟨0, 0, 0, 0⟩))) (defBody ((cbody (top 9)).getD 4 (.Pass ⟨0, 0, 0, 0⟩))) (defScope ((cbody (top 9)).getD 4 (.Pass ⟨0, 0, 0, 0⟩))) [] [] (He.fAd K ("Ratio", some "__mul__")) fd
  k_Ratio_mul : Cls K (He.ga K "Ratio") ∧ Meth K (He.ga K "Ratio") "__mul__" (He.fAd K ("Ratio", some "__mul__")) ∧ PySem.W.selfFirst K (He.ga K "Ratio") = true
  f_Ratio_str : ∃ fd, FunD K "__str__" "Ratio.__str__" (defArgs ((cbody (top 9)).getD 5 (.Pass ⟨0, 0, 0, 0⟩))) (defBody ((cbody (top 9)).getD 5 (.Pass ⟨0, 0, 0, 0⟩))) (defScope ((cbody (top 9)).getD 5 (.Pass ⟨0, 0, 0, 0⟩))) [] [] (He.fAd K ("Ratio", some "__str__")) fd
  k_Ratio_str : Cls K (He.ga K "Ratio") ∧ Meth K (He.ga K "Ratio") "__str__" (He.fAd K ("Ratio", some "__str__")) ∧ PySem.W.selfFirst K (He.ga K "Ratio") = true
  f_Ratio_over : ∃ fd, FunD K "over" "Ratio.over" (defArgs ((cbody (top 9)).getD 6 (.Pass ⟨0, 0, 0, 0⟩))) (defBody ((cbody (top 9)).getD 6 (.Pass ⟨0, 0, 0, 0⟩))) (defScope ((cbody (top 9)).getD 6 (.Pass ⟨0, 0, 0, 0⟩))) [] [] (He.fAd K ("Ratio", some "over")) fd
  k_Ratio_over : Cls K (He.ga K "Ratio") ∧ Meth K (He.ga K "Ratio") "over" (He.fAd K ("Ratio", some "over")) ∧ PySem.W.selfFirst K (He.ga K "Ratio") = true
  f_Ratio_compare : ∃ fd, FunD K "compare" "Ratio.compare" (defArgs ((cbody (top 9)).getD 7 (.Pass ⟨0, 0, 0, 0⟩))) (defBody ((cbody (top 9)).getD 7 (.Pass ⟨0, 0, 0, 0⟩))) (defScope ((cbody (top 9)).getD 7 (.Pass ⟨0, 0, 0, 0⟩))) [] [] (He.fAd K ("Ratio", some "compare")) fd
  k_Ratio_compare : Cls K (He.ga K "Ratio") ∧ Meth K (He.ga K "Ratio") "compare" (He.fAd K ("Ratio", some "compare")) ∧ PySem.W.selfFirst K (He.ga K "Ratio") = true
  g__law_cell : mg "_law_cell" = some (.ref (He.fAd K ("_law_cell", none)))
  f__law_cell : ∃ fd, FunD K "_law_cell" "_law_cell" (defArgs (top 11)) (defBody (top 11)) (defScope (top 11)) [] [] (He.fAd K ("_law_cell", none)) fd
  g__law_mixed : mg "_law_mixed" = some (.ref (He.fAd K ("_law_mixed", none)))
  f__law_mixed : ∃ fd, FunD K "_law_mixed" "_law_mixed" (defArgs (top 12)) (defBody (top 12)) (defScope (top 12)) [] [] (He.fAd K ("_law_mixed", none)) fd
  g__law_row : mg "_law_row" = some (.ref (He.fAd K ("_law_row", none)))
  f__law_row : ∃ fd, FunD K "_law_row" "_law_row" (defArgs (top 13)) (defBody (top 13)) (defScope (top 13)) [] [] (He.fAd K ("_law_row", none)) fd
  g__law_number : mg "_law_number" = some (.ref (He.fAd K ("_law_number", none)))
  f__law_number : ∃ fd, FunD K "_law_number" "_law_number" (defArgs (top 14)) (defBody (top 14)) (defScope (top 14)) [] [] (He.fAd K ("_law_number", none)) fd
  g__law_gcd : mg "_law_gcd" = some (.ref (He.fAd K ("_law_gcd", none)))
  f__law_gcd : ∃ fd, FunD K "_law_gcd" "_law_gcd" (defArgs (top 15)) (defBody (top 15)) (defScope (top 15)) [] [] (He.fAd K ("_law_gcd", none)) fd
  g__law_fraction : mg "_law_fraction" = some (.ref (He.fAd K ("_law_fraction", none)))
  f__law_fraction : ∃ fd, FunD K "_law_fraction" "_law_fraction" (defArgs (top 16)) (defBody (top 16)) (defScope (top 16)) [] [] (He.fAd K ("_law_fraction", none)) fd
  g__law_lowest : mg "_law_lowest" = some (.ref (He.fAd K ("_law_lowest", none)))
  f__law_lowest : ∃ fd, FunD K "_law_lowest" "_law_lowest" (defArgs (top 17)) (defBody (top 17)) (defScope (top 17)) [] [] (He.fAd K ("_law_lowest", none)) fd
  g__law_is_integer : mg "_law_is_integer" = some (.ref (He.fAd K ("_law_is_integer", none)))
  f__law_is_integer : ∃ fd, FunD K "_law_is_integer" "_law_is_integer" (defArgs (top 18)) (defBody (top 18)) (defScope (top 18)) [] [] (He.fAd K ("_law_is_integer", none)) fd
  g__law_is : mg "_law_is" = some (.ref (He.fAd K ("_law_is", none)))
  f__law_is : ∃ fd, FunD K "_law_is" "_law_is" (defArgs (top 19)) (defBody (top 19)) (defScope (top 19)) [] [] (He.fAd K ("_law_is", none)) fd
  g__law_is_bad_ratio : mg "_law_is_bad_ratio" = some (.ref (He.fAd K ("_law_is_bad_ratio", none)))
  f__law_is_bad_ratio : ∃ fd, FunD K "_law_is_bad_ratio" "_law_is_bad_ratio" (defArgs (top 20)) (defBody (top 20)) (defScope (top 20)) [] [] (He.fAd K ("_law_is_bad_ratio", none)) fd
  g__law_raises : mg "_law_raises" = some (.ref (He.fAd K ("_law_raises", none)))
  f__law_raises : ∃ fd, FunD K "_law_raises" "_law_raises" (defArgs (top 21)) (defBody (top 21)) (defScope (top 21)) [] [] (He.fAd K ("_law_raises", none)) fd
  g__law_over_raises : mg "_law_over_raises" = some (.ref (He.fAd K ("_law_over_raises", none)))
  f__law_over_raises : ∃ fd, FunD K "_law_over_raises" "_law_over_raises" (defArgs (top 22)) (defBody (top 22)) (defScope (top 22)) [] [] (He.fAd K ("_law_over_raises", none)) fd
  g__law_written : mg "_law_written" = some (.ref (He.fAd K ("_law_written", none)))
  f__law_written : ∃ fd, FunD K "_law_written" "_law_written" (defArgs (top 23)) (defBody (top 23)) (defScope (top 23)) [] [] (He.fAd K ("_law_written", none)) fd
  g__law_whole : mg "_law_whole" = some (.ref (He.fAd K ("_law_whole", none)))
  f__law_whole : ∃ fd, FunD K "_law_whole" "_law_whole" (defArgs (top 24)) (defBody (top 24)) (defScope (top 24)) [] [] (He.fAd K ("_law_whole", none)) fd
  g__law_sums : mg "_law_sums" = some (.ref (He.fAd K ("_law_sums", none)))
  f__law_sums : ∃ fd, FunD K "_law_sums" "_law_sums" (defArgs (top 25)) (defBody (top 25)) (defScope (top 25)) [] [] (He.fAd K ("_law_sums", none)) fd
  g__law_order : mg "_law_order" = some (.ref (He.fAd K ("_law_order", none)))
  f__law_order : ∃ fd, FunD K "_law_order" "_law_order" (defArgs (top 26)) (defBody (top 26)) (defScope (top 26)) [] [] (He.fAd K ("_law_order", none)) fd
  g_law : mg "law" = some (.ref (He.fAd K ("law", none)))
  f_law : ∃ fd, FunD K "law" "law" (defArgs (top 27)) (defBody (top 27)) (defScope (top 27)) [] [] (He.fAd K ("law", none)) fd
  at_d : AtK K (gam K cls) "d" cs_d
  ax_d : AxK K (gam K cls) "d" ce_d
  at_n : AtK K (gam K cls) "n" cs_n
  ax_n : AxK K (gam K cls) "n" ce_n
  i_BadLot_BadText_BadValue_TooMany : Isi K (gam K cls) [.ref (He.ga K "BadLot"), .ref (He.ga K "BadText"), .ref (He.ga K "BadValue"), .ref (He.ga K "TooMany")] ans_BadLot_BadText_BadValue_TooMany
  i_CutsError : Isi K (gam K cls) [.ref (He.ga K "CutsError")] ans_CutsError
  i_Ratio : Isi K (gam K cls) [.ref (He.ga K "Ratio")] ans_Ratio
  i_ValueError : Isi K (gam K cls) [.type "ValueError"] ans_ValueError
  i_bool : Isi K (gam K cls) [.type "bool"] ans_bool
  i_int : Isi K (gam K cls) [.type "int"] ans_int
  nf_Ratio : NfOk K (gam K cls) "Ratio" (nfD "Ratio")
  ne_Ratio : NeOk K (gam K cls) "Ratio"
  r_BadRatio : Rz K mg (gam K cls) "BadRatio"
  m_BadRatio : Tz K mg (gam K cls) "BadRatio" mt_BadRatio
section
variable {P : Program} {w : World} {K : PySem.W.Frag} {mg : Str → Option Value} {base : Heap}
theorem sc_Ratio_init : FnScope N_Ratio_init ["self", "n", "d"] (defScope ((cbody (top 9)).getD 0 (.Pass ⟨0, 0, 0, 0⟩))) := ⟨rfl, rfl, rfl, by decide +kernel, rfl, by decide +kernel, by decide +kernel⟩
theorem ok_Ratio_init (s : Say K mg) {fd : FuncData} (F : FunD K "__init__" "Ratio.__init__" (defArgs ((cbody (top 9)).getD 0 (.Pass ⟨0, 0, 0, 0⟩))) (defBody ((cbody (top 9)).getD 0 (.Pass ⟨0, 0, 0, 0⟩))) (defScope ((cbody (top 9)).getD 0 (.Pass ⟨0, 0, 0, 0⟩))) [V.int 1] [] (He.fAd K ("Ratio", some "__init__")) fd) : FnOk P w K mg base (L2.CX P w) 1 (He.fAd K ("Ratio", some "__init__")) fd ["self", "n", "d"] (spS ⟨K, gam K cls⟩ "Ratio" h_Ratio_init) := by
  refine def_s (k := 0) (m := 1) (G := G_Ratio_init) F sc_Ratio_init rfl fun cdv A outer s0 H E kx ky => ?_
  exact dss_cons (ds_if (db_eq kx.u64 (dt_var 2) ((de_int).dt)) (dss_one (ds_raiseN ky s.r_BadRatio)) (dss_nil))
      (dss_cons (ds_setF (i := 3) kx.nd (de_callF cr_gcd cv_gcd s.g_gcd (dk_cons (dt_var 1) (dk_cons (dt_var 2) dk_nil))))
      (dss_cons (ds_if (db_lt kx.u (dt_var 2) ((de_int).dt)) (dss_one (ds_setF (i := 3) kx.nd (de_neg (dt_var 3)))) (dss_nil))
      (dss_cons (ds_fld (dp_var 0) (de_div (dt_var 1) (dt_var 3)) s.at_n)
      (dss_one (ds_fld (dp_var 0) (de_div (dt_var 2) (dt_var 3)) s.at_d)))))
theorem sc_Ratio_eq : FnScope N_Ratio_eq ["self", "other"] (defScope ((cbody (top 9)).getD 1 (.Pass ⟨0, 0, 0, 0⟩))) := ⟨rfl, rfl, rfl, by decide +kernel, rfl, by decide +kernel, by decide +kernel⟩
theorem ok_Ratio_eq (s : Say K mg) : MDef false P w K mg base (L2.CX P w) (gam K cls) "Ratio" "__eq__" 1 ["self", "other"] h_Ratio_eq := by
  obtain ⟨fd, F⟩ := s.f_Ratio_eq
  refine ⟨_, _, fd, rfl, s.k_Ratio_eq.1, s.k_Ratio_eq.2.1, s.k_Ratio_eq.2.2, def_d (k := 0) (m := 0) (G := G_Ratio_eq) F sc_Ratio_eq rfl fun cdv A outer s0 H E kx ky => ?_, F.bindsN fun _ _ _ _ _ _ us hl => match us, hl with | [_, _], _ => rfl⟩
  exact dss_one (ds_ret (de_and ((de_isi s.n_isinstance (dt_var 1) (pe_own s.g_Ratio) (.own _) s.i_Ratio).dt) (de_and ((de_eq kx.u64 (dt_fld (dt_var 0) (s.at_n) (s.ax_n)) (dt_fld (dt_var 1) (s.at_n) (s.ax_n))).dt) (de_one (de_eq kx.u64 (dt_fld (dt_var 0) (s.at_d) (s.ax_d)) (dt_fld (dt_var 1) (s.at_d) (s.ax_d)))))))
theorem sc_Ratio_add : FnScope N_Ratio_add ["self", "other"] (defScope ((cbody (top 9)).getD 2 (.Pass ⟨0, 0, 0, 0⟩))) := ⟨rfl, rfl, rfl, by decide +kernel, rfl, by decide +kernel, by decide +kernel⟩
theorem ok_Ratio_add (s : Say K mg) (d_Ratio1 : MkD P w K mg base (gam K cls) "Ratio" 1 dd_Ratio1 h_Ratio_init) (d_Ratio2 : MkD P w K mg base (gam K cls) "Ratio" 1 dd_Ratio2 h_Ratio_init) : MDef false P w K mg base (L2.CX P w) (gam K cls) "Ratio" "__add__" 3 ["self", "other"] h_Ratio_add := by
  obtain ⟨fd, F⟩ := s.f_Ratio_add
  refine ⟨_, _, fd, rfl, s.k_Ratio_add.1, s.k_Ratio_add.2.1, s.k_Ratio_add.2.2, def_d (k := 2) (m := 0) (G := G_Ratio_add) F sc_Ratio_add rfl fun cdv A outer s0 H E kx ky => ?_, F.bindsN fun _ _ _ _ _ _ us hl => match us, hl with | [_, _], _ => rfl⟩
  exact dss_one (ds_ret (de_mk kx d_Ratio2 (by decide) (da_cons (de_add ((de_mul (dt_fld (dt_var 0) (s.at_n) (s.ax_n)) (dt_fld (dt_var 1) (s.at_d) (s.ax_d))).dt) ((de_mul (dt_fld (dt_var 1) (s.at_n) (s.ax_n)) (dt_fld (dt_var 0) (s.at_d) (s.ax_d))).dt)) (da_cons (de_mul (dt_fld (dt_var 0) (s.at_d) (s.ax_d)) (dt_fld (dt_var 1) (s.at_d) (s.ax_d))) da_nil))))
theorem sc_Ratio_sub : FnScope N_Ratio_sub ["self", "other"] (defScope ((cbody (top 9)).getD 3 (.Pass ⟨0, 0, 0, 0⟩))) := ⟨rfl, rfl, rfl, by decide +kernel, rfl, by decide +kernel, by decide +kernel⟩
theorem ok_Ratio_sub (s : Say K mg) (d_Ratio1 : MkD P w K mg base (gam K cls) "Ratio" 1 dd_Ratio1 h_Ratio_init) (d_Ratio2 : MkD P w K mg base (gam K cls) "Ratio" 1 dd_Ratio2 h_Ratio_init) : MDef false P w K mg base (L2.CX P w) (gam K cls) "Ratio" "__sub__" 3 ["self", "other"] h_Ratio_sub := by
  obtain ⟨fd, F⟩ := s.f_Ratio_sub
  refine ⟨_, _, fd, rfl, s.k_Ratio_sub.1, s.k_Ratio_sub.2.1, s.k_Ratio_sub.2.2, def_d (k := 2) (m := 0) (G := G_Ratio_sub) F sc_Ratio_sub rfl fun cdv A outer s0 H E kx ky => ?_, F.bindsN fun _ _ _ _ _ _ us hl => match us, hl with | [_, _], _ => rfl⟩
  exact dss_one (ds_ret (de_mk kx d_Ratio2 (by decide) (da_cons (de_sub ((de_mul (dt_fld (dt_var 0) (s.at_n) (s.ax_n)) (dt_fld (dt_var 1) (s.at_d) (s.ax_d))).dt) ((de_mul (dt_fld (dt_var 1) (s.at_n) (s.ax_n)) (dt_fld (dt_var 0) (s.at_d) (s.ax_d))).dt)) (da_cons (de_mul (dt_fld (dt_var 0) (s.at_d) (s.ax_d)) (dt_fld (dt_var 1) (s.at_d) (s.ax_d))) da_nil))))
theorem sc_Ratio_mul : FnScope N_Ratio_mul ["self", "other"] (defScope ((cbody (top 9)).getD 4 (.Pass ⟨0, 0, 0, 0⟩))) := ⟨rfl, rfl, rfl, by decide +kernel, rfl, by decide +kernel, by decide +kernel⟩
theorem ok_Ratio_mul (s : Say K mg) (d_Ratio1 : MkD P w K mg base (gam K cls) "Ratio" 1 dd_Ratio1 h_Ratio_init) (d_Ratio2 : MkD P w K mg base (gam K cls) "Ratio" 1 dd_Ratio2 h_Ratio_init) : MDef false P w K mg base (L2.CX P w) (gam K cls) "Ratio" "__mul__" 3 ["self", "other"] h_Ratio_mul := by
  obtain ⟨fd, F⟩ := s.f_Ratio_mul
  refine ⟨_, _, fd, rfl, s.k_Ratio_mul.1, s.k_Ratio_mul.2.1, s.k_Ratio_mul.2.2, def_d (k := 2) (m := 0) (G := G_Ratio_mul) F sc_Ratio_mul rfl fun cdv A outer s0 H E kx ky => ?_, F.bindsN fun _ _ _ _ _ _ us hl => match us, hl with | [_, _], _ => rfl⟩
  exact dss_one (ds_ret (de_mk kx d_Ratio2 (by decide) (da_cons (de_mul (dt_fld (dt_var 0) (s.at_n) (s.ax_n)) (dt_fld (dt_var 1) (s.at_n) (s.ax_n))) (da_cons (de_mul (dt_fld (dt_var 0) (s.at_d) (s.ax_d)) (dt_fld (dt_var 1) (s.at_d) (s.ax_d))) da_nil))))
theorem sc_Ratio_str : FnScope N_Ratio_str ["self"] (defScope ((cbody (top 9)).getD 5 (.Pass ⟨0, 0, 0, 0⟩))) := ⟨rfl, rfl, rfl, by decide +kernel, rfl, by decide +kernel, by decide +kernel⟩
theorem ok_Ratio_str (s : Say K mg) : MDef false P w K mg base (L2.CX P w) (gam K cls) "Ratio" "__str__" 1 ["self"] h_Ratio_str := by
  obtain ⟨fd, F⟩ := s.f_Ratio_str
  refine ⟨_, _, fd, rfl, s.k_Ratio_str.1, s.k_Ratio_str.2.1, s.k_Ratio_str.2.2, def_d (k := 0) (m := 0) (G := G_Ratio_str) F sc_Ratio_str rfl fun cdv A outer s0 H E kx ky => ?_, F.bindsN fun _ _ _ _ _ _ us hl => match us, hl with | [_], _ => rfl⟩
  exact dss_one (ds_ret (de_joined (.cons (df_fmt (dt_fld (dt_var 0) (s.at_n) (s.ax_n))) (.cons df_lit (.cons (df_fmt (dt_fld (dt_var 0) (s.at_d) (s.ax_d))) .nil)))))
theorem sc_Ratio_over : FnScope N_Ratio_over ["self", "other"] (defScope ((cbody (top 9)).getD 6 (.Pass ⟨0, 0, 0, 0⟩))) := ⟨rfl, rfl, rfl, by decide +kernel, rfl, by decide +kernel, by decide +kernel⟩
theorem ok_Ratio_over (s : Say K mg) (d_Ratio1 : MkD P w K mg base (gam K cls) "Ratio" 1 dd_Ratio1 h_Ratio_init) (d_Ratio2 : MkD P w K mg base (gam K cls) "Ratio" 1 dd_Ratio2 h_Ratio_init) : MDef false P w K mg base (L2.CX P w) (gam K cls) "Ratio" "over" 3 ["self", "other"] h_Ratio_over := by
  obtain ⟨fd, F⟩ := s.f_Ratio_over
  refine ⟨_, _, fd, rfl, s.k_Ratio_over.1, s.k_Ratio_over.2.1, s.k_Ratio_over.2.2, def_d (k := 2) (m := 0) (G := G_Ratio_over) F sc_Ratio_over rfl fun cdv A outer s0 H E kx ky => ?_, F.bindsN fun _ _ _ _ _ _ us hl => match us, hl with | [_, _], _ => rfl⟩
  exact dss_one (ds_ret (de_mk kx d_Ratio2 (by decide) (da_cons (de_mul (dt_fld (dt_var 0) (s.at_n) (s.ax_n)) (dt_fld (dt_var 1) (s.at_d) (s.ax_d))) (da_cons (de_mul (dt_fld (dt_var 0) (s.at_d) (s.ax_d)) (dt_fld (dt_var 1) (s.at_n) (s.ax_n))) da_nil))))
theorem sc_Ratio_compare : FnScope N_Ratio_compare ["self", "other"] (defScope ((cbody (top 9)).getD 7 (.Pass ⟨0, 0, 0, 0⟩))) := ⟨rfl, rfl, rfl, by decide +kernel, rfl, by decide +kernel, by decide +kernel⟩
theorem ok_Ratio_compare (s : Say K mg) : MDef false P w K mg base (L2.CX P w) (gam K cls) "Ratio" "compare" 1 ["self", "other"] h_Ratio_compare := by
  obtain ⟨fd, F⟩ := s.f_Ratio_compare
  refine ⟨_, _, fd, rfl, s.k_Ratio_compare.1, s.k_Ratio_compare.2.1, s.k_Ratio_compare.2.2, def_d (k := 0) (m := 2) (G := G_Ratio_compare) F sc_Ratio_compare rfl fun cdv A outer s0 H E kx ky => ?_, F.bindsN fun _ _ _ _ _ _ us hl => match us, hl with | [_, _], _ => rfl⟩
  exact dss_cons (ds_setF (i := 2) kx.nd (de_mul (dt_fld (dt_var 0) (s.at_n) (s.ax_n)) (dt_fld (dt_var 1) (s.at_d) (s.ax_d))))
      (dss_cons (ds_setF (i := 3) kx.nd (de_mul (dt_fld (dt_var 1) (s.at_n) (s.ax_n)) (dt_fld (dt_var 0) (s.at_d) (s.ax_d))))
      (dss_cons (ds_if (db_lt kx.u (dt_var 2) (dt_var 3)) (dss_one (ds_ret (de_neg ((de_int).dt)))) (dss_nil))
      (dss_cons (ds_if (db_gt (dt_var 2) (dt_var 3)) (dss_one (ds_ret (de_int))) (dss_nil))
      (dss_one (ds_ret (de_int))))))
theorem sc__law_cell : FnScope N__law_cell ["script", "k"] (defScope (top 11)) := ⟨rfl, rfl, rfl, by decide +kernel, rfl, by decide +kernel, by decide +kernel⟩
theorem ok__law_cell (s : Say K mg) : Def false P w K mg base (L2.CX P w) (gam K cls) "_law_cell" 1 ["script", "k"] h__law_cell := by
  obtain ⟨fd, F⟩ := s.f__law_cell
  refine ⟨_, fd, s.g__law_cell, F.kp, def_d (k := 0) (m := 0) (G := G__law_cell) F sc__law_cell rfl fun cdv A outer s0 H E kx ky => ?_, F.bindsN fun _ _ _ _ _ _ us hl => match us, hl with | [_, _], _ => rfl⟩
  exact dss_cons (ds_if (db_lt kx.u (dt_var 1) ((de_callB cr_len cv_len (by decide +kernel) s.n_len (dk_cons (dt_var 0) dk_nil)).dt)) (dss_one (ds_ret ((dt_ix (dt_var 0) (dt_var 1)).de))) (dss_nil))
      (dss_one (ds_ret (de_int)))
theorem sc__law_mixed : FnScope N__law_mixed ["cell", "k"] (defScope (top 12)) := ⟨rfl, rfl, rfl, by decide +kernel, rfl, by decide +kernel, by decide +kernel⟩
theorem ok__law_mixed (s : Say K mg) : Def false P w K mg base (L2.CX P w) (gam K cls) "_law_mixed" 1 ["cell", "k"] h__law_mixed := by
  obtain ⟨fd, F⟩ := s.f__law_mixed
  refine ⟨_, fd, s.g__law_mixed, F.kp, def_d (k := 0) (m := 2) (G := G__law_mixed) F sc__law_mixed rfl fun cdv A outer s0 H E kx ky => ?_, F.bindsN fun _ _ _ _ _ _ us hl => match us, hl with | [_, _], _ => rfl⟩
  exact dss_cons (ds_setF (i := 2) kx.nd (de_mod ((de_add ((de_add ((de_mul ((de_mod ((de_callTy call_int1 cv_int (by decide +kernel) s.n_int (dk_cons (dt_var 0) dk_nil)).dt) ((de_int).dt)).dt) ((de_int).dt)).dt) ((de_mul (dt_var 1) ((de_int).dt)).dt)).dt) ((de_int).dt)).dt) ((de_int).dt)))
      (dss_cons (ds_setF (i := 3) kx.nd (de_mod ((de_add ((de_add ((de_mul (dt_var 2) ((de_int).dt)).dt) ((de_mul ((de_mul (dt_var 1) (dt_var 1)).dt) ((de_int).dt)).dt)).dt) ((de_mod ((de_callTy call_int1 cv_int (by decide +kernel) s.n_int (dk_cons (dt_var 0) dk_nil)).dt) ((de_int).dt)).dt)).dt) ((de_int).dt)))
      (dss_one (ds_ret (de_mod ((de_add ((de_mul (dt_var 3) ((de_int).dt)).dt) (dt_var 2)).dt) ((de_int).dt)))))
theorem sc__law_row : FnScope N__law_row ["cell", "many"] (defScope (top 13)) := ⟨rfl, rfl, rfl, by decide +kernel, rfl, by decide +kernel, by decide +kernel⟩
theorem ok__law_row (s : Say K mg) (d__law_mixed : Def false P w K mg base (L2.CX P w) (gam K cls) "_law_mixed" 1 ["cell", "k"] h__law_mixed) : Def false P w K mg base (L2.CX P w) (gam K cls) "_law_row" 2 ["cell", "many"] h__law_row := by
  obtain ⟨fd, F⟩ := s.f__law_row
  refine ⟨_, fd, s.g__law_row, F.kp, def_d (k := 1) (m := 3) (G := G__law_row) F sc__law_row rfl fun cdv A outer s0 H E kx ky => ?_, F.bindsN fun _ _ _ _ _ _ us hl => match us, hl with | [_, _], _ => rfl⟩
  exact dss_cons (ds_set (i := 2) kx.nd (de_lst da_nil) (by decide))
      (dss_cons (ds_setF (i := 3) kx.nd (de_callB call_abs cv_abs (by decide +kernel) s.n_abs (dk_cons (dt_var 0) dk_nil)))
      (dss_cons (ds_for ky.po ky.calm (di_range1 s.n_range (dt_var 1)) (dg_name kx.nd) (dss_one (ds_if ((dw_and (db_ge ((de_callB call_abs cv_abs (by decide +kernel) s.n_abs (dk_cons (dt_var 0) dk_nil)).dt) ((de_pow ((de_int).dt) ((de_int).dt)).dt)) (dw_and1 (db_gt (dt_var 3) ((de_int).dt)))).db) (dss_cons (ds_app (dp_var 2) (de_mod ((de_callTy call_int1 cv_int (by decide +kernel) s.n_int (dk_cons (dt_var 3) dk_nil)).dt) ((de_pow ((de_int).dt) ((de_int).dt)).dt)))
      (dss_one (ds_setF (i := 3) kx.nd (de_div (dt_var 3) ((de_pow ((de_int).dt) ((de_int).dt)).dt))))) (dss_one (ds_app (dp_var 2) (de_add ((de_mul ((de_callN kx d__law_mixed (by decide) (da_cons ((dt_var 0).de) (da_cons ((dt_var 4).de) da_nil))).dt) ((de_int).dt)).dt) ((de_callN kx d__law_mixed (by decide) (da_cons ((dt_var 0).de) (da_cons (de_add (dt_var 4) ((de_int).dt)) da_nil))).dt)))))))
      (dss_one (ds_retM 2))))
theorem sc__law_number : FnScope N__law_number ["draw", "form"] (defScope (top 14)) := ⟨rfl, rfl, rfl, by decide +kernel, rfl, by decide +kernel, by decide +kernel⟩
theorem ok__law_number (s : Say K mg) : Def false P w K mg base (L2.CX P w) (gam K cls) "_law_number" 1 ["draw", "form"] h__law_number := by
  obtain ⟨fd, F⟩ := s.f__law_number
  refine ⟨_, fd, s.g__law_number, F.kp, def_d (k := 0) (m := 0) (G := G__law_number) F sc__law_number rfl fun cdv A outer s0 H E kx ky => ?_, F.bindsN fun _ _ _ _ _ _ us hl => match us, hl with | [_, _], _ => rfl⟩
  exact dss_cons (ds_if (db_eq kx.u64 (dt_var 1) ((de_int).dt)) (dss_one (ds_ret (de_mod ((de_callTy call_int1 cv_int (by decide +kernel) s.n_int (dk_cons (dt_var 0) dk_nil)).dt) ((de_int).dt)))) (dss_nil))
      (dss_cons (ds_if (db_eq kx.u64 (dt_var 1) ((de_int).dt)) (dss_one (ds_ret (de_mod ((de_callTy call_int1 cv_int (by decide +kernel) s.n_int (dk_cons (dt_var 0) dk_nil)).dt) ((de_int).dt)))) (dss_nil))
      (dss_one (ds_ret (de_mod ((de_callTy call_int1 cv_int (by decide +kernel) s.n_int (dk_cons (dt_var 0) dk_nil)).dt) ((de_pow ((de_int).dt) ((de_int).dt)).dt)))))
theorem sc__law_gcd : FnScope N__law_gcd ["first", "second"] (defScope (top 15)) := ⟨rfl, rfl, rfl, by decide +kernel, rfl, by decide +kernel, by decide +kernel⟩
theorem ok__law_gcd (s : Say K mg) : Def false P w K mg base (L2.CX P w) (gam K cls) "_law_gcd" 1 ["first", "second"] h__law_gcd := by
  obtain ⟨fd, F⟩ := s.f__law_gcd
  refine ⟨_, fd, s.g__law_gcd, F.kp, def_d (k := 0) (m := 1) (G := G__law_gcd) F sc__law_gcd rfl fun cdv A outer s0 H E kx ky => ?_, F.bindsN fun _ _ _ _ _ _ us hl => match us, hl with | [_, _], _ => rfl⟩
  exact dss_cons (ds_setF (i := 0) kx.nd (de_callB call_abs cv_abs (by decide +kernel) s.n_abs (dk_cons (dt_var 0) dk_nil)))
      (dss_cons (ds_setF (i := 1) kx.nd (de_callB call_abs cv_abs (by decide +kernel) s.n_abs (dk_cons (dt_var 1) dk_nil)))
      (dss_cons (ds_for ky.po ky.calm (di_range1 s.n_range ((de_int).dt)) (dg_name kx.nd) (dss_cons (ds_if (db_eq kx.u64 (dt_var 1) ((de_int).dt)) (dss_one (ds_break)) (dss_nil))
      (dss_one (ds_par (i := 0) (j := 1) ky.calm kx.nd (da_cons ((dt_var 1).de) (da_cons (de_mod ((de_callTy call_int1 cv_int (by decide +kernel) s.n_int (dk_cons (dt_var 0) dk_nil)).dt) (dt_var 1)) da_nil))))))
      (dss_one (ds_ret ((dt_var 0).de)))))
theorem sc__law_fraction : FnScope N__law_fraction ["script", "k"] (defScope (top 16)) := ⟨rfl, rfl, rfl, by decide +kernel, rfl, by decide +kernel, by decide +kernel⟩
theorem ok__law_fraction (s : Say K mg) (d__law_cell : Def false P w K mg base (L2.CX P w) (gam K cls) "_law_cell" 1 ["script", "k"] h__law_cell) (d__law_number : Def false P w K mg base (L2.CX P w) (gam K cls) "_law_number" 1 ["draw", "form"] h__law_number) (d__law_row : Def false P w K mg base (L2.CX P w) (gam K cls) "_law_row" 2 ["cell", "many"] h__law_row) : Def false P w K mg base (L2.CX P w) (gam K cls) "_law_fraction" 3 ["script", "k"] h__law_fraction := by
  obtain ⟨fd, F⟩ := s.f__law_fraction
  refine ⟨_, fd, s.g__law_fraction, F.kp, def_d (k := 2) (m := 4) (G := G__law_fraction) F sc__law_fraction rfl fun cdv A outer s0 H E kx ky => ?_, F.bindsN fun _ _ _ _ _ _ us hl => match us, hl with | [_, _], _ => rfl⟩
  exact dss_cons (ds_setF (i := 2) kx.nd (de_callN kx d__law_row (by decide) (da_cons (de_callN kx d__law_cell (by decide) (da_cons ((dt_var 0).de) (da_cons ((dt_var 1).de) da_nil))) (da_cons (de_int) da_nil))))
      (dss_cons (ds_setF (i := 3) kx.nd (de_callN kx d__law_number (by decide) (da_cons ((dt_ix (dt_var 2) ((de_int).dt)).de) (da_cons (de_mod ((de_callTy call_int1 cv_int (by decide +kernel) s.n_int (dk_cons (dt_ix (dt_var 2) ((de_int).dt)) dk_nil)).dt) ((de_int).dt)) da_nil))))
      (dss_cons (ds_setF (i := 4) kx.nd (de_callN kx d__law_number (by decide) (da_cons ((dt_ix (dt_var 2) ((de_int).dt)).de) (da_cons (de_mod ((de_div ((de_callTy call_int1 cv_int (by decide +kernel) s.n_int (dk_cons (dt_ix (dt_var 2) ((de_int).dt)) dk_nil)).dt) ((de_int).dt)).dt) ((de_int).dt)) da_nil))))
      (dss_cons (ds_if (db_eq kx.u64 ((de_mod ((de_callTy call_int1 cv_int (by decide +kernel) s.n_int (dk_cons (dt_ix (dt_var 2) ((de_int).dt)) dk_nil)).dt) ((de_int).dt)).dt) ((de_int).dt)) (dss_cons (ds_setF (i := 5) kx.nd (de_add ((de_int).dt) ((de_mod ((de_div ((de_callTy call_int1 cv_int (by decide +kernel) s.n_int (dk_cons (dt_ix (dt_var 2) ((de_int).dt)) dk_nil)).dt) ((de_int).dt)).dt) ((de_pow ((de_int).dt) ((de_int).dt)).dt)).dt)))
      (dss_cons (ds_setF (i := 3) kx.nd (de_mul (dt_var 3) (dt_var 5)))
      (dss_one (ds_setF (i := 4) kx.nd (de_mul (dt_var 4) (dt_var 5)))))) (dss_nil))
      (dss_cons (ds_if (db_eq kx.u64 ((de_mod ((de_callTy call_int1 cv_int (by decide +kernel) s.n_int (dk_cons (dt_ix (dt_var 2) ((de_int).dt)) dk_nil)).dt) ((de_int).dt)).dt) ((de_int).dt)) (dss_one (ds_setF (i := 4) kx.nd (de_int))) (dss_nil))
      (dss_cons (ds_if (db_eq kx.u64 ((de_mod ((de_div ((de_callTy call_int1 cv_int (by decide +kernel) s.n_int (dk_cons (dt_ix (dt_var 2) ((de_int).dt)) dk_nil)).dt) ((de_int).dt)).dt) ((de_int).dt)).dt) ((de_int).dt)) (dss_one (ds_setF (i := 3) kx.nd (de_neg (dt_var 3)))) (dss_nil))
      (dss_cons (ds_if (db_eq kx.u64 ((de_mod ((de_callTy call_int1 cv_int (by decide +kernel) s.n_int (dk_cons (dt_ix (dt_var 2) ((de_int).dt)) dk_nil)).dt) ((de_int).dt)).dt) ((de_int).dt)) (dss_one (ds_setF (i := 4) kx.nd (de_neg (dt_var 4)))) (dss_nil))
      (dss_one (ds_ret (de_tup (da_cons ((dt_var 3).de) (da_cons ((dt_var 4).de) da_nil)))))))))))
theorem sc__law_lowest : FnScope N__law_lowest ["n", "d"] (defScope (top 17)) := ⟨rfl, rfl, rfl, by decide +kernel, rfl, by decide +kernel, by decide +kernel⟩
theorem ok__law_lowest (s : Say K mg) (d__law_gcd : Def false P w K mg base (L2.CX P w) (gam K cls) "_law_gcd" 1 ["first", "second"] h__law_gcd) : Def false P w K mg base (L2.CX P w) (gam K cls) "_law_lowest" 2 ["n", "d"] h__law_lowest := by
  obtain ⟨fd, F⟩ := s.f__law_lowest
  refine ⟨_, fd, s.g__law_lowest, F.kp, def_d (k := 1) (m := 1) (G := G__law_lowest) F sc__law_lowest rfl fun cdv A outer s0 H E kx ky => ?_, F.bindsN fun _ _ _ _ _ _ us hl => match us, hl with | [_, _], _ => rfl⟩
  exact dss_cons (ds_setF (i := 2) kx.nd (de_callN kx d__law_gcd (by decide) (da_cons ((dt_var 0).de) (da_cons ((dt_var 1).de) da_nil))))
      (dss_cons (ds_if (db_lt kx.u (dt_var 1) ((de_int).dt)) (dss_one (ds_setF (i := 2) kx.nd (de_neg (dt_var 2)))) (dss_nil))
      (dss_one (ds_ret (de_tup (da_cons (de_div (dt_var 0) (dt_var 2)) (da_cons (de_div (dt_var 1) (dt_var 2)) da_nil))))))
theorem sc__law_is_integer : FnScope N__law_is_integer ["actual"] (defScope (top 18)) := ⟨rfl, rfl, rfl, by decide +kernel, rfl, by decide +kernel, by decide +kernel⟩
theorem ok__law_is_integer (s : Say K mg) : Def false P w K mg base (L2.CX P w) (gam K cls) "_law_is_integer" 1 ["actual"] h__law_is_integer := by
  obtain ⟨fd, F⟩ := s.f__law_is_integer
  refine ⟨_, fd, s.g__law_is_integer, F.kp, def_d (k := 0) (m := 0) (G := G__law_is_integer) F sc__law_is_integer rfl fun cdv A outer s0 H E kx ky => ?_, F.bindsN fun _ _ _ _ _ _ us hl => match us, hl with | [_], _ => rfl⟩
  exact dss_one (ds_ret (de_and ((de_isi s.n_isinstance (dt_var 0) (pe_bt s.n_int (by decide +kernel)) (.ty _) s.i_int).dt) (de_one (de_not ((de_isi s.n_isinstance (dt_var 0) (pe_bt s.n_bool (by decide +kernel)) (.ty _) s.i_bool).dt)))))
theorem sc__law_is : FnScope N__law_is ["ratio", "due"] (defScope (top 19)) := ⟨rfl, rfl, rfl, by decide +kernel, rfl, by decide +kernel, by decide +kernel⟩
theorem ok__law_is (s : Say K mg) (d__law_is_integer : Def false P w K mg base (L2.CX P w) (gam K cls) "_law_is_integer" 1 ["actual"] h__law_is_integer) : Def false P w K mg base (L2.CX P w) (gam K cls) "_law_is" 2 ["ratio", "due"] h__law_is := by
  obtain ⟨fd, F⟩ := s.f__law_is
  refine ⟨_, fd, s.g__law_is, F.kp, def_d (k := 1) (m := 0) (G := G__law_is) F sc__law_is rfl fun cdv A outer s0 H E kx ky => ?_, F.bindsN fun _ _ _ _ _ _ us hl => match us, hl with | [_, _], _ => rfl⟩
  exact dss_cons (ds_if ((dw_or (db_not (db_tru ((de_isi s.n_isinstance (dt_var 0) (pe_own s.g_Ratio) (.own _) s.i_Ratio).dt))) (dw_or (db_not (db_tru ((de_callN kx d__law_is_integer (by decide) (da_cons ((dt_fld (dt_var 0) (s.at_n) (s.ax_n)).de) da_nil)).dt))) (dw_or1 (db_not (db_tru ((de_callN kx d__law_is_integer (by decide) (da_cons ((dt_fld (dt_var 0) (s.at_d) (s.ax_d)).de) da_nil)).dt)))))).db) (dss_one (ds_ret (de_bl))) (dss_nil))
      (dss_one (ds_ret (de_and ((de_eq kx.u64 (dt_fld (dt_var 0) (s.at_n) (s.ax_n)) (dt_ix (dt_var 1) ((de_int).dt))).dt) (de_one (de_eq kx.u64 (dt_fld (dt_var 0) (s.at_d) (s.ax_d)) (dt_ix (dt_var 1) ((de_int).dt)))))))
theorem sc__law_is_bad_ratio : FnScope N__law_is_bad_ratio ["e"] (defScope (top 20)) := ⟨rfl, rfl, rfl, by decide +kernel, rfl, by decide +kernel, by decide +kernel⟩
theorem ok__law_is_bad_ratio (s : Say K mg) : Def true P w K mg base (L2.CX P w) (gam K cls) "_law_is_bad_ratio" 1 ["e"] h__law_is_bad_ratio := by
  obtain ⟨fd, F⟩ := s.f__law_is_bad_ratio
  refine ⟨_, fd, s.g__law_is_bad_ratio, F.kp, def_sd (k := 0) (m := 0) (G := G__law_is_bad_ratio) F sc__law_is_bad_ratio rfl fun cdv A outer s0 H E kx => ?_, F.bindsN fun _ _ _ _ _ _ us hl => match us, hl with | [_], _ => rfl⟩
  exact dss_cons (ds_if ((dw_or (db_not (db_tru ((de_isi s.n_isinstance (dt_var 0) (pe_own s.g_CutsError) (.own _) s.i_CutsError).dt))) (dw_or1 (db_not (db_tru ((de_isi s.n_isinstance (dt_var 0) (pe_bt s.n_ValueError (by decide +kernel)) (.ty _) s.i_ValueError).dt))))).db) (dss_one (ds_ret (de_bl))) (dss_nil))
      (dss_one (ds_ret (de_not ((de_isiT s.n_isinstance (dt_var 0) (pa_cs (pe_own s.g_BadLot) (pa_cs (pe_own s.g_BadText) (pa_cs (pe_own s.g_BadValue) (pa_cs (pe_own s.g_TooMany) pa_cs0)))) (Nat.le_of_ble_eq_true rfl) (.cons (.own _) (.cons (.own _) (.cons (.own _) (.cons (.own _) .nil)))) s.i_BadLot_BadText_BadValue_TooMany).dt))))
theorem sc__law_raises : FnScope N__law_raises ["n", "d"] (defScope (top 21)) := ⟨rfl, rfl, rfl, by decide +kernel, rfl, by decide +kernel, by decide +kernel⟩
theorem ok__law_raises (s : Say K mg) (d__law_is_bad_ratio : Def true P w K mg base (L2.CX P w) (gam K cls) "_law_is_bad_ratio" 1 ["e"] h__law_is_bad_ratio) (d_Ratio1 : MkD P w K mg base (gam K cls) "Ratio" 1 dd_Ratio1 h_Ratio_init) (d_Ratio2 : MkD P w K mg base (gam K cls) "Ratio" 1 dd_Ratio2 h_Ratio_init) : Def false P w K mg base (L2.CX P w) (gam K cls) "_law_raises" 3 ["n", "d"] h__law_raises := by
  obtain ⟨fd, F⟩ := s.f__law_raises
  refine ⟨_, fd, s.g__law_raises, F.kp, def_d (k := 2) (m := 1) (G := G__law_raises) F sc__law_raises rfl fun cdv A outer s0 H E kx ky => ?_, F.bindsN fun _ _ _ _ _ _ us hl => match us, hl with | [_, _], _ => rfl⟩
  exact dss_cons (ds_tryN (i := 2) kx ky s.m_BadRatio (fun W1 pn1 xe1 t1 p1 => have kt := kx.t t1; have kz := ky.t t1 p1; dss_one (ds_expr (de_mk kt d_Ratio2 (by decide) (da_cons ((dt_var 0).de) (da_cons ((dt_var 1).de) da_nil)))))
      (fun a1 pn1 => have ks := kx.s a1 pn1; dss_one (ds_ret (de_callN ks d__law_is_bad_ratio (by decide) (da_cons ((dt_var 2).de) da_nil)))))
      (dss_one (ds_ret (de_bl)))
theorem sc__law_over_raises : FnScope N__law_over_raises ["ratio"] (defScope (top 22)) := ⟨rfl, rfl, rfl, by decide +kernel, rfl, by decide +kernel, by decide +kernel⟩
theorem ok__law_over_raises (s : Say K mg) (d__law_is_bad_ratio : Def true P w K mg base (L2.CX P w) (gam K cls) "_law_is_bad_ratio" 1 ["e"] h__law_is_bad_ratio) (d_Ratio_over : MDef false P w K mg base (L2.CX P w) (gam K cls) "Ratio" "over" 3 ["self", "other"] h_Ratio_over) (d_Ratio1 : MkD P w K mg base (gam K cls) "Ratio" 1 dd_Ratio1 h_Ratio_init) (d_Ratio2 : MkD P w K mg base (gam K cls) "Ratio" 1 dd_Ratio2 h_Ratio_init) : Def false P w K mg base (L2.CX P w) (gam K cls) "_law_over_raises" 5 ["ratio"] h__law_over_raises := by
  obtain ⟨fd, F⟩ := s.f__law_over_raises
  refine ⟨_, fd, s.g__law_over_raises, F.kp, def_d (k := 4) (m := 1) (G := G__law_over_raises) F sc__law_over_raises rfl fun cdv A outer s0 H E kx ky => ?_, F.bindsN fun _ _ _ _ _ _ us hl => match us, hl with | [_], _ => rfl⟩
  exact dss_cons (ds_tryN (i := 1) kx ky s.m_BadRatio (fun W1 pn1 xe1 t1 p1 => have kt := kx.t t1; have kz := ky.t t1 p1; dss_one (ds_expr (de_methN kt d_Ratio_over (by decide) ((dt_var 0).de) (da_cons (de_mk kt d_Ratio2 (by decide) (da_cons (de_int) (da_cons (de_int) da_nil))) da_nil))))
      (fun a1 pn1 => have ks := kx.s a1 pn1; dss_one (ds_ret (de_callN ks d__law_is_bad_ratio (by decide) (da_cons ((dt_var 1).de) da_nil)))))
      (dss_one (ds_ret (de_bl)))
theorem sc__law_written : FnScope N__law_written ["due"] (defScope (top 23)) := ⟨rfl, rfl, rfl, by decide +kernel, rfl, by decide +kernel, by decide +kernel⟩
theorem ok__law_written (s : Say K mg) : Def false P w K mg base (L2.CX P w) (gam K cls) "_law_written" 1 ["due"] h__law_written := by
  obtain ⟨fd, F⟩ := s.f__law_written
  refine ⟨_, fd, s.g__law_written, F.kp, def_d (k := 0) (m := 0) (G := G__law_written) F sc__law_written rfl fun cdv A outer s0 H E kx ky => ?_, F.bindsN fun _ _ _ _ _ _ us hl => match us, hl with | [_], _ => rfl⟩
  exact dss_one (ds_ret (de_add ((de_add ((de_callTy call_str_int cv_str (by decide +kernel) s.n_str (dk_cons (dt_ix (dt_var 0) ((de_int).dt)) dk_nil)).dt) ((de_str).dt)).dt) ((de_callTy call_str_int cv_str (by decide +kernel) s.n_str (dk_cons (dt_ix (dt_var 0) ((de_int).dt)) dk_nil)).dt)))
theorem sc__law_whole : FnScope N__law_whole ["n"] (defScope (top 24)) := ⟨rfl, rfl, rfl, by decide +kernel, rfl, by decide +kernel, by decide +kernel⟩
theorem ok__law_whole (s : Say K mg) (d__law_is : Def false P w K mg base (L2.CX P w) (gam K cls) "_law_is" 2 ["ratio", "due"] h__law_is) (d__law_written : Def false P w K mg base (L2.CX P w) (gam K cls) "_law_written" 1 ["due"] h__law_written) (d_Ratio_eq : MDef false P w K mg base (L2.CX P w) (gam K cls) "Ratio" "__eq__" 1 ["self", "other"] h_Ratio_eq) (d_Ratio_str : MDef false P w K mg base (L2.CX P w) (gam K cls) "Ratio" "__str__" 1 ["self"] h_Ratio_str) (d_Ratio1 : MkD P w K mg base (gam K cls) "Ratio" 1 dd_Ratio1 h_Ratio_init) (d_Ratio2 : MkD P w K mg base (gam K cls) "Ratio" 1 dd_Ratio2 h_Ratio_init) : Def false P w K mg base (L2.CX P w) (gam K cls) "_law_whole" 3 ["n"] h__law_whole := by
  obtain ⟨fd, F⟩ := s.f__law_whole
  refine ⟨_, fd, s.g__law_whole, F.kp, def_d (k := 2) (m := 1) (G := G__law_whole) F sc__law_whole rfl fun cdv A outer s0 H E kx ky => ?_, F.bindsN fun _ _ _ _ _ _ us hl => match us, hl with | [_], _ => rfl⟩
  exact dss_cons (ds_setF (i := 1) kx.nd (de_mk kx d_Ratio1 (by decide) (da_cons ((dt_var 0).de) da_nil)))
      (dss_one (ds_ret (de_and ((de_callN kx d__law_is (by decide) (da_cons ((dt_var 1).de) (da_cons (de_tup (da_cons ((dt_var 0).de) (da_cons (de_int) da_nil))) da_nil))).dt) (de_and ((de_eq kx.u64 ((de_strO kx d_Ratio_str (by decide) s.n_str ((dt_var 1).de)).dt) ((de_callN kx d__law_written (by decide) (da_cons (de_tup (da_cons ((dt_var 0).de) (da_cons (de_int) da_nil))) da_nil)).dt)).dt) (de_one (de_eqO kx d_Ratio_eq (by decide) s.nf_Ratio ((dt_var 1).de) (de_mk kx d_Ratio2 (by decide) (da_cons (de_neg (dt_var 0)) (da_cons (de_neg ((de_int).dt)) da_nil)))))))))
theorem sc__law_sums : FnScope N__law_sums ["first", "second", "a", "b"] (defScope (top 25)) := ⟨rfl, rfl, rfl, by decide +kernel, rfl, by decide +kernel, by decide +kernel⟩
theorem ok__law_sums (s : Say K mg) (d__law_is : Def false P w K mg base (L2.CX P w) (gam K cls) "_law_is" 2 ["ratio", "due"] h__law_is) (d__law_lowest : Def false P w K mg base (L2.CX P w) (gam K cls) "_law_lowest" 2 ["n", "d"] h__law_lowest) (d_Ratio_add : MDef false P w K mg base (L2.CX P w) (gam K cls) "Ratio" "__add__" 3 ["self", "other"] h_Ratio_add) (d_Ratio_mul : MDef false P w K mg base (L2.CX P w) (gam K cls) "Ratio" "__mul__" 3 ["self", "other"] h_Ratio_mul) (d_Ratio_sub : MDef false P w K mg base (L2.CX P w) (gam K cls) "Ratio" "__sub__" 3 ["self", "other"] h_Ratio_sub) : Def false P w K mg base (L2.CX P w) (gam K cls) "_law_sums" 5 ["first", "second", "a", "b"] h__law_sums := by
  obtain ⟨fd, F⟩ := s.f__law_sums
  refine ⟨_, fd, s.g__law_sums, F.kp, def_d (k := 4) (m := 0) (G := G__law_sums) F sc__law_sums rfl fun cdv A outer s0 H E kx ky => ?_, F.bindsN fun _ _ _ _ _ _ us hl => match us, hl with | [_, _, _, _], _ => rfl⟩
  exact dss_cons (ds_if (db_not (db_tru ((de_callN kx d__law_is (by decide) (da_cons (de_opO (op := .Add) kx d_Ratio_add (by decide) ((dt_var 0).de) ((dt_var 1).de)) (da_cons (de_callN kx d__law_lowest (by decide) (da_cons (de_add ((de_mul (dt_ix (dt_var 2) ((de_int).dt)) (dt_ix (dt_var 3) ((de_int).dt))).dt) ((de_mul (dt_ix (dt_var 3) ((de_int).dt)) (dt_ix (dt_var 2) ((de_int).dt))).dt)) (da_cons (de_mul (dt_ix (dt_var 2) ((de_int).dt)) (dt_ix (dt_var 3) ((de_int).dt))) da_nil))) da_nil))).dt))) (dss_one (ds_ret (de_bl))) (dss_nil))
      (dss_cons (ds_if (db_not (db_tru ((de_callN kx d__law_is (by decide) (da_cons (de_opO (op := .Sub) kx d_Ratio_sub (by decide) ((dt_var 0).de) ((dt_var 1).de)) (da_cons (de_callN kx d__law_lowest (by decide) (da_cons (de_sub ((de_mul (dt_ix (dt_var 2) ((de_int).dt)) (dt_ix (dt_var 3) ((de_int).dt))).dt) ((de_mul (dt_ix (dt_var 3) ((de_int).dt)) (dt_ix (dt_var 2) ((de_int).dt))).dt)) (da_cons (de_mul (dt_ix (dt_var 2) ((de_int).dt)) (dt_ix (dt_var 3) ((de_int).dt))) da_nil))) da_nil))).dt))) (dss_one (ds_ret (de_bl))) (dss_nil))
      (dss_one (ds_ret (de_callN kx d__law_is (by decide) (da_cons (de_opO (op := .Mult) kx d_Ratio_mul (by decide) ((dt_var 0).de) ((dt_var 1).de)) (da_cons (de_callN kx d__law_lowest (by decide) (da_cons (de_mul (dt_ix (dt_var 2) ((de_int).dt)) (dt_ix (dt_var 3) ((de_int).dt))) (da_cons (de_mul (dt_ix (dt_var 2) ((de_int).dt)) (dt_ix (dt_var 3) ((de_int).dt))) da_nil))) da_nil))))))
theorem sc__law_order : FnScope N__law_order ["first", "second", "a", "b"] (defScope (top 26)) := ⟨rfl, rfl, rfl, by decide +kernel, rfl, by decide +kernel, by decide +kernel⟩
theorem ok__law_order (s : Say K mg) (d__law_is_integer : Def false P w K mg base (L2.CX P w) (gam K cls) "_law_is_integer" 1 ["actual"] h__law_is_integer) (d_Ratio_eq : MDef false P w K mg base (L2.CX P w) (gam K cls) "Ratio" "__eq__" 1 ["self", "other"] h_Ratio_eq) (d_Ratio_compare : MDef false P w K mg base (L2.CX P w) (gam K cls) "Ratio" "compare" 1 ["self", "other"] h_Ratio_compare) (d_Ratio1 : MkD P w K mg base (gam K cls) "Ratio" 1 dd_Ratio1 h_Ratio_init) (d_Ratio2 : MkD P w K mg base (gam K cls) "Ratio" 1 dd_Ratio2 h_Ratio_init) : Def false P w K mg base (L2.CX P w) (gam K cls) "_law_order" 3 ["first", "second", "a", "b"] h__law_order := by
  obtain ⟨fd, F⟩ := s.f__law_order
  refine ⟨_, fd, s.g__law_order, F.kp, def_d (k := 2) (m := 3) (G := G__law_order) F sc__law_order rfl fun cdv A outer s0 H E kx ky => ?_, F.bindsN fun _ _ _ _ _ _ us hl => match us, hl with | [_, _, _, _], _ => rfl⟩
  exact dss_cons (ds_setF (i := 4) kx.nd (de_int))
      (dss_cons (ds_if (db_lt kx.u ((de_mul (dt_ix (dt_var 2) ((de_int).dt)) (dt_ix (dt_var 3) ((de_int).dt))).dt) ((de_mul (dt_ix (dt_var 3) ((de_int).dt)) (dt_ix (dt_var 2) ((de_int).dt))).dt)) (dss_one (ds_setF (i := 4) kx.nd (de_neg ((de_int).dt)))) (dss_nil))
      (dss_cons (ds_if (db_gt ((de_mul (dt_ix (dt_var 2) ((de_int).dt)) (dt_ix (dt_var 3) ((de_int).dt))).dt) ((de_mul (dt_ix (dt_var 3) ((de_int).dt)) (dt_ix (dt_var 2) ((de_int).dt))).dt)) (dss_one (ds_setF (i := 4) kx.nd (de_int))) (dss_nil))
      (dss_cons (ds_setF (i := 5) kx.nd (de_methN kx d_Ratio_compare (by decide) ((dt_var 0).de) (da_cons ((dt_var 1).de) da_nil)))
      (dss_cons (ds_if ((dw_or (db_not (db_tru ((de_callN kx d__law_is_integer (by decide) (da_cons ((dt_var 5).de) da_nil)).dt))) (dw_or1 (db_ne kx.u64 (dt_var 5) (dt_var 4)))).db) (dss_one (ds_ret (de_bl))) (dss_nil))
      (dss_cons (ds_if ((dw_or (db_ne kx.u64 ((de_methN kx d_Ratio_compare (by decide) ((dt_var 1).de) (da_cons ((dt_var 0).de) da_nil)).dt) ((de_neg (dt_var 4)).dt)) (dw_or1 (db_ne kx.u64 ((de_methN kx d_Ratio_compare (by decide) ((dt_var 0).de) (da_cons (de_mk kx d_Ratio2 (by decide) (da_cons (de_mul (dt_ix (dt_var 2) ((de_int).dt)) ((de_int).dt)) (da_cons (de_mul (dt_ix (dt_var 2) ((de_int).dt)) ((de_int).dt)) da_nil))) da_nil)).dt) ((de_int).dt)))).db) (dss_one (ds_ret (de_bl))) (dss_nil))
      (dss_cons (ds_setF (i := 6) kx.nd (de_mod ((de_callB call_abs cv_abs (by decide +kernel) s.n_abs (dk_cons (dt_ix (dt_var 2) ((de_int).dt)) dk_nil)).dt) ((de_int).dt)))
      (dss_cons (ds_if ((dw_or (db_isnot ((de_eqO kx d_Ratio_eq (by decide) s.nf_Ratio (de_mk kx d_Ratio2 (by decide) (da_cons (de_int) (da_cons (de_add (dt_var 6) ((de_int).dt)) da_nil))) (de_mk kx d_Ratio2 (by decide) (da_cons (de_int) (da_cons (de_add (dt_var 6) ((de_int).dt)) da_nil)))).dt) ((de_bl).dt)) (dw_or1 (db_isnot ((de_eqO kx d_Ratio_eq (by decide) s.nf_Ratio (de_mk kx d_Ratio1 (by decide) (da_cons (de_add (dt_var 6) ((de_int).dt)) da_nil)) (de_mk kx d_Ratio1 (by decide) (da_cons (de_add (dt_var 6) ((de_int).dt)) da_nil))).dt) ((de_bl).dt)))).db) (dss_one (ds_ret (de_bl))) (dss_nil))
      (dss_cons (ds_if (db_eq kx.u64 (dt_var 2) (dt_var 3)) (dss_one (ds_ret (de_and ((de_is ((de_eqO kx d_Ratio_eq (by decide) s.nf_Ratio ((dt_var 0).de) ((dt_var 1).de)).dt) ((de_bl).dt)).dt) (de_one (de_is ((de_neO kx d_Ratio_eq (by decide) s.ne_Ratio ((dt_var 0).de) ((dt_var 1).de)).dt) ((de_bl).dt)))))) (dss_nil))
      (dss_one (ds_ret (de_and ((de_is ((de_eqO kx d_Ratio_eq (by decide) s.nf_Ratio ((dt_var 0).de) ((dt_var 1).de)).dt) ((de_bl).dt)).dt) (de_one (de_is ((de_neO kx d_Ratio_eq (by decide) s.ne_Ratio ((dt_var 0).de) ((dt_var 1).de)).dt) ((de_bl).dt))))))))))))))
theorem sc_law : FnScope N_law ["script"] (defScope (top 27)) := ⟨rfl, rfl, rfl, by decide +kernel, rfl, by decide +kernel, by decide +kernel⟩
theorem fn_law (s : Say K mg) (d__law_fraction : Def false P w K mg base (L2.CX P w) (gam K cls) "_law_fraction" 3 ["script", "k"] h__law_fraction) (d__law_is : Def false P w K mg base (L2.CX P w) (gam K cls) "_law_is" 2 ["ratio", "due"] h__law_is) (d__law_lowest : Def false P w K mg base (L2.CX P w) (gam K cls) "_law_lowest" 2 ["n", "d"] h__law_lowest) (d__law_order : Def false P w K mg base (L2.CX P w) (gam K cls) "_law_order" 3 ["first", "second", "a", "b"] h__law_order) (d__law_over_raises : Def false P w K mg base (L2.CX P w) (gam K cls) "_law_over_raises" 5 ["ratio"] h__law_over_raises) (d__law_raises : Def false P w K mg base (L2.CX P w) (gam K cls) "_law_raises" 3 ["n", "d"] h__law_raises) (d__law_sums : Def false P w K mg base (L2.CX P w) (gam K cls) "_law_sums" 5 ["first", "second", "a", "b"] h__law_sums) (d__law_whole : Def false P w K mg base (L2.CX P w) (gam K cls) "_law_whole" 3 ["n"] h__law_whole) (d__law_written : Def false P w K mg base (L2.CX P w) (gam K cls) "_law_written" 1 ["due"] h__law_written) (d_Ratio_eq : MDef false P w K mg base (L2.CX P w) (gam K cls) "Ratio" "__eq__" 1 ["self", "other"] h_Ratio_eq) (d_Ratio_str : MDef false P w K mg base (L2.CX P w) (gam K cls) "Ratio" "__str__" 1 ["self"] h_Ratio_str) (d_Ratio_over : MDef false P w K mg base (L2.CX P w) (gam K cls) "Ratio" "over" 3 ["self", "other"] h_Ratio_over) (d_Ratio1 : MkD P w K mg base (gam K cls) "Ratio" 1 dd_Ratio1 h_Ratio_init) (d_Ratio2 : MkD P w K mg base (gam K cls) "Ratio" 1 dd_Ratio2 h_Ratio_init) {fd : FuncData} (F : FunD K "law" "law" (defArgs (top 27)) (defBody (top 27)) (defScope (top 27)) [] [] (He.fAd K ("law", none)) fd) : Fno false P w K mg base (L2.CX P w) 6 (He.fAd K ("law", none)) fd ["script"] (spP ⟨K, gam K cls⟩ h_law) := by
  refine def_d (k := 5) (m := 7) (G := G_law) F sc_law rfl fun cdv A outer s0 H E kx ky => ?_
  exact dss_cons (ds_setF (i := 1) kx.nd (de_lst (da_cons (de_callN kx d__law_fraction (by decide) (da_cons ((dt_var 0).de) (da_cons (de_int) da_nil))) (da_cons (de_callN kx d__law_fraction (by decide) (da_cons ((dt_var 0).de) (da_cons (de_int) da_nil))) da_nil))))
      (dss_cons (ds_if ((dw_or (db_not (db_tru ((de_callN kx d__law_whole (by decide) (da_cons ((dt_ix (dt_ix (dt_var 1) ((de_int).dt)) ((de_int).dt)).de) da_nil)).dt))) (dw_or1 (db_not (db_tru ((de_callN kx d__law_raises (by decide) (da_cons ((dt_ix (dt_ix (dt_var 1) ((de_int).dt)) ((de_int).dt)).de) (da_cons (de_int) da_nil))).dt))))).db) (dss_one (ds_ret (de_bl))) (dss_nil))
      (dss_cons (ds_for ky.po ky.calm (di_seq ((dt_var 1).de)) (dg_name kx.nd) (dss_one (ds_if ((dw_and (db_eq kx.u64 (dt_ix (dt_var 2) ((de_int).dt)) ((de_int).dt)) (dw_and1 (db_not (db_tru ((de_callN kx d__law_raises (by decide) (da_cons ((dt_ix (dt_var 2) ((de_int).dt)).de) (da_cons ((dt_ix (dt_var 2) ((de_int).dt)).de) da_nil))).dt))))).db) (dss_one (ds_ret (de_bl))) (dss_nil))))
      (dss_cons (ds_setLcF (i := 3) (own := [("pair", 2)]) ky.calm kx.nd (blkOk_by (N := N_law) (sc := defScope (top 27)) (by decide +kernel)) (di_seq ((dt_var 1).de)) (fun sB1 HB1 CB1 clB1 fpB1 => (dgb_name kx.nd (by decide))) (fun sB1 HB1 CB1 clB1 fpB1 => dts_nil) (fun sB1 HB1 CB1 clB1 fpB1 => de_if (db_ne (kx.b sB1 HB1 CB1 clB1 fpB1).u64 (dt_ix (dt_var 2) ((de_int).dt)) ((de_int).dt)) (de_callN (kx.b sB1 HB1 CB1 clB1 fpB1) d__law_lowest (by decide) (da_cons ((dt_ix (dt_var 2) ((de_int).dt)).de) (da_cons ((dt_ix (dt_var 2) ((de_int).dt)).de) da_nil))) (de_tup (da_cons ((dt_ix (dt_var 2) ((de_int).dt)).de) (da_cons (de_int) da_nil)))))
      (dss_cons (ds_setF (i := 4) kx.nd (de_if (db_ne kx.u64 (dt_ix (dt_ix (dt_var 1) ((de_int).dt)) ((de_int).dt)) ((de_int).dt)) (de_mk kx d_Ratio2 (by decide) (da_cons ((dt_ix (dt_ix (dt_var 1) ((de_int).dt)) ((de_int).dt)).de) (da_cons ((dt_ix (dt_ix (dt_var 1) ((de_int).dt)) ((de_int).dt)).de) da_nil))) (de_mk kx d_Ratio2 (by decide) (da_cons ((dt_ix (dt_ix (dt_var 1) ((de_int).dt)) ((de_int).dt)).de) (da_cons (de_int) da_nil)))))
      (dss_cons (ds_setF (i := 5) kx.nd (de_if (db_ne kx.u64 (dt_ix (dt_ix (dt_var 1) ((de_int).dt)) ((de_int).dt)) ((de_int).dt)) (de_mk kx d_Ratio2 (by decide) (da_cons ((dt_ix (dt_ix (dt_var 1) ((de_int).dt)) ((de_int).dt)).de) (da_cons ((dt_ix (dt_ix (dt_var 1) ((de_int).dt)) ((de_int).dt)).de) da_nil))) (de_mk kx d_Ratio1 (by decide) (da_cons ((dt_ix (dt_ix (dt_var 1) ((de_int).dt)) ((de_int).dt)).de) da_nil))))
      (dss_cons (ds_setF (i := 6) kx.nd ((dt_ix (dt_var 3) ((de_int).dt)).de))
      (dss_cons (ds_setF (i := 7) kx.nd ((dt_ix (dt_var 3) ((de_int).dt)).de))
      (dss_cons (ds_if ((dw_or (db_not (db_tru ((de_callN kx d__law_is (by decide) (da_cons ((dt_var 4).de) (da_cons ((dt_var 6).de) da_nil))).dt))) (dw_or (db_not (db_tru ((de_callN kx d__law_is (by decide) (da_cons ((dt_var 5).de) (da_cons ((dt_var 7).de) da_nil))).dt))) (dw_or1 (db_ne kx.u64 ((de_strO kx d_Ratio_str (by decide) s.n_str ((dt_var 4).de)).dt) ((de_callN kx d__law_written (by decide) (da_cons ((dt_var 6).de) da_nil)).dt))))).db) (dss_one (ds_ret (de_bl))) (dss_nil))
      (dss_cons (ds_if ((dw_or (db_not (db_tru ((de_callN kx d__law_sums (by decide) (da_cons ((dt_var 4).de) (da_cons ((dt_var 5).de) (da_cons ((dt_var 6).de) (da_cons ((dt_var 7).de) da_nil))))).dt))) (dw_or1 (db_not (db_tru ((de_callN kx d__law_order (by decide) (da_cons ((dt_var 4).de) (da_cons ((dt_var 5).de) (da_cons ((dt_var 6).de) (da_cons ((dt_var 7).de) da_nil))))).dt))))).db) (dss_one (ds_ret (de_bl))) (dss_nil))
      (dss_cons (ds_if ((dw_and (db_eq kx.u64 (dt_ix (dt_var 7) ((de_int).dt)) ((de_int).dt)) (dw_and1 (db_not (db_tru ((de_callN kx d__law_over_raises (by decide) (da_cons ((dt_var 4).de) da_nil)).dt))))).db) (dss_one (ds_ret (de_bl))) (dss_nil))
      (dss_cons (ds_if ((dw_and (db_ne kx.u64 (dt_ix (dt_var 7) ((de_int).dt)) ((de_int).dt)) (dw_and1 (db_not (db_tru ((de_callN kx d__law_is (by decide) (da_cons (de_methN kx d_Ratio_over (by decide) ((dt_var 4).de) (da_cons ((dt_var 5).de) da_nil)) (da_cons (de_callN kx d__law_lowest (by decide) (da_cons (de_mul (dt_ix (dt_var 6) ((de_int).dt)) (dt_ix (dt_var 7) ((de_int).dt))) (da_cons (de_mul (dt_ix (dt_var 6) ((de_int).dt)) (dt_ix (dt_var 7) ((de_int).dt))) da_nil))) da_nil))).dt))))).db) (dss_one (ds_ret (de_bl))) (dss_nil))
      (dss_cons (ds_if ((dw_or (db_isnot ((de_eqO kx d_Ratio_eq (by decide) s.nf_Ratio ((dt_var 4).de) ((dt_ix (dt_var 6) ((de_int).dt)).de)).dt) ((de_bl).dt)) (dw_or1 (db_isnot ((de_eqO kx d_Ratio_eq (by decide) s.nf_Ratio ((dt_var 4).de) (de_tup (da_cons ((dt_ix (dt_var 6) ((de_int).dt)).de) (da_cons ((dt_ix (dt_var 6) ((de_int).dt)).de) da_nil)))).dt) ((de_bl).dt)))).db) (dss_one (ds_ret (de_bl))) (dss_nil))
      (dss_one (ds_ret (de_and ((de_callN kx d__law_over_raises (by decide) (da_cons ((dt_var 5).de) da_nil)).dt) (de_and ((de_callN kx d__law_is (by decide) (da_cons ((dt_var 4).de) (da_cons ((dt_var 6).de) da_nil))).dt) (de_and ((de_callN kx d__law_is (by decide) (da_cons ((dt_var 5).de) (da_cons ((dt_var 7).de) da_nil))).dt) (de_one (de_eq kx.u64 ((de_strO kx d_Ratio_str (by decide) s.n_str ((dt_var 5).de)).dt) ((de_callN kx d__law_written (by decide) (da_cons ((dt_var 7).de) da_nil)).dt))))))))))))))))))))
end
end K00
end
section
set_option maxHeartbeats 0
namespace K00
open PySem PySem.Spec L2 PyProof.Rows DL
def dd0 : He.DefD := ⟨("Ratio", some "__init__"), "__init__", "Ratio.__init__", defArgs ((cbody (top 9)).getD 0 (.Pass ⟨0, 0, 0, 0⟩)), defBody ((cbody (top 9)).getD 0 (.Pass ⟨0, 0, 0, 0⟩)), defScope ((cbody (top 9)).getD 0 (.Pass ⟨0, 0, 0, 0⟩)), [.int 1], []⟩
def dd1 : He.DefD := ⟨("Ratio", some "__eq__"), "__eq__", "Ratio.__eq__", defArgs ((cbody (top 9)).getD 1 (.Pass ⟨0, 0, 0, 0⟩)), defBody ((cbody (top 9)).getD 1 (.Pass ⟨0, 0, 0, 0⟩)), defScope ((cbody (top 9)).getD 1 (.Pass ⟨0, 0, 0, 0⟩)), [], []⟩
def dd2 : He.DefD := ⟨("Ratio", some "__add__"), "__add__", "Ratio.__add__", defArgs ((cbody (top 9)).getD 2 (.Pass ⟨0, 0, 0, 0⟩)), defBody ((cbody (top 9)).getD 2 (.Pass ⟨0, 0, 0, 0⟩)), defScope ((cbody (top 9)).getD 2 (.Pass ⟨0, 0, 0, 0⟩)), [], []⟩
def dd3 : He.DefD := ⟨("Ratio", some "__sub__"), "__sub__", "Ratio.__sub__", defArgs ((cbody (top 9)).getD 3 (.Pass ⟨0, 0, 0, 0⟩)), defBody ((cbody (top 9)).getD 3 (.Pass ⟨0, 0, 0, 0⟩)), defScope ((cbody (top 9)).getD 3 (.Pass ⟨0, 0, 0, 0⟩)), [], []⟩
def dd4 : He.DefD := ⟨("Ratio", some "__mul__"), "__mul__", "Ratio.__mul__", defArgs ((cbody (top 9)).getD 4 (.Pass ⟨0, 0, 0, 0⟩)), defBody ((cbody (top 9)).getD 4 (.Pass ⟨0, 0, 0, 0⟩)), defScope ((cbody (top 9)).getD 4 (.Pass ⟨0, 0, 0, 0⟩)), [], []⟩
def dd5 : He.DefD := ⟨("Ratio", some "__str__"), "__str__", "Ratio.__str__", defArgs ((cbody (top 9)).getD 5 (.Pass ⟨0, 0, 0, 0⟩)), defBody ((cbody (top 9)).getD 5 (.Pass ⟨0, 0, 0, 0⟩)), defScope ((cbody (top 9)).getD 5 (.Pass ⟨0, 0, 0, 0⟩)), [], []⟩
def dd6 : He.DefD := ⟨("Ratio", some "over"), "over", "Ratio.over", defArgs ((cbody (top 9)).getD 6 (.Pass ⟨0, 0, 0, 0⟩)), defBody ((cbody (top 9)).getD 6 (.Pass ⟨0, 0, 0, 0⟩)), defScope ((cbody (top 9)).getD 6 (.Pass ⟨0, 0, 0, 0⟩)), [], []⟩
def dd7 : He.DefD := ⟨("Ratio", some "compare"), "compare", "Ratio.compare", defArgs ((cbody (top 9)).getD 7 (.Pass ⟨0, 0, 0, 0⟩)), defBody ((cbody (top 9)).getD 7 (.Pass ⟨0, 0, 0, 0⟩)), defScope ((cbody (top 9)).getD 7 (.Pass ⟨0, 0, 0, 0⟩)), [], []⟩
def dd8 : He.DefD := ⟨("_law_cell", none), "_law_cell", "_law_cell", defArgs (top 11), defBody (top 11), defScope (top 11), [], []⟩
def dd9 : He.DefD := ⟨("_law_mixed", none), "_law_mixed", "_law_mixed", defArgs (top 12), defBody (top 12), defScope (top 12), [], []⟩
def dd10 : He.DefD := ⟨("_law_row", none), "_law_row", "_law_row", defArgs (top 13), defBody (top 13), defScope (top 13), [], []⟩
def dd11 : He.DefD := ⟨("_law_number", none), "_law_number", "_law_number", defArgs (top 14), defBody (top 14), defScope (top 14), [], []⟩
def dd12 : He.DefD := ⟨("_law_gcd", none), "_law_gcd", "_law_gcd", defArgs (top 15), defBody (top 15), defScope (top 15), [], []⟩
def dd13 : He.DefD := ⟨("_law_fraction", none), "_law_fraction", "_law_fraction", defArgs (top 16), defBody (top 16), defScope (top 16), [], []⟩
def dd14 : He.DefD := ⟨("_law_lowest", none), "_law_lowest", "_law_lowest", defArgs (top 17), defBody (top 17), defScope (top 17), [], []⟩
def dd15 : He.DefD := ⟨("_law_is_integer", none), "_law_is_integer", "_law_is_integer", defArgs (top 18), defBody (top 18), defScope (top 18), [], []⟩
def dd16 : He.DefD := ⟨("_law_is", none), "_law_is", "_law_is", defArgs (top 19), defBody (top 19), defScope (top 19), [], []⟩
def dd17 : He.DefD := ⟨("_law_is_bad_ratio", none), "_law_is_bad_ratio", "_law_is_bad_ratio", defArgs (top 20), defBody (top 20), defScope (top 20), [], []⟩
def dd18 : He.DefD := ⟨("_law_raises", none), "_law_raises", "_law_raises", defArgs (top 21), defBody (top 21), defScope (top 21), [], []⟩
def dd19 : He.DefD := ⟨("_law_over_raises", none), "_law_over_raises", "_law_over_raises", defArgs (top 22), defBody (top 22), defScope (top 22), [], []⟩
def dd20 : He.DefD := ⟨("_law_written", none), "_law_written", "_law_written", defArgs (top 23), defBody (top 23), defScope (top 23), [], []⟩
def dd21 : He.DefD := ⟨("_law_whole", none), "_law_whole", "_law_whole", defArgs (top 24), defBody (top 24), defScope (top 24), [], []⟩
def dd22 : He.DefD := ⟨("_law_sums", none), "_law_sums", "_law_sums", defArgs (top 25), defBody (top 25), defScope (top 25), [], []⟩
def dd23 : He.DefD := ⟨("_law_order", none), "_law_order", "_law_order", defArgs (top 26), defBody (top 26), defScope (top 26), [], []⟩
def dd24 : He.DefD := ⟨("law", none), "law", "law", defArgs (top 27), defBody (top 27), defScope (top 27), [], []⟩
def fnL : List He.DefD := [dd0, dd1, dd2, dd3, dd4, dd5, dd6, dd7, dd8, dd9, dd10, dd11, dd12, dd13, dd14, dd15, dd16, dd17, dd18, dd19, dd20, dd21, dd22, dd23, dd24]
def faL : List He.Fa := [.free "ValueError", .free "abs", .free "bool", .free "int", .free "isinstance", .free "len", .free "range", .free "str", .glo "CutsError", .glo "BadText", .glo "BadValue", .glo "BadRatio", .glo "BadLot", .glo "TooMany", .glo "Ratio", .mkr "Ratio", .cls "Ratio", .meth "Ratio" "__eq__", .meth "Ratio" "__add__", .meth "Ratio" "__sub__", .meth "Ratio" "__mul__", .meth "Ratio" "__str__", .meth "Ratio" "over", .meth "Ratio" "compare", .glo "_law_cell", .glo "_law_mixed", .glo "_law_row", .glo "_law_number", .glo "_law_gcd", .glo "_law_fraction", .glo "_law_lowest", .glo "_law_is_integer", .glo "_law_is", .glo "_law_is_bad_ratio", .glo "_law_raises", .glo "_law_over_raises", .glo "_law_written", .glo "_law_whole", .glo "_law_sums", .glo "_law_order", .glo "law", .exc "BadRatio"]
def exL : List (PySem.W.Frag → Bool) := [fun K => He.eqO (PySem.W.nsIn K mainGlobals "gcd") (some (some (.builtin "math.gcd"))),
  fun K => PySem.W.selfFirst K (He.ga K "Ratio"),
  fun K => atB K "d" ["Ratio"],
  fun K => axB K "d" [],
  fun K => atB K "n" ["Ratio"],
  fun K => axB K "n" [],
  fun K => isiB K [.ref (He.ga K "BadLot"), .ref (He.ga K "BadText"), .ref (He.ga K "BadValue"), .ref (He.ga K "TooMany")] [("NoneType", false), ("bool", false), ("int", false), ("str", false), ("tuple", false), ("list", false)] [("Ratio", false)] [("BadRatio", false)],
  fun K => isiB K [.ref (He.ga K "CutsError")] [("NoneType", false), ("bool", false), ("int", false), ("str", false), ("tuple", false), ("list", false)] [("Ratio", false)] [("BadRatio", true)],
  fun K => isiB K [.ref (He.ga K "Ratio")] [("NoneType", false), ("bool", false), ("int", false), ("str", false), ("tuple", false), ("list", false)] [("Ratio", true)] [("BadRatio", false)],
  fun K => isiB K [.type "ValueError"] [("NoneType", false), ("bool", false), ("int", false), ("str", false), ("tuple", false), ("list", false)] [("Ratio", false)] [("BadRatio", true)],
  fun K => isiB K [.type "bool"] [("NoneType", false), ("bool", true), ("int", false), ("str", false), ("tuple", false), ("list", false)] [("Ratio", false)] [("BadRatio", false)],
  fun K => isiB K [.type "int"] [("NoneType", false), ("bool", true), ("int", true), ("str", false), ("tuple", false), ("list", false)] [("Ratio", false)] [("BadRatio", false)],
  fun K => nfB K "Ratio",
  fun K => neB K (He.ga K "Ratio") (He.ma K (He.ga K "Ratio") "__eq__"),
  fun K => tzB K "BadRatio" [("BadRatio", true)]]
theorem say_of {K : PySem.W.Frag} {mg : Str → Option Value} {h : Heap} (X : K.In h) (G : h.Ns mainGlobals mg) (c : SayX faL fnL exL K) : Say K mg where
  n_ValueError := He.free_ok X G (c.he.fact 0)
  n_abs := He.free_ok X G (c.he.fact 1)
  n_bool := He.free_ok X G (c.he.fact 2)
  n_int := He.free_ok X G (c.he.fact 3)
  n_isinstance := He.free_ok X G (c.he.fact 4)
  n_len := He.free_ok X G (c.he.fact 5)
  n_range := He.free_ok X G (c.he.fact 6)
  n_str := He.free_ok X G (c.he.fact 7)
  g_gcd := gl_ok X G (c.test 0)
  g_CutsError := He.glo_ok X G (c.he.fact 8)
  g_BadText := He.glo_ok X G (c.he.fact 9)
  g_BadValue := He.glo_ok X G (c.he.fact 10)
  g_BadRatio := He.glo_ok X G (c.he.fact 11)
  g_BadLot := He.glo_ok X G (c.he.fact 12)
  g_TooMany := He.glo_ok X G (c.he.fact 13)
  g_Ratio := He.glo_ok X G (c.he.fact 14)
  f_Ratio_init := c.he.def_ 0 (d := dd0) rfl
  k_Ratio := He.mkr_ok (c.he.fact 15)
  f_Ratio_eq := c.he.def_ 1 (d := dd1) rfl
  k_Ratio_eq := ⟨He.cls_ok (c.he.fact 16), He.meth_ok (c.he.fact 17), c.test 1⟩
  f_Ratio_add := c.he.def_ 2 (d := dd2) rfl
  k_Ratio_add := ⟨He.cls_ok (c.he.fact 16), He.meth_ok (c.he.fact 18), c.test 1⟩
  f_Ratio_sub := c.he.def_ 3 (d := dd3) rfl
  k_Ratio_sub := ⟨He.cls_ok (c.he.fact 16), He.meth_ok (c.he.fact 19), c.test 1⟩
  f_Ratio_mul := c.he.def_ 4 (d := dd4) rfl
  k_Ratio_mul := ⟨He.cls_ok (c.he.fact 16), He.meth_ok (c.he.fact 20), c.test 1⟩
  f_Ratio_str := c.he.def_ 5 (d := dd5) rfl
  k_Ratio_str := ⟨He.cls_ok (c.he.fact 16), He.meth_ok (c.he.fact 21), c.test 1⟩
  f_Ratio_over := c.he.def_ 6 (d := dd6) rfl
  k_Ratio_over := ⟨He.cls_ok (c.he.fact 16), He.meth_ok (c.he.fact 22), c.test 1⟩
  f_Ratio_compare := c.he.def_ 7 (d := dd7) rfl
  k_Ratio_compare := ⟨He.cls_ok (c.he.fact 16), He.meth_ok (c.he.fact 23), c.test 1⟩
  g__law_cell := He.glo_ok X G (c.he.fact 24)
  f__law_cell := c.he.def_ 8 (d := dd8) rfl
  g__law_mixed := He.glo_ok X G (c.he.fact 25)
  f__law_mixed := c.he.def_ 9 (d := dd9) rfl
  g__law_row := He.glo_ok X G (c.he.fact 26)
  f__law_row := c.he.def_ 10 (d := dd10) rfl
  g__law_number := He.glo_ok X G (c.he.fact 27)
  f__law_number := c.he.def_ 11 (d := dd11) rfl
  g__law_gcd := He.glo_ok X G (c.he.fact 28)
  f__law_gcd := c.he.def_ 12 (d := dd12) rfl
  g__law_fraction := He.glo_ok X G (c.he.fact 29)
  f__law_fraction := c.he.def_ 13 (d := dd13) rfl
  g__law_lowest := He.glo_ok X G (c.he.fact 30)
  f__law_lowest := c.he.def_ 14 (d := dd14) rfl
  g__law_is_integer := He.glo_ok X G (c.he.fact 31)
  f__law_is_integer := c.he.def_ 15 (d := dd15) rfl
  g__law_is := He.glo_ok X G (c.he.fact 32)
  f__law_is := c.he.def_ 16 (d := dd16) rfl
  g__law_is_bad_ratio := He.glo_ok X G (c.he.fact 33)
  f__law_is_bad_ratio := c.he.def_ 17 (d := dd17) rfl
  g__law_raises := He.glo_ok X G (c.he.fact 34)
  f__law_raises := c.he.def_ 18 (d := dd18) rfl
  g__law_over_raises := He.glo_ok X G (c.he.fact 35)
  f__law_over_raises := c.he.def_ 19 (d := dd19) rfl
  g__law_written := He.glo_ok X G (c.he.fact 36)
  f__law_written := c.he.def_ 20 (d := dd20) rfl
  g__law_whole := He.glo_ok X G (c.he.fact 37)
  f__law_whole := c.he.def_ 21 (d := dd21) rfl
  g__law_sums := He.glo_ok X G (c.he.fact 38)
  f__law_sums := c.he.def_ 22 (d := dd22) rfl
  g__law_order := He.glo_ok X G (c.he.fact 39)
  f__law_order := c.he.def_ 23 (d := dd23) rfl
  g_law := He.glo_ok X G (c.he.fact 40)
  f_law := c.he.def_ 24 (d := dd24) rfl
  at_d := atB_ok (c.test 2)
  ax_d := axB_ok (c.test 3)
  at_n := atB_ok (c.test 4)
  ax_n := axB_ok (c.test 5)
  i_BadLot_BadText_BadValue_TooMany := isiB_ok (c.test 6) (by decide) (by decide)
  i_CutsError := isiB_ok (c.test 7) (by decide) (by decide)
  i_Ratio := isiB_ok (c.test 8) (by decide) (by decide)
  i_ValueError := isiB_ok (c.test 9) (by decide) (by decide)
  i_bool := isiB_ok (c.test 10) (by decide) (by decide)
  i_int := isiB_ok (c.test 11) (by decide) (by decide)
  nf_Ratio := nfB_ok (c.test 12) (by decide)
  ne_Ratio := ne_ok (c.test 13) (He.meth_ok (c.he.fact 17)).at_ (He.meth_ok (c.he.fact 17)).fn
  r_BadRatio := rz_ok (by decide) (He.glo_ok X G (c.he.fact 11)) (c.he.fact 41)
  m_BadRatio := tz_ok (He.glo_ok X G (c.he.fact 11)) (c.test 14)
abbrev R : PySem.W.OpenRow := PySem.W.OpenLaw.row PySem.Challenge.rw_cutsagainst_k00_ratios_exact
def loose : List Str := ["__name__", "CutsError", "BadText", "BadValue", "BadRatio", "BadLot", "TooMany", "Ratio", "_law_cell", "_law_mixed", "_law_row", "_law_number", "_law_gcd", "_law_fraction", "_law_lowest", "_law_is_integer", "_law_is", "_law_is_bad_ratio", "_law_raises", "_law_over_raises", "_law_written", "_law_whole", "_law_sums", "_law_order"]
abbrev hk : PySem.W.Hook := hookX 5 faL fnL exL
def ob (s : PySem.W.SharedT) : He.AlD := obsXG 5 faL fnL exL (HandSHeadRun.getT s)
theorem ob_eq (s : PySem.W.SharedT) : ob s = hk.obs s.abs := obsXG_eq (HandSHeadRun.getT_eq s)
theorem run (w : World) : HandSHeadRun.RunEqI R (PySem.W.view R.prog [0, 27]) hk ob 100000 loose w := by
  unfold HandSHeadRun.RunEqI
  kernel_rfl
end K00
end
section
set_option maxHeartbeats 1000000
namespace K00
open PySem DL
theorem len_ints (ns : List Int) : lenD (.scr (ns.map DV.int)) = some (.int ns.length) := by simp [lenD, itemsOf]
/-- small enough for every rule -/
def Sm (i : Int) : Prop := i.natAbs < 2 ^ 1000
theorem Sm.log {i : Int} (h : Sm i) : i.natAbs.log2 < 1000 := by
  unfold Sm at h
  by_cases z : i.natAbs = 0
  · rw [z]; decide
  · exact (Nat.log2_lt z).mpr h
theorem mul_sm {a b : Int} (ha : Sm a) (hb : Sm b) : mulD (.int a) (.int b) = some (.int (a * b)) := mul_int (by have := ha.log; have := hb.log; omega)
theorem div_sm {a b : Int} (hb : Sm b) (h : b ≠ 0) : divD (.int a) (.int b) = some (.int (fdivI a b)) := div_int h (by have := hb.log; omega)
def rat (n d : Int) : List (Str × DV) := [("n", .int n), ("d", .int d)]
/-- what Ratio(n, d) keeps -/
def sh (n d : Int) : Int := if d < 0 then -((Nat.gcd n.natAbs d.natAbs : Nat) : Int) else ((Nat.gcd n.natAbs d.natAbs : Nat) : Int)
theorem sh_ne {n d : Int} (h : d ≠ 0) : sh n d ≠ 0 := by
  have : 0 < Nat.gcd n.natAbs d.natAbs := Nat.gcd_pos_of_pos_right _ (by omega)
  unfold sh; split <;> omega
theorem sh_sm {n d : Int} (h : d ≠ 0) (hd : Sm d) : Sm (sh n d) := by
  have : Nat.gcd n.natAbs d.natAbs ≤ d.natAbs := Nat.le_of_dvd (by omega) (Nat.gcd_dvd_right ..)
  unfold Sm at *; unfold sh; split <;> omega
theorem nd : ¬(("n" : Str) = "d") := by decide
theorem dn : ¬(("d" : Str) = "n") := by decide
theorem init_zero (n : Int) : h_Ratio_init [] [.int n, .int 0] = .ex ⟨"BadRatio", []⟩ [] := by
  unfold h_Ratio_init fnS G_Ratio_init
  simp [finS, slf]
theorem init_spec {n d : Int} (h : d ≠ 0) (hd : Sm d) : h_Ratio_init [] [.int n, .int d] = .ok .non (rat (fdivI n (sh n d)) (fdivI d (sh n d))) := by
  have e1 : ∀ fs : List (Str × DV), ∀ s : Int, [some (DV.obj "Ratio" fs), some (DV.int n), some (DV.int d), some (DV.int s)][0]? = some (some (DV.obj "Ratio" fs)) := fun _ _ => rfl
  have d1 := div_sm (a := n) (sh_sm (n := n) h hd) (sh_ne h)
  have d2 := div_sm (a := d) (sh_sm (n := n) h hd) (sh_ne h)
  have f1 : ∀ fs, op2 divD (var 1) (var 3) [some (DV.obj "Ratio" fs), some (DV.int n), some (DV.int d), some (DV.int (sh n d))] = .ok (.int (fdivI n (sh n d))) := fun fs => by simp [d1]
  have f2 : ∀ fs, op2 divD (var 2) (var 3) [some (DV.obj "Ratio" fs), some (DV.int n), some (DV.int d), some (DV.int (sh n d))] = .ok (.int (fdivI d (sh n d))) := fun fs => by simp [d2]
  unfold h_Ratio_init fnS G_Ratio_init
  by_cases c : d < 0
  · have es : -((Nat.gcd n.natAbs d.natAbs : Nat) : Int) = sh n d := by unfold sh; rw [if_pos c]
    simp [h, c, es]
    rw [fldS_ok (f1 []) rfl rfl (by decide)]
    simp
    rw [fldS_ok (f2 _) rfl rfl (by simp [putD])]
    simp [finS, slf, putD, rat, nd]
  · have es : ((Nat.gcd n.natAbs d.natAbs : Nat) : Int) = sh n d := by unfold sh; rw [if_neg c]
    simp [h, c, es]
    rw [fldS_ok (f1 []) rfl rfl (by decide)]
    simp
    rw [fldS_ok (f2 _) rfl rfl (by simp [putD])]
    simp [finS, slf, putD, rat, nd]
abbrev rt (n d : Int) : DV := .ins "Ratio" (rat n d)
theorem fn (n d : Int) : List.lookup ("n" : Str) (rat n d) = some (.int n) := by simp [rat, List.lookup]
theorem fd (n d : Int) : List.lookup ("d" : Str) (rat n d) = some (.int d) := by
  have h : (("d" : Str) == "n") = false := by decide
  simp [rat, List.lookup, h]
theorem mk_ok {n d : Int} (h : d ≠ 0) (hd : Sm d) (fs : Slots → DL.R (List DV)) (env : Slots) (hf : fs env = .ok [.int n, .int d]) : mkV "Ratio" h_Ratio_init dd_Ratio2 fs env = .ok (.obj "Ratio" (rat (fdivI n (sh n d)) (fdivI d (sh n d)))) := by
  unfold mkV
  rw [hf]
  simp [freezes, dd_Ratio2, init_spec h hd]
theorem mk_zero {n : Int} (fs : Slots → DL.R (List DV)) (env : Slots) (hf : fs env = .ok [.int n, .int 0]) : mkV "Ratio" h_Ratio_init dd_Ratio2 fs env = .ex ⟨"BadRatio", []⟩ := by
  unfold mkV
  rw [hf]
  simp [freezes, dd_Ratio2, init_zero]
theorem mk1_ok {n : Int} (fs : Slots → DL.R (List DV)) (env : Slots) (hf : fs env = .ok [.int n]) : mkV "Ratio" h_Ratio_init dd_Ratio1 fs env = .ok (.obj "Ratio" (rat (fdivI n (sh n 1)) (fdivI 1 (sh n 1)))) := by
  unfold mkV
  rw [hf]
  simp [freezes, dd_Ratio1, init_spec (n := n) (d := 1) (by decide) (by unfold Sm; decide)]
theorem csn : cs_n "Ratio" = true := by decide
theorem csd : cs_d "Ratio" = true := by decide
theorem add_spec {a b c d : Int} (ha : Sm a) (hb : Sm b) (hc : Sm c) (hd : Sm d) (h : b * d ≠ 0) (hbd : Sm (b * d)) :
    h_Ratio_add [rt a b, rt c d] = .ok (.obj "Ratio" (rat (fdivI (a * d + c * b) (sh (a * d + c * b) (b * d))) (fdivI (b * d) (sh (a * d + c * b) (b * d))))) := by
  unfold h_Ratio_add fnR G_Ratio_add
  simp
  rw [mk_ok (n := a * d + c * b) (d := b * d) h hbd]
  · simp [DL.fin]
  · simp [csn, csd, fn, fd, mul_sm ha hd, mul_sm hc hb, mul_sm hb hd]
theorem sub_spec {a b c d : Int} (ha : Sm a) (hb : Sm b) (hc : Sm c) (hd : Sm d) (h : b * d ≠ 0) (hbd : Sm (b * d)) :
    h_Ratio_sub [rt a b, rt c d] = .ok (.obj "Ratio" (rat (fdivI (a * d - c * b) (sh (a * d - c * b) (b * d))) (fdivI (b * d) (sh (a * d - c * b) (b * d))))) := by
  unfold h_Ratio_sub fnR G_Ratio_sub
  simp
  rw [mk_ok (n := a * d - c * b) (d := b * d) h hbd]
  · simp [DL.fin]
  · simp [csn, csd, fn, fd, mul_sm ha hd, mul_sm hc hb, mul_sm hb hd]
theorem mul_spec {a b c d : Int} (ha : Sm a) (hb : Sm b) (hc : Sm c) (hd : Sm d) (h : b * d ≠ 0) (hbd : Sm (b * d)) :
    h_Ratio_mul [rt a b, rt c d] = .ok (.obj "Ratio" (rat (fdivI (a * c) (sh (a * c) (b * d))) (fdivI (b * d) (sh (a * c) (b * d))))) := by
  unfold h_Ratio_mul fnR G_Ratio_mul
  simp
  rw [mk_ok (n := a * c) (d := b * d) h hbd]
  · simp [DL.fin]
  · simp [csn, csd, fn, fd, mul_sm ha hc, mul_sm hb hd]
theorem over_spec {a b c d : Int} (ha : Sm a) (hb : Sm b) (hc : Sm c) (hd : Sm d) (h : b * c ≠ 0) (hbd : Sm (b * c)) :
    h_Ratio_over [rt a b, rt c d] = .ok (.obj "Ratio" (rat (fdivI (a * d) (sh (a * d) (b * c))) (fdivI (b * c) (sh (a * d) (b * c))))) := by
  unfold h_Ratio_over fnR G_Ratio_over
  simp
  rw [mk_ok (n := a * d) (d := b * c) h hbd]
  · simp [DL.fin]
  · simp [csn, csd, fn, fd, mul_sm ha hd, mul_sm hb hc]
theorem over_zero {a b d : Int} (ha : Sm a) (hb : Sm b) (hd : Sm d) : h_Ratio_over [rt a b, rt 0 d] = .ex ⟨"BadRatio", []⟩ := by
  have h0 : Sm 0 := by unfold Sm; decide
  unfold h_Ratio_over fnR G_Ratio_over
  simp
  rw [mk_zero (n := a * d)]
  · simp [DL.fin]
  · have := mul_sm hb h0
    simp at this
    simp [csn, csd, fn, fd, mul_sm ha hd, this]
theorem compare_spec {a b c d : Int} (ha : Sm a) (hb : Sm b) (hc : Sm c) (hd : Sm d) :
    h_Ratio_compare [rt a b, rt c d] = .ok (.int (if a * d < c * b then -1 else if c * b < a * d then 1 else 0)) := by
  unfold h_Ratio_compare fnR G_Ratio_compare
  simp [csn, csd, fn, fd, mul_sm ha hd, mul_sm hc hb]
  by_cases h1 : a * d < c * b
  · simp [h1, DL.fin]
  · by_cases h2 : c * b < a * d <;> simp [h1, h2, DL.fin]
theorem abs_spec (i : Int) : absD (.int i) = some (.int (i.natAbs : Int)) := by
  unfold absD
  simp only [Option.some.injEq, DV.int.injEq]
  split <;> omega
theorem int_spec (i : Int) : intD1 (.int i) = some (.int i) := rfl
def gbody : Slots → Out := seqS (ifS (tst (op2 eqD (var 1) (cst (.int 0)))) bkS nxS) (parS 0 1 (consL (fz (var 1)) (consL (op2 modD (opN (one intD1) (consL (var 0) nilL)) (var 1)) nilL)))
theorem gbody_zero (a : Int) (x : Option DV) : gbody [some (.int a), some (.int 0), x] = .bk [some (.int a), some (.int 0), x] := by
  unfold gbody
  simp [bkS]
theorem gbody_step (a b : Nat) (h : b ≠ 0) (x : Option DV) : gbody [some (.int a), some (.int b), x] = .nx [some (.int b), some (.int ((a % b : Nat) : Int)), x] := by
  have e : modD (.int a) (.int b) = some (.int ((a : Int) % (b : Int))) := by
    rw [mod_int (by omega)]
    unfold fmodI
    rw [if_pos (by omega)]
  unfold gbody parS
  simp [h, int_spec, e]
theorem gcd_loop : ∀ (m : Nat) (ds : List DV) (a b : Nat) (x0 : Option DV), b < 2 ^ m → 2 * m ≤ ds.length → ∃ x, loopS (nameG 2) gbody ds [some (.int a), some (.int b), x0] = .nx [some (.int ((Nat.gcd a b : Nat) : Int)), some (.int 0), x]
  | 0, [], a, b, x0, hb, hl => by
    have : b = 0 := by simpa using hb
    subst this
    exact ⟨x0, by simp [loopS]⟩
  | 0, d :: ds, a, b, x0, hb, hl => by
    have : b = 0 := by simpa using hb
    subst this
    exact ⟨some d, by simp [loopS, nameG, gbody_zero]⟩
  | m + 1, [], a, b, x0, hb, hl => by simp at hl
  | m + 1, [d], a, b, x0, hb, hl => by simp at hl; omega
  | m + 1, d :: d2 :: ds, a, b, x0, hb, hl => by
    by_cases h0 : b = 0
    · subst h0
      exact ⟨some d, by simp [loopS, nameG, gbody_zero]⟩
    · by_cases h1 : a % b = 0
      · refine ⟨some d2, ?_⟩
        have hg : Nat.gcd a b = b := by rw [Nat.gcd_comm, Nat.gcd_rec, h1, Nat.gcd_zero_left]
        simp [loopS, nameG, gbody_step a b h0, h1, gbody_zero, hg]
      · have hlt : a % b < b := Nat.mod_lt _ (by omega)
        have h2 : b % (a % b) < 2 ^ m := by
          have h3 := Nat.mod_lt b (Nat.pos_of_ne_zero h1)
          have h4 := Nat.div_add_mod b (a % b)
          have h5 : 1 ≤ b / (a % b) := Nat.div_pos (by omega) (by omega)
          have h6 : (a % b) * 1 ≤ (a % b) * (b / (a % b)) := Nat.mul_le_mul_left _ h5
          rw [Nat.pow_succ] at hb
          omega
        obtain ⟨x, hx⟩ := gcd_loop m ds (a % b) (b % (a % b)) (some d2) h2 (by simp at hl; omega)
        refine ⟨x, ?_⟩
        have hg : Nat.gcd a b = Nat.gcd (a % b) (b % (a % b)) := by
          rw [Nat.gcd_comm a b, Nat.gcd_rec b a, Nat.gcd_rec (a % b) b, Nat.gcd_comm]
        have s1 := gbody_step a b h0 (some d)
        have s2 := gbody_step b (a % b) h1 (some d2)
        rw [hg, ← hx]
        simp only [loopS, nameG, List.set_cons_succ, List.set_cons_zero, s1, s2]
theorem gcd_spec {a b : Int} (hb : Sm b) : h__law_gcd [.int a, .int b] = .ok (.int ((Nat.gcd a.natAbs b.natAbs : Nat) : Int)) := by
  obtain ⟨x, hx⟩ := gcd_loop 1000 (rngL 0 2000) a.natAbs b.natAbs none hb (by unfold rngL; simp)
  unfold h__law_gcd fnR G__law_gcd forS
  simp [abs_spec]
  have e : rgS1 (cst (.int 2000)) [some (.int (a.natAbs : Int)), some (.int (b.natAbs : Int)), none] = .ok (rngL 0 2000) := by
    unfold rgS1; simp
  rw [e]
  simp only []
  have := hx
  unfold gbody at this
  rw [this]
  simp [DL.fin]
abbrev nn (n d : Int) : Int := fdivI n (sh n d)
abbrev nd' (n d : Int) : Int := fdivI d (sh n d)
theorem lowest_spec {n d : Int} (h : d ≠ 0) (hd : Sm d) : h__law_lowest [.int n, .int d] = .ok (.tup [.int (nn n d), .int (nd' n d)]) := by
  have d1 := div_sm (a := n) (sh_sm (n := n) h hd) (sh_ne h)
  have d2 := div_sm (a := d) (sh_sm (n := n) h hd) (sh_ne h)
  unfold h__law_lowest fnR G__law_lowest
  by_cases c : d < 0
  · have es : -((Nat.gcd n.natAbs d.natAbs : Nat) : Int) = sh n d := by unfold sh; rw [if_pos c]
    simp [callV, freezes, gcd_spec hd, c, es, tupV, d1, d2, DL.fin, big]
  · have es : ((Nat.gcd n.natAbs d.natAbs : Nat) : Int) = sh n d := by unfold sh; rw [if_neg c]
    simp [callV, freezes, gcd_spec hd, c, es, tupV, d1, d2, DL.fin, big]
theorem ai_int (i : Int) : ans_int (.int i) = some true := rfl
theorem ab_int (i : Int) : ans_bool (.int i) = some false := rfl
theorem ar_rt (a b : Int) : ans_Ratio (rt a b) = some true := rfl
theorem is_integer_spec (i : Int) : h__law_is_integer [.int i] = .ok (.bl true) := by
  unfold h__law_is_integer fnR G__law_is_integer
  simp [isiV, andV, notV, ai_int, ab_int, truB, DL.fin]
theorem ix0 (x y : Int) : ixD (.tup [.int x, .int y]) (.int 0) = some (.int x) := rfl
theorem ix1 (x y : Int) : ixD (.tup [.int x, .int y]) (.int 1) = some (.int y) := rfl
theorem is_spec (a b x y : Int) : h__law_is [rt a b, .tup [.int x, .int y]] = .ok (.bl (decide (a = x ∧ b = y))) := by
  unfold h__law_is fnR G__law_is
  simp [isiV, ar_rt, truB, callV, freezes, csn, csd, fn, fd, is_integer_spec, andV, ix0, ix1, DL.fin]
  by_cases c : a = x <;> simp [c]
theorem bad_spec : h__law_is_bad_ratio [.exc "BadRatio" []] = .ok (.bl true) := by
  have e1 : ans_CutsError (.exc "BadRatio" []) = some true := by decide
  have e2 : ans_ValueError (.exc "BadRatio" []) = some true := by decide
  have e3 : ans_BadLot_BadText_BadValue_TooMany (.exc "BadRatio" []) = some false := by decide
  unfold h__law_is_bad_ratio fnR G__law_is_bad_ratio
  simp [isiV, e1, e2, e3, truB, notV, DL.fin]
theorem mt_bad : mt_BadRatio "BadRatio" = some true := by decide
theorem isf_exc {c : Str} {fs : List (Str × DV)} : isFrz (.exc c fs) = true := rfl
theorem frz_exc {c : Str} {fs : List (Str × DV)} : freeze (.exc c fs) = .exc c fs := rfl
theorem raises_spec (n : Int) : h__law_raises [.int n, .int 0] = .ok (.bl true) := by
  unfold h__law_raises fnR G__law_raises tryS dropS bindE
  simp [mk_zero (n := n) (consL (fz (var 0)) (consL (fz (var 1)) nilL)) [some (.int n), some (.int 0), none] (by simp), mt_bad, callV, freezes, isf_exc, frz_exc, bad_spec, unS, DL.fin]
theorem frz_obj {c : Str} {a b : Int} : freeze (.obj c (rat a b)) = .ins c (rat a b) := by simp [freeze, freezef, rat]
theorem noover {a b : Int} : List.lookup ("over" : Str) (rat a b) = none := by
  have h1 : (("over" : Str) == "n") = false := by decide
  have h2 : (("over" : Str) == "d") = false := by decide
  simp [rat, List.lookup, h1, h2]
theorem over_raises_spec {a b : Int} (ha : Sm a) (hb : Sm b) : h__law_over_raises [rt a b] = .ok (.bl true) := by
  have s7 : Sm 7 := by unfold Sm; decide
  have s1 : Sm 1 := by unfold Sm; decide
  have m : ∀ x, mkV "Ratio" h_Ratio_init dd_Ratio2 (consL (cst (.int 0)) (consL (cst (.int 7)) nilL)) [some (rt a b), x] = .ok (.obj "Ratio" (rat 0 1)) := fun x => by
    rw [mk_ok (n := 0) (d := 7) (by decide) s7 _ _ (by simp)]
    rfl
  have o := over_zero (a := a) (b := b) (d := 1) ha hb s1
  unfold h__law_over_raises fnR G__law_over_raises tryS dropS bindE methV
  simp [m, freezes, frz_obj, noover, o, mt_bad, callV, isf_exc, frz_exc, bad_spec, unS, DL.fin]
abbrev tx (i : Int) : Str := Str.ofString (toString i)
theorem tx_len {i : Int} (h : Sm i) : (tx i).length ≤ 1001 := by
  have e := int_text_length_le (k := 1000) (by decide) h.log
  rw [ofString_length]
  omega
theorem app_len (x y : Str) : (x ++ y).length = x.length + y.length := by
  show (x.cps ++ y.cps).size = _
  rw [Array.size_append]; rfl
theorem emp_app (x : Str) : Str.empty ++ x = x := by
  obtain ⟨c⟩ := x
  show (⟨#[] ++ c⟩ : Str) = _
  simp
abbrev wr (a b : Int) : Str := tx a ++ "/" ++ tx b
theorem str_int {i : Int} (h : Sm i) : strD (.int i) = some (.str (tx i)) := by
  show (if _ then _ else _) = _
  rw [if_pos (by have := h.log; omega)]
theorem fmt_int {i : Int} (h : Sm i) : fmtD (.int i) = some (tx i) := by
  show (if _ then _ else _) = _
  rw [if_pos (by have := h.log; omega)]
theorem slash : (("/" : Str)).length = 1 := by decide
theorem str_spec {a b : Int} (ha : Sm a) (hb : Sm b) : h_Ratio_str [rt a b] = .ok (.str (wr a b)) := by
  have la := tx_len ha
  have lb := tx_len hb
  unfold h_Ratio_str fnR G_Ratio_str
  simp only [joinV, fmtV]
  simp [csn, csd, fn, fd, fmt_int ha, fmt_int hb, emp_app]
  have c1 : (tx a).length < big := by unfold big; omega
  have c2 : (tx a ++ "/").length < big := by rw [app_len, slash]; unfold big; omega
  have c3 : (wr a b).length < big := by unfold wr; rw [app_len, app_len, slash]; unfold big; omega
  simp [c1, c2, c3, DL.fin]
theorem written_spec {a b : Int} (ha : Sm a) (hb : Sm b) : h__law_written [.tup [.int a, .int b]] = .ok (.str (wr a b)) := by
  have la := tx_len ha
  have lb := tx_len hb
  have e1 : addD (.str (tx a)) (.str "/") = some (.str (tx a ++ "/")) := by
    show (if _ then _ else _) = _
    rw [if_pos (by rw [slash]; unfold big; omega)]
  have e2 : addD (.str (tx a ++ "/")) (.str (tx b)) = some (.str (wr a b)) := by
    show (if _ then _ else _) = _
    rw [if_pos (by rw [app_len, slash]; unfold big; omega)]
  unfold h__law_written fnR G__law_written
  simp [ix0, ix1, str_int ha, str_int hb, e1, e2, DL.fin]
theorem ok_of (s : String) : PyData.strOk (Str.ofString s) = true := by
  rw [Str.ofString_eq_byList]
  unfold PyData.strOk Str.ofStringByList
  simp
  intro c hc
  have := c.valid; unfold UInt32.isValidChar Nat.isValidChar at this; show c.val.toNat < _; omega
theorem ok_app {x y : Str} (h1 : PyData.strOk x = true) (h2 : PyData.strOk y = true) : PyData.strOk (x ++ y) = true := by
  unfold PyData.strOk at *
  show (x.cps ++ y.cps).all _ = true
  rw [Array.all_append, h1, h2]; rfl
theorem wr_ok (a b : Int) : PyData.strOk (wr a b) = true := ok_app (ok_app (ok_of _) (ok_of _)) (ok_of _)
theorem eq_str {x y : Str} (hx : PyData.strOk x = true) (hy : PyData.strOk y = true) : eqD (.str x) (.str y) = some (.bl (decide (x = y))) := by
  have h : ∀ {i : Str}, PyData.strOk i = true → SeqAt.shaped (.str i) = true := fun {i} z => by
    show (PyData.strOk i && true) = true
    rw [z]; rfl
  show Option.map DV.bl (if (SeqAt.shaped (.str x) && SeqAt.shaped (.str y)) = true then some (x == y) else none) = _
  rw [h hx, h hy]
  by_cases c : x = y <;> simp [c]
theorem eq_spec (a b c d : Int) : h_Ratio_eq [rt a b, rt c d] = .ok (.bl (decide (a = c ∧ b = d))) := by
  unfold h_Ratio_eq fnR G_Ratio_eq
  simp [isiV, ar_rt, truB, csn, csd, fn, fd, andV, DL.fin]
  by_cases c : a = c <;> simp [c]
theorem eq_int_spec (a b i : Int) : h_Ratio_eq [rt a b, .int i] = .ok (.bl false) := by
  have e : ans_Ratio (.int i) = some false := rfl
  unfold h_Ratio_eq fnR G_Ratio_eq
  simp [isiV, e, truB, andV, DL.fin]
theorem eq_tup_spec (a b : Int) (ds : List DV) : h_Ratio_eq [rt a b, .tup ds] = .ok (.bl false) := by
  have e : ans_Ratio (.tup ds) = some false := rfl
  unfold h_Ratio_eq fnR G_Ratio_eq
  simp [isiV, e, truB, andV, DL.fin]
theorem nn1 (n : Int) : nn n 1 = n := by
  have : sh n 1 = 1 := by unfold sh; simp
  unfold nn; rw [this]; unfold fdivI; simp
theorem nd1 (n : Int) : nd' n 1 = 1 := by
  have : sh n 1 = 1 := by unfold sh; simp
  unfold nd'; rw [this]; rfl
theorem sm1 : Sm 1 := by unfold Sm; decide
theorem whole_spec {n : Int} (hn : Sm n) : h__law_whole [.int n] = .ok (.bl true) := by
  have m1 : ∀ x, mkV "Ratio" h_Ratio_init dd_Ratio1 (consL (fz (var 0)) nilL) [some (.int n), x] = .ok (.obj "Ratio" (rat n 1)) := fun x => by
    rw [mk1_ok (n := n) _ _ (by simp)]
    have := nn1 n; have := nd1 n
    unfold nn at *; unfold nd' at *
    simp_all
  have m2 : ∀ x, mkV "Ratio" h_Ratio_init dd_Ratio2 (consL (negV (var 0)) (consL (negV (cst (.int 1))) nilL)) [some (.int n), x] = .ok (.obj "Ratio" (rat n 1)) := fun x => by
    rw [mk_ok (n := -n) (d := -1) (by decide) (by unfold Sm; decide) _ _ (by simp)]
    have e : sh (-n) (-1) = -1 := by unfold sh; simp
    rw [e]
    have e2 : fdivI (-n) (-1) = n := by unfold fdivI; simp
    have e3 : fdivI (-1) (-1) = 1 := by decide
    rw [e2, e3]
  unfold h__law_whole fnR G__law_whole
  simp [m1, frz_obj, callV, freezes, tupV, big, is_spec, andV, truB, strO, str_spec hn sm1, written_spec hn sm1, eq_str (wr_ok _ _) (wr_ok _ _), eqO, m2, eqOwn, nfD, eq_spec, DL.fin]
/-- small enough to be multiplied -/
def T (i : Int) : Prop := i.natAbs < 2 ^ 400
theorem T.sm {i : Int} (h : T i) : Sm i := Nat.lt_trans h (Nat.pow_lt_pow_right (by decide) (by decide))
theorem T.mul {i j : Int} (h : T i) (h2 : T j) : Sm (i * j) := by
  unfold T at *; unfold Sm
  rw [Int.natAbs_mul]
  calc i.natAbs * j.natAbs < 2 ^ 400 * 2 ^ 400 := Nat.mul_lt_mul'' h h2
    _ = 2 ^ 800 := by rw [← Nat.pow_add]
    _ < 2 ^ 1000 := Nat.pow_lt_pow_right (by decide) (by decide)
theorem frz_rt {a b : Int} : freeze (.ins "Ratio" (rat a b)) = .ins "Ratio" (rat a b) := rfl
theorem sums_spec {a b c d : Int} (ha : T a) (hb : T b) (hc : T c) (hd : T d) (h1 : b ≠ 0) (h2 : d ≠ 0) :
    h__law_sums [rt a b, rt c d, .tup [.int a, .int b], .tup [.int c, .int d]] = .ok (.bl true) := by
  have hz : b * d ≠ 0 := Int.mul_ne_zero h1 h2
  have e1 := add_spec ha.sm hb.sm hc.sm hd.sm hz (hb.mul hd)
  have e2 := sub_spec ha.sm hb.sm hc.sm hd.sm hz (hb.mul hd)
  have e3 := mul_spec ha.sm hb.sm hc.sm hd.sm hz (hb.mul hd)
  have l1 := lowest_spec (n := a * d + c * b) hz (hb.mul hd)
  have l2 := lowest_spec (n := a * d - c * b) hz (hb.mul hd)
  have l3 := lowest_spec (n := a * c) hz (hb.mul hd)
  have m1 := mul_sm ha.sm hd.sm
  have m2 := mul_sm hc.sm hb.sm
  have m3 := mul_sm hb.sm hd.sm
  have m4 := mul_sm ha.sm hc.sm
  unfold h__law_sums fnR G__law_sums
  simp [callV, opO, ownO, e1, e2, e3, freezes, frz_obj, ix0, ix1, m1, m2, m3, m4, l1, l2, l3, is_spec, truB, DL.fin, nn, nd']
theorem nocmp {a b : Int} : List.lookup ("compare" : Str) (rat a b) = none := by
  have h1 : (("compare" : Str) == "n") = false := by decide
  have h2 : (("compare" : Str) == "d") = false := by decide
  simp [rat, List.lookup, h1, h2]
theorem fdivI_exact {x s : Int} (h : s ≠ 0) (hd : s ∣ x) : fdivI x s * s = x := by
  unfold fdivI
  split
  · exact Int.ediv_mul_cancel hd
  · exact Int.fdiv_mul_cancel hd
theorem sh_dvd_n (n d : Int) : sh n d ∣ n := by
  have h : ((Nat.gcd n.natAbs d.natAbs : Nat) : Int) ∣ n := Int.ofNat_dvd_left.mpr (Nat.gcd_dvd_left ..)
  unfold sh; split
  · exact Int.neg_dvd.mpr h
  · exact h
theorem sh_dvd_d (n d : Int) : sh n d ∣ d := by
  have h : ((Nat.gcd n.natAbs d.natAbs : Nat) : Int) ∣ d := Int.ofNat_dvd_left.mpr (Nat.gcd_dvd_right ..)
  unfold sh; split
  · exact Int.neg_dvd.mpr h
  · exact h
theorem nn_mul {n d : Int} (h : d ≠ 0) : nn n d * sh n d = n := fdivI_exact (sh_ne h) (sh_dvd_n n d)
theorem nd_mul {n d : Int} (h : d ≠ 0) : nd' n d * sh n d = d := fdivI_exact (sh_ne h) (sh_dvd_d n d)
theorem natAbs_le_of_mul {x s y : Int} (hs : s ≠ 0) (h : x * s = y) : x.natAbs ≤ y.natAbs := by
  rw [← h, Int.natAbs_mul]
  exact Nat.le_mul_of_pos_right _ (by omega)
theorem nn_sm {n d : Int} (h : d ≠ 0) (hn : Sm n) : Sm (nn n d) := Nat.lt_of_le_of_lt (natAbs_le_of_mul (sh_ne (n := n) h) (nn_mul h)) hn
theorem nd_sm {n d : Int} (h : d ≠ 0) (hd : Sm d) : Sm (nd' n d) := Nat.lt_of_le_of_lt (natAbs_le_of_mul (sh_ne (n := n) h) (nd_mul h)) hd
theorem nn_T {n d : Int} (h : d ≠ 0) (hn : T n) : T (nn n d) := Nat.lt_of_le_of_lt (natAbs_le_of_mul (sh_ne (n := n) h) (nn_mul h)) hn
theorem nd_T {n d : Int} (h : d ≠ 0) (hd : T d) : T (nd' n d) := Nat.lt_of_le_of_lt (natAbs_le_of_mul (sh_ne (n := n) h) (nd_mul h)) hd
theorem nd_ne {n d : Int} (h : d ≠ 0) : nd' n d ≠ 0 := fun z => by
  have := nd_mul (n := n) h
  rw [z, Int.zero_mul] at this
  exact h this.symm
theorem cross {a b k : Int} (hb : b ≠ 0) (hk : k ≠ 0) : a * nd' (a * k) (b * k) = nn (a * k) (b * k) * b := by
  have hz : b * k ≠ 0 := Int.mul_ne_zero hb hk
  have h1 := nn_mul (n := a * k) hz
  have h2 := nd_mul (n := a * k) hz
  refine Int.eq_of_mul_eq_mul_right (sh_ne (n := a * k) hz) ?_
  calc a * nd' (a * k) (b * k) * sh (a * k) (b * k) = a * (nd' (a * k) (b * k) * sh (a * k) (b * k)) := Int.mul_assoc ..
    _ = a * (b * k) := by rw [h2]
    _ = (a * k) * b := by rw [Int.mul_comm b k, Int.mul_assoc]
    _ = (nn (a * k) (b * k) * sh (a * k) (b * k)) * b := by rw [h1]
    _ = nn (a * k) (b * k) * b * sh (a * k) (b * k) := by rw [Int.mul_assoc, Int.mul_comm (sh _ _) b, ← Int.mul_assoc]
theorem is_bl (x y : Bool) : isD (.bl x) (.bl y) = some (.bl (x == y)) := by cases x <;> cases y <;> rfl
theorem isnot_bl (x y : Bool) : isnotD (.bl x) (.bl y) = some (.bl (x != y)) := by cases x <;> cases y <;> rfl
theorem eq_tup2 (a b c d : Int) : eqD (.tup [.int a, .int b]) (.tup [.int c, .int d]) = some (.bl (decide (a = c ∧ b = d))) := by
  have h : ∀ i j : Int, SeqAt.shaped (.tuple [.int i, .int j]) = true := fun i j => by rfl
  show Option.map DV.bl (if (SeqAt.shaped (.tuple [.int a, .int b]) && SeqAt.shaped (.tuple [.int c, .int d])) = true then some ((a == c) && ((b == d) && true)) else none) = _
  rw [h, h]
  by_cases h1 : a = c <;> by_cases h2 : b = d <;> simp [h1, h2]
theorem sh1 {k : Int} (h : 0 < k) : sh 1 k = 1 := by unfold sh; rw [if_neg (by omega)]; simp
theorem mk_1k {k : Int} (h : 0 < k) (hk : Sm k) (fs : Slots → DL.R (List DV)) (env : Slots) (hf : fs env = .ok [.int 1, .int k]) : mkV "Ratio" h_Ratio_init dd_Ratio2 fs env = .ok (.obj "Ratio" (rat 1 k)) := by
  rw [mk_ok (n := 1) (d := k) (by omega) hk _ _ hf, sh1 h]
  have e : fdivI k 1 = k := by unfold fdivI; simp
  rw [e]; rfl
theorem mk_k {k : Int} (fs : Slots → DL.R (List DV)) (env : Slots) (hf : fs env = .ok [.int k]) : mkV "Ratio" h_Ratio_init dd_Ratio1 fs env = .ok (.obj "Ratio" (rat k 1)) := by
  rw [mk1_ok _ _ hf]
  have h1 := nn1 k
  have h2 := nd1 k
  unfold nn at h1; unfold nd' at h2
  rw [h1, h2]
def due (a b c d : Int) : Int := if a * d < c * b then -1 else if c * b < a * d then 1 else 0
theorem due_swap (a b c d : Int) : due c d a b = -due a b c d := by
  unfold due
  have e1 : c * b = c * b := rfl
  by_cases h1 : a * d < c * b
  · have : ¬ c * b < a * d := by omega
    simp [h1, this]
  · by_cases h2 : c * b < a * d <;> simp [h1, h2]
theorem cmp_spec {a b c d : Int} (ha : Sm a) (hb : Sm b) (hc : Sm c) (hd : Sm d) : h_Ratio_compare [rt a b, rt c d] = .ok (.int (due a b c d)) := compare_spec ha hb hc hd
theorem order_spec {a b c d : Int} (ha : T a) (hb : T b) (hc : T c) (hd : T d) (h1 : b ≠ 0) (h2 : d ≠ 0) :
    h__law_order [rt a b, rt c d, .tup [.int a, .int b], .tup [.int c, .int d]] = .ok (.bl true) := by
  have m1 := mul_sm ha.sm hd.sm
  have m2 := mul_sm hc.sm hb.sm
  have s3 : Sm 3 := by unfold Sm; decide
  have t3 : T 3 := by unfold T; decide
  have m5 := mul_sm ha.sm s3
  have m6 := mul_sm hb.sm s3
  have hb3 : b * 3 ≠ 0 := Int.mul_ne_zero h1 (by decide)
  have c1 := cmp_spec ha.sm hb.sm hc.sm hd.sm
  have c2 := cmp_spec hc.sm hd.sm ha.sm hb.sm
  have c3 := cmp_spec ha.sm hb.sm (nn_sm hb3 (ha.mul t3)) (nd_sm (n := a * 3) hb3 (hb.mul t3))
  have z3 : due a b (nn (a * 3) (b * 3)) (nd' (a * 3) (b * 3)) = 0 := by
    unfold due
    rw [cross h1 (by decide)]
    simp
  rw [z3] at c3
  have k3 : ∀ env, (consL (op2 mulD (op2 ixD (var 2) (cst (.int 0))) (cst (.int 3))) (consL (op2 mulD (op2 ixD (var 2) (cst (.int 1))) (cst (.int 3))) nilL)) env = .ok [.int (a * 3), .int (b * 3)] → mkV "Ratio" h_Ratio_init dd_Ratio2 (consL (op2 mulD (op2 ixD (var 2) (cst (.int 0))) (cst (.int 3))) (consL (op2 mulD (op2 ixD (var 2) (cst (.int 1))) (cst (.int 3))) nilL)) env = .ok (.obj "Ratio" (rat (nn (a * 3) (b * 3)) (nd' (a * 3) (b * 3)))) := fun env h => mk_ok hb3 (hb.mul t3) _ _ h
  have hs : ∀ e0 : Slots, ∃ r : Int, 0 ≤ r ∧ r < 97 ∧ modD (.int (a.natAbs : Int)) (.int 97) = some (.int r) := fun _ => ⟨(a.natAbs : Int) % 97, by omega, by omega, by rw [mod_int (by decide)]; rfl⟩
  obtain ⟨r, r0, r1, hr⟩ := hs []
  have sk : ∀ k : Int, 0 < k → k < 1000 → Sm k := fun k h h' => Nat.lt_of_lt_of_le (show k.natAbs < 2 ^ 10 by omega) (Nat.pow_le_pow_right (by decide) (by decide))
  have q1 : ∀ env, op2 addD (var 6) (cst (.int 2)) env = .ok (.int (r + 2)) → mkV "Ratio" h_Ratio_init dd_Ratio2 (consL (cst (.int 1)) (consL (op2 addD (var 6) (cst (.int 2))) nilL)) env = .ok (.obj "Ratio" (rat 1 (r + 2))) := fun env h => mk_1k (by omega) (sk _ (by omega) (by omega)) _ _ (by rw [consL_app, consL_app, h]; rfl)
  have q2 : ∀ env, op2 addD (var 6) (cst (.int 3)) env = .ok (.int (r + 3)) → mkV "Ratio" h_Ratio_init dd_Ratio2 (consL (cst (.int 1)) (consL (op2 addD (var 6) (cst (.int 3))) nilL)) env = .ok (.obj "Ratio" (rat 1 (r + 3))) := fun env h => mk_1k (by omega) (sk _ (by omega) (by omega)) _ _ (by rw [consL_app, consL_app, h]; rfl)
  have q3 : ∀ env, op2 addD (var 6) (cst (.int 2)) env = .ok (.int (r + 2)) → mkV "Ratio" h_Ratio_init dd_Ratio1 (consL (op2 addD (var 6) (cst (.int 2))) nilL) env = .ok (.obj "Ratio" (rat (r + 2) 1)) := fun env h => mk_k _ _ (by rw [consL_app, h]; rfl)
  have q4 : ∀ env, op2 addD (var 6) (cst (.int 3)) env = .ok (.int (r + 3)) → mkV "Ratio" h_Ratio_init dd_Ratio1 (consL (op2 addD (var 6) (cst (.int 3))) nilL) env = .ok (.obj "Ratio" (rat (r + 3) 1)) := fun env h => mk_k _ _ (by rw [consL_app, h]; rfl)
  rw [due_swap] at c2
  have hne1 : ¬ (r + 2 = r + 3) := by omega
  have fin2 : ∀ t : Bool, (if t = true then DL.R.ok (DV.bl true) else .ok (.bl true)) = .ok (.bl true) := fun t => by cases t <;> rfl
  unfold h__law_order fnR G__law_order
  have main : ∀ v : Int, due a b c d = v → ((a * d < c * b ∧ v = -1) ∨ (¬ a * d < c * b ∧ c * b < a * d ∧ v = 1) ∨ (¬ a * d < c * b ∧ ¬ c * b < a * d ∧ v = 0)) → _ := fun v hv hc => hc
  have hd3 : (a * d < c * b ∧ due a b c d = -1) ∨ (¬ a * d < c * b ∧ c * b < a * d ∧ due a b c d = 1) ∨ (¬ a * d < c * b ∧ ¬ c * b < a * d ∧ due a b c d = 0) := by
    unfold due
    by_cases h1 : a * d < c * b
    · exact .inl ⟨h1, by rw [if_pos h1]⟩
    · by_cases h2 : c * b < a * d
      · exact .inr (.inl ⟨h1, h2, by rw [if_neg h1, if_pos h2]⟩)
      · exact .inr (.inr ⟨h1, h2, by rw [if_neg h1, if_neg h2]⟩)
  rcases hd3 with ⟨g1, gv⟩ | ⟨g1, g2, gv⟩ | ⟨g1, g2, gv⟩
  · have g2 : ¬ c * b < a * d := by omega
    rw [gv] at c1 c2
    by_cases ge : a = c ∧ b = d
    · obtain ⟨rfl, rfl⟩ := ge
      exact absurd g1 (Int.lt_irrefl _)
    · simp [ix0, ix1, m1, m2, m5, m6, g1, g2, methV, frz_rt, freezes, nocmp, c1, c2, c3, k3, frz_obj, callV, is_integer_spec, truB, abs_spec, hr, q1, q2, q3, q4, eqO, eqOwn, nfD, eq_spec, hne1, isnot_bl, is_bl, eq_tup2, ge, andV, neO, neOwn, DL.fin]
  · rw [gv] at c1 c2
    by_cases ge : a = c ∧ b = d
    · obtain ⟨rfl, rfl⟩ := ge
      exact absurd g2 (Int.lt_irrefl _)
    · simp [ix0, ix1, m1, m2, m5, m6, g1, g2, methV, frz_rt, freezes, nocmp, c1, c2, c3, k3, frz_obj, callV, is_integer_spec, truB, abs_spec, hr, q1, q2, q3, q4, eqO, eqOwn, nfD, eq_spec, hne1, isnot_bl, is_bl, eq_tup2, ge, andV, neO, neOwn, DL.fin]
  · rw [gv] at c1 c2
    by_cases ge : a = c ∧ b = d
    · obtain ⟨rfl, rfl⟩ := ge
      simp [ix0, ix1, m1, m2, m5, m6, g1, g2, methV, frz_rt, freezes, nocmp, c1, c2, c3, k3, frz_obj, callV, is_integer_spec, truB, abs_spec, hr, q1, q2, q3, q4, eqO, eqOwn, nfD, eq_spec, hne1, isnot_bl, is_bl, eq_tup2, andV, neO, neOwn, DL.fin]
    · simp [ix0, ix1, m1, m2, m5, m6, g1, g2, methV, frz_rt, freezes, nocmp, c1, c2, c3, k3, frz_obj, callV, is_integer_spec, truB, abs_spec, hr, q1, q2, q3, q4, eqO, eqOwn, nfD, eq_spec, hne1, isnot_bl, is_bl, eq_tup2, ge, andV, neO, neOwn, DL.fin]
theorem fm {c m : Int} (h : 0 < m) : fmodI c m = c % m := by unfold fmodI; rw [if_pos h]
theorem mod_p {c m : Int} (h : 0 < m) : modD (.int c) (.int m) = some (.int (c % m)) := by rw [mod_int (by omega), fm h]
theorem sm_of {i : Int} (h : i.natAbs < 2 ^ 100) : Sm i := Nat.lt_trans h (Nat.pow_lt_pow_right (by decide) (by decide))
theorem sm_lt {i : Int} (h0 : 0 ≤ i) (h : i < 2 ^ 90) : Sm i := sm_of (by have : (2 : Int) ^ 90 < 2 ^ 100 := by decide
                                                                          omega)
theorem mixed_spec (c : Int) (k : Int) (h0 : 0 ≤ k) (h1 : k < 100) : ∃ v, 0 ≤ v ∧ v < 2147483629 ∧ h__law_mixed [.int c, .int k] = .ok (.int v) := by
  have a1 := mod_p (c := c) (m := 1000003) (by decide)
  have b1 : 0 ≤ c % 1000003 ∧ c % 1000003 < 1000003 := by omega
  have a2 := mul_sm (sm_lt b1.1 (by omega)) (sm_lt (i := 48271) (by decide) (by decide))
  have a3 := mul_sm (sm_lt h0 (by omega)) (sm_lt (i := 69621) (by decide) (by decide))
  have a4 := mod_p (c := c % 1000003 * 48271 + k * 69621 + 11) (m := 2147483647) (by decide)
  generalize hf : (c % 1000003 * 48271 + k * 69621 + 11) % 2147483647 = f1 at a4
  have bf : 0 ≤ f1 ∧ f1 < 2147483647 := by omega
  have a5 := mul_sm (sm_lt bf.1 (by omega)) (sm_lt (i := 16807) (by decide) (by decide))
  have a6 := mul_sm (sm_lt h0 (by omega)) (sm_lt h0 (by omega))
  have bk : 0 ≤ k * k ∧ k * k < 10000 := ⟨Int.mul_nonneg h0 h0, by
    have : k * k ≤ 99 * 99 := Int.mul_le_mul (by omega) (by omega) h0 (by decide)
    omega⟩
  have a7 := mul_sm (sm_lt bk.1 (by omega)) (sm_lt (i := 31) (by decide) (by decide))
  have a8 := mod_p (c := c) (m := 8191) (by decide)
  have a9 := mod_p (c := f1 * 16807 + k * k * 31 + c % 8191) (m := 2147483647) (by decide)
  generalize hs : (f1 * 16807 + k * k * 31 + c % 8191) % 2147483647 = f2 at a9
  have bs : 0 ≤ f2 ∧ f2 < 2147483647 := by omega
  have a10 := mul_sm (sm_lt bs.1 (by omega)) (sm_lt (i := 69621) (by decide) (by decide))
  have a11 := mod_p (c := f2 * 69621 + f1) (m := 2147483629) (by decide)
  refine ⟨(f2 * 69621 + f1) % 2147483629, by omega, by omega, ?_⟩
  unfold h__law_mixed fnR G__law_mixed
  simp [int_spec, a1, a2, a3, a4, a5, a6, a7, a8, a9, a10, a11, DL.fin]
theorem appS_ok {i : Nat} {fe : Slots → DL.R DV} {env : Slots} {d : DV} {ds : List DV} (h : fe env = .ok d) (h2 : env[i]? = some (some (.own ds))) (h3 : ds.length < big) : appS i lId fe env = .nx (env.set i (some (.own (ds ++ [d])))) := by
  unfold appS
  rw [mget_id' h2]
  simp only [bindE, h]
  rw [mget_id' h2]
  simp only []
  rw [if_pos h3, mput_id' h2]
def rbody : Slots → Out := ifS (andB (tst (op2 geD (opN (one absD) (consL (var 0) nilL)) (op2 powD (cst (.int 10)) (cst (.int 18))))) (tst (op2 gtD (var 3) (cst (.int 0))))) (seqS (appS 2 lId (op2 modD (opN (one intD1) (consL (var 3) nilL)) (op2 powD (cst (.int 10)) (cst (.int 61)))))
      (setF 3 (op2 divD (var 3) (op2 powD (cst (.int 10)) (cst (.int 61)))))) (appS 2 lId (op2 addD (op2 mulD (callV h__law_mixed [] (consL (fz (var 0)) (consL (fz (var 4)) nilL))) (cst (.int 2147483647))) (callV h__law_mixed [] (consL (fz (var 0)) (consL (op2 addD (var 4) (cst (.int 50))) nilL)))))
theorem pow_int {i j : Int} (h : 0 ≤ j ∧ j ≤ 1000000 ∧ i.natAbs < 2 ^ 64) : powD (.int i) (.int j) = some (.int (i ^ j.toNat)) := by
  show (if _ then _ else _) = _
  rw [if_pos (decide_eq_true h)]
theorem pw18 : powD (.int 10) (.int 18) = some (.int 1000000000000000000) := by
  rw [pow_int (by decide)]
  exact congrArg (fun z => some (DV.int z)) (show (10 : Int) ^ 18 = 1000000000000000000 by decide +kernel)
theorem pw61 : powD (.int 10) (.int 61) = some (.int 10000000000000000000000000000000000000000000000000000000000000) := by
  rw [pow_int (by decide)]
  exact congrArg (fun z => some (DV.int z)) (show (10 : Int) ^ 61 = 10000000000000000000000000000000000000000000000000000000000000 by decide +kernel)
theorem rbody_spec (c left k : Int) (m : DV) (xs : List Int) (h0 : 0 ≤ k) (h1 : k < 40) (hl : xs.length < 100) : ∃ v left', rbody [some (.int c), some m, some (.own (xs.map .int)), some (.int left), some (.int k)] = .nx [some (.int c), some m, some (.own ((xs ++ [v]).map .int)), some (.int left'), some (.int k)] := by
  have hL : (xs.map DV.int).length < big := by rw [List.length_map]; unfold big; omega
  by_cases c1 : (1000000000000000000 : Int) ≤ (c.natAbs : Int) ∧ 0 < left
  · obtain ⟨c1, c2⟩ := c1
    have a1 := mod_p (c := left) (m := 10000000000000000000000000000000000000000000000000000000000000) (by decide)
    have a2 := div_sm (a := left) (b := 10000000000000000000000000000000000000000000000000000000000000) (by unfold Sm; decide +kernel) (by decide)
    refine ⟨left % 10000000000000000000000000000000000000000000000000000000000000, fdivI left 10000000000000000000000000000000000000000000000000000000000000, ?_⟩
    unfold rbody
    have e := appS_ok (i := 2) (fe := op2 modD (opN (one intD1) (consL (var 3) nilL)) (op2 powD (cst (.int 10)) (cst (.int 61)))) (env := [some (.int c), some m, some (.own (xs.map .int)), some (.int left), some (.int k)]) (d := .int (left % 10000000000000000000000000000000000000000000000000000000000000)) (ds := xs.map .int) (by simp [int_spec, pw61, a1]) rfl hL
    simp [abs_spec, pw18, c1, c2, e, pw61, a2]
  · obtain ⟨v1, p1, p2, p3⟩ := mixed_spec c k h0 (by omega)
    obtain ⟨v2, p4, p5, p6⟩ := mixed_spec c (k + 50) (by omega) (by omega)
    have a1 := mul_sm (sm_lt p1 (by omega)) (sm_lt (i := 2147483647) (by decide) (by decide))
    have e := appS_ok (i := 2) (fe := op2 addD (op2 mulD (callV h__law_mixed [] (consL (fz (var 0)) (consL (fz (var 4)) nilL))) (cst (.int 2147483647))) (callV h__law_mixed [] (consL (fz (var 0)) (consL (op2 addD (var 4) (cst (.int 50))) nilL)))) (env := [some (.int c), some m, some (.own (xs.map .int)), some (.int left), some (.int k)]) (d := .int (v1 * 2147483647 + v2)) (ds := xs.map .int) (by simp [callV, freezes, p3, p6, a1]) rfl hL
    refine ⟨v1 * 2147483647 + v2, left, ?_⟩
    unfold rbody
    by_cases c2 : (1000000000000000000 : Int) ≤ (c.natAbs : Int)
    · have c3 : ¬ 0 < left := fun z => c1 ⟨c2, z⟩
      simp [abs_spec, pw18, c2, c3, e]
    · simp [abs_spec, pw18, c2, e]
theorem row_loop (c : Int) (m : DV) : ∀ (ks : List Int) (xs : List Int) (left : Int) (x : Option DV), (∀ k ∈ ks, 0 ≤ k ∧ k < 40) → xs.length + ks.length < 100 → ∃ (ys : List Int) (left' : Int) (x' : Option DV), ys.length = ks.length ∧ loopS (nameG 4) rbody (ks.map .int) [some (.int c), some m, some (.own (xs.map .int)), some (.int left), x] = .nx [some (.int c), some m, some (.own ((xs ++ ys).map .int)), some (.int left'), x']
  | [], xs, left, x, _, _ => ⟨[], left, x, rfl, by simp [loopS]⟩
  | k :: ks, xs, left, x, hk, hl => by
    obtain ⟨h0, h1⟩ := hk k (List.mem_cons_self ..)
    obtain ⟨v, left1, e1⟩ := rbody_spec c left k m xs h0 h1 (by simp at hl; omega)
    obtain ⟨ys, left2, x2, e2, e3⟩ := row_loop c m ks (xs ++ [v]) left1 (some (.int k)) (fun k hk' => hk k (List.mem_cons_of_mem _ hk')) (by simp at hl ⊢; omega)
    refine ⟨v :: ys, left2, x2, by simp [e2], ?_⟩
    have e4 : xs ++ v :: ys = (xs ++ [v]) ++ ys := by simp
    rw [e4, ← e3]
    simp only [List.map_cons, loopS, nameG, List.set_cons_succ, List.set_cons_zero, e1]
theorem row_spec (c : Int) : ∃ x0 x1 x2 x3 x4 x5 : Int, h__law_row [.int c, .int 6] = .ok (.own [.int x0, .int x1, .int x2, .int x3, .int x4, .int x5]) := by
  obtain ⟨ys, left', x', hl, e⟩ := row_loop c (.int 6) [0, 1, 2, 3, 4, 5] [] (c.natAbs : Int) none (by decide) (by decide)
  match ys, hl, e with
  | [x0, x1, x2, x3, x4, x5], _, e =>
    refine ⟨x0, x1, x2, x3, x4, x5, ?_⟩
    have er : rgS1 (var 1) [some (.int c), some (.int 6), some (.own []), some (.int (c.natAbs : Int)), none] = .ok (List.map DV.int [0, 1, 2, 3, 4, 5]) := by
      unfold rgS1
      simp
      rfl
    unfold rbody at e
    unfold h__law_row fnR G__law_row forS
    simp [lstV, big, abs_spec]
    rw [er]
    simp only [List.map_nil, List.nil_append] at e
    simp only [e]
    simp [retM, DL.fin]
def P60 : Int := 1000000000000000000000000000000000000000000000000000000000000
theorem pw60 : powD (.int 10) (.int 60) = some (.int P60) := by
  rw [pow_int (by decide)]
  exact congrArg (fun z => some (DV.int z)) (show (10 : Int) ^ 60 = P60 by decide +kernel)
theorem pw20 : powD (.int 10) (.int 20) = some (.int 100000000000000000000) := by
  rw [pow_int (by decide)]
  exact congrArg (fun z => some (DV.int z)) (show (10 : Int) ^ 20 = 100000000000000000000 by decide +kernel)
theorem number_spec (v f : Int) : ∃ r, 0 ≤ r ∧ r < P60 ∧ h__law_number [.int v, .int f] = .ok (.int r) := by
  have a1 := mod_p (c := v) (m := 13) (by decide)
  have a2 := mod_p (c := v) (m := 1009) (by decide)
  have a3 := mod_p (c := v) (m := P60) (by decide)
  unfold h__law_number fnR G__law_number
  by_cases c0 : f = 0
  · exact ⟨v % 13, by omega, by unfold P60; omega, by simp [c0, int_spec, a1, DL.fin]⟩
  · by_cases c1 : f = 1
    · exact ⟨v % 1009, by omega, by unfold P60; omega, by simp [c1, int_spec, a2, DL.fin]⟩
    · exact ⟨v % P60, by unfold P60; omega, by unfold P60; omega, by simp [c0, c1, int_spec, pw60, a3, DL.fin]⟩
theorem cell_spec (ns : List Int) (k : Nat) : ∃ c, h__law_cell [.scr (ns.map DV.int), .int k] = .ok (.int c) := by
  unfold h__law_cell fnR G__law_cell
  by_cases c : k < ns.length
  · have e : ixD (.scr (ns.map DV.int)) (.int k) = some (.int ns[k]) := by
      show L2.atI (ns.map DV.int) (k : Int) = _
      unfold L2.atI L2.ixN
      rw [if_pos (by omega), if_pos (by rw [List.length_map]; omega)]
      simp [c]
    exact ⟨ns[k], by simp [len_ints, c, e, DL.fin]⟩
  · exact ⟨0, by simp [len_ints, c, DL.fin]⟩
theorem T_of {i : Int} (h : i.natAbs < 2 ^ 390) : T i := Nat.lt_trans h (Nat.pow_lt_pow_right (by decide) (by decide))
def P81 : Int := 1000000000000000000000000000000000000000000000000000000000000000000000000000000000
theorem T_lt {i : Int} (h : i.natAbs < P81.natAbs) : T i := T_of (Nat.lt_trans h (by decide +kernel))
theorem seq_nx {G G' : Slots → Out} {env e : Slots} (h : G env = .nx e) : seqS G G' env = G' e := by rw [seqS_app, h]
theorem ixl (xs : List DV) (k : Nat) (d : DV) (h : xs[k]? = some d) : ixD (.lst xs) (.int k) = some d := by
  show L2.atI xs (k : Int) = _
  unfold L2.atI L2.ixN
  have : k < xs.length := (List.getElem?_eq_some_iff.mp h).1
  rw [if_pos (by omega), if_pos (by omega)]
  simpa using h
theorem fraction_spec (ns : List Int) (k : Nat) : ∃ n d, T n ∧ T d ∧ h__law_fraction [.scr (ns.map DV.int), .int k] = .ok (.tup [.int n, .int d]) := by
  obtain ⟨c, hc⟩ := cell_spec ns k
  obtain ⟨x0, x1, x2, x3, x4, x5, hr⟩ := row_spec c
  obtain ⟨n0, p1, p2, p3⟩ := number_spec x0 (x2 % 3)
  obtain ⟨d0, p4, p5, p6⟩ := number_spec x1 (fdivI x2 3 % 3)
  let L : DV := .lst [.int x0, .int x1, .int x2, .int x3, .int x4, .int x5]
  have i0 : ixD L (.int 0) = some (.int x0) := ixl _ 0 _ rfl
  have i1 : ixD L (.int 1) = some (.int x1) := ixl _ 1 _ rfl
  have i2 : ixD L (.int 2) = some (.int x2) := ixl _ 2 _ rfl
  have i3 : ixD L (.int 3) = some (.int x3) := ixl _ 3 _ rfl
  have i4 : ixD L (.int 4) = some (.int x4) := ixl _ 4 _ rfl
  have i5 : ixD L (.int 5) = some (.int x5) := ixl _ 5 _ rfl
  have m3 : ∀ x, modD (.int x) (.int 3) = some (.int (x % 3)) := fun x => mod_p (by decide)
  have m9 : ∀ x, modD (.int x) (.int 9) = some (.int (x % 9)) := fun x => mod_p (by decide)
  have m2 : ∀ x, modD (.int x) (.int 2) = some (.int (x % 2)) := fun x => mod_p (by decide)
  have m20 : ∀ x, modD (.int x) (.int 100000000000000000000) = some (.int (x % 100000000000000000000)) := fun x => mod_p (by decide)
  have d3 : ∀ x, divD (.int x) (.int 3) = some (.int (fdivI x 3)) := fun x => div_sm (by unfold Sm; decide) (by decide)
  have d9 : ∀ x, divD (.int x) (.int 9) = some (.int (fdivI x 9)) := fun x => div_sm (by unfold Sm; decide) (by decide)
  unfold h__law_fraction fnR G__law_fraction
  simp only [List.length_cons, List.length_nil, List.map_cons, List.map_nil, Nat.reduceAdd, if_true, List.replicate, List.cons_append, List.nil_append]
  rw [seq_nx (e := [some (.scr (ns.map DV.int)), some (.int k), some L, none, none, none]) (by simp [callV, freezes, hc, hr, L, freeze])]
  rw [seq_nx (e := [some (.scr (ns.map DV.int)), some (.int k), some L, some (.int n0), none, none]) (by simp [callV, freezes, i0, i2, int_spec, m3, p3])]
  rw [seq_nx (e := [some (.scr (ns.map DV.int)), some (.int k), some L, some (.int n0), some (.int d0), none]) (by simp [callV, freezes, i1, i2, int_spec, m3, d3, p6])]
  obtain ⟨n1, d1, x1', b1, b2, b3, b4, e4⟩ : ∃ (n1 d1 : Int) (x : Option DV), 0 ≤ n1 ∧ n1 < P81 ∧ 0 ≤ d1 ∧ d1 < P81 ∧ (ifS (tst (op2 eqD (op2 modD (opN (one intD1) (consL (op2 ixD (var 2) (cst (.int 3))) nilL)) (cst (.int 3))) (cst (.int 1)))) (seqS (setF 5 (op2 addD (cst (.int 1)) (op2 modD (op2 divD (opN (one intD1) (consL (op2 ixD (var 2) (cst (.int 3))) nilL)) (cst (.int 3))) (op2 powD (cst (.int 10)) (cst (.int 20))))))
      (seqS (setF 3 (op2 mulD (var 3) (var 5)))
      (setF 4 (op2 mulD (var 4) (var 5))))) nxS) [some (.scr (ns.map DV.int)), some (.int k), some L, some (.int n0), some (.int d0), none] = .nx [some (.scr (ns.map DV.int)), some (.int k), some L, some (.int n1), some (.int d1), x] := by
    by_cases c3 : x3 % 3 = 1
    · have q : 0 ≤ fdivI x3 3 % 100000000000000000000 ∧ fdivI x3 3 % 100000000000000000000 < 100000000000000000000 := by omega
      generalize hq : 1 + fdivI x3 3 % 100000000000000000000 = w
      have w0 : 0 ≤ w ∧ w < 1000000000000000000000 := by omega
      have sw : Sm w := sm_lt w0.1 (by omega)
      have sn : Sm n0 := Nat.lt_trans (show n0.natAbs < P60.natAbs by unfold P60 at *; omega) (by unfold P60; decide +kernel)
      have sd : Sm d0 := Nat.lt_trans (show d0.natAbs < P60.natAbs by unfold P60 at *; omega) (by unfold P60; decide +kernel)
      have u1 : n0 * w < P81 := Int.lt_of_le_of_lt (Int.mul_le_mul (show n0 ≤ P60 - 1 by omega) (show w ≤ 999999999999999999999 by omega) w0.1 (by unfold P60; decide)) (by decide +kernel)
      have u2 : d0 * w < P81 := Int.lt_of_le_of_lt (Int.mul_le_mul (show d0 ≤ P60 - 1 by omega) (show w ≤ 999999999999999999999 by omega) w0.1 (by unfold P60; decide)) (by decide +kernel)
      exact ⟨n0 * w, d0 * w, some (.int w), Int.mul_nonneg p1 w0.1, u1, Int.mul_nonneg p4 w0.1, u2, by simp [i3, int_spec, m3, c3, d3, pw20, m20, hq, mul_sm sn sw, mul_sm sd sw]⟩
    · exact ⟨n0, d0, none, p1, by unfold P60 P81 at *; omega, p4, by unfold P60 P81 at *; omega, by simp [i3, int_spec, m3, c3]⟩
  rw [seq_nx e4]
  clear e4
  obtain ⟨d2, b5, b6, e5⟩ : ∃ d2 : Int, 0 ≤ d2 ∧ d2 < P81 ∧ (ifS (tst (op2 eqD (op2 modD (opN (one intD1) (consL (op2 ixD (var 2) (cst (.int 4))) nilL)) (cst (.int 9))) (cst (.int 4)))) (setF 4 (cst (.int 0))) nxS) [some (.scr (ns.map DV.int)), some (.int k), some L, some (.int n1), some (.int d1), x1'] = .nx [some (.scr (ns.map DV.int)), some (.int k), some L, some (.int n1), some (.int d2), x1'] := by
    by_cases c4 : x4 % 9 = 4
    · exact ⟨0, by decide, by decide +kernel, by simp [i4, int_spec, m9, c4]⟩
    · exact ⟨d1, b3, b4, by simp [i4, int_spec, m9, c4]⟩
  rw [seq_nx e5]
  clear e5
  obtain ⟨n2, b7, e6⟩ : ∃ n2 : Int, n2.natAbs < P81.natAbs ∧ (ifS (tst (op2 eqD (op2 modD (op2 divD (opN (one intD1) (consL (op2 ixD (var 2) (cst (.int 4))) nilL)) (cst (.int 9))) (cst (.int 2))) (cst (.int 1)))) (setF 3 (negV (var 3))) nxS) [some (.scr (ns.map DV.int)), some (.int k), some L, some (.int n1), some (.int d2), x1'] = .nx [some (.scr (ns.map DV.int)), some (.int k), some L, some (.int n2), some (.int d2), x1'] := by
    by_cases c4 : fdivI x4 9 % 2 = 1
    · exact ⟨-n1, by omega, by simp [i4, int_spec, m2, d9, c4]⟩
    · exact ⟨n1, by omega, by simp [i4, int_spec, m2, d9, c4]⟩
  rw [seq_nx e6]
  clear e6
  obtain ⟨d3', b8, e7⟩ : ∃ d3' : Int, d3'.natAbs < P81.natAbs ∧ (ifS (tst (op2 eqD (op2 modD (opN (one intD1) (consL (op2 ixD (var 2) (cst (.int 5))) nilL)) (cst (.int 2))) (cst (.int 1)))) (setF 4 (negV (var 4))) nxS) [some (.scr (ns.map DV.int)), some (.int k), some L, some (.int n2), some (.int d2), x1'] = .nx [some (.scr (ns.map DV.int)), some (.int k), some L, some (.int n2), some (.int d3'), x1'] := by
    by_cases c4 : x5 % 2 = 1
    · exact ⟨-d2, by omega, by simp [i5, int_spec, m2, c4]⟩
    · exact ⟨d2, by omega, by simp [i5, int_spec, m2, c4]⟩
  rw [seq_nx e7]
  exact ⟨n2, d3', T_lt b7, T_lt b8, by simp [tupV, big, DL.fin]⟩
def lA (n d : Int) : Int := if d = 0 then n else nn n d
def lB (n d : Int) : Int := if d = 0 then 1 else nd' n d
theorem lA_T {n d : Int} (hn : T n) : T (lA n d) := by
  unfold lA; split
  · exact hn
  · exact nn_T (by assumption) hn
theorem t1 : T 1 := by unfold T; decide
theorem lB_T {n d : Int} (hd : T d) : T (lB n d) := by
  unfold lB; split
  · exact t1
  · exact nd_T (by assumption) hd
theorem lB_ne {n d : Int} : lB n d ≠ 0 := by
  unfold lB; split
  · decide
  · exact nd_ne (by assumption)
theorem ne_str {x y : Str} (hx : PyData.strOk x = true) (hy : PyData.strOk y = true) : neD (.str x) (.str y) = some (.bl (!decide (x = y))) := by
  have h := eq_str hx hy
  unfold eqD at h; unfold neD
  cases e : eqB (.str x) (.str y) with
  | none => rw [e] at h; cases h
  | some b => rw [e] at h; simp at h; simp [h]
theorem due_el {n d : Int} (hn : T n) (hd : T d) (env : Slots) (h : env[2]? = some (some (.tup [.int n, .int d]))) : (ifV (tst (op2 neD (op2 ixD (var 2) (cst (.int 1))) (cst (.int 0)))) (callV h__law_lowest [] (consL (fz (op2 ixD (var 2) (cst (.int 0)))) (consL (fz (op2 ixD (var 2) (cst (.int 1)))) nilL))) (tupV (consL (fz (op2 ixD (var 2) (cst (.int 0)))) (consL (cst (.int 1)) nilL)))) env = .ok (.tup [.int (lA n d), .int (lB n d)]) := by
  unfold ifV lA lB
  by_cases c : d = 0
  · simp [h, ix0, ix1, c, tupV, big]
  · simp [h, ix0, ix1, c, callV, freezes, lowest_spec c hd.sm]
theorem pure_law (ns : List Int) (hns : ns.length ≤ 63) : h_law [.scr (ns.map DV.int)] = .ok (.bl true) := by
  obtain ⟨n, d, hn, hd, hf0⟩ := fraction_spec ns 0
  obtain ⟨p, q, hp, hq, hf1⟩ := fraction_spec ns 1
  have hf0 : h__law_fraction [.scr (ns.map DV.int), .int 0] = .ok (.tup [.int n, .int d]) := hf0
  have hf1 : h__law_fraction [.scr (ns.map DV.int), .int 1] = .ok (.tup [.int p, .int q]) := hf1
  let Ls : DV := .lst [.tup [.int n, .int d], .tup [.int p, .int q]]
  have i0 : ixD Ls (.int 0) = some (.tup [.int n, .int d]) := ixl _ 0 _ rfl
  have i1 : ixD Ls (.int 1) = some (.tup [.int p, .int q]) := ixl _ 1 _ rfl
  have hLs : isFrz Ls = true := rfl
  let a := lA n d
  let b := lB n d
  let c := lA p q
  let e := lB p q
  have Ta : T a := lA_T hn
  have Tb : T b := lB_T hd
  have Tc : T c := lA_T hp
  have Te : T e := lB_T hq
  have zb : b ≠ 0 := lB_ne
  have ze : e ≠ 0 := lB_ne
  unfold h_law fnR G_law
  simp only [List.length_cons, List.length_nil, List.map_cons, List.map_nil, Nat.reduceAdd, if_true, List.replicate, List.cons_append, List.nil_append]
  let S : Option DV := some (.scr (ns.map DV.int))
  rw [seq_nx (e := [S, some Ls, none, none, none, none, none, none]) (by simp [callV, freezes, hf0, hf1, lstV, big, Ls, freeze, S])]
  rw [seq_nx (e := [S, some Ls, none, none, none, none, none, none]) (by simp [callV, freezes, i0, i1, ix0, whole_spec hn.sm, raises_spec, truB, S])]
  rw [seq_nx (e := [S, some Ls, some (.tup [.int p, .int q]), none, none, none, none, none]) (by
    unfold forS itS
    by_cases c1 : d = 0 <;> by_cases c2 : q = 0 <;> simp [hLs, Ls, walkD, loopS, nameG, ix0, ix1, c1, c2, callV, freezes, raises_spec, truB, S])]
  let D : DV := .lst [.tup [.int a, .int b], .tup [.int c, .int e]]
  have j0 : ixD D (.int 0) = some (.tup [.int a, .int b]) := ixl _ 0 _ rfl
  have j1 : ixD D (.int 1) = some (.tup [.int c, .int e]) := ixl _ 1 _ rfl
  rw [seq_nx (e := [S, some Ls, some (.tup [.int p, .int q]), some D, none, none, none, none]) (by
    have w : itS (fz (var 1)) [S, some Ls, some (.tup [.int p, .int q]), none, none, none, none, none] = .ok [.tup [.int n, .int d], .tup [.int p, .int q]] := by
      unfold itS; simp [hLs, Ls, walkD]
    have g1 := due_el hn hd [S, some Ls, some (.tup [.int n, .int d]), none, none, none, none, none] rfl
    have g2 := due_el hp hq [S, some Ls, some (.tup [.int p, .int q]), none, none, none, none, none] rfl
    simp only [setF_app, lcV, w, bind_ok]
    rw [if_pos (by unfold big; simp)]
    simp only [lcLoop, wipeD, nameG, yesT, List.set_cons_succ, List.set_cons_zero, g1, g2]
    rfl)]
  have mk1 : ∀ (f g : Slots → DL.R (List DV)) (cnd : Slots → DL.R Bool) (env : Slots), cnd env = .ok (!decide (d = 0)) → f env = .ok [.int n, .int d] → g env = .ok [.int n, .int 1] → ifV cnd (mkV "Ratio" h_Ratio_init dd_Ratio2 f) (mkV "Ratio" h_Ratio_init dd_Ratio2 g) env = .ok (.obj "Ratio" (rat a b)) := fun f g cnd env h1 h2 h3 => by
    unfold ifV
    rw [h1]
    by_cases z : d = 0
    · simp only [bind_ok, z, decide_true, Bool.not_true, Bool.false_eq_true, if_false]
      rw [mk_ok (n := n) (d := 1) (by decide) sm1 g env h3]
      have h4 := nn1 n; have h5 := nd1 n
      unfold nn at h4; unfold nd' at h5
      rw [h4, h5]
      simp [a, b, lA, lB, z]
    · simp only [bind_ok, z, decide_false, Bool.not_false, if_true]
      rw [mk_ok (n := n) (d := d) z hd.sm f env h2]
      simp [a, b, lA, lB, z]
  have mk2 : ∀ (f g : Slots → DL.R (List DV)) (cnd : Slots → DL.R Bool) (env : Slots), cnd env = .ok (!decide (q = 0)) → f env = .ok [.int p, .int q] → g env = .ok [.int p] → ifV cnd (mkV "Ratio" h_Ratio_init dd_Ratio2 f) (mkV "Ratio" h_Ratio_init dd_Ratio1 g) env = .ok (.obj "Ratio" (rat c e)) := fun f g cnd env h1 h2 h3 => by
    unfold ifV
    rw [h1]
    by_cases z : q = 0
    · simp only [bind_ok, z, decide_true, Bool.not_true, Bool.false_eq_true, if_false]
      rw [mk_k g env h3]
      simp [c, e, lA, lB, z]
    · simp only [bind_ok, z, decide_false, Bool.not_false, if_true]
      rw [mk_ok (n := p) (d := q) z hq.sm f env h2]
      simp [c, e, lA, lB, z]
  rw [seq_nx (e := [S, some Ls, some (.tup [.int p, .int q]), some D, some (rt a b), none, none, none]) (by
    rw [setF_app, mk1 _ _ _ _ (by simp [i0, ix1]) (by simp [i0, ix0, ix1]) (by simp [i0, ix0])]
    simp [frz_obj])]
  rw [seq_nx (e := [S, some Ls, some (.tup [.int p, .int q]), some D, some (rt a b), some (rt c e), none, none]) (by
    rw [setF_app, mk2 _ _ _ _ (by simp [i1, ix1]) (by simp [i1, ix0, ix1]) (by simp [i1, ix0])]
    simp [frz_obj])]
  rw [seq_nx (e := [S, some Ls, some (.tup [.int p, .int q]), some D, some (rt a b), some (rt c e), some (.tup [.int a, .int b]), none]) (by simp [j0])]
  rw [seq_nx (e := [S, some Ls, some (.tup [.int p, .int q]), some D, some (rt a b), some (rt c e), some (.tup [.int a, .int b]), some (.tup [.int c, .int e])]) (by simp [j1])]
  rw [seq_nx (e := [S, some Ls, some (.tup [.int p, .int q]), some D, some (rt a b), some (rt c e), some (.tup [.int a, .int b]), some (.tup [.int c, .int e])]) (by
    simp [callV, freezes, is_spec, truB, strO, str_spec Ta.sm Tb.sm, written_spec Ta.sm Tb.sm, ne_str (wr_ok _ _) (wr_ok _ _)])]
  rw [seq_nx (e := [S, some Ls, some (.tup [.int p, .int q]), some D, some (rt a b), some (rt c e), some (.tup [.int a, .int b]), some (.tup [.int c, .int e])]) (by
    simp [callV, freezes, sums_spec Ta Tb Tc Te zb ze, order_spec Ta Tb Tc Te zb ze, truB])]
  rw [seq_nx (e := [S, some Ls, some (.tup [.int p, .int q]), some D, some (rt a b), some (rt c e), some (.tup [.int a, .int b]), some (.tup [.int c, .int e])]) (by
    by_cases z : c = 0 <;> simp [ix0, z, callV, freezes, over_raises_spec Ta.sm Tb.sm, truB])]
  rw [seq_nx (e := [S, some Ls, some (.tup [.int p, .int q]), some D, some (rt a b), some (rt c e), some (.tup [.int a, .int b]), some (.tup [.int c, .int e])]) (by
    by_cases z : c = 0
    · simp [ix0, z]
    · have hz : b * c ≠ 0 := Int.mul_ne_zero zb z
      have o := over_spec Ta.sm Tb.sm Tc.sm Te.sm hz (Tb.mul Tc)
      have l := lowest_spec (n := a * e) hz (Tb.mul Tc)
      simp [ix0, ix1, z, methV, frz_rt, noover, o, freezes, frz_obj, mul_sm Ta.sm Te.sm, mul_sm Tb.sm Tc.sm, callV, l, is_spec, nn, nd', truB])]
  rw [seq_nx (e := [S, some Ls, some (.tup [.int p, .int q]), some D, some (rt a b), some (rt c e), some (.tup [.int a, .int b]), some (.tup [.int c, .int e])]) (by
    simp [eqO, eqOwn, nfD, ix0, ix1, tupV, big, frz_rt, eq_int_spec, eq_tup_spec, isnot_bl])]
  simp [callV, freezes, over_raises_spec Tc.sm Te.sm, is_spec, andV, truB, strO, str_spec Tc.sm Te.sm, written_spec Tc.sm Te.sm, eq_str (wr_ok _ _) (wr_ok _ _), DL.fin]
end K00
end
section
set_option maxHeartbeats 0
namespace K00
open PySem PySem.Spec L2 PyProof.Rows DL
theorem chain {P : Program} {w : World} {K : PySem.W.Frag} {mg : Str → Option Value} {base : Heap} (s : Say K mg) {fd : FuncData} (F : FunD K "law" "law" (defArgs (top 27)) (defBody (top 27)) (defScope (top 27)) [] [] (He.fAd K ("law", none)) fd) : Fno false P w K mg base (L2.CX P w) 6 (He.fAd K ("law", none)) fd ["script"] (spP ⟨K, gam K cls⟩ h_law) := by
  obtain ⟨fd_Ratio, F_Ratio⟩ := s.f_Ratio_init
  have i_Ratio := ok_Ratio_init (P := P) (w := w) (base := base) s F_Ratio
  obtain ⟨ds_Ratio1, v_Ratio1, b_Ratio1⟩ := F_Ratio.binds1 (ps := ["self", "n", "d"]) 2 0 (by decide) rfl (fun _ _ _ _ _ _ _ us its hu hi => match us, its, hu, hi with | [_, _], [_], _, _ => ⟨_, rfl, rfl⟩)
  have d_Ratio1 : MkD P w K mg base (gam K cls) "Ratio" 1 dd_Ratio1 h_Ratio_init := ⟨_, _, _, _, _, _, rfl, s.g_Ratio, s.k_Ratio, i_Ratio, b_Ratio1, v_Ratio1, fun _ => (.cons (.int _) .nil)⟩
  obtain ⟨ds_Ratio2, v_Ratio2, b_Ratio2⟩ := F_Ratio.binds1 (ps := ["self", "n", "d"]) 3 1 (by decide) rfl (fun _ _ _ _ _ _ _ us its hu hi => match us, its, hu, hi with | [_, _, _], [_], _, _ => ⟨_, rfl, rfl⟩)
  have d_Ratio2 : MkD P w K mg base (gam K cls) "Ratio" 1 dd_Ratio2 h_Ratio_init := ⟨_, _, _, _, _, _, rfl, s.g_Ratio, s.k_Ratio, i_Ratio, b_Ratio2, v_Ratio2, fun _ => .nil⟩
  have d_Ratio_eq := ok_Ratio_eq (P := P) (w := w) (base := base) s
  have d_Ratio_add := ok_Ratio_add (P := P) (w := w) (base := base) s d_Ratio1 d_Ratio2
  have d_Ratio_sub := ok_Ratio_sub (P := P) (w := w) (base := base) s d_Ratio1 d_Ratio2
  have d_Ratio_mul := ok_Ratio_mul (P := P) (w := w) (base := base) s d_Ratio1 d_Ratio2
  have d_Ratio_str := ok_Ratio_str (P := P) (w := w) (base := base) s
  have d_Ratio_over := ok_Ratio_over (P := P) (w := w) (base := base) s d_Ratio1 d_Ratio2
  have d_Ratio_compare := ok_Ratio_compare (P := P) (w := w) (base := base) s
  have d__law_cell := ok__law_cell (P := P) (w := w) (base := base) s
  have d__law_mixed := ok__law_mixed (P := P) (w := w) (base := base) s
  have d__law_row := ok__law_row (P := P) (w := w) (base := base) s d__law_mixed
  have d__law_number := ok__law_number (P := P) (w := w) (base := base) s
  have d__law_gcd := ok__law_gcd (P := P) (w := w) (base := base) s
  have d__law_fraction := ok__law_fraction (P := P) (w := w) (base := base) s d__law_cell d__law_number d__law_row
  have d__law_lowest := ok__law_lowest (P := P) (w := w) (base := base) s d__law_gcd
  have d__law_is_integer := ok__law_is_integer (P := P) (w := w) (base := base) s
  have d__law_is := ok__law_is (P := P) (w := w) (base := base) s d__law_is_integer
  have d__law_is_bad_ratio := ok__law_is_bad_ratio (P := P) (w := w) (base := base) s
  have d__law_raises := ok__law_raises (P := P) (w := w) (base := base) s d__law_is_bad_ratio d_Ratio1 d_Ratio2
  have d__law_over_raises := ok__law_over_raises (P := P) (w := w) (base := base) s d__law_is_bad_ratio d_Ratio_over d_Ratio1 d_Ratio2
  have d__law_written := ok__law_written (P := P) (w := w) (base := base) s
  have d__law_whole := ok__law_whole (P := P) (w := w) (base := base) s d__law_is d__law_written d_Ratio_eq d_Ratio_str d_Ratio1 d_Ratio2
  have d__law_sums := ok__law_sums (P := P) (w := w) (base := base) s d__law_is d__law_lowest d_Ratio_add d_Ratio_mul d_Ratio_sub
  have d__law_order := ok__law_order (P := P) (w := w) (base := base) s d__law_is_integer d_Ratio_eq d_Ratio_compare d_Ratio1 d_Ratio2
  exact fn_law s d__law_fraction d__law_is d__law_lowest d__law_order d__law_over_raises d__law_raises d__law_sums d__law_whole d__law_written d_Ratio_eq d_Ratio_str d_Ratio_over d_Ratio1 d_Ratio2 F
theorem facts {P : Program} {w : World} {K : PySem.W.Frag} {h : Heap} {mg : Str → Option Value} {f : Addr} (X : K.In h) (G : h.Ns mainGlobals mg) (hfa : mg ("law" : Str) = some (.ref f)) (c : SayX faL fnL exL K) :
    ∃ fd : FuncData, (∀ (s : Shared) (v : Value), BindsTo s fd ⟨[v], []⟩ [("script", v)]) ∧ ∀ base : Heap, K.In base → base.Ns mainGlobals mg → FnOk P w K mg base (CXu P) 6 f fd ["script"] (spP ⟨K, gam K cls⟩ h_law) := by
  have s := say_of X G c
  obtain ⟨fd, F⟩ := s.f_law
  have e := hfa.symm.trans s.g_law
  cases e
  have b := FunD.bindsA (ps := ["script"]) F fun _ _ _ _ _ _ us hl => match us, hl with | [_], _ => rfl
  refine ⟨fd, fun s v => b s [v] rfl, fun base _ _ => ?_⟩
  exact fnok_u (chain (P := P) (w := w) (base := base) s F).ok
end K00
open PySem PySem.W PySem.Calls PyProof.Rows
theorem PySem.Challenge.cw_cutsagainst_k00_ratios_exact_holds : PySem.Challenge.rw_cutsagainst_k00_ratios_exact.Holds := by
  w_on; o_law
  refine HandSHeadRun.head_imp (r := OpenLaw.row PySem.Challenge.rw_cutsagainst_k00_ratios_exact) (q := view (OpenLaw.row PySem.Challenge.rw_cutsagainst_k00_ratios_exact).prog [0, 27]) (H := K00.hk) (ob := K00.ob) (M := 100000) (loose := K00.loose) (d := HandSHeadRun.topDef (OpenLaw.row PySem.Challenge.rw_cutsagainst_k00_ratios_exact).prog 27) (kwd := []) K00.ob_eq
    K00.run (by kernel_rfl) (by kernel_rfl) (by kernel_rfl) (by rfl) (by first | assumption | decide +kernel) (by decide +kernel) ⟨rfl, rfl, rfl, rfl, rfl, by decide +kernel⟩ ?hw ?hc
  case hw => w_witness2
  case hc =>
    refine L2.walk_ofE (l := PySem.Challenge.rw_cutsagainst_k00_ratios_exact) (n := 63) (k := 6) (x := "script") (CX := DL.CXu (PySem.Challenge.rw_cutsagainst_k00_ratios_exact).prog) rfl (by decide) (by kernel_rfl) ⟨rfl, by decide, by decide⟩ ?F DL.cxu_false
    case F =>
      intro w mg fa h Y G hmg0
      obtain ⟨K, KX, c⟩ := Y
      have hmg : mg ("law" : PySem.Str) = some (.ref fa) := by
        have e : (HandSHeadRun.topDef (OpenLaw.row PySem.Challenge.rw_cutsagainst_k00_ratios_exact).prog 27).name = ("law" : PySem.Str) := by kernel_rfl
        rw [← e]
        exact hmg0
      obtain ⟨fd, hb, hF⟩ := K00.facts (P := (PySem.Challenge.rw_cutsagainst_k00_ratios_exact).prog) (w := w) KX G hmg c
      refine ⟨K, fd, _, KX, hb, fun H a ns hl _ hS => ?_, hF⟩
      refine ⟨H, [.scr (ns.map DL.DV.int)], .refl H, .cons (.scr hS (DL.script_rf ns)) .nil, ?_⟩
      rw [K00.pure_law ns hl]
      intro v F' H' A _ _ r
      exact r.bl_inv
end
