import PyProof.Rows.All
import Wide.All
import OpenK.AllK
import Wide.FinOn
import HandS.ForMost
import HandS.Wide
import HandS.Flow
import HandS.IsInst
import HandS.TupAny
import HandS.TupMul
import KE.KUnpackStar
import HandS.Style
import HandS.More
import KE.GoesMore
import KE.GoesZip
import KE.GoesEnum
import HandS.Strs
import HandS.Replace
import HandS.Text
import PyProof.ReprRoads
import HandS.RaiseMore
import HandS.Ends
import PyProof.DictUpdate
import HandS.Dict
import HandS.MakeKwOnly
import HandS.SetKeys
import PyProof.Rows.SetFrom
import PySem.Challenge.RW_walkback_k05_programs_written
set_option Elab.async false
set_option linter.all false
set_option maxRecDepth 100000
set_option maxHeartbeats 4000000
namespace Ws
open PySem L2

/-! ### data as trees -/
inductive D where
  | non | bl (b : Bool) | int (i : Int) | str (x : Str) | ty (n : String) | ref (a : Addr)
  | tup (xs : List D) | lst (xs : List D) | dct (kvs : List (D × D)) | dcT (kvs : List (D × D)) | ins (C : Str) (fs : List (Str × D)) | any
inductive O where
  | pu (d : D) | li (xs : List O) | tu (xs : List O) | di (kvs : List (D × O)) | diT (kvs : List (D × O)) | ob (C : Str) (fs : List (Str × O)) | any

mutual
def O.toD : O → D
  | .pu d => d
  | .li xs => .lst (O.toDs xs)
  | .tu xs => .tup (O.toDs xs)
  | .di kvs => .dct (O.toDk kvs)
  | .diT kvs => .dcT (O.toDk kvs)
  | .ob C fs => .ins C (O.toDf fs)
  | .any => .any
def O.toDs : List O → List D
  | [] => []
  | x :: xs => x.toD :: O.toDs xs
def O.toDk : List (D × O) → List (D × D)
  | [] => []
  | (k, x) :: xs => (k, x.toD) :: O.toDk xs
def O.toDf : List (Str × O) → List (Str × D)
  | [] => []
  | (k, x) :: xs => (k, x.toD) :: O.toDf xs
end
@[simp] theorem toD_pu (d : D) : (O.pu d).toD = d := by rw [O.toD]
@[simp] theorem toD_li (xs : List O) : (O.li xs).toD = .lst (xs.map O.toD) := by
  rw [O.toD]
  congr 1
  induction xs with
  | nil => rfl
  | cons x xs ih => rw [O.toDs, ih]; rfl
@[simp] theorem toD_tu (xs : List O) : (O.tu xs).toD = .tup (xs.map O.toD) := by
  rw [O.toD]
  congr 1
  induction xs with
  | nil => rfl
  | cons x xs ih => rw [O.toDs, ih]; rfl
@[simp] theorem toD_comp : O.toD ∘ O.pu = id := funext fun d => toD_pu d
theorem O.toDs_eq : ∀ xs : List O, O.toDs xs = xs.map O.toD
  | [] => rfl
  | x :: xs => by rw [O.toDs, O.toDs_eq xs]; rfl
theorem O.toDk_eq : ∀ xs : List (D × O), O.toDk xs = xs.map fun q => (q.1, q.2.toD)
  | [] => rfl
  | (k, x) :: xs => by rw [O.toDk, O.toDk_eq xs]; rfl
theorem O.toDf_eq : ∀ xs : List (Str × O), O.toDf xs = xs.map fun q => (q.1, q.2.toD)
  | [] => rfl
  | (k, x) :: xs => by rw [O.toDf, O.toDf_eq xs]; rfl

/-- a key of a dict with int and text keys -/
def keyD : Key → D
  | .inl i => .int i
  | .inr x => .str x
/-- what stands in the written part as a dict -/
def DctK (K : PySem.W.Frag) (H : Hp) (a : Addr) (kvs : List (Key × V)) : Prop :=
  Rd H a (.dK kvs)

def DctT (K : PySem.W.Frag) (H : Hp) (a : Addr) (kvs : List (List Key × V)) : Prop :=
  Rd H a (.dT kvs)
/-- the class at C is the module's name n -/
def ClsN (K : PySem.W.Frag) (n : Str) (C : Addr) : Prop := PySem.W.nsIn K mainGlobals n = some (some (.ref C))
theorem ClsN.inj {K : PySem.W.Frag} {n : Str} {C C' : Addr} (h : ClsN K n C) (h' : ClsN K n C') : C = C' := by
  unfold ClsN at h h'
  rw [h] at h'
  cases h'
  rfl
mutual
inductive Rep (K : PySem.W.Frag) (H : Hp) : V → D → Prop
  | non : Rep K H .non .non
  | bl (b : Bool) : Rep K H (.bl b) (.bl b)
  | int (i : Int) : Rep K H (.int i) (.int i)
  | str (x : Str) : Rep K H (.str x) (.str x)
  | ty (n : String) : Rep K H (.ty n) (.ty n)
  | ref (a : Addr) : Rep K H (.ref a) (.ref a)
  | lst {a : Addr} {vs : List V} {ds : List D} : SqL K H a vs → Reps K H vs ds → Rep K H (.ref a) (.lst ds)
  | tup {a : Addr} {vs : List V} {ds : List D} : SqT K H a vs → Reps K H vs ds → Rep K H (.ref a) (.tup ds)
  | dct {a : Addr} {ws : List (Key × V)} {kvs : List (D × D)} : DctK K H a ws → RepKs K H ws kvs → Rep K H (.ref a) (.dct kvs)
  | dcT {a : Addr} {ws : List (List Key × V)} {kvs : List (D × D)} : DctT K H a ws → RepTs K H ws kvs → Rep K H (.ref a) (.dcT kvs)
  | ins {a C dx : Addr} {n : Str} {ws : List (Str × V)} {fs : List (Str × D)} : ClsN K n C → H a = some (.ins C dx ws) → RepFs K H ws fs → Rep K H (.ref a) (.ins n fs)
  | any (v : V) : Rep K H v .any
inductive Reps (K : PySem.W.Frag) (H : Hp) : List V → List D → Prop
  | nil : Reps K H [] []
  | cons {v : V} {vs : List V} {d : D} {ds : List D} : Rep K H v d → Reps K H vs ds → Reps K H (v :: vs) (d :: ds)
inductive RepKs (K : PySem.W.Frag) (H : Hp) : List (Key × V) → List (D × D) → Prop
  | nil : RepKs K H [] []
  | cons {k : Key} {v : V} {ws : List (Key × V)} {d : D} {kvs : List (D × D)} : Rep K H v d → RepKs K H ws kvs → RepKs K H ((k, v) :: ws) ((keyD k, d) :: kvs)
inductive RepTs (K : PySem.W.Frag) (H : Hp) : List (List Key × V) → List (D × D) → Prop
  | nil : RepTs K H [] []
  | cons {k : List Key} {v : V} {ws : List (List Key × V)} {d : D} {kvs : List (D × D)} : Rep K H v d → RepTs K H ws kvs → RepTs K H ((k, v) :: ws) ((.tup (k.map keyD), d) :: kvs)
inductive RepFs (K : PySem.W.Frag) (H : Hp) : List (Str × V) → List (Str × D) → Prop
  | nil : RepFs K H [] []
  | cons {k : Str} {v : V} {ws : List (Str × V)} {d : D} {fs : List (Str × D)} : Rep K H v d → RepFs K H ws fs → RepFs K H ((k, v) :: ws) ((k, d) :: fs)
end

abbrev Fp := Addr → Nat
def one (a : Addr) : Fp := fun b => if b = a then 1 else 0
mutual
inductive RepO (K : PySem.W.Frag) (Z H : Hp) : V → O → Fp → Prop
  | pu {v : V} {d : D} {F : Fp} : Rep K Z v d → RepO K Z H v (.pu d) F
  | li {a : Addr} {vs : List V} {os : List O} {F G : Fp} : H a = some (.lst vs) → RepOs K Z H vs os F → (∀ b, one a b + F b ≤ G b) → RepO K Z H (.ref a) (.li os) G
  | tu {a : Addr} {vs : List V} {os : List O} {F G : Fp} : H a = some (.tup vs) → RepOs K Z H vs os F → (∀ b, one a b + F b ≤ G b) → RepO K Z H (.ref a) (.tu os) G
  | di {a : Addr} {ws : List (Key × V)} {kvs : List (D × O)} {F G : Fp} : H a = some (.dK ws) → RepOk K Z H ws kvs F → (∀ b, one a b + F b ≤ G b) → RepO K Z H (.ref a) (.di kvs) G
  | diT {a : Addr} {ws : List (List Key × V)} {kvs : List (D × O)} {F G : Fp} : H a = some (.dT ws) → RepOt K Z H ws kvs F → (∀ b, one a b + F b ≤ G b) → RepO K Z H (.ref a) (.diT kvs) G
  | ob {a C dx : Addr} {n : Str} {ws : List (Str × V)} {fs : List (Str × O)} {F G : Fp} : ClsN K n C → H a = some (.ins C dx ws) → RepOf K Z H ws fs F → (∀ b, one a b + F b ≤ G b) → RepO K Z H (.ref a) (.ob n fs) G
  | any {v : V} {F : Fp} : RepO K Z H v .any F
inductive RepOs (K : PySem.W.Frag) (Z H : Hp) : List V → List O → Fp → Prop
  | nil {F : Fp} : RepOs K Z H [] [] F
  | cons {v : V} {vs : List V} {o : O} {os : List O} {F1 F2 G : Fp} : RepO K Z H v o F1 → RepOs K Z H vs os F2 → (∀ b, F1 b + F2 b ≤ G b) → RepOs K Z H (v :: vs) (o :: os) G
inductive RepOk (K : PySem.W.Frag) (Z H : Hp) : List (Key × V) → List (D × O) → Fp → Prop
  | nil {F : Fp} : RepOk K Z H [] [] F
  | cons {k : Key} {v : V} {ws : List (Key × V)} {o : O} {kvs : List (D × O)} {F1 F2 G : Fp} : RepO K Z H v o F1 → RepOk K Z H ws kvs F2 → (∀ b, F1 b + F2 b ≤ G b) → RepOk K Z H ((k, v) :: ws) ((keyD k, o) :: kvs) G
inductive RepOt (K : PySem.W.Frag) (Z H : Hp) : List (List Key × V) → List (D × O) → Fp → Prop
  | nil {F : Fp} : RepOt K Z H [] [] F
  | cons {k : List Key} {v : V} {ws : List (List Key × V)} {o : O} {kvs : List (D × O)} {F1 F2 G : Fp} : RepO K Z H v o F1 → RepOt K Z H ws kvs F2 → (∀ b, F1 b + F2 b ≤ G b) → RepOt K Z H ((k, v) :: ws) ((.tup (k.map keyD), o) :: kvs) G
inductive RepOf (K : PySem.W.Frag) (Z H : Hp) : List (Str × V) → List (Str × O) → Fp → Prop
  | nil {F : Fp} : RepOf K Z H [] [] F
  | cons {k : Str} {v : V} {ws : List (Str × V)} {o : O} {fs : List (Str × O)} {F1 F2 G : Fp} : RepO K Z H v o F1 → RepOf K Z H ws fs F2 → (∀ b, F1 b + F2 b ≤ G b) → RepOf K Z H ((k, v) :: ws) ((k, o) :: fs) G
end

/-! ### heaps -/
/-- what stands in Z may be read in H -/
structure Le (K : PySem.W.Frag) (Z H : Hp) : Prop where
  l : ∀ a vs, SqL K Z a vs → SqL K H a vs
  t : ∀ a vs, SqT K Z a vs → SqT K H a vs
  d : ∀ a ws, DctK K Z a ws → DctK K H a ws
  e : ∀ a ws, DctT K Z a ws → DctT K H a ws
  i : ∀ a C dx ws, Z a = some (.ins C dx ws) → H a = some (.ins C dx ws)
theorem Le.refl {K : PySem.W.Frag} {Z : Hp} : Le K Z Z := ⟨fun _ _ h => h, fun _ _ h => h, fun _ _ h => h, fun _ _ h => h, fun _ _ _ _ h => h⟩
theorem Le.trans {K : PySem.W.Frag} {Z Z1 Z2 : Hp} (a : Le K Z Z1) (b : Le K Z1 Z2) : Le K Z Z2 :=
  ⟨fun _ _ h => b.l _ _ (a.l _ _ h), fun _ _ h => b.t _ _ (a.t _ _ h), fun _ _ h => b.d _ _ (a.d _ _ h), fun _ _ h => b.e _ _ (a.e _ _ h), fun _ _ _ _ h => b.i _ _ _ _ (a.i _ _ _ _ h)⟩
def isDL : HO → Bool
  | .lst _ => true
  | .dK _ => true
  | .dT _ => true
  | _ => false
def Sub (Z H : Hp) : Prop := ∀ b o, Z b = some o → H b = some o ∨ (isDL o = true ∧ ∃ ob, H b = some (.frz ob o))
theorem Sub.of {Z H : Hp} (h : Same Z H) : Sub Z H := fun b o e => .inl (h b o e)
theorem Sub.le {K : PySem.W.Frag} {Z H : Hp} (h : Sub Z H) : Le K Z H := by
  refine ⟨fun a vs q => ?_, fun a vs q => ?_, fun a ws q => ?_, fun a ws q => ?_, fun a C dx ws q => ?_⟩
  · rcases q with (q | ⟨o, q⟩) | q
    · rcases h _ _ q with z | ⟨_, ob, z⟩
      · exact .inl (.inl z)
      · exact .inl (.inr ⟨ob, z⟩)
    · rcases h _ _ q with z | ⟨z, _⟩
      · exact .inl (.inr ⟨o, z⟩)
      · cases z
    · exact .inr q
  · rcases q with (q | ⟨o, q⟩) | q
    · rcases h _ _ q with z | ⟨z, _⟩
      · exact .inl (.inl z)
      · cases z
    · rcases h _ _ q with z | ⟨z, _⟩
      · exact .inl (.inr ⟨o, z⟩)
      · cases z
    · exact .inr q
  · rcases q with q | ⟨o, q⟩
    · rcases h _ _ q with z | ⟨_, ob, z⟩
      · exact .inl z
      · exact .inr ⟨ob, z⟩
    · rcases h _ _ q with z | ⟨z, _⟩
      · exact .inr ⟨o, z⟩
      · cases z
  · rcases q with q | ⟨o, q⟩
    · rcases h _ _ q with z | ⟨_, ob, z⟩
      · exact .inl z
      · exact .inr ⟨ob, z⟩
    · rcases h _ _ q with z | ⟨z, _⟩
      · exact .inr ⟨o, z⟩
      · cases z
  · rcases h _ _ q with z | ⟨z, _⟩
    · exact z
    · cases z
theorem le_of_same {K : PySem.W.Frag} {Z H : Hp} (h : Same Z H) : Le K Z H := (Sub.of h).le
theorem Same.sub {Z Z' H : Hp} (h : Same Z Z') (s : Sub Z' H) : Sub Z H := fun b o e => s b o (h b o e)

section
variable {K : PySem.W.Frag}
mutual
theorem Rep.mono {Z Z' : Hp} (m : Le K Z Z') : ∀ {v : V} {d : D}, Rep K Z v d → Rep K Z' v d
  | _, _, .non => .non
  | _, _, .bl b => .bl b
  | _, _, .int b => .int b
  | _, _, .str b => .str b
  | _, _, .ty b => .ty b
  | _, _, .ref b => .ref b
  | _, _, .lst h r => .lst (m.l _ _ h) (Reps.mono m r)
  | _, _, .tup h r => .tup (m.t _ _ h) (Reps.mono m r)
  | _, _, .dct h r => .dct (m.d _ _ h) (RepKs.mono m r)
  | _, _, .dcT h r => .dcT (m.e _ _ h) (RepTs.mono m r)
  | _, _, .ins n h r => .ins n (m.i _ _ _ _ h) (RepFs.mono m r)
  | _, _, .any v => .any v
theorem Reps.mono {Z Z' : Hp} (m : Le K Z Z') : ∀ {vs : List V} {ds : List D}, Reps K Z vs ds → Reps K Z' vs ds
  | _, _, .nil => .nil
  | _, _, .cons h r => .cons (Rep.mono m h) (Reps.mono m r)
theorem RepKs.mono {Z Z' : Hp} (m : Le K Z Z') : ∀ {vs : List (Key × V)} {ds : List (D × D)}, RepKs K Z vs ds → RepKs K Z' vs ds
  | _, _, .nil => .nil
  | _, _, .cons h r => .cons (Rep.mono m h) (RepKs.mono m r)
theorem RepTs.mono {Z Z' : Hp} (m : Le K Z Z') : ∀ {vs : List (List Key × V)} {ds : List (D × D)}, RepTs K Z vs ds → RepTs K Z' vs ds
  | _, _, .nil => .nil
  | _, _, .cons h r => .cons (Rep.mono m h) (RepTs.mono m r)
theorem RepFs.mono {Z Z' : Hp} (m : Le K Z Z') : ∀ {vs : List (Str × V)} {ds : List (Str × D)}, RepFs K Z vs ds → RepFs K Z' vs ds
  | _, _, .nil => .nil
  | _, _, .cons h r => .cons (Rep.mono m h) (RepFs.mono m r)
end
theorem one_self (a : Addr) : one a a = 1 := if_pos rfl
mutual
theorem RepO.mono {Z Z' H H' : Hp} (m : Le K Z Z') : ∀ {v : V} {o : O} {F G : Fp}, RepO K Z H v o F → (∀ b, 0 < F b → H' b = H b) → (∀ b, F b ≤ G b) → RepO K Z' H' v o G
  | _, _, _, _, .pu r, _, _ => .pu (r.mono m)
  | _, _, F, _, .li (a := a) h r i, k, g => .li ((k _ (by have := i a; rw [one_self] at this; omega)).trans h) (RepOs.mono m r (fun b q => k b (by have := i b; omega)) fun b => Nat.le_refl _) fun b => Nat.le_trans (i b) (g b)
  | _, _, F, _, .tu (a := a) h r i, k, g => .tu ((k _ (by have := i a; rw [one_self] at this; omega)).trans h) (RepOs.mono m r (fun b q => k b (by have := i b; omega)) fun b => Nat.le_refl _) fun b => Nat.le_trans (i b) (g b)
  | _, _, F, _, .di (a := a) h r i, k, g => .di ((k _ (by have := i a; rw [one_self] at this; omega)).trans h) (RepOk.mono m r (fun b q => k b (by have := i b; omega)) fun b => Nat.le_refl _) fun b => Nat.le_trans (i b) (g b)
  | _, _, F, _, .diT (a := a) h r i, k, g => .diT ((k _ (by have := i a; rw [one_self] at this; omega)).trans h) (RepOt.mono m r (fun b q => k b (by have := i b; omega)) fun b => Nat.le_refl _) fun b => Nat.le_trans (i b) (g b)
  | _, _, F, _, .ob (a := a) c h r i, k, g => .ob c ((k _ (by have := i a; rw [one_self] at this; omega)).trans h) (RepOf.mono m r (fun b q => k b (by have := i b; omega)) fun b => Nat.le_refl _) fun b => Nat.le_trans (i b) (g b)
  | _, _, _, _, .any, _, _ => .any
theorem RepOs.mono {Z Z' H H' : Hp} (m : Le K Z Z') : ∀ {vs : List V} {os : List O} {F G : Fp}, RepOs K Z H vs os F → (∀ b, 0 < F b → H' b = H b) → (∀ b, F b ≤ G b) → RepOs K Z' H' vs os G
  | _, _, _, _, .nil, _, _ => .nil
  | _, _, _, _, .cons h r i, k, g => .cons (RepO.mono m h (fun b q => k b (by have := i b; omega)) fun b => Nat.le_refl _) (RepOs.mono m r (fun b q => k b (by have := i b; omega)) fun b => Nat.le_refl _) fun b => Nat.le_trans (i b) (g b)
theorem RepOk.mono {Z Z' H H' : Hp} (m : Le K Z Z') : ∀ {vs : List (Key × V)} {os : List (D × O)} {F G : Fp}, RepOk K Z H vs os F → (∀ b, 0 < F b → H' b = H b) → (∀ b, F b ≤ G b) → RepOk K Z' H' vs os G
  | _, _, _, _, .nil, _, _ => .nil
  | _, _, _, _, .cons h r i, k, g => .cons (RepO.mono m h (fun b q => k b (by have := i b; omega)) fun b => Nat.le_refl _) (RepOk.mono m r (fun b q => k b (by have := i b; omega)) fun b => Nat.le_refl _) fun b => Nat.le_trans (i b) (g b)
theorem RepOt.mono {Z Z' H H' : Hp} (m : Le K Z Z') : ∀ {vs : List (List Key × V)} {os : List (D × O)} {F G : Fp}, RepOt K Z H vs os F → (∀ b, 0 < F b → H' b = H b) → (∀ b, F b ≤ G b) → RepOt K Z' H' vs os G
  | _, _, _, _, .nil, _, _ => .nil
  | _, _, _, _, .cons h r i, k, g => .cons (RepO.mono m h (fun b q => k b (by have := i b; omega)) fun b => Nat.le_refl _) (RepOt.mono m r (fun b q => k b (by have := i b; omega)) fun b => Nat.le_refl _) fun b => Nat.le_trans (i b) (g b)
theorem RepOf.mono {Z Z' H H' : Hp} (m : Le K Z Z') : ∀ {vs : List (Str × V)} {os : List (Str × O)} {F G : Fp}, RepOf K Z H vs os F → (∀ b, 0 < F b → H' b = H b) → (∀ b, F b ≤ G b) → RepOf K Z' H' vs os G
  | _, _, _, _, .nil, _, _ => .nil
  | _, _, _, _, .cons h r i, k, g => .cons (RepO.mono m h (fun b q => k b (by have := i b; omega)) fun b => Nat.le_refl _) (RepOf.mono m r (fun b q => k b (by have := i b; omega)) fun b => Nat.le_refl _) fun b => Nat.le_trans (i b) (g b)
end
mutual
/-- what is owned, laid down for good: Z' knows it -/
theorem RepO.freeze {Z Z' H : Hp} (m : Le K Z Z') : ∀ {v : V} {o : O} {F : Fp}, RepO K Z H v o F → (∀ b, 0 < F b → Z' b = H b) → Rep K Z' v o.toD
  | _, _, _, .pu r, _ => r.mono m
  | _, _, _, .li (a := a) h r i, k => .lst (SqL.of ((k a (by have := i a; rw [one_self] at this; omega)).trans h)) (RepOs.freeze m r fun b q => k b (by have := i b; omega))
  | _, _, _, .tu (a := a) h r i, k => .tup (SqT.of ((k a (by have := i a; rw [one_self] at this; omega)).trans h)) (RepOs.freeze m r fun b q => k b (by have := i b; omega))
  | _, _, _, .di (a := a) h r i, k => .dct (.inl ((k a (by have := i a; rw [one_self] at this; omega)).trans h)) (RepOk.freeze m r fun b q => k b (by have := i b; omega))
  | _, _, _, .diT (a := a) h r i, k => .dcT (.inl ((k a (by have := i a; rw [one_self] at this; omega)).trans h)) (RepOt.freeze m r fun b q => k b (by have := i b; omega))
  | _, _, _, .ob (a := a) c h r i, k => .ins c ((k a (by have := i a; rw [one_self] at this; omega)).trans h) (RepOf.freeze m r fun b q => k b (by have := i b; omega))
  | _, _, _, .any, _ => .any _
theorem RepOs.freeze {Z Z' H : Hp} (m : Le K Z Z') : ∀ {vs : List V} {os : List O} {F : Fp}, RepOs K Z H vs os F → (∀ b, 0 < F b → Z' b = H b) → Reps K Z' vs (O.toDs os)
  | _, _, _, .nil, _ => .nil
  | _, _, _, .cons h r i, k => .cons (RepO.freeze m h fun b q => k b (by have := i b; omega)) (RepOs.freeze m r fun b q => k b (by have := i b; omega))
theorem RepOk.freeze {Z Z' H : Hp} (m : Le K Z Z') : ∀ {vs : List (Key × V)} {os : List (D × O)} {F : Fp}, RepOk K Z H vs os F → (∀ b, 0 < F b → Z' b = H b) → RepKs K Z' vs (O.toDk os)
  | _, _, _, .nil, _ => .nil
  | _, _, _, .cons h r i, k => .cons (RepO.freeze m h fun b q => k b (by have := i b; omega)) (RepOk.freeze m r fun b q => k b (by have := i b; omega))
theorem RepOt.freeze {Z Z' H : Hp} (m : Le K Z Z') : ∀ {vs : List (List Key × V)} {os : List (D × O)} {F : Fp}, RepOt K Z H vs os F → (∀ b, 0 < F b → Z' b = H b) → RepTs K Z' vs (O.toDk os)
  | _, _, _, .nil, _ => .nil
  | _, _, _, .cons h r i, k => .cons (RepO.freeze m h fun b q => k b (by have := i b; omega)) (RepOt.freeze m r fun b q => k b (by have := i b; omega))
theorem RepOf.freeze {Z Z' H : Hp} (m : Le K Z Z') : ∀ {vs : List (Str × V)} {os : List (Str × O)} {F : Fp}, RepOf K Z H vs os F → (∀ b, 0 < F b → Z' b = H b) → RepFs K Z' vs (O.toDf os)
  | _, _, _, .nil, _ => .nil
  | _, _, _, .cons h r i, k => .cons (RepO.freeze m h fun b q => k b (by have := i b; omega)) (RepOf.freeze m r fun b q => k b (by have := i b; omega))
end
end

/-! ### the stack: slots and what they hold -/
abbrev Env := List (Option O)
inductive RepSl (K : PySem.W.Frag) (Z H : Hp) : St → Env → Fp → Prop
  | nil {F : Fp} : RepSl K Z H [] [] F
  | no {x : Option V} {σ : St} {env : Env} {F : Fp} : RepSl K Z H σ env F → RepSl K Z H (x :: σ) (none :: env) F
  | so {v : V} {o : O} {σ : St} {env : Env} {F1 F2 G : Fp} : RepO K Z H v o F1 → RepSl K Z H σ env F2 → (∀ b, F1 b + F2 b ≤ G b) → RepSl K Z H (some v :: σ) (some o :: env) G
structure Ok (K : PySem.W.Frag) (Z H : Hp) (σ : St) (env : Env) (F : Fp) : Prop where
  sub : Sub Z H
  sl : RepSl K Z H σ env F
  le : ∀ b, F b ≤ 1
  own : ∀ b, 0 < F b → Z b = none
  there : ∀ b, 0 < F b → H b ≠ none
end Ws

namespace Ws
open PySem L2
section
variable {K : PySem.W.Frag} {Z Z' H H' : Hp} {σ σ' τ ρ : St} {env env' T R : Env} {F G : Fp} {v : V} {o : O} {d : D}
theorem RepSl.mono (m : Le K Z Z') : ∀ {σ : St} {env : Env} {F G : Fp}, RepSl K Z H σ env F → (∀ b, 0 < F b → H' b = H b) → (∀ b, F b ≤ G b) → RepSl K Z' H' σ env G
  | _, _, _, _, .nil, _, _ => .nil
  | _, _, _, _, .no r, k, g => .no (RepSl.mono m r k g)
  | _, _, _, _, .so h r i, k, g => .so (h.mono m (fun b q => k b (by have := i b; omega)) fun b => Nat.le_refl _) (RepSl.mono m r (fun b q => k b (by have := i b; omega)) fun b => Nat.le_refl _) fun b => Nat.le_trans (i b) (g b)
theorem RepSl.up (h : RepSl K Z H σ env F) (g : ∀ b, F b ≤ G b) : RepSl K Z H σ env G := h.mono Le.refl (fun _ _ => rfl) g
theorem RepSl.len : ∀ {σ : St} {env : Env} {F : Fp}, RepSl K Z H σ env F → σ.length = env.length
  | _, _, _, .nil => rfl
  | _, _, _, .no r => by simp [r.len]
  | _, _, _, .so _ r _ => by simp [r.len]
theorem RepSl.tail {x : Option V} {y : Option O} (h : RepSl K Z H (x :: σ) (y :: env) F) : RepSl K Z H σ env F := by
  cases h with
  | no r => exact r
  | so _ r i => exact r.up fun b => by have := i b; omega
theorem RepSl.app : ∀ {ρ σ : St} {R env : Env} {F1 F2 G : Fp}, RepSl K Z H ρ R F1 → RepSl K Z H σ env F2 → (∀ b, F1 b + F2 b ≤ G b) → RepSl K Z H (ρ ++ σ) (R ++ env) G
  | _, _, _, _, _, _, _, .nil, s, g => s.up fun b => by have := g b; omega
  | _, _, _, _, _, _, _, .no r, s, g => .no (r.app s g)
  | _, _, _, _, _, F2, _, .so (F1 := A) (F2 := B) h r i, s, g => .so (G := _) h (r.app (G := fun b => B b + F2 b) s fun b => Nat.le_refl _) fun b => by have := i b; have := g b; show A b + (B b + F2 b) ≤ _; omega
theorem RepSl.split : ∀ {ρ σ : St} {R env : Env} {F : Fp}, ρ.length = R.length → RepSl K Z H (ρ ++ σ) (R ++ env) F → ∃ F1 F2, RepSl K Z H ρ R F1 ∧ RepSl K Z H σ env F2 ∧ ∀ b, F1 b + F2 b ≤ F b
  | [], _, [], _, F, _, h => ⟨fun _ => 0, F, .nil, h, fun b => by simp⟩
  | _ :: _, _, [], _, _, e, _ => by simp at e
  | [], _, _ :: _, _, _, e, _ => by simp at e
  | x :: ρ, σ, y :: R, env, F, e, h => by
    cases h with
    | no r =>
      obtain ⟨F1, F2, a, b, c⟩ := RepSl.split (by simpa using e) r
      exact ⟨F1, F2, .no a, b, c⟩
    | @so _ _ _ _ A B _ h r i =>
      obtain ⟨F1, F2, a, b, c⟩ := RepSl.split (by simpa using e) r
      exact ⟨fun b => A b + F1 b, F2, .so h a fun b => Nat.le_refl _, b, fun b => by have := i b; have := c b; show A b + F1 b + F2 b ≤ _; omega⟩
/-- the i-th slot -/
theorem RepSl.get : ∀ {i : Nat} {σ : St} {env : Env} {F : Fp} {o : O}, RepSl K Z H σ env F → env[i]? = some (some o) → ∃ v F1 F2, σ[i]? = some (some v) ∧ RepO K Z H v o F1 ∧ (∀ b, F1 b + F2 b ≤ F b) ∧
    RepSl K Z H σ (env.set i none) F2 ∧ ∀ {Z' H' : Hp} {v' : V} {o' : O} {F1' G : Fp}, Le K Z Z' → (∀ b, 0 < F2 b → H' b = H b) → RepO K Z' H' v' o' F1' → (∀ b, F1' b + F2 b ≤ G b) → RepSl K Z' H' (σ.set i (some v')) (env.set i (some o')) G
  | _, _, _, _, _, .nil, e => by simp at e
  | 0, _, _, _, _, .no r, e => by simp at e
  | i + 1, _, _, F, _, .no r, e => by
    obtain ⟨v, F1, F2, a, b, c, d, f⟩ := RepSl.get (i := i) r (by simpa using e)
    exact ⟨v, F1, F2, by simpa using a, b, c, .no d, fun m k q g => .no (f m k q g)⟩
  | 0, _, _, F, o, .so (F1 := A) (F2 := B) h r i, e => by
    cases Option.some.inj (Option.some.inj e)
    exact ⟨_, A, B, rfl, h, i, .no r, fun m k q g => .so q (r.mono m k fun b => Nat.le_refl _) g⟩
  | i + 1, _, _, F, _, .so (F1 := A) (F2 := B) h r j, e => by
    obtain ⟨v, F1, F2, a, b, c, d, f⟩ := RepSl.get (i := i) r (by simpa using e)
    refine ⟨v, F1, fun b => A b + F2 b, by simpa using a, b, fun b => by have := j b; have := c b; show F1 b + (A b + F2 b) ≤ _; omega, .so h d fun b => Nat.le_refl _, fun {Z' H' v' o' F1' G} m k q g => ?_⟩
    refine .so (F2 := fun b => F1' b + F2 b) (h.mono m (fun b z => k b (by show 0 < A b + F2 b; omega)) fun b => Nat.le_refl _) (f m (fun b z => k b (by show 0 < A b + F2 b; omega)) q fun b => Nat.le_refl _) fun b => ?_
    have := g b
    have : F1' b + (A b + F2 b) ≤ G b := this
    show A b + (F1' b + F2 b) ≤ G b
    omega
/-- a slot that is put anew -/
theorem RepSl.put : ∀ {i : Nat} {σ : St} {env : Env} {F1 F2 G : Fp} {v : V} {o : O}, RepSl K Z H σ env F2 → i < env.length → RepO K Z H v o F1 → (∀ b, F1 b + F2 b ≤ G b) → RepSl K Z H (σ.set i (some v)) (env.set i (some o)) G
  | _, _, _, _, _, _, _, _, .nil, e, _, _ => by simp at e
  | 0, _, _, _, _, _, _, _, .no r, _, q, g => .so q r g
  | 0, _, _, _, _, _, _, _, .so h r i, _, q, g => .so q r fun b => by have := i b; have := g b; omega
  | i + 1, _, _, _, _, _, _, _, .no r, e, q, g => .no (r.put (by simpa using e) q g)
  | i + 1, _, _, F1, F2, G, _, _, .so (F1 := A) (F2 := B) h r j, e, q, g => .so (F2 := fun b => F1 b + B b) h (r.put (by simpa using e) q fun b => Nat.le_refl _) fun b => by have := j b; have := g b; show A b + (F1 b + B b) ≤ _; omega
theorem RepSl.wipe : ∀ {i : Nat} {σ : St} {env : Env} {F : Fp} {x : Option V}, RepSl K Z H σ env F → RepSl K Z H (σ.set i x) (env.set i none) F
  | _, _, _, _, _, .nil => .nil
  | 0, _, _, _, _, .no r => .no r
  | 0, _, _, _, _, .so h r i => .no (r.up fun b => by have := i b; omega)
  | i + 1, _, _, _, _, .no r => .no r.wipe
  | i + 1, _, _, _, _, .so h r j => .so h r.wipe j

/-! ### Ok -/
theorem Ok.pop {x : Option V} {y : Option O} (h : Ok K Z H (x :: σ) (y :: env) F) : Ok K Z H σ env F := ⟨h.sub, h.sl.tail, h.le, h.own, h.there⟩
theorem Ok.dn (h : Ok K Z H σ env F) (s : RepSl K Z H σ' env' G) (g : ∀ b, G b ≤ F b) : Ok K Z H σ' env' G :=
  ⟨h.sub, s, fun b => Nat.le_trans (g b) (h.le b), fun b q => h.own b (Nat.lt_of_lt_of_le q (g b)), fun b q => h.there b (Nat.lt_of_lt_of_le q (g b))⟩
theorem Ok.drop (e : ρ.length = R.length) (h : Ok K Z H (ρ ++ σ) (R ++ env) F) : ∃ G, Ok K Z H σ env G := by
  obtain ⟨F1, F2, a, b, c⟩ := h.sl.split e
  exact ⟨F2, h.dn b fun b => by have := c b; omega⟩
theorem Ok.top {x : Option V} (h : Ok K Z H (x :: σ) (some o :: env) F) : ∃ v F1 F2, x = some v ∧ RepO K Z H v o F1 ∧ Ok K Z H σ env F2 ∧ ∀ b, F1 b + F2 b ≤ F b := by
  cases h.sl with
  | so q r i => exact ⟨_, _, _, rfl, q, h.dn r fun b => by have := i b; omega, i⟩
theorem Ok.push {F1 : Fp} (h : Ok K Z H σ env F) (q : RepO K Z H v o F1) (l : ∀ b, F1 b + F b ≤ 1) (f : ∀ b, 0 < F1 b → Z b = none ∧ H b ≠ none) : Ok K Z H (some v :: σ) (some o :: env) (fun b => F1 b + F b) :=
  ⟨h.sub, .so q h.sl fun b => Nat.le_refl _, l, fun b z => by
    have z : 0 < F1 b + F b := z
    by_cases e : 0 < F1 b
    · exact (f b e).1
    · exact h.own b (by omega), fun b z => by
    have z : 0 < F1 b + F b := z
    by_cases e : 0 < F1 b
    · exact (f b e).2
    · exact h.there b (by omega)⟩
theorem Ok.pure (h : Ok K Z H σ env F) (q : Rep K Z v d) : Ok K Z H (some v :: σ) (some (.pu d) :: env) F :=
  ⟨h.sub, .so (F1 := fun _ => 0) (.pu q) h.sl fun b => by simp, h.le, h.own, h.there⟩
/-- the top kept, what is under it dropped -/
theorem Ok.under {x : Option V} {y : Option O} {ρ : St} {R : Env} (e : ρ.length = R.length) (h : Ok K Z H (x :: (ρ ++ σ)) (y :: (R ++ env)) F) : ∃ G, Ok K Z H (x :: σ) (y :: env) G := by
  cases h.sl with
  | no r =>
    obtain ⟨F1, F2, a, b, c⟩ := r.split e
    exact ⟨F2, h.dn (.no b) fun b => by have := c b; omega⟩
  | @so _ _ _ _ A B _ q r i =>
    obtain ⟨F1, F2, a, b, c⟩ := r.split e
    exact ⟨fun b => A b + F2 b, h.dn (.so q b fun b => Nat.le_refl _) fun b => by have := c b; have := i b; show A b + F2 b ≤ F b; omega⟩
/-- the heap has grown -/
theorem Ok.same (h : Ok K Z H σ env F) (s : Same H H') : Ok K Z H' σ env F := by
  have e : ∀ b, 0 < F b → H' b = H b := fun b q => by
    cases z : H b with
    | none => exact absurd z (h.there b q)
    | some u => exact s b u z
  refine ⟨fun b u q => ?_, h.sl.mono Le.refl e fun b => Nat.le_refl _, h.le, h.own, fun b q => by rw [e b q]; exact h.there b q⟩
  rcases h.sub b u q with z | ⟨w, ob, z⟩
  · exact .inl (s _ _ z)
  · exact .inr ⟨w, ob, s _ _ z⟩
theorem Same.upd {p : Addr} {u : HO} (h : H p = none) : Same H (upd H p u) := fun b o e => by rw [upd_ne (ne_of_none e h)]; exact e
theorem Sub.none (h : Sub Z H) {p : Addr} (e : H p = none) : Z p = none := by
  cases q : Z p with
  | none => rfl
  | some u =>
    rcases h p u q with z | ⟨_, ob, z⟩
    · rw [e] at z; cases z
    · rw [e] at z; cases z
/-- Z has grown by what is not owned -/
theorem Ok.know (h : Ok K Z H σ env F) (s : Same Z Z') (t : Sub Z' H) (f : ∀ b, 0 < F b → Z' b = none) : Ok K Z' H σ env F :=
  ⟨t, h.sl.mono (le_of_same s) (fun _ _ => rfl) fun b => Nat.le_refl _, h.le, f, h.there⟩
/-- what is owned at the top, laid down for good -/
theorem Ok.freeze {x : Option V} (h : Ok K Z H (x :: σ) (some o :: env) F) : ∃ Z' G, Same Z Z' ∧ Ok K Z' H (x :: σ) (some (.pu o.toD) :: env) G := by
  obtain ⟨v, A, B, rfl, q, r, i⟩ := h.top
  let Z' : Hp := fun b => if 0 < A b then H b else Z b
  have s : Same Z Z' := fun b u e => by
    have : ¬ 0 < A b := fun z => by
      have := h.own b (by have := i b; omega)
      rw [this] at e; cases e
    show (if 0 < A b then H b else Z b) = _
    rw [if_neg this]; exact e
  have t : Sub Z' H := fun b u e => by
    by_cases z : 0 < A b
    · exact .inl (by rw [← e]; show _ = (if 0 < A b then H b else Z b); rw [if_pos z])
    · have e' : (if 0 < A b then H b else Z b) = some u := e
      rw [if_neg z] at e'
      exact h.sub b u e'
  refine ⟨Z', B, s, (r.know s t fun b z => ?_).pure (q.freeze (le_of_same s) fun b z => if_pos z)⟩
  have e : ¬ 0 < A b := by have := i b; have := h.le b; omega
  show (if 0 < A b then H b else Z b) = _
  rw [if_neg e]
  exact r.own b z
/-- what it is to be read -/
theorem Ok.rep {F1 : Fp} (h : Ok K Z H σ env F) (q : RepO K Z H v o F1) : Rep K H v o.toD := q.freeze h.sub.le fun _ _ => rfl
/-- a list of values on the stack -/
theorem slots_cons : ∀ {vs : List V} {os : List O} {F1 F2 G : Fp}, RepOs K Z H vs os F1 → RepSl K Z H σ env F2 → (∀ b, F1 b + F2 b ≤ G b) → RepSl K Z H (vs.map some ++ σ) (os.map some ++ env) G
  | _, _, _, _, _, .nil, s, g => s.up fun b => by have := g b; omega
  | _, _, _, F2, _, .cons (F1 := A) (F2 := B) q r i, s, g => .so (F2 := fun b => B b + F2 b) q (slots_cons r s fun b => Nat.le_refl _) fun b => by have := i b; have := g b; show A b + (B b + F2 b) ≤ _; omega
theorem slots_take : ∀ {vs : List (Option V)} {os : List O} {F : Fp}, vs.length = os.length → RepSl K Z H (vs ++ σ) (os.map some ++ env) F → ∃ us F1 F2, vs = us.map some ∧ RepOs K Z H us os F1 ∧ RepSl K Z H σ env F2 ∧ ∀ b, F1 b + F2 b ≤ F b
  | [], [], F, _, h => ⟨[], fun _ => 0, F, rfl, .nil, h, fun b => by simp⟩
  | [], _ :: _, _, e, _ => by simp at e
  | _ :: _, [], _, e, _ => by simp at e
  | x :: vs, o :: os, F, e, h => by
    cases h with
    | @so _ _ _ _ A B _ q r i =>
      obtain ⟨us, F1, F2, e1, a, b, c⟩ := slots_take (by simpa using e) r
      exact ⟨_ :: us, fun b => A b + F1 b, F2, by rw [e1]; rfl, .cons q a fun b => Nat.le_refl _, b, fun b => by have := i b; have := c b; show A b + F1 b + F2 b ≤ _; omega⟩
theorem Ok.args {vs : List V} {os : List O} (e : vs.length = os.length) (h : Ok K Z H (vs.map some ++ σ) (os.map some ++ env) F) : ∃ F1 F2, RepOs K Z H vs os F1 ∧ Ok K Z H σ env F2 ∧ ∀ b, F1 b + F2 b ≤ F b := by
  obtain ⟨us, F1, F2, e1, a, b, c⟩ := slots_take (by simpa using e) h.sl
  have : vs = us := List.map_inj_right (fun _ _ h => Option.some.inj h) |>.mp e1
  subst this
  exact ⟨F1, F2, a, h.dn b fun b => by have := c b; omega, c⟩
/-- the slot under some temporary ones comes to the top -/
theorem Ok.rot {x : Option V} {y : Option O} (e : ρ.length = R.length) (h : Ok K Z H (ρ ++ (x :: σ)) (R ++ (y :: env)) F) : ∃ G, Ok K Z H (x :: (ρ ++ σ)) (y :: (R ++ env)) G := by
  obtain ⟨F1, F2, a, b, c⟩ := h.sl.split e
  cases b with
  | no r => exact ⟨F, h.dn (.no (a.app r c)) fun b => Nat.le_refl _⟩
  | @so _ _ _ _ A B _ q r i => exact ⟨F, h.dn (.so (F2 := fun b => F1 b + B b) q (a.app r fun b => Nat.le_refl _) fun b => by have := i b; have := c b; show A b + (F1 b + B b) ≤ _; omega) fun b => Nat.le_refl _⟩
end

/-! ### what comes out -/
structure Exn where
  cls : Str
  fs : Option (List (Str × D))
inductive Out (α : Type) where
  | ok (a : α) (e : Env)
  | ex (x : Exn) (e : Env)
  | no
abbrev M (α : Type) := Env → Out α
def Out.bind {α β : Type} : Out α → (α → Env → Out β) → Out β
  | .ok a e, f => f a e
  | .ex x e, _ => .ex x e
  | .no, _ => .no
@[simp] theorem bind_ok {α β : Type} (a : α) (e : Env) (f : α → Env → Out β) : (Out.ok a e).bind f = f a e := rfl
@[simp] theorem bind_ex {α β : Type} (a : Exn) (e : Env) (f : α → Env → Out β) : (Out.ex a e).bind f = .ex a e := rfl
@[simp] theorem bind_no {α β : Type} (f : α → Env → Out β) : (Out.no).bind f = .no := rfl
/-- the class c is what the module calls n -/
def ClsE (K : PySem.W.Frag) (n : Str) (c : Value) : Prop := PySem.W.nsIn K mainGlobals n = some (some c) ∨ (PySem.W.nsIn K mainGlobals n = some none ∧ ∃ t : String, c = .type t ∧ n = Str.ofString t)
def ExRep (K : PySem.W.Frag) (Z H : Hp) (x : Exn) : Option Addr → Prop
  | none => x.fs = none
  | some a => ∃ fs ws, x.fs = some fs ∧ H a = some (.xd ws) ∧ RepFs K Z ws fs
section
variable (K : PySem.W.Frag) (E : XK)
def PostX (Z : Hp) (τ : St) (T : Env) (σ : St) (x : Exn) (env : Env) : Prop :=
  ∀ (a : Option Addr) (H' Z' : Hp) (F' : Fp), Same Z Z' → Ok K Z' H' (τ ++ σ) (T ++ env) F' → ExRep K Z' H' x a → ∀ c, ClsE K x.cls c → E c a H'
def PostE (Z : Hp) (τ : St) (T : Env) (σ : St) (Q : VK) : Out O → Prop
  | .ok o env => ∀ (v : V) (H' Z' : Hp) (F' : Fp), Same Z Z' → Ok K Z' H' (some v :: (τ ++ σ)) (some o :: (T ++ env)) F' → Q v H'
  | .ex x env => PostX K E Z τ T σ x env
  | .no => False
def PostA (Z : Hp) (τ : St) (T : Env) (σ : St) (Q : List V → Hp → Prop) : Out (List O) → Prop
  | .ok os env => ∀ (vs : List V) (H' Z' : Hp) (F' : Fp), Same Z Z' → vs.length = os.length → Ok K Z' H' (vs.map some ++ (τ ++ σ)) (os.map some ++ (T ++ env)) F' → Q vs H'
  | .ex x env => PostX K E Z τ T σ x env
  | .no => False
def tE (m : M O) : TE := fun σ H Q => ∃ (Z : Hp) (τ : St) (T env : Env) (F : Fp), Ok K Z H (τ ++ σ) (T ++ env) F ∧ τ.length = T.length ∧ PostE K E Z τ T σ Q (m env)
def tA (m : M (List O)) : TA := fun σ H Q => ∃ (Z : Hp) (τ : St) (T env : Env) (F : Fp), Ok K Z H (τ ++ σ) (T ++ env) F ∧ τ.length = T.length ∧ PostA K E Z τ T σ Q (m env)
end
section
variable {K : PySem.W.Frag} {E : XK} {Z Z' H H' : Hp} {σ σ' τ ρ : St} {env env' T R : Env} {F G : Fp} {Q Q' : VK}
theorem PostX.mono {x : Exn} (s : Same Z Z') (h : PostX K E Z τ T σ x env) : PostX K E Z' τ T σ x env := fun a H1 Z1 F1 s1 => h a H1 Z1 F1 (s.trans s1)
theorem PostX.up {x : Exn} (e : ρ.length = R.length) (h : PostX K E Z τ T σ x env) : PostX K E Z (ρ ++ τ) (R ++ T) σ x env := fun a H1 Z1 F1 s1 ok q => by
  rw [List.append_assoc, List.append_assoc] at ok
  obtain ⟨G, ok'⟩ := ok.drop e
  exact h a H1 Z1 G s1 ok' q
theorem PostE.mono : ∀ {o : Out O}, Same Z Z' → PostE K E Z τ T σ Q o → PostE K E Z' τ T σ Q o
  | .ok o env, s, h => fun v H1 Z1 F1 s1 => h v H1 Z1 F1 (s.trans s1)
  | .ex x env, s, h => PostX.mono s h
  | .no, _, h => h
theorem PostA.mono {Q : List V → Hp → Prop} : ∀ {o : Out (List O)}, Same Z Z' → PostA K E Z τ T σ Q o → PostA K E Z' τ T σ Q o
  | .ok o env, s, h => fun v H1 Z1 F1 s1 => h v H1 Z1 F1 (s.trans s1)
  | .ex x env, s, h => PostX.mono s h
  | .no, _, h => h
/-- THE STEP: what is left of m behind its first part; ρ, R: temporary slots that stand on the stack meanwhile -/
theorem bindE {β : Type} (P : Hp → Out β → Prop) (pm : ∀ {Z Z' o}, Same Z Z' → P Z o → P Z' o) (px : ∀ {x env}, P Z (.ex x env) → PostX K E Z τ T σ x env) (pn : ∀ {Z}, P Z .no → False) (e : ρ.length = R.length) {o : Out O} {g : O → Env → Out β} (h : P Z (o.bind g)) :
    PostE K E Z (ρ ++ τ) (R ++ T) σ (fun u H2 => ∃ (Z2 : Hp) (F2 : Fp) (y : O) (e2 : Env), Same Z Z2 ∧ Ok K Z2 H2 (some u :: (ρ ++ (τ ++ σ))) (some y :: (R ++ (T ++ e2))) F2 ∧ P Z2 (g y e2)) o := by
  cases o with
  | ok y e2 =>
    intro u H2 Z2 F2 s ok
    rw [List.append_assoc, List.append_assoc] at ok
    exact ⟨Z2, F2, y, e2, s, ok, pm s h⟩
  | ex x e2 => exact (px h).up e
  | no => exact pn h
theorem bindA {β : Type} (P : Hp → Out β → Prop) (pm : ∀ {Z Z' o}, Same Z Z' → P Z o → P Z' o) (px : ∀ {x env}, P Z (.ex x env) → PostX K E Z τ T σ x env) (pn : ∀ {Z}, P Z .no → False) (e : ρ.length = R.length) {o : Out (List O)} {g : List O → Env → Out β} (h : P Z (o.bind g)) :
    PostA K E Z (ρ ++ τ) (R ++ T) σ (fun us H2 => ∃ (Z2 : Hp) (F2 : Fp) (ys : List O) (e2 : Env), Same Z Z2 ∧ us.length = ys.length ∧ Ok K Z2 H2 (us.map some ++ (ρ ++ (τ ++ σ))) (ys.map some ++ (R ++ (T ++ e2))) F2 ∧ P Z2 (g ys e2)) o := by
  cases o with
  | ok y e2 =>
    intro u H2 Z2 F2 s l ok
    rw [List.append_assoc, List.append_assoc] at ok
    exact ⟨Z2, F2, y, e2, s, l, ok, pm s h⟩
  | ex x e2 => exact (px h).up e
  | no => exact pn h
abbrev PE' (K : PySem.W.Frag) (E : XK) (τ : St) (T : Env) (σ : St) (Q : VK) : Hp → Out O → Prop := fun Z o => PostE K E Z τ T σ Q o
abbrev PA' (K : PySem.W.Frag) (E : XK) (τ : St) (T : Env) (σ : St) (Q : List V → Hp → Prop) : Hp → Out (List O) → Prop := fun Z o => PostA K E Z τ T σ Q o
theorem stepE (e : ρ.length = R.length) {o : Out O} {g : O → Env → Out O} (h : PostE K E Z τ T σ Q (o.bind g)) :
    PostE K E Z (ρ ++ τ) (R ++ T) σ (fun u H2 => ∃ (Z2 : Hp) (F2 : Fp) (y : O) (e2 : Env), Same Z Z2 ∧ Ok K Z2 H2 (some u :: (ρ ++ (τ ++ σ))) (some y :: (R ++ (T ++ e2))) F2 ∧ PostE K E Z2 τ T σ Q (g y e2)) o :=
  bindE (PE' K E τ T σ Q) (fun s h => PostE.mono s h) (fun h => h) (fun h => h) e h
theorem PostE.imp : ∀ {o : Out O}, PostE K E Z τ T σ Q o → (∀ v H, Q v H → Q' v H) → PostE K E Z τ T σ Q' o
  | .ok o env, h, k => fun v H1 Z1 F1 s1 ok => k _ _ (h v H1 Z1 F1 s1 ok)
  | .ex x env, h, k => h
  | .no, h, _ => h
theorem PostA.imp {Q Q' : List V → Hp → Prop} : ∀ {o : Out (List O)}, PostA K E Z τ T σ Q o → (∀ v H, Q v H → Q' v H) → PostA K E Z τ T σ Q' o
  | .ok o env, h, k => fun v H1 Z1 F1 s1 l ok => k _ _ (h v H1 Z1 F1 s1 l ok)
  | .ex x env, h, k => h
  | .no, h, _ => h
end
section
variable {X : Cx}
theorem _root_.L2.PE.weak {e : Expr} {t t' : TE} (h : PE X e t) (k : ∀ σ H Q, t' σ H Q → t σ H Q) : PE X e t' := ⟨fun pins s σ H Q I q => h.run pins s σ H Q I (k σ H Q q)⟩
theorem _root_.L2.PA.weak {e : List Expr} {t t' : TA} (h : PA X e t) (k : ∀ σ H Q, t' σ H Q → t σ H Q) : PA X e t' := ⟨fun pos pins s σ H Q I q => h.run pos pins s σ H Q I (k σ H Q q)⟩
theorem _root_.L2.PT.weak {e : Expr} {t t' : TT} (h : PT X e t) (k : ∀ σ H Q, t' σ H Q → t σ H Q) : PT X e t' := ⟨fun pins s σ H Q I q => h.run pins s σ H Q I (k σ H Q q)⟩
theorem _root_.L2.PS.weak {e : Stmt} {t t' : TS} (h : PS X e t) (k : ∀ D σ H, t' D σ H → t D σ H) : PS X e t' := ⟨fun pins s σ H Q I q => h.run pins s σ H Q I (k Q σ H q)⟩
theorem _root_.L2.PSs.weak {e : List Stmt} {t t' : TS} (h : PSs X e t) (k : ∀ D σ H, t' D σ H → t D σ H) : PSs X e t' := ⟨fun pins s σ H Q I q => h.run pins s σ H Q I (k Q σ H q)⟩
end
end Ws

namespace Ws
open PySem L2
def lift {α : Type} : Option α → Env → Out α
  | some z, e => .ok z e
  | none, _ => .no
@[simp] theorem lift_some {α : Type} (z : α) (e : Env) : lift (some z) e = .ok z e := rfl
@[simp] theorem lift_none {α : Type} (e : Env) : lift (none : Option α) e = .no := rfl
section
variable {K : PySem.W.Frag} {E : XK} {Z Z' H H' : Hp} {σ σ' τ ρ : St} {env env' T R : Env} {F G : Fp} {Q Q' : VK} {v : V} {o : O} {d : D}
/-! ### constants, names -/
def cst (d : D) : M O := fun env => .ok (.pu d) env
@[simp] theorem cst.c (d : D) {z : Option O} {zs : Env} : cst d (z :: zs) = (.ok (.pu d) (z :: zs)) := rfl
@[simp] theorem cst.n (d : D) : cst d ([] : Env) = (.ok (.pu d) ([] : Env)) := rfl
theorem tE_cst {v : V} {d : D} (r : ∀ Z, Rep K Z v d) {σ : St} {H : Hp} {Q : VK} (h : tE K E (cst d) σ H Q) : tC v σ H Q := by
  obtain ⟨Z, τ, T, env, F, ok, hl, post⟩ := h
  exact post v H Z F (Same.refl Z) (ok.pure (r Z))
theorem set_under (e : τ.length = T.length) (i : Nat) (x : Option O) : (T ++ env).set (τ.length + i) x = T ++ env.set i x := by
  rw [e, List.set_append_right _ _ (by omega)]; simp
theorem set_underS (i : Nat) (x : Option V) : (τ ++ σ).set (τ.length + i) x = τ ++ σ.set i x := by
  rw [List.set_append_right _ _ (by omega)]; simp
/-- the i-th slot of the frame -/
theorem Ok.slot (ok : Ok K Z H (τ ++ σ) (T ++ env) F) (hl : τ.length = T.length) {i : Nat} (e : env[i]? = some (some o)) : ∃ v F1 F2, σ[i]? = some (some v) ∧ RepO K Z H v o F1 ∧ (∀ b, F1 b + F2 b ≤ F b) ∧
    RepSl K Z H (τ ++ σ) (T ++ env.set i none) F2 ∧ ∀ {Z' H' : Hp} {v' : V} {o' : O} {F1' G : Fp}, Le K Z Z' → (∀ b, 0 < F2 b → H' b = H b) → RepO K Z' H' v' o' F1' → (∀ b, F1' b + F2 b ≤ G b) → RepSl K Z' H' (τ ++ σ.set i (some v')) (T ++ env.set i (some o')) G := by
  obtain ⟨v, F1, F2, a, b, c, d, f⟩ := RepSl.get (i := τ.length + i) ok.sl (by rw [hl, List.getElem?_append_right (by omega)]; simpa using e)
  rw [set_under hl] at d
  refine ⟨v, F1, F2, ?_, b, c, d, fun m k q g => ?_⟩
  · rw [List.getElem?_append_right (by omega)] at a
    simpa using a
  · have := f m k q g
    rwa [set_under hl, set_underS] at this
def rd (i : Nat) : M O := fun env => match env[i]? with
  | some (some (.pu d)) => .ok (.pu d) env
  | some (some o) => .ok (.pu o.toD) (env.set i (some (.pu o.toD)))
  | _ => .no
@[simp] theorem rd.c (i : Nat) {z : Option O} {zs : Env} : rd i (z :: zs) = (match (z :: zs)[i]? with
  | some (some (.pu d)) => .ok (.pu d) (z :: zs)
  | some (some o) => .ok (.pu o.toD) ((z :: zs).set i (some (.pu o.toD)))
  | _ => .no) := rfl
@[simp] theorem rd.n (i : Nat) : rd i ([] : Env) = (match ([] : Env)[i]? with
  | some (some (.pu d)) => .ok (.pu d) ([] : Env)
  | some (some o) => .ok (.pu o.toD) (([] : Env).set i (some (.pu o.toD)))
  | _ => .no) := rfl
def mv (i : Nat) : M O := fun env => match env[i]? with
  | some (some o) => .ok o (env.set i none)
  | _ => .no
@[simp] theorem mv.c (i : Nat) {z : Option O} {zs : Env} : mv i (z :: zs) = (match (z :: zs)[i]? with
  | some (some o) => .ok o ((z :: zs).set i none)
  | _ => .no) := rfl
@[simp] theorem mv.n (i : Nat) : mv i ([] : Env) = (match ([] : Env)[i]? with
  | some (some o) => .ok o (([] : Env).set i none)
  | _ => .no) := rfl
theorem set_self {σ : List (Option V)} {i : Nat} {v : V} (h : σ[i]? = some (some v)) : σ.set i (some v) = σ := by
  apply List.ext_getElem?
  intro j
  by_cases e : i = j
  · subst e
    have : i < σ.length := by
      rcases Nat.lt_or_ge i σ.length with h' | h'
      · exact h'
      · rw [List.getElem?_eq_none h'] at h; cases h
    rw [List.getElem?_set_self this, h]
  · rw [List.getElem?_set_ne e]
/-- the i-th slot laid down for good -/
theorem Ok.freezeAt (ok : Ok K Z H (τ ++ σ) (T ++ env) F) (hl : τ.length = T.length) {i : Nat} (e : env[i]? = some (some o)) : ∃ v Z' G, σ[i]? = some (some v) ∧ Same Z Z' ∧ Rep K Z' v o.toD ∧ Ok K Z' H (τ ++ σ) (T ++ env.set i (some (.pu o.toD))) G := by
  obtain ⟨v, A, B, hv, q, i1, r, put⟩ := ok.slot hl e
  let Z' : Hp := fun b => if 0 < A b then H b else Z b
  have s : Same Z Z' := fun b u e => by
    have : ¬ 0 < A b := fun z => by
      have := ok.own b (by have := i1 b; omega)
      rw [this] at e; cases e
    show (if 0 < A b then H b else Z b) = _
    rw [if_neg this]; exact e
  have t : Sub Z' H := fun b u e => by
    by_cases z : 0 < A b
    · exact .inl (by rw [← e]; show _ = (if 0 < A b then H b else Z b); rw [if_pos z])
    · have e' : (if 0 < A b then H b else Z b) = some u := e
      rw [if_neg z] at e'
      exact ok.sub b u e'
  have hq : Rep K Z' v o.toD := q.freeze (le_of_same s) fun b z => if_pos z
  have p := put (v' := v) (o' := .pu o.toD) (F1' := fun _ => 0) (G := B) (le_of_same s) (fun _ _ => rfl) (.pu hq) fun b => by simp
  rw [set_self hv] at p
  refine ⟨v, Z', B, hv, s, hq, t, p, fun b => by have := i1 b; have := ok.le b; omega, fun b z => ?_, fun b z => ok.there b (by have := i1 b; omega)⟩
  have e : ¬ 0 < A b := by have := i1 b; have := ok.le b; omega
  show (if 0 < A b then H b else Z b) = _
  rw [if_neg e]
  exact ok.own b (by have := i1 b; omega)
theorem tE_rd {i : Nat} {σ : St} {H : Hp} {Q : VK} (h : tE K E (rd i) σ H Q) : tVar i σ H Q := by
  obtain ⟨Z, τ, T, env, F, ok, hl, post⟩ := h
  unfold rd at post
  split at post
  · rename_i d e
    obtain ⟨v, A, B, hv, q, i1, r, _⟩ := ok.slot hl e
    cases q with
    | pu q => exact ⟨v, hv, post v H Z F (Same.refl Z) (ok.pure q)⟩
  · rename_i o _ e
    obtain ⟨v, Z', G, hv, s, q, ok'⟩ := ok.freezeAt hl e
    exact ⟨v, hv, post v H Z' G s (ok'.pure q)⟩
  · exact post.elim
theorem tE_mv {i : Nat} {σ : St} {H : Hp} {Q : VK} (h : tE K E (mv i) σ H Q) : tVar i σ H Q := by
  obtain ⟨Z, τ, T, env, F, ok, hl, post⟩ := h
  unfold mv at post
  split at post
  · rename_i o e
    obtain ⟨v, A, B, hv, q, i1, r, _⟩ := ok.slot hl e
    exact ⟨v, hv, post v H Z F (Same.refl Z) (ok.dn (.so q r i1) fun b => Nat.le_refl _)⟩
  · exact post.elim

/-! ### two operands -/
def eBin (f : O → O → Option O) (a b : M O) : M O := fun env => (a env).bind fun x e1 => (b e1).bind fun y e2 => lift (f x y) e2
@[simp] theorem eBin.c (f : O → O → Option O) (a b : M O) {z : Option O} {zs : Env} : eBin f a b (z :: zs) = ((a (z :: zs)).bind fun x e1 => (b e1).bind fun y e2 => lift (f x y) e2) := rfl
@[simp] theorem eBin.n (f : O → O → Option O) (a b : M O) : eBin f a b ([] : Env) = ((a ([] : Env)).bind fun x e1 => (b e1).bind fun y e2 => lift (f x y) e2) := rfl
/-- an operation on values does what f tells -/
def OpV (K : PySem.W.Frag) (f : O → O → Option O) (r : R2) : Prop := ∀ (Z H : Hp) (σ : St) (env : Env) (F : Fp) (v u : V) (x y z : O) (Q : VK), Ok K Z H (some u :: some v :: σ) (some y :: some x :: env) F → f x y = some z →
  (∀ (w : V) (H' Z' : Hp) (F' : Fp), Same Z Z' → Ok K Z' H' (some w :: σ) (some z :: env) F' → Q w H') → r v u H Q
theorem op_imp {f : O → O → Option O} {r : R2} {ma mb : M O} (hv : OpV K f r) {σ : St} {H : Hp} {Q : VK} (h : tE K E (eBin f ma mb) σ H Q) : tOp r (tE K E ma) (tE K E mb) σ H Q := by
  obtain ⟨Z, τ, T, env, F, ok, hl, post⟩ := h
  refine ⟨Z, τ, T, env, F, ok, hl, (stepE (ρ := []) (R := []) rfl post).imp fun v H1 ⟨Z1, F1, x, e1, s1, ok1, post1⟩ => ?_⟩
  refine ⟨Z1, some v :: τ, some x :: T, e1, F1, ok1, by simp [hl], (stepE (ρ := [some v]) (R := [some x]) rfl post1).imp fun u H2 ⟨Z2, F2, y, e2, s2, ok2, post2⟩ => ?_⟩
  cases e : f x y with
  | none => rw [e] at post2; exact post2.elim
  | some z =>
    rw [e] at post2
    exact hv Z2 H2 (τ ++ σ) (T ++ e2) F2 v u x y z Q ok2 e fun w H' Z' F' s o => post2 w H' Z' F' s o
/-- one operand -/
def eUn (f : O → Option O) (a : M O) : M O := fun env => (a env).bind fun x e1 => lift (f x) e1
@[simp] theorem eUn.c (f : O → Option O) (a : M O) {z : Option O} {zs : Env} : eUn f a (z :: zs) = ((a (z :: zs)).bind fun x e1 => lift (f x) e1) := rfl
@[simp] theorem eUn.n (f : O → Option O) (a : M O) : eUn f a ([] : Env) = ((a ([] : Env)).bind fun x e1 => lift (f x) e1) := rfl
def UnV (K : PySem.W.Frag) (f : O → Option O) (r : V → Hp → VK → Prop) : Prop := ∀ (Z H : Hp) (σ : St) (env : Env) (F : Fp) (v : V) (x z : O) (Q : VK), Ok K Z H (some v :: σ) (some x :: env) F → f x = some z →
  (∀ (w : V) (H' Z' : Hp) (F' : Fp), Same Z Z' → Ok K Z' H' (some w :: σ) (some z :: env) F' → Q w H') → r v H Q
theorem un_imp {f : O → Option O} {r : V → Hp → VK → Prop} {ma : M O} (hv : UnV K f r) {σ : St} {H : Hp} {Q : VK} (h : tE K E (eUn f ma) σ H Q) : tUn r (tE K E ma) σ H Q := by
  obtain ⟨Z, τ, T, env, F, ok, hl, post⟩ := h
  refine ⟨Z, τ, T, env, F, ok, hl, (stepE (ρ := []) (R := []) rfl post).imp fun v H1 ⟨Z1, F1, x, e1, s1, ok1, post1⟩ => ?_⟩
  cases e : f x with
  | none => rw [e] at post1; exact post1.elim
  | some z =>
    rw [e] at post1
    exact hv Z1 H1 (τ ++ σ) (T ++ e1) F1 v x z Q ok1 e fun w H' Z' F' s o => post1 w H' Z' F' s o
/-! ### ints -/
theorem Ok.int {i : Int} {x : Option V} (h : Ok K Z H (x :: σ) (some (.pu (.int i)) :: env) F) : x = some (.int i) ∧ Ok K Z H σ env F := by
  obtain ⟨v, A, B, rfl, q, r, _⟩ := h.top
  cases q with
  | pu q => cases q; exact ⟨rfl, h.pop⟩
@[simp] def iOp (c : Int → Int → Bool) (g : Int → Int → D) : O → O → Option O
  | .pu (.int i), .pu (.int j) => if c i j then some (.pu (g i j)) else none
  | _, _ => none
theorem iOp_ok {c : Int → Int → Bool} {g : Int → Int → D} {x y z : O} (h : iOp c g x y = some z) : ∃ i j, x = .pu (.int i) ∧ y = .pu (.int j) ∧ c i j = true ∧ z = .pu (g i j) := by
  unfold iOp at h
  split at h
  · split at h
    · rename_i i j hc
      exact ⟨i, j, rfl, rfl, hc, (Option.some.inj h).symm⟩
    · cases h
  · cases h
theorem opv_I {C : Int → Int → Prop} {c : Int → Int → Bool} {g : Int → Int → D} {gv : Int → Int → V} (hc : ∀ i j, c i j = true → C i j) (hg : ∀ Z i j, Rep K Z (gv i j) (g i j)) : OpV K (iOp c g) (rI C gv) := by
  intro Z H σ env F v u x y z Q ok h k
  obtain ⟨i, j, rfl, rfl, c1, rfl⟩ := iOp_ok h
  obtain ⟨e1, ok1⟩ := ok.int
  obtain ⟨e2, ok2⟩ := ok1.int
  cases e1; cases e2
  exact ⟨i, j, rfl, rfl, hc i j c1, k _ H Z F (Same.refl Z) (ok2.pure (hg Z i j))⟩
theorem opv_I0 {g : Int → Int → D} {gv : Int → Int → V} (hg : ∀ Z i j, Rep K Z (gv i j) (g i j)) : OpV K (iOp (fun _ _ => true) g) (rI0 gv) := by
  intro Z H σ env F v u x y z Q ok h k
  obtain ⟨i, j, rfl, rfl, c1, rfl⟩ := iOp_ok h
  obtain ⟨e1, ok1⟩ := ok.int
  obtain ⟨e2, ok2⟩ := ok1.int
  cases e1; cases e2
  exact ⟨i, j, rfl, rfl, k _ H Z F (Same.refl Z) (ok2.pure (hg Z i j))⟩
end
/-! ### several ways -/
def ror (r1 r2 : R2) : R2 := fun x y H Q => r1 x y H Q ∨ r2 x y H Q
theorem OpR.or {X : Cx} {f : Value → Value → Sem Value} {r1 r2 : R2} (h1 : OpR X f r1) (h2 : OpR X f r2) : OpR X f (ror r1 r2) := by
  intro pins s σ H x y v u Q I rx ry h
  rcases h with h | h
  · exact h1 pins s σ H x y v u Q I rx ry h
  · exact h2 pins s σ H x y v u Q I rx ry h
@[simp] def oor (f1 f2 : O → O → Option O) : O → O → Option O := fun x y => match f1 x y with
  | some z => some z
  | none => f2 x y
theorem OpV.or {K : PySem.W.Frag} {f1 f2 : O → O → Option O} {r1 r2 : R2} (h1 : OpV K f1 r1) (h2 : OpV K f2 r2) : OpV K (oor f1 f2) (ror r1 r2) := by
  intro Z H σ env F v u x y z Q ok h k
  unfold oor at h
  split at h
  · rename_i z' e
    cases h
    exact .inl (h1 Z H σ env F v u x y _ Q ok e k)
  · exact .inr (h2 Z H σ env F v u x y _ Q ok h k)
end Ws

namespace Ws
open PySem L2
/-! ### == of trees -/
mutual
def D.eqv : D → D → Option Bool
  | .non, .non => some true
  | .non, .bl _ => some false
  | .non, .int _ => some false
  | .non, .str _ => some false
  | .non, .lst _ => some false
  | .non, .tup _ => some false
  | .bl _, .non => some false
  | .bl a, .bl b => some (a == b)
  | .bl a, .int b => some ((if a then 1 else 0) == b)
  | .bl _, .str _ => some false
  | .bl _, .lst _ => some false
  | .bl _, .tup _ => some false
  | .int _, .non => some false
  | .int a, .bl b => some (a == (if b then 1 else 0))
  | .int a, .int b => some (a == b)
  | .int _, .str _ => some false
  | .int _, .lst _ => some false
  | .int _, .tup _ => some false
  | .str _, .non => some false
  | .str _, .bl _ => some false
  | .str _, .int _ => some false
  | .str a, .str b => some (a == b)
  | .str _, .lst _ => some false
  | .str _, .tup _ => some false
  | .lst _, .non => some false
  | .lst _, .bl _ => some false
  | .lst _, .int _ => some false
  | .lst _, .str _ => some false
  | .lst _, .tup _ => some false
  | .lst xs, .lst ys => if xs.length = ys.length then D.eqvs xs ys else some false
  | .tup _, .non => some false
  | .tup _, .bl _ => some false
  | .tup _, .int _ => some false
  | .tup _, .str _ => some false
  | .tup _, .lst _ => some false
  | .tup xs, .tup ys => (D.eqvs xs ys).map fun r => r && xs.length == ys.length
  | _, _ => none
/-- all pairs, as far as both go -/
def D.eqvs : List D → List D → Option Bool
  | x :: xs, y :: ys => match D.eqv x y, D.eqvs xs ys with
    | some a, some b => some (a && b)
    | _, _ => none
  | _, _ => some true
end
mutual
def D.depth : D → Nat
  | .lst xs => 1 + D.depths xs
  | .tup xs => 1 + D.depths xs
  | _ => 0
def D.depths : List D → Nat
  | [] => 0
  | x :: xs => max x.depth (D.depths xs)
end
theorem eqvs_cons {x y : D} {xs ys : List D} {r : Bool} (h : D.eqvs (x :: xs) (y :: ys) = some r) : ∃ a b, D.eqv x y = some a ∧ D.eqvs xs ys = some b ∧ r = (a && b) := by
  rw [D.eqvs] at h
  cases e1 : D.eqv x y with
  | none => rw [e1] at h; cases h
  | some a =>
    cases e2 : D.eqvs xs ys with
    | none => rw [e1, e2] at h; cases h
    | some b => rw [e1, e2] at h; exact ⟨a, b, rfl, rfl, (Option.some.inj h).symm⟩
/-- the answers by place -/
def pairs : List D → List D → Nat → Bool
  | x :: _, y :: _, 0 => (D.eqv x y).getD true
  | _ :: xs, _ :: ys, i + 1 => pairs xs ys i
  | _, _, _ => true
theorem all_pairs : ∀ {xs ys : List D} {r : Bool} (n : Nat), D.eqvs xs ys = some r → min xs.length ys.length ≤ n → ((List.range n).all (pairs xs ys)) = r
  | [], ys, r, n, h, _ => by
    rw [D.eqvs] at h
    cases h
    · exact List.all_eq_true.mpr fun i _ => by simp [pairs]
    · intro _ _ _ _ z; simp at z
  | x :: xs, [], r, n, h, _ => by
    rw [D.eqvs] at h
    cases h
    · exact List.all_eq_true.mpr fun i _ => by simp [pairs]
    · intro _ _ _ _ _ z; simp at z
  | x :: xs, y :: ys, r, 0, h, z => by simp at z
  | x :: xs, y :: ys, r, n + 1, h, z => by
    obtain ⟨a, b, e1, e2, rfl⟩ := eqvs_cons h
    have ih := all_pairs (xs := xs) (ys := ys) n e2 (by simp at z; omega)
    rw [List.range_succ_eq_map, List.all_cons, List.all_map, ← ih]
    congr 1
    show (D.eqv x y).getD true = a
    rw [e1]; rfl
theorem Reps.length : ∀ {K : PySem.W.Frag} {H : Hp} {vs : List V} {ds : List D}, Reps K H vs ds → vs.length = ds.length
  | _, _, _, _, .nil => rfl
  | _, _, _, _, .cons _ r => by simp [Reps.length r]
section
variable {K : PySem.W.Frag} {H : Hp}
/-- one object, two trees of it: equal -/
theorem Rd.inj_l {a : Addr} {xs ys : List V} (P : Program) (w : World) {h : Heap} (ok : HOk P w H h) (p : Rd H a (.lst xs)) (q : Rd H a (.lst ys)) : xs = ys := by
  rcases p with p | ⟨o, p⟩ <;> rcases q with q | ⟨o', q⟩
  · rw [p] at q; injection q with q; injection q
  · rw [p] at q; injection q with q; cases q
  · rw [p] at q; injection q with q; cases q
  · rw [p] at q; injection q with q; injection q with _ q; injection q
end
section
variable {X : Cx} {pins : List (Addr × Obj)} {σ : St} {H : Hp} {s : Shared}
theorem apart {a : Addr} {xs ys : List V} (I : Inv X pins σ H s) (h : SqL X.K H a xs) (h' : SqT X.K H a ys) : False := by
  obtain ⟨_, _, ⟨o, _, e1, c1, _⟩, _⟩ := I.list h
  obtain ⟨_, _, ⟨o', e2, c2, _⟩, _⟩ := I.tuple h'
  rw [e1] at e2; cases e2
  rw [c1] at c2
  have e : "list" = "tuple" := by injection c2
  exact absurd e (by decide)
mutual
theorem Rep.same_eqv (I : Inv X pins σ H s) : ∀ {d e : D} {v : V} {r : Bool}, Rep X.K H v d → Rep X.K H v e → D.eqv d e = some r → r = true
  | _, _, _, _, .non, q, h => by
    cases q with
    | non => cases h; rfl
    | any => simp [D.eqv] at h
  | _, _, _, _, .bl b, q, h => by
    cases q with
    | bl => simp [D.eqv] at h; exact h
    | any => simp [D.eqv] at h
  | _, _, _, _, .int b, q, h => by
    cases q with
    | int => simp [D.eqv] at h; exact h
    | any => simp [D.eqv] at h
  | _, _, _, _, .str b, q, h => by
    cases q with
    | str => simp [D.eqv] at h; exact h
    | any => simp [D.eqv] at h
  | _, _, _, _, .ty b, q, h => by cases q <;> simp [D.eqv] at h
  | _, _, _, _, .ref b, q, h => by cases q <;> simp [D.eqv] at h
  | _, _, _, _, .dct _ _, q, h => by cases q <;> simp [D.eqv] at h
  | _, _, _, _, .ins _ _ _, q, h => by cases q <;> simp [D.eqv] at h
  | _, _, _, _, .dcT _ _, q, h => by cases q <;> simp [D.eqv] at h
  | _, _, _, _, .any _, q, h => by cases q <;> simp [D.eqv] at h
  | _, _, _, _, .lst a b, q, h => by
    cases q with
    | lst c d =>
      have e := I.list_inj a c
      subst e
      rw [D.eqv] at h
      split at h
      · exact Reps.same_eqv I b d h
      · rename_i z
        exact absurd (b.length.symm.trans d.length) z
    | _ => simp [D.eqv] at h <;> exact (apart I a (by assumption)).elim
  | _, _, _, _, .tup a b, q, h => by
    cases q with
    | tup c d =>
      have e := I.tuple_inj a c
      subst e
      rw [D.eqv] at h
      cases e : D.eqvs _ _ with
      | none => rw [e] at h; cases h
      | some r' =>
        rw [e] at h
        have := Reps.same_eqv I b d e
        have l := b.length.symm.trans d.length
        cases h
        rw [this, l]
        simp
    | _ => simp [D.eqv] at h <;> exact (apart I (by assumption) a).elim
theorem Reps.same_eqv (I : Inv X pins σ H s) : ∀ {ds es : List D} {vs : List V} {r : Bool}, Reps X.K H vs ds → Reps X.K H vs es → D.eqvs ds es = some r → r = true
  | _, _, _, _, .nil, .nil, h => by rw [D.eqvs] at h; exact (Option.some.inj h).symm; intro _ _ _ _ z; cases z
  | _, _, _, _, .cons a b, .cons c d, h => by
    obtain ⟨x, y, e1, e2, rfl⟩ := eqvs_cons h
    rw [Rep.same_eqv I a c e1, Reps.same_eqv I b d e2]
    rfl
end

theorem map_some {α β : Type} {f : α → β} {x : Option α} {y : β} (h : x.map f = some y) : ∃ a, x = some a ∧ f a = y := by
  cases x with
  | none => cases h
  | some a => exact ⟨a, rfl, Option.some.inj h⟩
theorem room1 {A : Around} {n : Nat} (hu : A.units + (1 + n) < cLine) : A.in1.units + n < cLine := by
  show A.units + 1 + n < cLine
  omega
mutual
theorem Rep.eqAt (I : Inv X pins σ H s) : ∀ (d e : D) (A : Around) (v u : V) (w z : Value) (r : Bool), A.units + d.depth < cLine → Rep X.K H v d → Rep X.K H u e → RelV v w → RelV u z → D.eqv d e = some r → SeqAt.EqAt A s w z r
  | .non, e, A, v, u, w, z, r, hu, p, q, rv, ru, h => by
    cases p
    cases (show w = Value.none from rv)
    cases q with
    | non => cases (show z = Value.none from ru); cases h; exact SeqAt.EqAt.same _
    | bl b => cases (show z = Value.bool b from ru); cases h; exact SeqAt.EqAt.none_bool  b
    | int b => obtain ⟨t, rfl⟩ := (show ∃ t, z = Value.int b t from ru); cases h; exact SeqAt.EqAt.none_int  b t
    | str b => obtain ⟨t, rfl⟩ := (show ∃ t, z = Value.str b t from ru); cases h; exact SeqAt.EqAt.none_str  b t
    | lst c d => cases (show z = Value.ref _ from ru); cases h; obtain ⟨_, _, p2, _⟩ := I.list c; exact SeqAt.EqAt.none_list  p2.isList (by omega)
    | tup c d => cases (show z = Value.ref _ from ru); cases h; obtain ⟨_, _, p2, _⟩ := I.tuple c; exact SeqAt.EqAt.none_tuple  p2 (by omega)
    | _ => simp [D.eqv] at h
  | .bl a, e, A, v, u, w, z, r, hu, p, q, rv, ru, h => by
    cases p
    cases (show w = Value.bool a from rv)
    cases q with
    | non => cases (show z = Value.none from ru); cases h; exact SeqAt.EqAt.bool_none a 
    | bl b => cases (show z = Value.bool b from ru); cases h; exact SeqAt.EqAt.bool_bool a b
    | int b => obtain ⟨t, rfl⟩ := (show ∃ t, z = Value.int b t from ru); cases h; exact SeqAt.EqAt.bool_int a b t
    | str b => obtain ⟨t, rfl⟩ := (show ∃ t, z = Value.str b t from ru); cases h; exact SeqAt.EqAt.bool_str a b t
    | lst c d => cases (show z = Value.ref _ from ru); cases h; obtain ⟨_, _, p2, _⟩ := I.list c; exact SeqAt.EqAt.bool_list a p2.isList (by omega)
    | tup c d => cases (show z = Value.ref _ from ru); cases h; obtain ⟨_, _, p2, _⟩ := I.tuple c; exact SeqAt.EqAt.bool_tuple a p2 (by omega)
    | _ => simp [D.eqv] at h
  | .int a, e, A, v, u, w, z, r, hu, p, q, rv, ru, h => by
    cases p
    obtain ⟨t', rfl⟩ := (show ∃ t, w = Value.int a t from rv)
    cases q with
    | non => cases (show z = Value.none from ru); cases h; exact SeqAt.EqAt.int_none a t' 
    | bl b => cases (show z = Value.bool b from ru); cases h; exact SeqAt.EqAt.int_bool a t' b
    | int b => obtain ⟨t, rfl⟩ := (show ∃ t, z = Value.int b t from ru); cases h; exact SeqAt.EqAt.int_int a t' b t
    | str b => obtain ⟨t, rfl⟩ := (show ∃ t, z = Value.str b t from ru); cases h; exact SeqAt.EqAt.int_str a t' b t
    | lst c d => cases (show z = Value.ref _ from ru); cases h; obtain ⟨_, _, p2, _⟩ := I.list c; exact SeqAt.EqAt.int_list a t' p2.isList (by omega)
    | tup c d => cases (show z = Value.ref _ from ru); cases h; obtain ⟨_, _, p2, _⟩ := I.tuple c; exact SeqAt.EqAt.int_tuple a t' p2 (by omega)
    | _ => simp [D.eqv] at h
  | .str a, e, A, v, u, w, z, r, hu, p, q, rv, ru, h => by
    cases p
    obtain ⟨t', rfl⟩ := (show ∃ t, w = Value.str a t from rv)
    cases q with
    | non => cases (show z = Value.none from ru); cases h; exact SeqAt.EqAt.str_none a t' 
    | bl b => cases (show z = Value.bool b from ru); cases h; exact SeqAt.EqAt.str_bool a t' b
    | int b => obtain ⟨t, rfl⟩ := (show ∃ t, z = Value.int b t from ru); cases h; exact SeqAt.EqAt.str_int a t' b t
    | str b => obtain ⟨t, rfl⟩ := (show ∃ t, z = Value.str b t from ru); cases h; exact SeqAt.EqAt.str_str a t' b t
    | lst c d => cases (show z = Value.ref _ from ru); cases h; obtain ⟨_, _, p2, _⟩ := I.list c; exact SeqAt.EqAt.str_list a t' p2.isList (by omega)
    | tup c d => cases (show z = Value.ref _ from ru); cases h; obtain ⟨_, _, p2, _⟩ := I.tuple c; exact SeqAt.EqAt.str_tuple a t' p2 (by omega)
    | _ => simp [D.eqv] at h
  | .lst xs, e, A, v, u, w, z, r, hu, p, q, rv, ru, h => by
    have p0 := p
    cases p with
    | @lst a vs _ ha hb =>
    cases (show w = Value.ref a from rv)
    rw [D.depth] at hu
    obtain ⟨its, r1, pl, _⟩ := I.list ha
    cases q with
    | non => cases (show z = Value.none from ru); cases h; exact SeqAt.EqAt.list_none  pl.isList (by omega)
    | bl b => cases (show z = Value.bool b from ru); cases h; exact SeqAt.EqAt.list_bool b pl.isList (by omega)
    | int b => obtain ⟨t, rfl⟩ := (show ∃ t, z = Value.int b t from ru); cases h; exact SeqAt.EqAt.list_int b t pl.isList (by omega)
    | str b => obtain ⟨t, rfl⟩ := (show ∃ t, z = Value.str b t from ru); cases h; exact SeqAt.EqAt.list_str b t pl.isList (by omega)
    | tup c d => cases (show z = Value.ref _ from ru); cases h; obtain ⟨_, _, p2, _⟩ := I.tuple c; exact SeqAt.EqAt.list_tuple pl.isList p2 (by omega)
    | @lst a' us ys c d =>
    cases (show z = Value.ref a' from ru)
    obtain ⟨its2, r2, p2, _⟩ := I.list c
    by_cases hab : a = a'
    · subst hab
      rw [Rep.same_eqv I p0 (.lst c d) h]
      exact .same _
    refine .of_refs hab ?_
    rw [D.eqv] at h
    split at h
    · rename_i hl
      have hsz : its.toArray.size = its2.toArray.size := by
        rw [List.size_toArray, List.size_toArray, ← r1.length, ← r2.length, hb.length, d.length, hl]
      have n1 : its.toArray.size = xs.length := by rw [List.size_toArray, ← r1.length, hb.length]
      rw [← all_pairs (xs := xs) (ys := ys) (r := r) its.toArray.size h (by rw [n1]; omega)]
      refine SeqAt.RcAt.lists pl.isList p2.isList hsz (by omega) fun j j1 j2 => ?_
      simpa using Reps.eqAt I xs _ A.in1 _ _ _ _ r (room1 hu) hb d r1 r2 h j (by simpa using j1) (by simpa using j2)
    · rename_i hl
      cases h
      refine SeqAt.RcAt.lists_lengths pl.isList p2.isList ?_ (by omega)
      rw [List.size_toArray, List.size_toArray, ← r1.length, ← r2.length, hb.length, d.length]
      simpa using hl
    | _ => simp [D.eqv] at h
  | .tup xs, e, A, v, u, w, z, r, hu, p, q, rv, ru, h => by
    have p0 := p
    cases p with
    | @tup a vs _ ha hb =>
    cases (show w = Value.ref a from rv)
    rw [D.depth] at hu
    obtain ⟨its, r1, pl, _⟩ := I.tuple ha
    cases q with
    | non => cases (show z = Value.none from ru); cases h; exact SeqAt.EqAt.tuple_none  pl (by omega)
    | bl b => cases (show z = Value.bool b from ru); cases h; exact SeqAt.EqAt.tuple_bool b pl (by omega)
    | int b => obtain ⟨t, rfl⟩ := (show ∃ t, z = Value.int b t from ru); cases h; exact SeqAt.EqAt.tuple_int b t pl (by omega)
    | str b => obtain ⟨t, rfl⟩ := (show ∃ t, z = Value.str b t from ru); cases h; exact SeqAt.EqAt.tuple_str b t pl (by omega)
    | lst c d => cases (show z = Value.ref _ from ru); cases h; obtain ⟨_, _, p2, _⟩ := I.list c; exact SeqAt.EqAt.tuple_list pl p2.isList (by omega)
    | @tup a' us ys c d =>
    cases (show z = Value.ref a' from ru)
    obtain ⟨its2, r2, p2, _⟩ := I.tuple c
    by_cases hab : a = a'
    · subst hab
      rw [Rep.same_eqv I p0 (.tup c d) h]
      exact .same _
    refine .of_refs hab ?_
    rw [D.eqv] at h
    obtain ⟨r', e, h⟩ := map_some h
    cases h
    have n1 : its.toArray.size = xs.length := by rw [List.size_toArray, ← r1.length, hb.length]
    have n2 : its2.toArray.size = ys.length := by rw [List.size_toArray, ← r2.length, d.length]
    show SeqAt.RcAt A s (Value.ref a) (Value.ref a') (r' && xs.length == ys.length)
    rw [← all_pairs (xs := xs) (ys := ys) (r := r') (min its.toArray.size its2.toArray.size) e (by rw [n1, n2]; exact Nat.le_refl _), ← n1, ← n2]
    refine SeqAt.RcAt.tuples pl p2 (by omega) fun j j1 j2 => ?_
    simpa using Reps.eqAt I xs _ A.in1 _ _ _ _ r' (room1 hu) hb d r1 r2 e j (by simpa using j1) (by simpa using j2)
    | _ => simp [D.eqv] at h
  | .ty _, e, A, v, u, w, z, r, hu, p, q, rv, ru, h => by simp [D.eqv] at h
  | .ref _, e, A, v, u, w, z, r, hu, p, q, rv, ru, h => by simp [D.eqv] at h
  | .dct _, e, A, v, u, w, z, r, hu, p, q, rv, ru, h => by simp [D.eqv] at h
  | .ins _ _, e, A, v, u, w, z, r, hu, p, q, rv, ru, h => by simp [D.eqv] at h
  | .dcT _, e, A, v, u, w, z, r, hu, p, q, rv, ru, h => by simp [D.eqv] at h
  | .any, e, A, v, u, w, z, r, hu, p, q, rv, ru, h => by simp [D.eqv] at h
theorem Reps.eqAt (I : Inv X pins σ H s) : ∀ (ds es : List D) (A : Around) (vs us : List V) (ws zs : List Value) (r : Bool), A.units + D.depths ds < cLine → Reps X.K H vs ds → Reps X.K H us es → Vals vs ws → Vals us zs → D.eqvs ds es = some r →
    ∀ j (h1 : j < ws.length) (h2 : j < zs.length), SeqAt.EqAt A s ws[j] zs[j] (pairs ds es j)
  | [], _, _, _, _, _, _, _, _, p, _, rv, _, _, j, h1, _ => by cases p; cases rv; exact absurd h1 (Nat.not_lt_zero _)
  | _ :: _, [], _, _, _, _, _, _, _, _, q, _, ru, _, j, _, h2 => by cases q; cases ru; exact absurd h2 (Nat.not_lt_zero _)
  | d :: ds, e :: es, A, _, _, _, _, r, hu, .cons p ps, .cons q qs, .cons a rv, .cons b ru, h, j, h1, h2 => by
    obtain ⟨x, y, e1, e2, rfl⟩ := eqvs_cons h
    rw [D.depths] at hu
    cases j with
    | zero =>
      show SeqAt.EqAt A s _ _ ((D.eqv d e).getD true)
      rw [e1]
      exact Rep.eqAt I d e A _ _ _ _ x (by omega) p q a b e1
    | succ j => exact Reps.eqAt I ds es A _ _ _ _ y (by omega) ps qs rv ru e2 j (by simpa using h1) (by simpa using h2)
end
theorem Rep.rcAt (I : Inv X pins σ H s) : ∀ (d e : D) (A : Around) (v u : V) (w z : Value) (r : Bool), A.units + d.depth < cLine → Rep X.K H v d → Rep X.K H u e → RelV v w → RelV u z → D.eqv d e = some r → SeqAt.RcAt A s w z r
  | .non, e, A, v, u, w, z, r, hu, p, q, rv, ru, h => by
    cases p
    cases (show w = Value.none from rv)
    cases q with
    | non => cases (show z = Value.none from ru); cases h; exact SeqAt.RcAt.none_none
    | bl b => cases (show z = Value.bool b from ru); cases h; exact SeqAt.RcAt.none_bool  b
    | int b => obtain ⟨t, rfl⟩ := (show ∃ t, z = Value.int b t from ru); cases h; exact SeqAt.RcAt.none_int  b t
    | str b => obtain ⟨t, rfl⟩ := (show ∃ t, z = Value.str b t from ru); cases h; exact SeqAt.RcAt.none_str  b t
    | lst c d => cases (show z = Value.ref _ from ru); cases h; obtain ⟨_, _, p2, _⟩ := I.list c; exact SeqAt.RcAt.none_list  p2.isList (by omega)
    | tup c d => cases (show z = Value.ref _ from ru); cases h; obtain ⟨_, _, p2, _⟩ := I.tuple c; exact SeqAt.RcAt.none_tuple  p2 (by omega)
    | _ => simp [D.eqv] at h
  | .bl a, e, A, v, u, w, z, r, hu, p, q, rv, ru, h => by
    cases p
    cases (show w = Value.bool a from rv)
    cases q with
    | non => cases (show z = Value.none from ru); cases h; exact SeqAt.RcAt.bool_none a 
    | bl b => cases (show z = Value.bool b from ru); cases h; exact SeqAt.RcAt.bool_bool a b
    | int b => obtain ⟨t, rfl⟩ := (show ∃ t, z = Value.int b t from ru); cases h; exact SeqAt.RcAt.bool_int a b t
    | str b => obtain ⟨t, rfl⟩ := (show ∃ t, z = Value.str b t from ru); cases h; exact SeqAt.RcAt.bool_str a b t
    | lst c d => cases (show z = Value.ref _ from ru); cases h; obtain ⟨_, _, p2, _⟩ := I.list c; exact SeqAt.RcAt.bool_list a p2.isList (by omega)
    | tup c d => cases (show z = Value.ref _ from ru); cases h; obtain ⟨_, _, p2, _⟩ := I.tuple c; exact SeqAt.RcAt.bool_tuple a p2 (by omega)
    | _ => simp [D.eqv] at h
  | .int a, e, A, v, u, w, z, r, hu, p, q, rv, ru, h => by
    cases p
    obtain ⟨t', rfl⟩ := (show ∃ t, w = Value.int a t from rv)
    cases q with
    | non => cases (show z = Value.none from ru); cases h; exact SeqAt.RcAt.int_none a t' 
    | bl b => cases (show z = Value.bool b from ru); cases h; exact SeqAt.RcAt.int_bool a t' b
    | int b => obtain ⟨t, rfl⟩ := (show ∃ t, z = Value.int b t from ru); cases h; exact SeqAt.RcAt.int_int a t' b t
    | str b => obtain ⟨t, rfl⟩ := (show ∃ t, z = Value.str b t from ru); cases h; exact SeqAt.RcAt.int_str a t' b t
    | lst c d => cases (show z = Value.ref _ from ru); cases h; obtain ⟨_, _, p2, _⟩ := I.list c; exact SeqAt.RcAt.int_list a t' p2.isList (by omega)
    | tup c d => cases (show z = Value.ref _ from ru); cases h; obtain ⟨_, _, p2, _⟩ := I.tuple c; exact SeqAt.RcAt.int_tuple a t' p2 (by omega)
    | _ => simp [D.eqv] at h
  | .str a, e, A, v, u, w, z, r, hu, p, q, rv, ru, h => by
    cases p
    obtain ⟨t', rfl⟩ := (show ∃ t, w = Value.str a t from rv)
    cases q with
    | non => cases (show z = Value.none from ru); cases h; exact SeqAt.RcAt.str_none a t' 
    | bl b => cases (show z = Value.bool b from ru); cases h; exact SeqAt.RcAt.str_bool a t' b
    | int b => obtain ⟨t, rfl⟩ := (show ∃ t, z = Value.int b t from ru); cases h; exact SeqAt.RcAt.str_int a t' b t
    | str b => obtain ⟨t, rfl⟩ := (show ∃ t, z = Value.str b t from ru); cases h; exact SeqAt.RcAt.str_str a t' b t
    | lst c d => cases (show z = Value.ref _ from ru); cases h; obtain ⟨_, _, p2, _⟩ := I.list c; exact SeqAt.RcAt.str_list a t' p2.isList (by omega)
    | tup c d => cases (show z = Value.ref _ from ru); cases h; obtain ⟨_, _, p2, _⟩ := I.tuple c; exact SeqAt.RcAt.str_tuple a t' p2 (by omega)
    | _ => simp [D.eqv] at h
  | .lst xs, e, A, v, u, w, z, r, hu, p, q, rv, ru, h => by
    have p0 := p
    cases p with
    | @lst a vs _ ha hb =>
    cases (show w = Value.ref a from rv)
    rw [D.depth] at hu
    obtain ⟨its, r1, pl, _⟩ := I.list ha
    cases q with
    | non => cases (show z = Value.none from ru); cases h; exact SeqAt.RcAt.list_none  pl.isList (by omega)
    | bl b => cases (show z = Value.bool b from ru); cases h; exact SeqAt.RcAt.list_bool b pl.isList (by omega)
    | int b => obtain ⟨t, rfl⟩ := (show ∃ t, z = Value.int b t from ru); cases h; exact SeqAt.RcAt.list_int b t pl.isList (by omega)
    | str b => obtain ⟨t, rfl⟩ := (show ∃ t, z = Value.str b t from ru); cases h; exact SeqAt.RcAt.list_str b t pl.isList (by omega)
    | tup c d => cases (show z = Value.ref _ from ru); cases h; obtain ⟨_, _, p2, _⟩ := I.tuple c; exact SeqAt.RcAt.list_tuple pl.isList p2 (by omega)
    | @lst a' us ys c d =>
    cases (show z = Value.ref a' from ru)
    obtain ⟨its2, r2, p2, _⟩ := I.list c
    rw [D.eqv] at h
    split at h
    · rename_i hl
      have hsz : its.toArray.size = its2.toArray.size := by
        rw [List.size_toArray, List.size_toArray, ← r1.length, ← r2.length, hb.length, d.length, hl]
      have n1 : its.toArray.size = xs.length := by rw [List.size_toArray, ← r1.length, hb.length]
      rw [← all_pairs (xs := xs) (ys := ys) (r := r) its.toArray.size h (by rw [n1]; omega)]
      refine SeqAt.RcAt.lists pl.isList p2.isList hsz (by omega) fun j j1 j2 => ?_
      simpa using Reps.eqAt I xs _ A.in1 _ _ _ _ r (room1 hu) hb d r1 r2 h j (by simpa using j1) (by simpa using j2)
    · rename_i hl
      cases h
      refine SeqAt.RcAt.lists_lengths pl.isList p2.isList ?_ (by omega)
      rw [List.size_toArray, List.size_toArray, ← r1.length, ← r2.length, hb.length, d.length]
      simpa using hl
    | _ => simp [D.eqv] at h
  | .tup xs, e, A, v, u, w, z, r, hu, p, q, rv, ru, h => by
    have p0 := p
    cases p with
    | @tup a vs _ ha hb =>
    cases (show w = Value.ref a from rv)
    rw [D.depth] at hu
    obtain ⟨its, r1, pl, _⟩ := I.tuple ha
    cases q with
    | non => cases (show z = Value.none from ru); cases h; exact SeqAt.RcAt.tuple_none  pl (by omega)
    | bl b => cases (show z = Value.bool b from ru); cases h; exact SeqAt.RcAt.tuple_bool b pl (by omega)
    | int b => obtain ⟨t, rfl⟩ := (show ∃ t, z = Value.int b t from ru); cases h; exact SeqAt.RcAt.tuple_int b t pl (by omega)
    | str b => obtain ⟨t, rfl⟩ := (show ∃ t, z = Value.str b t from ru); cases h; exact SeqAt.RcAt.tuple_str b t pl (by omega)
    | lst c d => cases (show z = Value.ref _ from ru); cases h; obtain ⟨_, _, p2, _⟩ := I.list c; exact SeqAt.RcAt.tuple_list pl p2.isList (by omega)
    | @tup a' us ys c d =>
    cases (show z = Value.ref a' from ru)
    obtain ⟨its2, r2, p2, _⟩ := I.tuple c
    rw [D.eqv] at h
    obtain ⟨r', e, h⟩ := map_some h
    cases h
    have n1 : its.toArray.size = xs.length := by rw [List.size_toArray, ← r1.length, hb.length]
    have n2 : its2.toArray.size = ys.length := by rw [List.size_toArray, ← r2.length, d.length]
    show SeqAt.RcAt A s (Value.ref a) (Value.ref a') (r' && xs.length == ys.length)
    rw [← all_pairs (xs := xs) (ys := ys) (r := r') (min its.toArray.size its2.toArray.size) e (by rw [n1, n2]; exact Nat.le_refl _), ← n1, ← n2]
    refine SeqAt.RcAt.tuples pl p2 (by omega) fun j j1 j2 => ?_
    simpa using Reps.eqAt I xs _ A.in1 _ _ _ _ r' (room1 hu) hb d r1 r2 e j (by simpa using j1) (by simpa using j2)
    | _ => simp [D.eqv] at h
  | .ty _, e, A, v, u, w, z, r, hu, p, q, rv, ru, h => by simp [D.eqv] at h
  | .ref _, e, A, v, u, w, z, r, hu, p, q, rv, ru, h => by simp [D.eqv] at h
  | .dct _, e, A, v, u, w, z, r, hu, p, q, rv, ru, h => by simp [D.eqv] at h
  | .ins _ _, e, A, v, u, w, z, r, hu, p, q, rv, ru, h => by simp [D.eqv] at h
  | .dcT _, e, A, v, u, w, z, r, hu, p, q, rv, ru, h => by simp [D.eqv] at h
  | .any, e, A, v, u, w, z, r, hu, p, q, rv, ru, h => by simp [D.eqv] at h
theorem Rep.rcNeAt (I : Inv X pins σ H s) : ∀ (d e : D) (A : Around) (v u : V) (w z : Value) (r : Bool), A.units + d.depth < cLine → Rep X.K H v d → Rep X.K H u e → RelV v w → RelV u z → D.eqv d e = some r → SeqAt.RcNeAt A s w z (!r)
  | .non, e, A, v, u, w, z, r, hu, p, q, rv, ru, h => by
    cases p
    cases (show w = Value.none from rv)
    cases q with
    | non => cases (show z = Value.none from ru); cases h; exact SeqAt.RcNeAt.none_none
    | bl b => cases (show z = Value.bool b from ru); cases h; exact SeqAt.RcNeAt.none_bool  b
    | int b => obtain ⟨t, rfl⟩ := (show ∃ t, z = Value.int b t from ru); cases h; exact SeqAt.RcNeAt.none_int  b t
    | str b => obtain ⟨t, rfl⟩ := (show ∃ t, z = Value.str b t from ru); cases h; exact SeqAt.RcNeAt.none_str  b t
    | lst c d => cases (show z = Value.ref _ from ru); cases h; obtain ⟨_, _, p2, _⟩ := I.list c; exact SeqAt.RcNeAt.none_list  p2.isList (by omega)
    | tup c d => cases (show z = Value.ref _ from ru); cases h; obtain ⟨_, _, p2, _⟩ := I.tuple c; exact SeqAt.RcNeAt.none_tuple  p2 (by omega)
    | _ => simp [D.eqv] at h
  | .bl a, e, A, v, u, w, z, r, hu, p, q, rv, ru, h => by
    cases p
    cases (show w = Value.bool a from rv)
    cases q with
    | non => cases (show z = Value.none from ru); cases h; exact SeqAt.RcNeAt.bool_none a 
    | bl b => cases (show z = Value.bool b from ru); cases h; exact SeqAt.RcNeAt.bool_bool a b
    | int b => obtain ⟨t, rfl⟩ := (show ∃ t, z = Value.int b t from ru); cases h; exact SeqAt.RcNeAt.bool_int a b t
    | str b => obtain ⟨t, rfl⟩ := (show ∃ t, z = Value.str b t from ru); cases h; exact SeqAt.RcNeAt.bool_str a b t
    | lst c d => cases (show z = Value.ref _ from ru); cases h; obtain ⟨_, _, p2, _⟩ := I.list c; exact SeqAt.RcNeAt.bool_list a p2.isList (by omega)
    | tup c d => cases (show z = Value.ref _ from ru); cases h; obtain ⟨_, _, p2, _⟩ := I.tuple c; exact SeqAt.RcNeAt.bool_tuple a p2 (by omega)
    | _ => simp [D.eqv] at h
  | .int a, e, A, v, u, w, z, r, hu, p, q, rv, ru, h => by
    cases p
    obtain ⟨t', rfl⟩ := (show ∃ t, w = Value.int a t from rv)
    cases q with
    | non => cases (show z = Value.none from ru); cases h; exact SeqAt.RcNeAt.int_none a t' 
    | bl b => cases (show z = Value.bool b from ru); cases h; exact SeqAt.RcNeAt.int_bool a t' b
    | int b => obtain ⟨t, rfl⟩ := (show ∃ t, z = Value.int b t from ru); cases h; exact SeqAt.RcNeAt.int_int a t' b t
    | str b => obtain ⟨t, rfl⟩ := (show ∃ t, z = Value.str b t from ru); cases h; exact SeqAt.RcNeAt.int_str a t' b t
    | lst c d => cases (show z = Value.ref _ from ru); cases h; obtain ⟨_, _, p2, _⟩ := I.list c; exact SeqAt.RcNeAt.int_list a t' p2.isList (by omega)
    | tup c d => cases (show z = Value.ref _ from ru); cases h; obtain ⟨_, _, p2, _⟩ := I.tuple c; exact SeqAt.RcNeAt.int_tuple a t' p2 (by omega)
    | _ => simp [D.eqv] at h
  | .str a, e, A, v, u, w, z, r, hu, p, q, rv, ru, h => by
    cases p
    obtain ⟨t', rfl⟩ := (show ∃ t, w = Value.str a t from rv)
    cases q with
    | non => cases (show z = Value.none from ru); cases h; exact SeqAt.RcNeAt.str_none a t' 
    | bl b => cases (show z = Value.bool b from ru); cases h; exact SeqAt.RcNeAt.str_bool a t' b
    | int b => obtain ⟨t, rfl⟩ := (show ∃ t, z = Value.int b t from ru); cases h; exact SeqAt.RcNeAt.str_int a t' b t
    | str b => obtain ⟨t, rfl⟩ := (show ∃ t, z = Value.str b t from ru); cases h; exact SeqAt.RcNeAt.str_str a t' b t
    | lst c d => cases (show z = Value.ref _ from ru); cases h; obtain ⟨_, _, p2, _⟩ := I.list c; exact SeqAt.RcNeAt.str_list a t' p2.isList (by omega)
    | tup c d => cases (show z = Value.ref _ from ru); cases h; obtain ⟨_, _, p2, _⟩ := I.tuple c; exact SeqAt.RcNeAt.str_tuple a t' p2 (by omega)
    | _ => simp [D.eqv] at h
  | .lst xs, e, A, v, u, w, z, r, hu, p, q, rv, ru, h => by
    have p0 := p
    cases p with
    | @lst a vs _ ha hb =>
    cases (show w = Value.ref a from rv)
    rw [D.depth] at hu
    obtain ⟨its, r1, pl, _⟩ := I.list ha
    cases q with
    | non => cases (show z = Value.none from ru); cases h; exact SeqAt.RcNeAt.list_none  pl.isList (by omega)
    | bl b => cases (show z = Value.bool b from ru); cases h; exact SeqAt.RcNeAt.list_bool b pl.isList (by omega)
    | int b => obtain ⟨t, rfl⟩ := (show ∃ t, z = Value.int b t from ru); cases h; exact SeqAt.RcNeAt.list_int b t pl.isList (by omega)
    | str b => obtain ⟨t, rfl⟩ := (show ∃ t, z = Value.str b t from ru); cases h; exact SeqAt.RcNeAt.list_str b t pl.isList (by omega)
    | tup c d => cases (show z = Value.ref _ from ru); cases h; obtain ⟨_, _, p2, _⟩ := I.tuple c; exact SeqAt.RcNeAt.list_tuple pl.isList p2 (by omega)
    | @lst a' us ys c d =>
    cases (show z = Value.ref a' from ru)
    obtain ⟨its2, r2, p2, _⟩ := I.list c
    rw [D.eqv] at h
    split at h
    · rename_i hl
      have hsz : its.toArray.size = its2.toArray.size := by
        rw [List.size_toArray, List.size_toArray, ← r1.length, ← r2.length, hb.length, d.length, hl]
      have n1 : its.toArray.size = xs.length := by rw [List.size_toArray, ← r1.length, hb.length]
      rw [← all_pairs (xs := xs) (ys := ys) (r := r) its.toArray.size h (by rw [n1]; omega)]
      refine SeqAt.RcNeAt.lists pl.isList p2.isList hsz (by omega) fun j j1 j2 => ?_
      simpa using Reps.eqAt I xs _ A.in1 _ _ _ _ r (room1 hu) hb d r1 r2 h j (by simpa using j1) (by simpa using j2)
    · rename_i hl
      cases h
      refine SeqAt.RcNeAt.lists_lengths pl.isList p2.isList ?_ (by omega)
      rw [List.size_toArray, List.size_toArray, ← r1.length, ← r2.length, hb.length, d.length]
      simpa using hl
    | _ => simp [D.eqv] at h
  | .tup xs, e, A, v, u, w, z, r, hu, p, q, rv, ru, h => by
    have p0 := p
    cases p with
    | @tup a vs _ ha hb =>
    cases (show w = Value.ref a from rv)
    rw [D.depth] at hu
    obtain ⟨its, r1, pl, _⟩ := I.tuple ha
    cases q with
    | non => cases (show z = Value.none from ru); cases h; exact SeqAt.RcNeAt.tuple_none  pl (by omega)
    | bl b => cases (show z = Value.bool b from ru); cases h; exact SeqAt.RcNeAt.tuple_bool b pl (by omega)
    | int b => obtain ⟨t, rfl⟩ := (show ∃ t, z = Value.int b t from ru); cases h; exact SeqAt.RcNeAt.tuple_int b t pl (by omega)
    | str b => obtain ⟨t, rfl⟩ := (show ∃ t, z = Value.str b t from ru); cases h; exact SeqAt.RcNeAt.tuple_str b t pl (by omega)
    | lst c d => cases (show z = Value.ref _ from ru); cases h; obtain ⟨_, _, p2, _⟩ := I.list c; exact SeqAt.RcNeAt.tuple_list pl p2.isList (by omega)
    | @tup a' us ys c d =>
    cases (show z = Value.ref a' from ru)
    obtain ⟨its2, r2, p2, _⟩ := I.tuple c
    rw [D.eqv] at h
    obtain ⟨r', e, h⟩ := map_some h
    cases h
    have n1 : its.toArray.size = xs.length := by rw [List.size_toArray, ← r1.length, hb.length]
    have n2 : its2.toArray.size = ys.length := by rw [List.size_toArray, ← r2.length, d.length]
    show SeqAt.RcNeAt A s (Value.ref a) (Value.ref a') (!(r' && xs.length == ys.length))
    rw [← all_pairs (xs := xs) (ys := ys) (r := r') (min its.toArray.size its2.toArray.size) e (by rw [n1, n2]; exact Nat.le_refl _), ← n1, ← n2]
    refine SeqAt.RcNeAt.tuples pl p2 (by omega) fun j j1 j2 => ?_
    simpa using Reps.eqAt I xs _ A.in1 _ _ _ _ r' (room1 hu) hb d r1 r2 e j (by simpa using j1) (by simpa using j2)
    | _ => simp [D.eqv] at h
  | .ty _, e, A, v, u, w, z, r, hu, p, q, rv, ru, h => by simp [D.eqv] at h
  | .ref _, e, A, v, u, w, z, r, hu, p, q, rv, ru, h => by simp [D.eqv] at h
  | .dct _, e, A, v, u, w, z, r, hu, p, q, rv, ru, h => by simp [D.eqv] at h
  | .ins _ _, e, A, v, u, w, z, r, hu, p, q, rv, ru, h => by simp [D.eqv] at h
  | .dcT _, e, A, v, u, w, z, r, hu, p, q, rv, ru, h => by simp [D.eqv] at h
  | .any, e, A, v, u, w, z, r, hu, p, q, rv, ru, h => by simp [D.eqv] at h
end
/-! ### == and != -/
section
variable {X : Cx}
def rEqW (K : PySem.W.Frag) (neg : Bool) : R2 := fun x y H Q => ∃ d e r, Rep K H x d ∧ Rep K H y e ∧ D.eqv d e = some r ∧ d.depth ≤ 60 ∧ Q (.bl (if neg then !r else r)) H
theorem op_eqW (hu : X.A.units + 64 < cLine) : OpR X (compareOp .Eq) (rEqW X.K false) := by
  intro pins s σ H x y v u Q I rx ry h
  obtain ⟨d, e, r, hd, he, eq, dp, q⟩ := h
  exact Rep.rcAt I d e X.A x y v u r (by omega) hd he rx ry eq X.prog X.w _ _ ⟨.bl r, H, I, rfl, q⟩
theorem op_neW (hu : X.A.units + 64 < cLine) : OpR X (compareOp .NotEq) (rEqW X.K true) := by
  intro pins s σ H x y v u Q I rx ry h
  obtain ⟨d, e, r, hd, he, eq, dp, q⟩ := h
  exact Rep.rcNeAt I d e X.A x y v u r (by omega) hd he rx ry eq X.prog X.w _ _ ⟨.bl (!r), H, I, rfl, q⟩
end
@[simp] def eqO (neg : Bool) : O → O → Option O := fun x y => match D.eqv x.toD y.toD with
  | some r => if x.toD.depth ≤ 60 then some (.pu (.bl (if neg then !r else r))) else none
  | none => none
theorem opv_eq {K : PySem.W.Frag} {neg : Bool} : OpV K (eqO neg) (rEqW K neg) := by
  intro Z H σ env F v u x y z Q ok h k
  unfold eqO at h
  split at h
  · split at h
    · rename_i r e dp
      cases h
      obtain ⟨_, A, B, e1, q1, ok1, i1⟩ := ok.top
      obtain ⟨_, A', B', e2, q2, ok2, i2⟩ := ok1.top
      cases e1; cases e2
      exact ⟨x.toD, y.toD, r, ok.rep q2, ok.rep q1, e, dp, k _ H Z _ (Same.refl Z) (ok2.pure (.bl _))⟩
    · cases h
  · cases h
end Ws

namespace Ws
open PySem L2
section
variable {K : PySem.W.Frag} {E : XK} {Z Z' H H' : Hp} {σ σ' τ ρ : St} {env env' T R : Env} {F G : Fp} {Q Q' : VK} {v : V} {o : O} {d : D}
/-! ### items -/
@[simp] def O.lis : O → Option (List O)
  | .li xs => some xs
  | .pu (.lst ds) => some (ds.map .pu)
  | _ => none
@[simp] def O.tups : O → Option (List O)
  | .tu xs => some xs
  | .pu (.tup ds) => some (ds.map .pu)
  | _ => none
theorem Reps.os : ∀ {vs : List V} {ds : List D} {F : Fp}, Reps K Z vs ds → RepOs K Z H vs (ds.map .pu) F
  | _, _, _, .nil => .nil
  | _, _, F, .cons q r => .cons (F1 := fun _ => 0) (F2 := F) (.pu q) (Reps.os r) fun b => by simp
theorem RepOs.up {vs : List V} {os : List O} (h : RepOs K Z H vs os F) (g : ∀ b, F b ≤ G b) : RepOs K Z H vs os G := h.mono Le.refl (fun _ _ => rfl) g
theorem RepO.up (h : RepO K Z H v o F) (g : ∀ b, F b ≤ G b) : RepO K Z H v o G := h.mono Le.refl (fun _ _ => rfl) g
theorem RepOs.len : ∀ {vs : List V} {os : List O} {F : Fp}, RepOs K Z H vs os F → vs.length = os.length
  | _, _, _, .nil => rfl
  | _, _, _, .cons _ r _ => by simp [RepOs.len r]
theorem lis_ok {os : List O} (h : Sub Z H) (q : RepO K Z H v o F) (e : o.lis = some os) : ∃ a vs, v = .ref a ∧ SqL K H a vs ∧ RepOs K Z H vs os F := by
  cases q with
  | li h1 r i => cases e; exact ⟨_, _, rfl, SqL.of h1, r.up fun b => by have := i b; omega⟩
  | @pu _ d _ r =>
    cases d with
    | lst ds => cases e; cases r with
      | lst h1 r => exact ⟨_, _, rfl, h.le (K := K) |>.l _ _ h1, r.os⟩
    | _ => cases e
  | _ => cases e
theorem tups_ok {os : List O} (h : Sub Z H) (q : RepO K Z H v o F) (e : o.tups = some os) : ∃ a vs, v = .ref a ∧ SqT K H a vs ∧ RepOs K Z H vs os F := by
  cases q with
  | tu h1 r i => cases e; exact ⟨_, _, rfl, SqT.of h1, r.up fun b => by have := i b; omega⟩
  | @pu _ d _ r =>
    cases d with
    | tup ds => cases e; cases r with
      | tup h1 r => exact ⟨_, _, rfl, h.le (K := K) |>.t _ _ h1, r.os⟩
    | _ => cases e
  | _ => cases e
/-- all plain -/
@[simp] def allP : List O → Option (List D)
  | [] => some []
  | .pu d :: xs => (allP xs).map (d :: ·)
  | _ :: _ => none
theorem allP_ok : ∀ {os : List O} {ds : List D} {vs : List V} {F : Fp}, RepOs K Z H vs os F → allP os = some ds → Reps K Z vs ds
  | _, _, _, _, .nil, e => by cases e; exact .nil
  | _, _, _, _, .cons (o := o) q r _, e => by
    cases o with
    | pu d =>
      obtain ⟨ds', e1, rfl⟩ := map_some e
      cases q with
      | pu q => exact .cons q (allP_ok r e1)
    | _ => cases e
@[simp] theorem allP_map (ds : List D) : allP (ds.map .pu) = some ds := by
  induction ds with
  | nil => rfl
  | cons d ds ih => show (allP (ds.map .pu)).map _ = _; rw [ih]; rfl
@[simp] def mkT (xs : List O) : O := match allP xs with
  | some ds => .pu (.tup ds)
  | none => .tu xs
/-! ### new objects -/
theorem Ok.newL {vs : List V} {os : List O} {F1 F2 : Fp} {p : Addr} (ok : Ok K Z H σ' env' F) (s : RepSl K Z H σ env F2) (q : RepOs K Z H vs os F1) (i : ∀ b, F1 b + F2 b ≤ F b) (hp : H p = none) :
    Ok K Z (upd H p (.lst vs)) (some (.ref p) :: σ) (some (.li os) :: env) (fun b => one p b + F b) := by
  have np : F p = 0 := by
    rcases Nat.eq_zero_or_pos (F p) with z | z
    · exact z
    · exact absurd hp (ok.there p z)
  have e : ∀ b, 0 < F b → upd H p (.lst vs) b = H b := fun b z => upd_ne (fun w => by rw [w, np] at z; exact absurd z (Nat.lt_irrefl 0))
  have kp := ok.same (Same.upd (u := .lst vs) hp)
  refine ⟨kp.sub, .so (F2 := F2) (.li upd_same (q.mono Le.refl (fun b z => e b (by have := i b; omega)) fun b => Nat.le_refl _) fun b => Nat.le_refl _) (s.mono Le.refl (fun b z => e b (by have := i b; omega)) fun b => Nat.le_refl _) fun b => by have := i b; show one p b + F1 b + F2 b ≤ _; omega, fun b => ?_, fun b z => ?_, fun b z => ?_⟩
  · show one p b + F b ≤ 1
    unfold one
    by_cases w : b = p
    · rw [if_pos w, w, np]
      exact Nat.le_refl _
    · rw [if_neg w]; have := ok.le b; omega
  · by_cases w : b = p
    · rw [w]; exact ok.sub.none hp
    · have z : 0 < one p b + F b := z
      unfold one at z
      rw [if_neg w] at z
      exact ok.own b (by omega)
  · by_cases w : b = p
    · rw [w, upd_same]; simp
    · have z : 0 < one p b + F b := z
      unfold one at z
      rw [if_neg w] at z
      exact kp.there b (by omega)
theorem Ok.newT {vs : List V} {os : List O} {F1 F2 : Fp} {p : Addr} (ok : Ok K Z H σ' env' F) (s : RepSl K Z H σ env F2) (q : RepOs K Z H vs os F1) (i : ∀ b, F1 b + F2 b ≤ F b) (hp : H p = none) :
    ∃ Z' G, Same Z Z' ∧ Ok K Z' (upd H p (.tup vs)) (some (.ref p) :: σ) (some (mkT os) :: env) G := by
  have np : F p = 0 := by
    rcases Nat.eq_zero_or_pos (F p) with z | z
    · exact z
    · exact absurd hp (ok.there p z)
  have e : ∀ b, 0 < F b → upd H p (.tup vs) b = H b := fun b z => upd_ne (fun w => by rw [w, np] at z; exact absurd z (Nat.lt_irrefl 0))
  have kp := ok.same (Same.upd (u := .tup vs) hp)
  unfold mkT
  split
  · rename_i ds ed
    have zp := ok.sub.none hp
    have s1 : Same Z (upd Z p (.tup vs)) := Same.upd zp
    have r := allP_ok q ed
    refine ⟨upd Z p (.tup vs), F2, s1, Ok.pure ⟨fun b u w => ?_, s.mono (le_of_same s1) (fun b z => e b (by have := i b; omega)) fun b => Nat.le_refl _, fun b => by have := i b; have := ok.le b; omega, fun b z => ?_, fun b z => kp.there b (by have := i b; omega)⟩ (.tup (SqT.of upd_same) (r.mono (le_of_same s1)))⟩
    · by_cases x : b = p
      · rw [x, upd_same] at w ⊢; exact .inl w
      · rw [upd_ne x] at w; exact kp.sub b u w
    · have : b ≠ p := fun w => by rw [w] at z; have := i p; omega
      rw [upd_ne this]
      exact ok.own b (by have := i b; omega)
  · refine ⟨Z, fun b => one p b + F b, Same.refl Z, kp.sub, .so (F2 := F2) (.tu upd_same (q.mono Le.refl (fun b z => e b (by have := i b; omega)) fun b => Nat.le_refl _) fun b => Nat.le_refl _) (s.mono Le.refl (fun b z => e b (by have := i b; omega)) fun b => Nat.le_refl _) fun b => by have := i b; show one p b + F1 b + F2 b ≤ _; omega, fun b => ?_, fun b z => ?_, fun b z => ?_⟩
    · show one p b + F b ≤ 1
      unfold one
      by_cases w : b = p
      · rw [if_pos w, w, np]
        exact Nat.le_refl _
      · rw [if_neg w]; have := ok.le b; omega
    · by_cases w : b = p
      · rw [w]; exact ok.sub.none hp
      · have z : 0 < one p b + F b := z
        unfold one at z
        rw [if_neg w] at z
        exact ok.own b (by omega)
    · by_cases w : b = p
      · rw [w, upd_same]; simp
      · have z : 0 < one p b + F b := z
        unfold one at z
        rw [if_neg w] at z
        exact kp.there b (by omega)

/-! ### tests -/
variable (K E) in
def PostT (Z : Hp) (τ : St) (T : Env) (σ : St) (Q : Bool → Hp → Prop) : Out Bool → Prop
  | .ok b env => ∀ (H' Z' : Hp) (F' : Fp), Same Z Z' → Ok K Z' H' (τ ++ σ) (T ++ env) F' → Q b H'
  | .ex x env => PostX K E Z τ T σ x env
  | .no => False
variable (K E) in
def tT (m : M Bool) : TT := fun σ H Q => ∃ (Z : Hp) (τ : St) (T env : Env) (F : Fp), Ok K Z H (τ ++ σ) (T ++ env) F ∧ τ.length = T.length ∧ PostT K E Z τ T σ Q (m env)
theorem PostT.mono {Q : Bool → Hp → Prop} : ∀ {o : Out Bool}, Same Z Z' → PostT K E Z τ T σ Q o → PostT K E Z' τ T σ Q o
  | .ok o env, s, h => fun H1 Z1 F1 s1 => h H1 Z1 F1 (s.trans s1)
  | .ex x env, s, h => PostX.mono s h
  | .no, _, h => h
theorem PostT.imp {Q Q' : Bool → Hp → Prop} : ∀ {o : Out Bool}, PostT K E Z τ T σ Q o → (∀ v H, Q v H → Q' v H) → PostT K E Z τ T σ Q' o
  | .ok o env, h, k => fun H1 Z1 F1 s1 ok => k _ _ (h H1 Z1 F1 s1 ok)
  | .ex x env, h, k => h
  | .no, h, _ => h
theorem stepET {Q : Bool → Hp → Prop} (e : ρ.length = R.length) {o : Out O} {g : O → Env → Out Bool} (h : PostT K E Z τ T σ Q (o.bind g)) :
    PostE K E Z (ρ ++ τ) (R ++ T) σ (fun u H2 => ∃ (Z2 : Hp) (F2 : Fp) (y : O) (e2 : Env), Same Z Z2 ∧ Ok K Z2 H2 (some u :: (ρ ++ (τ ++ σ))) (some y :: (R ++ (T ++ e2))) F2 ∧ PostT K E Z2 τ T σ Q (g y e2)) o :=
  bindE (fun Z o => PostT K E Z τ T σ Q o) (fun s h => PostT.mono s h) (fun h => h) (fun h => h) e h
/-- behind a test -/
theorem bindT {β : Type} (P : Hp → Out β → Prop) (pm : ∀ {Z Z' o}, Same Z Z' → P Z o → P Z' o) (px : ∀ {x env}, P Z (.ex x env) → PostX K E Z τ T σ x env) (pn : ∀ {Z}, P Z .no → False) {o : Out Bool} {g : Bool → Env → Out β} (h : P Z (o.bind g)) :
    PostT K E Z τ T σ (fun b H2 => ∃ (Z2 : Hp) (F2 : Fp) (e2 : Env), Same Z Z2 ∧ Ok K Z2 H2 (τ ++ σ) (T ++ e2) F2 ∧ P Z2 (g b e2)) o := by
  cases o with
  | ok y e2 =>
    intro H2 Z2 F2 s ok
    exact ⟨Z2, F2, e2, s, ok, pm s h⟩
  | ex x e2 => exact px h
  | no => exact pn h
/-- a comparison's answer as a test -/
def eTst (m : M O) : M Bool := fun env => (m env).bind fun x e => match x with
  | .pu (.bl b) => .ok b e
  | _ => .no
@[simp] theorem eTst.c (m : M O) {z : Option O} {zs : Env} : eTst m (z :: zs) = ((m (z :: zs)).bind fun x e => match x with
  | .pu (.bl b) => .ok b e
  | _ => .no) := rfl
@[simp] theorem eTst.n (m : M O) : eTst m ([] : Env) = ((m ([] : Env)).bind fun x e => match x with
  | .pu (.bl b) => .ok b e
  | _ => .no) := rfl
theorem tst_imp {m : M O} {t : TE} (hi : ∀ σ H Q, tE K E m σ H Q → t σ H Q) {σ : St} {H : Hp} {Q : Bool → Hp → Prop} (h : tT K E (eTst m) σ H Q) : tTest t σ H Q := by
  obtain ⟨Z, τ, T, env, F, ok, hl, post⟩ := h
  refine hi σ H _ ⟨Z, τ, T, env, F, ok, hl, (stepET (ρ := []) (R := []) rfl post).imp fun v H1 ⟨Z1, F1, x, e1, s1, ok1, post1⟩ => ?_⟩
  obtain ⟨v', A, B, e2, q, ok2, _⟩ := ok1.top
  cases e2
  cases q with
  | @pu _ d _ q =>
    cases d with
    | bl b => cases q; exact ⟨b, rfl, post1 H1 Z1 _ (Same.refl Z1) ok2⟩
    | _ => exact post1.elim
  | _ => exact post1.elim
/-- truth -/
@[simp] def D.tru : D → Option Bool
  | .non => some false
  | .bl b => some b
  | .int i => some (i != 0)
  | .str x => if x.length ≤ 100000 then some ((x.length : Int) != 0) else none
  | .lst xs => some (!xs.isEmpty)
  | .tup xs => some (!xs.isEmpty)
  | _ => none
def eTru (m : M O) : M Bool := fun env => (m env).bind fun x e => lift x.toD.tru e
@[simp] theorem eTru.c (m : M O) {z : Option O} {zs : Env} : eTru m (z :: zs) = ((m (z :: zs)).bind fun x e => lift x.toD.tru e) := rfl
@[simp] theorem eTru.n (m : M O) : eTru m ([] : Env) = ((m ([] : Env)).bind fun x e => lift x.toD.tru e) := rfl
theorem line_le {n : Nat} (h : n ≤ 100000) : n ≤ sizeLine := Nat.le_trans h (by decide)
theorem Reps.isEmpty {vs : List V} {ds : List D} (h : Reps K H vs ds) : vs.isEmpty = ds.isEmpty := by cases h <;> rfl
theorem tru_rep {k : Bool} (h : Rep K H v d) (e : d.tru = some k) : TruV K v H k := by
  cases h with
  | non => cases e; rfl
  | bl b => cases e; rfl
  | int i => cases e; rfl
  | str x =>
    rw [D.tru] at e
    split at e
    · cases e; exact ⟨line_le (by assumption), rfl⟩
    · cases e
  | lst a r => cases e; exact .inl ⟨_, a, by rw [r.isEmpty]⟩
  | tup a r => cases e; exact .inr (.inl ⟨_, a, by rw [r.isEmpty]⟩)
  | _ => cases e
theorem tru_imp {m : M O} {t : TE} (hi : ∀ σ H Q, tE K E m σ H Q → t σ H Q) {σ : St} {H : Hp} {Q : Bool → Hp → Prop} (h : tT K E (eTru m) σ H Q) : t σ H fun x H' => ∃ k, TruV K x H' k ∧ Q k H' := by
  obtain ⟨Z, τ, T, env, F, ok, hl, post⟩ := h
  refine hi σ H _ ⟨Z, τ, T, env, F, ok, hl, (stepET (ρ := []) (R := []) rfl post).imp fun v H1 ⟨Z1, F1, x, e1, s1, ok1, post1⟩ => ?_⟩
  obtain ⟨v', A, B, e2, q, ok2, _⟩ := ok1.top
  cases e2
  cases e : x.toD.tru with
  | none => rw [e] at post1; exact post1.elim
  | some k =>
    rw [e] at post1
    exact ⟨k, tru_rep (ok1.rep q) e, post1 H1 Z1 _ (Same.refl Z1) ok2⟩
def eNot (m : M Bool) : M Bool := fun env => (m env).bind fun b e => .ok (!b) e
@[simp] theorem eNot.c (m : M Bool) {z : Option O} {zs : Env} : eNot m (z :: zs) = ((m (z :: zs)).bind fun b e => .ok (!b) e) := rfl
@[simp] theorem eNot.n (m : M Bool) : eNot m ([] : Env) = ((m ([] : Env)).bind fun b e => .ok (!b) e) := rfl
def eAnd (a b : M Bool) : M Bool := fun env => (a env).bind fun x e => if x = true then b e else .ok false e
@[simp] theorem eAnd.c (a b : M Bool) {z : Option O} {zs : Env} : eAnd a b (z :: zs) = ((a (z :: zs)).bind fun x e => if x = true then b e else .ok false e) := rfl
@[simp] theorem eAnd.n (a b : M Bool) : eAnd a b ([] : Env) = ((a ([] : Env)).bind fun x e => if x = true then b e else .ok false e) := rfl
def eOr (a b : M Bool) : M Bool := fun env => (a env).bind fun x e => if x = true then .ok true e else b e
@[simp] theorem eOr.c (a b : M Bool) {z : Option O} {zs : Env} : eOr a b (z :: zs) = ((a (z :: zs)).bind fun x e => if x = true then .ok true e else b e) := rfl
@[simp] theorem eOr.n (a b : M Bool) : eOr a b ([] : Env) = ((a ([] : Env)).bind fun x e => if x = true then .ok true e else b e) := rfl
theorem not_imp {m : M Bool} {σ : St} {H : Hp} {Q : Bool → Hp → Prop} (h : tT K E (eNot m) σ H Q) : tNot (tT K E m) σ H Q := by
  obtain ⟨Z, τ, T, env, F, ok, hl, post⟩ := h
  refine ⟨Z, τ, T, env, F, ok, hl, (bindT (fun Z o => PostT K E Z τ T σ Q o) (fun s h => PostT.mono s h) (fun h => h) (fun h => h) post).imp fun b H1 ⟨Z1, F1, e1, s1, ok1, post1⟩ => ?_⟩
  exact post1 H1 Z1 F1 (Same.refl Z1) ok1
theorem and_imp {ma mb : M Bool} {σ : St} {H : Hp} {Q : Bool → Hp → Prop} (h : tT K E (eAnd ma mb) σ H Q) : tAnd (tT K E ma) (tT K E mb) σ H Q := by
  obtain ⟨Z, τ, T, env, F, ok, hl, post⟩ := h
  refine ⟨Z, τ, T, env, F, ok, hl, (bindT (fun Z o => PostT K E Z τ T σ Q o) (fun s h => PostT.mono s h) (fun h => h) (fun h => h) post).imp fun b H1 ⟨Z1, F1, e1, s1, ok1, post1⟩ => ?_⟩
  cases b with
  | true => exact ⟨Z1, τ, T, e1, F1, ok1, hl, post1⟩
  | false => exact post1 H1 Z1 F1 (Same.refl Z1) ok1
theorem or_imp {ma mb : M Bool} {σ : St} {H : Hp} {Q : Bool → Hp → Prop} (h : tT K E (eOr ma mb) σ H Q) : tOr (tT K E ma) (tT K E mb) σ H Q := by
  obtain ⟨Z, τ, T, env, F, ok, hl, post⟩ := h
  refine ⟨Z, τ, T, env, F, ok, hl, (bindT (fun Z o => PostT K E Z τ T σ Q o) (fun s h => PostT.mono s h) (fun h => h) (fun h => h) post).imp fun b H1 ⟨Z1, F1, e1, s1, ok1, post1⟩ => ?_⟩
  cases b with
  | true => exact post1 H1 Z1 F1 (Same.refl Z1) ok1
  | false => exact ⟨Z1, τ, T, e1, F1, ok1, hl, post1⟩
/-- a if t else b -/
def eIf (c : M Bool) (a b : M O) : M O := fun env => (c env).bind fun x e => if x = true then a e else b e
@[simp] theorem eIf.c (c : M Bool) (a b : M O) {z : Option O} {zs : Env} : eIf c a b (z :: zs) = ((c (z :: zs)).bind fun x e => if x = true then a e else b e) := rfl
@[simp] theorem eIf.n (c : M Bool) (a b : M O) : eIf c a b ([] : Env) = ((c ([] : Env)).bind fun x e => if x = true then a e else b e) := rfl
theorem if_imp {c : M Bool} {ma mb : M O} {σ : St} {H : Hp} {Q : VK} (h : tE K E (eIf c ma mb) σ H Q) : tIf (tT K E c) (tE K E ma) (tE K E mb) σ H Q := by
  obtain ⟨Z, τ, T, env, F, ok, hl, post⟩ := h
  refine ⟨Z, τ, T, env, F, ok, hl, (bindT (PE' K E τ T σ Q) (fun s h => PostE.mono s h) (fun h => h) (fun h => h) post).imp fun b H1 ⟨Z1, F1, e1, s1, ok1, post1⟩ => ?_⟩
  cases b with
  | true => exact ⟨Z1, τ, T, e1, F1, ok1, hl, post1⟩
  | false => exact ⟨Z1, τ, T, e1, F1, ok1, hl, post1⟩
/-- and, or, not as values: all but the last a bool -/
def eAndV (a b : M O) : M O := fun env => (a env).bind fun x e => match x with
  | .pu (.bl true) => b e
  | .pu (.bl false) => .ok (.pu (.bl false)) e
  | _ => .no
def andK (b : M O) : O → Env → Out O := fun x e => match x with
  | .pu (.bl true) => b e
  | .pu (.bl false) => .ok (.pu (.bl false)) e
  | _ => .no
@[simp] theorem andK_bl (b : M O) (x : Bool) (e : Env) : andK b (.pu (.bl x)) e = if x = true then b e else .ok (.pu (.bl false)) e := by cases x <;> rfl
@[simp] theorem eAndV.c (a b : M O) {z : Option O} {zs : Env} : eAndV a b (z :: zs) = ((a (z :: zs)).bind (andK b)) := rfl
@[simp] theorem eAndV.n (a b : M O) : eAndV a b ([] : Env) = ((a ([] : Env)).bind (andK b)) := rfl
def eOrV (a b : M O) : M O := fun env => (a env).bind fun x e => match x with
  | .pu (.bl true) => .ok (.pu (.bl true)) e
  | .pu (.bl false) => b e
  | _ => .no
def orK (b : M O) : O → Env → Out O := fun x e => match x with
  | .pu (.bl true) => .ok (.pu (.bl true)) e
  | .pu (.bl false) => b e
  | _ => .no
@[simp] theorem orK_bl (b : M O) (x : Bool) (e : Env) : orK b (.pu (.bl x)) e = if x = true then .ok (.pu (.bl true)) e else b e := by cases x <;> rfl
@[simp] theorem eOrV.c (a b : M O) {z : Option O} {zs : Env} : eOrV a b (z :: zs) = ((a (z :: zs)).bind (orK b)) := rfl
@[simp] theorem eOrV.n (a b : M O) : eOrV a b ([] : Env) = ((a ([] : Env)).bind (orK b)) := rfl
theorem andV_imp {ma mb : M O} {σ : St} {H : Hp} {Q : VK} (h : tE K E (eAndV ma mb) σ H Q) : tAndV (tE K E ma) (tE K E mb) σ H Q := by
  obtain ⟨Z, τ, T, env, F, ok, hl, post⟩ := h
  refine ⟨Z, τ, T, env, F, ok, hl, (stepE (ρ := []) (R := []) rfl post).imp fun v H1 ⟨Z1, F1, x, e1, s1, ok1, post1⟩ => ?_⟩
  obtain ⟨v', A, B, e2, q, ok2, _⟩ := ok1.top
  cases e2
  cases q with
  | @pu _ d _ q =>
    cases d with
    | bl b =>
      cases q
      cases b with
      | true => exact ⟨true, rfl, Z1, τ, T, e1, B, ok2, hl, post1⟩
      | false => exact ⟨false, rfl, post1 _ H1 Z1 _ (Same.refl Z1) (ok2.pure (.bl _))⟩
    | _ => exact post1.elim
  | _ => exact post1.elim
theorem orV_imp {ma mb : M O} {σ : St} {H : Hp} {Q : VK} (h : tE K E (eOrV ma mb) σ H Q) : tOrV (tE K E ma) (tE K E mb) σ H Q := by
  obtain ⟨Z, τ, T, env, F, ok, hl, post⟩ := h
  refine ⟨Z, τ, T, env, F, ok, hl, (stepE (ρ := []) (R := []) rfl post).imp fun v H1 ⟨Z1, F1, x, e1, s1, ok1, post1⟩ => ?_⟩
  obtain ⟨v', A, B, e2, q, ok2, _⟩ := ok1.top
  cases e2
  cases q with
  | @pu _ d _ q =>
    cases d with
    | bl b =>
      cases q
      cases b with
      | true => exact ⟨true, rfl, post1 _ H1 Z1 _ (Same.refl Z1) (ok2.pure (.bl _))⟩
      | false => exact ⟨false, rfl, Z1, τ, T, e1, B, ok2, hl, post1⟩
    | _ => exact post1.elim
  | _ => exact post1.elim
def eNotV (a : M O) : M O := fun env => (a env).bind fun x e => match x with
  | .pu (.bl b) => .ok (.pu (.bl (!b))) e
  | _ => .no
@[simp] theorem eNotV.c (a : M O) {z : Option O} {zs : Env} : eNotV a (z :: zs) = ((a (z :: zs)).bind fun x e => match x with
  | .pu (.bl b) => .ok (.pu (.bl (!b))) e
  | _ => .no) := rfl
@[simp] theorem eNotV.n (a : M O) : eNotV a ([] : Env) = ((a ([] : Env)).bind fun x e => match x with
  | .pu (.bl b) => .ok (.pu (.bl (!b))) e
  | _ => .no) := rfl
theorem notV_imp {ma : M O} {σ : St} {H : Hp} {Q : VK} (h : tE K E (eNotV ma) σ H Q) : tNotV (tE K E ma) σ H Q := by
  obtain ⟨Z, τ, T, env, F, ok, hl, post⟩ := h
  refine ⟨Z, τ, T, env, F, ok, hl, (stepE (ρ := []) (R := []) rfl post).imp fun v H1 ⟨Z1, F1, x, e1, s1, ok1, post1⟩ => ?_⟩
  obtain ⟨v', A, B, e2, q, ok2, _⟩ := ok1.top
  cases e2
  cases q with
  | @pu _ d _ q =>
    cases d with
    | bl b => cases q; exact ⟨b, rfl, post1 _ H1 Z1 _ (Same.refl Z1) (ok2.pure (.bl _))⟩
    | _ => exact post1.elim
  | _ => exact post1.elim
/-- a < b < c -/
def eChain (f g : O → O → Option O) (a b c : M O) : M O := fun env => (a env).bind fun x e1 => (b e1).bind fun y e2 => match f x y with
  | some (.pu (.bl true)) => (match y with
    | .pu d => (c e2).bind fun z e3 => lift (g (.pu d) z) e3
    | _ => .no)
  | some (.pu (.bl false)) => .ok (.pu (.bl false)) e2
  | _ => .no
end
end Ws

namespace Ws
open PySem L2
section
variable {K : PySem.W.Frag} {E : XK} {Z Z' H H' : Hp} {σ σ' σ1 τ ρ : St} {env env' T R : Env} {F G : Fp} {Q Q' : VK} {v : V} {o : O} {d : D}
/-! ### argument lists: io tells from which slot an argument was lent -/
inductive IoOk (σ : St) : List (Option Nat) → List V → Prop
  | nil : IoOk σ [] []
  | val {v : V} {io : List (Option Nat)} {vs : List V} : IoOk σ io vs → IoOk σ (none :: io) (v :: vs)
  | lent {i : Nat} {v : V} {io : List (Option Nat)} {vs : List V} : σ[i]? = some (some v) → IoOk σ io vs → IoOk σ (some i :: io) (v :: vs)
theorem IoOk.length : ∀ {io : List (Option Nat)} {vs : List V}, IoOk σ io vs → vs.length = io.length
  | _, _, .nil => rfl
  | _, _, .val i => by simp [i.length]
  | _, _, .lent _ i => by simp [i.length]
variable (K E) in
def PostL (io : List (Option Nat)) (Z : Hp) (τ : St) (T : Env) (σ : St) (Q : List V → Hp → Prop) : Out (List O) → Prop
  | .ok os env => ∀ (vs : List V) (H' Z' : Hp) (F' : Fp), Same Z Z' → vs.length = os.length → IoOk σ io vs → Ok K Z' H' (vs.map some ++ (τ ++ σ)) (os.map some ++ (T ++ env)) F' → Q vs H'
  | .ex x env => PostX K E Z τ T σ x env
  | .no => False
variable (K E) in
def tL (io : List (Option Nat)) (m : M (List O)) : TA := fun σ H Q => ∃ (Z : Hp) (τ : St) (T env : Env) (F : Fp), Ok K Z H (τ ++ σ) (T ++ env) F ∧ τ.length = T.length ∧ PostL K E io Z τ T σ Q (m env)
theorem PostL.mono {io : List (Option Nat)} {Q : List V → Hp → Prop} : ∀ {o : Out (List O)}, Same Z Z' → PostL K E io Z τ T σ Q o → PostL K E io Z' τ T σ Q o
  | .ok o env, s, h => fun v H1 Z1 F1 s1 => h v H1 Z1 F1 (s.trans s1)
  | .ex x env, s, h => PostX.mono s h
  | .no, _, h => h
theorem PostL.imp {io : List (Option Nat)} {Q Q' : List V → Hp → Prop} : ∀ {o : Out (List O)}, PostL K E io Z τ T σ Q o → (∀ v H, Q v H → Q' v H) → PostL K E io Z τ T σ Q' o
  | .ok o env, h, k => fun v H1 Z1 F1 s1 l i ok => k _ _ (h v H1 Z1 F1 s1 l i ok)
  | .ex x env, h, k => h
  | .no, h, _ => h
theorem bindL {β : Type} {io : List (Option Nat)} (P : Hp → Out β → Prop) (pm : ∀ {Z Z' o}, Same Z Z' → P Z o → P Z' o) (px : ∀ {x env}, P Z (.ex x env) → PostX K E Z τ T σ x env) (pn : ∀ {Z}, P Z .no → False) (e : ρ.length = R.length) {o : Out (List O)} {g : List O → Env → Out β} (h : P Z (o.bind g)) :
    PostL K E io Z (ρ ++ τ) (R ++ T) σ (fun us H2 => ∃ (Z2 : Hp) (F2 : Fp) (ys : List O) (e2 : Env), Same Z Z2 ∧ us.length = ys.length ∧ IoOk σ io us ∧ Ok K Z2 H2 (us.map some ++ (ρ ++ (τ ++ σ))) (ys.map some ++ (R ++ (T ++ e2))) F2 ∧ P Z2 (g ys e2)) o := by
  cases o with
  | ok y e2 =>
    intro u H2 Z2 F2 s l i ok
    rw [List.append_assoc, List.append_assoc] at ok
    exact ⟨Z2, F2, y, e2, s, l, i, ok, pm s h⟩
  | ex x e2 => exact (px h).up e
  | no => exact pn h
def nilA : M (List O) := fun env => .ok [] env
@[simp] theorem nilA.c {z : Option O} {zs : Env} : nilA (z :: zs) = (.ok [] (z :: zs)) := rfl
@[simp] theorem nilA.n : nilA ([] : Env) = (.ok [] ([] : Env)) := rfl
def consA (m : M O) (ms : M (List O)) : M (List O) := fun env => (m env).bind fun x e1 => (ms e1).bind fun xs e2 => .ok (x :: xs) e2
@[simp] theorem consA.c (m : M O) (ms : M (List O)) {z : Option O} {zs : Env} : consA m ms (z :: zs) = ((m (z :: zs)).bind fun x e1 => (ms e1).bind fun xs e2 => .ok (x :: xs) e2) := rfl
@[simp] theorem consA.n (m : M O) (ms : M (List O)) : consA m ms ([] : Env) = ((m ([] : Env)).bind fun x e1 => (ms e1).bind fun xs e2 => .ok (x :: xs) e2) := rfl
theorem nil_imp {σ : St} {H : Hp} {Q : List V → Hp → Prop} (h : tL K E [] nilA σ H Q) : tNil σ H Q := by
  obtain ⟨Z, τ, T, env, F, ok, hl, post⟩ := h
  exact post [] H Z F (Same.refl Z) rfl .nil ok
theorem cons_imp {m : M O} {ms : M (List O)} {io : List (Option Nat)} {σ : St} {H : Hp} {Q : List V → Hp → Prop} (h : tL K E (none :: io) (consA m ms) σ H Q) : tCons (tE K E m) (tL K E io ms) σ H Q := by
  obtain ⟨Z, τ, T, env, F, ok, hl, post⟩ := h
  refine ⟨Z, τ, T, env, F, ok, hl, (bindE (ρ := []) (R := []) (fun Z o => PostL K E (none :: io) Z τ T σ Q o) (fun s h => PostL.mono s h) (fun h => h) (fun h => h) rfl post).imp fun v H1 ⟨Z1, F1, x, e1, s1, ok1, post1⟩ => ?_⟩
  refine ⟨Z1, some v :: τ, some x :: T, e1, F1, ok1, by simp [hl], (bindL (ρ := [some v]) (R := [some x]) (fun Z o => PostL K E (none :: io) Z τ T σ Q o) (fun s h => PostL.mono s h) (fun h => h) (fun h => h) rfl post1).imp fun vs H2 ⟨Z2, F2, xs, e2, s2, l2, i2, ok2, post2⟩ => ?_⟩
  obtain ⟨G, ok3⟩ := ok2.rot (by simp [l2])
  exact post2 (v :: vs) H2 Z2 G (Same.refl Z2) (by simp [l2]) (.val i2) ok3
/-- an argument that is lent: the callee may change it -/
def lendA (i : Nat) (ms : M (List O)) : M (List O) := consA (mv i) ms
@[simp] theorem lendA.c (i : Nat) (ms : M (List O)) {z : Option O} {zs : Env} : lendA i ms (z :: zs) = consA (mv i) ms (z :: zs) := rfl
theorem lend_imp {i : Nat} {ms : M (List O)} {io : List (Option Nat)} {σ : St} {H : Hp} {Q : List V → Hp → Prop} (h : tL K E (some i :: io) (lendA i ms) σ H Q) : tCons (tVar i) (tL K E io ms) σ H Q := by
  obtain ⟨Z, τ, T, env, F, ok, hl, post⟩ := h
  unfold lendA consA mv at post
  split at post
  · rename_i o e
    obtain ⟨v, A, B, hv, q, i1, r, _⟩ := ok.slot hl e
    refine ⟨v, hv, Z, some v :: τ, some o :: T, env.set i none, F, ok.dn (.so q r i1) fun b => Nat.le_refl _, by simp [hl], ?_⟩
    refine (bindL (ρ := [some v]) (R := [some o]) (fun Z o => PostL K E (some i :: io) Z τ T σ Q o) (fun s h => PostL.mono s h) (fun h => h) (fun h => h) rfl post).imp fun vs H2 ⟨Z2, F2, xs, e2, s2, l2, i2, ok2, post2⟩ => ?_
    obtain ⟨G, ok3⟩ := ok2.rot (by simp [l2])
    exact post2 (v :: vs) H2 Z2 G (Same.refl Z2) (by simp [l2]) (.lent hv i2) ok3
  · exact post.elim

/-! ### displays -/
def eTup (ms : M (List O)) : M O := fun env => (ms env).bind fun xs e => if xs.length ≤ 100000 then .ok (mkT xs) e else .no
@[simp] theorem eTup.c (ms : M (List O)) {z : Option O} {zs : Env} : eTup ms (z :: zs) = ((ms (z :: zs)).bind fun xs e => if xs.length ≤ 100000 then .ok (mkT xs) e else .no) := rfl
@[simp] theorem eTup.n (ms : M (List O)) : eTup ms ([] : Env) = ((ms ([] : Env)).bind fun xs e => if xs.length ≤ 100000 then .ok (mkT xs) e else .no) := rfl
def eLst (ms : M (List O)) : M O := fun env => (ms env).bind fun xs e => if xs.length ≤ 100000 then .ok (.li xs) e else .no
@[simp] theorem eLst.c (ms : M (List O)) {z : Option O} {zs : Env} : eLst ms (z :: zs) = ((ms (z :: zs)).bind fun xs e => if xs.length ≤ 100000 then .ok (.li xs) e else .no) := rfl
@[simp] theorem eLst.n (ms : M (List O)) : eLst ms ([] : Env) = ((ms ([] : Env)).bind fun xs e => if xs.length ≤ 100000 then .ok (.li xs) e else .no) := rfl
theorem slots_args {vs : List V} {os : List O} (e : vs.length = os.length) (h : Ok K Z H (vs.map some ++ σ) (os.map some ++ env) F) : ∃ F1 F2, RepOs K Z H vs os F1 ∧ RepSl K Z H σ env F2 ∧ ∀ b, F1 b + F2 b ≤ F b := by
  obtain ⟨us, F1, F2, e1, a, b, c⟩ := slots_take (by simpa using e) h.sl
  have : vs = us := List.map_inj_right (fun _ _ h => Option.some.inj h) |>.mp e1
  subst this
  exact ⟨F1, F2, a, b, c⟩
theorem stepL {io : List (Option Nat)} (e : ρ.length = R.length) {o : Out (List O)} {g : List O → Env → Out O} (h : PostE K E Z τ T σ Q (o.bind g)) :
    PostL K E io Z (ρ ++ τ) (R ++ T) σ (fun us H2 => ∃ (Z2 : Hp) (F2 : Fp) (ys : List O) (e2 : Env), Same Z Z2 ∧ us.length = ys.length ∧ IoOk σ io us ∧ Ok K Z2 H2 (us.map some ++ (ρ ++ (τ ++ σ))) (ys.map some ++ (R ++ (T ++ e2))) F2 ∧ PostE K E Z2 τ T σ Q (g ys e2)) o :=
  bindL (PE' K E τ T σ Q) (fun s h => PostE.mono s h) (fun h => h) (fun h => h) e h
theorem tup_imp {ms : M (List O)} {io : List (Option Nat)} {σ : St} {H : Hp} {Q : VK} (h : tE K E (eTup ms) σ H Q) : tTup (tL K E io ms) σ H Q := by
  obtain ⟨Z, τ, T, env, F, ok, hl, post⟩ := h
  refine ⟨Z, τ, T, env, F, ok, hl, (stepL (ρ := []) (R := []) rfl post).imp fun vs H1 ⟨Z1, F1, xs, e1, s1, l1, _, ok1, post1⟩ => ?_⟩
  split at post1
  · rename_i hz
    refine ⟨by rw [l1]; exact line_le hz, fun p hp => ?_⟩
    obtain ⟨A, B, q, r, i⟩ := slots_args l1 ok1
    obtain ⟨Z2, G, s2, ok2⟩ := ok1.newT r q i hp
    exact post1 _ _ Z2 G s2 ok2
  · exact post1.elim
theorem lst_imp {ms : M (List O)} {io : List (Option Nat)} {σ : St} {H : Hp} {Q : VK} (h : tE K E (eLst ms) σ H Q) : tLst (tL K E io ms) σ H Q := by
  obtain ⟨Z, τ, T, env, F, ok, hl, post⟩ := h
  refine ⟨Z, τ, T, env, F, ok, hl, (stepL (ρ := []) (R := []) rfl post).imp fun vs H1 ⟨Z1, F1, xs, e1, s1, l1, _, ok1, post1⟩ => ?_⟩
  split at post1
  · rename_i hz
    refine ⟨by rw [l1]; exact line_le hz, fun p hp => ?_⟩
    obtain ⟨A, B, q, r, i⟩ := slots_args l1 ok1
    exact post1 _ _ Z1 _ (Same.refl Z1) (ok1.newL r q i hp)
  · exact post1.elim

/-! ### calls of built-ins -/
def eCall (f : List O → Option O) (ms : M (List O)) : M O := fun env => (ms env).bind fun xs e => lift (f xs) e
@[simp] theorem eCall.c (f : List O → Option O) (ms : M (List O)) {z : Option O} {zs : Env} : eCall f ms (z :: zs) = ((ms (z :: zs)).bind fun xs e => lift (f xs) e) := rfl
@[simp] theorem eCall.n (f : List O → Option O) (ms : M (List O)) : eCall f ms ([] : Env) = ((ms ([] : Env)).bind fun xs e => lift (f xs) e) := rfl
def CallV (K : PySem.W.Frag) (f : List O → Option O) (r : List V → Hp → VK → Prop) : Prop := ∀ (Z H : Hp) (σ : St) (env : Env) (F : Fp) (vs : List V) (os : List O) (z : O) (Q : VK), vs.length = os.length → Ok K Z H (vs.map some ++ σ) (os.map some ++ env) F → f os = some z →
  (∀ (w : V) (H' Z' : Hp) (F' : Fp), Same Z Z' → Ok K Z' H' (some w :: σ) (some z :: env) F' → Q w H') → r vs H Q
theorem call_imp {f : List O → Option O} {r : List V → Hp → VK → Prop} {ms : M (List O)} {io : List (Option Nat)} (hv : CallV K f r) {σ : St} {H : Hp} {Q : VK} (h : tE K E (eCall f ms) σ H Q) : tCB r (tL K E io ms) σ H Q := by
  obtain ⟨Z, τ, T, env, F, ok, hl, post⟩ := h
  refine ⟨Z, τ, T, env, F, ok, hl, (stepL (ρ := []) (R := []) rfl post).imp fun vs H1 ⟨Z1, F1, xs, e1, s1, l1, _, ok1, post1⟩ => ?_⟩
  cases e : f xs with
  | none => rw [e] at post1; exact post1.elim
  | some z =>
    rw [e] at post1
    exact hv Z1 H1 (τ ++ σ) (T ++ e1) F1 vs xs z Q l1 ok1 e fun w H' Z' F' s o => post1 w H' Z' F' s o

/-! ### defs -/
abbrev FD := List O → Out O
variable (K) in
def PostF (E : XK) (Z : Hp) (vs : List V) (τ : St) (T : Env) (Q : VK) : Out O → Prop
  | .ok r ps => ∀ (v : V) (H' Z' : Hp) (F' : Fp), Same Z Z' → vs.length = ps.length → Ok K Z' H' (some v :: (vs.map some ++ τ)) (some r :: (ps ++ T)) F' → Q v H'
  | .ex x ps => ∀ (a : Option Addr) (H' Z' : Hp) (F' : Fp), Same Z Z' → vs.length = ps.length → Ok K Z' H' (vs.map some ++ τ) (ps ++ T) F' → ExRep K Z' H' x a → ∀ c, ClsE K x.cls c → E c a H'
  | .no => False
/-- THE PROMISE of a def that does what f tells -/
def spV (K : PySem.W.Frag) (n : Nat) (f : FD) : Sp := fun vs H Q E => vs.length = n ∧ ∃ (Z : Hp) (τ : St) (T : Env) (os : List O) (F : Fp), Ok K Z H (vs.map some ++ τ) (os.map some ++ T) F ∧ vs.length = os.length ∧ τ.length = T.length ∧ PostF K E Z vs τ T Q (f os)
@[simp] def back : List (Option Nat) → List (Option O) → Env → Env
  | some i :: io, some o :: ps, e => back io ps (e.set i (some o))
  | _ :: io, _ :: ps, e => back io ps e
  | _, _, e => e
theorem back_ok : ∀ {io : List (Option Nat)} {vs : List V} {ps : List (Option O)} {e : Env} {F1 F2 G : Fp}, IoOk σ io vs → τ.length = T.length → RepSl K Z H (vs.map some) ps F1 → RepSl K Z H (τ ++ σ) (T ++ e) F2 → (∀ b, F1 b + F2 b ≤ G b) → RepSl K Z H (τ ++ σ) (T ++ back io ps e) G
  | _, _, _, _, _, _, _, .nil, _, .nil, s, g => by
    rw [show ∀ e, back [] [] e = e from fun _ => rfl]
    exact s.up fun b => by have := g b; omega
  | _, _, _, _, _, _, _, .val i, hl, .no r, s, g => by have p := back_ok i hl r s g; exact p
  | _, _, _, _, _, _, G, .val i, hl, .so q r j, s, g => by have p := back_ok (G := G) i hl r s (fun b => by have := g b; have := j b; omega); exact p
  | _, _, _, _, _, _, _, .lent hv i, hl, .no r, s, g => by have p := back_ok i hl r s g; exact p
  | _, _, _, e, _, F2, G, .lent (i := ix) hv i, hl, .so (o := ow) (F1 := A) (F2 := B) q r j, s, g => by
    have hlen := s.len
    have hi : ix < σ.length := by
      rcases Nat.lt_or_ge ix σ.length with h' | h'
      · exact h'
      · rw [List.getElem?_eq_none h'] at hv; cases hv
    have p := s.put (i := τ.length + ix) (G := fun b => A b + F2 b) (by rw [← hlen, List.length_append]; omega) q fun b => Nat.le_refl _
    rw [set_under hl, set_underS, set_self hv] at p
    have goal := back_ok (G := G) (e := e.set ix (some ow)) (F2 := fun b => A b + F2 b) i hl r p fun b => by have := g b; have := j b; show B b + (A b + F2 b) ≤ _; omega
    exact goal
def callE (io : List (Option Nat)) (e : Env) : Out O → Out O
  | .ok r ps => .ok r (back io ps e)
  | .ex x ps => .ex x (back io ps e)
  | .no => .no
@[simp] theorem callE_ok (io : List (Option Nat)) (e : Env) (r : O) (ps : List (Option O)) : callE io e (.ok r ps) = .ok r (back io ps e) := rfl
@[simp] theorem callE_ex (io : List (Option Nat)) (e : Env) (r : Exn) (ps : List (Option O)) : callE io e (.ex r ps) = .ex r (back io ps e) := rfl
@[simp] theorem callE_no (io : List (Option Nat)) (e : Env) : callE io e .no = .no := rfl
def eCallF (f : FD) (io : List (Option Nat)) (ms : M (List O)) : M O := fun env => (ms env).bind fun xs e => callE io e (f xs)
@[simp] theorem eCallF.c (f : FD) (io : List (Option Nat)) (ms : M (List O)) {z : Option O} {zs : Env} : eCallF f io ms (z :: zs) = ((ms (z :: zs)).bind fun xs e => callE io e (f xs)) := rfl
@[simp] theorem eCallF.n (f : FD) (io : List (Option Nat)) (ms : M (List O)) : eCallF f io ms ([] : Env) = ((ms ([] : Env)).bind fun xs e => callE io e (f xs)) := rfl
theorem callF_imp {f : FD} {n : Nat} {io : List (Option Nat)} {ms : M (List O)} {σ : St} {H : Hp} {Q : VK} (hn : io.length = n) (h : tE K E (eCallF f io ms) σ H Q) : tCall (spV K n f) [] E (tL K E io ms) σ H Q := by
  obtain ⟨Z, τ, T, env, F, ok, hl, post⟩ := h
  refine ⟨Z, τ, T, env, F, ok, hl, (stepL (ρ := []) (R := []) rfl post).imp fun vs H1 ⟨Z1, F1, xs, e1, s1, l1, io1, ok1, post1⟩ => ?_⟩
  have hlen := io1.length
  rw [List.append_nil]
  refine ⟨hlen.trans hn, Z1, τ ++ σ, T ++ e1, xs, F1, ok1, l1, ?_, ?_⟩
  · have := ok1.sl.len
    simp only [List.length_append, List.length_map] at this ⊢
    omega
  · cases e : f xs with
    | no => rw [e] at post1; exact post1.elim
    | ok r ps =>
      rw [e] at post1
      intro v H' Z' F' s lp ok'
      cases ok'.sl with
      | @so _ _ _ _ A B _ q r' i =>
        obtain ⟨F2, F3, a, b, c⟩ := RepSl.split (by simpa using lp) r'
        refine post1 v H' Z' F' s (ok'.dn (.so (F2 := fun b => F2 b + F3 b) q (back_ok io1 hl a b fun b => Nat.le_refl _) fun b => by have := i b; have := c b; show A b + (F2 b + F3 b) ≤ F' b; omega) fun b => Nat.le_refl _)
    | ex x ps =>
      rw [e] at post1
      intro a H' Z' F' s lp ok' xr
      obtain ⟨F2, F3, a1, b, c⟩ := RepSl.split (by simpa using lp) ok'.sl
      exact post1 a H' Z' F' s (ok'.dn (back_ok io1 hl a1 b c) fun b => Nat.le_refl _) xr

/-! ### statements -/
inductive Fl where
  | nx | rt (o : O) | bk | ct
def Pin (io : Nat → Bool) (σ σ' : St) : Prop := σ'.length = σ.length ∧ ∀ i : Nat, io i = true → σ'[i]? = σ[i]?
theorem Pin.refl {io : Nat → Bool} (σ : St) : Pin io σ σ := ⟨rfl, fun _ _ => rfl⟩
theorem Pin.trans {io : Nat → Bool} {σ σ1 σ2 : St} (a : Pin io σ σ1) (b : Pin io σ1 σ2) : Pin io σ σ2 := ⟨b.1.trans a.1, fun i h => (b.2 i h).trans (a.2 i h)⟩
variable (K) in
def PostS (E : XK) (io : Nat → Bool) (Z : Hp) (τ : St) (T : Env) (σ : St) (D : Ends) : Out Fl → Prop
  | .ok .nx env => ∀ (σ' : St) (H' Z' : Hp) (F' : Fp), Same Z Z' → Pin io σ σ' → Ok K Z' H' (τ ++ σ') (T ++ env) F' → D.nx σ' H'
  | .ok .bk env => ∀ (σ' : St) (H' Z' : Hp) (F' : Fp), Same Z Z' → Pin io σ σ' → Ok K Z' H' (τ ++ σ') (T ++ env) F' → D.bk σ' H'
  | .ok .ct env => ∀ (σ' : St) (H' Z' : Hp) (F' : Fp), Same Z Z' → Pin io σ σ' → Ok K Z' H' (τ ++ σ') (T ++ env) F' → D.ct σ' H'
  | .ok (.rt o) env => ∀ (v : V) (σ' : St) (H' Z' : Hp) (F' : Fp), Same Z Z' → Pin io σ σ' → Ok K Z' H' (some v :: (τ ++ σ')) (some o :: (T ++ env)) F' → D.rt v H'
  | .ex x env => ∀ σ', Pin io σ σ' → PostX K E Z τ T σ' x env
  | .no => False
def tS (K : PySem.W.Frag) (E : XK) (io : Nat → Bool) (m : M Fl) : TS := fun D σ H => ∃ (Z : Hp) (τ : St) (T env : Env) (F : Fp), Ok K Z H (τ ++ σ) (T ++ env) F ∧ τ.length = T.length ∧ PostS K E io Z τ T σ D (m env)
variable {io : Nat → Bool} {D : Ends}
theorem PostS.mono : ∀ {o : Out Fl}, Same Z Z' → PostS K E io Z τ T σ D o → PostS K E io Z' τ T σ D o
  | .ok .nx env, s, h => fun σ' H1 Z1 F1 s1 => h σ' H1 Z1 F1 (s.trans s1)
  | .ok .bk env, s, h => fun σ' H1 Z1 F1 s1 => h σ' H1 Z1 F1 (s.trans s1)
  | .ok .ct env, s, h => fun σ' H1 Z1 F1 s1 => h σ' H1 Z1 F1 (s.trans s1)
  | .ok (.rt o) env, s, h => fun v σ' H1 Z1 F1 s1 => h v σ' H1 Z1 F1 (s.trans s1)
  | .ex x env, s, h => fun σ' p => PostX.mono s (h σ' p)
  | .no, _, h => h
theorem PostS.pin (p : Pin io σ σ1) : ∀ {o : Out Fl}, PostS K E io Z τ T σ D o → PostS K E io Z τ T σ1 D o
  | .ok .nx env, h => fun σ' H1 Z1 F1 s1 q => h σ' H1 Z1 F1 s1 (p.trans q)
  | .ok .bk env, h => fun σ' H1 Z1 F1 s1 q => h σ' H1 Z1 F1 s1 (p.trans q)
  | .ok .ct env, h => fun σ' H1 Z1 F1 s1 q => h σ' H1 Z1 F1 s1 (p.trans q)
  | .ok (.rt o) env, h => fun v σ' H1 Z1 F1 s1 q => h v σ' H1 Z1 F1 s1 (p.trans q)
  | .ex x env, h => fun σ' q => h σ' (p.trans q)
  | .no, h => h
theorem stepES (e : ρ.length = R.length) {o : Out O} {g : O → Env → Out Fl} (h : PostS K E io Z τ T σ D (o.bind g)) :
    PostE K E Z (ρ ++ τ) (R ++ T) σ (fun u H2 => ∃ (Z2 : Hp) (F2 : Fp) (y : O) (e2 : Env), Same Z Z2 ∧ Ok K Z2 H2 (some u :: (ρ ++ (τ ++ σ))) (some y :: (R ++ (T ++ e2))) F2 ∧ PostS K E io Z2 τ T σ D (g y e2)) o :=
  bindE (fun Z o => PostS K E io Z τ T σ D o) (fun s h => PostS.mono s h) (fun h => h σ (Pin.refl σ)) (fun h => h) e h
/-- one after the other -/
def sSeq (a b : M Fl) : M Fl := fun env => match a env with
  | .ok .nx e => b e
  | r => r
def seqK (b : M Fl) : Out Fl → Out Fl := fun o => match o with
  | .ok .nx e => b e
  | r => r
@[simp] theorem seqK_nx (b : M Fl) (e : Env) : seqK b (.ok .nx e) = b e := rfl
@[simp] theorem seqK_rt (b : M Fl) (r : O) (e : Env) : seqK b (.ok (.rt r) e) = .ok (.rt r) e := rfl
@[simp] theorem seqK_bk (b : M Fl) (e : Env) : seqK b (.ok .bk e) = .ok .bk e := rfl
@[simp] theorem seqK_ct (b : M Fl) (e : Env) : seqK b (.ok .ct e) = .ok .ct e := rfl
@[simp] theorem seqK_ex (b : M Fl) (x : Exn) (e : Env) : seqK b (.ex x e) = .ex x e := rfl
@[simp] theorem seqK_no (b : M Fl) : seqK b .no = .no := rfl
@[simp] theorem sSeq.c (a b : M Fl) {z : Option O} {zs : Env} : sSeq a b (z :: zs) = (seqK b (a (z :: zs))) := rfl
@[simp] theorem sSeq.n (a b : M Fl) : sSeq a b ([] : Env) = (seqK b (a ([] : Env))) := rfl
theorem seq_imp {a b : M Fl} {D : Ends} {σ : St} {H : Hp} (h : tS K E io (sSeq a b) D σ H) : tSeq (tS K E io a) (tS K E io b) D σ H := by
  obtain ⟨Z, τ, T, env, F, ok, hl, post⟩ := h
  refine ⟨Z, τ, T, env, F, ok, hl, ?_⟩
  unfold sSeq at post
  cases e : a env with
  | no => rw [e] at post; exact post
  | ex x e1 => rw [e] at post; exact post
  | ok fl e1 =>
    rw [e] at post
    cases fl with
    | nx => exact fun σ' H' Z' F' s p ok' => ⟨Z', τ, T, e1, F', ok', hl, (PostS.mono s post).pin p⟩
    | rt o => exact post
    | bk => exact post
    | ct => exact post
def sRet (m : M O) : M Fl := fun env => (m env).bind fun x e => .ok (.rt x) e
@[simp] theorem sRet.c (m : M O) {z : Option O} {zs : Env} : sRet m (z :: zs) = ((m (z :: zs)).bind fun x e => .ok (.rt x) e) := rfl
@[simp] theorem sRet.n (m : M O) : sRet m ([] : Env) = ((m ([] : Env)).bind fun x e => .ok (.rt x) e) := rfl
theorem ret_imp {m : M O} {t : TE} (hi : ∀ σ H Q, tE K E m σ H Q → t σ H Q) {D : Ends} {σ : St} {H : Hp} (h : tS K E io (sRet m) D σ H) : tRet t D σ H := by
  obtain ⟨Z, τ, T, env, F, ok, hl, post⟩ := h
  exact hi σ H _ ⟨Z, τ, T, env, F, ok, hl, (stepES (ρ := []) (R := []) rfl post).imp fun v H1 ⟨Z1, F1, x, e1, s1, ok1, post1⟩ => post1 v σ H1 Z1 F1 (Same.refl Z1) (Pin.refl σ) ok1⟩
def sRetN : M Fl := fun env => .ok (.rt (.pu .non)) env
@[simp] theorem sRetN.c {z : Option O} {zs : Env} : sRetN (z :: zs) = (.ok (.rt (.pu .non)) (z :: zs)) := rfl
@[simp] theorem sRetN.n : sRetN ([] : Env) = (.ok (.rt (.pu .non)) ([] : Env)) := rfl
theorem retN_imp {D : Ends} {σ : St} {H : Hp} (h : tS K E io sRetN D σ H) : tRetN D σ H := by
  obtain ⟨Z, τ, T, env, F, ok, hl, post⟩ := h
  exact post .non σ H Z F (Same.refl Z) (Pin.refl σ) (ok.pure .non)
def sNext : M Fl := fun env => .ok .nx env
@[simp] theorem sNext.c {z : Option O} {zs : Env} : sNext (z :: zs) = (.ok .nx (z :: zs)) := rfl
@[simp] theorem sNext.n : sNext ([] : Env) = (.ok .nx ([] : Env)) := rfl
theorem next_imp {D : Ends} {σ : St} {H : Hp} (h : tS K E io sNext D σ H) : tNext D σ H := by
  obtain ⟨Z, τ, T, env, F, ok, hl, post⟩ := h
  exact post σ H Z F (Same.refl Z) (Pin.refl σ) ok
def sBreak : M Fl := fun env => .ok .bk env
@[simp] theorem sBreak.c {z : Option O} {zs : Env} : sBreak (z :: zs) = (.ok .bk (z :: zs)) := rfl
@[simp] theorem sBreak.n : sBreak ([] : Env) = (.ok .bk ([] : Env)) := rfl
theorem break_imp {D : Ends} {σ : St} {H : Hp} (h : tS K E io sBreak D σ H) : tBreak D σ H := by
  obtain ⟨Z, τ, T, env, F, ok, hl, post⟩ := h
  exact post σ H Z F (Same.refl Z) (Pin.refl σ) ok
def sCont : M Fl := fun env => .ok .ct env
@[simp] theorem sCont.c {z : Option O} {zs : Env} : sCont (z :: zs) = (.ok .ct (z :: zs)) := rfl
@[simp] theorem sCont.n : sCont ([] : Env) = (.ok .ct ([] : Env)) := rfl
theorem cont_imp {D : Ends} {σ : St} {H : Hp} (h : tS K E io sCont D σ H) : tCont D σ H := by
  obtain ⟨Z, τ, T, env, F, ok, hl, post⟩ := h
  exact post σ H Z F (Same.refl Z) (Pin.refl σ) ok
def sNever : M Fl := fun _ => .no
@[simp] theorem sNever.c {z : Option O} {zs : Env} : sNever (z :: zs) = (.no) := rfl
@[simp] theorem sNever.n : sNever ([] : Env) = (.no) := rfl
theorem never_imp {D : Ends} {σ : St} {H : Hp} (h : tS K E io sNever D σ H) : tNever D σ H := by
  obtain ⟨Z, τ, T, env, F, ok, hl, post⟩ := h
  exact post
def sDrop (m : M O) : M Fl := fun env => (m env).bind fun _ e => .ok .nx e
@[simp] theorem sDrop.c (m : M O) {z : Option O} {zs : Env} : sDrop m (z :: zs) = ((m (z :: zs)).bind fun _ e => .ok .nx e) := rfl
@[simp] theorem sDrop.n (m : M O) : sDrop m ([] : Env) = ((m ([] : Env)).bind fun _ e => .ok .nx e) := rfl
theorem drop_imp {m : M O} {t : TE} (hi : ∀ σ H Q, tE K E m σ H Q → t σ H Q) {D : Ends} {σ : St} {H : Hp} (h : tS K E io (sDrop m) D σ H) : tDrop t D σ H := by
  obtain ⟨Z, τ, T, env, F, ok, hl, post⟩ := h
  exact hi σ H _ ⟨Z, τ, T, env, F, ok, hl, (stepES (ρ := []) (R := []) rfl post).imp fun v H1 ⟨Z1, F1, x, e1, s1, ok1, post1⟩ => post1 σ H1 Z1 F1 (Same.refl Z1) (Pin.refl σ) ok1.pop⟩
def sIf (c : M Bool) (a b : M Fl) : M Fl := fun env => (c env).bind fun x e => if x = true then a e else b e
@[simp] theorem sIf.c (c : M Bool) (a b : M Fl) {z : Option O} {zs : Env} : sIf c a b (z :: zs) = ((c (z :: zs)).bind fun x e => if x = true then a e else b e) := rfl
@[simp] theorem sIf.n (c : M Bool) (a b : M Fl) : sIf c a b ([] : Env) = ((c ([] : Env)).bind fun x e => if x = true then a e else b e) := rfl
theorem sif_imp {c : M Bool} {tc : TT} (hi : ∀ σ H Q, tT K E c σ H Q → tc σ H Q) {a b : M Fl} {D : Ends} {σ : St} {H : Hp} (h : tS K E io (sIf c a b) D σ H) : tIfS tc (tS K E io a) (tS K E io b) D σ H := by
  obtain ⟨Z, τ, T, env, F, ok, hl, post⟩ := h
  refine hi σ H _ ⟨Z, τ, T, env, F, ok, hl, (bindT (fun Z o => PostS K E io Z τ T σ D o) (fun s h => PostS.mono s h) (fun h => h σ (Pin.refl σ)) (fun h => h) post).imp fun b H1 ⟨Z1, F1, e1, s1, ok1, post1⟩ => ?_⟩
  cases b with
  | true => exact ⟨Z1, τ, T, e1, F1, ok1, hl, post1⟩
  | false => exact ⟨Z1, τ, T, e1, F1, ok1, hl, post1⟩

/-! ### targets -/
abbrev GD := O → Env → Option Env
variable (K) in
def tG (io : Nat → Bool) (g : GD) : TG := fun v σ H Q => ∃ (Z : Hp) (τ : St) (T env env' : Env) (F : Fp) (o : O), Ok K Z H (some v :: (τ ++ σ)) (some o :: (T ++ env)) F ∧ τ.length = T.length ∧ g o env = some env' ∧
  ∀ (σ' : St) (H' Z' : Hp) (F' : Fp), Same Z Z' → Pin io σ σ' → Ok K Z' H' (τ ++ σ') (T ++ env') F' → Q σ' H'
@[simp] def gN (i : Nat) : GD := fun o e => some (e.set i (some o))
theorem Ok.store {i : Nat} (ok : Ok K Z H (some v :: (τ ++ σ)) (some o :: (T ++ env)) F) (hl : τ.length = T.length) : Ok K Z H (τ ++ σ.set i (some v)) (T ++ env.set i (some o)) F := by
  cases ok.sl with
  | @so _ _ _ _ A B _ q r j =>
    by_cases hi : i < env.length
    · have p := r.put (i := τ.length + i) (G := F) (by rw [List.length_append]; omega) q j
      rw [set_under hl, set_underS] at p
      exact ok.dn p fun b => Nat.le_refl _
    · have := r.len
      simp only [List.length_append] at this
      rw [List.set_eq_of_length_le (by omega), List.set_eq_of_length_le (by omega)]
      exact ok.dn (r.up fun b => by have := j b; omega) fun b => Nat.le_refl _
theorem gN_imp {i : Nat} (hi : io i = false) {v : V} {σ : St} {H : Hp} {Q : St → Hp → Prop} (h : tG K io (gN i) v σ H Q) : gName i v σ H Q := by
  obtain ⟨Z, τ, T, env, env', F, o, ok, hl, e, k⟩ := h
  cases e
  refine k _ H Z F (Same.refl Z) ⟨List.length_set .., fun j hj => ?_⟩ (ok.store hl)
  rw [List.getElem?_set_ne]
  rintro rfl
  rw [hi] at hj
  cases hj
def sAsg (m : M O) (g : GD) : M Fl := fun env => (m env).bind fun x e => match g x e with
  | some e' => .ok .nx e'
  | none => .no
def asgK : Option Env → Out Fl := fun o => match o with
  | some e' => .ok .nx e'
  | none => .no
@[simp] theorem asgK_some (e : Env) : asgK (some e) = .ok .nx e := rfl
@[simp] theorem asgK_none : asgK none = .no := rfl
@[simp] theorem sAsg.c (m : M O) (g : GD) {z : Option O} {zs : Env} : sAsg m g (z :: zs) = ((m (z :: zs)).bind fun x e => asgK (g x e)) := rfl
@[simp] theorem sAsg.n (m : M O) (g : GD) : sAsg m g ([] : Env) = ((m ([] : Env)).bind fun x e => asgK (g x e)) := rfl
theorem asg_imp {m : M O} {g : GD} {t : TE} {tg : TG} (hi : ∀ σ H Q, tE K E m σ H Q → t σ H Q) (hg : ∀ v σ H Q, tG K io g v σ H Q → tg v σ H Q) {D : Ends} {σ : St} {H : Hp} (h : tS K E io (sAsg m g) D σ H) : tAsg t tg D σ H := by
  obtain ⟨Z, τ, T, env, F, ok, hl, post⟩ := h
  refine hi σ H _ ⟨Z, τ, T, env, F, ok, hl, (stepES (ρ := []) (R := []) rfl post).imp fun v H1 ⟨Z1, F1, x, e1, s1, ok1, post1⟩ => ?_⟩
  cases e : g x e1 with
  | none => rw [e] at post1; exact post1.elim
  | some e' =>
    rw [e] at post1
    exact hg v σ H1 D.nx ⟨Z1, τ, T, e1, e', F1, x, ok1, hl, e, fun σ' H' Z' F' s p ok' => post1 σ' H' Z' F' s p ok'⟩
/-- several targets -/
abbrev GDs := List O → Env → Option Env
variable (K) in
def tGs (io : Nat → Bool) (g : GDs) : TGs := fun vs σ H Q => ∃ (Z : Hp) (τ : St) (T env env' : Env) (F : Fp) (os : List O), Ok K Z H (vs.map some ++ (τ ++ σ)) (os.map some ++ (T ++ env)) F ∧ vs.length = os.length ∧ τ.length = T.length ∧ g os env = some env' ∧
  ∀ (σ' : St) (H' Z' : Hp) (F' : Fp), Same Z Z' → Pin io σ σ' → Ok K Z' H' (τ ++ σ') (T ++ env') F' → Q σ' H'
@[simp] def gNilD : GDs := fun os e => match os with
  | [] => some e
  | _ => none
@[simp] def gConsD (g : GD) (gs : GDs) : GDs := fun os e => match os with
  | o :: os => (g o e).bind fun e1 => gs os e1
  | [] => none
theorem gNil_imp {vs : List V} {σ : St} {H : Hp} {Q : St → Hp → Prop} (h : tGs K io gNilD vs σ H Q) : gNil vs σ H Q := by
  obtain ⟨Z, τ, T, env, env', F, os, ok, l, hl, e, k⟩ := h
  cases os with
  | nil =>
    cases e
    have : vs = [] := List.length_eq_zero_iff.mp l
    subst this
    exact ⟨rfl, k σ H Z F (Same.refl Z) (Pin.refl σ) ok⟩
  | cons _ _ => cases e
theorem Ok.swapTop {x : Option V} {y : Option O} {ρ : St} {R : Env} (e : ρ.length = R.length) (h : Ok K Z H (x :: (ρ ++ σ)) (y :: (R ++ env)) F) : ∃ G, Ok K Z H (ρ ++ (x :: σ)) (R ++ (y :: env)) G := by
  cases h.sl with
  | no r =>
    obtain ⟨F1, F2, a, b, c⟩ := r.split e
    exact ⟨F, h.dn (a.app (.no b) c) fun b => Nat.le_refl _⟩
  | @so _ _ _ _ A B _ q r i =>
    obtain ⟨F1, F2, a, b, c⟩ := r.split e
    exact ⟨F, h.dn (a.app (.so (G := fun b => A b + F2 b) q b fun b => Nat.le_refl _) fun b => by have := i b; have := c b; show F1 b + (A b + F2 b) ≤ F b; omega) fun b => Nat.le_refl _⟩
theorem gCons_imp {g : GD} {gs : GDs} {tg : TG} {tgs : TGs} (h1 : ∀ v σ H Q, tG K io g v σ H Q → tg v σ H Q) (h2 : ∀ v σ H Q, tGs K io gs v σ H Q → tgs v σ H Q) {vs : List V} {σ : St} {H : Hp} {Q : St → Hp → Prop} (h : tGs K io (gConsD g gs) vs σ H Q) : gCons tg tgs vs σ H Q := by
  obtain ⟨Z, τ, T, env, env', F, os, ok, l, hl, e, k⟩ := h
  cases os with
  | nil => cases e
  | cons o os =>
    cases vs with
    | nil => simp at l
    | cons v vs =>
      obtain ⟨e1, h3, h4⟩ := Option.bind_eq_some_iff.mp e
      refine ⟨v, vs, rfl, h1 v σ H _ ⟨Z, vs.map some ++ τ, os.map some ++ T, env, e1, F, o, by rw [List.append_assoc, List.append_assoc]; exact ok, by simp at l ⊢; omega, h3, fun σ' H' Z' F' s p ok' => ?_⟩⟩
      rw [List.append_assoc, List.append_assoc] at ok'
      exact h2 vs σ' H' Q ⟨Z', τ, T, e1, env', F', os, ok', by simpa using l, hl, h4, fun σ2 H2 Z2 F2 s2 p2 ok2 => k σ2 H2 Z2 F2 (s.trans s2) (p.trans p2) ok2⟩
@[simp] def gTupD (n : Nat) (gs : GDs) : GD := fun o e => match o.tups with
  | some os => if os.length = n then gs os e else none
  | none => none
theorem gTup_imp {n : Nat} {gs : GDs} {tgs : TGs} (h2 : ∀ v σ H Q, tGs K io gs v σ H Q → tgs v σ H Q) {v : V} {σ : St} {H : Hp} {Q : St → Hp → Prop} (h : tG K io (gTupD n gs) v σ H Q) : gTup K n tgs v σ H Q := by
  obtain ⟨Z, τ, T, env, env', F, o, ok, hl, e, k⟩ := h
  unfold gTupD at e
  split at e
  · rename_i os eo
    split at e
    · rename_i hn
      cases ok.sl with
      | @so _ _ _ _ A B _ q r i =>
        obtain ⟨a, vs, rfl, hs, qs⟩ := tups_ok ok.sub q eo
        have hlen := qs.len
        exact ⟨a, vs, rfl, hs, hlen.trans hn, h2 vs σ H Q ⟨Z, τ, T, env, env', F, os, ok.dn (slots_cons qs r i) fun b => Nat.le_refl _, hlen, hl, e, k⟩⟩
    · cases e
  · cases e
end
end Ws

namespace Ws
open PySem L2
section
variable {K : PySem.W.Frag} {E : XK} {Z Z' H H' : Hp} {σ σ' σ1 τ ρ : St} {env env' T R : Env} {F G : Fp} {Q Q' : VK} {v : V} {o : O} {d : D} {io : Nat → Bool}
/-! ### what a loop walks -/
/-- J gives the items, one a turn; a turn may lay new objects -/
def WalkD (K : PySem.W.Frag) (J : It) (items : List D) (Z : Hp) : Prop := ∀ H, Sub Z H → (∀ i, i < items.length → J.go i H) ∧ J.stop items.length H ∧
  ∀ i x H', i < items.length → J.yld i H x H' → Same H H' ∧ ∃ d, items[i]? = some d ∧ ∀ Z2, Same Z Z2 → Sub Z2 H → ∃ Z3, Same Z2 Z3 ∧ Sub Z3 H' ∧ (∀ b, Z3 b ≠ none → Z2 b ≠ none ∨ H b = none) ∧ Rep K Z3 x d
variable (K E) in
def PostI (Z : Hp) (τ : St) (T : Env) (σ : St) (R : It → Hp → Prop) : Out (List D) → Prop
  | .ok items env => ∀ (J : It) (H' Z' : Hp) (F' : Fp), Same Z Z' → Ok K Z' H' (τ ++ σ) (T ++ env) F' → WalkD K J items Z' → R J H'
  | .ex x env => PostX K E Z τ T σ x env
  | .no => False
variable (K E) in
def tI (m : M (List D)) : TI := fun σ H R => ∃ (Z : Hp) (τ : St) (T env : Env) (F : Fp), Ok K Z H (τ ++ σ) (T ++ env) F ∧ τ.length = T.length ∧ PostI K E Z τ T σ R (m env)
theorem PostI.mono {R : It → Hp → Prop} : ∀ {o : Out (List D)}, Same Z Z' → PostI K E Z τ T σ R o → PostI K E Z' τ T σ R o
  | .ok o env, s, h => fun v H1 Z1 F1 s1 => h v H1 Z1 F1 (s.trans s1)
  | .ex x env, s, h => PostX.mono s h
  | .no, _, h => h
/-- behind an iterator -/
theorem bindI {β : Type} (P : Hp → Out β → Prop) (pm : ∀ {Z Z' o}, Same Z Z' → P Z o → P Z' o) (px : ∀ {x env}, P Z (.ex x env) → PostX K E Z τ T σ x env) (pn : ∀ {Z}, P Z .no → False) {o : Out (List D)} {g : List D → Env → Out β} (h : P Z (o.bind g)) :
    PostI K E Z τ T σ (fun J H2 => ∃ (Z2 : Hp) (F2 : Fp) (ys : List D) (e2 : Env), Same Z Z2 ∧ Ok K Z2 H2 (τ ++ σ) (T ++ e2) F2 ∧ WalkD K J ys Z2 ∧ P Z2 (g ys e2)) o := by
  cases o with
  | ok y e2 =>
    intro J H2 Z2 F2 s ok wk
    exact ⟨Z2, F2, y, e2, s, ok, wk, pm s h⟩
  | ex x e2 => exact px h
  | no => exact pn h
theorem stepEI {R' : It → Hp → Prop} (e : ρ.length = R.length) {o : Out O} {g : O → Env → Out (List D)} (h : PostI K E Z τ T σ R' (o.bind g)) :
    PostE K E Z (ρ ++ τ) (R ++ T) σ (fun u H2 => ∃ (Z2 : Hp) (F2 : Fp) (y : O) (e2 : Env), Same Z Z2 ∧ Ok K Z2 H2 (some u :: (ρ ++ (τ ++ σ))) (some y :: (R ++ (T ++ e2))) F2 ∧ PostI K E Z2 τ T σ R' (g y e2)) o :=
  bindE (fun Z o => PostI K E Z τ T σ R' o) (fun s h => PostI.mono s h) (fun h => h) (fun h => h) e h
/-- a list, a tuple: laid down for good while it is walked -/
def iSeqL (m : M O) : M (List D) := fun env => (m env).bind fun x e => match x.toD with
  | .lst ds => .ok ds e
  | _ => .no
def iSeqT (m : M O) : M (List D) := fun env => (m env).bind fun x e => match x.toD with
  | .tup ds => .ok ds e
  | _ => .no
theorem Reps.get : ∀ {vs : List V} {ds : List D} {i : Nat} {v : V}, Reps K Z vs ds → vs[i]? = some v → ∃ d, ds[i]? = some d ∧ Rep K Z v d
  | _, _, _, _, .nil, e => by simp at e
  | _, _, 0, _, .cons q _, e => by simp at e; subst e; exact ⟨_, rfl, q⟩
  | _, _, i + 1, _, .cons _ r, e => by
    obtain ⟨d, a, b⟩ := Reps.get (i := i) r (by simpa using e)
    exact ⟨d, by simpa using a, b⟩
theorem walk_l {a : Addr} {vs : List V} {ds : List D} (h : SqL K Z a vs) (r : Reps K Z vs ds) : WalkD K (Itl K a) ds Z := by
  intro H sub
  have hl : SqL K H a vs := (sub.le (K := K)).l _ _ h
  have len := Reps.length r
  refine ⟨fun i hi => ⟨vs, vs[i]'(by omega), hl, by simp [show i < vs.length by omega]⟩, ⟨vs, hl, by omega⟩, fun i x H' hi y => ?_⟩
  obtain ⟨rfl, hy⟩ := y
  have e := hy vs hl
  obtain ⟨d, e1, q⟩ := r.get e
  exact ⟨Same.refl _, d, e1, fun Z2 s2 t2 => ⟨Z2, Same.refl _, t2, fun b z => .inl z, q.mono (le_of_same s2)⟩⟩
theorem walk_t {a : Addr} {vs : List V} {ds : List D} (h : SqT K Z a vs) (r : Reps K Z vs ds) : WalkD K (Itt K a) ds Z := by
  intro H sub
  have hl : SqT K H a vs := (sub.le (K := K)).t _ _ h
  have len := Reps.length r
  refine ⟨fun i hi => ⟨vs, vs[i]'(by omega), hl, by simp [show i < vs.length by omega]⟩, ⟨vs, hl, by omega⟩, fun i x H' hi y => ?_⟩
  obtain ⟨rfl, hy⟩ := y
  have e := hy vs hl
  obtain ⟨d, e1, q⟩ := r.get e
  exact ⟨Same.refl _, d, e1, fun Z2 s2 t2 => ⟨Z2, Same.refl _, t2, fun b z => .inl z, q.mono (le_of_same s2)⟩⟩
theorem seqL_imp {m : M O} {σ : St} {H : Hp} {R : It → Hp → Prop} (h : tI K E (iSeqL m) σ H R) : iList K (tE K E m) σ H R := by
  obtain ⟨Z, τ, T, env, F, ok, hl, post⟩ := h
  refine ⟨Z, τ, T, env, F, ok, hl, (stepEI (ρ := []) (R := []) rfl post).imp fun v H1 ⟨Z1, F1, x, e1, s1, ok1, post1⟩ => ?_⟩
  obtain ⟨Z2, G, s2, ok2⟩ := ok1.freeze
  obtain ⟨v', A, B, e2, q, ok3, _⟩ := ok2.top
  cases e2
  cases q with
  | pu q =>
    cases hx : x.toD with
    | lst ds =>
      rw [hx] at post1 q
      cases q with
      | lst a b => exact ⟨_, rfl, ⟨_, (ok3.sub.le (K := K)).l _ _ a⟩, post1 _ H1 Z2 B s2 ok3 (walk_l a b)⟩
    | _ => rw [hx] at post1; exact post1.elim
theorem seqT_imp {m : M O} {σ : St} {H : Hp} {R : It → Hp → Prop} (h : tI K E (iSeqT m) σ H R) : iTup K (tE K E m) σ H R := by
  obtain ⟨Z, τ, T, env, F, ok, hl, post⟩ := h
  refine ⟨Z, τ, T, env, F, ok, hl, (stepEI (ρ := []) (R := []) rfl post).imp fun v H1 ⟨Z1, F1, x, e1, s1, ok1, post1⟩ => ?_⟩
  obtain ⟨Z2, G, s2, ok2⟩ := ok1.freeze
  obtain ⟨v', A, B, e2, q, ok3, _⟩ := ok2.top
  cases e2
  cases q with
  | pu q =>
    cases hx : x.toD with
    | tup ds =>
      rw [hx] at post1 q
      cases q with
      | tup a b => exact ⟨_, rfl, ⟨_, (ok3.sub.le (K := K)).t _ _ a⟩, post1 _ H1 Z2 B s2 ok3 (walk_t a b)⟩
    | _ => rw [hx] at post1; exact post1.elim
/-- range(n) -/
def rangeD (lo : Int) (n : Nat) : List D := (List.range n).map fun (i : Nat) => .int (lo + (i : Int))
theorem walk_r {lo : Int} {n : Nat} : WalkD K (Itr lo n) (rangeD lo n) Z := by
  intro H sub
  have len : (rangeD lo n).length = n := by simp [rangeD]
  rw [len]
  refine ⟨fun i hi => hi, Nat.le_refl _, fun i x H' hi y => ?_⟩
  obtain ⟨rfl, rfl⟩ := y
  exact ⟨Same.refl _, .int (lo + i), by simp [rangeD, hi], fun Z2 s2 t2 => ⟨Z2, Same.refl _, t2, fun b z => .inl z, .int _⟩⟩
def iRange1 (ms : M (List O)) : M (List D) := fun env => (ms env).bind fun xs e => match xs with
  | [.pu (.int j)] => if -100000 ≤ j ∧ j ≤ 100000 then .ok (rangeD 0 j.toNat) e else .no
  | _ => .no
@[simp] theorem iRange1.c (ms : M (List O)) {z : Option O} {zs : Env} : iRange1 ms (z :: zs) = ((ms (z :: zs)).bind fun xs e => match xs with
  | [.pu (.int j)] => if -100000 ≤ j ∧ j ≤ 100000 then .ok (rangeD 0 j.toNat) e else .no
  | _ => .no) := rfl
@[simp] theorem iRange1.n (ms : M (List O)) : iRange1 ms ([] : Env) = ((ms ([] : Env)).bind fun xs e => match xs with
  | [.pu (.int j)] => if -100000 ≤ j ∧ j ≤ 100000 then .ok (rangeD 0 j.toNat) e else .no
  | _ => .no) := rfl
def iRange2 (ms : M (List O)) : M (List D) := fun env => (ms env).bind fun xs e => match xs with
  | [.pu (.int i), .pu (.int j)] => if -100000 ≤ i ∧ i ≤ 100000 ∧ -100000 ≤ j ∧ j ≤ 100000 then .ok (rangeD i (j - i).toNat) e else .no
  | _ => .no
@[simp] theorem iRange2.c (ms : M (List O)) {z : Option O} {zs : Env} : iRange2 ms (z :: zs) = ((ms (z :: zs)).bind fun xs e => match xs with
  | [.pu (.int i), .pu (.int j)] => if -100000 ≤ i ∧ i ≤ 100000 ∧ -100000 ≤ j ∧ j ≤ 100000 then .ok (rangeD i (j - i).toNat) e else .no
  | _ => .no) := rfl
@[simp] theorem iRange2.n (ms : M (List O)) : iRange2 ms ([] : Env) = ((ms ([] : Env)).bind fun xs e => match xs with
  | [.pu (.int i), .pu (.int j)] => if -100000 ≤ i ∧ i ≤ 100000 ∧ -100000 ≤ j ∧ j ≤ 100000 then .ok (rangeD i (j - i).toNat) e else .no
  | _ => .no) := rfl
theorem stepLI {li : List (Option Nat)} {R' : It → Hp → Prop} (e : ρ.length = R.length) {o : Out (List O)} {g : List O → Env → Out (List D)} (h : PostI K E Z τ T σ R' (o.bind g)) :
    PostL K E li Z (ρ ++ τ) (R ++ T) σ (fun us H2 => ∃ (Z2 : Hp) (F2 : Fp) (ys : List O) (e2 : Env), Same Z Z2 ∧ us.length = ys.length ∧ IoOk σ li us ∧ Ok K Z2 H2 (us.map some ++ (ρ ++ (τ ++ σ))) (ys.map some ++ (R ++ (T ++ e2))) F2 ∧ PostI K E Z2 τ T σ R' (g ys e2)) o :=
  bindL (fun Z o => PostI K E Z τ T σ R' o) (fun s h => PostI.mono s h) (fun h => h) (fun h => h) e h
theorem range1_imp {ms : M (List O)} {li : List (Option Nat)} {σ : St} {H : Hp} {R : It → Hp → Prop} (h : tI K E (iRange1 ms) σ H R) : iRng1 (tL K E li ms) σ H R := by
  obtain ⟨Z, τ, T, env, F, ok, hl, post⟩ := h
  refine ⟨Z, τ, T, env, F, ok, hl, (stepLI (ρ := []) (R := []) rfl post).imp fun vs H1 ⟨Z1, F1, xs, e1, s1, l1, _, ok1, post1⟩ => ?_⟩
  split at post1
  · split at post1
    · rename_i j hj
      match vs, l1 with
      | [v], _ =>
        obtain ⟨e2, ok2⟩ := Ok.int (x := some v) ok1
        cases e2
        exact ⟨j, rfl, by omega, by omega, post1 _ H1 Z1 F1 (Same.refl Z1) ok2 walk_r⟩
    · exact post1.elim
  · exact post1.elim
theorem range2_imp {ms : M (List O)} {li : List (Option Nat)} {σ : St} {H : Hp} {R : It → Hp → Prop} (h : tI K E (iRange2 ms) σ H R) : iRng2 (tL K E li ms) σ H R := by
  obtain ⟨Z, τ, T, env, F, ok, hl, post⟩ := h
  refine ⟨Z, τ, T, env, F, ok, hl, (stepLI (ρ := []) (R := []) rfl post).imp fun vs H1 ⟨Z1, F1, xs, e1, s1, l1, _, ok1, post1⟩ => ?_⟩
  split at post1
  · split at post1
    · rename_i i j hj
      match vs, l1 with
      | [v, u], _ =>
        obtain ⟨e2, ok2⟩ := Ok.int (x := some v) ok1
        obtain ⟨e3, ok3⟩ := Ok.int (x := some u) ok2
        cases e2; cases e3
        exact ⟨i, j, rfl, ⟨by omega, by omega, by omega, by omega⟩, post1 _ H1 Z1 F1 (Same.refl Z1) ok3 walk_r⟩
    · exact post1.elim
  · exact post1.elim

/-! ### for -/
def loopF (g : GD) (body : M Fl) : List D → M Fl
  | [], e => .ok .nx e
  | x :: xs, e => match g (.pu x) e with
    | none => .no
    | some e1 => match body e1 with
      | .ok .nx e2 => loopF g body xs e2
      | .ok .ct e2 => loopF g body xs e2
      | .ok .bk e2 => .ok .nx e2
      | .ok (.rt r) e2 => .ok (.rt r) e2
      | .ex x e2 => .ex x e2
      | .no => .no
def sFor (mi : M (List D)) (g : GD) (body : M Fl) : M Fl := fun env => (mi env).bind fun items e => loopF g body items e
@[simp] theorem sFor.c (mi : M (List D)) (g : GD) (body : M Fl) {z : Option O} {zs : Env} : sFor mi g body (z :: zs) = ((mi (z :: zs)).bind fun items e => loopF g body items e) := rfl
@[simp] theorem sFor.n (mi : M (List D)) (g : GD) (body : M Fl) : sFor mi g body ([] : Env) = ((mi ([] : Env)).bind fun items e => loopF g body items e) := rfl
theorem drop_lt {α : Type} {xs : List α} {i : Nat} {d : α} (h : xs[i]? = some d) : xs.drop i = d :: xs.drop (i + 1) := by
  obtain ⟨hi, e⟩ := List.getElem?_eq_some_iff.mp h
  rw [← e]
  exact List.drop_eq_getElem_cons hi
/-- a turn's item is there: a new object may have been laid -/
theorem Ok.turn {x : V} {d : D} {Z3 : Hp} (ok : Ok K Z H σ env F) (s : Same H H') (s3 : Same Z Z3) (t : Sub Z3 H') (n : ∀ b, Z3 b ≠ none → Z b ≠ none ∨ H b = none) (q : Rep K Z3 x d) : Ok K Z3 H' (some x :: σ) (some (.pu d) :: env) F :=
  ((ok.same s).know s3 t fun b z => by
    cases e : Z3 b with
    | none => rfl
    | some u =>
      rcases n b (by rw [e]; simp) with w | w
      · exact absurd (ok.own b z) w
      · exact absurd w (ok.there b z)).pure q
theorem for_imp {mi : M (List D)} {wi : TI} {g : GD} {tg : TG} {body : M Fl} {tb : TS} (hi : ∀ σ H R, tI K E mi σ H R → wi σ H R) (hg : ∀ v σ H Q, tG K io g v σ H Q → tg v σ H Q) (hb : ∀ D σ H, tS K E io body D σ H → tb D σ H) {D : Ends} {σ : St} {H : Hp}
    (h : tS K E io (sFor mi g body) D σ H) : tFor wi tg tb D σ H := by
  obtain ⟨Z, τ, T, env, F, ok, hl, post⟩ := h
  refine hi σ H _ ⟨Z, τ, T, env, F, ok, hl, ?_⟩
  have st := bindI (fun Z o => PostS K E io Z τ T σ D o) (fun s h => PostS.mono s h) (fun h => h σ (Pin.refl σ)) (fun h => h) post
  cases e0 : mi env with
  | no => rw [e0] at st; exact st
  | ex x e1 => rw [e0] at st; exact st
  | ok ys0 e10 =>
  rw [e0] at st
  intro J H1 Z1' F1' s1' ok1' wk1'
  obtain ⟨Z1, F1, ys, e1, s1, ok1, wk, post1⟩ := st J H1 Z1' F1' s1' ok1' wk1'
  refine ⟨fun i m σ' H' => m = ys.length - i ∧ i ≤ ys.length ∧ ∃ (Z' : Hp) (e' : Env) (F' : Fp), Same Z1 Z' ∧ Pin io σ σ' ∧ Ok K Z' H' (τ ++ σ') (T ++ e') F' ∧ PostS K E io Z' τ T σ' D (loopF g body (ys.drop i) e'),
    ⟨ys.length, rfl, Nat.zero_le _, Z1, e1, F1, Same.refl _, Pin.refl σ, ok1, by simpa using post1⟩, ?_⟩
  rintro i m σ' H' ⟨rfl, hi', Z', e', F', s', p', ok', post'⟩
  obtain ⟨w1, w2, w3⟩ := wk H' (Same.sub s' ok'.sub)
  by_cases hlt : i < ys.length
  · refine .inr ⟨w1 i hlt, fun σ2 H2 => ∃ (Z2 : Hp) (e2 : Env) (F2 : Fp), Same Z1 Z2 ∧ Pin io σ σ2 ∧ Ok K Z2 H2 (τ ++ σ2) (T ++ e2) F2 ∧ PostS K E io Z2 τ T σ2 D (loopF g body (ys.drop (i + 1)) e2), fun σ2 H2 q => ⟨ys.length - (i + 1), by omega, rfl, hlt, q⟩, fun x H2 y => ?_⟩
    obtain ⟨sh, d, ed, hz⟩ := w3 i x H2 hlt y
    obtain ⟨Z3, s3, t3, n3, q3⟩ := hz Z' s' ok'.sub
    rw [drop_lt ed] at post'
    unfold loopF at post'
    cases eg : g (.pu d) e' with
    | none => rw [eg] at post'; exact post'.elim
    | some e2 =>
    simp only [eg] at post'
    refine hg x σ' H2 _ ⟨Z3, τ, T, e', e2, F', .pu d, ok'.turn sh s3 t3 n3 q3, hl, eg, fun σ3 H3 Z4 F3 s4 p3 ok3 => ?_⟩
    refine hb _ σ3 H3 ⟨Z4, τ, T, e2, F3, ok3, hl, ?_⟩
    have post2 := (PostS.mono (s3.trans s4) post').pin p3
    cases eb : body e2 with
    | no => simp only [eb] at post2; exact post2
    | ex x e3 => simp only [eb] at post2; exact post2
    | ok fl e3 =>
      simp only [eb] at post2
      cases fl with
      | nx => exact fun σ5 H5 Z5 F5 s5 p5 ok5 => ⟨Z5, e3, F5, (s'.trans (s3.trans s4)).trans s5, (p'.trans p3).trans p5, ok5, (PostS.mono s5 post2).pin p5⟩
      | ct => exact fun σ5 H5 Z5 F5 s5 p5 ok5 => ⟨Z5, e3, F5, (s'.trans (s3.trans s4)).trans s5, (p'.trans p3).trans p5, ok5, (PostS.mono s5 post2).pin p5⟩
      | bk => exact post2
      | rt r => exact post2
  · have e : i = ys.length := by omega
    subst e
    refine .inl ⟨w2, ?_⟩
    rw [List.drop_length] at post'
    exact post' σ' H' Z' F' (Same.refl _) (Pin.refl σ') ok'

/-! ### while -/
def loopW (c : M Bool) (body : M Fl) : Nat → M Fl
  | 0, _ => .no
  | k + 1, e => match c e with
    | .ok true e1 => (match body e1 with
      | .ok .nx e2 => loopW c body k e2
      | .ok .ct e2 => loopW c body k e2
      | .ok .bk e2 => .ok .nx e2
      | .ok (.rt r) e2 => .ok (.rt r) e2
      | .ex x e2 => .ex x e2
      | .no => .no)
    | .ok false e1 => .ok .nx e1
    | .ex x e2 => .ex x e2
    | .no => .no
theorem while_imp {n : Nat} {c : M Bool} {tc : TT} {body : M Fl} {tb : TS} (hc : ∀ σ H Q, tT K E c σ H Q → tc σ H Q) (hb : ∀ D σ H, tS K E io body D σ H → tb D σ H) {D : Ends} {σ : St} {H : Hp} (h : tS K E io (loopW c body n) D σ H) : tWhile tc tb D σ H := by
  obtain ⟨Z, τ, T, env, F, ok, hl, post⟩ := h
  refine ⟨fun m σ' H' => ∃ (Z' : Hp) (e' : Env) (F' : Fp), Pin io σ σ' ∧ Ok K Z' H' (τ ++ σ') (T ++ e') F' ∧ PostS K E io Z' τ T σ' D (loopW c body m e'), ⟨n, Z, env, F, Pin.refl σ, ok, post⟩, ?_⟩
  rintro m σ' H' ⟨Z', e', F', p', ok', post'⟩
  cases m with
  | zero => exact post'.elim
  | succ k =>
  unfold loopW at post'
  refine hc σ' H' _ ⟨Z', τ, T, e', F', ok', hl, ?_⟩
  cases ec : c e' with
  | no => rw [ec] at post'; exact post'
  | ex x e1 => rw [ec] at post'; exact post' σ' (Pin.refl σ')
  | ok b e1 =>
  rw [ec] at post'
  intro H1 Z1 F1 s1 ok1
  cases b with
  | false =>
    show D.nx σ' H1
    exact PostS.mono s1 post' σ' H1 Z1 F1 (Same.refl _) (Pin.refl σ') ok1
  | true =>
    refine ⟨fun σ2 H2 => ∃ (Z2 : Hp) (e2 : Env) (F2 : Fp), Pin io σ σ2 ∧ Ok K Z2 H2 (τ ++ σ2) (T ++ e2) F2 ∧ PostS K E io Z2 τ T σ2 D (loopW c body k e2), fun σ2 H2 q => ⟨k, Nat.lt_succ_self k, q⟩, hb _ σ' H1 ⟨Z1, τ, T, e1, F1, ok1, hl, ?_⟩⟩
    have post2 : PostS K E io Z1 τ T σ' D _ := PostS.mono s1 post'
    cases eb : body e1 with
    | no => simp only [eb] at post2; exact post2
    | ex x e3 => simp only [eb] at post2; exact post2
    | ok fl e3 =>
      simp only [eb] at post2
      cases fl with
      | nx => exact fun σ5 H5 Z5 F5 s5 p5 ok5 => ⟨Z5, e3, F5, p'.trans p5, ok5, (PostS.mono s5 post2).pin p5⟩
      | ct => exact fun σ5 H5 Z5 F5 s5 p5 ok5 => ⟨Z5, e3, F5, p'.trans p5, ok5, (PostS.mono s5 post2).pin p5⟩
      | bk => exact post2
      | rt r => exact post2

/-! ### comprehensions -/
@[simp] def wipeE (e : Env) : List Nat → Env
  | [] => e
  | i :: is => (wipeE e is).set i none
def loopC (own : List Nat) (g : GD) (c : M Bool) (elt : M O) : List D → List O → Env → Out (List O)
  | [], acc, e => .ok acc e
  | x :: xs, acc, e => match g (.pu x) (wipeE e own) with
    | none => .no
    | some e1 => match c e1 with
      | .ok false e2 => loopC own g c elt xs acc (wipeE e2 own)
      | .ok true e2 => (match elt e2 with
        | .ok y e3 => if acc.length < 100000 then loopC own g c elt xs (acc ++ [y]) (wipeE e3 own) else .no
        | _ => .no)
      | _ => .no
def eLc (own : List Nat) (mi : M (List D)) (g : GD) (c : M Bool) (elt : M O) : M O := fun env => (mi env).bind fun items e => match loopC own g c elt items [] e with
  | .ok acc e1 => .ok (.li acc) (wipeE e1 own)
  | _ => .no
@[simp] theorem eLc.c (own : List Nat) (mi : M (List D)) (g : GD) (c : M Bool) (elt : M O) {z : Option O} {zs : Env} : eLc own mi g c elt (z :: zs) = ((mi (z :: zs)).bind fun items e => match loopC own g c elt items [] e with
  | .ok acc e1 => .ok (.li acc) (wipeE e1 own)
  | _ => .no) := rfl
@[simp] theorem eLc.n (own : List Nat) (mi : M (List D)) (g : GD) (c : M Bool) (elt : M O) : eLc own mi g c elt ([] : Env) = ((mi ([] : Env)).bind fun items e => match loopC own g c elt items [] e with
  | .ok acc e1 => .ok (.li acc) (wipeE e1 own)
  | _ => .no) := rfl
def cYes : M Bool := fun e => .ok true e
@[simp] theorem cYes.c {z : Option O} {zs : Env} : cYes (z :: zs) = (.ok true (z :: zs)) := rfl
@[simp] theorem cYes.n : cYes ([] : Env) = (.ok true ([] : Env)) := rfl
theorem yes_imp {E : XK} {σ : St} {H : Hp} {Q : Bool → Hp → Prop} (h : tT K E cYes σ H Q) : tYes σ H Q := by
  obtain ⟨Z, τ, T, env, F, ok, hl, post⟩ := h
  exact post H Z F (Same.refl Z) ok
theorem Ok.wipe (own : List Nat) : ∀ {env : Env} {F : Fp}, τ.length = T.length → Ok K Z H (τ ++ σ) (T ++ env) F → Ok K Z H (τ ++ L2.wipe σ own) (T ++ wipeE env own) F := by
  induction own with
  | nil => intro env F _ h; exact h
  | cons i is ih =>
    intro env F hl h
    have p := (ih hl h)
    have q := p.sl.wipe (i := τ.length + i) (x := none)
    rw [set_under hl, set_underS] at q
    exact p.dn q fun b => Nat.le_refl _
/-- the block's own slots forgotten on the value side alone -/
theorem RepSl.wipeV : ∀ {i : Nat} {σ : St} {env : Env} {F : Fp} {x : Option V}, RepSl K Z H σ env F → env[i]? = some none ∨ env.length ≤ i → RepSl K Z H (σ.set i x) env F
  | _, _, _, _, _, .nil, _ => .nil
  | 0, _, _, _, _, .no r, _ => .no r
  | 0, _, _, _, _, .so h r i, e => by simp at e
  | i + 1, _, _, _, _, .no r, e => .no (r.wipeV (by simpa using e))
  | i + 1, _, _, _, _, .so h r j, e => .so h (r.wipeV (by simpa using e)) j
theorem wipeE_len (e : Env) : ∀ own : List Nat, (wipeE e own).length = e.length
  | [] => rfl
  | i :: is => by rw [wipeE, List.length_set, wipeE_len e is]
theorem wipeE_at (e : Env) : ∀ (own : List Nat) (i : Nat), i ∈ own → (wipeE e own)[i]? = some none ∨ (wipeE e own).length ≤ i
  | j :: is, i, h => by
    rw [wipeE]
    by_cases c : j = i
    · subst c
      rcases Nat.lt_or_ge j (wipeE e is).length with h' | h'
      · left; rw [List.getElem?_set_self h']
      · right; simpa using h'
    · rw [List.getElem?_set_ne c, List.length_set]
      rcases List.mem_cons.mp h with h | h
      · exact absurd h.symm c
      · exact wipeE_at e is i h
/-- own slots of the value side may be anything where the tree side has none -/
theorem Ok.swapW (own : List Nat) {σ' : St} (hl : τ.length = T.length) (hw : L2.wipe σ' own = L2.wipe σ own) (h : Ok K Z H (τ ++ σ') (T ++ env) F) : Ok K Z H (τ ++ σ) (T ++ wipeE env own) F := by
  have h1 := h.wipe own hl
  rw [hw] at h1
  -- put σ's own values back over the wiped ones
  refine h1.dn (G := F) ?_ fun b => Nat.le_refl _
  have lenσ : (τ ++ L2.wipe σ own).length = (T ++ wipeE env own).length := h1.sl.len
  -- pointwise: wherever the tree side has something, the value sides agree
  have key : ∀ (is : List Nat) (s : St), (∀ i, i ∈ is → i ∈ own) → RepSl K Z H (τ ++ L2.wipe s is) (T ++ wipeE env own) F → RepSl K Z H (τ ++ s) (T ++ wipeE env own) F := by
    intro is
    induction is with
    | nil => intro s _ q; exact q
    | cons i is ih =>
      intro s hm q
      refine ih s (fun j hj => hm j (List.mem_cons_of_mem _ hj)) ?_
      have e : ((L2.wipe s is).set i none).set i ((L2.wipe s is)[i]?.getD none) = L2.wipe s is := by
        rw [List.set_set]
        apply List.ext_getElem?
        intro j
        by_cases c : i = j
        · subst c
          rcases Nat.lt_or_ge i (L2.wipe s is).length with h' | h'
          · rw [List.getElem?_set_self h', List.getElem?_eq_getElem h']; rfl
          · rw [List.getElem?_eq_none (by simpa using h'), List.getElem?_eq_none h']
        · rw [List.getElem?_set_ne c]
      have q' : RepSl K Z H (τ ++ (L2.wipe s is).set i none) (T ++ wipeE env own) F := q
      have w := wipeE_at env own i (hm i List.mem_cons_self)
      have p := q'.wipeV (i := τ.length + i) (x := (L2.wipe s is)[i]?.getD none) (by
        rw [hl, List.getElem?_append_right (by omega), List.length_append]
        rcases w with w | w
        · left; simpa using w
        · right; omega)
      rw [set_underS, e] at p
      exact p
  exact key own σ (fun _ h => h) h1.sl
theorem RepOs.snoc {y : V} {yo : O} {A : Fp} : ∀ {vs : List V} {os : List O} {F1 : Fp}, RepOs K Z H vs os F1 → RepO K Z H y yo A → RepOs K Z H (vs ++ [y]) (os ++ [yo]) (fun b => F1 b + A b)
  | _, _, _, .nil, q => .cons (F2 := fun _ => 0) q .nil fun b => by simp
  | _, _, F1, .cons (F1 := B) (F2 := C) h r i, q => .cons (F2 := fun b => C b + A b) h (r.snoc q) fun b => by have := i b; show B b + (C b + A b) ≤ F1 b + A b; omega
theorem Ok.addTop {y : V} {yo : O} {os : List O} {D : Addr} (ok : Ok K Z H (some y :: some (.ref D) :: σ) (some yo :: some (.li os) :: env) F) : ∃ acc, H D = some (.lst acc) ∧ acc.length = os.length ∧ Ok K Z (upd H D (.lst (acc ++ [y]))) (some (.ref D) :: σ) (some (.li (os ++ [yo])) :: env) F := by
  cases ok.sl with
  | @so _ _ _ _ A B _ q r i =>
    cases r with
    | @so _ _ _ _ A1 B1 _ q1 r1 i1 =>
      cases q1 with
      | @li _ acc _ A2 _ hD qs j =>
        refine ⟨acc, hD, qs.len, ?_⟩
        have dl : 1 ≤ A1 D := by have := j D; rw [one_self] at this; omega
        have nz : ∀ b, b ≠ D → upd H D (.lst (acc ++ [y])) b = H b := fun b h => upd_ne h
        have le1 := ok.le
        have neA : ∀ b, 0 < A b → b ≠ D := fun b z w => by subst w; have := i b; have := i1 b; have := le1 b; omega
        have neB : ∀ b, 0 < B1 b → b ≠ D := fun b z w => by subst w; have := i b; have := i1 b; have := le1 b; omega
        have neA2 : ∀ b, 0 < A2 b → b ≠ D := fun b z w => by subst w; have := j b; rw [one_self] at this; have := i b; have := i1 b; have := le1 b; omega
        refine ⟨fun b u e => ?_, .so (F1 := fun b => A1 b + A b) (F2 := B1) (.li upd_same ((qs.mono Le.refl (fun b z => nz b (neA2 b z)) fun b => Nat.le_refl _).snoc (q.mono Le.refl (fun b z => nz b (neA b z)) fun b => Nat.le_refl _)) fun b => by have := j b; show one D b + (A2 b + A b) ≤ A1 b + A b; omega) (r1.mono Le.refl (fun b z => nz b (neB b z)) fun b => Nat.le_refl _) fun b => by have := i b; have := i1 b; show A1 b + A b + B1 b ≤ F b; omega, ok.le, ok.own, fun b z => ?_⟩
        · have : b ≠ D := fun w => by
            subst w
            have := ok.own b (by have := i b; have := i1 b; omega)
            rw [this] at e; cases e
          rw [upd_ne this]
          exact ok.sub b u e
        · by_cases w : b = D
          · rw [w, upd_same]; simp
          · rw [upd_ne w]; exact ok.there b z
/-- .. with what stood under it -/
theorem lc_imp {E : XK} {own : List Nat} {mi : M (List D)} {wi : TI} {g : GD} {tg : TG} {c : M Bool} {tc : TT} {elt : M O} {te : TE} (hi : ∀ σ H R, tI K E mi σ H R → wi σ H R) (hg : ∀ v σ H Q, tG K (fun i => !own.contains i) g v σ H Q → tg v σ H Q)
    (hc : ∀ σ H Q, tT K E0 c σ H Q → tc σ H Q) (he : ∀ σ H Q, tE K E0 elt σ H Q → te σ H Q) {σ : St} {H : Hp} {Q : VK} (h : tE K E (eLc own mi g c elt) σ H Q) : tLc wi tg tc te own σ H Q := by
  obtain ⟨Z, τ, T, env, F, ok, hl, post⟩ := h
  refine hi σ H _ ⟨Z, τ, T, env, F, ok, hl, ?_⟩
  have st := bindI (fun Z o => PostE K E Z τ T σ Q o) (fun s h => PostE.mono s h) (fun h => h) (fun h => h) post
  cases e0 : mi env with
  | no => rw [e0] at st; exact st
  | ex x e1 => rw [e0] at st; exact st
  | ok ys0 e10 =>
  rw [e0] at st
  intro J H1 Z1' F1' s1' ok1' wk1' D hD
  obtain ⟨Z1, F1, ys, e1, s1, ok1, wk, post1⟩ := st J H1 Z1' F1' s1' ok1' wk1'
  have ok2 := Ok.newL (vs := []) (os := []) (F1 := fun _ => 0) (F2 := F1) ok1 ok1.sl .nil (fun b => by simp) hD
  refine ⟨fun i m H' => m = ys.length - i ∧ i ≤ ys.length ∧ ∃ (Z' : Hp) (acc : List O) (e' : Env) (F' : Fp), Same Z1 Z' ∧ Ok K Z' H' (some (.ref D) :: (τ ++ σ)) (some (.li acc) :: (T ++ e')) F' ∧
      PostE K E Z' τ T σ Q (match loopC own g c elt (ys.drop i) acc e' with
        | .ok acc e1 => .ok (.li acc) (wipeE e1 own)
        | _ => .no),
    ⟨ys.length, rfl, Nat.zero_le _, Z1, [], e1, _, Same.refl _, ok2, by simpa using post1⟩, ?_⟩
  rintro i m H' ⟨rfl, hi', Z', acc, e', F', s', ok', post'⟩
  obtain ⟨w1, w2, w3⟩ := wk H' (Same.sub s' ok'.sub)
  by_cases hlt : i < ys.length
  · refine .inr ⟨w1 i hlt, fun H2 => ∃ (Z2 : Hp) (acc : List O) (e2 : Env) (F2 : Fp), Same Z1 Z2 ∧ Ok K Z2 H2 (some (.ref D) :: (τ ++ σ)) (some (.li acc) :: (T ++ e2)) F2 ∧
        PostE K E Z2 τ T σ Q (match loopC own g c elt (ys.drop (i + 1)) acc e2 with
          | .ok acc e1 => .ok (.li acc) (wipeE e1 own)
          | _ => .no), fun H2 q => ⟨ys.length - (i + 1), by omega, rfl, hlt, q⟩, fun x H2 y => ?_⟩
    obtain ⟨sh, d, ed, hz⟩ := w3 i x H2 hlt y
    obtain ⟨Z3, s3, t3, n3, q3⟩ := hz Z' s' ok'.sub
    rw [drop_lt ed] at post'
    unfold loopC at post'
    cases eg : g (.pu d) (wipeE e' own) with
    | none => rw [eg] at post'; exact post'.elim
    | some e2 =>
    simp only [eg] at post'
    have okw := Ok.wipe (τ := some (.ref D) :: τ) (T := some (.li acc) :: T) own (by simp [hl]) ok'
    refine hg x _ H2 _ ⟨Z3, some (.ref D) :: τ, some (.li acc) :: T, wipeE e' own, e2, F', .pu d, okw.turn sh s3 t3 n3 q3, by simp [hl], eg, fun σ3 H3 Z4 F3 s4 p3 ok3 => ?_⟩
    have hw : L2.wipe σ3 own = L2.wipe σ own := by
      apply List.ext_getElem?
      intro j
      have e1 : (L2.wipe σ3 own).length = (L2.wipe σ own).length := by rw [wipe_length, p3.1]
      by_cases c : j ∈ own
      · have n1 : ∀ (s : St) (is : List Nat), j ∈ is → (L2.wipe s is)[j]? = if j < s.length then some none else none := by
          intro s is
          induction is with
          | nil => intro h; cases h
          | cons k ks ih =>
            intro h
            show ((L2.wipe s ks).set k none)[j]? = _
            by_cases ck : k = j
            · subst ck
              by_cases hk : k < s.length
              · rw [List.getElem?_set_self (by rw [wipe_length]; exact hk), if_pos hk]
              · rw [List.getElem?_eq_none (by rw [List.length_set, wipe_length]; omega), if_neg hk]
            · rw [List.getElem?_set_ne ck]
              exact ih ((List.mem_cons.mp h).resolve_left fun e => ck e.symm)
        rw [n1 σ3 own c, n1 σ own c]
        have : σ3.length = σ.length := by rw [p3.1, wipe_length]
        rw [this]
      · have n2 : ∀ (s : St) (is : List Nat), j ∉ is → (L2.wipe s is)[j]? = s[j]? := by
          intro s is
          induction is with
          | nil => intro _; rfl
          | cons k ks ih =>
            intro h
            show ((L2.wipe s ks).set k none)[j]? = _
            rw [List.getElem?_set_ne (fun e : k = j => h (by rw [e]; exact List.mem_cons_self))]
            exact ih fun hm => h (List.mem_cons_of_mem _ hm)
        rw [n2 σ3 own c, p3.2 j (by simpa using c)]
    refine ⟨hw, hc σ3 H3 _ ⟨Z4, some (.ref D) :: τ, some (.li acc) :: T, e2, F3, ok3, by simp [hl], ?_⟩⟩
    have post2 := PostE.mono (s3.trans s4) post'
    cases ec : c e2 with
    | no => simp only [ec] at post2; exact post2.elim
    | ex x e3 => simp only [ec] at post2; exact post2.elim
    | ok b e3 =>
    intro H5 Z5 F5 s5 ok5
    cases b with
    | false =>
      simp only [ec] at post2
      show ∃ (Z2 : Hp) (acc : List O) (e2 : Env) (F2 : Fp), _
      have ok6 := Ok.swapW (τ := some (.ref D) :: τ) (T := some (.li acc) :: T) own (by simp [hl]) hw ok5
      exact ⟨Z5, acc, _, F5, (s'.trans (s3.trans s4)).trans s5, ok6, PostE.mono s5 post2⟩
    | true =>
      simp only [ec] at post2
      show te σ3 H5 _
      refine he σ3 H5 _ ⟨Z5, some (.ref D) :: τ, some (.li acc) :: T, e3, F5, ok5, by simp [hl], ?_⟩
      cases ee : elt e3 with
      | no => simp only [ee] at post2; exact post2.elim
      | ex x e4 => simp only [ee] at post2; exact post2.elim
      | ok yo e4 =>
        simp only [ee] at post2
        by_cases hz : acc.length < 100000
        · simp only [if_pos hz] at post2
          intro y H6 Z6 F6 s6 ok6
          obtain ⟨vs, hD6, hlen, ok7⟩ := Ok.addTop ok6
          refine ⟨vs, hD6, Nat.lt_of_lt_of_le (by omega : vs.length < 100000) (by decide), ?_⟩
          have ok8 := Ok.swapW (τ := some (.ref D) :: τ) (T := some (.li (acc ++ [yo])) :: T) own (by simp [hl]) hw ok7
          exact ⟨Z6, acc ++ [yo], _, F6, ((s'.trans (s3.trans s4)).trans s5).trans s6, ok8, PostE.mono (s5.trans s6) post2⟩
        · simp only [if_neg hz] at post2
          exact post2.elim
  · have e : i = ys.length := by omega
    subst e
    refine .inl ⟨w2, ?_⟩
    rw [List.drop_length] at post'
    have ok9 := Ok.swapW (τ := some (.ref D) :: τ) (T := some (.li acc) :: T) (σ' := σ) own (by simp [hl]) rfl ok'
    exact post' _ H' Z' F' (Same.refl _) ok9
end
end Ws

namespace Ws
open PySem L2 PySem.W PyProof.Rows PySem.Calls
/-! ### a, *b = t -/
section
variable {prog : Program} {w : World} {A : Around} {E : Value → Shared → Prop} {s : Shared} {env : PySem.Env}
theorem star_t {l : Addr} {its : Array Value} {n i : Nat} {Q : List Value → Shared → Prop} (ht : IsTup s.heap l its) (quiet : A.handled = none) (hi : i < n) (hn : n ≤ its.size + 1) (hz : its.size ≤ 16384)
    (k : ∀ (h2 : Heap) (tk : Nat), (∀ b o, s.heap.get? b = some o → h2.get? b = some o) →
      wpAny (model prog w) A (newList ((its.toList.drop i).take (its.size + 1 - n)) >>= fun d => Pure.pure (its.toList.take i ++ [d] ++ (its.toList.drop i).drop (its.size + 1 - n))) Q E { s with heap := h2, toks := tk }) :
    wpAny (model prog w) A (unpackItems (.ref l) n (some i)) Q E s := by
  have below : l < s.heap.objs.size := by obtain ⟨o, e, _⟩ := ht; exact Heap.lt_size e
  have apart : l ≠ s.heap.objs.size := Nat.ne_of_lt below
  unfold unpackItems
  apply wpAny_bind
  unfold notIterableAtAll
  apply wpAny_bind
  apply wpAny_specialOf ht.typeIs slot_tuple_iter.lookup
  apply wpAny_pure
  simp only [Bool.false_eq_true, if_false]
  apply wpAny_bind
  apply wpAny_holding
  apply iter_tuple ht
  apply wpAny_bind
  apply wpAny_holding
  refine draw_tuple apart i 0 _ _ ⟨_, Heap.get?_push_size _ rfl, rfl, rfl⟩ (ht.push _) (by omega) fun g hit kept => ?_
  have htg : IsTup g l its := (ht.push _).extBut kept.extBut apart
  rw [Nat.zero_add] at hit
  obtain ⟨oi, hoi, _⟩ := id hit
  obtain ⟨ol, hol, _⟩ := id htg
  rw [List.drop_zero]
  have first : (its.toList.take i).length = i := by rw [List.length_take, Array.length_toList]; omega
  have more : (its.toList.drop i).length = its.size - i := by rw [List.length_drop, Array.length_toList]
  rw [if_neg (by rw [first]; omega)]
  apply wpAny_bind
  apply wpAny_holding
  refine kun_collect (s := { s with heap := g }) (T := "tuple_iterator") (.inr (.inr (.inr rfl))) (Walks.tuple (A := A.in1) quiet s.heap.objs.size l apart its) (fun _ _ st => st.1.typeIs) (k := i) (by omega) ⟨hit, htg⟩ (Heap.lt_size hoi) (Heap.lt_size hol) (fun g2 tk kp => ?_) (by rw [sizeLine_eq]; omega)
  have cnt : (its.toList.drop i).length - (n - 1 - i) = its.size + 1 - n := by rw [more]; omega
  show wpAny _ _ (if (its.toList.drop i).length < n - 1 - i then _ else _) _ _ _
  rw [if_neg (by rw [more]; omega)]
  show wpAny _ _ (newList ((its.toList.drop i).take ((its.toList.drop i).length - (n - 1 - i))) >>= fun d => Pure.pure (its.toList.take i ++ [d] ++ (its.toList.drop i).drop ((its.toList.drop i).length - (n - 1 - i)))) _ _ _
  rw [cnt]
  have all : ∀ b o, s.heap.get? b = some o → g2.get? b = some o := fun b o e => kp b o (Nat.ne_of_lt (Heap.lt_size e)) (kept.extBut b o (Nat.ne_of_lt (Heap.lt_size e)) (Heap.get?_push_of_some _ e))
  exact k g2 tk all
theorem star_l {l : Addr} {its : Array Value} {n i : Nat} {Q : List Value → Shared → Prop} (ht : s.heap.IsList l its) (quiet : A.handled = none) (hi : i < n) (hn : n ≤ its.size + 1) (hz : its.size ≤ 16384)
    (k : ∀ (h2 : Heap) (tk : Nat), (∀ b o, s.heap.get? b = some o → h2.get? b = some o) →
      wpAny (model prog w) A (newList ((its.toList.drop i).take (its.size + 1 - n)) >>= fun d => Pure.pure (its.toList.take i ++ [d] ++ (its.toList.drop i).drop (its.size + 1 - n))) Q E { s with heap := h2, toks := tk }) :
    wpAny (model prog w) A (unpackItems (.ref l) n (some i)) Q E s := by
  have below : l < s.heap.objs.size := by obtain ⟨o, e, _⟩ := ht; exact Heap.lt_size e
  have apart : l ≠ s.heap.objs.size := Nat.ne_of_lt below
  unfold unpackItems
  apply wpAny_bind
  unfold notIterableAtAll
  apply wpAny_bind
  apply wpAny_specialOf ht.typeIs slot_list_iter.lookup
  apply wpAny_pure
  simp only [Bool.false_eq_true, if_false]
  apply wpAny_bind
  apply wpAny_holding
  apply wpAny_pyIter_list ht
  apply wpAny_bind
  apply wpAny_holding
  refine kun_draw apart i 0 _ _ ⟨_, Heap.get?_push_size _ rfl, rfl, rfl⟩ (ht.push _) (by omega) fun g hit kept => ?_
  have htg : g.IsList l its := (ht.push _).extBut kept.extBut apart
  rw [Nat.zero_add] at hit
  obtain ⟨oi, hoi, _⟩ := id hit
  obtain ⟨ol, hol, _⟩ := id htg
  rw [List.drop_zero]
  have first : (its.toList.take i).length = i := by rw [List.length_take, Array.length_toList]; omega
  have more : (its.toList.drop i).length = its.size - i := by rw [List.length_drop, Array.length_toList]
  rw [if_neg (by rw [first]; omega)]
  apply wpAny_bind
  apply wpAny_holding
  refine kun_collect (s := { s with heap := g }) (T := "list_iterator") (.inr (.inr (.inl rfl))) (Walks.list (A := A.in1) quiet s.heap.objs.size l apart its) (fun _ _ st => st.1.typeIs) (k := i) (by omega) ⟨hit, htg⟩ (Heap.lt_size hoi) (Heap.lt_size hol) (fun g2 tk kp => ?_) (by rw [sizeLine_eq]; omega)
  have cnt : (its.toList.drop i).length - (n - 1 - i) = its.size + 1 - n := by rw [more]; omega
  show wpAny _ _ (if (its.toList.drop i).length < n - 1 - i then _ else _) _ _ _
  rw [if_neg (by rw [more]; omega)]
  show wpAny _ _ (newList ((its.toList.drop i).take ((its.toList.drop i).length - (n - 1 - i))) >>= fun d => Pure.pure (its.toList.take i ++ [d] ++ (its.toList.drop i).drop ((its.toList.drop i).length - (n - 1 - i)))) _ _ _
  rw [cnt]
  exact k g2 tk fun b o e => kp b o (Nat.ne_of_lt (Heap.lt_size e)) (kept.extBut b o (Nat.ne_of_lt (Heap.lt_size e)) (Heap.get?_push_of_some _ e))
end
section
variable {X : Cx}
def gStar (K : PySem.W.Frag) (n i : Nat) (t : TGs) : TG := fun v σ H Q => ∃ a xs, v = .ref a ∧ (SqT K H a xs ∨ SqL K H a xs) ∧ n ≤ xs.length + 1 ∧ xs.length ≤ 16384 ∧
  ∀ p, H p = none → t (xs.take i ++ [.ref p] ++ (xs.drop i).drop (xs.length + 1 - n)) σ (upd H p (.lst ((xs.drop i).take (xs.length + 1 - n)))) Q
theorem pg_star {es : List Expr} {k : Nat} {t : TGs} {n i : Nat} {pos : Pos} (hc : X.calm = true) (h : PGs X es t) (hi : i < n)
    (hn : (assignEach es X.env).length = n := by rfl) (hst : (assignEach es X.env).findIdx? (·.1) = some i := by rfl) : PG X (.Tuple es k pos) (gStar X.K n i t) := by
  refine ⟨fun pins s σ H v u Q I r hw => ?_⟩
  obtain ⟨a, xs, rfl, hq, hl, hz, hw⟩ := hw
  cases (show u = Value.ref a from r)
  rw [PyProof.Rows.assign_Tuple]
  apply wpAny_bind
  apply wpAny_standAt
  unfold unpack
  rw [hn, hst]
  apply wpAny_bind
  apply wpAny_holding
  have fin : ∀ (its : List Value), Vals xs its → ∀ (h2 : Heap) (tk : Nat), (∀ b o, s.heap.get? b = some o → h2.get? b = some o) →
      wpAny (model X.prog X.w) X.A (newList ((its.toArray.toList.drop i).take (its.toArray.size + 1 - n)) >>= fun d => Pure.pure (its.toArray.toList.take i ++ [d] ++ (its.toArray.toList.drop i).drop (its.toArray.size + 1 - n)))
        (fun vs s' => wpAny (model X.prog X.w) X.A (assignInOrder ((assignEach es X.env).map (·.2)) vs) (fun _ s' => ∃ σ' H', Inv X pins σ' H' s' ∧ Q σ' H') X.xe s') X.xe { s with heap := h2, toks := tk } := by
    intro its rv h2 tk kp
    have e2 : its.toArray.toList = its := rfl
    have e3 : its.toArray.size = xs.length := by rw [List.size_toArray]; exact rv.length.symm
    rw [e2, e3]
    apply wpAny_bind
    have small : ((xs.drop i).take (xs.length + 1 - n)).length ≤ sizeLine := by
      rw [List.length_take, List.length_drop, sizeLine_eq]; omega
    have small2 : ((its.drop i).take (xs.length + 1 - n)).length ≤ sizeLine := by
      rw [List.length_take, List.length_drop, sizeLine_eq, ← rv.length]; omega
    refine wpAny_newList ?_ small2
    apply wpAny_pure
    have I2 : Inv X pins σ H { s with heap := h2, toks := tk } := I.kept kp
    have I3 := I2.lnew (t' := tk) ((rv.drop i).take (xs.length + 1 - n)) small
    refine h.run pins _ σ _ _ _ Q I3 ?_ (hw h2.objs.size I2.fresh)
    exact ((rv.take i).append (.cons (show L2.RelV (.ref h2.objs.size) (.ref h2.objs.size) from rfl) .nil)).append ((rv.drop i).drop (xs.length + 1 - n))
  rcases hq with hq | hq
  · obtain ⟨its, rv, ht, _⟩ := I.tuple hq
    have e3 : its.toArray.size = xs.length := by rw [List.size_toArray]; exact rv.length.symm
    exact star_t ht (I.ok.hd hc) hi (by rw [e3]; exact hl) (by rw [e3]; exact hz) (fin its rv)
  · obtain ⟨its, rv, ht, _⟩ := I.list hq
    have e3 : its.toArray.size = xs.length := by rw [List.size_toArray]; exact rv.length.symm
    exact star_l ht.isList (I.ok.hd hc) hi (by rw [e3]; exact hl) (by rw [e3]; exact hz) (fin its rv)
theorem pgs_star {e : Expr} {es : List Expr} {t : TG} {u : TGs} {pos : Pos} (h1 : PG X e t) (h2 : PGs X es u) : PGs X (.Starred e pos :: es) (gCons t u) := by
  refine ⟨fun pins s σ H vs us Q I r h => ?_⟩
  obtain ⟨v, vr, rfl, h⟩ := h
  cases r with
  | cons r rr =>
    show wpAny _ _ (assignInOrder (assign e X.env :: (assignEach es X.env).map (·.2)) _) _ _ _
    refine assignInOrder_cons (thn (h1.run pins s σ H _ _ _ I r h) fun _ s1 ⟨σ1, H1, I1, q1⟩ => ?_)
    exact h2.run pins s1 σ1 H1 _ _ Q I1 rr q1
end
section
variable {K : PySem.W.Frag} {Z H : Hp} {σ τ : L2.St} {T env : Ws.Env} {F : Fp} {io : Nat → Bool}
theorem Reps.take {vs : List V} {ds : List D} (h : Reps K Z vs ds) (n : Nat) : Reps K Z (vs.take n) (ds.take n) := by
  induction n generalizing vs ds with
  | zero => exact .nil
  | succ n ih =>
    cases h with
    | nil => exact .nil
    | cons q r => exact .cons q (ih r)
theorem Reps.drop {vs : List V} {ds : List D} (h : Reps K Z vs ds) (n : Nat) : Reps K Z (vs.drop n) (ds.drop n) := by
  induction n generalizing vs ds with
  | zero => exact h
  | succ n ih =>
    cases h with
    | nil => exact .nil
    | cons q r => exact ih r
theorem Reps.append {vs us : List V} {ds es : List D} (h : Reps K Z vs ds) (g : Reps K Z us es) : Reps K Z (vs ++ us) (ds ++ es) := by
  cases h with
  | nil => exact g
  | cons q r => exact .cons q (Reps.append r g)
theorem RepOs.append {vs us : List V} {os ps : List O} {A B : Fp} (h : RepOs K Z H vs os A) (g : RepOs K Z H us ps B) : RepOs K Z H (vs ++ us) (os ++ ps) (fun b => A b + B b) := by
  cases h with
  | nil => exact g.up fun b => by omega
  | @cons _ _ _ _ A1 A2 _ q r i => exact .cons (F2 := fun b => A2 b + B b) q (RepOs.append r g) fun b => by have := i b; show A1 b + (A2 b + B b) ≤ A b + B b; omega
@[simp] def D.seq : D → Option (List D)
  | .lst ds => some ds
  | .tup ds => some ds
  | _ => none
def gStarD (n i : Nat) (gs : GDs) : GD := fun o e => match o.toD.seq with
  | some ds => if n ≤ ds.length + 1 ∧ ds.length ≤ 16384 then gs ((ds.take i).map .pu ++ [.li (((ds.drop i).take (ds.length + 1 - n)).map .pu)] ++ ((ds.drop i).drop (ds.length + 1 - n)).map .pu) e else none
  | none => none
theorem seq_rep {v : V} {d : D} {ds : List D} (h : Rep K H v d) (e : d.seq = some ds) : ∃ a vs, v = .ref a ∧ (SqT K H a vs ∨ SqL K H a vs) ∧ Reps K H vs ds := by
  cases h with
  | lst a r => cases e; exact ⟨_, _, rfl, .inr a, r⟩
  | tup a r => cases e; exact ⟨_, _, rfl, .inl a, r⟩
  | _ => cases e
theorem gStar_imp {n i : Nat} {gs : GDs} {tgs : TGs} (h2 : ∀ v σ H Q, tGs K io gs v σ H Q → tgs v σ H Q) {v : V} {σ : L2.St} {H : Hp} {Q : L2.St → Hp → Prop} (h : tG K io (gStarD n i gs) v σ H Q) : gStar K n i tgs v σ H Q := by
  obtain ⟨Z, τ, T, env, env', F, o, ok, hl, e, k⟩ := h
  unfold gStarD at e
  split at e
  · rename_i ds ed
    split at e
    · rename_i hn
      obtain ⟨Z1, G, s1, ok1⟩ := ok.freeze
      obtain ⟨v', A, B, e1, q, ok2, i2⟩ := ok1.top
      cases e1
      cases q with
      | pu q =>
        obtain ⟨a, vs, rfl, hs, r⟩ := seq_rep q ed
        have hs' : SqT K H a vs ∨ SqL K H a vs := by
          rcases hs with hs | hs
          · exact .inl ((ok2.sub.le (K := K)).t _ _ hs)
          · exact .inr ((ok2.sub.le (K := K)).l _ _ hs)
        have len := r.length
        refine ⟨a, vs, rfl, hs', by omega, by omega, fun p hp => h2 _ σ _ Q ⟨Z1, τ, T, env, env', fun b => one p b + B b, _, ?_, ?_, hl, e, fun σ' H' Z' F' s' p' ok' => k σ' H' Z' F' (s1.trans s') p' ok'⟩⟩
        · rw [len]
          have q2 : RepOs K Z1 H ((vs.drop i).take (ds.length + 1 - n)) (((ds.drop i).take (ds.length + 1 - n)).map .pu) (fun _ => 0) := ((r.drop i).take _).os
          have n1 := Ok.newL ok2 ok2.sl q2 (fun b => by simp) hp
          have sub := n1.sub
          obtain ⟨_, A3, B3, e3, t3, r3, i3⟩ := n1.top
          cases e3
          have nz : ∀ b, b ≠ p → upd H p (.lst ((vs.drop i).take (ds.length + 1 - n))) b = H b := fun b z => upd_ne z
          have all := slots_cons (σ := τ ++ σ) (env := T ++ env) (F2 := B3) (G := fun b => one p b + B b) (RepOs.append (RepOs.append (((r.take i).os (H := upd H p (.lst ((vs.drop i).take (ds.length + 1 - n)))) (F := fun _ => 0))) (.cons t3 .nil fun b => Nat.le_refl (A3 b + 0))) ((r.drop i).drop (ds.length + 1 - n)).os) r3.sl (fun b => by
            have := i3 b
            show (0 + (A3 b + 0) + 0) + B3 b ≤ one p b + B b
            omega)
          exact n1.dn all fun b => Nat.le_refl _
        · rw [len]
          simp [len]
    · cases e
  · cases e
end
end Ws

namespace Ws
open PySem L2
section
variable {K : PySem.W.Frag} {E : XK} {Z Z' H H' : Hp} {σ σ' σ1 τ ρ : St} {env env' T R : Env} {F G : Fp} {Q Q' : VK} {v : V} {o : O} {d : D}
/-! ### operations that read alone -/
def OpS (K : PySem.W.Frag) (f : D → D → Option D) (r : R2) : Prop := ∀ (H : Hp) (v u : V) (x y z : D) (Q : VK), Rep K H v x → Rep K H u y → f x y = some z → (∀ w, (∀ Z, Rep K Z w z) → Q w H) → r v u H Q
@[simp] def opD (f : D → D → Option D) : O → O → Option O := fun x y => (f x.toD y.toD).map .pu
theorem OpS.opv {f : D → D → Option D} {r : R2} (h : OpS K f r) : OpV K (opD f) r := by
  intro Z H σ env F v u x y z Q ok e k
  obtain ⟨d, e1, rfl⟩ := map_some e
  obtain ⟨_, A, B, e2, q1, ok1, i1⟩ := ok.top
  obtain ⟨_, A', B', e3, q2, ok2, i2⟩ := ok1.top
  cases e2; cases e3
  exact h H v u _ _ d Q (ok.rep q2) (ok.rep q1) e1 fun w hw => k w H Z _ (Same.refl Z) (ok2.pure (hw Z))
/-- the left one a name, the right one a name, both: what they hold when the operation is done -/
def eBinL (f : D → D → Option D) (i : Nat) (b : M O) : M O := fun env => match env[i]? with
  | some (some _) => (b env).bind fun y e => match e[i]? with
    | some (some x) => lift ((f x.toD y.toD).map .pu) e
    | _ => .no
  | _ => .no
@[simp] theorem eBinL.c (f : D → D → Option D) (i : Nat) (b : M O) {z : Option O} {zs : Env} : eBinL f i b (z :: zs) = (match (z :: zs)[i]? with
  | some (some _) => (b (z :: zs)).bind fun y e => match e[i]? with
    | some (some x) => lift ((f x.toD y.toD).map .pu) e
    | _ => .no
  | _ => .no) := rfl
@[simp] theorem eBinL.n (f : D → D → Option D) (i : Nat) (b : M O) : eBinL f i b ([] : Env) = (match ([] : Env)[i]? with
  | some (some _) => (b ([] : Env)).bind fun y e => match e[i]? with
    | some (some x) => lift ((f x.toD y.toD).map .pu) e
    | _ => .no
  | _ => .no) := rfl
def eBinR (f : D → D → Option D) (a : M O) (j : Nat) : M O := fun env => (a env).bind fun x e => match e[j]? with
  | some (some y) => lift ((f x.toD y.toD).map .pu) e
  | _ => .no
@[simp] theorem eBinR.c (f : D → D → Option D) (a : M O) (j : Nat) {z : Option O} {zs : Env} : eBinR f a j (z :: zs) = ((a (z :: zs)).bind fun x e => match e[j]? with
  | some (some y) => lift ((f x.toD y.toD).map .pu) e
  | _ => .no) := rfl
@[simp] theorem eBinR.n (f : D → D → Option D) (a : M O) (j : Nat) : eBinR f a j ([] : Env) = ((a ([] : Env)).bind fun x e => match e[j]? with
  | some (some y) => lift ((f x.toD y.toD).map .pu) e
  | _ => .no) := rfl
def eBinLR (f : D → D → Option D) (i j : Nat) : M O := fun env => match env[i]?, env[j]? with
  | some (some x), some (some y) => lift ((f x.toD y.toD).map .pu) env
  | _, _ => .no
@[simp] theorem eBinLR.c (f : D → D → Option D) (i j : Nat) {z : Option O} {zs : Env} : eBinLR f i j (z :: zs) = (match (z :: zs)[i]?, (z :: zs)[j]? with
  | some (some x), some (some y) => lift ((f x.toD y.toD).map .pu) (z :: zs)
  | _, _ => .no) := rfl
@[simp] theorem eBinLR.n (f : D → D → Option D) (i j : Nat) : eBinLR f i j ([] : Env) = (match ([] : Env)[i]?, ([] : Env)[j]? with
  | some (some x), some (some y) => lift ((f x.toD y.toD).map .pu) ([] : Env)
  | _, _ => .no) := rfl
theorem binR_imp {f : D → D → Option D} {r : R2} (h : OpS K f r) {ma : M O} {j : Nat} {σ : St} {H : Hp} {Q : VK} (q : tE K E (eBinR f ma j) σ H Q) : tOp r (tE K E ma) (tVar j) σ H Q := by
  obtain ⟨Z, τ, T, env, F, ok, hl, post⟩ := q
  refine ⟨Z, τ, T, env, F, ok, hl, (stepE (ρ := []) (R := []) rfl post).imp fun v H1 ⟨Z1, F1, x, e1, s1, ok1, post1⟩ => ?_⟩
  split at post1
  · rename_i y ey
    obtain ⟨_, A, B, e2, q1, ok2, i1⟩ := ok1.top
    cases e2
    obtain ⟨u, A', B', hu, q2, _⟩ := Ok.slot (τ := τ) (T := T) (σ := σ) (env := e1) ok2 hl ey
    refine ⟨u, hu, ?_⟩
    cases e : f x.toD y.toD with
    | none => rw [e] at post1; exact post1.elim
    | some z =>
      rw [e] at post1
      exact h H1 v u _ _ z Q (ok1.rep q1) (ok2.rep q2) e fun w hw => post1 w H1 Z1 _ (Same.refl Z1) (ok2.pure (hw Z1))
  · exact post1.elim
theorem binL_imp {f : D → D → Option D} {r : R2} (h : OpS K f r) {mb : M O} {i : Nat} {σ : St} {H : Hp} {Q : VK} (q : tE K E (eBinL f i mb) σ H Q) : tOp r (tVar i) (tE K E mb) σ H Q := by
  obtain ⟨Z, τ, T, env, F, ok, hl, post⟩ := q
  unfold eBinL at post
  split at post
  · rename_i x0 ex0
    obtain ⟨v, _, _, hv, _⟩ := ok.slot hl ex0
    refine ⟨v, hv, Z, τ, T, env, F, ok, hl, (stepE (ρ := []) (R := []) rfl post).imp fun u H1 ⟨Z1, F1, y, e1, s1, ok1, post1⟩ => ?_⟩
    split at post1
    · rename_i x ex
      obtain ⟨_, A, B, e2, q1, ok2, i1⟩ := ok1.top
      cases e2
      obtain ⟨v', A', B', hv', q2, _⟩ := Ok.slot (τ := τ) (T := T) (σ := σ) (env := e1) ok2 hl ex
      rw [hv] at hv'
      cases hv'
      cases e : f x.toD y.toD with
      | none => rw [e] at post1; exact post1.elim
      | some z =>
        rw [e] at post1
        exact h H1 v u _ _ z Q (ok2.rep q2) (ok1.rep q1) e fun w hw => post1 w H1 Z1 _ (Same.refl Z1) (ok2.pure (hw Z1))
    · exact post1.elim
  · exact post.elim
theorem binLR_imp {f : D → D → Option D} {r : R2} (h : OpS K f r) {i j : Nat} {σ : St} {H : Hp} {Q : VK} (q : tE K E (eBinLR f i j) σ H Q) : tOp r (tVar i) (tVar j) σ H Q := by
  obtain ⟨Z, τ, T, env, F, ok, hl, post⟩ := q
  unfold eBinLR at post
  split at post
  · rename_i x y ex ey
    obtain ⟨v, _, _, hv, q1, _⟩ := ok.slot hl ex
    obtain ⟨u, _, _, hu, q2, _⟩ := ok.slot hl ey
    refine ⟨v, hv, u, hu, ?_⟩
    cases e : f x.toD y.toD with
    | none => rw [e] at post; exact post.elim
    | some z =>
      rw [e] at post
      exact h H v u _ _ z Q (ok.rep q1) (ok.rep q2) e fun w hw => post w H Z _ (Same.refl Z) (ok.pure (hw Z))
  · exact post.elim
/-! comparisons -/
@[simp] def eqD (neg : Bool) : D → D → Option D := fun x y => match D.eqv x y with
  | some r => if x.depth ≤ 60 then some (.bl (if neg then !r else r)) else none
  | none => none
theorem ops_eq {neg : Bool} : OpS K (eqD neg) (rEqW K neg) := by
  intro H v u x y z Q p q e k
  unfold eqD at e
  split at e
  · split at e
    · rename_i r er dp
      cases e
      exact ⟨x, y, r, p, q, er, dp, k _ fun _ => .bl _⟩
    · cases e
  · cases e
@[simp] def cmpD (c : Int → Int → Bool) : D → D → Option D
  | .int i, .int j => some (.bl (c i j))
  | _, _ => none
theorem ops_cmp {c : Int → Int → Bool} : OpS K (cmpD c) (rI0 fun i j => .bl (c i j)) := by
  intro H v u x y z Q p q e k
  cases p <;> cases q <;> cases e
  exact ⟨_, _, rfl, rfl, k _ fun _ => .bl _⟩
@[simp] def isNoD (neg : Bool) : D → D → Option D
  | .non, .non => some (.bl (!neg))
  | .ref _, _ => none
  | .any, _ => none
  | _, .non => some (.bl neg)
  | _, _ => none
theorem ops_isN : OpS K (isNoD false) (fun x y H Q => y = .non ∧ Q (.bl (decide (x = .non))) H) := by
  intro H v u x y z Q p q e k
  cases q <;> cases p <;> cases e <;> exact ⟨rfl, k _ fun _ => .bl _⟩
theorem ops_notN : OpS K (isNoD true) (fun x y H Q => y = .non ∧ Q (.bl (!decide (x = .non))) H) := by
  intro H v u x y z Q p q e k
  cases q <;> cases p <;> cases e <;> exact ⟨rfl, k _ fun _ => .bl _⟩
/-! in -/
@[simp] def D.flat : D → Bool
  | .non => true
  | .bl _ => true
  | .int _ => true
  | .str _ => true
  | _ => false
/-- == of flat ones -/
@[simp] def D.feq : D → D → Bool
  | .non, .non => true
  | .bl a, .bl b => a == b
  | .bl a, .int b => (if a then 1 else 0) == b
  | .int a, .bl b => a == (if b then 1 else 0)
  | .int a, .int b => a == b
  | .str a, .str b => a == b
  | _, _ => false
def inD (neg : Bool) : D → D → Option D
  | .str a, .str z => match a.cps.toList with
    | [c] => some (.bl (if neg then !decide (c ∈ z.cps.toList) else decide (c ∈ z.cps.toList)))
    | _ => none
  | x, .lst ds => if (x.flat && ds.all D.flat) = true then some (.bl (if neg then !(ds.any fun y => y.feq x) else ds.any fun y => y.feq x)) else none
  | x, .tup ds => if (x.flat && ds.all D.flat) = true then some (.bl (if neg then !(ds.any fun y => y.feq x) else ds.any fun y => y.feq x)) else none
  | _, _ => none
theorem flat_rep {v : V} {d : D} (h : Rep K H v d) (f : d.flat = true) : flatV v = true := by
  cases h <;> first | rfl | cases f
theorem flats_rep : ∀ {vs : List V} {ds : List D}, Reps K H vs ds → ds.all D.flat = true → vs.all flatV = true
  | _, _, .nil, _ => rfl
  | _, _, .cons q r, f => by
    rw [List.all_cons, Bool.and_eq_true] at f ⊢
    exact ⟨flat_rep q f.1, flats_rep r f.2⟩
theorem feq_rep {v u : V} {d e : D} (h : Rep K H v d) (g : Rep K H u e) (f1 : d.flat = true) (f2 : e.flat = true) : eqV v u = d.feq e := by
  cases h <;> (first | cases f1; done | skip) <;> cases g <;> first | rfl | cases f2
theorem any_rep {u : V} {e : D} (g : Rep K H u e) (f2 : e.flat = true) : ∀ {vs : List V} {ds : List D}, Reps K H vs ds → ds.all D.flat = true → inV u vs = ds.any fun y => y.feq e
  | _, _, .nil, _ => rfl
  | _, _, .cons q r, f => by
    rw [List.all_cons, Bool.and_eq_true] at f
    show (eqV _ u || inV u _) = _
    rw [List.any_cons, feq_rep q g f.1 f2, any_rep g f2 r f.2]
def rInS (neg : Bool) : R2 := fun x y H Q => ∃ (c : Nat) (z : Str), x = .str ⟨#[c]⟩ ∧ y = .str z ∧ Q (.bl (if neg then !decide (c ∈ z.cps.toList) else decide (c ∈ z.cps.toList))) H
theorem ops_in {neg : Bool} : OpS K (inD neg) (ror (rInS neg) (rIn K neg)) := by
  intro H v u x y z Q p q e k
  have hs : ∀ {a : Addr} {vs : List V} {ds : List D}, (SqL K H a vs ∨ SqT K H a vs) → Reps K H vs ds → u = .ref a → (if (x.flat && ds.all D.flat) = true then some (D.bl (if neg then !(ds.any fun y => y.feq x) else ds.any fun y => y.feq x)) else none) = some z → ror (rInS neg) (rIn K neg) v u H Q := by
    intro a vs ds hq r eu e
    split at e
    · rename_i f
      rw [Bool.and_eq_true] at f
      cases e
      refine .inr ⟨a, vs, eu, hq, flat_rep p f.1, flats_rep r f.2, ?_⟩
      rw [any_rep p f.1 r f.2]
      exact k _ fun _ => .bl _
    · cases e
  cases q with
  | lst a r =>
    refine hs (.inl (a)) r rfl ?_
    cases p <;> exact e
  | tup a r =>
    refine hs (.inr a) r rfl ?_
    cases p <;> exact e
  | str t =>
    cases p with
    | str b =>
      rw [inD] at e
      split at e
      · rename_i c ec
        cases e
        refine .inl ⟨c, t, ?_, rfl, k _ fun _ => .bl _⟩
        rw [← ec]
      · cases e
    | _ => cases e
  | _ => cases p <;> cases e
end
section
variable {X : Cx}
theorem op_inW {neg : Bool} : OpR X (compareOp (if neg then .NotIn else .In)) (ror (rInS neg) (rIn X.K neg)) := by
  cases neg with
  | false => exact OpR.or op_in_sign op_in_seq
  | true =>
    refine OpR.or ?_ op_notIn_seq
    intro pins s σ H x y v u Q I rx ry h
    obtain ⟨c, z, rfl, rfl, q⟩ := h
    exact op_notIn_sign pins s σ H _ _ v u Q I rx ry ⟨c, z, rfl, rfl, q⟩
end
end Ws

namespace Ws
open PySem L2
section
variable {K : PySem.W.Frag} {E : XK} {Z Z' H H' : Hp} {σ σ' σ1 τ ρ : St} {env env' T R : Env} {F G : Fp} {Q Q' : VK} {v : V} {o : O} {d : D}
/-! ### + -/
theorem Ok.str {i : Str} {x : Option V} (h : Ok K Z H (x :: σ) (some (.pu (.str i)) :: env) F) : x = some (.str i) ∧ Ok K Z H σ env F := by
  obtain ⟨v, A, B, rfl, q, r, _⟩ := h.top
  cases q with
  | pu q => cases q; exact ⟨rfl, h.pop⟩
@[simp] def sCat : O → O → Option O
  | .pu (.str a), .pu (.str b) => if a.length + b.length ≤ 100000 then some (.pu (.str (a ++ b))) else none
  | _, _ => none
def rCatS : R2 := fun x y H Q => ∃ i j, x = .str i ∧ y = .str j ∧ i.length + j.length ≤ sizeLine ∧ Q (.str (i ++ j)) H
theorem opv_sCat : OpV K sCat rCatS := by
  intro Z H σ env F v u x y z Q ok e k
  unfold sCat at e
  split at e
  · split at e
    · rename_i a b hz
      cases e
      obtain ⟨e1, ok1⟩ := ok.str
      obtain ⟨e2, ok2⟩ := ok1.str
      cases e1; cases e2
      exact ⟨a, b, rfl, rfl, line_le hz, k _ H Z F (Same.refl Z) (ok2.pure (.str _))⟩
    · cases e
  · cases e
@[simp] def lCat (x y : O) : Option O := match x.lis, y.lis with
  | some xs, some ys => if xs.length + ys.length ≤ 100000 then some (.li (xs ++ ys)) else none
  | _, _ => none
def rCatR (K : PySem.W.Frag) : R2 := fun x y H Q => ∃ l b xs ys, x = .ref l ∧ y = .ref b ∧ SqL K H l xs ∧ SqL K H b ys ∧ xs.length + ys.length ≤ sizeLine ∧ ∀ p, H p = none → Q (.ref p) (upd H p (.lst (xs ++ ys)))
theorem opv_lCat : OpV K lCat (rCatR K) := by
  intro Z H σ env F v u x y z Q ok e k
  unfold lCat at e
  split at e
  · rename_i xs ys ex ey
    split at e
    · rename_i hz
      cases e
      cases ok.sl with
      | @so _ _ _ _ A B _ q r i =>
        cases r with
        | @so _ _ _ _ A1 B1 _ q1 r1 i1 =>
          obtain ⟨b, us, rfl, hb, qs⟩ := lis_ok ok.sub q ey
          obtain ⟨a, vs, rfl, ha, ps⟩ := lis_ok ok.sub q1 ex
          have l1 := ps.len
          have l2 := qs.len
          refine ⟨a, b, vs, us, rfl, rfl, ha, hb, line_le (by omega), fun p hp => ?_⟩
          exact k _ _ Z _ (Same.refl Z) (Ok.newL ok r1 (ps.append qs) (fun b => by have := i b; have := i1 b; show A1 b + A b + B1 b ≤ F b; omega) hp)
    · cases e
  · cases e
@[simp] def tCat : O → O → Option O
  | .pu (.tup a), .pu (.tup b) => if a.length + b.length ≤ 100000 then some (.pu (.tup (a ++ b))) else none
  | _, _ => none
theorem opv_tCat : OpV K tCat (rCatA K) := by
  intro Z H σ env F v u x y z Q ok e k
  unfold tCat at e
  split at e
  · split at e
    · rename_i a b hz
      cases e
      cases ok.sl with
      | @so _ _ _ _ A B _ q r i =>
        cases r with
        | @so _ _ _ _ A1 B1 _ q1 r1 i1 =>
          cases q with
          | pu q =>
            cases q1 with
            | pu q1 =>
              cases q with
              | tup hb rb =>
                cases q1 with
                | tup ha ra =>
                  have l1 := ra.length
                  have l2 := rb.length
                  have ok0 : Ok K Z H σ env F := ok.dn (r1.up fun b => by have := i b; have := i1 b; omega) fun b => Nat.le_refl _
                  refine ⟨_, _, _, _, rfl, rfl, (ok.sub.le (K := K)).t _ _ ha, (ok.sub.le (K := K)).t _ _ hb, line_le (by omega), fun z => ?_, fun _ z => ?_, fun _ _ p hp => ?_⟩
                  · subst z
                    cases ra
                    exact k _ H Z F (Same.refl Z) (ok0.pure (.tup hb rb))
                  · subst z
                    cases rb
                    rw [List.append_nil] at k
                    exact k _ H Z F (Same.refl Z) (ok0.pure (.tup ha ra))
                  · have n := Ok.newT (F1 := fun _ => 0) ok0 ok0.sl ((ra.append rb).os (H := H)) (fun b => by simp) hp
                    rw [show mkT ((a ++ b).map .pu) = .pu (.tup (a ++ b)) from by unfold mkT; rw [allP_map]] at n
                    obtain ⟨Z2, G2, s2, ok2⟩ := n
                    exact k _ _ Z2 G2 s2 ok2
    · cases e
  · cases e
@[simp] def addO : O → O → Option O := oor (iOp (fun _ _ => true) fun i j => .int (i + j)) (oor sCat (oor tCat lCat))
theorem opv_add : OpV K addO (ror (rI0 fun i j => .int (i + j)) (ror rCatS (ror (rCatA K) (rCatR K)))) := (opv_I0 fun _ _ _ => .int _).or (opv_sCat.or (opv_tCat.or opv_lCat))
@[simp] def subO : O → O → Option O := iOp (fun _ _ => true) fun i j => .int (i - j)
/-! ### times -/
@[simp] def lRep (x y : O) : Option O := match x, y with
  | .li xs, .pu (.int k) => match allP xs with
    | some ds => if -100000 ≤ k ∧ k ≤ 100000 ∧ ds.length * k.toNat ≤ 100000 then some (.li ((List.replicate k.toNat ds).flatten.map .pu)) else none
    | none => none
  | _, _ => none
def rRepR : R2 := fun x y H Q => ∃ l k xs, x = .ref l ∧ y = .int k ∧ Rd H l (.lst xs) ∧ -(2 ^ 63) ≤ k ∧ k < 2 ^ 63 ∧ xs.length * k.toNat ≤ sizeLine ∧ ∀ p, H p = none → Q (.ref p) (upd H p (.lst (List.replicate k.toNat xs).flatten))
theorem Reps.rep {vs : List V} {ds : List D} (h : Reps K Z vs ds) : ∀ n : Nat, Reps K Z (List.replicate n vs).flatten (List.replicate n ds).flatten
  | 0 => .nil
  | n + 1 => by rw [List.replicate_succ, List.replicate_succ, List.flatten_cons, List.flatten_cons]; exact h.append (h.rep n)
theorem opv_lRep : OpV K lRep rRepR := by
  intro Z H σ env F v u x y z Q ok e k
  unfold lRep at e
  split at e
  · rename_i xs n
    split at e
    · rename_i ds ed
      split at e
      · rename_i hz
        cases e
        obtain ⟨e1, ok1⟩ := ok.int
        cases e1
        cases ok1.sl with
        | @so _ _ _ _ A1 B1 _ q1 r1 i1 =>
          obtain ⟨a, vs, rfl, ha, ps⟩ : ∃ a vs, v = .ref a ∧ Rd H a (.lst vs) ∧ RepOs K Z H vs xs A1 := by
            cases q1 with
            | li h1 r i => exact ⟨_, _, rfl, .inl h1, r.up fun b => by have := i b; omega⟩
          have ra := allP_ok ps ed
          have l1 := ra.length
          have ok0 : Ok K Z H σ env F := ok1.dn (r1.up fun b => by have := i1 b; omega) fun b => Nat.le_refl _
          refine ⟨a, n, vs, rfl, rfl, ha, by omega, by omega, line_le (by rw [l1]; omega), fun p hp => ?_⟩
          exact k _ _ Z _ (Same.refl Z) (Ok.newL (F1 := fun _ => 0) ok0 ok0.sl (ra.rep _).os (fun b => by simp) hp)
      · cases e
    · cases e
  · cases e
@[simp] def tRep : O → O → Option O
  | .pu (.tup ds), .pu (.int k) => if ds ≠ [] ∧ 2 ≤ k ∧ k ≤ 1000 ∧ ds.length ≤ 1000 then some (.pu (.tup (List.replicate k.toNat ds).flatten)) else none
  | _, _ => none
theorem opv_tRep : OpV K tRep (rRepT K) := by
  intro Z H σ env F v u x y z Q ok e k
  unfold tRep at e
  split at e
  · rename_i ds n
    split at e
    · rename_i hz
      cases e
      obtain ⟨e1, ok1⟩ := ok.int
      cases e1
      cases ok1.sl with
      | @so _ _ _ _ A1 B1 _ q1 r1 i1 =>
        cases q1 with
        | pu q1 =>
          cases q1 with
          | @tup a vs _ ha ra =>
            have l1 := ra.length
            have ok0 : Ok K Z H σ env F := ok1.dn (r1.up fun b => by have := i1 b; omega) fun b => Nat.le_refl _
            refine ⟨a, n, vs, rfl, rfl, (ok.sub.le (K := K)).t _ _ ha, fun w => ?_, hz.2.1, hz.2.2.1, by omega, fun p hp => ?_⟩
            · subst w
              cases ra
              exact hz.1 rfl
            · have nn := Ok.newT (F1 := fun _ => 0) ok0 ok0.sl ((ra.rep n.toNat).os (H := H)) (fun b => by simp) hp
              rw [show mkT ((List.replicate n.toNat ds).flatten.map .pu) = .pu (.tup (List.replicate n.toNat ds).flatten) from by unfold mkT; rw [allP_map]] at nn
              obtain ⟨Z2, G2, s2, ok2⟩ := nn
              exact k _ _ Z2 G2 s2 ok2
    · cases e
  · cases e
@[simp] def mulO : O → O → Option O := oor (iOp (fun i j => decide ((-(2 ^ 64) < i ∧ i < 2 ^ 64) ∨ (-(2 ^ 64) < j ∧ j < 2 ^ 64))) fun i j => .int (i * j)) (oor tRep lRep)
theorem opv_mul : OpV K mulO (ror (rI CMul fun i j => .int (i * j)) (ror (rRepT K) rRepR)) := (opv_I (fun _ _ h => of_decide_eq_true h) fun _ _ _ => .int _).or (opv_tRep.or opv_lRep)
@[simp] def modO : O → O → Option O := iOp (fun _ j => decide (j ≠ 0)) fun i j => .int (i.fmod j)
@[simp] def fdivO : O → O → Option O := iOp (fun _ j => decide (j ≠ 0 ∧ j.natAbs < 1073741824)) fun i j => .int (i.fdiv j)
@[simp] def powO : O → O → Option O := iOp (fun i j => decide (0 ≤ j ∧ j ≤ 1000000 ∧ i.natAbs < 2 ^ 64)) fun i j => .int (i ^ j.toNat)
@[simp] def negO : O → Option O
  | .pu (.int i) => some (.pu (.int (-i)))
  | _ => none
theorem unv_neg : UnV K negO (rU fun i => .int (-i)) := by
  intro Z H σ env F v x z Q ok e k
  unfold negO at e
  split at e
  · cases e
    obtain ⟨e1, ok1⟩ := ok.int
    cases e1
    exact ⟨_, rfl, k _ H Z F (Same.refl Z) (ok1.pure (.int _))⟩
  · cases e
/-! ### subscripts -/
@[simp] def ixO (x y : O) : Option O := match y with
  | .pu (.int i) => (match x.lis with
    | some xs => atI xs i
    | none => match x.tups with
      | some xs => atI xs i
      | none => match x with
        | .pu (.str z) => if z.length ≤ 100000 then (atI z.cps.toList i).map fun c => .pu (.str ⟨#[c]⟩) else none
        | _ => none)
  | _ => none
theorem RepOs.get : ∀ {vs : List V} {os : List O} {F : Fp} {i : Nat} {o : O}, RepOs K Z H vs os F → os[i]? = some o → ∃ v, vs[i]? = some v ∧ RepO K Z H v o F
  | _, _, _, _, _, .nil, e => by simp at e
  | _, _, _, 0, _, .cons q _ i, e => by simp at e; subst e; exact ⟨_, rfl, q.up fun b => by have := i b; omega⟩
  | _, _, _, n + 1, _, .cons _ r i, e => by
    obtain ⟨v, a, b⟩ := RepOs.get (i := n) r (by simpa using e)
    exact ⟨v, by simpa using a, b.up fun b => by have := i b; omega⟩
theorem atI_os {vs : List V} {os : List O} {i : Int} (r : RepOs K Z H vs os F) (e : atI os i = some o) : ∃ v, atI vs i = some v ∧ RepO K Z H v o F := by
  unfold atI at e ⊢
  rw [r.len]
  obtain ⟨j, e1, e2⟩ := Option.bind_eq_some_iff.mp e
  obtain ⟨v, a, b⟩ := r.get e2
  exact ⟨v, by rw [e1]; exact a, b⟩
theorem opv_ix : OpV K ixO (rIx K) := by
  intro Z H σ env F v u x y z Q ok e k
  unfold ixO at e
  split at e
  · rename_i i
    obtain ⟨e1, ok1⟩ := ok.int
    cases e1
    cases ok1.sl with
    | @so _ _ _ _ A1 B1 _ q1 r1 i1 =>
      have fin : ∀ {w : V}, RepO K Z H w z A1 → Q w H := fun {w} q => k w H Z F (Same.refl Z) (ok1.dn (.so q r1 i1) fun b => Nat.le_refl _)
      split at e
      · rename_i xs ex
        obtain ⟨a, vs, rfl, ha, ps⟩ := lis_ok ok.sub q1 ex
        obtain ⟨w, e2, q2⟩ := atI_os ps e
        exact .inl ⟨a, vs, i, w, rfl, rfl, ha, e2, fin q2⟩
      · split at e
        · rename_i xs ex
          obtain ⟨a, vs, rfl, ha, ps⟩ := tups_ok ok.sub q1 ex
          obtain ⟨w, e2, q2⟩ := atI_os ps e
          exact .inr (.inl ⟨a, vs, i, w, rfl, rfl, ha, e2, fin q2⟩)
        · split at e
          · split at e
            · obtain ⟨c, ec, rfl⟩ := map_some e
              cases q1 with
              | pu q1 => cases q1; exact .inr (.inr ⟨_, i, c, rfl, rfl, line_le (by assumption), ec, fin (.pu (.str _))⟩)
            · cases e
          · cases e
  · cases e
/-- an item of what a name holds: it is not laid down -/
@[simp] def O.plain : O → Option O
  | .pu d => some (.pu d)
  | _ => none
def eIxAt (i : Nat) (b : M O) : M O := fun env => match env[i]? with
  | some (some _) => (b env).bind fun y e => match e[i]? with
    | some (some x) => lift ((ixO x y).bind O.plain) e
    | _ => .no
  | _ => .no
@[simp] theorem eIxAt.c (i : Nat) (b : M O) {z : Option O} {zs : Env} : eIxAt i b (z :: zs) = (match (z :: zs)[i]? with
  | some (some _) => (b (z :: zs)).bind fun y e => match e[i]? with
    | some (some x) => lift ((ixO x y).bind O.plain) e
    | _ => .no
  | _ => .no) := rfl
@[simp] theorem eIxAt.n (i : Nat) (b : M O) : eIxAt i b ([] : Env) = (match ([] : Env)[i]? with
  | some (some _) => (b ([] : Env)).bind fun y e => match e[i]? with
    | some (some x) => lift ((ixO x y).bind O.plain) e
    | _ => .no
  | _ => .no) := rfl
theorem ixAt_imp {mb : M O} {i : Nat} {σ : St} {H : Hp} {Q : VK} (q : tE K E (eIxAt i mb) σ H Q) : tOp (rIx K) (tVar i) (tE K E mb) σ H Q := by
  obtain ⟨Z, τ, T, env, F, ok, hl, post⟩ := q
  unfold eIxAt at post
  split at post
  · rename_i x0 ex0
    obtain ⟨v, _, _, hv, _⟩ := ok.slot hl ex0
    refine ⟨v, hv, Z, τ, T, env, F, ok, hl, (stepE (ρ := []) (R := []) rfl post).imp fun u H1 ⟨Z1, F1, y, e1, s1, ok1, post1⟩ => ?_⟩
    split at post1
    · rename_i x ex
      obtain ⟨_, A, B, e2, q1, ok2, i1⟩ := ok1.top
      cases e2
      obtain ⟨v', A', B', hv', q2, _⟩ := Ok.slot (τ := τ) (T := T) (σ := σ) (env := e1) ok2 hl ex
      rw [hv] at hv'
      cases hv'
      cases e : (ixO x y).bind O.plain with
      | none => rw [e] at post1; exact post1.elim
      | some z =>
        rw [e] at post1
        obtain ⟨z', ez, ep⟩ := Option.bind_eq_some_iff.mp e
        have fin : ∀ {w : V} {G : Fp}, RepO K Z1 H1 w z' G → Q w H1 := fun {w G} qz => by
          cases z' with
          | pu d =>
            cases ep
            cases qz with
            | pu qz => exact post1 w H1 Z1 _ (Same.refl Z1) (ok2.pure qz)
          | _ => cases ep
        unfold ixO at ez
        split at ez
        · rename_i j
          cases q1 with
          | pu q1 =>
          cases q1
          split at ez
          · rename_i xs ex
            obtain ⟨a, vs, rfl, ha, ps⟩ := lis_ok ok2.sub q2 ex
            obtain ⟨w, e2, q3⟩ := atI_os ps ez
            exact .inl ⟨a, vs, j, w, rfl, rfl, ha, e2, fin q3⟩
          · split at ez
            · rename_i xs ex
              obtain ⟨a, vs, rfl, ha, ps⟩ := tups_ok ok2.sub q2 ex
              obtain ⟨w, e2, q3⟩ := atI_os ps ez
              exact .inr (.inl ⟨a, vs, j, w, rfl, rfl, ha, e2, fin q3⟩)
            · split at ez
              · split at ez
                · obtain ⟨c, ec, rfl⟩ := map_some ez
                  cases q2 with
                  | pu q2 => cases q2; exact .inr (.inr ⟨_, j, c, rfl, rfl, line_le (by assumption), ec, fin (G := fun _ => 0) (.pu (.str _))⟩)
                · cases ez
              · cases ez
        · cases ez
    · exact post1.elim
  · exact post.elim
end
/-! ### X's rules for these -/
section
variable {X : Cx}
theorem op_catR : OpR X (binaryOp .Add) (rCatR X.K) := by
  intro pins s σ H x y v u Q I rx ry h
  obtain ⟨l, b, xs, ys, rfl, rfl, hL, hB, hz, q⟩ := h
  cases (show v = Value.ref l from rx)
  cases (show u = Value.ref b from ry)
  obtain ⟨its, r, ⟨⟨cls, dd, data, sl⟩, n, ho, hc, hd1, hd⟩, _⟩ := I.list hL
  obtain ⟨its2, r2, ⟨⟨cls2, dd2, data2, sl2⟩, n2, ho2, hc2, hd12, hd2⟩, _⟩ := I.list hB
  simp only at hc hd hc2 hd2
  subst hc hd hc2 hd2
  have small : its.toArray.size + its2.toArray.size ≤ sizeLine := by rw [List.size_toArray, List.size_toArray, ← r.length, ← r2.length]; exact hz
  refine concat_meets ⟨_, ho, rfl⟩ ⟨_, ho2, rfl⟩ noFill_list_add seq_list_add PySem.F.slot_list_add PySem.F.entry_list_add (PySem.F.args_list_add_2 _ _) (PyProof.Rows.list_addW l b its.toArray its2.toArray n n2 dd dd2 sl sl2 small) ⟨ho, ho2, ?_⟩
  rw [show its.toArray ++ its2.toArray = (its ++ its2).toArray by simp]
  exact ⟨.ref _, _, I.lnew (t' := s.toks) (r.append r2) (by rw [List.length_append]; omega), rfl, q _ I.fresh⟩
theorem op_addW : OpR X (binaryOp .Add) (ror (rI0 fun i j => .int (i + j)) (ror rCatS (ror (rCatA X.K) (rCatR X.K)))) := op_add.or (OpR.or op_add_str (op_catA.or op_catR))
theorem op_repR : OpR X (binaryOp .Mult) rRepR := by
  intro pins s σ H x y v u Q I rx ry h
  obtain ⟨l, k, xs, rfl, rfl, hL, h1, h2, hz, q⟩ := h
  rcases hL with hL | ⟨ob, hL⟩
  · exact op_rep pins s σ H _ _ v u Q I rx ry ⟨l, k, xs, rfl, rfl, hL, h1, h2, hz, q⟩
  · -- a list that is locked: the same, read through the lock
    cases (show v = Value.ref l from rx)
    obtain ⟨t, rfl⟩ := (show ∃ t, u = Value.int k t from ry)
    obtain ⟨_, _, its, n, r, e⟩ := I.hok l _ hL
    have cnt : its.toArray.size * k.toNat ≤ sizeLine := by rw [List.size_toArray, ← r.length]; exact hz
    have fit : ¬ (!Builtin.List.listFitsIndex k) = true := by rw [fitsIndex_both h1 h2]; exact Bool.false_ne_true
    have cap : ¬ its.toArray.size * k.toNat > (2 ^ 63 - 1) / 8 := by
      have : (sizeLine : Nat) ≤ (2 ^ 63 - 1) / 8 := by decide
      omega
    have long : ¬ Builtin.List.listTooLong (its.toArray.size * k.toNat) = true := by rw [notLongL cnt]; exact Bool.false_ne_true
    have made : List.foldl (fun a b => a ++ b) #[] (List.replicate (if its.toArray.isEmpty = true then 0 else k.toNat) its.toArray) = (List.replicate k.toNat its).flatten.toArray := by
      have f0 : ∀ m : Nat, List.foldl (fun a b => a ++ b) #[] (List.replicate m its.toArray) = (List.replicate m its).flatten.toArray := fun m => by
        have := foldl_rep its m []
        rw [List.nil_append] at this
        exact this
      rw [f0]
      cases its with
      | nil => simp
      | cons a r' => rw [if_neg (by simp)]
    refine wpAny_binaryOp_repeat_ref (T := "list") (U := "int") (by decide) ⟨_, e, rfl⟩ (fun s' => typeIs_int s' k t) noFill_list_mul PySem.F.fills_int_mul PySem.F.slot_int_rmul repeat_list PySem.F.slot_int_index.lookup ?_
    refine call_meets PySem.F.slot_int_rmul (typeIs_int s k t) PySem.F.entry_int_rmul (PySem.F.args_int_rmul_2 _ _) (int___rmul___int_list k t l its.toArray n) ⟨e, rfl, ⟨_, e, rfl⟩, ?_⟩
    refine call_meets PySem.F.slot_list_mul ⟨_, e, rfl⟩ PySem.F.entry_list_mul (PySem.F.args_list_mul_2 _ _) (AutoListH.list___mul___list_int_3 l its.toArray n k t fit cap long) ⟨e, ?_⟩
    rw [made]
    exact ⟨.ref _, _, I.lnew (t' := s.toks) (r.rep k.toNat) (by rw [PyProof.Rows.lm_len_rep_flat, Nat.mul_comm]; exact hz), rfl, q _ I.fresh⟩
theorem op_mulW' : OpR X (binaryOp .Mult) (ror (rI CMul fun i j => .int (i * j)) (ror (rRepT X.K) rRepR)) := op_mul.or (op_repT.or op_repR)
end
end Ws

namespace Ws
open PySem L2
section
variable {K : PySem.W.Frag} {E : XK} {Z Z' H H' : Hp} {σ σ' σ1 τ ρ : St} {env env' T R : Env} {F G : Fp} {Q Q' : VK} {v : V} {o : O} {d : D}
/-! ### calls that read alone -/
def CallS (K : PySem.W.Frag) (f : List D → Option D) (r : List V → Hp → VK → Prop) : Prop := ∀ (H : Hp) (vs : List V) (ds : List D) (z : D) (Q : VK), Reps K H vs ds → f ds = some z → (∀ w, (∀ Z, Rep K Z w z) → Q w H) → r vs H Q
@[simp] def callD (f : List D → Option D) : List O → Option O := fun os => (f (os.map O.toD)).map .pu
theorem Ok.reps {F1 : Fp} {vs : List V} {os : List O} (h : Ok K Z H σ env F) (q : RepOs K Z H vs os F1) : Reps K H vs (os.map O.toD) := by
  rw [← O.toDs_eq]
  exact q.freeze h.sub.le fun _ _ => rfl
theorem CallS.callv {f : List D → Option D} {r : List V → Hp → VK → Prop} (h : CallS K f r) : CallV K (callD f) r := by
  intro Z H σ env F vs os z Q l ok e k
  obtain ⟨d, e1, rfl⟩ := map_some e
  obtain ⟨A, B, q, ok1, i⟩ := ok.args l
  exact h H vs _ d Q (ok.reps q) e1 fun w hw => k w H Z _ (Same.refl Z) (ok1.pure (hw Z))
/-- of one name -/
def eCallAt (f : List D → Option D) (i : Nat) : M O := fun env => match env[i]? with
  | some (some x) => lift ((f [x.toD]).map .pu) env
  | _ => .no
@[simp] theorem eCallAt.c (f : List D → Option D) (i : Nat) {z : Option O} {zs : Env} : eCallAt f i (z :: zs) = (match (z :: zs)[i]? with
  | some (some x) => lift ((f [x.toD]).map .pu) (z :: zs)
  | _ => .no) := rfl
@[simp] theorem eCallAt.n (f : List D → Option D) (i : Nat) : eCallAt f i ([] : Env) = (match ([] : Env)[i]? with
  | some (some x) => lift ((f [x.toD]).map .pu) ([] : Env)
  | _ => .no) := rfl
theorem callAt_imp {f : List D → Option D} {r : List V → Hp → VK → Prop} (h : CallS K f r) {i : Nat} {σ : St} {H : Hp} {Q : VK} (q : tE K E (eCallAt f i) σ H Q) : tCB r (tCons (tVar i) tNil) σ H Q := by
  obtain ⟨Z, τ, T, env, F, ok, hl, post⟩ := q
  unfold eCallAt at post
  split at post
  · rename_i x ex
    obtain ⟨v, _, _, hv, q1, _⟩ := ok.slot hl ex
    refine ⟨v, hv, ?_⟩
    cases e : f [x.toD] with
    | none => rw [e] at post; exact post.elim
    | some z =>
      rw [e] at post
      exact h H [v] _ z Q (.cons (ok.rep q1) .nil) e fun w hw => post w H Z _ (Same.refl Z) (ok.pure (hw Z))
  · exact post.elim
@[simp] def lenD : List D → Option D
  | [.str x] => if x.length ≤ 100000 then some (.int x.length) else none
  | [.lst xs] => some (.int xs.length)
  | [.tup xs] => some (.int xs.length)
  | _ => none
theorem calls_len : CallS K lenD (fun xs H Q => ∃ x n, xs = [x] ∧ LenV K x H n ∧ Q (.int n) H) := by
  intro H vs ds z Q r e k
  cases r with
  | nil => cases e
  | cons q r =>
    cases r with
    | cons _ _ => cases q <;> cases e
    | nil =>
      cases q with
      | str x =>
        rw [lenD] at e
        split at e
        · cases e; exact ⟨_, _, rfl, ⟨line_le (by assumption), rfl⟩, k _ fun _ => .int _⟩
        · cases e
      | lst a r => cases e; exact ⟨_, _, rfl, .inl ⟨_, a, r.length.symm⟩, k _ fun _ => .int _⟩
      | tup a r => cases e; exact ⟨_, _, rfl, .inr ⟨_, a, r.length.symm⟩, k _ fun _ => .int _⟩
      | _ => cases e
/-! isinstance -/
@[simp] def D.kind : D → Option String
  | .non => some "NoneType"
  | .bl _ => some "bool"
  | .int _ => some "int"
  | .str _ => some "str"
  | .lst _ => some "list"
  | .tup _ => some "tuple"
  | .dct _ => some "dict"
  | _ => none
@[simp] def isiD : List D → Option D
  | [x, .ty n] => x.kind.bind fun k => (kitB k n).map .bl
  | _ => none
theorem kind_rep {v : V} {d : D} {n : String} (h : Rep K H v d) (e : d.kind = some n) : TyX K H v (.type n) := by
  cases h with
  | non => cases e; exact .base .non
  | bl b => cases e; exact .base (.bl b)
  | int b => cases e; exact .base (.int b)
  | str b => cases e; exact .base (.str b)
  | lst a r =>
    cases e
    rcases a with (a | ⟨ob, a⟩) | ⟨ob, _, _, a, c, _⟩
    · exact .base (.lst a)
    · exact .base (.frz a)
    · exact .kList a c
  | tup a r =>
    cases e
    rcases a with (a | ⟨ob, a⟩) | ⟨ob, _, _, a, c, _⟩
    · exact .base (.tup a)
    · exact .fTuple a
    · exact .kTuple a c
  | dct a r =>
    cases e
    rcases a with a | ⟨ob, a⟩
    · exact .base (.dK a)
    · exact .fDict a
  | _ => cases e
theorem calls_isi : CallS K isiD (rIsi K) := by
  intro H vs ds z Q r e k
  unfold isiD at e
  split at e
  · rename_i x n
    cases r with
    | cons q r =>
      cases r with
      | cons q2 r =>
        cases r
        cases q2
        obtain ⟨t, e1, e2⟩ := Option.bind_eq_some_iff.mp e
        obtain ⟨b, e3, rfl⟩ := map_some e2
        exact ⟨_, _, _, _, b, rfl, .ty n, kind_rep q e1, kit_ty e3, k _ fun _ => .bl _⟩
  · cases e
/-- isinstance(x, T) of a name, T a built-in class -/
def eIsiAt (i : Nat) (n : String) : M O := fun env => match env[i]? with
  | some (some x) => lift ((isiD [x.toD, .ty n]).map .pu) env
  | _ => .no
@[simp] theorem eIsiAt.c (i : Nat) (n : String) {z : Option O} {zs : Env} : eIsiAt i n (z :: zs) = (match (z :: zs)[i]? with
  | some (some x) => lift ((isiD [x.toD, .ty n]).map .pu) (z :: zs)
  | _ => .no) := rfl
@[simp] theorem eIsiAt.n (i : Nat) (n : String) : eIsiAt i n ([] : Env) = (match ([] : Env)[i]? with
  | some (some x) => lift ((isiD [x.toD, .ty n]).map .pu) ([] : Env)
  | _ => .no) := rfl
theorem isiAt_imp {i : Nat} {n : String} {σ : St} {H : Hp} {Q : VK} (q : tE K E (eIsiAt i n) σ H Q) : tCB (rIsi K) (tCons (tVar i) (tCons (tC (.ty n)) tNil)) σ H Q := by
  obtain ⟨Z, τ, T, env, F, ok, hl, post⟩ := q
  unfold eIsiAt at post
  split at post
  · rename_i x ex
    obtain ⟨v, _, _, hv, q1, _⟩ := ok.slot hl ex
    refine ⟨v, hv, ?_⟩
    cases e : isiD [x.toD, .ty n] with
    | none => rw [e] at post; exact post.elim
    | some z =>
      rw [e] at post
      exact calls_isi H [v, .ty n] _ z Q (.cons (ok.rep q1) (.cons (.ty n) .nil)) e fun w hw => post w H Z _ (Same.refl Z) (ok.pure (hw Z))
  · exact post.elim
/-! all, any, sum, max, min -/
@[simp] def blsD : List D → Option (List Bool)
  | [] => some []
  | .bl b :: xs => (blsD xs).map (b :: ·)
  | _ => none
@[simp] def intsD : List D → Option (List Int)
  | [] => some []
  | .int b :: xs => (intsD xs).map (b :: ·)
  | _ => none
theorem bls_rep : ∀ {vs : List V} {ds : List D} {bs : List Bool}, Reps K H vs ds → blsD ds = some bs → vs = bs.map V.bl
  | _, _, _, .nil, e => by cases e; rfl
  | _, _, _, .cons q r, e => by
    cases q with
    | bl b =>
      obtain ⟨cs, e1, rfl⟩ := map_some e
      rw [bls_rep r e1]; rfl
    | _ => cases e
theorem ints_rep : ∀ {vs : List V} {ds : List D} {bs : List Int}, Reps K H vs ds → intsD ds = some bs → vs = bs.map V.int
  | _, _, _, .nil, e => by cases e; rfl
  | _, _, _, .cons q r, e => by
    cases q with
    | int b =>
      obtain ⟨cs, e1, rfl⟩ := map_some e
      rw [ints_rep r e1]; rfl
    | _ => cases e
@[simp] def allD : List D → Option D
  | [.lst xs] => (blsD xs).map fun bs => .bl (bs.all id)
  | _ => none
@[simp] def anyD : List D → Option D
  | [.lst xs] => (blsD xs).map fun bs => .bl (bs.any id)
  | _ => none
@[simp] def sumD : List D → Option D
  | [.lst xs] => (intsD xs).map fun ns => .int ns.sum
  | _ => none
theorem calls_all : CallS K allD (rAll K) := by
  intro H vs ds z Q r e k
  unfold allD at e
  split at e
  · obtain ⟨bs, e1, rfl⟩ := map_some e
    cases r with
    | cons q r =>
      cases r
      cases q with
      | lst a r => exact ⟨_, bs, rfl, by rw [← bls_rep r e1]; exact a, k _ fun _ => .bl _⟩
  · cases e
theorem calls_any : CallS K anyD (rAny K) := by
  intro H vs ds z Q r e k
  unfold anyD at e
  split at e
  · obtain ⟨bs, e1, rfl⟩ := map_some e
    cases r with
    | cons q r =>
      cases r
      cases q with
      | lst a r => exact ⟨_, bs, rfl, by rw [← bls_rep r e1]; exact a, k _ fun _ => .bl _⟩
  · cases e
theorem calls_sum : CallS K sumD (rSum K) := by
  intro H vs ds z Q r e k
  unfold sumD at e
  split at e
  · obtain ⟨bs, e1, rfl⟩ := map_some e
    cases r with
    | cons q r =>
      cases r
      cases q with
      | lst a r => exact ⟨_, bs, rfl, by rw [← ints_rep r e1]; exact a, k _ fun _ => .int _⟩
  · cases e
@[simp] def max2D : List D → Option D
  | [.int i, .int j] => some (.int (if j > i then j else i))
  | _ => none
@[simp] def min2D : List D → Option D
  | [.int i, .int j] => some (.int (if j < i then j else i))
  | _ => none
theorem calls_max2 : CallS K max2D (fun xs H Q => ∃ i j, xs = [.int i, .int j] ∧ Q (.int (if j > i then j else i)) H) := by
  intro H vs ds z Q r e k
  unfold max2D at e
  split at e
  · cases e
    cases r with
    | cons q r =>
      cases r with
      | cons q2 r =>
        cases r
        cases q; cases q2
        exact ⟨_, _, rfl, k _ fun _ => .int _⟩
  · cases e
theorem calls_min2 : CallS K min2D (fun xs H Q => ∃ i j, xs = [.int i, .int j] ∧ Q (.int (if j < i then j else i)) H) := by
  intro H vs ds z Q r e k
  unfold min2D at e
  split at e
  · cases e
    cases r with
    | cons q r =>
      cases r with
      | cons q2 r =>
        cases r
        cases q; cases q2
        exact ⟨_, _, rfl, k _ fun _ => .int _⟩
  · cases e
/-! ### list(x), tuple(x) -/
def rListW (K : PySem.W.Frag) : List V → Hp → VK → Prop := fun xs H Q => ∃ p ys, xs = [.ref p] ∧ (SqL K H p ys ∨ SqT K H p ys) ∧ ∀ l, H l = none → Q (.ref l) (upd H l (.lst ys))
def rTupW (K : PySem.W.Frag) : List V → Hp → VK → Prop := fun xs H Q => ∃ p ys, xs = [.ref p] ∧ ((SqL K H p ys ∧ ∀ l, H l = none → Q (.ref l) (upd H l (.tup ys))) ∨ (SqT K H p ys ∧ Q (.ref p) H))
@[simp] def listO : List O → Option O
  | [x] => match x.lis with
    | some xs => some (.li xs)
    | none => (x.tups).map .li
  | _ => none
@[simp] def tupO : List O → Option O
  | [x] => match x.lis with
    | some xs => some (mkT xs)
    | none => (x.tups).map fun _ => x
  | _ => none
theorem callv_list : CallV K listO (rListW K) := by
  intro Z H σ env F vs os z Q l ok e k
  unfold listO at e
  split at e
  · rename_i x
    match vs, l with
    | [v], _ =>
    cases ok.sl with
    | @so _ _ _ _ A1 B1 _ q1 r1 i1 =>
      split at e
      · rename_i xs ex
        cases e
        obtain ⟨a, us, rfl, ha, ps⟩ := lis_ok ok.sub q1 ex
        exact ⟨a, us, rfl, .inl (ha), fun p hp => k _ _ Z _ (Same.refl Z) (Ok.newL ok r1 ps i1 hp)⟩
      · obtain ⟨xs, ex, rfl⟩ := map_some e
        obtain ⟨a, us, rfl, ha, ps⟩ := tups_ok ok.sub q1 ex
        exact ⟨a, us, rfl, .inr ha, fun p hp => k _ _ Z _ (Same.refl Z) (Ok.newL ok r1 ps i1 hp)⟩
  · cases e
theorem callv_tup : CallV K tupO (rTupW K) := by
  intro Z H σ env F vs os z Q l ok e k
  unfold tupO at e
  split at e
  · rename_i x
    match vs, l with
    | [v], _ =>
    cases ok.sl with
    | @so _ _ _ _ A1 B1 _ q1 r1 i1 =>
      split at e
      · rename_i xs ex
        cases e
        obtain ⟨a, us, rfl, ha, ps⟩ := lis_ok ok.sub q1 ex
        refine ⟨a, us, rfl, .inl ⟨ha, fun p hp => ?_⟩⟩
        obtain ⟨Z2, G2, s2, ok2⟩ := Ok.newT ok r1 ps i1 hp
        exact k _ _ Z2 G2 s2 ok2
      · obtain ⟨xs, ex, rfl⟩ := map_some e
        obtain ⟨a, us, rfl, ha, ps⟩ := tups_ok ok.sub q1 ex
        exact ⟨a, us, rfl, .inr ⟨ha, k _ _ Z F (Same.refl Z) ok⟩⟩
  · cases e
/-- list(x), tuple(x) of a name whose items are plain: the name keeps its own -/
def eListAt (i : Nat) : M O := fun env => match env[i]? with
  | some (some x) => lift ((x.lis.or x.tups).bind fun xs => (allP xs).map fun ds => .li (ds.map .pu)) env
  | _ => .no
@[simp] theorem eListAt.c (i : Nat) {z : Option O} {zs : Env} : eListAt i (z :: zs) = (match (z :: zs)[i]? with
  | some (some x) => lift ((x.lis.or x.tups).bind fun xs => (allP xs).map fun ds => .li (ds.map .pu)) (z :: zs)
  | _ => .no) := rfl
@[simp] theorem eListAt.n (i : Nat) : eListAt i ([] : Env) = (match ([] : Env)[i]? with
  | some (some x) => lift ((x.lis.or x.tups).bind fun xs => (allP xs).map fun ds => .li (ds.map .pu)) ([] : Env)
  | _ => .no) := rfl
def eTupAt (i : Nat) : M O := fun env => match env[i]? with
  | some (some x) => match x.lis with
    | some xs => lift ((allP xs).map fun ds => .pu (.tup ds)) env
    | none => (match x with
      | .pu (.tup ds) => .ok (.pu (.tup ds)) env
      | _ => .no)
  | _ => .no
@[simp] theorem eTupAt.c (i : Nat) {z : Option O} {zs : Env} : eTupAt i (z :: zs) = (match (z :: zs)[i]? with
  | some (some x) => match x.lis with
    | some xs => lift ((allP xs).map fun ds => .pu (.tup ds)) (z :: zs)
    | none => (match x with
      | .pu (.tup ds) => .ok (.pu (.tup ds)) (z :: zs)
      | _ => .no)
  | _ => .no) := rfl
@[simp] theorem eTupAt.n (i : Nat) : eTupAt i ([] : Env) = (match ([] : Env)[i]? with
  | some (some x) => match x.lis with
    | some xs => lift ((allP xs).map fun ds => .pu (.tup ds)) ([] : Env)
    | none => (match x with
      | .pu (.tup ds) => .ok (.pu (.tup ds)) ([] : Env)
      | _ => .no)
  | _ => .no) := rfl
theorem listAt_imp {i : Nat} {σ : St} {H : Hp} {Q : VK} (q : tE K E (eListAt i) σ H Q) : tCB (rListW K) (tCons (tVar i) tNil) σ H Q := by
  obtain ⟨Z, τ, T, env, F, ok, hl, post⟩ := q
  unfold eListAt at post
  split at post
  · rename_i x ex
    obtain ⟨v, A, B, hv, q1, i1, _⟩ := ok.slot hl ex
    refine ⟨v, hv, ?_⟩
    cases e : (x.lis.or x.tups).bind fun xs => (allP xs).map fun ds => O.li (ds.map .pu) with
    | none => rw [e] at post; exact post.elim
    | some z =>
      rw [e] at post
      obtain ⟨xs, e1, e2⟩ := Option.bind_eq_some_iff.mp e
      obtain ⟨ds, e3, rfl⟩ := map_some e2
      have fin : ∀ {us : List V}, RepOs K Z H us xs A → ∀ p, H p = none → Q (.ref p) (upd H p (.lst us)) := fun {us} ps p hp =>
        post _ _ Z _ (Same.refl Z) (Ok.newL (F1 := fun _ => 0) ok ok.sl (allP_ok ps e3).os (fun b => by simp) hp)
      cases ex1 : x.lis with
      | some ys =>
        rw [ex1] at e1
        cases e1
        obtain ⟨a, us, rfl, ha, ps⟩ := lis_ok ok.sub q1 ex1
        exact ⟨a, us, rfl, .inl (ha), fin ps⟩
      | none =>
        rw [ex1] at e1
        obtain ⟨a, us, rfl, ha, ps⟩ := tups_ok ok.sub q1 e1
        exact ⟨a, us, rfl, .inr ha, fin ps⟩
  · exact post.elim
theorem tupAt_imp {i : Nat} {σ : St} {H : Hp} {Q : VK} (q : tE K E (eTupAt i) σ H Q) : tCB (rTupW K) (tCons (tVar i) tNil) σ H Q := by
  obtain ⟨Z, τ, T, env, F, ok, hl, post⟩ := q
  unfold eTupAt at post
  split at post
  · rename_i x ex
    obtain ⟨v, A, B, hv, q1, i1, _⟩ := ok.slot hl ex
    refine ⟨v, hv, ?_⟩
    split at post
    · rename_i xs e1
      cases e : allP xs with
      | none => rw [e] at post; exact post.elim
      | some ds =>
        rw [e] at post
        obtain ⟨a, us, rfl, ha, ps⟩ := lis_ok ok.sub q1 e1
        refine ⟨a, us, rfl, .inl ⟨ha, fun p hp => ?_⟩⟩
        have nn := Ok.newT (F1 := fun _ => 0) ok ok.sl ((allP_ok ps e).os (H := H)) (fun b => by simp) hp
        rw [show mkT (ds.map .pu) = .pu (.tup ds) from by unfold mkT; rw [allP_map]] at nn
        obtain ⟨Z2, G2, s2, ok2⟩ := nn
        exact post _ _ Z2 G2 s2 ok2
    · split at post
      · cases q1 with
        | pu q1 =>
          have q0 := q1
          cases q1 with
          | tup a r => exact ⟨_, _, rfl, .inr ⟨(ok.sub.le (K := K)).t _ _ a, post _ H Z F (Same.refl Z) (ok.pure q0)⟩⟩
      · exact post.elim
  · exact post.elim
end
end Ws

namespace Ws
open PySem L2
section
variable {K : PySem.W.Frag} {E : XK} {Z Z' H H' : Hp} {σ σ' σ1 τ ρ : St} {env env' T R : Env} {F G : Fp} {Q Q' : VK} {v : V} {o : O} {d : D} {io : Nat → Bool}
/-! ### slices: of what is plain -/
abbrev MO := Option (M O)
@[simp] def cutD {α : Type} (xs : List α) (lo hi : Option Int) : List α := (xs.drop (HT.sIx xs.length 0 lo)).take (HT.sIx xs.length xs.length hi - HT.sIx xs.length 0 lo)
@[simp] def partM : Option (M O) → Env → Out (Option Int)
  | none, e => .ok none e
  | some m, e => (m e).bind fun y e => match y with
    | .pu (.int i) => .ok (some i) e
    | _ => .no
@[simp] def slO (x : O) (lo hi : Option Int) : Option O := match x with
  | .pu (.lst ds) => some (.li ((cutD ds lo hi).map .pu))
  | .pu (.tup ds) => some (.pu (.tup (cutD ds lo hi)))
  | .pu (.str z) => if z.length ≤ 100000 then some (.pu (.str (cutS z lo hi))) else none
  | .li xs => (allP xs).map fun ds => .li ((cutD ds lo hi).map .pu)
  | _ => none
def eSl (m : M O) (lo hi : Option (M O)) : M O := fun env => (m env).bind fun x e1 => (partM lo e1).bind fun l e2 => (partM hi e2).bind fun h e3 => lift (slO x l h) e3
@[simp] theorem eSl.c (m : M O) (lo hi : Option (M O)) {z : Option O} {zs : Env} : eSl m lo hi (z :: zs) = ((m (z :: zs)).bind fun x e1 => (partM lo e1).bind fun l e2 => (partM hi e2).bind fun h e3 => lift (slO x l h) e3) := rfl
@[simp] theorem eSl.n (m : M O) (lo hi : Option (M O)) : eSl m lo hi ([] : Env) = ((m ([] : Env)).bind fun x e1 => (partM lo e1).bind fun l e2 => (partM hi e2).bind fun h e3 => lift (slO x l h) e3) := rfl
/-- a slice of what a name holds -/
def eSlAt (i : Nat) (lo hi : Option (M O)) : M O := fun env => match env[i]? with
  | some (some _) => (partM lo env).bind fun l e2 => (partM hi e2).bind fun h e3 => match e3[i]? with
    | some (some x) => lift (slO x l h) e3
    | _ => .no
  | _ => .no
@[simp] theorem eSlAt.c (i : Nat) (lo hi : Option (M O)) {z : Option O} {zs : Env} : eSlAt i lo hi (z :: zs) = (match (z :: zs)[i]? with
  | some (some _) => (partM lo (z :: zs)).bind fun l e2 => (partM hi e2).bind fun h e3 => match e3[i]? with
    | some (some x) => lift (slO x l h) e3
    | _ => .no
  | _ => .no) := rfl
@[simp] theorem eSlAt.n (i : Nat) (lo hi : Option (M O)) : eSlAt i lo hi ([] : Env) = (match ([] : Env)[i]? with
  | some (some _) => (partM lo ([] : Env)).bind fun l e2 => (partM hi e2).bind fun h e3 => match e3[i]? with
    | some (some x) => lift (slO x l h) e3
    | _ => .no
  | _ => .no) := rfl
def rSlW (K : PySem.W.Frag) : V → Option Int → Option Int → Hp → VK → Prop := fun x lo hi H Q => rSlL K x lo hi H Q ∨ (rSlA K x lo hi H Q ∨ rSlS x lo hi H Q)
theorem mkT_map (ds : List D) : mkT (ds.map .pu) = .pu (.tup ds) := by unfold mkT; rw [allP_map]
theorem Reps.cut {vs : List V} {ds : List D} (h : Reps K Z vs ds) (lo hi : Option Int) : Reps K Z (cutV vs lo hi) (cutD ds lo hi) := by
  unfold cutV cutD
  rw [h.length]
  exact (h.drop _).take _
theorem whole {α : Type} {xs : List α} {lo hi : Option Int} (h : HT.sIx xs.length 0 lo = 0 ∧ HT.sIx xs.length xs.length hi = xs.length) : cutD xs lo hi = xs := by
  unfold cutD
  rw [h.1, h.2]
  simp
theorem sl_run {A : Fp} {x z : O} {lo hi : Option Int} (ok : Ok K Z H σ env F) (q : RepO K Z H v x A) (e : slO x lo hi = some z) (k : ∀ (w : V) (H' Z' : Hp) (F' : Fp), Same Z Z' → Ok K Z' H' (some w :: σ) (some z :: env) F' → Q w H') : rSlW K v lo hi H Q := by
  unfold slO at e
  split at e
  · cases e
    cases q with
    | pu q => cases q with
      | lst a r =>
        refine .inl ⟨_, _, rfl, ((ok.sub.le (K := K)).l _ _ a), fun p hp => ?_⟩
        exact k _ _ Z _ (Same.refl Z) (Ok.newL (F1 := fun _ => 0) ok ok.sl (r.cut lo hi).os (fun b => by simp) hp)
  · cases e
    cases q with
    | pu q =>
      have q0 := q
      cases q with
      | tup a r =>
        refine .inr (.inl ⟨_, _, rfl, (ok.sub.le (K := K)).t _ _ a, fun w => ?_, fun _ p hp => ?_⟩)
        · have len := r.length
          rw [len] at w
          rw [whole w] at k
          exact k _ H Z F (Same.refl Z) (ok.pure q0)
        · have nn := Ok.newT (F1 := fun _ => 0) ok ok.sl ((r.cut lo hi).os (H := H)) (fun b => by simp) hp
          rw [mkT_map] at nn
          obtain ⟨Z2, G2, s2, ok2⟩ := nn
          exact k _ _ Z2 G2 s2 ok2
  · split at e
    · cases e
      cases q with
      | pu q => cases q; exact .inr (.inr ⟨_, rfl, line_le (by assumption), k _ H Z F (Same.refl Z) (ok.pure (.str _))⟩)
    · cases e
  · obtain ⟨ds, e1, rfl⟩ := map_some e
    cases q with
    | li a r i =>
      have r := allP_ok r e1
      refine .inl ⟨_, _, rfl, SqL.of a, fun p hp => ?_⟩
      exact k _ _ Z _ (Same.refl Z) (Ok.newL (F1 := fun _ => 0) ok ok.sl (r.cut lo hi).os (fun b => by simp) hp)
  · cases e
variable (K E) in
def PostP (Z : Hp) (τ : St) (T : Env) (σ : St) (Q : Option Int → Hp → Prop) : Out (Option Int) → Prop
  | .ok o env => ∀ (H' Z' : Hp) (F' : Fp), Same Z Z' → Ok K Z' H' (τ ++ σ) (T ++ env) F' → Q o H'
  | .ex x env => PostX K E Z τ T σ x env
  | .no => False
/-- a part left out, or an expression -/
inductive PartV (K : PySem.W.Frag) (E : XK) : Option (M O) → TO → Prop
  | none : PartV K E none tNoPart
  | some {m : M O} {t : TE} : (∀ σ H Q, tE K E m σ H Q → t σ H Q) → PartV K E (some m) (tPart t)
theorem part_run {β : Type} {m : Option (M O)} {t : TO} (pv : PartV K E m t) (P : Hp → Out β → Prop) (pm : ∀ {Z Z' o}, Same Z Z' → P Z o → P Z' o) (px : ∀ {Z x env}, P Z (.ex x env) → PostX K E Z τ T σ x env) (pn : ∀ {Z}, P Z .no → False) {g : Option Int → Env → Out β}
    {Qo : Option Int → Hp → Prop} (e : ρ.length = R.length) (ok : Ok K Z H (ρ ++ (τ ++ σ)) (R ++ (T ++ env)) F) (hl : τ.length = T.length) (h : P Z ((partM m env).bind g))
    (k : ∀ (l : Option Int) (H2 Z2 : Hp) (F2 : Fp) (e2 : Env), Same Z Z2 → Ok K Z2 H2 (ρ ++ (τ ++ σ)) (R ++ (T ++ e2)) F2 → P Z2 (g l e2) → Qo l H2) : t σ H Qo := by
  cases pv with
  | none => exact k none H Z F env (Same.refl Z) ok h
  | @some m t hi =>
    refine hi σ H _ ⟨Z, ρ ++ τ, R ++ T, env, F, by rw [List.append_assoc, List.append_assoc]; exact ok, by simp [e, hl], ?_⟩
    unfold partM at h
    cases em : m env with
    | no => simp only [em, bind_no] at h; exact pn h
    | ex x e1 => simp only [em, bind_ex] at h; exact (px h).up e
    | ok y e1 =>
      simp only [em, bind_ok] at h
      intro v H' Z' F' s ok'
      rw [List.append_assoc, List.append_assoc] at ok'
      split at h
      · obtain ⟨e2, ok2⟩ := ok'.int
        cases e2
        exact ⟨_, rfl, k _ H' Z' F' e1 s ok2 (pm s h)⟩
      · exact (pn h).elim
theorem sl_imp {m : M O} {lo hi : Option (M O)} {tl th : TO} {t : TE} (hm : ∀ σ H Q, tE K E m σ H Q → t σ H Q) (pl : PartV K E lo tl) (ph : PartV K E hi th) {σ : St} {H : Hp} {Q : VK} (h : tE K E (eSl m lo hi) σ H Q) : tSl (rSlW K) t tl th σ H Q := by
  obtain ⟨Z, τ, T, env, F, ok, hl, post⟩ := h
  refine hm σ H _ ⟨Z, τ, T, env, F, ok, hl, (stepE (ρ := []) (R := []) rfl post).imp fun v H1 ⟨Z1, F1, x, e1, s1, ok1, post1⟩ => ?_⟩
  refine part_run (ρ := [some v]) (R := [some x]) pl (PE' K E τ T σ Q) (fun s h => PostE.mono s h) (fun h => h) (fun h => h) rfl ok1 hl post1 fun l H2 Z2 F2 e2 s2 ok2 post2 => ?_
  refine part_run (ρ := [some v]) (R := [some x]) ph (PE' K E τ T σ Q) (fun s h => PostE.mono s h) (fun h => h) (fun h => h) rfl ok2 hl post2 fun u H3 Z3 F3 e3 s3 ok3 post3 => ?_
  cases e : slO x l u with
  | none => rw [e] at post3; exact post3.elim
  | some z =>
    rw [e] at post3
    obtain ⟨_, A, B, e2, q, ok4, _⟩ := Ok.top (x := some v) ok3
    cases e2
    exact sl_run ok4 q e fun w H' Z' F' s o => post3 w H' Z' F' s o
theorem slAt_imp {i : Nat} {lo hi : Option (M O)} {tl th : TO} (pl : PartV K E lo tl) (ph : PartV K E hi th) {σ : St} {H : Hp} {Q : VK} (h : tE K E (eSlAt i lo hi) σ H Q) : tSl (rSlW K) (tVar i) tl th σ H Q := by
  obtain ⟨Z, τ, T, env, F, ok, hl, post⟩ := h
  unfold eSlAt at post
  split at post
  · rename_i x0 ex0
    obtain ⟨v, _, _, hv, _⟩ := ok.slot hl ex0
    refine ⟨v, hv, ?_⟩
    refine part_run (ρ := []) (R := []) pl (PE' K E τ T σ Q) (fun s h => PostE.mono s h) (fun h => h) (fun h => h) rfl ok hl post fun l H2 Z2 F2 e2 s2 ok2 post2 => ?_
    refine part_run (ρ := []) (R := []) ph (PE' K E τ T σ Q) (fun s h => PostE.mono s h) (fun h => h) (fun h => h) rfl ok2 hl post2 fun u H3 Z3 F3 e3 s3 ok3 post3 => ?_
    split at post3
    · rename_i x ex
      obtain ⟨v', A', B', hv', q2, _⟩ := Ok.slot (τ := τ) (T := T) (σ := σ) (env := e3) ok3 hl ex
      rw [hv] at hv'
      cases hv'
      cases e : slO x l u with
      | none => rw [e] at post3; exact post3.elim
      | some z =>
        rw [e] at post3
        exact sl_run ok3 q2 e fun w H' Z' F' s o => post3 w H' Z' F' s o
    · exact post3.elim
  · exact post.elim
/-! ### methods of a list that a name owns -/
/-- the list in slot i, and what comes of it by the arguments -/
def eMeth (f : List O → List O → Option (O × List O)) (i : Nat) (ms : M (List O)) : M O := fun env => match env[i]? with
  | some (some (.li _)) => (ms env).bind fun ys e => match e[i]? with
    | some (some (.li xs)) => (match f xs ys with
      | some (r, zs) => .ok r (e.set i (some (.li zs)))
      | none => .no)
    | _ => .no
  | _ => .no
@[simp] theorem eMeth.c (f : List O → List O → Option (O × List O)) (i : Nat) (ms : M (List O)) {z : Option O} {zs : Env} : eMeth f i ms (z :: zs) = (match (z :: zs)[i]? with
  | some (some (.li _)) => (ms (z :: zs)).bind fun ys e => match e[i]? with
    | some (some (.li xs)) => (match f xs ys with
      | some (r, zs) => .ok r (e.set i (some (.li zs)))
      | none => .no)
    | _ => .no
  | _ => .no) := rfl
@[simp] theorem eMeth.n (f : List O → List O → Option (O × List O)) (i : Nat) (ms : M (List O)) : eMeth f i ms ([] : Env) = (match ([] : Env)[i]? with
  | some (some (.li _)) => (ms ([] : Env)).bind fun ys e => match e[i]? with
    | some (some (.li xs)) => (match f xs ys with
      | some (r, zs) => .ok r (e.set i (some (.li zs)))
      | none => .no)
    | _ => .no
  | _ => .no) := rfl
/-- a method that changes the list: what it does to values, and to trees -/
def MethV (K : PySem.W.Frag) (f : List O → List O → Option (O × List O)) (r : V → List V → Hp → VK → Prop) : Prop := ∀ (Z H : Hp) (a : Addr) (vs us : List V) (xs ys zs : List O) (z : O) (A B : Fp) (Q : VK), H a = some (.lst vs) → RepOs K Z H vs xs A → RepOs K Z H us ys B → f xs ys = some (z, zs) →
  (∀ (w : V) (ws : List V) (C C' : Fp), (∀ H', (∀ b, b ≠ a → H' b = H b) → (∀ b, 0 < A b → b ≠ a) → (∀ b, 0 < B b → b ≠ a) → RepO K Z H' w z C ∧ RepOs K Z H' ws zs C') → (∀ b, C b + C' b ≤ A b + B b) → Q w (upd H a (.lst ws))) → r (.ref a) us H Q
theorem meth_imp {f : List O → List O → Option (O × List O)} {r : V → List V → Hp → VK → Prop} {i : Nat} {ms : M (List O)} {li : List (Option Nat)} (hv : MethV K f r) {σ : St} {H : Hp} {Q : VK} (h : tE K E (eMeth f i ms) σ H Q) : tBM K "list" r (tVar i) (tL K E li ms) σ H Q := by
  obtain ⟨Z, τ, T, env, F, ok, hl, post⟩ := h
  unfold eMeth at post
  split at post
  · rename_i x0 ex0
    obtain ⟨v, _, _, hv0, q0, _⟩ := ok.slot hl ex0
    refine ⟨v, hv0, ?_, ?_⟩
    · cases q0 with
      | li a _ _ => exact .inl ⟨rfl, _, SqL.of a⟩
    · refine ⟨Z, τ, T, env, F, ok, hl, (stepL (ρ := []) (R := []) rfl post).imp fun us H1 ⟨Z1, F1, ys, e1, s1, l1, _, ok1, post1⟩ => ?_⟩
      split at post1
      · rename_i xs ex
        obtain ⟨A0, B0, qy, ry, iy⟩ := slots_args (σ := τ ++ σ) (env := T ++ e1) l1 ok1
        have ok2 : Ok K Z1 H1 (τ ++ σ) (T ++ e1) B0 := ok1.dn ry fun b => by have := iy b; omega
        obtain ⟨v', A, B, hv', q, i1, r1, put⟩ := ok2.slot hl ex
        rw [hv0] at hv'
        cases hv'
        cases q with
        | @li a vs _ A1 _ ha qs j =>
          cases e : f xs ys with
          | none => rw [e] at post1; exact post1.elim
          | some p =>
            obtain ⟨z, zs⟩ := p
            rw [e] at post1
            have na : ∀ b, 0 < A1 b → b ≠ a := fun b w x => by subst x; have := j b; rw [one_self] at this; have := i1 b; have := ok2.le b; omega
            have nb : ∀ b, 0 < A0 b → b ≠ a := fun b w x => by subst x; have := j b; rw [one_self] at this; have := i1 b; have := iy b; have := ok1.le b; omega
            have nB : ∀ b, 0 < B b → b ≠ a := fun b w x => by subst x; have := j b; rw [one_self] at this; have := i1 b; have := ok2.le b; omega
            refine hv Z1 H1 a vs us xs ys zs z A1 A0 Q ha qs qy e fun w ws C C' hC ic => ?_
            have kp : ∀ b, b ≠ a → upd H1 a (.lst ws) b = H1 b := fun b h => upd_ne h
            obtain ⟨c1, c2⟩ := hC (upd H1 a (.lst ws)) kp na nb
            have pt := put (Z' := Z1) (H' := upd H1 a (.lst ws)) (v' := .ref a) (o' := .li zs) (F1' := fun b => one a b + C' b) (G := fun b => one a b + C' b + B b) Le.refl (fun b w => kp b (nB b w)) (.li upd_same c2 fun b => Nat.le_refl _) fun b => Nat.le_refl _
            rw [set_self hv0] at pt
            have own : ∀ b, one a b + C' b + B b + C b ≤ F1 b := fun b => by
              have := ic b
              have := j b
              have := i1 b
              have := iy b
              omega
            refine post1 w _ Z1 (fun b => C b + (one a b + C' b + B b)) (Same.refl Z1) ⟨fun b u ub => ?_, .so c1 pt fun b => Nat.le_refl _, fun b => by have := own b; have := ok1.le b; show C b + (one a b + C' b + B b) ≤ 1; omega, fun b w => ok1.own b (by have := own b; have w : 0 < C b + (one a b + C' b + B b) := w; omega), fun b w => ?_⟩
            · have : b ≠ a := fun x => by
                subst x
                have := ok1.own b (by have := iy b; have := i1 b; have := j b; rw [one_self] at this; omega)
                rw [this] at ub; cases ub
              rw [kp b this]
              exact ok1.sub b u ub
            · by_cases x : b = a
              · rw [x, upd_same]; simp
              · rw [kp b x]
                exact ok1.there b (by have := own b; have w : 0 < C b + (one a b + C' b + B b) := w; omega)
      · exact post1.elim
  · exact post.elim
@[simp] def appF : List O → List O → Option (O × List O)
  | xs, [y] => if xs.length < 100000 then some (.pu .non, xs ++ [y]) else none
  | _, _ => none
theorem methv_app : MethV K appF rAppend := by
  intro Z H a vs us xs ys zs z A B Q ha qs qy e k
  unfold appF at e
  split at e
  · split at e
    · rename_i y hz
      cases e
      cases qy with
      | @cons u _ _ _ B1 B2 _ q r i =>
        cases r
        refine ⟨a, vs, u, rfl, rfl, ha, Nat.lt_of_lt_of_le (by rw [qs.len]; exact hz) (by decide), ?_⟩
        refine k .non _ (fun _ => 0) (fun b => A b + B1 b) (fun H' kp na nb => ⟨.pu .non, (qs.mono Le.refl (fun b w => kp b (na b w)) fun b => Nat.le_refl _).snoc (q.mono Le.refl (fun b w => kp b (nb b (by have := i b; omega))) fun b => Nat.le_refl _)⟩) fun b => by have := i b; show 0 + (A b + B1 b) ≤ A b + B b; omega
    · cases e
  · cases e
end
end Ws

namespace Ws
open PySem L2
/-! ### a def by its body -/
@[simp] def keepP (io : Nat → Bool) (n : Nat) (env : Env) : List (Option O) := (List.range n).map fun i => if io i = true then (env[i]?).join else none
def finP (io : Nat → Bool) (n : Nat) : Out Fl → Out O
  | .ok .nx e => .ok (.pu .non) (keepP io n e)
  | .ok (.rt r) e => .ok r (keepP io n e)
  | _ => .no
@[simp] theorem finP_nx (io : Nat → Bool) (n : Nat) (e : Env) : finP io n (.ok .nx e) = .ok (.pu .non) (keepP io n e) := rfl
@[simp] theorem finP_rt (io : Nat → Bool) (n : Nat) (r : O) (e : Env) : finP io n (.ok (.rt r) e) = .ok r (keepP io n e) := rfl
@[simp] theorem finP_ex (io : Nat → Bool) (n : Nat) (r : Exn) (e : Env) : finP io n (.ex r e) = .no := rfl
@[simp] theorem finP_no (io : Nat → Bool) (n : Nat) : finP io n .no = .no := rfl
@[simp] def fden (n k : Nat) (io : Nat → Bool) (m : M Fl) : FD := fun os => finP io n (m (os.map some ++ List.replicate k none))
section
variable {K : PySem.W.Frag} {Z H : Hp} {σ : L2.St} {env : Env} {F : Fp}
theorem slots_keep {io : Nat → Bool} {vs : List V} : ∀ (n : Nat) {σ : L2.St} {env : Env} {F : Fp}, RepSl K Z H σ env F → (∀ i, i < n → io i = true → σ[i]? = (vs[i]?).map some) → n ≤ env.length → n ≤ vs.length → ∃ G, RepSl K Z H ((vs.take n).map some) (keepP io n env) G ∧ (∀ b, G b ≤ F b) ∧ ∃ G2, RepSl K Z H (σ.drop n) (env.drop n) G2 ∧ ∀ b, G b + G2 b ≤ F b
  | 0, σ, env, F, r, _, _, _ => ⟨fun _ => 0, .nil, fun b => Nat.zero_le _, F, by simpa using r, fun b => by simp⟩
  | n + 1, σ, env, F, r, h, h1, h2 => by
    obtain ⟨G, a, b, G2, c, d⟩ := slots_keep n r (fun i hi => h i (by omega)) (by omega) (by omega)
    have hv : n < vs.length := by omega
    have he : n < env.length := by omega
    have hs : n < σ.length := by rw [r.len]; exact he
    have e1 : (vs.take (n + 1)).map some = (vs.take n).map some ++ [some vs[n]] := by
      rw [List.take_succ_eq_append_getElem hv, List.map_append]; rfl
    have e2 : keepP io (n + 1) env = keepP io n env ++ [if io n = true then env[n] else none] := by
      unfold keepP
      rw [List.range_succ, List.map_append]
      simp [he]
    have e3 : σ.drop n = σ[n] :: σ.drop (n + 1) := List.drop_eq_getElem_cons hs
    have e4 : env.drop n = env[n] :: env.drop (n + 1) := List.drop_eq_getElem_cons he
    rw [e3, e4] at c
    rw [e1, e2]
    by_cases hi : io n = true
    · have es : σ[n] = some vs[n] := by
        have := h n (by omega) hi
        rw [List.getElem?_eq_getElem hs, List.getElem?_eq_getElem hv] at this
        exact Option.some.inj this
      rw [if_pos hi]
      rw [es] at c
      generalize ee : env[n] = y at c
      cases c with
      | no r' => exact ⟨G, a.app (.no .nil) (F2 := fun _ => 0) fun b => by simp, b, G2, r', d⟩
      | @so _ _ _ _ A B _ q r' i =>
        refine ⟨fun b => G b + A b, a.app (.so (F2 := fun _ => 0) q .nil fun b => Nat.le_refl (A b + 0)) fun b => by simp, fun b => by have := d b; have := i b; show G b + A b ≤ F b; omega, B, r', fun b => by have := d b; have := i b; show G b + A b + B b ≤ F b; omega⟩
    · rw [if_neg hi]
      exact ⟨G, a.app (.no .nil) (F2 := fun _ => 0) fun b => by simp, b, G2, c.tail, d⟩
theorem map_get {vs : List V} {ns : List (Option V)} {i : Nat} (h : i < vs.length) : (vs.map some ++ ns)[i]? = (vs[i]?).map some := by
  rw [List.getElem?_append_left (by simpa using h), List.getElem?_map]
theorem slots_none (σ : L2.St) : RepSl K Z H σ (List.replicate σ.length none) (fun _ => 0) := by
  induction σ with
  | nil => exact .nil
  | cons x σ ih => exact .no ih
end
section
variable {P : Program} {w : World} {K : PySem.W.Frag} {mg : Str → Option Value} {base : Heap}
theorem okV {x qual : Str} {st : Stmt} {f : Addr} {fd : FuncData} {N ps : List Str} {k n j : Nat} {io : Nat → Bool} {m : M Fl} (F : Fun K x qual st f fd) (S : FnScope N ps (defScope st)) (hn : ps.length = n) (hN : N.length = n + j)
    (hbody : ∀ (cdv : Value) (A : Around) (outer : List PySem.Env) (s : Shared) (H : Hp) (E : XK), Room k (A.deeper (PyProof.Rows.envOfC qual (defScope st) s.heap.objs.size f cdv)) →
      PSs (cxOf CX0 P w K mg base N qual (defScope st) f cdv A outer s H E).nox (defBody st) (tS K E0 io m)) : FnOk P w K mg base CX0 (k + 1) f fd ps (spV K n (fden n j io m)) := by
  refine F.ok S (fun vs H Q E h => by rw [h.1, hn]) (fun cdv A outer s H vs Q E hr h => ?_)
  obtain ⟨hlen, Z, τ, T, os, F0, ok, l, hl, post⟩ := h
  refine ⟨_, hbody cdv A outer s H E hr, ?_⟩
  have hj : N.length - vs.length = j := by omega
  have st0 : L2.start N vs = vs.map some ++ List.replicate j none := by unfold L2.start; rw [hj]
  rw [st0]
  -- the arguments come to the bottom, under what the callers bear
  have okb : Ok K Z H (τ ++ (vs.map some ++ List.replicate j none)) (T ++ (os.map some ++ List.replicate j none)) F0 := by
    obtain ⟨F1, F2, a, b, c⟩ := ok.sl.split (by simpa using l)
    have n0 := slots_none (K := K) (Z := Z) (H := H) (List.replicate j (none : Option V))
    rw [List.length_replicate] at n0
    have a2 := a.app (G := F1) n0 fun b => by simp
    exact ok.dn (b.app a2 fun b => by have := c b; omega) fun b => Nat.le_refl _
  -- at the end
  have fin : ∀ {v : V} {r : O} {σ' : L2.St} {e : Env} {H' Z' : Hp} {F' : Fp}, Pin io (vs.map some ++ List.replicate j none) σ' → Ok K Z' H' (some v :: (τ ++ σ')) (some r :: (T ++ e)) F' → ∃ G, vs.length = (keepP io n e).length ∧ Ok K Z' H' (some v :: (vs.map some ++ τ)) (some r :: (keepP io n e ++ T)) G := by
    intro v r σ' e H' Z' F' p ok'
    have kl : vs.length = (keepP io n e).length := by simp [keepP, hlen]
    cases ok'.sl with
    | @so _ _ _ _ A B _ q r' i =>
      obtain ⟨F1, F2, a, b, c⟩ := r'.split hl
      have el : e.length = n + j := by rw [← b.len, p.1]; simp [hlen]
      obtain ⟨G, g1, g2, _⟩ := slots_keep (vs := vs) n b (fun i' hi hio => by rw [p.2 i' hio, map_get (by omega)]) (by omega) (by omega)
      rw [List.take_of_length_le (by omega)] at g1
      exact ⟨F', kl, ok'.dn (.so (F2 := fun b => G b + F1 b) q (g1.app a fun b => Nat.le_refl _) fun b => by have := i b; have := c b; have := g2 b; show A b + (G b + F1 b) ≤ F' b; omega) fun b => Nat.le_refl _⟩
  refine ⟨Z, τ, T, _, F0, okb, hl, ?_⟩
  unfold fden at post
  cases em : m (os.map some ++ List.replicate j none) with
  | no => rw [em] at post; exact post
  | ex x e => rw [em] at post; exact post.elim
  | ok fl e =>
    rw [em] at post
    cases fl with
    | nx =>
      intro σ' H' Z' F' s' p ok'
      obtain ⟨G, l2, ok2⟩ := fin (v := .non) (r := .pu .non) p (ok'.pure .non)
      exact post .non H' Z' G s' l2 ok2
    | rt r =>
      intro v σ' H' Z' F' s' p ok'
      obtain ⟨G, l2, ok2⟩ := fin p ok'
      exact post v H' Z' G s' l2 ok2
    | bk => exact post.elim
    | ct => exact post.elim
end
/-! ### the rules, by X -/
section
variable {X : Cx} {E : XK} {io : Nat → Bool} {pos : Pos}
abbrev VE (X : Cx) (E : XK) (e : Expr) (m : M O) : Prop := PE X e (tE X.K E m)
abbrev VT (X : Cx) (E : XK) (e : Expr) (m : M Bool) : Prop := PT X e (tT X.K E m)
abbrev VW (X : Cx) (E : XK) (e : Expr) (m : M Bool) : Prop := PW X e (tT X.K E m)
abbrev VA (X : Cx) (E : XK) (es : List Expr) (li : List (Option Nat)) (m : M (List O)) : Prop := PA X es (tL X.K E li m)
abbrev VS (X : Cx) (E : XK) (io : Nat → Bool) (s : Stmt) (m : M Fl) : Prop := PS X s (tS X.K E io m)
abbrev VB (X : Cx) (E : XK) (io : Nat → Bool) (s : List Stmt) (m : M Fl) : Prop := PSs X s (tS X.K E io m)
abbrev VG (X : Cx) (io : Nat → Bool) (e : Expr) (g : GD) : Prop := PG X e (tG X.K io g)
abbrev VGs (X : Cx) (io : Nat → Bool) (es : List Expr) (g : GDs) : Prop := PGs X es (tGs X.K io g)
abbrev VI (X : Cx) (E : XK) (tg e : Expr) (m : M (List D)) : Prop := PI X tg e (tI X.K E m)
theorem _root_.L2.PG.weak {e : Expr} {t t' : TG} (h : PG X e t) (k : ∀ v σ H Q, t' v σ H Q → t v σ H Q) : PG X e t' := ⟨fun pins s σ H v u Q I r q => h.run pins s σ H v u Q I r (k v σ H Q q)⟩
theorem _root_.L2.PGs.weak {e : List Expr} {t t' : TGs} (h : PGs X e t) (k : ∀ v σ H Q, t' v σ H Q → t v σ H Q) : PGs X e t' := ⟨fun pins s σ H v u Q I r q => h.run pins s σ H v u Q I r (k v σ H Q q)⟩
theorem _root_.L2.PI.weak {tg e : Expr} {t t' : TI} (h : PI X tg e t) (k : ∀ σ H R, t' σ H R → t σ H R) : PI X tg e t' := ⟨fun pins s σ H R I q => h.run pins s σ H R I (k σ H R q)⟩
theorem _root_.L2.PW.weak {e : Expr} {t t' : TT} (h : PW X e t) (k : ∀ σ H Q, t' σ H Q → t σ H Q) : PW X e t' := ⟨fun wh pins s σ H Q I q => h.run wh pins s σ H Q I (k σ H Q q)⟩
/-! names, constants -/
theorem v_int {i : Int} {j : Nat} : VE X E (.Constant (.int i) j pos) (cst (.int i)) := pe_int.weak fun _ _ _ => tE_cst fun _ => .int i
theorem v_bl {b : Bool} {j : Nat} : VE X E (.Constant (.bool b) j pos) (cst (.bl b)) := pe_bl.weak fun _ _ _ => tE_cst fun _ => .bl b
theorem v_non {j : Nat} : VE X E (.Constant .none j pos) (cst .non) := pe_non.weak fun _ _ _ => tE_cst fun _ => .non
theorem v_str {x y : Str} {j : Nat} (h : x = y) : VE X E (.Constant (.str x) j pos) (cst (.str y)) := h ▸ pe_str.weak fun _ _ _ => tE_cst fun _ => .str x
theorem v_rd (i : Nat) {x : Str} (hN : X.N[i]? = some x := by rfl) (hv : Vis X.env.scope x := by first | exact Or.inl rfl | exact Or.inr (Or.inl rfl) | exact Or.inr (Or.inr rfl)) (hd : (x == ("__debug__" : Str)) = false := by decide)
    (hcd : (x == ("__classdict__" : Str)) = false := by decide) : VE X E (.Name x pos) (rd i) := (pe_var hN hv hd hcd).weak fun _ _ _ => tE_rd
theorem v_mv (i : Nat) {x : Str} (hN : X.N[i]? = some x := by rfl) (hv : Vis X.env.scope x := by first | exact Or.inl rfl | exact Or.inr (Or.inl rfl) | exact Or.inr (Or.inr rfl)) (hd : (x == ("__debug__" : Str)) = false := by decide)
    (hcd : (x == ("__classdict__" : Str)) = false := by decide) : VE X E (.Name x pos) (mv i) := (pe_var hN hv hd hcd).weak fun _ _ _ => tE_mv
/-- a name of the module's: the whole of it is d -/
structure GlobD (K : PySem.W.Frag) (mg : Str → Option Value) (x : Str) (d : D) : Prop where
  ex : ∃ (u : Value) (v : V), mg x = some u ∧ RelV v u ∧ ∀ Z, Rep K Z v d
theorem v_glob {x : Str} {d : D} (h : GlobD X.K X.mg x d) (hg : Gl X x := by rfl) (hd : (x == ("__debug__" : Str)) = false := by decide) : VE X E (.Name x pos) (cst d) := by
  obtain ⟨u, v, hm, r, q⟩ := h.ex
  exact (pe_glob hg hm r hd).weak fun _ _ _ => tE_cst q
theorem v_ty {x : Str} {n : String} (hm : X.mg x = none) (hv : bootBuiltins x = some (.type n)) (hg : Gl X x := by rfl) (hn : x ≠ "__name__" := by decide) (hd : (x == ("__debug__" : Str)) = false := by decide) : VE X E (.Name x pos) (cst (.ty n)) :=
  (pe_bltn hg hm hv (v := .ty n) rfl hn hd).weak fun _ _ _ => tE_cst fun _ => .ty n
/-! operators -/
variable {a b c e : Expr} {ma mb mc m : M O}
theorem v_op {op : Operator} {f : O → O → Option O} {r : R2} (ho : OpR X (binaryOp op) r) (hv : OpV X.K f r) (ha : VE X E a ma) (hb : VE X E b mb) : VE X E (.BinOp a op b pos) (eBin f ma mb) := (pe_op ho ha hb).weak fun _ _ _ => op_imp hv
theorem v_add (ha : VE X E a ma) (hb : VE X E b mb) : VE X E (.BinOp a .Add b pos) (eBin addO ma mb) := v_op op_addW opv_add ha hb
theorem v_sub (ha : VE X E a ma) (hb : VE X E b mb) : VE X E (.BinOp a .Sub b pos) (eBin subO ma mb) := v_op op_sub (opv_I0 fun _ _ _ => .int _) ha hb
theorem v_mul (ha : VE X E a ma) (hb : VE X E b mb) : VE X E (.BinOp a .Mult b pos) (eBin mulO ma mb) := v_op op_mulW' opv_mul ha hb
theorem v_mod (ha : VE X E a ma) (hb : VE X E b mb) : VE X E (.BinOp a .Mod b pos) (eBin modO ma mb) := v_op op_modN (opv_I (fun _ _ h => by simpa [CDivN, CPow] using h) fun _ _ _ => .int _) ha hb
theorem v_fdiv (ha : VE X E a ma) (hb : VE X E b mb) : VE X E (.BinOp a .FloorDiv b pos) (eBin fdivO ma mb) := v_op op_fdivN (opv_I (fun _ _ h => by simpa [CDivN, CPow] using h) fun _ _ _ => .int _) ha hb
theorem v_pow (ha : VE X E a ma) (hb : VE X E b mb) : VE X E (.BinOp a .Pow b pos) (eBin powO ma mb) := v_op op_pow (opv_I (fun _ _ h => by simpa [CDivN, CPow] using h) fun _ _ _ => .int _) ha hb
theorem v_neg (ha : VE X E a ma) : VE X E (.UnaryOp .USub a pos) (eUn negO ma) := (pe_un un_neg ha).weak fun _ _ _ => un_imp unv_neg
/-! comparisons: values, tests; operands expressions or names (L, R) -/
structure CmpR (X : Cx) (op : CmpOp) (f : D → D → Option D) : Prop where
  ex : ∃ r, OpR X (compareOp op) r ∧ OpS X.K f r
theorem c_eq (hu : X.A.units + 64 < cLine) : CmpR X .Eq (eqD false) := ⟨_, op_eqW hu, ops_eq⟩
theorem c_ne (hu : X.A.units + 64 < cLine) : CmpR X .NotEq (eqD true) := ⟨_, op_neW hu, ops_eq⟩
theorem c_lt : CmpR X .Lt (cmpD fun i j => decide (i < j)) := ⟨_, op_lt, ops_cmp⟩
theorem c_le : CmpR X .LtE (cmpD fun i j => decide (i ≤ j)) := ⟨_, op_le, ops_cmp⟩
theorem c_gt : CmpR X .Gt (cmpD fun i j => decide (j < i)) := ⟨_, op_gt, ops_cmp⟩
theorem c_ge : CmpR X .GtE (cmpD fun i j => decide (j ≤ i)) := ⟨_, op_ge, ops_cmp⟩
theorem c_in : CmpR X .In (inD false) := ⟨_, op_inW (neg := false), ops_in⟩
theorem c_notIn : CmpR X .NotIn (inD true) := ⟨_, op_inW (neg := true), ops_in⟩
theorem c_is : CmpR X .Is (isNoD false) := ⟨_, op_isN, ops_isN⟩
theorem c_isNot : CmpR X .IsNot (isNoD true) := ⟨_, op_notN, ops_notN⟩
variable {op : CmpOp} {f : D → D → Option D} {i j : Nat} {x y : Str} {p1 p2 : Pos}
theorem v_cmp (h : CmpR X op f) (ha : VE X E a ma) (hb : VE X E b mb) (hm : behindInMarks op b = false) : VE X E (.Compare a [op] [b] pos) (eBin (opD f) ma mb) := by
  obtain ⟨r, ho, hs⟩ := h.ex
  exact (pe_cmpR ho ha hb hm).weak fun _ _ _ => op_imp hs.opv
theorem v_cmpL (h : CmpR X op f) (ha : PE X a (tVar i)) (hb : VE X E b mb) (hm : behindInMarks op b = false) : VE X E (.Compare a [op] [b] pos) (eBinL f i mb) := by
  obtain ⟨r, ho, hs⟩ := h.ex
  exact (pe_cmpR ho ha hb hm).weak fun _ _ _ => binL_imp hs
theorem v_cmpR (h : CmpR X op f) (ha : VE X E a ma) (hb : PE X b (tVar j)) (hm : behindInMarks op b = false) : VE X E (.Compare a [op] [b] pos) (eBinR f ma j) := by
  obtain ⟨r, ho, hs⟩ := h.ex
  exact (pe_cmpR ho ha hb hm).weak fun _ _ _ => binR_imp hs
theorem v_cmpLR (h : CmpR X op f) (ha : PE X a (tVar i)) (hb : PE X b (tVar j)) (hm : behindInMarks op b = false) : VE X E (.Compare a [op] [b] pos) (eBinLR f i j) := by
  obtain ⟨r, ho, hs⟩ := h.ex
  exact (pe_cmpR ho ha hb hm).weak fun _ _ _ => binLR_imp hs
theorem t_cmp (h : CmpR X op f) (ha : VE X E a ma) (hb : VE X E b mb) (hm : behindInMarks op b = false) : VT X E (.Compare a [op] [b] pos) (eTst (eBin (opD f) ma mb)) := by
  obtain ⟨r, ho, hs⟩ := h.ex
  exact (pt_cmpR ho ha hb hm).weak fun _ _ _ => tst_imp fun _ _ _ => op_imp hs.opv
theorem t_cmpL (h : CmpR X op f) (ha : PE X a (tVar i)) (hb : VE X E b mb) (hm : behindInMarks op b = false) : VT X E (.Compare a [op] [b] pos) (eTst (eBinL f i mb)) := by
  obtain ⟨r, ho, hs⟩ := h.ex
  exact (pt_cmpR ho ha hb hm).weak fun _ _ _ => tst_imp fun _ _ _ => binL_imp hs
theorem t_cmpR (h : CmpR X op f) (ha : VE X E a ma) (hb : PE X b (tVar j)) (hm : behindInMarks op b = false) : VT X E (.Compare a [op] [b] pos) (eTst (eBinR f ma j)) := by
  obtain ⟨r, ho, hs⟩ := h.ex
  exact (pt_cmpR ho ha hb hm).weak fun _ _ _ => tst_imp fun _ _ _ => binR_imp hs
theorem t_cmpLR (h : CmpR X op f) (ha : PE X a (tVar i)) (hb : PE X b (tVar j)) (hm : behindInMarks op b = false) : VT X E (.Compare a [op] [b] pos) (eTst (eBinLR f i j)) := by
  obtain ⟨r, ho, hs⟩ := h.ex
  exact (pt_cmpR ho ha hb hm).weak fun _ _ _ => tst_imp fun _ _ _ => binLR_imp hs
/-! truth, and, or, not -/
theorem t_tru (ha : VE X E a m) (he : ∀ whole, isTrue a X.env whole = (do let v ← whole; standAt a.pos; holding [v] (truthy v))) : VT X E a (eTru m) := (pt_truth ha he).weak fun _ _ _ => tru_imp fun _ _ _ h => h
variable {ta tb tc : M Bool} {rest : List Expr}
theorem t_not (ha : VT X E a ta) : VT X E (.UnaryOp .Not a pos) (eNot ta) := (pt_not ha).weak fun _ _ _ => not_imp
theorem w_and (ha : VT X E a ta) (hb : VW X E (.BoolOp .And (b :: rest) pos) tb) : VW X E (.BoolOp .And (a :: b :: rest) pos) (eAnd ta tb) := (pw_and ha hb).weak fun _ _ _ => and_imp
theorem w_and1 (ha : VT X E a ta) : VW X E (.BoolOp .And [a] pos) ta := pw_and1 ha
theorem w_or (ha : VT X E a ta) (hb : VW X E (.BoolOp .Or (b :: rest) pos) tb) : VW X E (.BoolOp .Or (a :: b :: rest) pos) (eOr ta tb) := (pw_or ha hb).weak fun _ _ _ => or_imp
theorem w_or1 (ha : VT X E a ta) : VW X E (.BoolOp .Or [a] pos) ta := pw_or1 ha
theorem t_w (h : VW X E a ta) : VT X E a ta := h.pt
theorem v_and (ha : VE X E a ma) (hb : VE X E (.BoolOp .And (b :: rest) pos) mb) : VE X E (.BoolOp .And (a :: b :: rest) pos) (eAndV ma mb) := (pe_and ha hb).weak fun _ _ _ => andV_imp
theorem v_or (ha : VE X E a ma) (hb : VE X E (.BoolOp .Or (b :: rest) pos) mb) : VE X E (.BoolOp .Or (a :: b :: rest) pos) (eOrV ma mb) := (pe_or ha hb).weak fun _ _ _ => orV_imp
theorem v_one {op : BoolOp} (ha : VE X E a ma) : VE X E (.BoolOp op [a] pos) ma := pe_one ha
theorem v_not (ha : VE X E a ma) : VE X E (.UnaryOp .Not a pos) (eNotV ma) := (pe_not ha).weak fun _ _ _ => notV_imp
theorem v_if (hc : VT X E c tc) (ha : VE X E a ma) (hb : VE X E b mb) : VE X E (.IfExp c a b pos) (eIf tc ma mb) := (pe_ifExp hc ha hb).weak fun _ _ _ => if_imp
/-! arguments, displays -/
variable {es : List Expr} {li : List (Option Nat)} {ms : M (List O)}
theorem a_nil : VA X E [] [] nilA := pa_nil.weak fun _ _ _ => nil_imp
theorem a_cons (ha : VE X E a ma) (hr : VA X E es li ms) (hs : starEach (a :: es) X.env = (false, eval a X.env) :: starEach es X.env := by rfl) : VA X E (a :: es) (none :: li) (consA ma ms) := (pa_cons ha hr hs).weak fun _ _ _ => cons_imp
theorem a_lend (ha : PE X a (tVar i)) (hr : VA X E es li ms) (hs : starEach (a :: es) X.env = (false, eval a X.env) :: starEach es X.env := by rfl) : VA X E (a :: es) (some i :: li) (lendA i ms) := (pa_cons ha hr hs).weak fun _ _ _ => lend_imp
theorem v_tup {x1 : Nat} (h : VA X E es li ms) : VE X E (.Tuple es x1 pos) (eTup ms) := (pe_tup h).weak fun _ _ _ => tup_imp
theorem v_lst (h : VA X E es li ms) : VE X E (.List es pos) (eLst ms) := (pe_lst h).weak fun _ _ _ => lst_imp
/-! subscripts -/
theorem v_ix (ha : VE X E a ma) (hb : VE X E b mb) (hs : PlainIx b) : VE X E (.Subscript a b pos) (eBin ixO ma mb) := (pe_ix ix_seq ha hb hs).weak fun _ _ _ => op_imp opv_ix
theorem v_ixAt (ha : PE X a (tVar i)) (hb : VE X E b mb) (hs : PlainIx b) : VE X E (.Subscript a b pos) (eIxAt i mb) := (pe_ix ix_seq ha hb hs).weak fun _ _ _ => ixAt_imp
variable {lo hi : Option Expr} {ml mh : Option (M O)} {tl th : TO}
structure VPt (X : Cx) (E : XK) (e : Option Expr) (m : Option (M O)) : Prop where
  ex : ∃ t, PO X e t ∧ PartV X.K E m t
theorem p_none : VPt X E none none := ⟨_, po_none, .none⟩
theorem p_some (h : VE X E e m) : VPt X E (some e) (some m) := ⟨_, po_some h, .some fun _ _ _ h => h⟩
theorem sl_W : SlR X (rSlW X.K) := sl_list.or (sl_tupA.or sl_str)
theorem v_sl (ha : VE X E a ma) (hl : VPt X E lo ml) (hh : VPt X E hi mh) : VE X E (.Subscript a (.Slice lo hi none p2) pos) (eSl ma ml mh) := by
  obtain ⟨t1, h1, h2⟩ := hl.ex
  obtain ⟨t2, h3, h4⟩ := hh.ex
  exact (pe_slice sl_W ha h1 h3).weak fun _ _ _ => sl_imp (fun _ _ _ h => h) h2 h4
theorem v_slAt (ha : PE X a (tVar i)) (hl : VPt X E lo ml) (hh : VPt X E hi mh) : VE X E (.Subscript a (.Slice lo hi none p2) pos) (eSlAt i ml mh) := by
  obtain ⟨t1, h1, h2⟩ := hl.ex
  obtain ⟨t2, h3, h4⟩ := hh.ex
  exact (pe_slice sl_W ha h1 h3).weak fun _ _ _ => slAt_imp h2 h4
/-! calls of built-ins -/
structure BltR (X : Cx) (f : Value) (g : List O → Option O) : Prop where
  ex : ∃ r, CallR X f r ∧ CallV X.K g r
structure BltS (X : Cx) (f : Value) (g : List D → Option D) : Prop where
  ex : ∃ r, CallR X f r ∧ CallS X.K g r
theorem BltS.r {f : Value} {g : List D → Option D} (h : BltS X f g) : BltR X f (callD g) := let ⟨r, a, b⟩ := h.ex; ⟨r, a, b.callv⟩
theorem b_len : BltS X (.builtin "len") lenD := ⟨_, call_len, calls_len⟩
theorem b_isi : BltS X (.builtin "isinstance") isiD := ⟨_, call_isi, calls_isi⟩
theorem b_all (hc : X.calm = true) : BltS X (.builtin "all") allD := ⟨_, cr_all hc, calls_all⟩
theorem b_any (hc : X.calm = true) : BltS X (.builtin "any") anyD := ⟨_, cr_any hc, calls_any⟩
theorem b_sum (hc : X.calm = true) : BltS X (.builtin "sum") sumD := ⟨_, cr_sum hc, calls_sum⟩
theorem b_max2 (hc : X.calm = true) : BltS X (.builtin "max") max2D := ⟨_, call_max2 hc, calls_max2⟩
theorem b_min2 (hc : X.calm = true) : BltS X (.builtin "min") min2D := ⟨_, call_min2 hc, calls_min2⟩
theorem b_list : BltR X (.type "list") listO := ⟨_, call_list_of, callv_list⟩
theorem b_tup : BltR X (.type "tuple") tupO := ⟨_, call_tuple_of, callv_tup⟩
variable {fb : List O → Option O} {fs : List D → Option D} {id T : String}
theorem v_blt (h : BltR X (.builtin id) fb) (hm : X.mg x = none) (hv : bootBuiltins x = some (.builtin id)) (ha : VA X E (e :: es) li ms) (hg : Gl X x := by rfl) (hn : x ≠ "__name__" := by decide) (hdb : (x == ("__debug__" : Str)) = false := by decide)
    (he : starEach (e :: es) X.env = (false, eval e X.env) :: starEach es X.env := by rfl) (hpl : (backTo pos (starEach es X.env)).any (·.1) = false := by rfl) : VE X E (.Call (.Name x p1) (e :: es) [] pos) (eCall fb ms) := by
  obtain ⟨r, hc, hs⟩ := h.ex
  exact (pe_callB hc hg hm hv ha hn hdb he hpl).weak fun _ _ _ => call_imp hs
theorem v_bltT (h : BltR X (.type T) fb) (hm : X.mg x = none) (hv : bootBuiltins x = some (.type T)) (ha : VA X E (e :: es) li ms) (hg : Gl X x := by rfl) (hn : x ≠ "__name__" := by decide) (hdb : (x == ("__debug__" : Str)) = false := by decide)
    (he : starEach (e :: es) X.env = (false, eval e X.env) :: starEach es X.env := by rfl) (hpl : (backTo pos (starEach es X.env)).any (·.1) = false := by rfl) : VE X E (.Call (.Name x p1) (e :: es) [] pos) (eCall fb ms) := by
  obtain ⟨r, hc, hs⟩ := h.ex
  exact (pe_callTy hc hg hm hv ha hn hdb he hpl).weak fun _ _ _ => call_imp hs
theorem v_bltAt (h : BltS X (.builtin id) fs) (hm : X.mg x = none) (hv : bootBuiltins x = some (.builtin id)) (ha : PE X e (tVar i)) (hg : Gl X x := by rfl) (hn : x ≠ "__name__" := by decide) (hdb : (x == ("__debug__" : Str)) = false := by decide)
    (he : starEach (e :: []) X.env = (false, eval e X.env) :: starEach [] X.env := by rfl) (hpl : (backTo pos (starEach [] X.env)).any (·.1) = false := by rfl) : VE X E (.Call (.Name x p1) [e] [] pos) (eCallAt fs i) := by
  obtain ⟨r, hc, hs⟩ := h.ex
  exact (pe_callB hc hg hm hv (pa_cons ha pa_nil he) hn hdb he hpl).weak fun _ _ _ => callAt_imp hs
theorem v_listAt (hm : X.mg x = none) (hv : bootBuiltins x = some (.type "list")) (ha : PE X e (tVar i)) (hg : Gl X x := by rfl) (hn : x ≠ "__name__" := by decide) (hdb : (x == ("__debug__" : Str)) = false := by decide)
    (he : starEach (e :: []) X.env = (false, eval e X.env) :: starEach [] X.env := by rfl) (hpl : (backTo pos (starEach [] X.env)).any (·.1) = false := by rfl) : VE X E (.Call (.Name x p1) [e] [] pos) (eListAt i) :=
  (pe_callTy call_list_of hg hm hv (pa_cons ha pa_nil he) hn hdb he hpl).weak fun _ _ _ => listAt_imp
theorem v_tupAt (hm : X.mg x = none) (hv : bootBuiltins x = some (.type "tuple")) (ha : PE X e (tVar i)) (hg : Gl X x := by rfl) (hn : x ≠ "__name__" := by decide) (hdb : (x == ("__debug__" : Str)) = false := by decide)
    (he : starEach (e :: []) X.env = (false, eval e X.env) :: starEach [] X.env := by rfl) (hpl : (backTo pos (starEach [] X.env)).any (·.1) = false := by rfl) : VE X E (.Call (.Name x p1) [e] [] pos) (eTupAt i) :=
  (pe_callTy call_tuple_of hg hm hv (pa_cons ha pa_nil he) hn hdb he hpl).weak fun _ _ _ => tupAt_imp
theorem v_isiAt {n : String} {q : Str} (hm : X.mg x = none) (hv : bootBuiltins x = some (.builtin "isinstance")) (hq : X.mg q = none) (hqv : bootBuiltins q = some (.type n)) (ha : PE X e (tVar i)) (hg : Gl X x := by rfl) (hgq : Gl X q := by rfl) (hn : x ≠ "__name__" := by decide) (hdb : (x == ("__debug__" : Str)) = false := by decide) (hnq : q ≠ "__name__" := by decide) (hdbq : (q == ("__debug__" : Str)) = false := by decide)
    (he : starEach (e :: [.Name q p2]) X.env = (false, eval e X.env) :: starEach [.Name q p2] X.env := by rfl) (hpl : (backTo pos (starEach [.Name q p2] X.env)).any (·.1) = false := by rfl) : VE X E (.Call (.Name x p1) [e, .Name q p2] [] pos) (eIsiAt i n) :=
  (pe_callB call_isi hg hm hv (pa_cons ha (pa_cons (pe_bltn hgq hq hqv (v := .ty n) rfl hnq hdbq) pa_nil) he) hn hdb he hpl).weak fun _ _ _ => isiAt_imp
/-! a call of a def -/
variable {fd : FuncData} {fa : Addr} {k n : Nat} {ps : List Str} {fn : FD}
/-- what a caller needs of a def: where it stands, what it does, how its arguments bind -/
structure DefV (P : Program) (w : World) (K : PySem.W.Frag) (mg : Str → Option Value) (base : Heap) (k : Nat) (x : Str) (n : Nat) (fn : FD) : Prop where
  ex : ∃ (fa : Addr) (fd : FuncData) (ps : List Str), FnOk P w K mg base CX0 k fa fd ps (spV K n fn) ∧ mg x = some (.ref fa) ∧ PySem.W.keepIn K (.ref fa) = true ∧ Binds K fd ps []
theorem v_call (h : DefV X.prog X.w X.K X.mg X.base k x n fn) (hr : Room k X.A) (ha : VA X E0 (e :: es) li ms) (hl : li.length = n := by rfl) (hg : Gl X x := by rfl) (hdb : (x == ("__debug__" : Str)) = false := by decide)
    (he : starEach (e :: es) X.env = (false, eval e X.env) :: starEach es X.env := by rfl) (hpl : (backTo pos (starEach es X.env)).any (·.1) = false := by rfl) : VE X E0 (.Call (.Name x p1) (e :: es) [] pos) (eCallF fn li ms) := by
  obtain ⟨fa, fd, ps, F, hm, hk, hb⟩ := h.ex
  exact (pe_call F hr hg hm hk hb .nil pass0 ha hdb he hpl).weak fun _ _ _ => callF_imp hl
theorem v_call0 (h : DefV X.prog X.w X.K X.mg X.base k x 0 fn) (hr : Room k X.A) (hg : Gl X x := by rfl) (hdb : (x == ("__debug__" : Str)) = false := by decide) : VE X E0 (.Call (.Name x p1) [] [] pos) (eCallF fn [] nilA) := by
  obtain ⟨fa, fd, ps, F, hm, hk, hb⟩ := h.ex
  refine (pe_call0 F hr hg hm hk hb .nil pass0 hdb).weak fun σ H Q q => ?_
  have := callF_imp (io := []) (n := 0) rfl q
  obtain ⟨Z, τ, T, env, F, ok, hl, post⟩ := this
  exact post [] H Z F (Same.refl Z) rfl .nil ok
/-! methods of a list that a name owns -/
structure MethR (X : Cx) (id : String) (f : List O → List O → Option (O × List O)) : Prop where
  ex : ∃ r, MtR X id r ∧ MethV X.K f r
theorem m_app : MethR X "list.append" appF := ⟨_, mt_append, methv_app⟩
variable {mf : List O → List O → Option (O × List O)} {name : Str} {apos cpos : Pos}
theorem v_meth {o : Expr} (h : MethR X id mf) (slot : PySem.Slot "list" name id) (hty : typeOf (.builtin id) = Pure.pure (.type "method_descriptor")) (ho : PE X o (tVar i)) (ha : VA X E (e :: es) li ms)
    (hbase : attributeBase o name X.env (eval o X.env) = eval o X.env := by rfl)
    (hfew : ((backTo cpos (starEach (e :: es) X.env)).all (fun x => !x.1) && (backToKw cpos (keywordEach [] X.env)).all (fun x => x.1.isSome)
      && decide ((e :: es).length + ([] : List Keyword).length + (if ([] : List Keyword).isEmpty then 0 else 1) < 30)) = true := by rfl)
    (hline : (apos.endLine == cpos.line) = true := by rfl) (hs : starEach (e :: es) X.env = (false, eval e X.env) :: starEach es X.env := by rfl) (hplain : (backTo cpos (starEach es X.env)).any (·.1) = false := by rfl) :
    VE X E (.Call (.Attribute o name apos) (e :: es) [] cpos) (eMeth mf i ms) := by
  obtain ⟨r, hm, hv⟩ := h.ex
  exact (pe_bm PySem.F.plainAttrs_list slot hty hm ho ha hbase hfew hline hs hplain).weak fun _ _ _ => meth_imp hv
/-! statements -/
variable {st : Stmt} {sts : List Stmt} {s1 s2 s3 : M Fl} {tg iter : Expr} {g : GD} {gs : GDs} {mi : M (List D)}
theorem b_nil : VB X E io [] sNext := pss_nil.weak fun _ _ _ => next_imp
theorem b_cons (h1 : VS X E io st s1) (h2 : VB X E io sts s2) : VB X E io (st :: sts) (sSeq s1 s2) := (pss_cons h1 h2).weak fun _ _ _ => seq_imp
theorem b_one (h1 : VS X E io st s1) : VB X E io [st] s1 := pss_one h1
theorem b_never {sts : List Stmt} : VB X E io sts sNever := pss_never.weak fun _ _ _ => never_imp
theorem s_never : VS X E io st sNever := ps_never.weak fun _ _ _ => never_imp
theorem s_pass : VS X E io (.Pass pos) sNext := ps_pass.weak fun _ _ _ => next_imp
theorem s_break : VS X E io (.Break pos) sBreak := ps_break.weak fun _ _ _ => break_imp
theorem s_cont : VS X E io (.Continue pos) sCont := ps_continue.weak fun _ _ _ => cont_imp
theorem s_doc {x : Str} {j : Nat} {pos' : Pos} : VS X E io (.Expr (.Constant (.str x) j pos) pos') sNext := ps_doc.weak fun _ _ _ => next_imp
theorem s_expr (he : VE X E e m) (hs : swapsWith e none pos.line X.env = Pure.pure false := by rfl) : VS X E io (.Expr e pos) (sDrop m) := (ps_expr he hs).weak fun _ _ _ => drop_imp fun _ _ _ h => h
theorem s_ret (he : VE X E e m) : VS X E io (.Return (some e) pos) (sRet m) := (ps_ret he).weak fun _ _ _ => ret_imp fun _ _ _ h => h
theorem s_retN : VS X E io (.Return none pos) sRetN := ps_retN.weak fun _ _ _ => retN_imp
theorem s_if {sa sb : List Stmt} (hc : VT X E c tc) (ha : VB X E io sa s1) (hb : VB X E io sb s2) : VS X E io (.If c sa sb pos) (sIf tc s1 s2) := (ps_if hc ha hb).weak fun _ _ _ => sif_imp fun _ _ _ h => h
theorem s_asg (he : VE X E e m) (hg : VG X io tg g) (hs : swapsWithSole [tg] e pos.line X.env = Pure.pure false := by rfl) (hw : swappedStores [tg] e X.env = Pure.pure none := by rfl)
    (h1 : (assignEach [tg] X.env).map (·.2) = [assign tg X.env] := by rfl) : VS X E io (.Assign [tg] e pos) (sAsg m g) := (ps_asg he hg hs hw h1).weak fun _ _ _ => asg_imp (fun _ _ _ h => h) fun _ _ _ _ h => h
theorem s_set {pos' : Pos} (hN : X.N.Nodup) (hx : Loc X.env.scope x) (he : VE X E e m) (hi : X.N[i]? = some x := by rfl) (hio : io i = false := by rfl) (hs : swapsWith e (some (.Name x pos')) pos.line X.env = Pure.pure false := by rfl) (hf : X.fn x = true ∨ X.env.scope.names.lookup x = some .local := by first | exact .inl rfl | exact .inr rfl | assumption) :
    VS X E io (.Assign [.Name x pos'] e pos) (sAsg m (gN i)) := (ps_set hN hi hx he hs hf).weak fun _ _ _ => asg_imp (fun _ _ _ h => h) fun _ _ _ _ => gN_imp hio
theorem g_name (i : Nat) (hN : X.N.Nodup) (hx : Loc X.env.scope x) (hi : X.N[i]? = some x := by rfl) (hio : io i = false := by rfl) (hf : X.fn x = true ∨ X.env.scope.names.lookup x = some .local := by first | exact .inl rfl | exact .inr rfl | assumption) : VG X io (.Name x pos) (gN i) := (pg_name hN hi hx hf).weak fun _ _ _ _ => gN_imp hio
theorem g_nil : VGs X io [] gNilD := pgs_nil.weak fun _ _ _ _ => gNil_imp
theorem g_cons (h1 : VG X io e g) (h2 : VGs X io es gs) (hs : (assignEach (e :: es) X.env).map (·.2) = assign e X.env :: (assignEach es X.env).map (·.2) := by rfl) : VGs X io (e :: es) (gConsD g gs) := (pgs_cons h1 h2 hs).weak fun _ _ _ _ => gCons_imp (fun _ _ _ _ h => h) fun _ _ _ _ h => h
theorem g_star (h1 : VG X io e g) (h2 : VGs X io es gs) : VGs X io (.Starred e pos :: es) (gConsD g gs) := (pgs_star h1 h2).weak fun _ _ _ _ => gCons_imp (fun _ _ _ _ h => h) fun _ _ _ _ h => h
theorem g_tup {k n : Nat} (hc : X.calm = true) (h : VGs X io es gs) (hn : (assignEach es X.env).length = n := by rfl) (hst : (assignEach es X.env).findIdx? (·.1) = none := by rfl) : VG X io (.Tuple es k pos) (gTupD n gs) := (pg_tup hc h hn hst).weak fun _ _ _ _ => gTup_imp fun _ _ _ _ h => h
theorem g_tupS {k n i : Nat} (hc : X.calm = true) (h : VGs X io es gs) (hi : i < n) (hn : (assignEach es X.env).length = n := by rfl) (hst : (assignEach es X.env).findIdx? (·.1) = some i := by rfl) : VG X io (.Tuple es k pos) (gStarD n i gs) := (pg_star hc h hi hn hst).weak fun _ _ _ _ => gStar_imp fun _ _ _ _ h => h
theorem i_list (h : VE X E e m) : VI X E tg e (iSeqL m) := (pi_list h).weak fun _ _ _ => seqL_imp
theorem i_tup (h : VE X E e m) : VI X E tg e (iSeqT m) := (pi_tup h).weak fun _ _ _ => seqT_imp
theorem i_range1 {p : Pos} (hm : X.mg "range" = none) (ha : VA X E [a] li ms) (hg : Gl X "range" := by rfl) (hs : starEach [a] X.env = [(false, eval a X.env)] := by rfl) : VI X E tg (.Call (.Name "range" p) [a] [] pos) (iRange1 ms) := (pi_range1 hg hm ha hs).weak fun _ _ _ => range1_imp
theorem i_range2 {p : Pos} (hm : X.mg "range" = none) (ha : VA X E [a, b] li ms) (hg : Gl X "range" := by rfl) (hs : starEach [a, b] X.env = [(false, eval a X.env), (false, eval b X.env)] := by rfl) (hs2 : starEach [b] X.env = [(false, eval b X.env)] := by rfl) : VI X E tg (.Call (.Name "range" p) [a, b] [] pos) (iRange2 ms) := (pi_range2 hg hm ha hs hs2).weak fun _ _ _ => range2_imp
theorem s_for (hp : PassesOwn (model X.prog X.w) X.A X.env X.xe) (hc : X.calm = true) (hi : VI X E tg iter mi) (hg : VG X io tg g) (hb : VB X E io sts s1) (hs : ∀ x, foldedSetIterable iter X.env x = Pure.pure x := by intro _; rfl) : VS X E io (.For tg iter sts [] pos) (sFor mi g s1) := (ps_for hp hc hi hg hb hs).weak fun _ _ _ => for_imp (fun _ _ _ h => h) (fun _ _ _ _ h => h) fun _ _ _ h => h
theorem s_while (n : Nat) (hp : PassesOwn (model X.prog X.w) X.A X.env X.xe) (hc : VT X E c tc) (hb : VB X E io sts s1) : VS X E io (.While c sts [] pos) (loopW tc s1 n) := (ps_while hp hc hb).weak fun _ _ _ => while_imp (fun _ _ _ h => h) fun _ _ _ h => h
/-! comprehensions -/
abbrev Blk (X : Cx) (scope : Scope) (s : Shared) (H : Hp) (C : Addr) (cl : List (Str × Addr)) (fp : List Addr) : Cx := X.blk s H scope (PySem.compEnvC scope cl C X.env) fp
theorem v_lc {scope : Scope} {own : List (Str × Nat)} {elt : Expr} {me : M O} {g : GD} (hc : X.calm = true) (hN : X.N.Nodup) (hi : VI X E tg iter mi) (ok : BlkOk X.N X.env.scope scope own)
    (hg : ∀ s H C cl fp, VG (Blk X scope s H C cl fp) (fun i => !(own.map (·.2)).contains i) tg g) (he : ∀ s H C cl fp, VE (Blk X scope s H C cl fp) E0 elt me) (hs : ∀ x, foldedSetIterable iter X.env x = Pure.pure x := by intro _; rfl) :
    VE X E (.ListComp elt [⟨tg, iter, [], 0⟩] scope pos) (eLc (own.map (·.2)) mi g cYes me) :=
  (pe_lc (tt := tT X.K E0 cYes) hc hN hi ok hg (fun _ _ _ _ _ => ⟨fun pins s σ H Q I h => pts_nil.run pins s σ H Q I (yes_imp h)⟩) he hs).weak fun _ _ _ => lc_imp (fun _ _ _ h => h) (fun _ _ _ _ h => h) (fun _ _ _ h => h) fun _ _ _ h => h
theorem v_lcIf {scope : Scope} {own : List (Str × Nat)} {elt cnd : Expr} {me : M O} {mc : M Bool} {g : GD} (hc : X.calm = true) (hN : X.N.Nodup) (hi : VI X E tg iter mi) (ok : BlkOk X.N X.env.scope scope own)
    (hg : ∀ s H C cl fp, VG (Blk X scope s H C cl fp) (fun i => !(own.map (·.2)).contains i) tg g) (ht : ∀ s H C cl fp, VT (Blk X scope s H C cl fp) E0 cnd mc) (he : ∀ s H C cl fp, VE (Blk X scope s H C cl fp) E0 elt me) (hs : ∀ x, foldedSetIterable iter X.env x = Pure.pure x := by intro _; rfl) :
    VE X E (.ListComp elt [⟨tg, iter, [cnd], 0⟩] scope pos) (eLc (own.map (·.2)) mi g mc me) :=
  (pe_lc (tt := tT X.K E0 mc) hc hN hi ok hg (fun s H C cl fp => pts_one (ht s H C cl fp)) he hs).weak fun _ _ _ => lc_imp (fun _ _ _ h => h) (fun _ _ _ _ h => h) (fun _ _ _ h => h) fun _ _ _ h => h
end
end Ws

namespace Ws
open PySem L2
section
variable {K : PySem.W.Frag} {E : XK} {Z Z' H H' : Hp} {σ σ' σ1 τ ρ : St} {env env' T R : Env} {F G : Fp} {Q Q' : VK} {v : V} {o : O} {d : D} {io : Nat → Bool}
/-! ### what is walked: a list, a tuple, a text -/
def signsD (z : Str) : List D := z.cps.toList.map fun c => .str ⟨#[c]⟩
def iAny (m : M O) : M (List D) := fun env => (m env).bind fun x e => match x.toD with
  | .lst ds => .ok ds e
  | .tup ds => .ok ds e
  | .str z => .ok (signsD z) e
  | _ => .no
@[simp] theorem iAny.c (m : M O) {z : Option O} {zs : Env} : iAny m (z :: zs) = ((m (z :: zs)).bind fun x e => match x.toD with
  | .lst ds => .ok ds e
  | .tup ds => .ok ds e
  | .str z => .ok (signsD z) e
  | _ => .no) := rfl
@[simp] theorem iAny.n (m : M O) : iAny m ([] : Env) = ((m ([] : Env)).bind fun x e => match x.toD with
  | .lst ds => .ok ds e
  | .tup ds => .ok ds e
  | .str z => .ok (signsD z) e
  | _ => .no) := rfl
def iSeqS (m : M O) : M (List D) := fun env => (m env).bind fun x e => match x.toD with
  | .str z => .ok (signsD z) e
  | _ => .no
theorem walk_s {z : Str} : WalkD K (Its z) (signsD z) Z := by
  intro H sub
  have len : (signsD z).length = z.cps.size := by simp [signsD]
  rw [len]
  refine ⟨fun i hi => hi, Nat.le_refl _, fun i x H' hi y => ?_⟩
  obtain ⟨rfl, c, e, rfl⟩ := y
  refine ⟨Same.refl _, .str ⟨#[c]⟩, ?_, fun Z2 s2 t2 => ⟨Z2, Same.refl _, t2, fun b z => .inl z, .str _⟩⟩
  unfold signsD
  rw [List.getElem?_map, Array.getElem?_toList, e]
  rfl
theorem seqS_imp {m : M O} {σ : St} {H : Hp} {R : It → Hp → Prop} (h : tI K E (iSeqS m) σ H R) : iStr (tE K E m) σ H R := by
  obtain ⟨Z, τ, T, env, F, ok, hl, post⟩ := h
  refine ⟨Z, τ, T, env, F, ok, hl, (stepEI (ρ := []) (R := []) rfl post).imp fun v H1 ⟨Z1, F1, x, e1, s1, ok1, post1⟩ => ?_⟩
  obtain ⟨v', A, B, e2, q, ok3, _⟩ := Ok.top (x := some v) ok1
  cases e2
  have q1 := ok1.rep q
  cases hx : x.toD with
  | str z =>
    rw [hx] at post1 q1
    cases q1
    exact ⟨_, rfl, post1 _ H1 Z1 B (Same.refl Z1) ok3 walk_s⟩
  | _ => rw [hx] at post1; exact post1.elim
theorem any_imp {m : M O} {σ : St} {H : Hp} {R : It → Hp → Prop} (h : tI K E (iAny m) σ H R) : iList K (tE K E m) σ H R ∨ iTup K (tE K E m) σ H R ∨ iStr (tE K E m) σ H R := by
  have key : tI K E (iSeqL m) σ H R ∨ tI K E (iSeqT m) σ H R ∨ tI K E (iSeqS m) σ H R := by
    obtain ⟨Z, τ, T, env, F, ok, hl, post⟩ := h
    unfold iAny at post
    cases em : m env with
    | no => simp only [em, bind_no] at post; exact post.elim
    | ex x e =>
      simp only [em, bind_ex] at post
      exact .inl ⟨Z, τ, T, env, F, ok, hl, by unfold iSeqL; simp only [em, bind_ex]; exact post⟩
    | ok x e =>
      simp only [em, bind_ok] at post
      cases ex : x.toD with
      | lst ds => rw [ex] at post; exact .inl ⟨Z, τ, T, env, F, ok, hl, by unfold iSeqL; simp only [em, bind_ok, ex]; exact post⟩
      | tup ds => rw [ex] at post; exact .inr (.inl ⟨Z, τ, T, env, F, ok, hl, by unfold iSeqT; simp only [em, bind_ok, ex]; exact post⟩)
      | str ds => rw [ex] at post; exact .inr (.inr ⟨Z, τ, T, env, F, ok, hl, by unfold iSeqS; simp only [em, bind_ok, ex]; exact post⟩)
      | _ => rw [ex] at post; exact post.elim
  rcases key with h | h | h
  · exact .inl (seqL_imp h)
  · exact .inr (.inl (seqT_imp h))
  · exact .inr (.inr (seqS_imp h))
/-! ### a < b < c -/
/-- the middle one a name or plain: asked once, kept for the second comparison -/
def eChn (f g : D → D → Option D) (a b c : M O) : M O := fun env => (a env).bind fun x e1 => (b e1).bind fun y e2 => match y with
  | .pu y => (match f x.toD y with
    | some (.bl true) => (c e2).bind fun z e3 => lift ((g y z.toD).map .pu) e3
    | some (.bl false) => .ok (.pu (.bl false)) e2
    | _ => .no)
  | _ => .no
def chnK (g : D → D → Option D) (c : M O) (y : D) (e2 : Env) : Option D → Out O := fun w => match w with
  | some (.bl true) => (c e2).bind fun z e3 => lift ((g y z.toD).map .pu) e3
  | some (.bl false) => .ok (.pu (.bl false)) e2
  | _ => .no
@[simp] theorem chnK_bl (g : D → D → Option D) (c : M O) (y : D) (e2 : Env) (b : Bool) : chnK g c y e2 (some (.bl b)) = if b = true then (c e2).bind fun z e3 => lift ((g y z.toD).map .pu) e3 else .ok (.pu (.bl false)) e2 := by cases b <;> rfl
def chnO (f g : D → D → Option D) (c : M O) (x : O) : O → Env → Out O := fun y e2 => match y with
  | .pu y => chnK g c y e2 (f x.toD y)
  | _ => .no
@[simp] theorem chnO_pu (f g : D → D → Option D) (c : M O) (x : O) (y : D) (e2 : Env) : chnO f g c x (.pu y) e2 = chnK g c y e2 (f x.toD y) := rfl
@[simp] theorem eChn.c (f g : D → D → Option D) (a b c : M O) {z : Option O} {zs : Env} : eChn f g a b c (z :: zs) = ((a (z :: zs)).bind fun x e1 => (b e1).bind (chnO f g c x)) := rfl
@[simp] theorem eChn.n (f g : D → D → Option D) (a b c : M O) : eChn f g a b c ([] : Env) = ((a ([] : Env)).bind fun x e1 => (b e1).bind (chnO f g c x)) := rfl
theorem chn_imp {f g : D → D → Option D} {r r' : R2} (hf : OpS K f r) (hg : OpS K g r') {ma mb mc : M O} {σ : St} {H : Hp} {Q : VK} (h : tE K E (eChn f g ma mb mc) σ H Q) : tChain r r' (tE K E ma) (tE K E mb) (tE K E mc) σ H Q := by
  obtain ⟨Z, τ, T, env, F, ok, hl, post⟩ := h
  refine ⟨Z, τ, T, env, F, ok, hl, (stepE (ρ := []) (R := []) rfl post).imp fun v H1 ⟨Z1, F1, x, e1, s1, ok1, post1⟩ => ?_⟩
  refine ⟨Z1, some v :: τ, some x :: T, e1, F1, ok1, by simp [hl], (stepE (ρ := [some v]) (R := [some x]) rfl post1).imp fun u H2 ⟨Z2, F2, y, e2, s2, ok2, post2⟩ => ?_⟩
  obtain ⟨_, A, B, ee, q, ok3, _⟩ := Ok.top (x := some u) ok2
  cases ee
  obtain ⟨_, A', B', ee, q', ok4, _⟩ := Ok.top (x := some v) ok3
  cases ee
  cases q with
  | @pu _ y _ q =>
    have q2 := ok2.rep q'
    have q3 := q.mono (ok2.sub.le (K := K))
    cases e : f x.toD y with
    | none => simp only [e] at post2; exact post2.elim
    | some z =>
      refine hf H2 v u _ _ z _ q2 q3 e fun w hw => ?_
      cases z with
      | bl k =>
        have hw0 : w = .bl k := by have := hw Z2; cases this; rfl
        subst hw0
        refine ⟨k, rfl, ?_⟩
        cases k with
        | true =>
          simp only [e] at post2
          show tE K E mc σ H2 _
          refine ⟨Z2, some u :: τ, some (.pu y) :: T, e2, _, ok4.pure q, by simp [hl], (stepE (ρ := [some u]) (R := [some (.pu y)]) rfl post2).imp fun t H3 ⟨Z3, F3, z, e3, s3, ok5, post3⟩ => ?_⟩
          obtain ⟨_, A5, B5, ee, q5, ok6, _⟩ := Ok.top (x := some t) ok5
          cases ee
          obtain ⟨_, A6, B6, ee, q6, ok7, _⟩ := Ok.top (x := some u) ok6
          cases ee
          cases eg : g y z.toD with
          | none => simp only [eg, Option.map_none] at post3; exact post3.elim
          | some zz =>
            simp only [eg, Option.map_some] at post3
            exact hg H3 u t _ _ zz Q (ok5.rep q6) (ok5.rep q5) eg fun w hw => post3 w H3 Z3 _ (Same.refl Z3) (ok7.pure (hw Z3))
        | false =>
          simp only [e] at post2
          exact post2 _ H2 Z2 _ (Same.refl Z2) (ok4.pure (.bl false))
      | _ => simp only [e] at post2; exact post2.elim
  | _ => exact post2.elim
end
section
variable {X : Cx} {E : XK} {pos : Pos} {a b c e tg : Expr} {ma mb mc m : M O} {op op' : CmpOp} {f g : D → D → Option D}
theorem pi_or {w1 w2 : TI} (h1 : PI X tg e w1) (h2 : PI X tg e w2) : PI X tg e (fun σ H R => w1 σ H R ∨ w2 σ H R) := ⟨fun pins s σ H R I q => q.elim (h1.run pins s σ H R I) (h2.run pins s σ H R I)⟩
theorem i_any (h : VE X E e m) : VI X E tg e (iAny m) := (pi_or (pi_list h) (pi_or (pi_tup h) (pi_str h))).weak fun _ _ _ => any_imp
theorem v_chn (h : CmpR X op f) (h' : CmpR X op' g) (ha : VE X E a ma) (hb : VE X E b mb) (hc : VE X E c mc) (hm : lastMarks [op, op'] [b, c] = false := by with_unfolding_all rfl) : VE X E (.Compare a [op, op'] [b, c] pos) (eChn f g ma mb mc) := by
  obtain ⟨r, ho, hs⟩ := h.ex
  obtain ⟨r', ho', hs'⟩ := h'.ex
  exact (pe_chain ho ho' ha hb hc hm).weak fun _ _ _ => chn_imp hs hs'
theorem t_chn (h : CmpR X op f) (h' : CmpR X op' g) (ha : VE X E a ma) (hb : VE X E b mb) (hc : VE X E c mc) (hm : lastMarks [op, op'] [b, c] = false := by with_unfolding_all rfl) : VT X E (.Compare a [op, op'] [b, c] pos) (eTst (eChn f g ma mb mc)) := by
  obtain ⟨r, ho, hs⟩ := h.ex
  obtain ⟨r', ho', hs'⟩ := h'.ex
  exact (pt_chain ho ho' ha hb hc hm).weak fun _ _ _ => tst_imp fun _ _ _ => chn_imp hs hs'
end
end Ws

namespace Ws
open PySem L2
/-! ### x[::-1] -/
section
open PySem.Spec PyProof.Rows PySem.Calls HT
variable {prog : Program} {w : World} {A : Around} {E : Value → Shared → Prop} {s : Shared}
theorem fm_map {α β : Type} {f : α → Option β} {g : α → β} : ∀ l : List α, (∀ k, k ∈ l → f k = some (g k)) → l.filterMap f = l.map g
  | [], _ => rfl
  | a :: l, h => by rw [List.filterMap_cons, h a List.mem_cons_self, List.map_cons, fm_map l fun k hk => h k (List.mem_cons_of_mem _ hk)]
theorem rev_pick (xs : Array Value) : ((List.range xs.size).filterMap fun (k : Nat) => xs[(((xs.size : Nat) : Int) - 1 + (k : Int) * (-1)).toNat]?).toArray = xs.toList.reverse.toArray := by
  apply congrArg List.toArray
  rw [fm_map (g := fun (k : Nat) => xs.toList.reverse.getD k .none) _ fun k hk => ?_]
  · apply List.ext_getElem?
    intro j
    rw [List.getElem?_map]
    by_cases h : j < xs.size
    · rw [List.getElem?_range h]
      have : j < xs.toList.reverse.length := by simpa using h
      rw [List.getElem?_eq_getElem this]
      simp [List.getD, this, h]
    · rw [List.getElem?_eq_none (by simpa using h), List.getElem?_eq_none (by simpa using h)]
      rfl
  · have hk : k < xs.size := by simpa using hk
    have e : (((xs.size : Nat) : Int) - 1 + (k : Int) * (-1)).toNat = xs.size - 1 - k := by omega
    rw [e]
    simp only [List.getD_eq_getElem?_getD]
    rw [List.getElem?_reverse (by simpa using hk)]
    simp only [Array.length_toList, Array.getElem?_toList]
    rw [Array.getElem?_eq_getElem (by omega)]
    rfl
theorem rev_tuple {t sl : Addr} {xs : Array Value} {u : Tok} {Q : Value → Shared → Prop} (ht : IsTup s.heap t xs) (hs : s.heap.IsSliceOf sl .none .none (.int (-1) u))
    (k : Q (.ref s.heap.objs.size) { s with heap := s.heap.push { cls := .type "tuple", data := .seq xs.toList.reverse.toArray } }) (hz : xs.size ≤ sizeLine) : wpAny (model prog w) A (getItem (.ref t) (.ref sl)) Q E s := by
  obtain ⟨ob, e1, e2, e3⟩ := id hs
  have tS : s.TypeIs (.ref sl) "slice" := ⟨ob, e1, e2⟩
  have fits : sizeOk (.seq xs.toList.reverse.toArray) := by
    show xs.toList.reverse.toArray.size ≤ sizeLine
    rw [List.size_toArray, List.length_reverse, Array.length_toList]; exact hz
  unfold getItem
  try with_reducible refine wpAny_holding ?_
  first | refine wpAny_bind (wpAny_pure ?_) | skip
  apply wpAny_bind
  apply wpAny_sequenceKey ht.typeIs (by decide)
  apply wpAny_bind
  refine wpAny_callSpecial?_slot (name := Str.ofString "__getitem__") ht.typeIs PyProof.Rows.slot_tuple_getitem (wpAny_call_entry PyProof.Rows.slot_tuple_getitem ht.typeIs PyProof.Rows.entry_tuple_getitem ?_ (PyProof.Rows.args_tuple_getitem _ _))
  show wpAny _ _ (Builtin.Tuple.tupleItemsOf (.ref t) >>= _) _ _ s
  apply wpAny_bind
  apply PyProof.Rows.tupleItemsOf_ ht
  apply wpAny_bind
  apply wpAny_typeOf tS
  rw [if_pos (by decide)]
  apply wpAny_bind
  unfold Builtin.Slice.sliceApplied Builtin.Slice.sliceFields
  refine wpAny_bind (wpAny_bind (wpAny_field e1 e3 (x := .none) rfl (wpAny_bind (wpAny_field e1 e3 (x := .none) rfl (wpAny_bind (wpAny_field e1 e3 (x := .int (-1) u) rfl (wpAny_pure ?_)))))))
  apply wpAny_bind
  apply slicePart_int
  show wpAny _ _ (if ((-1 : Int) == 0) = true then _ else _) _ _ s
  rw [if_neg (by decide)]
  apply wpAny_bind
  apply slicePart_none
  apply wpAny_bind
  apply slicePart_none
  apply wpAny_bind
  apply wpAny_pure
  have adj : Builtin.Slice.sliceAdjust none none (-1) ((xs.size : Nat) : Int) = (((xs.size : Nat) : Int) - 1, -1) := rfl
  show wpAny _ _ (match Builtin.Slice.sliceAdjust none none (-1) ((xs.size : Nat) : Int) with | (lo, hi) => Pure.pure (lo, (-1 : Int), Builtin.Slice.slicePlaces lo hi (-1))) _ _ s
  rw [adj]
  have pl : Builtin.Slice.slicePlaces (((xs.size : Nat) : Int) - 1) (-1) (-1) = xs.size := by
    unfold Builtin.Slice.slicePlaces
    rw [if_neg (by omega)]
    by_cases h : xs.size = 0
    · rw [h]; decide
    · rw [if_pos (by omega)]
      have : -(-1 : Int) = 1 := by decide
      rw [this, Int.ediv_one]
      omega
  show wpAny _ _ (Pure.pure (((xs.size : Nat) : Int) - 1, (-1 : Int), Builtin.Slice.slicePlaces (((xs.size : Nat) : Int) - 1) (-1) (-1))) _ _ s
  rw [pl]
  apply wpAny_pure
  show wpAny _ _ (if ((((xs.size : Nat) : Int) - 1) == 0 && (-1 : Int) == 1 && xs.size == xs.size) = true then _ else _) _ _ s
  rw [if_neg (by simp), rev_pick]
  first
    | exact wpAny_bind (m := Builtin.Tuple.tupleExact _) (wpAny_newObj_type (wpAny_pure ⟨_, rfl, wpAny_pure k⟩) fits)
    | exact wpAny_bind (m := Builtin.Tuple.tupleExact _) (wpAny_newObj_type (wpAny_bind (wpAny_pure (wpAny_pure ⟨_, rfl, wpAny_pure k⟩))) fits)
    | exact wpAny_bind (wpAny_bind (m := Builtin.Tuple.tupleExact _) (wpAny_newObj_type (wpAny_pure (wpAny_pure ⟨_, rfl, wpAny_pure k⟩)) fits))
    | exact wpAny_bind (wpAny_bind (m := Builtin.Tuple.tupleExact _) (wpAny_newObj_type (wpAny_pure ⟨_, rfl, wpAny_pure k⟩) fits))
end
section
open PySem.Spec PySem.Calls HT
open PyProof.Rows hiding St
variable {X : Cx} {E : XK} {pos : Pos} {e : Expr} {m : M O}
def tRevW (K : PySem.W.Frag) (te : TE) : TE := fun σ H Q => te σ H fun x H1 => ∃ a xs, x = .ref a ∧ ((SqL K H1 a xs ∧ ∀ p, H1 p = none → Q (.ref p) (upd H1 p (.lst xs.reverse))) ∨ (SqT K H1 a xs ∧ ∀ p, H1 p = none → Q (.ref p) (upd H1 p (.tup xs.reverse))))
theorem pe_revW {te : TE} {k : Nat} {p1 p2 p3 : Pos} (he : PE X e te) : PE X (.Subscript e (.Slice none none (some (.UnaryOp .USub (.Constant (.int 1) k p1) p2)) p3) pos) (tRevW X.K te) := by
  refine ⟨fun pins s σ H Q I h => ?_⟩
  apply Subscript_
  refine thn (he.run pins s σ H _ I h) fun v s1 ⟨x, H1, I1, r1, a, xs, ex, q⟩ => ?_
  subst ex
  cases (show v = Value.ref a from r1)
  have step : PO X (some (.UnaryOp .USub (.Constant (.int 1) k p1) p2)) (tPart (tUn (rU fun i => .int (-i)) (tC (.int 1)))) := po_some (pe_un un_neg pe_int)
  apply wpAny_Slice
  refine thn (po_none.run pins s1 σ H1 (fun o H2 => o = none ∧ H2 = H1) I1 ⟨rfl, rfl⟩) fun vl s2 ⟨l, H2, I2, pl, el, e2⟩ => ?_
  subst el e2
  refine thn (po_none.run pins s2 σ H2 (fun o H3 => o = none ∧ H3 = H2) I2 ⟨rfl, rfl⟩) fun vu s3 ⟨u, H3, I3, pu, eu, e3⟩ => ?_
  subst eu e3
  refine thn (step.run pins s3 σ H3 (fun o H4 => o = some (-1) ∧ H4 = H3) I3 ⟨1, rfl, -1, rfl, rfl, rfl⟩) fun vs s4 ⟨o, H4, I4, ps, eo, e4⟩ => ?_
  subst eo e4
  cases pl
  cases pu
  cases ps with
  | int i tk =>
  have I5 : Inv X pins σ H4 { s4 with heap := s4.heap.push { cls := .type "slice", data := .fields #[.none, .none, .int (-1) tk] } } := I4.kept (t' := s4.toks) fun b ob z => Heap.get?_push_of_some _ z
  show wpAny (model X.prog X.w) X.A (subscriptTail e (.Slice none none (some (.UnaryOp .USub (.Constant (.int 1) k p1) p2)) p3) (.ref a) (.ref s4.heap.objs.size)) (EP X pins σ Q) X.xe { s4 with heap := s4.heap.push { cls := .type "slice", data := .fields #[.none, .none, .int (-1) tk] } }
  rcases q with ⟨hx, q⟩ | ⟨hx, q⟩
  · obtain ⟨its, r, ht, hz⟩ := I5.list hx
    have hlen := r.length
    refine tail_any (ops := [.ref a, .ref s4.heap.objs.size]) ht.isList.typeIs (PySem.slot_list_getitem.lookup) ?_ (by with_unfolding_all rfl)
    refine wpAny_getItem_list_slice ht.isList (Heap.IsSliceOf.new _ .none .none (.int (-1) tk)) .none .none (.int _ _) (by decide) ?_ (by rw [List.size_toArray]; omega)
    rw [PySem.W.krv_pick]
    refine ⟨.ref _, _, I5.laid (t' := s4.toks) (o := .lst xs.reverse) (fun b ob z => Heap.get?_push_of_some _ z) (Nat.le_refl _) ?_, rfl, q _ (I5.hok.fresh (Nat.le_refl _))⟩
    exact ⟨by rw [List.length_reverse]; exact hz, _, 0, r.reverse, Heap.get?_push_size _ rfl⟩
  · obtain ⟨its, r, ht, hz⟩ := I5.tuple hx
    have hlen := r.length
    refine tail_any (ops := [.ref a, .ref s4.heap.objs.size]) ht.typeIs (PyProof.Rows.slot_tuple_getitem.lookup) ?_ (by with_unfolding_all rfl)
    refine rev_tuple ht (Heap.IsSliceOf.new _ .none .none (.int (-1) tk)) ?_ (by rw [List.size_toArray]; omega)
    refine ⟨.ref _, _, I5.laid (t' := s4.toks) (o := .tup xs.reverse) (fun b ob z => Heap.get?_push_of_some _ z) (Nat.le_refl _) ?_, rfl, q _ (I5.hok.fresh (Nat.le_refl _))⟩
    exact ⟨by rw [List.length_reverse]; exact hz, _, r.reverse, IsTup.new _ _⟩
@[simp] def revO : O → Option O
  | .pu (.lst ds) => some (.li (ds.reverse.map .pu))
  | .pu (.tup ds) => some (.pu (.tup ds.reverse))
  | _ => none
theorem Reps.reverse {K : PySem.W.Frag} {Z : Hp} : ∀ {vs : List V} {ds : List D}, Reps K Z vs ds → Reps K Z vs.reverse ds.reverse
  | _, _, .nil => .nil
  | _, _, .cons q r => by rw [List.reverse_cons, List.reverse_cons]; exact r.reverse.append (.cons q .nil)
theorem v_rev {k : Nat} {p1 p2 p3 : Pos} (he : VE X E e m) : VE X E (.Subscript e (.Slice none none (some (.UnaryOp .USub (.Constant (.int 1) k p1) p2)) p3) pos) (eUn revO m) := by
  refine (pe_revW he).weak fun σ H Q h => ?_
  obtain ⟨Z, τ, T, env, F, ok, hl, post⟩ := h
  refine ⟨Z, τ, T, env, F, ok, hl, (stepE (ρ := []) (R := []) rfl post).imp fun v H1 ⟨Z1, F1, x, e1, s1, ok1, post1⟩ => ?_⟩
  obtain ⟨_, A, B, ee, q, ok2, _⟩ := Ok.top (x := some v) ok1
  cases ee
  unfold revO at post1
  split at post1
  · cases q with
    | pu q => cases q with
      | lst a r =>
        exact ⟨_, _, rfl, .inl ⟨((ok1.sub.le (K := X.K)).l _ _ a), fun p hp => post1 _ _ Z1 _ (Same.refl Z1) (Ok.newL (F1 := fun _ => 0) ok2 ok2.sl r.reverse.os (fun b => by simp) hp)⟩⟩
  · cases q with
    | pu q => cases q with
      | tup a r =>
        refine ⟨_, _, rfl, .inr ⟨(ok1.sub.le (K := X.K)).t _ _ a, fun p hp => ?_⟩⟩
        have nn := Ok.newT (F1 := fun _ => 0) ok2 ok2.sl (r.reverse.os (H := H1)) (fun b => by simp) hp
        rw [mkT_map] at nn
        obtain ⟨Z2, G2, s2, ok3⟩ := nn
        exact post1 _ _ Z2 G2 s2 ok3
  · exact post1.elim
end
/-! ### {} -/
section
variable {K : PySem.W.Frag} {E : XK} {Z H : Hp} {σ : St} {env : Env} {F : Fp}
theorem Ok.newD (ok : Ok K Z H σ env F) {p : Addr} (hp : H p = none) : Ok K Z (upd H p (.dK [])) (some (.ref p) :: σ) (some (.di []) :: env) (fun b => one p b + F b) := by
  have np : F p = 0 := by
    rcases Nat.eq_zero_or_pos (F p) with z | z
    · exact z
    · exact absurd hp (ok.there p z)
  have kp := ok.same (Same.upd (u := .dK []) hp)
  refine ⟨kp.sub, .so (F1 := one p) (F2 := F) (.di (F := fun _ => 0) upd_same .nil fun b => Nat.le_refl (one p b + 0)) kp.sl fun b => Nat.le_refl _, fun b => ?_, fun b z => ?_, fun b z => ?_⟩
  · show one p b + F b ≤ 1
    unfold one
    by_cases w : b = p
    · rw [if_pos w, w, np]
      exact Nat.le_refl _
    · rw [if_neg w]; have := ok.le b; omega
  · by_cases w : b = p
    · rw [w]; exact ok.sub.none hp
    · have z : 0 < one p b + F b := z
      unfold one at z
      rw [if_neg w] at z
      exact ok.own b (by omega)
  · by_cases w : b = p
    · rw [w, upd_same]; simp
    · have z : 0 < one p b + F b := z
      unfold one at z
      rw [if_neg w] at z
      exact kp.there b (by omega)
def eDict0 : M O := fun env => .ok (.di []) env
@[simp] theorem eDict0.c {z : Option O} {zs : Env} : eDict0 (z :: zs) = (.ok (.di []) (z :: zs)) := rfl
@[simp] theorem eDict0.n : eDict0 ([] : Env) = (.ok (.di []) ([] : Env)) := rfl
theorem v_dict0 {X : Cx} {pos : Pos} : VE X E (.Dict [] [] pos) eDict0 := by
  refine pe_dnewK.weak fun σ H Q h => ?_
  obtain ⟨Z, τ, T, env, F, ok, hl, post⟩ := h
  exact fun p hp => post _ _ Z _ (Same.refl Z) (ok.newD hp)
end
/-! ### a, b = x, y -/
section
variable {X : Cx} {E : XK} {io : Nat → Bool} {pos : Pos}
def sPar (i j : Nat) (ms : M (List O)) : M Fl := fun env => (ms env).bind fun xs e => match xs with
  | [x, y] => .ok .nx ((e.set i (some x)).set j (some y))
  | _ => .no
@[simp] theorem sPar.c (i j : Nat) (ms : M (List O)) {z : Option O} {zs : Env} : sPar i j ms (z :: zs) = ((ms (z :: zs)).bind fun xs e => match xs with
  | [x, y] => .ok .nx ((e.set i (some x)).set j (some y))
  | _ => .no) := rfl
@[simp] theorem sPar.n (i j : Nat) (ms : M (List O)) : sPar i j ms ([] : Env) = ((ms ([] : Env)).bind fun xs e => match xs with
  | [x, y] => .ok .nx ((e.set i (some x)).set j (some y))
  | _ => .no) := rfl
theorem s_par {i j : Nat} {x y : Str} {a b : Expr} {li : List (Option Nat)} {ms : M (List O)} {px py pt : Pos} {kt k2 : Nat} {pt2 : Pos} (hc : X.calm = true) (hN : X.N.Nodup) (hi : X.N[i]? = some x) (hj : X.N[j]? = some y) (hij : i ≠ j)
    (hx : X.env.scope.names.lookup x = some .local) (hy : X.env.scope.names.lookup y = some .local) (ha : VA X E [a, b] li ms)
    (hw : swappedStores [.Tuple [.Name x px, .Name y py] kt pt] (.Tuple [a, b] k2 pt2) X.env = Pure.pure (some [x, y]))
    (h1 : io i = false := by rfl) (h2 : io j = false := by rfl)
    (hs : swapsWithSole [.Tuple [.Name x px, .Name y py] kt pt] (.Tuple [a, b] k2 pt2) pos.line X.env = Pure.pure false := by rfl) :
    VS X E io (.Assign [.Tuple [.Name x px, .Name y py] kt pt] (.Tuple [a, b] k2 pt2) pos) (sPar i j ms) := by
  refine (ps_par hc hN hi hj hij hx hy ha hw hs).weak fun D σ H h => ?_
  obtain ⟨Z, τ, T, env, F, ok, hl, post⟩ := h
  refine ⟨Z, τ, T, env, F, ok, hl, (bindL (ρ := []) (R := []) (fun Z o => PostS X.K E io Z τ T σ D o) (fun s h => PostS.mono s h) (fun h => h σ (Pin.refl σ)) (fun h => h) rfl post).imp fun vs H1 ⟨Z1, F1, xs, e1, s1, l1, _, ok1, post1⟩ => ?_⟩
  split at post1
  · rename_i p q
    match vs, l1 with
    | [v, u], _ =>
      have ok2 : Ok X.K Z1 H1 (some u :: (τ ++ σ.set i (some v))) (some q :: (T ++ e1.set i (some p))) F1 := by
        have z := Ok.store (τ := some u :: τ) (T := some q :: T) (i := i) ok1 (by simp [hl])
        exact z
      have ok3 := ok2.store (i := j) hl
      refine ⟨v, u, rfl, post1 _ H1 Z1 F1 (Same.refl Z1) ⟨by simp, fun k hk => ?_⟩ ok3⟩
      rw [List.getElem?_set_ne (fun e => by rw [← e, h2] at hk; cases hk), List.getElem?_set_ne (fun e => by rw [← e, h1] at hk; cases hk)]
  · exact post1.elim
/-- name = [.. for ..] on one line -/
theorem s_setLc {i : Nat} {y : Str} {py : Pos} {elt tg iter : Expr} {scope : Scope} {own : List (Str × Nat)} {p : Pos} {mi : M (List D)} {g : GD} {me : M O} (hc : X.calm = true) (hN : X.N.Nodup) (hy : X.N[i]? = some y) (hyl : X.env.scope.names.lookup y = some .local)
    (hsw : swapsWith (.ListComp elt [⟨tg, iter, [], 0⟩] scope p) (some (.Name y py)) pos.line X.env = Pure.pure true) (hi : VI X E tg iter mi) (ok : BlkOk X.N X.env.scope scope own)
    (hg : ∀ s H C cl fp, VG (Blk X scope s H C cl fp) (fun i => !(own.map (·.2)).contains i) tg g) (he : ∀ s H C cl fp, VE (Blk X scope s H C cl fp) E0 elt me) (hio : io i = false := by rfl) (hs : ∀ x, foldedSetIterable iter X.env x = Pure.pure x := by intro _; rfl) :
    VS X E io (.Assign [.Name y py] (.ListComp elt [⟨tg, iter, [], 0⟩] scope p) pos) (sAsg (eLc (own.map (·.2)) mi g cYes me) (gN i)) :=
  (ps_setLc (tt := tT X.K E0 cYes) hc hN hy hyl hsw hi ok hg (fun _ _ _ _ _ => ⟨fun pins s σ H Q I h => pts_nil.run pins s σ H Q I (yes_imp h)⟩) he hs).weak fun _ _ _ => asg_imp (fun _ _ _ => lc_imp (fun _ _ _ h => h) (fun _ _ _ _ h => h) (fun _ _ _ h => h) fun _ _ _ h => h) fun _ _ _ _ => gN_imp hio
end
end Ws

namespace Ws
open PySem L2
section
variable {K : PySem.W.Frag} {E : XK} {Z Z' H H' : Hp} {σ σ' σ1 τ ρ : St} {env env' T R : Env} {F G : Fp} {Q Q' : VK} {v : V} {o : O} {d : D} {io : Nat → Bool}
/-! ### // of any size -/
@[simp] def fdivW : O → O → Option O := oor fdivO (iOp (fun _ j => decide (0 < j ∧ j.natAbs.log2 < 9000)) fun i j => .int (i / j))
theorem opv_fdivW : OpV K fdivW (ror (rI CDivN fun i j => .int (i.fdiv j)) (rI CDivW fun i j => .int (i / j))) := (opv_I (fun _ _ h => by simpa [CDivN] using h) fun _ _ _ => .int _).or (opv_I (fun _ _ h => by simpa [CDivW] using h) fun _ _ _ => .int _)
/-! ### name[i] = e of a list that the name owns -/
@[simp] def gSetAt (i : Nat) (mi : M O) : GD := fun o e => match e[i]? with
  | some (some (.li _)) => (match mi e with
    | .ok (.pu (.int k)) e1 => (match e1[i]? with
      | some (some (.li xs)) => (ixN xs.length k).map fun j => e1.set i (some (.li (xs.set j o)))
      | _ => none)
    | _ => none)
  | _ => none
theorem RepOs.set : ∀ {vs : List V} {os : List O} {A B : Fp} {v : V} {o : O} (j : Nat), RepOs K Z H vs os A → RepO K Z H v o B → RepOs K Z H (vs.set j v) (os.set j o) (fun b => A b + B b)
  | _, _, A, B, _, _, _, .nil, _ => .nil
  | _, _, A, B, _, _, 0, .cons (F1 := A1) (F2 := A2) _ r i, q => .cons q r fun b => by have := i b; show B b + A2 b ≤ A b + B b; omega
  | _, _, A, B, _, _, j + 1, .cons (F1 := A1) (F2 := A2) h r i, q => .cons (F2 := fun b => A2 b + B b) h (r.set j q) fun b => by have := i b; show A1 b + (A2 b + B b) ≤ A b + B b; omega
theorem setAt_imp {i : Nat} {mi : M O} {v : V} {σ : St} {H : Hp} {Q : St → Hp → Prop} (h : tG K io (gSetAt i mi) v σ H Q) : gSub (tVar i) (tE K E0 mi) rSetL v σ H Q := by
  obtain ⟨Z, τ, T, env, env', F, o, ok, hl, e, k⟩ := h
  unfold gSetAt at e
  split at e
  · rename_i xs0 ex0
    obtain ⟨w0, _, _, hv0, _⟩ := Ok.slot (τ := some v :: τ) (T := some o :: T) (σ := σ) (env := env) ok (by simp [hl]) ex0
    refine ⟨w0, hv0, Z, some v :: τ, some o :: T, env, F, ok, by simp [hl], ?_⟩
    cases em : mi env with
    | no => rw [em] at e; cases e
    | ex x e1 => rw [em] at e; cases e
    | ok y e1 =>
      rw [em] at e
      intro u H1 Z1 F1 s1 ok1
      split at e
      · rename_i kk _ ee
        cases ee
        obtain ⟨eu, ok2⟩ := ok1.int
        cases eu
        split at e
        · rename_i xs ex
          obtain ⟨j, ej, rfl⟩ := map_some e
          obtain ⟨w, A, B, hv, q, i1, r, put⟩ := Ok.slot (τ := some v :: τ) (T := some o :: T) (σ := σ) (env := e1) ok2 (by simp [hl]) ex
          rw [hv0] at hv
          cases hv
          cases q with
          | @li a vs _ A1 _ ha qs jj =>
            refine ⟨a, vs, kk, j, rfl, rfl, ha, by rw [qs.len]; exact ej, ?_⟩
            -- the value comes out of its temporary slot into the list
            cases r with
            | @so _ _ _ _ C C1 _ qv r1 i2 =>
              have na : ∀ b, 0 < B b → b ≠ a := fun b w x => by subst x; have := jj b; rw [one_self] at this; have := i1 b; have := ok2.le b; omega
              have na1 : ∀ b, 0 < A1 b → b ≠ a := fun b w x => by subst x; have := jj b; rw [one_self] at this; have := i1 b; have := ok2.le b; omega
              have kp : ∀ b, b ≠ a → upd H1 a (.lst (vs.set j v)) b = H1 b := fun b h => upd_ne h
              have r2 : RepSl K Z1 (upd H1 a (.lst (vs.set j v))) (τ ++ σ) (T ++ e1.set i none) C1 := r1.mono Le.refl (fun b w => kp b (na b (by have := i2 b; omega))) fun b => Nat.le_refl _
              have q2 : RepO K Z1 (upd H1 a (.lst (vs.set j v))) (.ref a) (.li (xs.set j o)) (fun b => one a b + (A1 b + C b)) := .li upd_same (RepOs.set j (qs.mono Le.refl (fun b w => kp b (na1 b w)) fun b => Nat.le_refl _) (qv.mono Le.refl (fun b w => kp b (na b (by have := i2 b; omega))) fun b => Nat.le_refl _)) fun b => Nat.le_refl _
              have hi : i < e1.length := by
                rcases Nat.lt_or_ge i e1.length with h' | h'
                · exact h'
                · rw [List.getElem?_eq_none h'] at ex; cases ex
              have p := r2.put (i := τ.length + i) (G := F1) (by rw [List.length_append, List.length_set]; omega) q2 fun b => by have := jj b; have := i1 b; have := i2 b; show one a b + (A1 b + C b) + C1 b ≤ F1 b; omega
              rw [set_under hl, set_underS, set_self hv0, List.set_set] at p
              refine k σ _ Z1 F1 s1 (Pin.refl σ) ⟨fun b u ub => ?_, p, ok2.le, ok2.own, fun b w => ?_⟩
              · have : b ≠ a := fun x => by
                  subst x
                  have := ok2.own b (by have := jj b; rw [one_self] at this; have := i1 b; omega)
                  rw [this] at ub; cases ub
                rw [kp b this]
                exact ok2.sub b u ub
              · by_cases x : b = a
                · rw [x, upd_same]; simp
                · rw [kp b x]; exact ok2.there b w
        · cases e
      · cases e
  · cases e
end
section
variable {X : Cx} {E : XK} {io : Nat → Bool} {pos : Pos} {a b : Expr} {ma mb : M O}
theorem v_fdivW (ha : VE X E a ma) (hb : VE X E b mb) : VE X E (.BinOp a .FloorDiv b pos) (eBin fdivW ma mb) := v_op (op_fdivN.or op_fdivW) opv_fdivW ha hb
theorem g_setAt {i : Nat} {o ix : Expr} {mi : M O} (ho : PE X o (tVar i)) (hi : VE X E0 ix mi) (ha : ∀ v, assign (.Subscript o ix pos) X.env v = (do
      let ov ← holding [v] (eval o X.env)
      let iv ← holding [v, ov] (eval ix X.env)
      standAt pos
      holding [v, ov, iv] (setItem ov iv v)
      release [v, ov, iv] []) := by intro _; rfl) : VG X io (.Subscript o ix pos) (gSetAt i mi) := (pg_sub ho hi set_list ha).weak fun _ _ _ _ => setAt_imp
end
/-! ### a value frozen where it is made -/
section
variable {K : PySem.W.Frag} {E : XK} {σ : St} {H : Hp} {Q : VK}
def eFz (m : M O) : M O := fun env => (m env).bind fun x e => .ok (.pu x.toD) e
@[simp] theorem eFz.c (m : M O) {z : Option O} {zs : Env} : eFz m (z :: zs) = ((m (z :: zs)).bind fun x e => .ok (.pu x.toD) e) := rfl
@[simp] theorem eFz.n (m : M O) : eFz m ([] : Env) = ((m ([] : Env)).bind fun x e => .ok (.pu x.toD) e) := rfl
theorem fz_imp {m : M O} (h : tE K E (eFz m) σ H Q) : tE K E m σ H Q := by
  obtain ⟨Z, τ, T, env, F, ok, hl, post⟩ := h
  refine ⟨Z, τ, T, env, F, ok, hl, ?_⟩
  unfold eFz at post
  cases e : m env with
  | no => rw [e] at post; exact post.elim
  | ex x e1 => rw [e] at post; exact post
  | ok x e1 =>
    rw [e] at post
    intro v H' Z' F' s ok'
    obtain ⟨Z2, G, s2, ok2⟩ := ok'.freeze
    exact post v H' Z2 G (s.trans s2) ok2
end
section
variable {X : Cx} {E : XK} {a : Expr} {ma : M O}
theorem v_fz (ha : VE X E a ma) : VE X E a (eFz ma) := ha.weak fun _ _ _ => fz_imp
end
/-! ### kinds -/
@[simp] theorem kit_NoneType_bool : kitB "NoneType" "bool" = some false := by decide +kernel
@[simp] theorem kit_NoneType_int : kitB "NoneType" "int" = some false := by decide +kernel
@[simp] theorem kit_NoneType_str : kitB "NoneType" "str" = some false := by decide +kernel
@[simp] theorem kit_NoneType_list : kitB "NoneType" "list" = some false := by decide +kernel
@[simp] theorem kit_NoneType_tuple : kitB "NoneType" "tuple" = some false := by decide +kernel
@[simp] theorem kit_NoneType_dict : kitB "NoneType" "dict" = some false := by decide +kernel
@[simp] theorem kit_bool_bool : kitB "bool" "bool" = some true := by decide +kernel
@[simp] theorem kit_bool_int : kitB "bool" "int" = some true := by decide +kernel
@[simp] theorem kit_bool_str : kitB "bool" "str" = some false := by decide +kernel
@[simp] theorem kit_bool_list : kitB "bool" "list" = some false := by decide +kernel
@[simp] theorem kit_bool_tuple : kitB "bool" "tuple" = some false := by decide +kernel
@[simp] theorem kit_bool_dict : kitB "bool" "dict" = some false := by decide +kernel
@[simp] theorem kit_int_bool : kitB "int" "bool" = some false := by decide +kernel
@[simp] theorem kit_int_int : kitB "int" "int" = some true := by decide +kernel
@[simp] theorem kit_int_str : kitB "int" "str" = some false := by decide +kernel
@[simp] theorem kit_int_list : kitB "int" "list" = some false := by decide +kernel
@[simp] theorem kit_int_tuple : kitB "int" "tuple" = some false := by decide +kernel
@[simp] theorem kit_int_dict : kitB "int" "dict" = some false := by decide +kernel
@[simp] theorem kit_str_bool : kitB "str" "bool" = some false := by decide +kernel
@[simp] theorem kit_str_int : kitB "str" "int" = some false := by decide +kernel
@[simp] theorem kit_str_str : kitB "str" "str" = some true := by decide +kernel
@[simp] theorem kit_str_list : kitB "str" "list" = some false := by decide +kernel
@[simp] theorem kit_str_tuple : kitB "str" "tuple" = some false := by decide +kernel
@[simp] theorem kit_str_dict : kitB "str" "dict" = some false := by decide +kernel
@[simp] theorem kit_list_bool : kitB "list" "bool" = some false := by decide +kernel
@[simp] theorem kit_list_int : kitB "list" "int" = some false := by decide +kernel
@[simp] theorem kit_list_str : kitB "list" "str" = some false := by decide +kernel
@[simp] theorem kit_list_list : kitB "list" "list" = some true := by decide +kernel
@[simp] theorem kit_list_tuple : kitB "list" "tuple" = some false := by decide +kernel
@[simp] theorem kit_list_dict : kitB "list" "dict" = some false := by decide +kernel
@[simp] theorem kit_tuple_bool : kitB "tuple" "bool" = some false := by decide +kernel
@[simp] theorem kit_tuple_int : kitB "tuple" "int" = some false := by decide +kernel
@[simp] theorem kit_tuple_str : kitB "tuple" "str" = some false := by decide +kernel
@[simp] theorem kit_tuple_list : kitB "tuple" "list" = some false := by decide +kernel
@[simp] theorem kit_tuple_tuple : kitB "tuple" "tuple" = some true := by decide +kernel
@[simp] theorem kit_tuple_dict : kitB "tuple" "dict" = some false := by decide +kernel
@[simp] theorem kit_dict_bool : kitB "dict" "bool" = some false := by decide +kernel
@[simp] theorem kit_dict_int : kitB "dict" "int" = some false := by decide +kernel
@[simp] theorem kit_dict_str : kitB "dict" "str" = some false := by decide +kernel
@[simp] theorem kit_dict_list : kitB "dict" "list" = some false := by decide +kernel
@[simp] theorem kit_dict_tuple : kitB "dict" "tuple" = some false := by decide +kernel
@[simp] theorem kit_dict_dict : kitB "dict" "dict" = some true := by decide +kernel
end Ws

namespace Ws
open PySem L2
/-! ### == by kinds -/
@[simp] theorem eqv_non_non : D.eqv (.non : D) (.non : D) = (some true) := by rw [D.eqv]
@[simp] theorem eqv_non_bl (b : Bool) : D.eqv (.non : D) (.bl b : D) = (some false) := by rw [D.eqv]
@[simp] theorem eqv_non_int (b : Int) : D.eqv (.non : D) (.int b : D) = (some false) := by rw [D.eqv]
@[simp] theorem eqv_non_str (b : Str) : D.eqv (.non : D) (.str b : D) = (some false) := by rw [D.eqv]
@[simp] theorem eqv_non_lst (b : List D) : D.eqv (.non : D) (.lst b : D) = (some false) := by rw [D.eqv]
@[simp] theorem eqv_non_tup (b : List D) : D.eqv (.non : D) (.tup b : D) = (some false) := by rw [D.eqv]
@[simp] theorem eqv_bl_non (a : Bool) : D.eqv (.bl a : D) (.non : D) = (some false) := by rw [D.eqv]
@[simp] theorem eqv_bl_bl (a : Bool) (b : Bool) : D.eqv (.bl a : D) (.bl b : D) = (some (a == b)) := by rw [D.eqv]
@[simp] theorem eqv_bl_int (a : Bool) (b : Int) : D.eqv (.bl a : D) (.int b : D) = (some ((if a then 1 else 0) == b)) := by rw [D.eqv]
@[simp] theorem eqv_bl_str (a : Bool) (b : Str) : D.eqv (.bl a : D) (.str b : D) = (some false) := by rw [D.eqv]
@[simp] theorem eqv_bl_lst (a : Bool) (b : List D) : D.eqv (.bl a : D) (.lst b : D) = (some false) := by rw [D.eqv]
@[simp] theorem eqv_bl_tup (a : Bool) (b : List D) : D.eqv (.bl a : D) (.tup b : D) = (some false) := by rw [D.eqv]
@[simp] theorem eqv_int_non (a : Int) : D.eqv (.int a : D) (.non : D) = (some false) := by rw [D.eqv]
@[simp] theorem eqv_int_bl (a : Int) (b : Bool) : D.eqv (.int a : D) (.bl b : D) = (some (a == (if b then 1 else 0))) := by rw [D.eqv]
@[simp] theorem eqv_int_int (a : Int) (b : Int) : D.eqv (.int a : D) (.int b : D) = (some (a == b)) := by rw [D.eqv]
@[simp] theorem eqv_int_str (a : Int) (b : Str) : D.eqv (.int a : D) (.str b : D) = (some false) := by rw [D.eqv]
@[simp] theorem eqv_int_lst (a : Int) (b : List D) : D.eqv (.int a : D) (.lst b : D) = (some false) := by rw [D.eqv]
@[simp] theorem eqv_int_tup (a : Int) (b : List D) : D.eqv (.int a : D) (.tup b : D) = (some false) := by rw [D.eqv]
@[simp] theorem eqv_str_non (a : Str) : D.eqv (.str a : D) (.non : D) = (some false) := by rw [D.eqv]
@[simp] theorem eqv_str_bl (a : Str) (b : Bool) : D.eqv (.str a : D) (.bl b : D) = (some false) := by rw [D.eqv]
@[simp] theorem eqv_str_int (a : Str) (b : Int) : D.eqv (.str a : D) (.int b : D) = (some false) := by rw [D.eqv]
@[simp] theorem eqv_str_str (a : Str) (b : Str) : D.eqv (.str a : D) (.str b : D) = (some (a == b)) := by rw [D.eqv]
@[simp] theorem eqv_str_lst (a : Str) (b : List D) : D.eqv (.str a : D) (.lst b : D) = (some false) := by rw [D.eqv]
@[simp] theorem eqv_str_tup (a : Str) (b : List D) : D.eqv (.str a : D) (.tup b : D) = (some false) := by rw [D.eqv]
@[simp] theorem eqv_lst_non (a : List D) : D.eqv (.lst a : D) (.non : D) = (some false) := by rw [D.eqv]
@[simp] theorem eqv_lst_bl (a : List D) (b : Bool) : D.eqv (.lst a : D) (.bl b : D) = (some false) := by rw [D.eqv]
@[simp] theorem eqv_lst_int (a : List D) (b : Int) : D.eqv (.lst a : D) (.int b : D) = (some false) := by rw [D.eqv]
@[simp] theorem eqv_lst_str (a : List D) (b : Str) : D.eqv (.lst a : D) (.str b : D) = (some false) := by rw [D.eqv]
@[simp] theorem eqv_lst_lst (a : List D) (b : List D) : D.eqv (.lst a : D) (.lst b : D) = (if a.length = b.length then D.eqvs a b else some false) := by rw [D.eqv]
@[simp] theorem eqv_lst_tup (a : List D) (b : List D) : D.eqv (.lst a : D) (.tup b : D) = (some false) := by rw [D.eqv]
@[simp] theorem eqv_tup_non (a : List D) : D.eqv (.tup a : D) (.non : D) = (some false) := by rw [D.eqv]
@[simp] theorem eqv_tup_bl (a : List D) (b : Bool) : D.eqv (.tup a : D) (.bl b : D) = (some false) := by rw [D.eqv]
@[simp] theorem eqv_tup_int (a : List D) (b : Int) : D.eqv (.tup a : D) (.int b : D) = (some false) := by rw [D.eqv]
@[simp] theorem eqv_tup_str (a : List D) (b : Str) : D.eqv (.tup a : D) (.str b : D) = (some false) := by rw [D.eqv]
@[simp] theorem eqv_tup_lst (a : List D) (b : List D) : D.eqv (.tup a : D) (.lst b : D) = (some false) := by rw [D.eqv]
@[simp] theorem eqv_tup_tup (a : List D) (b : List D) : D.eqv (.tup a : D) (.tup b : D) = ((D.eqvs a b).map fun r => r && a.length == b.length) := by rw [D.eqv]
@[simp] theorem eqvs_nil (b : List D) : D.eqvs [] b = some true := by cases b <;> rw [D.eqvs] <;> simp
@[simp] theorem eqvs_nil2 (b : List D) : D.eqvs b [] = some true := by cases b <;> rw [D.eqvs] <;> simp
@[simp] theorem eqvs_cons2 (x y : D) (xs ys : List D) : D.eqvs (x :: xs) (y :: ys) = ((D.eqv x y).bind fun a => (D.eqvs xs ys).map fun b => a && b) := by
  rw [D.eqvs]
  cases D.eqv x y <;> cases D.eqvs xs ys <;> rfl
@[simp] theorem depth_non : D.depth (.non : D) = 0 := by rw [D.depth] <;> simp
@[simp] theorem depth_bl (a : Bool) : D.depth (.bl a : D) = 0 := by rw [D.depth] <;> simp
@[simp] theorem depth_int (a : Int) : D.depth (.int a : D) = 0 := by rw [D.depth] <;> simp
@[simp] theorem depth_str (a : Str) : D.depth (.str a : D) = 0 := by rw [D.depth] <;> simp
@[simp] theorem depth_lst (a : List D) : D.depth (.lst a : D) = 1 + D.depths a := by rw [D.depth] <;> simp
@[simp] theorem depth_tup (a : List D) : D.depth (.tup a : D) = 1 + D.depths a := by rw [D.depth] <;> simp
@[simp] theorem depths_nil : D.depths [] = 0 := by rw [D.depths]
@[simp] theorem depths_cons (x : D) (xs : List D) : D.depths (x :: xs) = max (D.depth x) (D.depths xs) := by rw [D.depths]
/-! ### items -/
theorem atI_get {α : Type} {xs : List α} {i : Int} (h0 : 0 ≤ i) (h1 : i < xs.length) : ∃ x, atI xs i = some x ∧ x ∈ xs := by
  have : i.toNat < xs.length := by omega
  refine ⟨xs[i.toNat], ?_, List.getElem_mem this⟩
  simp [atI, ixN, h0, h1, this]
@[simp] theorem atI_0 {α : Type} (x : α) (xs : List α) : atI (x :: xs) 0 = some x := by
  have : (0 : Int) < ((xs.length + 1 : Nat) : Int) := by omega
  simp [atI, ixN]
@[simp] theorem atI_1 {α : Type} (x y : α) (xs : List α) : atI (x :: y :: xs) 1 = some y := by
  have h : (1 : Int) < ((x :: y :: xs).length : Int) := by simp; omega
  unfold atI ixN
  rw [if_pos (by decide), if_pos h]
  rfl
@[simp] theorem atI_2 {α : Type} (x y z : α) (xs : List α) : atI (x :: y :: z :: xs) 2 = some z := by
  have h : (2 : Int) < ((x :: y :: z :: xs).length : Int) := by simp; omega
  unfold atI ixN
  rw [if_pos (by decide), if_pos h]
  rfl
@[simp] theorem atI_3 {α : Type} (x y z w : α) (xs : List α) : atI (x :: y :: z :: w :: xs) 3 = some w := by
  have h : (3 : Int) < ((x :: y :: z :: w :: xs).length : Int) := by simp; omega
  unfold atI ixN
  rw [if_pos (by decide), if_pos h]
  rfl
@[simp] theorem ixN_0 (n : Nat) : ixN (n + 1) 0 = some 0 := by
  unfold ixN
  rw [if_pos (by decide), if_pos (by omega)]
  rfl
@[simp] theorem ixN_1 (n : Nat) : ixN (n + 1 + 1) 1 = some 1 := by
  unfold ixN
  rw [if_pos (by decide), if_pos (by omega)]
  rfl
@[simp] theorem nat1_ne0 (n : Nat) : (((n : Nat) : Int) + 1 = 0) = False := by apply eq_false; omega
@[simp] theorem nat2_ne0 (n : Nat) : (((n : Nat) : Int) + 1 + 1 = 0) = False := by apply eq_false; omega
@[simp] theorem nat2_ne1 (n : Nat) : (((n : Nat) : Int) + 1 + 1 = 1) = False := by apply eq_false; omega
@[simp] theorem nat3_ne0 (n : Nat) : (((n : Nat) : Int) + 1 + 1 + 1 = 0) = False := by apply eq_false; omega
@[simp] theorem nat3_ne1 (n : Nat) : (((n : Nat) : Int) + 1 + 1 + 1 = 1) = False := by apply eq_false; omega
@[simp] theorem nat3_ne2 (n : Nat) : (((n : Nat) : Int) + 1 + 1 + 1 = 2) = False := by apply eq_false; omega
@[simp] theorem nat4_ne0 (n : Nat) : (((n : Nat) : Int) + 1 + 1 + 1 + 1 = 0) = False := by apply eq_false; omega
@[simp] theorem nat4_ne1 (n : Nat) : (((n : Nat) : Int) + 1 + 1 + 1 + 1 = 1) = False := by apply eq_false; omega
@[simp] theorem nat4_ne2 (n : Nat) : (((n : Nat) : Int) + 1 + 1 + 1 + 1 = 2) = False := by apply eq_false; omega
@[simp] theorem nat4_ne3 (n : Nat) : (((n : Nat) : Int) + 1 + 1 + 1 + 1 = 3) = False := by apply eq_false; omega
@[simp] theorem nat5_ne0 (n : Nat) : (((n : Nat) : Int) + 1 + 1 + 1 + 1 + 1 = 0) = False := by apply eq_false; omega
@[simp] theorem nat5_ne1 (n : Nat) : (((n : Nat) : Int) + 1 + 1 + 1 + 1 + 1 = 1) = False := by apply eq_false; omega
@[simp] theorem nat5_ne2 (n : Nat) : (((n : Nat) : Int) + 1 + 1 + 1 + 1 + 1 = 2) = False := by apply eq_false; omega
@[simp] theorem nat5_ne3 (n : Nat) : (((n : Nat) : Int) + 1 + 1 + 1 + 1 + 1 = 3) = False := by apply eq_false; omega
@[simp] theorem nat5_ne4 (n : Nat) : (((n : Nat) : Int) + 1 + 1 + 1 + 1 + 1 = 4) = False := by apply eq_false; omega
@[simp] theorem nat6_ne0 (n : Nat) : (((n : Nat) : Int) + 1 + 1 + 1 + 1 + 1 + 1 = 0) = False := by apply eq_false; omega
@[simp] theorem nat6_ne1 (n : Nat) : (((n : Nat) : Int) + 1 + 1 + 1 + 1 + 1 + 1 = 1) = False := by apply eq_false; omega
@[simp] theorem nat6_ne2 (n : Nat) : (((n : Nat) : Int) + 1 + 1 + 1 + 1 + 1 + 1 = 2) = False := by apply eq_false; omega
@[simp] theorem nat6_ne3 (n : Nat) : (((n : Nat) : Int) + 1 + 1 + 1 + 1 + 1 + 1 = 3) = False := by apply eq_false; omega
@[simp] theorem nat6_ne4 (n : Nat) : (((n : Nat) : Int) + 1 + 1 + 1 + 1 + 1 + 1 = 4) = False := by apply eq_false; omega
@[simp] theorem nat6_ne5 (n : Nat) : (((n : Nat) : Int) + 1 + 1 + 1 + 1 + 1 + 1 = 5) = False := by apply eq_false; omega
theorem star_tail {α : Type} (x : α) (ds : List α) : (x :: ds).take 1 = [x] ∧ ((x :: ds).drop 1).take ((x :: ds).length + 1 - 2) = ds ∧ ((x :: ds).drop 1).drop ((x :: ds).length + 1 - 2) = [] := by
  refine ⟨by simp, ?_, ?_⟩
  · rw [show (x :: ds).length + 1 - 2 = ds.length by simp]; simp
  · rw [show (x :: ds).length + 1 - 2 = ds.length by simp]; simp
theorem gStarD_seq (gs : GDs) (o : O) (x : D) (ds : List D) (e : Env) (h : o.toD.seq = some (x :: ds)) : gStarD 2 1 gs o e = if ds.length + 1 ≤ 16384 then gs [.pu x, .li (ds.map .pu)] e else none := by
  obtain ⟨a, b, c⟩ := star_tail x ds
  unfold gStarD
  rw [h]
  show (if 2 ≤ (x :: ds).length + 1 ∧ (x :: ds).length ≤ 16384 then _ else none) = _
  rw [a, b, c]
  by_cases h : ds.length + 1 ≤ 16384
  · rw [if_pos h, if_pos ⟨by simp, by simpa using h⟩]; rfl
  · rw [if_neg h, if_neg (by intro q; exact h (by simpa using q.2))]
@[simp] theorem gStarD_tup (gs : GDs) (x : D) (ds : List D) (e : Env) : gStarD 2 1 gs (.pu (.tup (x :: ds))) e = if ds.length + 1 ≤ 16384 then gs [.pu x, .li (ds.map .pu)] e else none := gStarD_seq _ _ _ _ _ (by simp)
@[simp] theorem gStarD_lst (gs : GDs) (x : D) (ds : List D) (e : Env) : gStarD 2 1 gs (.pu (.lst (x :: ds))) e = if ds.length + 1 ≤ 16384 then gs [.pu x, .li (ds.map .pu)] e else none := gStarD_seq _ _ _ _ _ (by simp)
theorem fmod_in (a : Int) {m : Int} (h : 0 < m) : 0 ≤ a.fmod m ∧ a.fmod m < m := ⟨Int.fmod_nonneg_of_pos a h, Int.fmod_lt_of_pos a h⟩
@[simp] theorem depths_ints : ∀ xs : List Int, D.depths (xs.map .int) = 0
  | [] => by simp
  | _ :: xs => by simp [depths_ints xs]
@[simp] theorem keepP_0 {io : Nat → Bool} {e : Env} : keepP io 0 e = [] := rfl
@[simp] theorem range_lit1 : List.range 1 = [0] := rfl
@[simp] theorem range_lit2 : List.range 2 = [0, 1] := rfl
@[simp] theorem range_lit3 : List.range 3 = [0, 1, 2] := rfl
@[simp] theorem range_lit4 : List.range 4 = [0, 1, 2, 3] := rfl
@[simp] theorem range_lit5 : List.range 5 = [0, 1, 2, 3, 4] := rfl
/-! ### comprehensions of what is the same for each -/
theorem loopC_pure {own : List Nat} {g : GD} {c : M Bool} {elt : M O} {f : D → O} {e0 : Env} (hw : wipeE e0 own = e0) : ∀ {items : List D} {acc : List O}, acc.length + items.length ≤ 100000 → (∀ x ∈ items, ∃ e1, g (.pu x) e0 = some e1 ∧ c e1 = .ok true e1 ∧ ∃ e3, elt e1 = .ok (f x) e3 ∧ wipeE e3 own = e0) →
    loopC own g c elt items acc e0 = .ok (acc ++ items.map f) e0
  | [], acc, _, _ => by simp [loopC]
  | x :: xs, acc, hl, h => by
    obtain ⟨e1, h1, h2, e3, h3, h4⟩ := h x (by simp)
    have hl' : acc.length < 100000 := by simp at hl; omega
    rw [loopC, hw, h1]
    simp only [h2, h3, h4]
    rw [if_pos hl', loopC_pure hw (by simp at hl ⊢; omega) fun y hy => h y (by simp [hy])]
    simp
@[simp] theorem blsD_map (f : D → Bool) : ∀ xs : List D, blsD (xs.map fun x => .bl (f x)) = some (xs.map f)
  | [] => rfl
  | x :: xs => by simp [blsD_map f xs]
@[simp] theorem blsD_map2 (f : D → Bool) : ∀ xs : List D, blsD (xs.map (O.toD ∘ fun x => .pu (.bl (f x)))) = some (xs.map f)
  | [] => rfl
  | x :: xs => by simp [blsD_map2 f xs]
@[simp] theorem toDs_map (os : List O) : (O.li os).toD = .lst (os.map O.toD) := by simp
theorem loopC_inv {own : List Nat} {g : GD} {c : M Bool} {elt : M O} (P : Env → Prop) (R : O → Prop) : ∀ {items : List D} {acc : List O} {e0 : Env}, acc.length + items.length ≤ 100000 → P e0 →
    (∀ x ∈ items, ∀ e, P e → ∃ e1, g (.pu x) (wipeE e own) = some e1 ∧ c e1 = .ok true e1 ∧ ∃ y e3, elt e1 = .ok y e3 ∧ R y ∧ P (wipeE e3 own)) →
    ∃ ys e', loopC own g c elt items acc e0 = .ok (acc ++ ys) e' ∧ P e' ∧ (∀ y ∈ ys, R y) ∧ ys.length = items.length
  | [], acc, e0, _, p, _ => ⟨[], e0, by simp [loopC], p, by simp, rfl⟩
  | x :: xs, acc, e0, hl, p, h => by
    obtain ⟨e1, h1, h2, y, e3, h3, h4, h5⟩ := h x (by simp) e0 p
    have hl' : acc.length < 100000 := by simp at hl; omega
    obtain ⟨ys, e', a, b, c1, d⟩ := loopC_inv P R (items := xs) (acc := acc ++ [y]) (by simp at hl ⊢; omega) h5 fun z hz => h z (by simp [hz])
    refine ⟨y :: ys, e', ?_, b, by simpa using ⟨h4, c1⟩, by simp [d]⟩
    rw [loopC, h1]
    simp only [h2, h3]
    rw [if_pos hl', a]
    simp
theorem loopF_inv {g : GD} {body : M Fl} (P : Env → Prop) : ∀ {items : List D} {e0 : Env}, P e0 →
    (∀ x ∈ items, ∀ e, P e → ∃ e1, g (.pu x) e = some e1 ∧ ∃ e2, body e1 = .ok .nx e2 ∧ P e2) → ∃ e', loopF g body items e0 = .ok .nx e' ∧ P e'
  | [], e0, p, _ => ⟨e0, by simp [loopF], p⟩
  | x :: xs, e0, p, h => by
    obtain ⟨e1, h1, e2, h2, p2⟩ := h x (by simp) e0 p
    obtain ⟨e', a, b⟩ := loopF_inv P (items := xs) p2 fun z hz => h z (by simp [hz])
    refine ⟨e', ?_, b⟩
    rw [loopF, h1]
    simp only [h2]
    exact a
theorem all_pu {R : D → Prop} : ∀ {ys : List O}, (∀ y ∈ ys, ∃ d, y = .pu d ∧ R d) → ∃ ds : List D, ys = ds.map .pu ∧ ∀ d ∈ ds, R d
  | [], _ => ⟨[], rfl, by simp⟩
  | y :: ys, h => by
    obtain ⟨d, rfl, hd⟩ := h y (by simp)
    obtain ⟨ds, rfl, hs⟩ := all_pu (ys := ys) fun z hz => h z (by simp [hz])
    exact ⟨d :: ds, rfl, by simpa using ⟨hd, hs⟩⟩
/-! ### slices -/
@[simp] theorem sIx_n (n d : Nat) : HT.sIx n d none = d := rfl
@[simp] theorem sIx_k (n d k : Nat) : HT.sIx n d (some (k : Int)) = min k n := HT.sIx_nat n d k
@[simp] theorem sIx_k1 (n d k : Nat) : HT.sIx n d (some ((k : Int) + 1)) = min (k + 1) n := HT.sIx_nat n d (k + 1)
@[simp] theorem sIx_l2 (n d : Nat) : HT.sIx n d (some 2) = min 2 n := HT.sIx_nat n d 2
@[simp] theorem sIx_l3 (n d : Nat) : HT.sIx n d (some 3) = min 3 n := HT.sIx_nat n d 3
@[simp] theorem sIx_l4 (n d : Nat) : HT.sIx n d (some 4) = min 4 n := HT.sIx_nat n d 4
@[simp] theorem sIx_l5 (n d : Nat) : HT.sIx n d (some 5) = min 5 n := HT.sIx_nat n d 5
@[simp] theorem sIx_l6 (n d : Nat) : HT.sIx n d (some 6) = min 6 n := HT.sIx_nat n d 6
@[simp] theorem sIx_l7 (n d : Nat) : HT.sIx n d (some 7) = min 7 n := HT.sIx_nat n d 7
@[simp] theorem sIx_l8 (n d : Nat) : HT.sIx n d (some 8) = min 8 n := HT.sIx_nat n d 8
@[simp] theorem sIx_l9 (n d : Nat) : HT.sIx n d (some 9) = min 9 n := HT.sIx_nat n d 9
@[simp] theorem sIx_l10 (n d : Nat) : HT.sIx n d (some 10) = min 10 n := HT.sIx_nat n d 10
@[simp] theorem sIx_l11 (n d : Nat) : HT.sIx n d (some 11) = min 11 n := HT.sIx_nat n d 11
@[simp] theorem sIx_l12 (n d : Nat) : HT.sIx n d (some 12) = min 12 n := HT.sIx_nat n d 12
@[simp] theorem sIx_0 (n d : Nat) : HT.sIx n d (some 0) = 0 := by have := HT.sIx_nat n d 0; simpa using this
@[simp] theorem sIx_1 (n d : Nat) : HT.sIx n d (some 1) = min 1 n := HT.sIx_nat n d 1
@[simp] theorem toD_di0 : (O.di []).toD = .dct [] := by rw [O.toD]; rfl
def NxP (P : Env → Prop) (o : Out Fl) : Prop := ∃ e, o = .ok .nx e ∧ P e
theorem for_rule {G : Out Fl → Prop} {g : GD} {body : M Fl} {items : List D} {e0 : Env} (P : Env → Prop) (h0 : P e0) (hs : ∀ x ∈ items, ∀ e, P e → ∃ e1, g (.pu x) e = some e1 ∧ NxP P (body e1)) (he : ∀ e, P e → G (.ok .nx e)) : G (loopF g body items e0) := by
  obtain ⟨e', a, b⟩ := loopF_inv P h0 fun x hx e p => by
    obtain ⟨e1, h1, e2, h2, h3⟩ := hs x hx e p
    exact ⟨e1, h1, e2, h2, h3⟩
  rw [a]
  exact he e' b
@[simp] theorem allP_comp {α : Type} (f : α → D) : ∀ xs : List α, allP (xs.map (O.pu ∘ f)) = some (xs.map f)
  | [] => rfl
  | x :: xs => by simp [allP_comp f xs]
/-! ### the module's own values -/
def scB : Value → D → Bool
  | .none, .non => true
  | .bool a, .bl b => a == b
  | .int i _, .int j => i == j
  | .str x _, .str y => x == y
  | _, _ => false
def scsB : List Value → List D → Bool
  | [], [] => true
  | u :: us, d :: ds => scB u d && scsB us ds
  | _, _ => false
theorem sc_rep {K : PySem.W.Frag} {u : Value} {d : D} (h : scB u d = true) : ∃ v : V, RelV v u ∧ ∀ Z, Rep K Z v d := by
  cases d with
  | non => cases u <;> simp [scB] at h; exact ⟨.non, rfl, fun _ => .non⟩
  | bl b => cases u <;> simp [scB] at h; subst h; exact ⟨.bl _, rfl, fun _ => .bl _⟩
  | int i => cases u <;> simp [scB] at h; subst h; exact ⟨.int _, ⟨_, rfl⟩, fun _ => .int _⟩
  | str x => cases u <;> simp [scB] at h; subst h; exact ⟨.str _, ⟨_, rfl⟩, fun _ => .str _⟩
  | _ => cases u <;> simp [scB] at h
theorem scs_rep {K : PySem.W.Frag} : ∀ {us : List Value} {ds : List D}, scsB us ds = true → ∃ vs : List V, Vals vs us ∧ ∀ Z, Reps K Z vs ds
  | [], [], _ => ⟨[], .nil, fun _ => .nil⟩
  | u :: us, d :: ds, h => by
    simp only [scsB, Bool.and_eq_true] at h
    obtain ⟨v, r, q⟩ := sc_rep (K := K) h.1
    obtain ⟨vs, rs, qs⟩ := scs_rep (K := K) h.2
    exact ⟨v :: vs, .cons r rs, fun Z => .cons (q Z) (qs Z)⟩
  | [], _ :: _, h => by simp [scsB] at h
  | _ :: _, [], h => by simp [scsB] at h
theorem glob_sc {K : PySem.W.Frag} {h : Heap} {mg : Str → Option Value} (X : K.In h) (G : h.Ns mainGlobals mg) {x : Str} {u : Value} {d : D} (e : PySem.W.nsIn K mainGlobals x = some (some u)) (c : scB u d = true) : GlobD K mg x d := by
  obtain ⟨v, r, q⟩ := sc_rep (K := K) c
  exact ⟨u, v, PySem.W.mg_of X G e, r, q⟩
theorem glob_tup {K : PySem.W.Frag} {h : Heap} {mg : Str → Option Value} (X : K.In h) (G : h.Ns mainGlobals mg) {x : Str} {a : Addr} {dd : Option Addr} {its : Array Value} {n : Nat} {sl : Array (Option Value)} {ds : List D} (e : PySem.W.nsIn K mainGlobals x = some (some (.ref a)))
    (l : K.lookup a = some ⟨.type "tuple", dd, .seq its n, sl⟩) (c : scsB its.toList ds = true) (z : its.size ≤ 1000 := by decide) : GlobD K mg x (.tup ds) := by
  obtain ⟨vs, r, q⟩ := scs_rep (K := K) c
  exact ⟨.ref a, .ref a, PySem.W.mg_of X G e, rfl, fun Z => .tup (.inr ⟨_, its, n, l, rfl, rfl, Nat.le_of_lt (small1000 z), r⟩) (q Z)⟩
/-! ### the law's head -/
theorem ints_reps {K : PySem.W.Frag} {Z : Hp} : ∀ ns : List Int, Reps K Z (ns.map V.int) (ns.map D.int)
  | [] => .nil
  | n :: ns => .cons (.int n) (ints_reps ns)
theorem spV_law {K : PySem.W.Frag} {f : FD} {H : Hp} {a : Addr} {ns : List Int} (hS : SqL K H a (ns.map V.int)) (hf : ∃ ps, f [.pu (.lst (ns.map .int))] = .ok (.pu (.bl true)) ps) : spV K 1 f [.ref a] H (fun v _ => v = .bl true) (fun _ _ _ => False) := by
  obtain ⟨ps, e⟩ := hf
  refine ⟨rfl, H, [], [], [.pu (.lst (ns.map .int))], fun _ => 0, ⟨fun b o e => .inl e, .so (F1 := fun _ => 0) (F2 := fun _ => 0) (.pu (.lst hS (ints_reps ns))) .nil fun b => Nat.le_refl _, fun b => Nat.zero_le _, fun b z => absurd z (by simp), fun b z => absurd z (by simp)⟩, rfl, rfl, ?_⟩
  rw [e]
  intro v H' Z' F' s lp ok
  cases ok.sl with
  | so q _ _ =>
    cases q with
    | pu q => cases q; rfl
end Ws

namespace Ws
open PySem L2
section
variable {K : PySem.W.Frag} {E : XK} {Z Z' H H' : Hp} {σ σ' σ1 τ ρ : St} {env env' T R : Env} {F G : Fp} {Q Q' : VK} {v : V} {o : O} {d : D}
/-! ### extend, pop, insert of a list that a name owns -/
@[simp] def extF : List O → List O → Option (O × List O)
  | xs, [.li ys] => if xs.length + ys.length ≤ 100000 then some (.pu .non, xs ++ ys) else none
  | _, _ => none
theorem methv_ext : MethV K extF rExtend := by
  intro Z H a vs us xs ys zs z A B Q ha qs qy e k
  unfold extF at e
  split at e
  · rename_i ys'
    split at e
    · rename_i hz
      cases e
      cases qy with
      | @cons u _ _ _ B1 B2 _ q r i =>
        cases r
        cases q with
        | @li b ws _ C1 _ hb qb j =>
          refine ⟨a, b, vs, ws, rfl, rfl, ha, hb, line_le (by rw [qs.len, qb.len]; exact hz), ?_⟩
          refine k .non _ (fun _ => 0) (fun b => A b + C1 b) (fun H' kp na nb => ⟨.pu .non, (qs.mono Le.refl (fun b w => kp b (na b w)) fun b => Nat.le_refl _).append (qb.mono Le.refl (fun b w => kp b (nb b (by have := i b; have := j b; omega))) fun b => Nat.le_refl _)⟩) fun b => by have := i b; have := j b; show 0 + (A b + C1 b) ≤ A b + B b; omega
    · cases e
  · cases e
theorem RepOs.unsnoc : ∀ {vs : List V} {os : List O} {A : Fp} {o : O}, RepOs K Z H vs (os ++ [o]) A → ∃ ws v C C', vs = ws ++ [v] ∧ RepO K Z H v o C ∧ RepOs K Z H ws os C' ∧ ∀ b, C b + C' b ≤ A b
  | vs, [], A, o, h => by
    cases h with
    | @cons v _ _ _ A1 A2 _ q r i =>
      cases r
      exact ⟨[], v, A1, fun _ => 0, rfl, q, .nil, fun b => by have := i b; show A1 b + 0 ≤ A b; omega⟩
  | vs, p :: os, A, o, h => by
    cases h with
    | @cons v _ _ _ A1 A2 _ q r i =>
      obtain ⟨ws, w, C, C', rfl, c, d, e⟩ := RepOs.unsnoc r
      exact ⟨v :: ws, w, C, fun b => A1 b + C' b, rfl, c, .cons q d fun b => Nat.le_refl _, fun b => by have := i b; have := e b; show C b + (A1 b + C' b) ≤ A b; omega⟩
@[simp] def popF : List O → List O → Option (O × List O)
  | xs, [] => (xs.getLast?).map fun o => (o, xs.dropLast)
  | _, _ => none
theorem methv_pop : MethV K popF rPop := by
  intro Z H a vs us xs ys zs z A B Q ha qs qy e k
  unfold popF at e
  split at e
  · cases el : xs.getLast? with
    | none => rw [el] at e; cases e
    | some o =>
      rw [el] at e
      cases e
      have hx : xs = xs.dropLast ++ [z] := by
        obtain ⟨hne, e2⟩ := List.getLast?_eq_some_iff.mp el
        rw [e2]; simp
      rw [hx] at qs
      obtain ⟨ws, w, C, C', rfl, c, d, i⟩ := qs.unsnoc
      cases qy
      refine ⟨a, ws ++ [w], w, rfl, rfl, ha, by simp, ?_⟩
      rw [List.dropLast_concat]
      refine k w ws C C' (fun H' kp na nb => ⟨c.mono Le.refl (fun b w => kp b (na b (by have := i b; omega))) fun b => Nat.le_refl _, d.mono Le.refl (fun b w => kp b (na b (by have := i b; omega))) fun b => Nat.le_refl _⟩) fun b => by have := i b; omega
  · cases e
/-! without arguments -/
theorem meth0_imp {f : List O → List O → Option (O × List O)} {r : V → List V → Hp → VK → Prop} {i : Nat} (hv : MethV K f r) {σ : St} {H : Hp} {Q : VK} (h : tE K E (eMeth f i nilA) σ H Q) : tBM0 K "list" r (tVar i) σ H Q := by
  obtain ⟨v, h0, h1, h2⟩ := meth_imp (li := []) hv h
  obtain ⟨Z, τ, T, env, F, ok, hl, post⟩ := h2
  exact ⟨v, h0, h1, post [] H Z F (Same.refl Z) rfl .nil ok⟩
end
section
variable {X : Cx} {E : XK} {io : Nat → Bool} {i : Nat} {e : Expr} {es : List Expr} {li : List (Option Nat)} {ms : M (List O)} {mf : List O → List O → Option (O × List O)} {name : Str} {apos cpos : Pos} {id : String}
theorem m_ext : MethR X "list.extend" extF := ⟨_, mt_extend, methv_ext⟩
theorem m_pop : MethR X "list.pop" popF := ⟨_, mt_pop, methv_pop⟩
theorem v_meth0 {o : Expr} (h : MethR X id mf) (slot : PySem.Slot "list" name id) (hty : typeOf (.builtin id) = Pure.pure (.type "method_descriptor")) (ho : PE X o (tVar i))
    (hbase : attributeBase o name X.env (eval o X.env) = eval o X.env := by rfl) (hline : (apos.endLine == cpos.line) = true := by rfl) : VE X E (.Call (.Attribute o name apos) [] [] cpos) (eMeth mf i nilA) := by
  obtain ⟨r, hm, hv⟩ := h.ex
  exact (pe_bm0 PySem.F.plainAttrs_list slot hty hm ho hbase hline).weak fun _ _ _ => meth0_imp hv
end
end Ws

namespace Ws
open PySem L2
section
variable {K : PySem.W.Frag} {E : XK} {Z Z' H H' : Hp} {σ σ' σ1 τ ρ : St} {env env' T R : Env} {F G : Fp} {Q Q' : VK} {v : V} {o : O} {d : D}
/-! ### dicts whose keys are ints and texts -/
def kIs : L2.Key → D → Bool
  | .inl i, .int j => i == j
  | .inr x, .str y => x == y
  | _, _ => false
@[simp] theorem kIs_int (i j : Int) : kIs (.inl i) (.int j) = (i == j) := rfl
@[simp] theorem kIs_str (i j : Str) : kIs (.inr i) (.str j) = (i == j) := rfl
@[simp] theorem kIs_is (i : Int) (j : Str) : kIs (.inl i) (.str j) = false := rfl
@[simp] theorem kIs_si (i : Str) (j : Int) : kIs (.inr i) (.int j) = false := rfl
@[simp] def dKey : D → Option L2.Key
  | .int i => some (.inl i)
  | .str x => some (.inr x)
  | _ => none
theorem dKey_rep {H : Hp} {k : L2.Key} (q : Rep K H v d) (e : dKey d = some k) : v = kV k := by
  cases q <;> cases e <;> rfl
theorem kIs_key (k k' : L2.Key) : kIs k (keyD k') = decide (k' = k) := by
  rw [Bool.eq_iff_iff]
  cases k with
  | inl i => cases k' with
    | inl j => simp [keyD, kIs]; exact eq_comm
    | inr j => simp [keyD, kIs]
  | inr i => cases k' with
    | inl j => simp [keyD, kIs]
    | inr j => simp [keyD, kIs]; exact eq_comm
def getK {α : Type} (kvs : List (D × α)) (k : L2.Key) : Option α := (kvs.find? fun kv => kIs k kv.1).map (·.2)
@[simp] theorem getK_nil {α : Type} (k : L2.Key) : getK ([] : List (D × α)) k = none := rfl
@[simp] theorem getK_cons {α : Type} (p : D × α) (kvs : List (D × α)) (k : L2.Key) : getK (p :: kvs) k = if kIs k p.1 = true then some p.2 else getK kvs k := by
  unfold getK
  rw [List.find?_cons]
  cases h : kIs k p.1 <;> simp [h]
theorem getK_rep {H : Hp} {k : L2.Key} : ∀ {ws : List (L2.Key × V)} {kvs : List (D × D)}, RepKs K H ws kvs → (∀ d, getK kvs k = some d → ∃ v, valV ws k = some v ∧ Rep K H v d) ∧ (getK kvs k = none → valV ws k = none)
  | _, _, .nil => ⟨fun d e => (by cases e), fun _ => rfl⟩
  | _, _, .cons (k := k') (v := v) (ws := ws) q r => by
    obtain ⟨h1, h2⟩ := getK_rep (k := k) r
    by_cases hk : k' = k
    · have hc : kIs k (keyD k') = true := by rw [kIs_key]; simpa using hk
      refine ⟨fun d e => ?_, fun e => ?_⟩
      · rw [getK_cons, if_pos hc] at e
        cases e
        exact ⟨v, valV_pos hk, q⟩
      · rw [getK_cons, if_pos hc] at e
        cases e
    · have hc : ¬ kIs k (keyD k') = true := by rw [kIs_key]; simpa using hk
      refine ⟨fun d e => ?_, fun e => ?_⟩
      · rw [getK_cons, if_neg hc] at e
        rw [valV_neg hk]
        exact h1 d e
      · rw [getK_cons, if_neg hc] at e
        rw [valV_neg hk]
        exact h2 e
theorem getKO_rep {k : L2.Key} : ∀ {ws : List (L2.Key × V)} {kvs : List (D × O)} {A : Fp}, RepOk K Z H ws kvs A → (∀ o, getK kvs k = some o → ∃ v, valV ws k = some v ∧ RepO K Z H v o A) ∧ (getK kvs k = none → valV ws k = none)
  | _, _, _, .nil => ⟨fun d e => (by cases e), fun _ => rfl⟩
  | _, _, _, .cons (k := k') (v := v) (ws := ws) q r i => by
    obtain ⟨h1, h2⟩ := getKO_rep (k := k) r
    by_cases hk : k' = k
    · have hc : kIs k (keyD k') = true := by rw [kIs_key]; simpa using hk
      refine ⟨fun d e => ?_, fun e => ?_⟩
      · rw [getK_cons, if_pos hc] at e
        cases e
        exact ⟨v, valV_pos hk, q.mono Le.refl (fun _ _ => rfl) fun b => by have := i b; omega⟩
      · rw [getK_cons, if_pos hc] at e
        cases e
    · have hc : ¬ kIs k (keyD k') = true := by rw [kIs_key]; simpa using hk
      refine ⟨fun d e => ?_, fun e => ?_⟩
      · rw [getK_cons, if_neg hc] at e
        rw [valV_neg hk]
        obtain ⟨v, a, b⟩ := h1 d e
        exact ⟨v, a, b.mono Le.refl (fun _ _ => rfl) fun b => by have := i b; omega⟩
      · rw [getK_cons, if_neg hc] at e
        rw [valV_neg hk]
        exact h2 e
/-! name[k] -/
@[simp] def dgetO : O → O → Option O
  | .di kvs, .pu y => (dKey y).bind fun k => (getK kvs k).bind O.plain
  | .pu (.dct kvs), .pu y => (dKey y).bind fun k => (getK kvs k).map .pu
  | _, _ => none
def eDGetAt (i : Nat) (b : M O) : M O := fun env => match env[i]? with
  | some (some _) => (b env).bind fun y e => match e[i]? with
    | some (some x) => lift (dgetO x y) e
    | _ => .no
  | _ => .no
@[simp] theorem eDGetAt.c (i : Nat) (b : M O) {z : Option O} {zs : Env} : eDGetAt i b (z :: zs) = (match (z :: zs)[i]? with
  | some (some _) => (b (z :: zs)).bind fun y e => match e[i]? with
    | some (some x) => lift (dgetO x y) e
    | _ => .no
  | _ => .no) := rfl
theorem dgetO_ok {x y z : O} {u : V} {F1 F2 : Fp} (ok : Ok K Z H σ env F) (q1 : RepO K Z H v x F1) (q2 : RepO K Z H u y F2) (e : dgetO x y = some z) : ∃ a w, v = .ref a ∧ DGet H a u (some w) ∧ ∃ d, z = .pu d ∧ Rep K Z w d := by
  unfold dgetO at e
  split at e
  · rename_i kvs y'
    obtain ⟨k, ek, e⟩ := Option.bind_eq_some_iff.mp e
    obtain ⟨o, eo, e⟩ := Option.bind_eq_some_iff.mp e
    cases q1 with
    | @di a ws _ A _ ha r i =>
      cases q2 with
      | pu q2 =>
        obtain ⟨w, hw, qo⟩ := (getKO_rep (k := k) r).1 o eo
        have hu := dKey_rep q2 ek
        subst hu
        cases o with
        | pu d =>
          cases e
          cases qo with
          | pu qo => exact ⟨a, w, rfl, hw ▸ DGet.k ha, _, rfl, qo⟩
        | _ => cases e
  · rename_i kvs y'
    obtain ⟨k, ek, e⟩ := Option.bind_eq_some_iff.mp e
    obtain ⟨d, ed, e⟩ := Option.map_eq_some_iff.mp e
    cases q1 with
    | pu q1 =>
      cases q1 with
      | @dct a ws _ ha r =>
        cases q2 with
        | pu q2 =>
          obtain ⟨w, hw, qd⟩ := (getK_rep (k := k) r).1 d ed
          have hu := dKey_rep q2 ek
          subst hu
          subst e
          exact ⟨a, w, rfl, .inl ⟨ws, k, (ok.sub.le (K := K)).d _ _ ha, rfl, hw.symm⟩, d, rfl, qd⟩
  · cases e
theorem dgetAt_imp {mb : M O} {i : Nat} {σ : St} {H : Hp} {Q : VK} (q : tE K E (eDGetAt i mb) σ H Q) : tDGet (tVar i) (tE K E mb) σ H Q := by
  obtain ⟨Z, τ, T, env, F, ok, hl, post⟩ := q
  unfold eDGetAt at post
  split at post
  · rename_i x0 ex0
    obtain ⟨v, _, _, hv, _⟩ := ok.slot hl ex0
    refine ⟨v, hv, Z, τ, T, env, F, ok, hl, (stepE (ρ := []) (R := []) rfl post).imp fun u H1 ⟨Z1, F1, y, e1, s1, ok1, post1⟩ => ?_⟩
    split at post1
    · rename_i x ex
      obtain ⟨_, A, B, e2, q1, ok2, i1⟩ := ok1.top
      cases e2
      obtain ⟨v', A', B', hv', q2, _⟩ := Ok.slot (τ := τ) (T := T) (σ := σ) (env := e1) ok2 hl ex
      rw [hv] at hv'
      cases hv'
      cases e : dgetO x y with
      | none => rw [e] at post1; exact post1.elim
      | some z =>
        rw [e] at post1
        obtain ⟨a, w, rfl, g, d, rfl, qd⟩ := dgetO_ok ok2 q2 q1 e
        exact ⟨a, w, rfl, g, post1 w H1 Z1 _ (Same.refl Z1) (ok2.pure qd)⟩
    · exact post1.elim
  · exact post.elim
end
section
variable {X : Cx} {E : XK} {io : Nat → Bool} {i : Nat} {a b : Expr} {mb : M O} {pos : Pos}
theorem v_dgetAt (hu : X.A.units + 1 < cLine) (ha : PE X a (tVar i)) (hb : VE X E b mb) (hs : NoSl b) : VE X E (.Subscript a b pos) (eDGetAt i mb) := (pe_dget hu ha hb hs).weak fun _ _ _ => dgetAt_imp
end
section
variable {K : PySem.W.Frag} {E : XK} {Z Z' H H' : Hp} {σ σ' σ1 τ ρ : St} {env env' T R : Env} {F G : Fp} {Q Q' : VK} {v : V} {o : O} {d : D} {io : Nat → Bool}
/-! name[k] = v, the value frozen -/
def putKO (kvs : List (D × O)) (k : L2.Key) (d : D) : List (D × O) := if (kvs.any fun kv => kIs k kv.1) = true then kvs.map (fun kv => if kIs k kv.1 = true then (kv.1, .pu d) else kv) else kvs ++ [(keyD k, .pu d)]
theorem any_key {k : L2.Key} : ∀ {ws : List (L2.Key × V)} {kvs : List (D × O)} {A : Fp}, RepOk K Z H ws kvs A → (ws.any fun kv => decide (kv.1 = k)) = kvs.any fun kv => kIs k kv.1
  | _, _, _, .nil => rfl
  | _, _, _, .cons (k := k') q r i => by simp only [List.any_cons]; rw [any_key r, kIs_key]
theorem RepOk.mapPut {k : L2.Key} (qv : Rep K Z v d) : ∀ {ws : List (L2.Key × V)} {kvs : List (D × O)} {A : Fp}, RepOk K Z H ws kvs A → RepOk K Z H (ws.map fun kv => if kv.1 = k then (kv.1, v) else kv) (kvs.map fun kv => if kIs k kv.1 = true then (kv.1, .pu d) else kv) A
  | _, _, _, .nil => .nil
  | _, _, A, .cons (k := k') (F1 := A1) (F2 := A2) q r i => by
    simp only [List.map_cons]
    by_cases hk : k' = k
    · have hc : kIs k (keyD k') = true := by rw [kIs_key]; simpa using hk
      rw [if_pos hk, if_pos hc]
      exact .cons (F1 := A1) (.pu qv) (RepOk.mapPut qv r) i
    · have hc : ¬ kIs k (keyD k') = true := by rw [kIs_key]; simpa using hk
      rw [if_neg hk, if_neg hc]
      exact .cons q (RepOk.mapPut qv r) i
theorem RepOk.snoc {k : L2.Key} (qv : Rep K Z v d) : ∀ {ws : List (L2.Key × V)} {kvs : List (D × O)} {A : Fp}, RepOk K Z H ws kvs A → RepOk K Z H (ws ++ [(k, v)]) (kvs ++ [(keyD k, .pu d)]) A
  | _, _, A, .nil => .cons (F1 := fun _ => 0) (F2 := fun _ => 0) (.pu qv) .nil fun b => Nat.zero_le _
  | _, _, A, .cons q r i => .cons q (RepOk.snoc qv r) i
theorem RepOk.put {k : L2.Key} (qv : Rep K Z v d) {ws : List (L2.Key × V)} {kvs : List (D × O)} {A : Fp} (r : RepOk K Z H ws kvs A) : RepOk K Z H (putK ws k v) (putKO kvs k d) A := by
  unfold putK putKO
  rw [any_key r]
  by_cases h : (kvs.any fun kv => kIs k kv.1) = true
  · rw [if_pos h, if_pos h]; exact RepOk.mapPut qv r
  · rw [if_neg h, if_neg h]; exact RepOk.snoc qv r
theorem RepOk.length : ∀ {ws : List (L2.Key × V)} {kvs : List (D × O)} {A : Fp}, RepOk K Z H ws kvs A → ws.length = kvs.length
  | _, _, _, .nil => rfl
  | _, _, _, .cons _ r _ => by simp [r.length]
def dputK (i : Nat) (v : D) : O → Env → Out Fl := fun y e => match e[i]?, y with
  | some (some (.di kvs)), .pu yd => (match dKey yd with
    | some k => if kvs.length < 100000 then .ok .nx (e.set i (some (.di (putKO kvs k v)))) else .no
    | none => .no)
  | _, _ => .no
def sDPut (i : Nat) (mk mv : M O) : M Fl := fun env => (mv env).bind fun x e1 => match e1[i]? with
  | some (some (.di _)) => (mk e1).bind (dputK i x.toD)
  | _ => .no
@[simp] theorem sDPut.c (i : Nat) (mk mv : M O) {z : Option O} {zs : Env} : sDPut i mk mv (z :: zs) = ((mv (z :: zs)).bind fun x e1 => match e1[i]? with
  | some (some (.di _)) => (mk e1).bind (dputK i x.toD)
  | _ => .no) := rfl
theorem dput_imp {mv mk : M O} {i : Nat} {D : Ends} {σ : St} {H : Hp} (h : tS K E io (sDPut i mk mv) D σ H) : L2.sDPut (tVar i) (tE K E mk) (tE K E mv) D σ H := by
  obtain ⟨Z, τ, T, env, F, ok, hl, post⟩ := h
  refine ⟨Z, τ, T, env, F, ok, hl, (stepES (ρ := []) (R := []) rfl post).imp fun v H1 ⟨Z0, F0, x, e1, s0, ok0, post1⟩ => ?_⟩
  obtain ⟨Z1, F1, s1, ok1⟩ := ok0.freeze
  have post1 := PostS.mono s1 post1
  split at post1
  · rename_i kv0 ex0
    obtain ⟨x0, A0, B0, hv0, q0, _⟩ := Ok.slot (τ := some v :: τ) (T := some (.pu x.toD) :: T) (σ := σ) (env := e1) ok1 (by simp [hl]) ex0
    refine ⟨x0, hv0, Z1, some v :: τ, some (.pu x.toD) :: T, e1, F1, ok1, by simp [hl], (stepES (ρ := [some v]) (R := [some (.pu x.toD)]) rfl post1).imp fun u H2 ⟨Z2, F2, y, e2, s2, ok2, post2⟩ => ?_⟩
    obtain ⟨_, A, B, e3, qy, ok3, i3⟩ := ok2.top
    cases e3
    obtain ⟨_, A', B', e4, qx, ok4, i4⟩ := ok3.top
    cases e4
    unfold dputK at post2
    split at post2
    · rename_i kvs yd ex
      split at post2
      · rename_i k ek
        split at post2
        · rename_i hz
          obtain ⟨w, A2, B2, hw, qd, i5, r, put⟩ := Ok.slot (τ := τ) (T := T) (σ := σ) (env := e2) ok4 hl ex
          rw [hv0] at hw
          cases hw
          cases qd with
          | @di a ws _ A3 _ ha rk j =>
            cases qx with
            | pu qx =>
              cases qy with
              | pu qy =>
                have hu := dKey_rep qy ek
                have na : ∀ b, 0 < B2 b → b ≠ a := fun b w x => by subst x; have := j b; rw [one_self] at this; have := i5 b; have := ok4.le b; omega
                have na3 : ∀ b, 0 < A3 b → b ≠ a := fun b w x => by subst x; have := j b; rw [one_self] at this; have := i5 b; have := ok4.le b; omega
                have kp : ∀ b, b ≠ a → upd H2 a (.dK (putK ws k v)) b = H2 b := fun b h => upd_ne h
                refine ⟨a, _, rfl, hu ▸ DPut.k ha (Nat.lt_of_lt_of_le (by rw [rk.length]; exact hz) (by decide)), ?_⟩
                have pt := put (Z' := Z2) (H' := upd H2 a (.dK (putK ws k v))) (v' := .ref a) (o' := .di (putKO kvs k x.toD)) (F1' := fun b => one a b + A3 b) (G := fun b => one a b + A3 b + B2 b) Le.refl (fun b w => kp b (na b w))
                  (.di upd_same (RepOk.mono Le.refl (RepOk.put qx rk) (fun b w => kp b (na3 b w)) fun b => Nat.le_refl _) fun b => Nat.le_refl _) fun b => Nat.le_refl _
                rw [set_self hv0] at pt
                refine post2 σ _ Z2 (fun b => one a b + A3 b + B2 b) (Same.refl Z2) (Pin.refl σ) ⟨fun b u ub => ?_, pt, fun b => by have := j b; have := i5 b; have := ok4.le b; show one a b + A3 b + B2 b ≤ 1; omega, fun b w => ok4.own b (by have := j b; have := i5 b; have w : 0 < one a b + A3 b + B2 b := w; omega), fun b w => ?_⟩
                · have : b ≠ a := fun x => by
                    subst x
                    have := ok4.own b (by have := i5 b; have := j b; rw [one_self] at this; omega)
                    rw [this] at ub; cases ub
                  rw [kp b this]
                  exact ok4.sub b u ub
                · by_cases x : b = a
                  · rw [x, upd_same]; simp
                  · rw [kp b x]
                    exact ok4.there b (by have := j b; have := i5 b; have w : 0 < one a b + A3 b + B2 b := w; omega)
        · exact post2.elim
      · exact post2.elim
    · exact post2.elim
  · exact post1.elim
end
section
variable {X : Cx} {E : XK} {io : Nat → Bool} {i : Nat} {a b value : Expr} {mb mv : M O} {pos pos' : Pos}
theorem s_dput (hu : X.A.units + 1 < cLine) (ha : PE X a (tVar i)) (hb : VE X E0 b mb) (hv : VE X E0 value mv) (hs : swapsWith value (some (.Subscript a b pos')) pos.line X.env = Pure.pure false := by rfl) : VS X E0 io (.Assign [.Subscript a b pos'] value pos) (sDPut i mb mv) :=
  (ps_dput hu ha hb hv hs).weak fun _ _ _ => dput_imp
end
end Ws

namespace Ws
open PySem L2
section
variable {K : PySem.W.Frag} {E : XK} {Z Z' H H' : Hp} {σ σ' σ1 τ ρ : St} {env env' T R : Env} {F G : Fp} {Q Q' : VK} {v : V} {o : O} {d : D} {io : Nat → Bool}
/-! ### dict(name) of a dict of frozen things -/
@[simp] def allPk : List (D × O) → Option (List (D × D))
  | [] => some []
  | (k, .pu d) :: xs => (allPk xs).map ((k, d) :: ·)
  | _ :: _ => none
theorem allPk_ok : ∀ {kvs : List (D × O)} {ds : List (D × D)} {ws : List (L2.Key × V)} {F : Fp}, RepOk K Z H ws kvs F → allPk kvs = some ds → RepKs K Z ws ds
  | _, _, _, _, .nil, e => by cases e; exact .nil
  | _, _, _, _, .cons (o := o) q r _, e => by
    cases o with
    | pu d =>
      obtain ⟨es, e1, rfl⟩ := map_some (show (allPk _).map ((_, d) :: ·) = some _ from e)
      cases q with
      | pu q => exact .cons q (allPk_ok r e1)
    | _ => cases e
theorem RepKs.own {H : Hp} : ∀ {ws : List (L2.Key × V)} {ds : List (D × D)}, RepKs K Z ws ds → RepOk K Z H ws (ds.map fun p => (p.1, .pu p.2)) (fun _ => 0)
  | _, _, .nil => .nil
  | _, _, .cons q r => .cons (F1 := fun _ => 0) (F2 := fun _ => 0) (.pu q) (RepKs.own r) fun _ => Nat.le_refl _
theorem Ok.newDf {ws : List (L2.Key × V)} {kvs : List (D × O)} (ok : Ok K Z H σ env F) (r : RepOk K Z H ws kvs (fun _ => 0)) {p : Addr} (hp : H p = none) : Ok K Z (upd H p (.dK ws)) (some (.ref p) :: σ) (some (.di kvs) :: env) (fun b => one p b + F b) := by
  have np : F p = 0 := by
    rcases Nat.eq_zero_or_pos (F p) with z | z
    · exact z
    · exact absurd hp (ok.there p z)
  have kp := ok.same (Same.upd (u := .dK ws) hp)
  refine ⟨kp.sub, .so (F1 := one p) (F2 := F) (.di (F := fun _ => 0) upd_same (RepOk.mono Le.refl r (fun b w => absurd w (by simp)) fun b => Nat.le_refl _) fun b => Nat.le_refl (one p b + 0)) kp.sl fun b => Nat.le_refl _, fun b => ?_, fun b z => ?_, fun b z => ?_⟩
  · show one p b + F b ≤ 1
    unfold one
    by_cases w : b = p
    · rw [if_pos w, w, np]
      exact Nat.le_refl _
    · rw [if_neg w]; have := ok.le b; omega
  · by_cases w : b = p
    · rw [w]; exact ok.sub.none hp
    · have z : 0 < one p b + F b := z
      unfold one at z
      rw [if_neg w] at z
      exact ok.own b (by omega)
  · by_cases w : b = p
    · rw [w, upd_same]; simp
    · rw [upd_ne w]
      have z : 0 < one p b + F b := z
      unfold one at z
      rw [if_neg w] at z
      exact ok.there b (by omega)
@[simp] def O.dis : O → Option (List (D × D))
  | .di kvs => allPk kvs
  | .pu (.dct kvs) => some kvs
  | _ => none
def dcpK : Option (List (D × D)) → Env → Out O
  | some kvs, e => .ok (.di (kvs.map fun p => (p.1, .pu p.2))) e
  | none, _ => .no
@[simp] theorem dcpK_some (kvs : List (D × D)) (e : Env) : dcpK (some kvs) e = .ok (.di (kvs.map fun p => (p.1, .pu p.2))) e := rfl
def eDictAt (i : Nat) : M O := fun env => match env[i]? with
  | some (some x) => dcpK x.dis env
  | _ => .no
@[simp] theorem eDictAt.c (i : Nat) {z : Option O} {zs : Env} : eDictAt i (z :: zs) = (match (z :: zs)[i]? with
  | some (some x) => dcpK x.dis (z :: zs)
  | _ => .no) := rfl
def rDictC (K : PySem.W.Frag) : List V → Hp → VK → Prop := fun xs H Q => ∃ (a : Addr) (kvs : List (L2.Key × V)), xs = [.ref a] ∧ Rd H a (.dK kvs) ∧ ∀ p, H p = none → Q (.ref p) (upd H p (.dK kvs))
theorem dictAt_imp {i : Nat} {σ : St} {H : Hp} {Q : VK} (q : tE K E (eDictAt i) σ H Q) : tCB (rDictC K) (tCons (tVar i) tNil) σ H Q := by
  obtain ⟨Z, τ, T, env, F, ok, hl, post⟩ := q
  unfold eDictAt at post
  split at post
  · rename_i x ex
    obtain ⟨v, A, B, hv, q1, i1, _⟩ := ok.slot hl ex
    refine ⟨v, hv, ?_⟩
    cases e : x.dis with
    | none => rw [e] at post; exact post.elim
    | some ds =>
      rw [e] at post
      cases q1 with
      | di ha r j =>
        exact ⟨_, _, rfl, .inl ha, fun p hp => post _ _ Z _ (Same.refl Z) (ok.newDf (allPk_ok r e).own hp)⟩
      | @pu _ d _ q1 =>
        cases d with
        | dct kvs =>
          cases e
          cases q1 with
          | dct ha r => exact ⟨_, _, rfl, (ok.sub.le (K := K)).d _ _ ha, fun p hp => post _ _ Z _ (Same.refl Z) (ok.newDf r.own hp)⟩
        | _ => cases e
      | _ => cases e
  · exact post.elim
end
section
variable {X : Cx} {E : XK} {i : Nat} {e : Expr} {x : Str} {p1 pos : Pos}
theorem v_dictAt (hm : X.mg x = none) (hv : bootBuiltins x = some (.type "dict")) (ha : PE X e (tVar i)) (hg : Gl X x := by rfl) (hn : x ≠ "__name__" := by decide) (hdb : (x == ("__debug__" : Str)) = false := by decide)
    (he : starEach (e :: []) X.env = (false, eval e X.env) :: starEach [] X.env := by rfl) (hpl : (backTo pos (starEach [] X.env)).any (·.1) = false := by rfl) : VE X E (.Call (.Name x p1) [e] [] pos) (eDictAt i) :=
  (pe_callTy call_dictD hg hm hv (pa_cons ha pa_nil he) hn hdb he hpl).weak fun _ _ _ => dictAt_imp
end
/-! ### a dict of the module, text keys -/
section
/-- the name x of the module is a dict of these -/
structure GlobM (K : PySem.W.Frag) (w : World) (mg : Str → Option Value) (x : Str) (kvs : List (D × D)) : Prop where
  ex : ∃ (a : Addr) (es : Array DictEntry) (n : Nat), mg x = some (.ref a) ∧ KDict K w a es n ∧ ∀ z : Str, match getK kvs (.inr z) with
    | some d => ∃ (u : Value) (v : V), PySem.W.nsIn K a z = some (some u) ∧ RelV v u ∧ ∀ Z, Rep K Z v d
    | none => PySem.W.nsIn K a z = some none
@[simp] def mgetD (kvs : List (D × D)) : D → Option D
  | .str z => getK kvs (.inr z)
  | _ => none
@[simp] def minD (neg : Bool) (kvs : List (D × D)) : D → Option D
  | .str z => some (.bl (if neg then !(getK kvs (.inr z)).isSome else (getK kvs (.inr z)).isSome))
  | _ => none
def unD (f : D → Option D) : O → Option O := fun x => (f x.toD).map .pu
@[simp] theorem unD_def (f : D → Option D) (x : O) : unD f x = (f x.toD).map .pu := rfl
/-- a reading operation of one value -/
def UnS (K : PySem.W.Frag) (f : D → Option D) (r : V → Hp → VK → Prop) : Prop := ∀ (H : Hp) (v : V) (x z : D) (Q : VK), Rep K H v x → f x = some z → (∀ w, (∀ Z, Rep K Z w z) → Q w H) → r v H Q
theorem UnS.unv {K : PySem.W.Frag} {f : D → Option D} {r : V → Hp → VK → Prop} (h : UnS K f r) : UnV K (unD f) r := by
  intro Z H σ env F v x z Q ok e k
  obtain ⟨d, e1, rfl⟩ := map_some e
  obtain ⟨_, A, B, e2, q1, ok1, i1⟩ := ok.top
  cases e2
  exact h H v _ d Q (ok.rep q1) e1 fun w hw => k w H Z _ (Same.refl Z) (ok1.pure (hw Z))
variable {X : Cx} {E : XK} {x : Str} {kvs : List (D × D)} {p pos : Pos} {b : Expr} {mb : M O}
theorem v_getM (h : GlobM X.K X.w X.mg x kvs) (hb : VE X E b mb) (hs : PlainIx b) (hg : Gl X x := by rfl) (hd : (x == ("__debug__" : Str)) = false := by decide) : VE X E (.Subscript (.Name x p) b pos) (eUn (unD (mgetD kvs)) mb) := by
  obtain ⟨a, es, n, hm, D, all⟩ := h.ex
  refine (pe_ix ix_kdict (pe_glob hg hm (v := .ref a) rfl hd) hb hs).weak fun σ H Q q => ?_
  have hv : UnS X.K (mgetD kvs) (fun y H Q => rIxD X.K X.w (.ref a) y H Q) := by
    intro H v y z Q q e k
    cases q with
    | str t =>
      have := all t
      rw [show getK kvs (.inr t) = some z from e] at this
      obtain ⟨u, w, h1, h2, h3⟩ := this
      exact ⟨a, t, w, rfl, rfl, ⟨es, n, u, D.at_, D.lit, h1, h2⟩, k w h3⟩
    | _ => cases e
  exact un_imp hv.unv q
theorem inM_imp {a : Addr} {es : Array DictEntry} {n : Nat} {neg : Bool} (D : KDict X.K X.w a es n) (all : ∀ z : Str, match getK kvs (.inr z) with
    | some d => ∃ (u : Value) (v : V), PySem.W.nsIn X.K a z = some (some u) ∧ RelV v u ∧ ∀ Z, Rep X.K Z v d
    | none => PySem.W.nsIn X.K a z = some none) : UnS X.K (minD neg kvs) (fun y H Q => ∃ (z : Str) (r : Option Value), y = .str z ∧ V.ref a = .ref a ∧ PySem.W.nsIn X.K a z = some r ∧ Q (.bl (if neg then !r.isSome else r.isSome)) H) := by
  intro H v y z Q q e k
  cases q with
  | str t =>
    have := all t
    cases hk : getK kvs (.inr t) with
    | some d =>
      rw [hk] at this
      obtain ⟨u, w, h1, h2, h3⟩ := this
      simp only [minD, hk] at e
      cases e
      exact ⟨t, _, rfl, rfl, h1, k _ fun _ => by cases neg <;> exact .bl _⟩
    | none =>
      rw [hk] at this
      simp only [minD, hk] at e
      cases e
      exact ⟨t, _, rfl, rfl, this, k _ fun _ => by cases neg <;> exact .bl _⟩
  | _ => cases e
theorem opM_imp {a : Addr} {r : R2} {f : D → Option D} (hv : UnS X.K f (fun y H Q => r y (.ref a) H Q)) {σ : St} {H : Hp} {Q : VK} (q : tE X.K E (eUn (unD f) mb) σ H Q) : tOp r (tE X.K E mb) (tC (.ref a)) σ H Q := un_imp hv.unv q
theorem v_inM (h : GlobM X.K X.w X.mg x kvs) (hb : VE X E b mb) (hm0 : behindInMarks .In (.Name x p) = false) (hg : Gl X x := by rfl) (hd : (x == ("__debug__" : Str)) = false := by decide) : VE X E (.Compare b [.In] [.Name x p] pos) (eUn (unD (minD false kvs)) mb) := by
  obtain ⟨a, es, n, hm, D, all⟩ := h.ex
  refine (pe_cmpR (op_in_kd D) hb (pe_glob hg hm (v := .ref a) rfl hd) hm0).weak fun σ H Q q => opM_imp ?_ q
  intro H v y z Q q e k
  obtain ⟨z', r, h1, _, h3, h4⟩ := inM_imp (neg := false) D all H v y z Q q e k
  exact ⟨z', r, h1, rfl, h3, h4⟩
theorem v_notInM (h : GlobM X.K X.w X.mg x kvs) (hb : VE X E b mb) (hm0 : behindInMarks .NotIn (.Name x p) = false) (hg : Gl X x := by rfl) (hd : (x == ("__debug__" : Str)) = false := by decide) : VE X E (.Compare b [.NotIn] [.Name x p] pos) (eUn (unD (minD true kvs)) mb) := by
  obtain ⟨a, es, n, hm, D, all⟩ := h.ex
  refine (pe_cmpR (op_notIn_kd D) hb (pe_glob hg hm (v := .ref a) rfl hd) hm0).weak fun σ H Q q => opM_imp ?_ q
  intro H v y z Q q e k
  obtain ⟨z', r, h1, _, h3, h4⟩ := inM_imp (neg := true) D all H v y z Q q e k
  exact ⟨z', r, h1, rfl, h3, h4⟩
theorem t_inM (h : GlobM X.K X.w X.mg x kvs) (hb : VE X E b mb) (hm0 : behindInMarks .In (.Name x p) = false) (hg : Gl X x := by rfl) (hd : (x == ("__debug__" : Str)) = false := by decide) : VT X E (.Compare b [.In] [.Name x p] pos) (eTst (eUn (unD (minD false kvs)) mb)) := by
  obtain ⟨a, es, n, hm, D, all⟩ := h.ex
  refine (pt_cmpR (op_in_kd D) hb (pe_glob hg hm (v := .ref a) rfl hd) hm0).weak fun σ H Q q => tst_imp (fun σ H Q q => opM_imp ?_ q) q
  intro H v y z Q q e k
  obtain ⟨z', r, h1, _, h3, h4⟩ := inM_imp (neg := false) D all H v y z Q q e k
  exact ⟨z', r, h1, rfl, h3, h4⟩
theorem t_notInM (h : GlobM X.K X.w X.mg x kvs) (hb : VE X E b mb) (hm0 : behindInMarks .NotIn (.Name x p) = false) (hg : Gl X x := by rfl) (hd : (x == ("__debug__" : Str)) = false := by decide) : VT X E (.Compare b [.NotIn] [.Name x p] pos) (eTst (eUn (unD (minD true kvs)) mb)) := by
  obtain ⟨a, es, n, hm, D, all⟩ := h.ex
  refine (pt_cmpR (op_notIn_kd D) hb (pe_glob hg hm (v := .ref a) rfl hd) hm0).weak fun σ H Q q => tst_imp (fun σ H Q q => opM_imp ?_ q) q
  intro H v y z Q q e k
  obtain ⟨z', r, h1, _, h3, h4⟩ := inM_imp (neg := true) D all H v y z Q q e k
  exact ⟨z', r, h1, rfl, h3, h4⟩
end
end Ws

namespace Ws
open PySem L2
section
variable {K : PySem.W.Frag} {E : XK} {Z Z' H H' : Hp} {σ σ' σ1 τ ρ : St} {env env' T R : Env} {F G : Fp} {Q Q' : VK} {v : V} {o : O} {d : D} {io : Nat → Bool}
/-! ### {k: v, ..} with keys written out -/
theorem mergeK_nodup : ∀ (more kvs : List (L2.Key × V)), ((kvs ++ more).map (·.1)).Nodup → mergeK kvs more = kvs ++ more
  | [], kvs, _ => by simp [mergeK]
  | p :: r, kvs, h => by
    have hn : (kvs.any fun kv => decide (kv.1 = p.1)) = false := by
      rw [Bool.eq_false_iff]
      intro hc
      obtain ⟨q, hq, e⟩ := List.any_eq_true.mp hc
      have e : q.1 = p.1 := of_decide_eq_true e
      simp only [List.map_append, List.map_cons] at h
      have := (List.nodup_append.mp h).2.2 q.1 (List.mem_map_of_mem hq) p.1 (by simp)
      exact this e
    have e : putK kvs p.1 p.2 = kvs ++ [p] := by unfold putK; rw [hn]; rfl
    show mergeK (putK kvs p.1 p.2) r = _
    rw [e, mergeK_nodup r (kvs ++ [p]) (by simpa using h)]
    simp
theorem RepOk.zip : ∀ {ks : List L2.Key} {us : List V} {ys : List O} {A : Fp}, RepOs K Z H us ys A → RepOk K Z H (ks.zip us) ((ks.map keyD).zip ys) A
  | [], _, _, _, _ => .nil
  | _ :: _, _, _, _, .nil => .nil
  | k :: ks, _, _, _, .cons q r i => .cons q (RepOk.zip r) i
def dispK (ks : List L2.Key) : List O → Env → Out O := fun os e => if os.length = ks.length then .ok (.di ((ks.map keyD).zip os)) e else .no
@[simp] theorem dispK_def (ks : List L2.Key) (os : List O) (e : Env) : dispK ks os e = if os.length = ks.length then .ok (.di ((ks.map keyD).zip os)) e else .no := rfl
def eDisp (ks : List L2.Key) (ms : M (List O)) : M O := fun env => (ms env).bind (dispK ks)
@[simp] theorem eDisp.c (ks : List L2.Key) (ms : M (List O)) {z : Option O} {zs : Env} : eDisp ks ms (z :: zs) = ((ms (z :: zs)).bind (dispK ks)) := rfl
@[simp] theorem eDisp.n (ks : List L2.Key) (ms : M (List O)) : eDisp ks ms ([] : Env) = ((ms ([] : Env)).bind (dispK ks)) := rfl
theorem zip_map_fst : ∀ (ks : List L2.Key) (us : List V), us.length = ks.length → (ks.zip us).map (·.1) = ks
  | [], _, _ => rfl
  | k :: ks, [], h => by cases h
  | k :: ks, u :: us, h => by simp [zip_map_fst ks us (by simpa using h)]
theorem zip_kv : ∀ (ks : List L2.Key) (us : List V), (ks.map kV).zip us = (ks.zip us).map fun kv => (kV kv.1, kv.2)
  | [], _ => rfl
  | k :: ks, [] => rfl
  | k :: ks, u :: us => by simp [zip_kv ks us]
theorem disp_imp {ks : List L2.Key} {ms : M (List O)} {li : List (Option Nat)} {trs : List (TE × TE)} (hp : ∀ (σ : St) (H : Hp) (Q : List (V × V) → Hp → Prop), tL K E li ms σ H (fun vs H' => Q ((ks.map kV).zip vs) H') → tPairs trs σ H Q) (nd : ks.Nodup) (hl15 : ks.length ≤ 15)
    {σ : St} {H : Hp} {Q : VK} (h : tE K E (eDisp ks ms) σ H Q) : tDisp trs σ H Q := by
  obtain ⟨Z, τ, T, env, F, ok, hl, post⟩ := h
  intro p hpn
  have ok0 := ok.newD hpn
  refine hp σ _ _ ⟨Z, some (.ref p) :: τ, some (.di []) :: T, env, _, ok0, by simp [hl], (stepL (ρ := [some (.ref p)]) (R := [some (.di [])]) rfl post).imp fun us H2 ⟨Z2, F2, ys, e2, s2, l2, _, ok2, post2⟩ => ?_⟩
  unfold dispK at post2
  split at post2
  · rename_i hlen
    obtain ⟨A, B, qs, rs, i⟩ := slots_args (σ := some (.ref p) :: (τ ++ σ)) (env := some (.di []) :: (T ++ e2)) l2 ok2
    have ok3 : Ok K Z2 H2 (some (.ref p) :: (τ ++ σ)) (some (.di []) :: (T ++ e2)) B := ok2.dn rs fun b => by have := i b; omega
    obtain ⟨_, A2, B2, e3, qd, ok4, i2⟩ := ok3.top
    cases e3
    cases qd with
    | @di _ ws _ A3 _ ha r j =>
      cases r
      have hus : us.length = ks.length := l2.trans hlen
      have np : ∀ b, 0 < A b → b ≠ p := fun b w x => by subst x; have := j b; rw [one_self] at this; have := i b; have := i2 b; have := ok2.le b; omega
      have nB : ∀ b, 0 < B2 b → b ≠ p := fun b w x => by subst x; have := j b; rw [one_self] at this; have := i b; have := i2 b; have := ok2.le b; omega
      have kp : ∀ b, b ≠ p → upd H2 p (.dK (ks.zip us)) b = H2 b := fun b h => upd_ne h
      refine ⟨ha, ks.zip us, zip_kv ks us, by rw [List.length_zip]; omega, ?_⟩
      rw [mergeK_nodup (ks.zip us) [] (by rw [List.nil_append, zip_map_fst ks us hus]; exact nd), List.nil_append]
      have own : ∀ b, one p b + A b + B2 b ≤ F2 b := fun b => by have := j b; have := i b; have := i2 b; omega
      refine post2 _ _ Z2 (fun b => one p b + A b + B2 b) (Same.refl Z2) ⟨fun b u ub => ?_, .so (F1 := fun b => one p b + A b) (F2 := B2) (.di upd_same (RepOk.mono Le.refl (RepOk.zip qs) (fun b w => kp b (np b w)) fun b => Nat.le_refl _) fun b => Nat.le_refl _) (ok4.sl.mono Le.refl (fun b w => kp b (nB b w)) fun b => Nat.le_refl _) fun b => Nat.le_refl _, fun b => by have := own b; have := ok2.le b; show one p b + A b + B2 b ≤ 1; omega, fun b w => ok2.own b (by have := own b; have w : 0 < one p b + A b + B2 b := w; omega), fun b w => ?_⟩
      · have : b ≠ p := fun x => by
          subst x
          have := ok2.own b (by have := own b; rw [one_self] at this; omega)
          rw [this] at ub; cases ub
        rw [kp b this]
        exact ok2.sub b u ub
      · by_cases x : b = p
        · rw [x, upd_same]; simp
        · rw [kp b x]
          exact ok2.there b (by have := own b; have w : 0 < one p b + A b + B2 b := w; omega)
  · exact post2.elim
end
section
variable {X : Cx} {E : XK} {pos p2 : Pos} {keys : List (Option Expr)} {values : List Expr} {ks : List L2.Key} {li : List (Option Nat)} {ms : M (List O)} {m : M O} {e : Expr} {x y : Str} {j : Nat}
structure VPP (X : Cx) (E : XK) (pos : Pos) (keys : List (Option Expr)) (values : List Expr) (ks : List L2.Key) (li : List (Option Nat)) (ms : M (List O)) : Prop where
  ex : ∃ trs, PPs X pos keys values trs ∧ keys.all (·.isSome) = true ∧ keys.length = values.length ∧ keys.length = ks.length ∧ ∀ (σ : St) (H : Hp) (Q : List (V × V) → Hp → Prop), tL X.K E li ms σ H (fun vs H' => Q ((ks.map kV).zip vs) H') → tPairs trs σ H Q
theorem pp_nil : VPP X E pos [] [] [] [] nilA := ⟨[], pps_nil, rfl, rfl, rfl, fun σ H Q q => nil_imp q⟩
theorem pp_cons (h : x = y) (hv : VE X E e m) (hr : VPP X E pos keys values ks li ms) : VPP X E pos (some (.Constant (.str x) j p2) :: keys) (e :: values) (.inr y :: ks) (none :: li) (consA m ms) := by
  subst h
  obtain ⟨trs, a, b, c, d, f⟩ := hr.ex
  refine ⟨_, pps_cons pe_str hv a, by simpa using b, by simp [c], by simp [d], fun σ H Q q => ?_⟩
  obtain ⟨Z, τ, T, env, F, ok, hl, post⟩ := cons_imp q
  exact ⟨Z, τ, T, env, F, ok, hl, post.imp fun v H1 q => f σ H1 _ q⟩
theorem v_disp (h : VPP X E pos keys values ks li ms) (nd : ks.Nodup) (h0 : keys ≠ [] := by simp) (h15 : ks.length ≤ 15 := by decide) : VE X E (.Dict keys values pos) (eDisp ks ms) := by
  obtain ⟨trs, a, b, c, d, f⟩ := h.ex
  exact (pe_disp a b c h0 (by rw [d]; exact h15)).weak fun _ _ _ => disp_imp f nd h15
end
end Ws

namespace Ws
open PySem L2
/-! ### zip of any two of list and tuple -/
def itAt (t : Bool) (h : Heap) (it a : Addr) (i : Nat) : Prop := match t with
  | true => h.IsTupleIter it a i
  | false => h.IsListIter it a i
def seqAt (t : Bool) (h : Heap) (a : Addr) (items : Array Value) : Prop := match t with
  | true => h.IsTuple a items
  | false => h.IsList a items
def SqB (K : PySem.W.Frag) (H : Hp) (t : Bool) (a : Addr) (xs : List V) : Prop := match t with
  | true => SqT K H a xs
  | false => SqL K H a xs
def itObj (t : Bool) (a : Addr) : Obj := match t with
  | true => { cls := .type "tuple_iterator", data := .fields #[.ref a, .int 0 0] }
  | false => { cls := .type "list_iterator", data := .fields #[.ref a, .int 0 0] }
theorem draws_of {prog : Program} {w : World} {A : Around} (hh : A.handled = none) (t : Bool) (it a : Addr) (hne : a ≠ it) (items : Array Value) :
    Draws prog w A it [it, a] items.size (fun i v => items[i]? = some v) (fun i h => itAt t h it a i ∧ seqAt t h a items) := by
  cases t with
  | true => exact Draws.tuple hh it a hne items
  | false => exact Draws.list hh it a hne items
theorem begins_of (t : Bool) (a : Addr) (items : Array Value) : Begins (.ref a) (itObj t a) (fun h => seqAt t h a items) := by
  cases t with
  | true => exact begins_tuple a items
  | false => exact begins_list a items
theorem itAt.obj {t : Bool} {h : Heap} {it a : Addr} {i : Nat} (x : itAt t h it a i) : ∃ o, h.get? it = some o ∧ ∀ v, o.data ≠ .cell v := by
  cases t with
  | true => obtain ⟨o, e, _, d⟩ := x; exact ⟨o, e, fun v q => by rw [d] at q; cases q⟩
  | false => obtain ⟨o, e, _, d⟩ := x; exact ⟨o, e, fun v q => by rw [d] at q; cases q⟩
theorem itAt.at {t : Bool} {h h' : Heap} {it a : Addr} {i : Nat} (x : itAt t h it a i) (k : ∀ o, h.get? it = some o → h'.get? it = some o) : itAt t h' it a i := by
  cases t with
  | true => exact Heap.IsTupleIter.at x k
  | false => exact Heap.IsListIter.at x k
theorem itAt.start {t : Bool} {h : Heap} {it a : Addr} (e : h.get? it = some (itObj t a)) : itAt t h it a 0 := by
  cases t with
  | true => exact ⟨_, e, rfl, rfl⟩
  | false => exact ⟨_, e, rfl, rfl⟩
theorem SqB.seq {X : Cx} {pins : List (Addr × Obj)} {σ : L2.St} {H : Hp} {s : Shared} {t : Bool} {a : Addr} {xs : List V} (I : Inv X pins σ H s) (h : SqB X.K H t a xs) : ∃ its : List Value, Vals xs its ∧ seqAt t s.heap a its.toArray := by
  cases t with
  | true => obtain ⟨its, r, p, _⟩ := I.tuple h; exact ⟨its, r, p⟩
  | false => obtain ⟨its, r, p, _⟩ := I.list h; exact ⟨its, r, p.isList⟩
theorem SqB.inj {X : Cx} {pins : List (Addr × Obj)} {σ : L2.St} {H : Hp} {s : Shared} {t : Bool} {a : Addr} {xs ys : List V} (I : Inv X pins σ H s) (h : SqB X.K H t a xs) (g : SqB X.K H t a ys) : xs = ys := by
  cases t with
  | true => exact I.tuple_inj h g
  | false => exact I.list_inj h g
theorem seqAt.lt {t : Bool} {h : Heap} {a : Addr} {items : Array Value} (x : seqAt t h a items) : a < h.objs.size := by
  cases t with
  | true => obtain ⟨o, e, _⟩ := x; exact Heap.lt_size e
  | false => obtain ⟨o, e, _⟩ := x; exact Heap.lt_size e
def ItzB (K : PySem.W.Frag) (t1 t2 : Bool) (a b : Addr) : It :=
  ⟨fun i H => ∃ (xs ys : List V) (x y : V), SqB K H t1 a xs ∧ SqB K H t2 b ys ∧ xs[i]? = some x ∧ ys[i]? = some y,
    fun i H v H' => ∃ T x y, v = .ref T ∧ H T = none ∧ H' = upd H T (.tup [x, y]) ∧ (∀ xs, SqB K H t1 a xs → xs[i]? = some x) ∧ ∀ ys, SqB K H t2 b ys → ys[i]? = some y,
    fun i H => ∃ xs ys : List V, SqB K H t1 a xs ∧ SqB K H t2 b ys ∧ i ≤ xs.length ∧ i ≤ ys.length ∧ (i = xs.length ∨ i = ys.length)⟩
theorem turn_zipB {P : Program} {w : World} {K : PySem.W.Frag} {elts : List Expr} {kk : Nat} {tpos : Pos} {t1 t2 : Bool} {a b z TI TO i1 i2 : Addr} (S : ZipSep2 z TI TO i1 i2 [i1, a] [i2, b]) (h1a : a ≠ i1) (h2b : b ≠ i2) :
    Turn P w K (.Tuple elts kk tpos) (ItzB K t1 t2 a b) [z, TI, TO, i1, i2] z (fun i h => IsZip h z TI TO .none ∧ IsTupOf2 h TI (.ref i1) (.ref i2) ∧ (∃ x y, IsTupOf2 h TO x y) ∧ itAt t1 h i1 a i ∧ itAt t2 h i2 b i) where
  mem := List.mem_cons_self
  obj := fun i h st c hc => by
    obtain ⟨s1, s2, ⟨u, v, s3⟩, s4, s5⟩ := st
    have e' : c = z ∨ c = TI ∨ c = TO ∨ c = i1 ∨ c = i2 := by simpa using hc
    rcases e' with rfl | rfl | rfl | rfl | rfl
    · exact ⟨_, s1, fun v q => by cases q⟩
    · exact ⟨_, s2, fun v q => by cases q⟩
    · exact ⟨_, s3, fun v q => by cases q⟩
    · exact s4.obj
    · exact s5.obj
  keep := fun i h h' st k => by
    obtain ⟨s1, s2, ⟨u, v, s3⟩, s4, s5⟩ := st
    exact ⟨k _ (by simp) _ s1, k _ (by simp) _ s2, ⟨u, v, k _ (by simp) _ s3⟩, s4.at fun o q => k i1 (by simp) o q, s5.at fun o q => k i2 (by simp) o q⟩
  item := by
    intro X hP hw hK hc i pins s σ H E I hf st hg
    subst hP hw hK
    obtain ⟨s1, s2, ⟨x0, y0, s3⟩, s4, s5⟩ := st
    obtain ⟨xs, ys, x, y, qx, qy, ex, ey⟩ := hg
    obtain ⟨its, rv, p⟩ := SqB.seq I qx
    obtain ⟨its2, rv2, p2⟩ := SqB.seq I qy
    obtain ⟨u, hu, ru⟩ := rv.get ex
    obtain ⟨u2, hu2, ru2⟩ := rv2.get ey
    have hh := I.ok.hd hc
    have lt1 : i < its.toArray.size := by rw [List.size_toArray]; exact (List.getElem?_eq_some_iff.mp hu).1
    have lt2 : i < its2.toArray.size := by rw [List.size_toArray]; exact (List.getElem?_eq_some_iff.mp hu2).1
    have zl : z < s.heap.objs.size := Heap.lt_size s1
    refine wpAny_pyNext_zipD2_item S (draws_of (A := X.A.in1) hh t1 i1 a h1a its.toArray) (draws_of (A := X.A.in1) hh t2 i2 b h2b its2.toArray) s1 s2 s3 ⟨s4, p⟩ ⟨s5, p2⟩ lt1 lt2 fun v1 v2 h' tk g1 g2 z' TO' n1 n2 hT hsz hk => ?_
    have ev1 : v1 = u := Option.some.inj (g1.symm.trans (by simpa using hu))
    have ev2 : v2 = u2 := Option.some.inj (g2.symm.trans (by simpa using hu2))
    subst ev1 ev2
    refine ⟨_, rfl, wpAny_letOwnedTupleGo_zip (s := { s with heap := h', toks := tk }) z' fun h'' z'' sb => ?_⟩
    have hT2 := (sb.2 _ (Nat.ne_of_gt zl)).trans hT
    have new : ObjOk X.prog X.w (upd H s.heap.objs.size (.tup [x, y])) h'' s.heap.objs.size (.tup [x, y]) :=
      ⟨by show 2 ≤ sizeLine; decide, [v1, v2], .cons ru (.cons ru2 .nil), ⟨_, hT2, rfl, _, rfl⟩⟩
    have kk : ∀ c o, c ∉ [z, TI, TO, i1, i2] → s.heap.get? c = some o → h''.get? c = some o := fun c o hb q => by
      simp only [List.mem_cons, List.not_mem_nil, or_false, not_or] at hb
      exact (sb.2 c hb.1).trans (hk c o hb.1 hb.2.2.1 hb.2.2.2.1 hb.2.2.2.2 q)
    have I1 : Inv X pins σ (upd H s.heap.objs.size (.tup [x, y])) { s with heap := h'', toks := tk } := I.turnedNew (t' := tk) kk hf (Nat.le_refl _) new
    refine ⟨.ref s.heap.objs.size, _, I1, rfl, ⟨_, x, y, rfl, I.hok.fresh (Nat.le_refl _), rfl, fun l hl => by rw [SqB.inj I hl qx]; exact ex, fun l hl => by rw [SqB.inj I hl qy]; exact ey⟩, ⟨z'', ?_, ⟨v1, v2, ?_⟩, ?_, ?_⟩, fun c hcm => ?_⟩
    · exact (sb.2 _ S.TIz).trans (hk _ _ S.TIz S.TITO S.TIi1 S.TIi2 s2)
    · exact (sb.2 _ S.TOz).trans TO'
    · exact n1.1.at fun o q => (sb.2 _ (fun e => S.zf1 (by rw [← e]; simp))).trans q
    · exact n2.1.at fun o q => (sb.2 _ (fun e => S.zf2 (by rw [← e]; simp))).trans q
    · have lt : c < s.heap.objs.size := by
        have e' : c = z ∨ c = TI ∨ c = TO ∨ c = i1 ∨ c = i2 := by simpa using hcm
        rcases e' with rfl | rfl | rfl | rfl | rfl
        · exact zl
        · exact Heap.lt_size s2
        · exact Heap.lt_size s3
        · obtain ⟨_, e1, _⟩ := s4.obj; exact Heap.lt_size e1
        · obtain ⟨_, e1, _⟩ := s5.obj; exact Heap.lt_size e1
      rw [upd_ne (Nat.ne_of_lt lt)]
      exact (hf c hcm).1
  done := by
    intro X hP hw hK hc i pins s σ H E I hf st hg
    subst hP hw hK
    obtain ⟨s1, s2, ⟨x0, y0, s3⟩, s4, s5⟩ := st
    obtain ⟨xs, ys, qx, qy, l1, l2, le⟩ := hg
    obtain ⟨its, rv, p⟩ := SqB.seq I qx
    obtain ⟨its2, rv2, p2⟩ := SqB.seq I qy
    have hh := I.ok.hd hc
    have n1 := rv.length
    have n2 := rv2.length
    refine wpAny_pyNext_zipD2_end S (draws_of (A := X.A.in1) hh t1 i1 a h1a its.toArray) (draws_of (A := X.A.in1) hh t2 i2 b h2b its2.toArray) s1 s2 s3 ⟨s4, p⟩ ⟨s5, p2⟩ (by simp; omega) (by simp; omega) (by simp; omega) fun h' tk hk => ⟨rfl, ?_⟩
    exact I.turnedL (t' := tk) (ch := [z, TI, TO, i1, i2]) (fun c o hb q => by
      simp only [List.mem_cons, List.not_mem_nil, or_false, not_or] at hb
      exact hk c o hb.1 hb.2.2.1 hb.2.2.2.1 hb.2.2.2.2 q) hf
  self := fun A i s Q E st h => wpAny_pyIter_zip st.1 h
def iZipB (K : PySem.W.Frag) (ta : TA) : TI := fun σ H R => ta σ H fun vs H1 => ∃ (a b : Addr) (xs ys : List V) (t1 t2 : Bool), vs = [.ref a, .ref b] ∧ SqB K H1 t1 a xs ∧ SqB K H1 t2 b ys ∧ R (ItzB K t1 t2 a b) H1
theorem pi_zipB {X : Cx} {e e2 : Expr} {ta : TA} {p pos tpos : Pos} {elts : List Expr} {kk : Nat} (hg : Gl X "zip") (hm : X.mg "zip" = none) (ha : PA X [e, e2] ta)
    (hs : starEach [e, e2] X.env = (false, eval e X.env) :: starEach [e2] X.env := by rfl) (hpl : (backTo pos (starEach [e2] X.env)).any (·.1) = false := by rfl) :
    PI X (.Tuple elts kk tpos) (.Call (.Name "zip" p) [e, e2] [] pos) (iZipB X.K ta) := by
  refine ⟨fun pins s σ H R I h => ?_⟩
  refine PyProof.Rows.Call_ (ld_blt I hg hm PyProof.Rows.boot_zip (PyProof.Rows.callWith_type1 (thn (ha.run pos pins s σ H _ I h) fun us s1 ⟨vs, H1, I1, r1, q1⟩ => ?_) hs hpl))
  obtain ⟨a, b, xs, ys, t1, t2, ex, qx, qy, q⟩ := q1
  subst ex
  cases r1 with
  | cons r rr =>
    cases rr with
    | cons r' rr =>
      cases rr
      cases r
      cases r'
      obtain ⟨its, rv, p1⟩ := SqB.seq I1 qx
      obtain ⟨its2, rv2, p2⟩ := SqB.seq I1 qy
      have la := p1.lt
      have lb := p2.lt
      refine zip_begins2 (begins_of t1 a its.toArray) (begins_of t2 b its2.toArray) p1 p2 fun h' hz hTI hTO g1 g2 hsz hk => wpAny_pyIter_zip hz ?_
      have I2 : Inv X pins σ H1 { s1 with heap := h' } := I1.kept (t' := s1.toks) hk
      refine ⟨s1.heap.objs.size + 4, [s1.heap.objs.size + 4, s1.heap.objs.size + 2, s1.heap.objs.size + 3, s1.heap.objs.size, s1.heap.objs.size + 1], _, _, H1, rfl, I2,
        turn_zipB (zip_sep2 (fp1 := [a]) (fp2 := [b]) (fun c hc => by rw [List.mem_singleton.mp hc]; exact la) fun c hc => by rw [List.mem_singleton.mp hc]; exact lb) (Nat.ne_of_lt la) (Nat.ne_of_lt (Nat.lt_succ_of_lt lb)), ⟨hz, hTI, ⟨_, _, hTO⟩, itAt.start g1, itAt.start g2⟩, fun c hcm => ?_, q⟩
      have hle : s1.heap.objs.size ≤ c := by
        have e' : c = s1.heap.objs.size + 4 ∨ c = s1.heap.objs.size + 2 ∨ c = s1.heap.objs.size + 3 ∨ c = s1.heap.objs.size ∨ c = s1.heap.objs.size + 1 := by simpa using hcm
        rcases e' with z | z | z | z | z <;> rw [z]
        · exact Nat.le_add_right _ 4
        · exact Nat.le_add_right _ 2
        · exact Nat.le_add_right _ 3
        · exact Nat.le_refl _
        · exact Nat.le_add_right _ 1
      exact I1.fpOk hle (I1.hok.fresh hle)
section
variable {K : PySem.W.Frag} {E : XK} {Z Z' H H' : Hp} {σ σ' σ1 τ ρ : St} {env env' T R : Env} {F G : Fp} {Q Q' : VK} {v : V} {o : O} {d : D}
/-- the pairs -/
def zipD (xs ys : List D) : List D := (xs.zip ys).map fun p => .tup [p.1, p.2]
theorem SqB.le {t : Bool} {a : Addr} {vs : List V} (sub : Sub Z H) (h : SqB K Z t a vs) : SqB K H t a vs := by
  cases t with
  | true => exact (sub.le (K := K)).t _ _ h
  | false => exact (sub.le (K := K)).l _ _ h
theorem walk_zipB {t1 t2 : Bool} {a b : Addr} {vs us : List V} {ds es : List D} (h1 : SqB K Z t1 a vs) (r1 : Reps K Z vs ds) (h2 : SqB K Z t2 b us) (r2 : Reps K Z us es) : WalkD K (ItzB K t1 t2 a b) (zipD ds es) Z := by
  intro H sub
  have g1 := h1.le sub
  have g2 := h2.le sub
  have l1 := Reps.length r1
  have l2 := Reps.length r2
  have ll : (zipD ds es).length = min ds.length es.length := by simp [zipD]
  rw [ll]
  refine ⟨fun i hi => ⟨vs, us, vs[i]'(by omega), us[i]'(by omega), g1, g2, by simp [show i < vs.length by omega], by simp [show i < us.length by omega]⟩, ⟨vs, us, g1, g2, by omega, by omega, by omega⟩, fun i v H' hi y => ?_⟩
  obtain ⟨T, x, y, rfl, hT, rfl, hx, hy⟩ := y
  have ex := hx vs g1
  have ey := hy us g2
  obtain ⟨d, ed, qd⟩ := r1.get ex
  obtain ⟨e, ee, qe⟩ := r2.get ey
  refine ⟨Same.upd hT, .tup [d, e], by rw [zipD, List.getElem?_map, (List.getElem?_zip_eq_some (z := (d, e))).mpr ⟨ed, ee⟩]; rfl, fun Z2 s2 t2 => ⟨upd Z2 T (.tup [x, y]), Same.upd (t2.none hT), fun c o ec => ?_, fun c hc => ?_, ?_⟩⟩
  · by_cases w : c = T
    · subst w
      rw [upd_same] at ec ⊢
      exact .inl ec
    · rw [upd_ne w] at ec ⊢
      exact t2 c o ec
  · by_cases w : c = T
    · exact .inr (w ▸ hT)
    · rw [upd_ne w] at hc
      exact .inl hc
  · have m : Le K Z (upd Z2 T (.tup [x, y])) := (le_of_same s2).trans (le_of_same (Same.upd (t2.none hT)))
    exact .tup (SqT.of upd_same) (.cons (qd.mono m) (.cons (qe.mono m) .nil))
end
end Ws

namespace Ws
open PySem L2
section
variable {K : PySem.W.Frag} {E : XK} {Z Z' H H' : Hp} {σ σ' σ1 τ ρ : L2.St} {env env' T R : Env} {F G : Fp} {Q Q' : VK} {v : V} {o : O} {d : D}
def zipK : List O → Env → Out (List D) := fun os e => match os with
  | [.pu (.lst ds), .pu (.lst es)] => .ok (zipD ds es) e
  | [.pu (.tup ds), .pu (.lst es)] => .ok (zipD ds es) e
  | [.pu (.lst ds), .pu (.tup es)] => .ok (zipD ds es) e
  | [.pu (.tup ds), .pu (.tup es)] => .ok (zipD ds es) e
  | _ => .no
@[simp] theorem zipK_ll (ds es : List D) (e : Env) : zipK [.pu (.lst ds), .pu (.lst es)] e = .ok (zipD ds es) e := rfl
@[simp] theorem zipK_tl (ds es : List D) (e : Env) : zipK [.pu (.tup ds), .pu (.lst es)] e = .ok (zipD ds es) e := rfl
@[simp] theorem zipK_lt (ds es : List D) (e : Env) : zipK [.pu (.lst ds), .pu (.tup es)] e = .ok (zipD ds es) e := rfl
@[simp] theorem zipK_tt (ds es : List D) (e : Env) : zipK [.pu (.tup ds), .pu (.tup es)] e = .ok (zipD ds es) e := rfl
def iZip (ms : M (List O)) : M (List D) := fun env => (ms env).bind zipK
@[simp] theorem iZip.c (ms : M (List O)) {z : Option O} {zs : Env} : iZip ms (z :: zs) = ((ms (z :: zs)).bind zipK) := rfl
theorem seqB_rep {H : Hp} {x : D} {ds : List D} (q : Rep K H v x) (e : x.seq = some ds) : ∃ (t : Bool) (a : Addr) (vs : List V), v = .ref a ∧ SqB K H t a vs ∧ Reps K H vs ds := by
  cases q with
  | lst a r => cases e; exact ⟨false, _, _, rfl, a, r⟩
  | tup a r => cases e; exact ⟨true, _, _, rfl, a, r⟩
  | _ => cases e
theorem zip_imp {ms : M (List O)} {li : List (Option Nat)} {σ : L2.St} {H : Hp} {R : It → Hp → Prop} (h : tI K E (iZip ms) σ H R) : iZipB K (tL K E li ms) σ H R := by
  obtain ⟨Z, τ, T, env, F, ok, hl, post⟩ := h
  refine ⟨Z, τ, T, env, F, ok, hl, (stepLI (ρ := []) (R := []) rfl post).imp fun vs H1 ⟨Z1, F1, xs, e1, s1, l1, _, ok1, post1⟩ => ?_⟩
  have key : ∀ x y ds es, xs = [.pu x, .pu y] → x.seq = some ds → y.seq = some es → PostI K E Z1 τ T σ R (.ok (zipD ds es) e1) → ∃ (a b : Addr) (xs ys : List V) (t1 t2 : Bool), vs = [.ref a, .ref b] ∧ SqB K H1 t1 a xs ∧ SqB K H1 t2 b ys ∧ R (ItzB K t1 t2 a b) H1 := by
    rintro x y ds es rfl ex ey post
    match vs, l1 with
    | [v, u], _ =>
      obtain ⟨_, A, B, e2, q1, ok2, i1⟩ := Ok.top (x := some v) ok1
      cases e2
      obtain ⟨_, A', B', e3, q2, ok3, i2⟩ := Ok.top (x := some u) ok2
      cases e3
      cases q1 with
      | pu q1 =>
        cases q2 with
        | pu q2 =>
          obtain ⟨t1, a, ws, rfl, ha, r1⟩ := seqB_rep q1 ex
          obtain ⟨t2, b, us, rfl, hb, r2⟩ := seqB_rep q2 ey
          exact ⟨a, b, ws, us, t1, t2, rfl, ha.le ok3.sub, hb.le ok3.sub, post _ H1 Z1 _ (Same.refl Z1) ok3 (walk_zipB ha r1 hb r2)⟩
  unfold zipK at post1
  split at post1
  · exact key _ _ _ _ rfl rfl rfl post1
  · exact key _ _ _ _ rfl rfl rfl post1
  · exact key _ _ _ _ rfl rfl rfl post1
  · exact key _ _ _ _ rfl rfl rfl post1
  · exact post1.elim
end
section
variable {X : Cx} {E : XK} {a b : Expr} {li : List (Option Nat)} {ms : M (List O)} {p pos tpos : Pos} {elts : List Expr} {kk : Nat}
theorem i_zip (hm : X.mg "zip" = none) (ha : VA X E [a, b] li ms) (hg : Gl X "zip" := by rfl) (hs : starEach [a, b] X.env = (false, eval a X.env) :: starEach [b] X.env := by rfl) (hpl : (backTo pos (starEach [b] X.env)).any (·.1) = false := by rfl) : VI X E (.Tuple elts kk tpos) (.Call (.Name "zip" p) [a, b] [] pos) (iZip ms) :=
  (pi_zipB hg hm ha hs hpl).weak fun _ _ _ => zip_imp
end
end Ws

namespace Ws
open PySem L2
/-! ### enumerate of a list or tuple -/
theorem enum1_new {v : Value} {ob : Obj} {J : Heap → Prop} (B : Begins v ob J) :
    Meets (Builtin.«enumerate.__new__» ⟨[.type "enumerate", v], []⟩) (fun _ R s => J s.heap ∧
      R (.ok (.ret (.ref (s.heap.push ob).objs.size))) { s with heap := (s.heap.push ob).push { cls := .type "enumerate", data := .fields #[.none, .bool false, .ref s.heap.objs.size, rawInt 0, .none, .none] } }) :=
  .of_wp fun prog w A R s h => by
    obtain ⟨hp, ge, dr, tks, osx⟩ := s
    obtain ⟨jh, h⟩ := h
    have hsub := sub_enumerate
    have qq : ∀ {A' : Around} {E' : Value → Shared → Prop} {Q' : Value → Shared → Prop}, Q' (.ref hp.objs.size) ⟨hp.push ob, ge, dr, tks, osx⟩ → wpAny (model prog w) A' (pyIter v) Q' E' ⟨hp, ge, dr, tks, osx⟩ :=
      fun q => B.iter prog w _ _ ⟨hp, ge, dr, tks, osx⟩ _ jh q
    wp_walk using qq
    refine wpAny_stack_any fun stk => wpAny_pure ?_
    split
    · rename_i cc _ _ _ _ _
      cases (cc == Value.type "enumerate") <;> (wp_walk using qq; exact ⟨_, rfl, h⟩)
    · wp_walk using qq
      exact ⟨_, rfl, h⟩
theorem enum1_begins {prog : Program} {w : World} {A : Around} {E : Value → Shared → Prop} {s : Shared} {v : Value} {ob : Obj} {J : Heap → Prop} {Q : Value → Shared → Prop} (B : Begins v ob J) (jh : J s.heap)
    (h : ∀ h', IsEnum h' (s.heap.objs.size + 1) s.heap.objs.size 0 .none → h'.get? s.heap.objs.size = some ob → (∀ c o, s.heap.get? c = some o → h'.get? c = some o) → Q (.ref (s.heap.objs.size + 1)) { s with heap := h' }) :
    wpAny (model prog w) A (call (.type "enumerate") [v]) Q E s := by
  refine callType_new F.called_enumerate (by decide) (F.typeCall_enumerate_1 _) (F.newCall_enumerate_1 _) (fun obj => F.args_object_init_2 obj _) F.entry_enumerate_new (enum1_new B) ⟨jh, ?_⟩
  have hz : (s.heap.push ob).objs.size = s.heap.objs.size + 1 := Heap.size_push ..
  show _ ∧ _
  rw [hz]
  have g := Heap.get?_push_size (s.heap.push ob) (o := { cls := .type "enumerate", data := .fields #[.none, .bool false, .ref s.heap.objs.size, rawInt 0, .none, .none] }) rfl
  rw [hz] at g
  exact ⟨⟨_, g, rfl⟩, h _ g (Heap.get?_push_of_some _ (Heap.get?_push_size _ B.free)) fun c o x => Heap.get?_push_of_some _ (Heap.get?_push_of_some _ x)⟩
def IteB (K : PySem.W.Frag) (t : Bool) (a : Addr) : It :=
  ⟨fun i H => ∃ (xs : List V) (x : V), SqB K H t a xs ∧ xs[i]? = some x, fun i H v H' => ∃ T x, v = .ref T ∧ H T = none ∧ H' = upd H T (.tup [.int (i : Nat), x]) ∧ ∀ xs, SqB K H t a xs → xs[i]? = some x, fun i H => ∃ xs, SqB K H t a xs ∧ i = xs.length⟩
theorem turn_enumB {P : Program} {w : World} {K : PySem.W.Frag} {elts : List Expr} {kk : Nat} {tpos : Pos} {t : Bool} {a e it : Addr} (ne : e ≠ it) (nea : e ≠ a) (nai : a ≠ it) :
    Turn P w K (.Tuple elts kk tpos) (IteB K t a) [e, it] e (fun i h => (∃ old, IsEnum h e it ((i : Nat) : Int) old) ∧ itAt t h it a i) where
  mem := List.mem_cons_self
  obj := fun i h st c hc => by
    obtain ⟨⟨old, s1⟩, s2⟩ := st
    have e' : c = e ∨ c = it := by simpa using hc
    rcases e' with rfl | rfl
    · exact ⟨_, s1, fun v q => by cases q⟩
    · exact s2.obj
  keep := fun i h h' st k => by
    obtain ⟨⟨old, s1⟩, s2⟩ := st
    exact ⟨⟨old, k _ (by simp) _ s1⟩, s2.at fun o q => k it (by simp) o q⟩
  item := by
    intro X hP hw hK hc i pins s σ H E I hf st hg
    subst hP hw hK
    obtain ⟨⟨old, s1⟩, s2⟩ := st
    obtain ⟨xs, x, qx, ex⟩ := hg
    obtain ⟨its, rv, p⟩ := SqB.seq I qx
    obtain ⟨u, hu, ru⟩ := rv.get ex
    have hh := I.ok.hd hc
    have lt1 : i < its.toArray.size := by rw [List.size_toArray]; exact (List.getElem?_eq_some_iff.mp hu).1
    have el : e < s.heap.objs.size := Heap.lt_size s1
    have il : it < s.heap.objs.size := by obtain ⟨_, e1, _⟩ := s2.obj; exact Heap.lt_size e1
    refine wpAny_pyNext_enum_itemC (draws_of (A := X.A.in1) hh t it a nai its.toArray) s1 ⟨s2, p⟩ lt1 ne (by simp [ne, nea]) fun x1 h' tk g1 z' n1 hT hsz hk => ?_
    have ev : x1 = u := Option.some.inj (g1.symm.trans (by simpa using hu))
    subst ev
    refine ⟨_, rfl, wpAny_letOwnedTupleGo_enum (s := { s with heap := h', toks := tk + 1 }) z' fun h'' z'' sb => ?_⟩
    have hT2 := (sb.2 _ (Nat.ne_of_gt el)).trans hT
    have new : ObjOk X.prog X.w (upd H s.heap.objs.size (.tup [.int (i : Nat), x])) h'' s.heap.objs.size (.tup [.int (i : Nat), x]) :=
      ⟨by show 2 ≤ sizeLine; decide, [.int i tk, x1], .cons ⟨_, rfl⟩ (.cons ru .nil), ⟨_, hT2, rfl, _, rfl⟩⟩
    have kk : ∀ c o, c ∉ [e, it] → s.heap.get? c = some o → h''.get? c = some o := fun c o hb q => by
      simp only [List.mem_cons, List.not_mem_nil, or_false, not_or] at hb
      exact (sb.2 c hb.1).trans (hk c o hb.1 hb.2 q)
    have I1 : Inv X pins σ (upd H s.heap.objs.size (.tup [.int (i : Nat), x])) { s with heap := h'', toks := tk + 1 } := I.turnedNew (t' := tk + 1) kk hf (Nat.le_refl _) new
    refine ⟨.ref s.heap.objs.size, _, I1, rfl, ⟨_, x, rfl, I.hok.fresh (Nat.le_refl _), rfl, fun l hl => by rw [SqB.inj I hl qx]; exact ex⟩, ⟨⟨x1, ?_⟩, ?_⟩, fun c hcm => ?_⟩
    · have e1 : ((i + 1 : Nat) : Int) = (i : Int) + 1 := by omega
      rw [e1]; exact z''
    · exact n1.1.at fun o q => (sb.2 _ (Ne.symm ne)).trans q
    · have lt : c < s.heap.objs.size := by
        have e' : c = e ∨ c = it := by simpa using hcm
        rcases e' with rfl | rfl
        · exact el
        · exact il
      rw [upd_ne (Nat.ne_of_lt lt)]
      exact (hf c hcm).1
  done := by
    intro X hP hw hK hc i pins s σ H E I hf st hg
    subst hP hw hK
    obtain ⟨⟨old, s1⟩, s2⟩ := st
    obtain ⟨xs, qx, le⟩ := hg
    obtain ⟨its, rv, p⟩ := SqB.seq I qx
    have hh := I.ok.hd hc
    have n1 := rv.length
    have en : i = its.toArray.size := by simp; omega
    subst en
    refine wpAny_pyNext_enum_endD (draws_of (A := X.A.in1) hh t it a nai its.toArray) s1 ⟨s2, p⟩ fun h' hk => ⟨rfl, ?_⟩
    exact I.turnedL (t' := s.toks) (ch := [e, it]) (fun c o hb q => by
      simp only [List.mem_cons, List.not_mem_nil, or_false, not_or] at hb
      exact hk c o hb.2 q) hf
  self := fun A i s Q E st h => let ⟨⟨_, he⟩, _⟩ := st; wpAny_pyIter_enum he h
def iEnumB (K : PySem.W.Frag) (ta : TA) : TI := fun σ H R => ta σ H fun vs H1 => ∃ (a : Addr) (xs : List V) (t : Bool), vs = [.ref a] ∧ SqB K H1 t a xs ∧ R (IteB K t a) H1
theorem pi_enumB {X : Cx} {e : Expr} {ta : TA} {p pos tpos : Pos} {elts : List Expr} {kk : Nat} (hg : Gl X "enumerate") (hm : X.mg "enumerate" = none) (ha : PA X [e] ta) (hs : starEach [e] X.env = [(false, eval e X.env)] := by rfl) :
    PI X (.Tuple elts kk tpos) (.Call (.Name "enumerate" p) [e] [] pos) (iEnumB X.K ta) := by
  refine ⟨fun pins s σ H R I h => ?_⟩
  refine PyProof.Rows.Call_ (ld_blt I hg hm PyProof.Rows.boot_enumerate (PyProof.Rows.callWith_type1 (thn (ha.run pos pins s σ H _ I h) fun us s1 ⟨vs, H1, I1, r1, q1⟩ => ?_) hs rfl))
  obtain ⟨a, xs, t, ex, qx, q⟩ := q1
  subst ex
  cases r1 with
  | cons r rr =>
    cases rr
    cases r
    obtain ⟨its, rv, p1⟩ := SqB.seq I1 qx
    have la := p1.lt
    refine enum1_begins (begins_of t a its.toArray) p1 fun h' he g1 hk => wpAny_pyIter_enum he ?_
    have I2 : Inv X pins σ H1 { s1 with heap := h' } := I1.kept (t' := s1.toks) hk
    refine ⟨s1.heap.objs.size + 1, [s1.heap.objs.size + 1, s1.heap.objs.size], _, _, H1, rfl, I2, turn_enumB (Nat.succ_ne_self _) (Nat.ne_of_gt (Nat.lt_succ_of_lt la)) (Nat.ne_of_lt la), ⟨⟨.none, he⟩, itAt.start g1⟩, fun c hcm => ?_, q⟩
    have hle : s1.heap.objs.size ≤ c := by
      have e' : c = s1.heap.objs.size + 1 ∨ c = s1.heap.objs.size := by simpa using hcm
      rcases e' with z | z <;> rw [z]
      · exact Nat.le_add_right _ 1
      · exact Nat.le_refl _
    exact I1.fpOk hle (I1.hok.fresh hle)
section
variable {K : PySem.W.Frag} {E : XK} {Z Z' H H' : Hp} {σ σ' σ1 τ ρ : L2.St} {env env' T R : Env} {F G : Fp} {Q Q' : VK} {v : V} {o : O} {d : D}
def enumD (ds : List D) : List D := (ds.zipIdx 0).map fun p => .tup [.int (p.2 : Nat), p.1]
theorem walk_enumB {t : Bool} {a : Addr} {vs : List V} {ds : List D} (h1 : SqB K Z t a vs) (r1 : Reps K Z vs ds) : WalkD K (IteB K t a) (enumD ds) Z := by
  intro H sub
  have g1 := h1.le sub
  have l1 := Reps.length r1
  have ll : (enumD ds).length = ds.length := by simp [enumD]
  rw [ll]
  refine ⟨fun i hi => ⟨vs, vs[i]'(by omega), g1, by simp [show i < vs.length by omega]⟩, ⟨vs, g1, by omega⟩, fun i v H' hi y => ?_⟩
  obtain ⟨T, x, rfl, hT, rfl, hx⟩ := y
  have ex := hx vs g1
  obtain ⟨d, ed, qd⟩ := r1.get ex
  refine ⟨Same.upd hT, .tup [.int (i : Nat), d], by simp [enumD, List.getElem?_map, List.getElem?_zipIdx, ed], fun Z2 s2 t2 => ⟨upd Z2 T (.tup [.int (i : Nat), x]), Same.upd (t2.none hT), fun c o ec => ?_, fun c hc => ?_, ?_⟩⟩
  · by_cases w : c = T
    · subst w
      rw [upd_same] at ec ⊢
      exact .inl ec
    · rw [upd_ne w] at ec ⊢
      exact t2 c o ec
  · by_cases w : c = T
    · exact .inr (w ▸ hT)
    · rw [upd_ne w] at hc
      exact .inl hc
  · have m : Le K Z (upd Z2 T (.tup [.int (i : Nat), x])) := (le_of_same s2).trans (le_of_same (Same.upd (t2.none hT)))
    exact .tup (SqT.of upd_same) (.cons (.int _) (.cons (qd.mono m) .nil))
def enumK : List O → Env → Out (List D) := fun os e => match os with
  | [.pu (.lst ds)] => .ok (enumD ds) e
  | [.pu (.tup ds)] => .ok (enumD ds) e
  | _ => .no
@[simp] theorem enumK_l (ds : List D) (e : Env) : enumK [.pu (.lst ds)] e = .ok (enumD ds) e := rfl
@[simp] theorem enumK_t (ds : List D) (e : Env) : enumK [.pu (.tup ds)] e = .ok (enumD ds) e := rfl
def iEnumr (ms : M (List O)) : M (List D) := fun env => (ms env).bind enumK
@[simp] theorem iEnumr.c (ms : M (List O)) {z : Option O} {zs : Env} : iEnumr ms (z :: zs) = ((ms (z :: zs)).bind enumK) := rfl
theorem enum_imp {ms : M (List O)} {li : List (Option Nat)} {σ : L2.St} {H : Hp} {R : It → Hp → Prop} (h : tI K E (iEnumr ms) σ H R) : iEnumB K (tL K E li ms) σ H R := by
  obtain ⟨Z, τ, T, env, F, ok, hl, post⟩ := h
  refine ⟨Z, τ, T, env, F, ok, hl, (stepLI (ρ := []) (R := []) rfl post).imp fun vs H1 ⟨Z1, F1, xs, e1, s1, l1, _, ok1, post1⟩ => ?_⟩
  have key : ∀ x ds, xs = [.pu x] → x.seq = some ds → PostI K E Z1 τ T σ R (.ok (enumD ds) e1) → ∃ (a : Addr) (xs : List V) (t : Bool), vs = [.ref a] ∧ SqB K H1 t a xs ∧ R (IteB K t a) H1 := by
    rintro x ds rfl ex post
    match vs, l1 with
    | [v], _ =>
      obtain ⟨_, A, B, e2, q1, ok2, i1⟩ := Ok.top (x := some v) ok1
      cases e2
      cases q1 with
      | pu q1 =>
        obtain ⟨t1, a, ws, rfl, ha, r1⟩ := seqB_rep q1 ex
        exact ⟨a, ws, t1, rfl, ha.le ok2.sub, post _ H1 Z1 _ (Same.refl Z1) ok2 (walk_enumB ha r1)⟩
  unfold enumK at post1
  split at post1
  · exact key _ _ rfl rfl post1
  · exact key _ _ rfl rfl post1
  · exact post1.elim
end
section
variable {X : Cx} {E : XK} {a : Expr} {li : List (Option Nat)} {ms : M (List O)} {p pos tpos : Pos} {elts : List Expr} {kk : Nat}
theorem i_enumr (hm : X.mg "enumerate" = none) (ha : VA X E [a] li ms) (hg : Gl X "enumerate" := by rfl) (hs : starEach [a] X.env = [(false, eval a X.env)] := by rfl) : VI X E (.Tuple elts kk tpos) (.Call (.Name "enumerate" p) [a] [] pos) (iEnumr ms) :=
  (pi_enumB hg hm ha hs).weak fun _ _ _ => enum_imp
end
end Ws

namespace Ws
open PySem L2
/-! ### index of a tuple of texts of the module -/
def idxS : List Str → Str → Option Nat
  | [], _ => none
  | y :: ys, z => if y = z then some 0 else (idxS ys z).map (· + 1)
@[simp] theorem idxS_nil (z : Str) : idxS [] z = none := rfl
@[simp] theorem idxS_cons (y : Str) (ys : List Str) (z : Str) : idxS (y :: ys) z = if y = z then some 0 else (idxS ys z).map (· + 1) := rfl
theorem idxS_ok : ∀ {ys : List Str} {z : Str} {j : Nat}, idxS ys z = some j → ys[j]? = some z ∧ ∀ m, m < j → ys[m]? ≠ some z
  | [], _, _, h => by cases h
  | y :: ys, z, j, h => by
    rw [idxS_cons] at h
    by_cases e : y = z
    · rw [if_pos e] at h
      cases h
      exact ⟨by simp [e], fun m hm => absurd hm (Nat.not_lt_zero _)⟩
    · rw [if_neg e] at h
      obtain ⟨i, hi, rfl⟩ := map_some h
      obtain ⟨a, b⟩ := idxS_ok hi
      refine ⟨by simpa using a, fun m hm => ?_⟩
      cases m with
      | zero => simpa using e
      | succ m => simpa using b m (by omega)
structure GlobT (K : PySem.W.Frag) (mg : Str → Option Value) (x : Str) (ss : List Str) : Prop where
  ex : ∃ (a : Addr) (ob : Obj), mg x = some (.ref a) ∧ K.lookup a = some ob ∧ ob.cls = .type "tuple" ∧ ob.dict = none ∧ ∀ H : Hp, SqT K H a (ss.map V.str)
@[simp] def tidxD (ss : List Str) : D → Option D
  | .str z => (idxS ss z).map fun j => .int (j : Nat)
  | _ => none
section
variable {X : Cx} {E : XK} {x : Str} {ss : List Str} {p apos cpos : Pos} {e : Expr} {m : M O}
theorem v_tidx (h : GlobT X.K X.mg x ss) (he : VE X E e m) (hg : Gl X x := by rfl) (hd : (x == ("__debug__" : Str)) = false := by decide)
    (hbase : attributeBase (.Name x p) "index" X.env (eval (.Name x p) X.env) = eval (.Name x p) X.env := by rfl)
    (hfew : ((backTo cpos (starEach (e :: []) X.env)).all (fun x => !x.1) && (backToKw cpos (keywordEach [] X.env)).all (fun x => x.1.isSome)
      && decide ((e :: []).length + ([] : List Keyword).length + (if ([] : List Keyword).isEmpty then 0 else 1) < 30)) = true := by rfl)
    (hline : (apos.endLine == cpos.line) = true := by rfl) (hs : starEach (e :: []) X.env = (false, eval e X.env) :: starEach [] X.env := by rfl) (hplain : (backTo cpos (starEach [] X.env)).any (·.1) = false := by rfl) :
    VE X E (.Call (.Attribute (.Name x p) "index" apos) (e :: []) [] cpos) (eUn (unD (tidxD ss)) m) := by
  obtain ⟨a, ob, hm, hl, hc, hdd, hq⟩ := h.ex
  refine (pe_bm PySem.F.plainAttrs_tuple PySem.F.slot_tuple_index (by first | rfl | decide +kernel | kernel_rfl) mt_tup_index (pe_glob hg hm (v := .ref a) rfl hd) (pa_cons he pa_nil hs) hbase hfew hline hs hplain).weak fun σ H Q q => ?_
  refine ⟨.inr (.inl ⟨rfl, ob, hl, hc, hdd⟩), ?_⟩
  have hv : UnS X.K (tidxD ss) (fun y H Q => ∃ p, ∃ ys : List Str, ∃ z j, V.ref a = .ref p ∧ [y] = [V.str z] ∧ SqT X.K H p (ys.map V.str) ∧ ys[j]? = some z ∧ (∀ m, m < j → ys[m]? ≠ some z) ∧ Q (.int (j : Nat)) H) := by
    intro H v y z Q q e k
    cases q with
    | str t =>
      obtain ⟨j, hj, rfl⟩ := map_some (show (idxS ss t).map (fun j => D.int (j : Nat)) = some z from e)
      obtain ⟨h1, h2⟩ := idxS_ok hj
      exact ⟨a, ss, t, j, rfl, rfl, hq H, h1, h2, k _ fun _ => .int _⟩
    | _ => cases e
  exact un_imp hv.unv q
end
end Ws

namespace Ws
open PySem L2 PySem.Spec PyProof.Rows
/-! ### a, b, c = x, y, z -/
def tPar3 (i j k : Nat) (ta : TA) : TS := fun D σ H => ta σ H fun vs H1 => ∃ u v w, vs = [u, v, w] ∧ D.nx (((σ.set i (some u)).set j (some v)).set k (some w)) H1
theorem set3 {σ : L2.St} {i j k : Nat} {u v w : Option V} (hij : i ≠ j) (hik : i ≠ k) (hjk : j ≠ k) : ((σ.set k w).set j v).set i u = ((σ.set i u).set j v).set k w := by
  rw [List.set_comm w v (Ne.symm hjk), List.set_comm w u (Ne.symm hik), List.set_comm v u (Ne.symm hij)]
section
variable {X : Cx} {E : XK} {io : Nat → Bool}
theorem ps_par3 {i j k : Nat} {x y z : Str} {a b c : Expr} {ta : TA} {px py pz pt pos : PySem.Pos} {kt k2 : Nat} {pt2 : Pos} (hc : X.calm = true) (hN : X.N.Nodup) (hi : X.N[i]? = some x) (hj : X.N[j]? = some y) (hk : X.N[k]? = some z) (hij : i ≠ j) (hik : i ≠ k) (hjk : j ≠ k)
    (hx : X.env.scope.names.lookup x = some .local) (hy : X.env.scope.names.lookup y = some .local) (hz : X.env.scope.names.lookup z = some .local) (ha : PA X [a, b, c] ta)
    (hw : swappedStores [.Tuple [.Name x px, .Name y py, .Name z pz] kt pt] (.Tuple [a, b, c] k2 pt2) X.env = Pure.pure (some [x, y, z]))
    (hs : swapsWithSole [.Tuple [.Name x px, .Name y py, .Name z pz] kt pt] (.Tuple [a, b, c] k2 pt2) pos.line X.env = Pure.pure false := by rfl) :
    PS X (.Assign [.Tuple [.Name x px, .Name y py, .Name z pz] kt pt] (.Tuple [a, b, c] k2 pt2) pos) (tPar3 i j k ta) := by
  refine ⟨fun pins s σ H D I h => ?_⟩
  rw [exec_Assign_arm]
  refine wpAny_bind (wpAny_standAt ?_)
  rw [hs]
  refine wpAny_bind (wpAny_pure ?_)
  rw [if_neg (by decide)]
  refine wpAny_bind (Tuple_ (thn (ha.run _ pins s σ H _ I h) fun us s1 ⟨vs, H1, I1, r1, q1⟩ => ?_))
  obtain ⟨u, v, w, e1, q1⟩ := q1
  subst e1
  obtain ⟨u1, u2, u3, rfl, r1, r2, r3⟩ : ∃ u1 u2 u3, us = [u1, u2, u3] ∧ RelV u u1 ∧ RelV v u2 ∧ RelV w u3 := by
    cases r1 with
    | cons p q => cases q with
      | cons p' q' => cases q' with
        | cons p'' q'' =>
          cases q''
          exact ⟨_, _, _, rfl, p, p', p''⟩
  refine wpAny_newObj_type ?_ (by show 3 ≤ sizeLine; decide)
  have I2 : Inv X pins σ H1 { s1 with heap := s1.heap.push { cls := .type "tuple", data := .seq [u1, u2, u3].toArray } } := I1.kept (t' := s1.toks) fun _ _ e => Heap.get?_push_of_some _ e
  rw [hw]
  refine wpAny_bind (wpAny_pure ?_)
  show wpAny (model X.prog X.w) X.A (do rule "assign.swapped-stores"; let items ← unpackItems (.ref s1.heap.objs.size) 3 none; assignInOrder [fun q => bindName X.env z q, fun q => bindName X.env y q, fun q => bindName X.env x q] items.reverse; Pure.pure Flow.next) _ _ _
  refine wpAny_bind (wpAny_rule (wpAny_bind (unpackItems_tuple (items := #[u1, u2, u3]) (I.ok.hd hc) (IsTup.new s1.heap _) fun h' hx' => ?_)))
  have I3 := I2.kept (h' := h') (t' := s1.toks) fun m ob e => hx' m ob (Nat.ne_of_lt (Heap.lt_size e)) e
  show wpAny _ _ (assignInOrder [fun q => bindName X.env z q, fun q => bindName X.env y q, fun q => bindName X.env x q] [u3, u2, u1] >>= fun _ => Pure.pure Flow.next) _ _ _
  refine wpAny_bind (assignInOrder_cons (wpAny_bindName (store_ok I3 hN hk (.inl hz) r3 (fun s2 I4 => ?_) (.inr hz))))
  refine assignInOrder_cons (wpAny_bindName (store_ok I4 hN hj (.inl hy) r2 (fun s3 I5 => ?_) (.inr hy)))
  refine assignInOrder_cons (wpAny_bindName (store_ok I5 hN hi (.inl hx) r1 (fun s4 I6 => assignInOrder_nil (wpAny_pure ?_)) (.inr hx)))
  rw [set3 hij hik hjk] at I6
  exact ⟨_, H1, I6, q1⟩
def par3K (i j k : Nat) : List O → Env → Out Fl := fun xs e => match xs with
  | [x, y, z] => .ok .nx (((e.set i (some x)).set j (some y)).set k (some z))
  | _ => .no
@[simp] theorem par3K_def (i j k : Nat) (x y z : O) (e : Env) : par3K i j k [x, y, z] e = .ok .nx (((e.set i (some x)).set j (some y)).set k (some z)) := rfl
def sPar3 (i j k : Nat) (ms : M (List O)) : M Fl := fun env => (ms env).bind (par3K i j k)
@[simp] theorem sPar3.c (i j k : Nat) (ms : M (List O)) {z : Option O} {zs : Env} : sPar3 i j k ms (z :: zs) = ((ms (z :: zs)).bind (par3K i j k)) := rfl
theorem s_par3 {i j k : Nat} {x y z : Str} {a b c : Expr} {li : List (Option Nat)} {ms : M (List O)} {px py pz pt pos : PySem.Pos} {kt k2 : Nat} {pt2 : PySem.Pos} (hc : X.calm = true) (hN : X.N.Nodup) (hi : X.N[i]? = some x) (hj : X.N[j]? = some y) (hk : X.N[k]? = some z) (hij : i ≠ j) (hik : i ≠ k) (hjk : j ≠ k)
    (hx : X.env.scope.names.lookup x = some .local) (hy : X.env.scope.names.lookup y = some .local) (hz : X.env.scope.names.lookup z = some .local) (ha : VA X E [a, b, c] li ms)
    (hw : swappedStores [.Tuple [.Name x px, .Name y py, .Name z pz] kt pt] (.Tuple [a, b, c] k2 pt2) X.env = Pure.pure (some [x, y, z]))
    (h1 : io i = false := by rfl) (h2 : io j = false := by rfl) (h3 : io k = false := by rfl)
    (hs : swapsWithSole [.Tuple [.Name x px, .Name y py, .Name z pz] kt pt] (.Tuple [a, b, c] k2 pt2) pos.line X.env = Pure.pure false := by rfl) :
    VS X E io (.Assign [.Tuple [.Name x px, .Name y py, .Name z pz] kt pt] (.Tuple [a, b, c] k2 pt2) pos) (sPar3 i j k ms) := by
  refine (ps_par3 hc hN hi hj hk hij hik hjk hx hy hz ha hw hs).weak fun D σ H h => ?_
  obtain ⟨Z, τ, T, env, F, ok, hl, post⟩ := h
  refine ⟨Z, τ, T, env, F, ok, hl, (bindL (ρ := []) (R := []) (fun Z o => PostS X.K E io Z τ T σ D o) (fun s h => PostS.mono s h) (fun h => h σ (Pin.refl σ)) (fun h => h) rfl post).imp fun vs H1 ⟨Z1, F1, xs, e1, s1, l1, _, ok1, post1⟩ => ?_⟩
  unfold par3K at post1
  split at post1
  · rename_i p q r
    match vs, l1 with
    | [u, v, w], _ =>
      have ok2 : Ok X.K Z1 H1 (some v :: some w :: (τ ++ σ.set i (some u))) (some q :: some r :: (T ++ e1.set i (some p))) F1 := Ok.store (τ := some v :: some w :: τ) (T := some q :: some r :: T) (i := i) ok1 (by simp [hl])
      have ok3 : Ok X.K Z1 H1 (some w :: (τ ++ (σ.set i (some u)).set j (some v))) (some r :: (T ++ (e1.set i (some p)).set j (some q))) F1 := Ok.store (τ := some w :: τ) (T := some r :: T) (i := j) ok2 (by simp [hl])
      have ok4 := ok3.store (i := k) hl
      refine ⟨u, v, w, rfl, post1 _ H1 Z1 F1 (Same.refl Z1) ⟨by simp, fun m hm => ?_⟩ ok4⟩
      rw [List.getElem?_set_ne (fun e => by rw [← e, h3] at hm; cases hm), List.getElem?_set_ne (fun e => by rw [← e, h2] at hm; cases hm), List.getElem?_set_ne (fun e => by rw [← e, h1] at hm; cases hm)]
  · exact post1.elim
end
end Ws

namespace Ws
open PySem L2
/-! ### texts told apart by a number -/
def code (s : Str) : Nat := s.cps.foldl (fun a c => a * 2097152 + c + 1) 0
@[simp] theorem str_ne {s t : Str} (h : (code s == code t) = false) : (s == t) = false := by
  cases e : (s == t)
  · rfl
  · have := LawfulBEq.eq_of_beq e
    subst this
    simp at h
@[simp] theorem str_ne' {s t : Str} (h : (code s == code t) = false) : (s = t) = False := by
  apply eq_false
  rintro rfl
  simp at h
/-! ### a loop that runs a machine -/
def runM {S α : Type} (step : S → α → Option S) : S → List α → Option S
  | s, [] => some s
  | s, a :: as => (step s a).bind fun s => runM step s as
inductive Two {α β : Type} (R : α → β → Prop) : List α → List β → Prop
  | nil : Two R [] []
  | cons {a : α} {b : β} {as : List α} {bs : List β} : R a b → Two R as bs → Two R (a :: as) (b :: bs)
theorem run_rule {S α : Type} {step : S → α → Option S} {rel : D → α → Prop} {G : Out Fl → Prop} {g : GD} {body : M Fl} (P : S → Ws.Env → Prop)
    (hs : ∀ x a s s' e, rel x a → step s a = some s' → P s e → ∃ e1, g (.pu x) e = some e1 ∧ NxP (P s') (body e1)) :
    ∀ {items : List D} {as : List α} {s s' : S} {e0 : Ws.Env}, Two rel items as → runM step s as = some s' → P s e0 → (∀ e, P s' e → G (.ok .nx e)) → G (loopF g body items e0)
  | _, _, s, s', e0, .nil, hr, p, he => by
    cases hr
    exact he e0 p
  | _, _, s, s', e0, .cons (a := x) (b := a) h t, hr, p, he => by
    obtain ⟨s1, h1, h2⟩ := Option.bind_eq_some_iff.mp hr
    obtain ⟨e1, g1, e2, b1, p2⟩ := hs x a s s1 e0 h h1 p
    have := run_rule (G := G) P hs t h2 p2 he
    rw [loopF, g1]
    simp only [b1]
    exact this
theorem run_ex {S α : Type} {step : S → α → Option S} {rel : D → α → Prop} {g : GD} {body : M Fl} (P : S → Ws.Env → Prop)
    (hs : ∀ x a s s' e, rel x a → step s a = some s' → P s e → ∃ e1, g (.pu x) e = some e1 ∧ NxP (P s') (body e1)) 
    {items : List D} {as : List α} {s s' : S} {e0 : Ws.Env} (ht : Two rel items as) (hr : runM step s as = some s') (h0 : P s e0) : ∃ e, loopF g body items e0 = .ok .nx e ∧ P s' e :=
  run_rule (G := fun o => ∃ e, o = .ok .nx e ∧ P s' e) P hs ht hr h0 fun e p => ⟨e, rfl, p⟩
theorem runM_app {S α : Type} {step : S → α → Option S} : ∀ (as bs : List α) (s : S), runM step s (as ++ bs) = (runM step s as).bind fun s => runM step s bs
  | [], bs, s => rfl
  | a :: as, bs, s => by
    simp only [runM, List.cons_append]
    cases step s a with
    | none => rfl
    | some s1 => exact runM_app as bs s1
theorem loop_ex {g : GD} {body : M Fl} (P : Nat → Ws.Env → Prop) : ∀ {items : List D} {j : Nat} {e0 : Ws.Env},
    (∀ i x e, items[i]? = some x → P (j + i) e → ∃ e1, g (.pu x) e = some e1 ∧ NxP (P (j + i + 1)) (body e1)) → P j e0 → ∃ e, loopF g body items e0 = .ok .nx e ∧ P (j + items.length) e
  | [], j, e0, _, h0 => ⟨e0, by simp [loopF], h0⟩
  | x :: xs, j, e0, hs, h0 => by
    obtain ⟨e1, h1, e2, h2, p2⟩ := hs 0 x e0 rfl h0
    obtain ⟨e, h3, p3⟩ := loop_ex P (items := xs) (j := j + 1) (e0 := e2) (fun i y e hy p => by
      have := hs (i + 1) y e (by simpa using hy) (by rw [show j + (i + 1) = j + 1 + i by omega]; exact p)
      rw [show j + (i + 1) + 1 = j + 1 + i + 1 by omega] at this
      exact this) p2
    refine ⟨e, ?_, ?_⟩
    · rw [loopF, h1]
      simp only [h2]
      exact h3
    · rw [show j + (x :: xs).length = j + 1 + xs.length by simp; omega]
      exact p3
theorem bind_ex_ok {α β : Type} {o : Out α} {a : α} {e : Ws.Env} {f : α → Ws.Env → Out β} (h : o = .ok a e) : o.bind f = f a e := by rw [h]; rfl
@[simp] theorem rangeD_len (lo : Int) (n : Nat) : (rangeD lo n).length = n := by simp [rangeD]
end Ws

namespace Ws
open PySem L2
@[simp] theorem toD_comp2 {α : Type} (f : α → D) : O.toD ∘ O.pu ∘ f = f := funext fun d => toD_pu (f d)
@[simp] theorem toD_comp3 {α : Type} (f : α → D) : (O.toD ∘ fun x => O.pu (f x)) = f := funext fun d => toD_pu (f d)
/-! ### an argument that is lent, taken out when the others have been asked -/
section
variable {K : PySem.W.Frag} {E : XK} {Z Z' H H' : Hp} {σ σ' σ1 τ ρ : St} {env env' T R : Ws.Env} {F G : Fp} {v : V} {o : O}
def lendK (i : Nat) (xs : List O) (e : Ws.Env) : Out (List O) := match e[i]? with
  | some (some o) => .ok (o :: xs) (e.set i none)
  | _ => .no
def lendB (i : Nat) (ms : M (List O)) : M (List O) := fun env => match env[i]? with
  | some (some _) => (ms env).bind (lendK i)
  | _ => .no
@[simp] theorem lendB.c (i : Nat) (ms : M (List O)) {z : Option O} {zs : Ws.Env} : lendB i ms (z :: zs) = (match (z :: zs)[i]? with
  | some (some _) => (ms (z :: zs)).bind (lendK i)
  | _ => .no) := rfl
@[simp] theorem lendK.c (i : Nat) (xs : List O) {z : Option O} {zs : Ws.Env} : lendK i xs (z :: zs) = (match (z :: zs)[i]? with
  | some (some o) => .ok (o :: xs) ((z :: zs).set i none)
  | _ => .no) := rfl
theorem lendB_imp {i : Nat} {ms : M (List O)} {io : List (Option Nat)} {σ : St} {H : Hp} {Q : List V → Hp → Prop} (h : tL K E (some i :: io) (lendB i ms) σ H Q) : tCons (tVar i) (tL K E io ms) σ H Q := by
  obtain ⟨Z, τ, T, env, F, ok, hl, post⟩ := h
  unfold lendB at post
  split at post
  · rename_i o0 e0
    obtain ⟨v, _, _, hv, _⟩ := ok.slot hl e0
    refine ⟨v, hv, Z, τ, T, env, F, ok, hl, (bindL (ρ := []) (R := []) (fun Z o => PostL K E (some i :: io) Z τ T σ Q o) (fun s h => PostL.mono s h) (fun h => h) (fun h => h) rfl post).imp fun vs H2 ⟨Z2, F2, xs, e2, s2, l2, i2, ok2, post2⟩ => ?_⟩
    simp only [List.nil_append] at ok2
    unfold lendK at post2
    split at post2
    · rename_i o e
      have ok3 : Ok K Z2 H2 ((vs.map some ++ τ) ++ σ) ((xs.map some ++ T) ++ e2) F2 := by rw [List.append_assoc, List.append_assoc]; exact ok2
      obtain ⟨v', A, B, hv', q, i1, r, _⟩ := ok3.slot (by simp [l2, hl]) e
      rw [hv] at hv'
      cases hv'
      rw [List.append_assoc, List.append_assoc] at r
      exact post2 (v :: vs) H2 Z2 F2 (Same.refl Z2) (by simp [l2]) (.lent hv i2) (ok2.dn (.so q r i1) fun b => Nat.le_refl _)
    · exact post2.elim
  · exact post.elim
end
section
variable {X : Cx} {E : XK} {i : Nat} {a : Expr} {es : List Expr} {li : List (Option Nat)} {ms : M (List O)}
theorem a_lendB (ha : PE X a (tVar i)) (hr : VA X E es li ms) (hs : starEach (a :: es) X.env = (false, eval a X.env) :: starEach es X.env := by rfl) : VA X E (a :: es) (some i :: li) (lendB i ms) := (pa_cons ha hr hs).weak fun _ _ _ => lendB_imp
end
/-! ### loops over what is written out: one turn at a time, by named continuations -/
def turnK (g : GD) (b : M Fl) (xs : List D) : Out Fl → Out Fl
  | .ok .nx e => loopF g b xs e
  | .ok .ct e => loopF g b xs e
  | .ok .bk e => .ok .nx e
  | .ok (.rt r) e => .ok (.rt r) e
  | .ex x e => .ex x e
  | .no => .no
@[simp] theorem turnK_nx {g : GD} {b : M Fl} {xs : List D} (e : Ws.Env) : turnK g b xs (.ok .nx e) = loopF g b xs e := rfl
@[simp] theorem turnK_ct {g : GD} {b : M Fl} {xs : List D} (e : Ws.Env) : turnK g b xs (.ok .ct e) = loopF g b xs e := rfl
@[simp] theorem turnK_bk {g : GD} {b : M Fl} {xs : List D} (e : Ws.Env) : turnK g b xs (.ok .bk e) = .ok .nx e := rfl
@[simp] theorem turnK_rt {g : GD} {b : M Fl} {xs : List D} (r : O) (e : Ws.Env) : turnK g b xs (.ok (.rt r) e) = .ok (.rt r) e := rfl
@[simp] theorem turnK_ex {g : GD} {b : M Fl} {xs : List D} (x : Exn) (e : Ws.Env) : turnK g b xs (.ex x e) = .ex x e := rfl
@[simp] theorem turnK_no {g : GD} {b : M Fl} {xs : List D} : turnK g b xs .no = .no := rfl
def tgtK (g : GD) (b : M Fl) (xs : List D) : Option Ws.Env → Out Fl
  | none => .no
  | some e => turnK g b xs (b e)
@[simp] theorem tgtK_none {g : GD} {b : M Fl} {xs : List D} : tgtK g b xs none = .no := rfl
@[simp] theorem tgtK_some {g : GD} {b : M Fl} {xs : List D} (e : Ws.Env) : tgtK g b xs (some e) = turnK g b xs (b e) := rfl
theorem loopF_nil (g : GD) (b : M Fl) (e : Ws.Env) : loopF g b [] e = .ok .nx e := by rw [loopF]
theorem loopF_cons (g : GD) (b : M Fl) (x : D) (xs : List D) (e : Ws.Env) : loopF g b (x :: xs) e = tgtK g b xs (g (.pu x) e) := by
  rw [loopF]
  cases g (.pu x) e with
  | none => rfl
  | some e1 =>
    simp only [tgtK_some]
    cases b e1 with
    | ok fl e2 => cases fl <;> rfl
    | ex x e2 => rfl
    | no => rfl
/-! comprehensions -/
def compK (own : List Nat) (g : GD) (c : M Bool) (elt : M O) (xs : List D) (acc : List O) : Out O → Out (List O)
  | .ok y e => if acc.length < 100000 then loopC own g c elt xs (acc ++ [y]) (wipeE e own) else .no
  | _ => .no
end Ws

namespace Ws
open PySem L2
/-! ### a list that a name owns, walked where it stands -/
section
variable {K : PySem.W.Frag} {E : XK} {Z Z' H H' : Hp} {σ σ' σ1 τ ρ : St} {env env' T R : Ws.Env} {F G : Fp} {Q Q' : VK} {v : V} {o : O} {d : D} {io io' : Nat → Bool}
def itemO : O → Nat → Option (Option D)
  | .li os, k => match os[k]? with
    | none => some none
    | some (.pu d) => some (some d)
    | some _ => none
  | .pu (.lst ds), k => some ds[k]?
  | _, _ => none
def ItemsAt (K : PySem.W.Frag) (Z : Hp) (vs : List V) (k : Nat) : Option D → Prop
  | none => vs.length ≤ k
  | some d => ∃ x, vs[k]? = some x ∧ Rep K Z x d
theorem RepOs.at : ∀ {vs : List V} {os : List O} {F : Fp} {k : Nat} {o : O}, RepOs K Z H vs os F → os[k]? = some o → ∃ x A, vs[k]? = some x ∧ RepO K Z H x o A
  | _, _, _, _, _, .nil, e => by simp at e
  | _, _, _, 0, _, .cons q _ _, e => by simp at e; subst e; exact ⟨_, _, rfl, q⟩
  | _, _, _, k + 1, _, .cons _ r _, e => by
    obtain ⟨x, A, a, b⟩ := RepOs.at (k := k) r (by simpa using e)
    exact ⟨x, A, by simpa using a, b⟩
theorem item_ok {k : Nat} {r : Option D} (h : Sub Z H) (q : RepO K Z H v o F) (e : itemO o k = some r) : ∃ a vs, v = .ref a ∧ SqL K H a vs ∧ ItemsAt K Z vs k r := by
  cases o with
  | li os =>
    cases q with
    | @li a vs _ F1 _ ha qs i =>
      refine ⟨a, vs, rfl, .of ha, ?_⟩
      simp only [itemO] at e
      cases ek : os[k]? with
      | none =>
        rw [ek] at e; cases e
        have : os.length ≤ k := by simpa using ek
        show vs.length ≤ k
        rw [qs.len]; exact this
      | some y =>
        rw [ek] at e
        obtain ⟨x, A, a1, a2⟩ := qs.at ek
        cases y with
        | pu d =>
          cases e
          cases a2 with
          | pu a2 => exact ⟨x, a1, a2⟩
        | _ => cases e
  | pu d =>
    cases d with
    | lst ds =>
      cases q with
      | pu q =>
        cases q with
        | @lst a vs _ ha r =>
          refine ⟨a, vs, rfl, (h.le (K := K)).l _ _ ha, ?_⟩
          unfold itemO at e
          cases e
          cases ek : ds[k]? with
          | none =>
            have : ds.length ≤ k := by simpa using ek
            show vs.length ≤ k
            rw [← Reps.length r] at this; exact this
          | some y =>
            have hlt : k < vs.length := by
              have := (List.getElem?_eq_some_iff.mp ek).1
              have := Reps.length r
              omega
            obtain ⟨d', e1, q'⟩ := r.get (List.getElem?_eq_getElem hlt)
            rw [ek] at e1; cases e1
            exact ⟨_, List.getElem?_eq_getElem hlt, q'⟩
    | _ => cases e
  | _ => cases e
def loopA (i : Nat) (g : GD) (body : M Fl) : Nat → Nat → M Fl
  | 0, _, _ => .no
  | n + 1, k, e => match e[i]? with
    | some (some o) => match itemO o k with
      | none => .no
      | some none => .ok .nx e
      | some (some x) => match g (.pu x) e with
        | none => .no
        | some e1 => match body e1 with
          | .ok .nx e2 => loopA i g body n (k + 1) e2
          | .ok .ct e2 => loopA i g body n (k + 1) e2
          | .ok .bk e2 => .ok .nx e2
          | .ok (.rt r) e2 => .ok (.rt r) e2
          | .ex x e2 => .ex x e2
          | .no => .no
    | _ => .no
theorem PostS.wk {D : Ends} (h : ∀ j, io j = true → io' j = true) : ∀ {o : Out Fl}, PostS K E io Z τ T σ D o → PostS K E io' Z τ T σ D o
  | .ok .nx env, q => fun σ' H1 Z1 F1 s1 p => q σ' H1 Z1 F1 s1 ⟨p.1, fun i hi => p.2 i (h i hi)⟩
  | .ok .bk env, q => fun σ' H1 Z1 F1 s1 p => q σ' H1 Z1 F1 s1 ⟨p.1, fun i hi => p.2 i (h i hi)⟩
  | .ok .ct env, q => fun σ' H1 Z1 F1 s1 p => q σ' H1 Z1 F1 s1 ⟨p.1, fun i hi => p.2 i (h i hi)⟩
  | .ok (.rt o) env, q => fun v σ' H1 Z1 F1 s1 p => q v σ' H1 Z1 F1 s1 ⟨p.1, fun i hi => p.2 i (h i hi)⟩
  | .ex x env, q => fun σ' p => q σ' ⟨p.1, fun i hi => p.2 i (h i hi)⟩
  | .no, q => q
abbrev ioA (i : Nat) (io : Nat → Bool) : Nat → Bool := fun j => j == i || io j
theorem forA_imp {i n : Nat} {g : GD} {tg : TG} {body : M Fl} {tb : TS} (hg : ∀ v σ H Q, tG K (ioA i io) g v σ H Q → tg v σ H Q) (hb : ∀ D σ H, tS K E (ioA i io) body D σ H → tb D σ H) {D : Ends} {σ : St} {H : Hp}
    (h : tS K E io (loopA i g body n 0) D σ H) : tFor (iList K (tVar i)) tg tb D σ H := by
  obtain ⟨Z, τ, T, env, F, ok, hl, post⟩ := h
  have hio : ∀ j, io j = true → ioA i io j = true := fun j hj => by simp [ioA, hj]
  have post := PostS.wk hio post
  -- the name holds a list
  have st : ∃ a vs, σ[i]? = some (some (.ref a)) ∧ SqL K H a vs := by
    cases n with
    | zero => exact post.elim
    | succ n =>
      unfold loopA at post
      split at post
      · rename_i o e
        obtain ⟨v, A, B, hv, q, _⟩ := ok.slot hl e
        split at post
        · exact post.elim
        · rename_i e1
          obtain ⟨a, vs, rfl, hs, _⟩ := item_ok ok.sub q e1
          exact ⟨a, vs, hv, hs⟩
        · rename_i x e1
          obtain ⟨a, vs, rfl, hs, _⟩ := item_ok ok.sub q e1
          exact ⟨a, vs, hv, hs⟩
      · exact post.elim
  obtain ⟨a, vs0, ha, hs0⟩ := st
  refine ⟨.ref a, ha, a, rfl, ⟨vs0, hs0⟩, ?_⟩
  refine ⟨fun k m σ' H' => ∃ (Z' : Hp) (e' : Ws.Env) (F' : Fp), Same Z Z' ∧ Pin (ioA i io) σ σ' ∧ Ok K Z' H' (τ ++ σ') (T ++ e') F' ∧ PostS K E (ioA i io) Z' τ T σ' D (loopA i g body m k e'),
    ⟨n, Z, env, F, Same.refl _, Pin.refl σ, ok, post⟩, ?_⟩
  rintro k m σ' H' ⟨Z', e', F', s', p', ok', post'⟩
  cases m with
  | zero => exact post'.elim
  | succ m =>
    unfold loopA at post'
    split at post'
    · rename_i o e
      obtain ⟨v, A, B, hv, q, _⟩ := ok'.slot hl e
      have hv2 : σ'[i]? = some (some (.ref a)) := by rw [p'.2 i (by simp [ioA]), ha]
      rw [hv2] at hv
      cases hv
      split at post'
      · exact post'.elim
      · rename_i e1
        obtain ⟨a', vs, ea, hs, it⟩ := item_ok ok'.sub q e1
        cases ea
        exact .inl ⟨⟨vs, hs, it⟩, post' σ' H' Z' F' (Same.refl _) (Pin.refl σ') ok'⟩
      · rename_i x e1
        obtain ⟨a', vs, ea, hs, y, ey, ry⟩ := item_ok ok'.sub q e1
        cases ea
        refine .inr ⟨⟨vs, y, hs, ey⟩, fun σ2 H2 => ∃ (Z2 : Hp) (e2 : Ws.Env) (F2 : Fp), Same Z Z2 ∧ Pin (ioA i io) σ σ2 ∧ Ok K Z2 H2 (τ ++ σ2) (T ++ e2) F2 ∧ PostS K E (ioA i io) Z2 τ T σ2 D (loopA i g body m (k + 1) e2), fun σ2 H2 q => ⟨m, by omega, q⟩, fun x' H2 yl => ?_⟩
        obtain ⟨rfl, hx⟩ := yl
        have := hx vs hs
        rw [ey] at this
        cases this
        split at post'
        · exact post'.elim
        · rename_i e2 eg
          refine hg y σ' H2 _ ⟨Z', τ, T, e', e2, F', .pu x, ok'.pure ry, hl, eg, fun σ3 H3 Z4 F3 s4 p3 ok3 => ?_⟩
          refine hb _ σ3 H3 ⟨Z4, τ, T, e2, F3, ok3, hl, ?_⟩
          have post2 := (PostS.mono s4 post').pin p3
          cases eb : body e2 with
          | no => simp only [eb] at post2; exact post2
          | ex x e3 => simp only [eb] at post2; exact post2
          | ok fl e3 =>
            simp only [eb] at post2
            cases fl with
            | nx => exact fun σ5 H5 Z5 F5 s5 p5 ok5 => ⟨Z5, e3, F5, (s'.trans s4).trans s5, (p'.trans p3).trans p5, ok5, (PostS.mono s5 post2).pin p5⟩
            | ct => exact fun σ5 H5 Z5 F5 s5 p5 ok5 => ⟨Z5, e3, F5, (s'.trans s4).trans s5, (p'.trans p3).trans p5, ok5, (PostS.mono s5 post2).pin p5⟩
            | bk => exact post2
            | rt r => exact post2
    · exact post'.elim
/-! comprehensions over such -/
def loopCA (i : Nat) (own : List Nat) (g : GD) (c : M Bool) (elt : M O) : Nat → Nat → List O → Ws.Env → Out (List O)
  | 0, _, _, _ => .no
  | n + 1, k, acc, e => match e[i]? with
    | some (some o) => match itemO o k with
      | none => .no
      | some none => .ok acc e
      | some (some x) => match g (.pu x) (wipeE e own) with
        | none => .no
        | some e1 => match c e1 with
          | .ok false e2 => loopCA i own g c elt n (k + 1) acc (wipeE e2 own)
          | .ok true e2 => (match elt e2 with
            | .ok y e3 => if acc.length < 100000 then loopCA i own g c elt n (k + 1) (acc ++ [y]) (wipeE e3 own) else .no
            | _ => .no)
          | _ => .no
    | _ => .no
def lcK (own : List Nat) : Out (List O) → Out O
  | .ok acc e1 => .ok (.li acc) (wipeE e1 own)
  | _ => .no
@[simp] theorem lcK_ok (own : List Nat) (acc : List O) (e : Ws.Env) : lcK own (.ok acc e) = .ok (.li acc) (wipeE e own) := rfl
@[simp] theorem lcK_no (own : List Nat) : lcK own .no = .no := rfl
def eLcA (i n : Nat) (own : List Nat) (g : GD) (c : M Bool) (elt : M O) : M O := fun env => lcK own (loopCA i own g c elt n 0 [] env)
@[simp] theorem eLcA.c (i n : Nat) (own : List Nat) (g : GD) (c : M Bool) (elt : M O) {z : Option O} {zs : Ws.Env} : eLcA i n own g c elt (z :: zs) = lcK own (loopCA i own g c elt n 0 [] (z :: zs)) := rfl
theorem wipe_pin {own : List Nat} {σ3 σ : St} (p3 : Pin (fun i => !own.contains i) (L2.wipe σ own) σ3) : L2.wipe σ3 own = L2.wipe σ own := by
  apply List.ext_getElem?
  intro j
  have e1 : (L2.wipe σ3 own).length = (L2.wipe σ own).length := by rw [wipe_length, p3.1]
  by_cases c : j ∈ own
  · have n1 : ∀ (s : St) (is : List Nat), j ∈ is → (L2.wipe s is)[j]? = if j < s.length then some none else none := by
      intro s is
      induction is with
      | nil => intro h; cases h
      | cons k ks ih =>
        intro h
        show ((L2.wipe s ks).set k none)[j]? = _
        by_cases ck : k = j
        · subst ck
          by_cases hk : k < s.length
          · rw [List.getElem?_set_self (by rw [wipe_length]; exact hk), if_pos hk]
          · rw [List.getElem?_eq_none (by rw [List.length_set, wipe_length]; omega), if_neg hk]
        · rw [List.getElem?_set_ne ck]
          exact ih ((List.mem_cons.mp h).resolve_left fun e => ck e.symm)
    rw [n1 σ3 own c, n1 σ own c]
    have : σ3.length = σ.length := by rw [p3.1, wipe_length]
    rw [this]
  · have n2 : ∀ (s : St) (is : List Nat), j ∉ is → (L2.wipe s is)[j]? = s[j]? := by
      intro s is
      induction is with
      | nil => intro _; rfl
      | cons k ks ih =>
        intro h
        show ((L2.wipe s ks).set k none)[j]? = _
        rw [List.getElem?_set_ne (fun e : k = j => h (by rw [e]; exact List.mem_cons_self))]
        exact ih fun hm => h (List.mem_cons_of_mem _ hm)
    rw [n2 σ3 own c, p3.2 j (by simpa using c)]
theorem lcA_imp {i n : Nat} {own : List Nat} {g : GD} {tg : TG} {c : M Bool} {tc : TT} {elt : M O} {te : TE} (hg : ∀ v σ H Q, tG K (fun i => !own.contains i) g v σ H Q → tg v σ H Q)
    (hc : ∀ σ H Q, tT K E0 c σ H Q → tc σ H Q) (he : ∀ σ H Q, tE K E0 elt σ H Q → te σ H Q) {σ : St} {H : Hp} {Q : VK} (h : tE K E (eLcA i n own g c elt) σ H Q) : tLc (iList K (tVar i)) tg tc te own σ H Q := by
  obtain ⟨Z, τ, T, env, F, ok, hl, post⟩ := h
  have post : PostE K E Z τ T σ Q (lcK own (loopCA i own g c elt n 0 [] env)) := post
  have st : ∃ a vs, σ[i]? = some (some (.ref a)) ∧ SqL K H a vs := by
    cases n with
    | zero => exact post.elim
    | succ n =>
      unfold loopCA at post
      split at post
      · rename_i o e
        obtain ⟨v, A, B, hv, q, _⟩ := ok.slot hl e
        split at post
        · exact post.elim
        · rename_i e1
          obtain ⟨a, vs, rfl, hs, _⟩ := item_ok ok.sub q e1
          exact ⟨a, vs, hv, hs⟩
        · rename_i x e1
          obtain ⟨a, vs, rfl, hs, _⟩ := item_ok ok.sub q e1
          exact ⟨a, vs, hv, hs⟩
      · exact post.elim
  obtain ⟨a, vs0, ha, hs0⟩ := st
  refine ⟨.ref a, ha, a, rfl, ⟨vs0, hs0⟩, fun D hD => ?_⟩
  have ok2 := Ok.newL (vs := []) (os := []) (F1 := fun _ => 0) (F2 := F) ok ok.sl .nil (fun b => by simp) hD
  refine ⟨fun k m H' => ∃ (Z' : Hp) (acc : List O) (e' : Ws.Env) (F' : Fp), Same Z Z' ∧ Ok K Z' H' (some (.ref D) :: (τ ++ σ)) (some (.li acc) :: (T ++ e')) F' ∧
      PostE K E Z' τ T σ Q (lcK own (loopCA i own g c elt m k acc e')),
    ⟨n, Z, [], env, _, Same.refl _, ok2, post⟩, ?_⟩
  rintro k m H' ⟨Z', acc, e', F', s', ok', post'⟩
  cases m with
  | zero => exact post'.elim
  | succ m =>
    unfold loopCA at post'
    split at post'
    · rename_i o e
      obtain ⟨v, A, B, hv, q, _⟩ := Ok.slot (τ := some (.ref D) :: τ) (T := some (.li acc) :: T) ok' (by simp [hl]) e
      rw [ha] at hv
      cases hv
      split at post'
      · exact post'.elim
      · rename_i e1
        obtain ⟨a', vs, ea, hs, it⟩ := item_ok ok'.sub q e1
        cases ea
        refine .inl ⟨⟨vs, hs, it⟩, ?_⟩
        have ok9 := Ok.swapW (τ := some (.ref D) :: τ) (T := some (.li acc) :: T) (σ' := σ) own (by simp [hl]) rfl ok'
        exact post' _ H' Z' F' (Same.refl _) ok9
      · rename_i x e1
        obtain ⟨a', vs, ea, hs, y, ey, ry⟩ := item_ok ok'.sub q e1
        cases ea
        refine .inr ⟨⟨vs, y, hs, ey⟩, fun H2 => ∃ (Z2 : Hp) (acc : List O) (e2 : Ws.Env) (F2 : Fp), Same Z Z2 ∧ Ok K Z2 H2 (some (.ref D) :: (τ ++ σ)) (some (.li acc) :: (T ++ e2)) F2 ∧
          PostE K E Z2 τ T σ Q (lcK own (loopCA i own g c elt m (k + 1) acc e2)), fun H2 q => ⟨m, by omega, q⟩, fun x' H2 yl => ?_⟩
        obtain ⟨rfl, hx⟩ := yl
        have := hx vs hs
        rw [ey] at this
        cases this
        cases eg : g (.pu x) (wipeE e' own) with
        | none => rw [eg] at post'; exact post'.elim
        | some e2 =>
        simp only [eg] at post'
        have okw := Ok.wipe (τ := some (.ref D) :: τ) (T := some (.li acc) :: T) own (by simp [hl]) ok'
        refine hg y _ H2 _ ⟨Z', some (.ref D) :: τ, some (.li acc) :: T, wipeE e' own, e2, F', .pu x, okw.pure ry, by simp [hl], eg, fun σ3 H3 Z4 F3 s4 p3 ok3 => ?_⟩
        have hw : L2.wipe σ3 own = L2.wipe σ own := wipe_pin p3
        refine ⟨hw, hc σ3 H3 _ ⟨Z4, some (.ref D) :: τ, some (.li acc) :: T, e2, F3, ok3, by simp [hl], ?_⟩⟩
        have post2 := PostE.mono s4 post'
        cases ec : c e2 with
        | no => simp only [ec] at post2; exact post2.elim
        | ex x e3 => simp only [ec] at post2; exact post2.elim
        | ok b e3 =>
        intro H5 Z5 F5 s5 ok5
        cases b with
        | false =>
          simp only [ec] at post2
          show ∃ (Z2 : Hp) (acc : List O) (e2 : Ws.Env) (F2 : Fp), _
          have ok6 := Ok.swapW (τ := some (.ref D) :: τ) (T := some (.li acc) :: T) own (by simp [hl]) hw ok5
          exact ⟨Z5, acc, _, F5, (s'.trans s4).trans s5, ok6, PostE.mono s5 post2⟩
        | true =>
          simp only [ec] at post2
          show te σ3 H5 _
          refine he σ3 H5 _ ⟨Z5, some (.ref D) :: τ, some (.li acc) :: T, e3, F5, ok5, by simp [hl], ?_⟩
          cases ee : elt e3 with
          | no => simp only [ee] at post2; exact post2.elim
          | ex x e4 => simp only [ee] at post2; exact post2.elim
          | ok yo e4 =>
            simp only [ee] at post2
            by_cases hz : acc.length < 100000
            · simp only [if_pos hz] at post2
              intro y H6 Z6 F6 s6 ok6
              obtain ⟨vs, hD6, hlen, ok7⟩ := Ok.addTop ok6
              refine ⟨vs, hD6, Nat.lt_of_lt_of_le (by omega : vs.length < 100000) (by decide), ?_⟩
              have ok8 := Ok.swapW (τ := some (.ref D) :: τ) (T := some (.li (acc ++ [yo])) :: T) own (by simp [hl]) hw ok7
              exact ⟨Z6, acc ++ [yo], _, F6, ((s'.trans s4).trans s5).trans s6, ok8, PostE.mono (s5.trans s6) post2⟩
            · simp only [if_neg hz] at post2
              exact post2.elim
    · exact post'.elim
end
section
variable {X : Cx} {E : XK} {io : Nat → Bool} {i n : Nat} {a tg elt cnd : Expr} {sts : List Stmt} {pos : Pos} {g : GD} {s1 : M Fl} {me : M O} {mc : M Bool}
theorem s_forA (n : Nat) (hp : PassesOwn (model X.prog X.w) X.A X.env X.xe) (hc : X.calm = true) (ha : PE X a (tVar i)) (hg : VG X (ioA i io) tg g) (hb : VB X E (ioA i io) sts s1) (hs : ∀ x, foldedSetIterable a X.env x = Pure.pure x := by intro _; rfl) : VS X E io (.For tg a sts [] pos) (loopA i g s1 n 0) := (ps_for hp hc (pi_list ha) hg hb hs).weak fun _ _ _ => forA_imp (fun _ _ _ _ h => h) fun _ _ _ h => h
theorem v_lcA (n : Nat) {scope : Scope} {own : List (Str × Nat)} (hc : X.calm = true) (hN : X.N.Nodup) (ha : PE X a (tVar i)) (ok : BlkOk X.N X.env.scope scope own)
    (hg : ∀ s H C cl fp, VG (Blk X scope s H C cl fp) (fun i => !(own.map (·.2)).contains i) tg g) (he : ∀ s H C cl fp, VE (Blk X scope s H C cl fp) E0 elt me) (hs : ∀ x, foldedSetIterable a X.env x = Pure.pure x := by intro _; rfl) :
    VE X E (.ListComp elt [⟨tg, a, [], 0⟩] scope pos) (eLcA i n (own.map (·.2)) g cYes me) :=
  (pe_lc (tt := tT X.K E0 cYes) hc hN (pi_list ha) ok hg (fun _ _ _ _ _ => ⟨fun pins s σ H Q I h => pts_nil.run pins s σ H Q I (yes_imp h)⟩) he hs).weak fun _ _ _ => lcA_imp (fun _ _ _ _ h => h) (fun _ _ _ h => h) fun _ _ _ h => h
theorem v_lcIfA (n : Nat) {scope : Scope} {own : List (Str × Nat)} (hc : X.calm = true) (hN : X.N.Nodup) (ha : PE X a (tVar i)) (ok : BlkOk X.N X.env.scope scope own)
    (hg : ∀ s H C cl fp, VG (Blk X scope s H C cl fp) (fun i => !(own.map (·.2)).contains i) tg g) (ht : ∀ s H C cl fp, VT (Blk X scope s H C cl fp) E0 cnd mc) (he : ∀ s H C cl fp, VE (Blk X scope s H C cl fp) E0 elt me) (hs : ∀ x, foldedSetIterable a X.env x = Pure.pure x := by intro _; rfl) :
    VE X E (.ListComp elt [⟨tg, a, [cnd], 0⟩] scope pos) (eLcA i n (own.map (·.2)) g mc me) :=
  (pe_lc (tt := tT X.K E0 mc) hc hN (pi_list ha) ok hg (fun s H C cl fp => pts_one (ht s H C cl fp)) he hs).weak fun _ _ _ => lcA_imp (fun _ _ _ _ h => h) (fun _ _ _ h => h) fun _ _ _ h => h
theorem s_setLcIf {mi : M (List D)} {i : Nat} {y : Str} {py p : Pos} {scope : Scope} {own : List (Str × Nat)} (hc : X.calm = true) (hN : X.N.Nodup) (hy : X.N[i]? = some y) (hyl : X.env.scope.names.lookup y = some .local)
    (hsw : swapsWith (.ListComp elt [⟨tg, a, [cnd], 0⟩] scope p) (some (.Name y py)) pos.line X.env = Pure.pure true) (hi : VI X E tg a mi) (ok : BlkOk X.N X.env.scope scope own)
    (hg : ∀ s H C cl fp, VG (Blk X scope s H C cl fp) (fun i => !(own.map (·.2)).contains i) tg g) (ht : ∀ s H C cl fp, VT (Blk X scope s H C cl fp) E0 cnd mc) (he : ∀ s H C cl fp, VE (Blk X scope s H C cl fp) E0 elt me) (hio : io i = false := by rfl) (hs : ∀ x, foldedSetIterable a X.env x = Pure.pure x := by intro _; rfl) :
    VS X E io (.Assign [.Name y py] (.ListComp elt [⟨tg, a, [cnd], 0⟩] scope p) pos) (sAsg (eLc (own.map (·.2)) mi g mc me) (gN i)) :=
  (ps_setLc (tt := tT X.K E0 mc) hc hN hy hyl hsw hi ok hg (fun s H C cl fp => pts_one (ht s H C cl fp)) he hs).weak fun _ _ _ => asg_imp (fun _ _ _ => lc_imp (fun _ _ _ h => h) (fun _ _ _ _ h => h) (fun _ _ _ h => h) fun _ _ _ h => h) fun _ _ _ _ => gN_imp hio
theorem s_setLcA (n : Nat) {q : Nat} {i : Nat} {y : Str} {py p : Pos} {scope : Scope} {own : List (Str × Nat)} (hc : X.calm = true) (hN : X.N.Nodup) (hy : X.N[i]? = some y) (hyl : X.env.scope.names.lookup y = some .local)
    (hsw : swapsWith (.ListComp elt [⟨tg, a, [], 0⟩] scope p) (some (.Name y py)) pos.line X.env = Pure.pure true) (ha : PE X a (tVar q)) (ok : BlkOk X.N X.env.scope scope own)
    (hg : ∀ s H C cl fp, VG (Blk X scope s H C cl fp) (fun i => !(own.map (·.2)).contains i) tg g) (he : ∀ s H C cl fp, VE (Blk X scope s H C cl fp) E0 elt me) (hio : io i = false := by rfl) (hs : ∀ x, foldedSetIterable a X.env x = Pure.pure x := by intro _; rfl) :
    VS X E io (.Assign [.Name y py] (.ListComp elt [⟨tg, a, [], 0⟩] scope p) pos) (sAsg (eLcA q n (own.map (·.2)) g cYes me) (gN i)) :=
  (ps_setLc (tt := tT X.K E0 cYes) hc hN hy hyl hsw (pi_list ha) ok hg (fun _ _ _ _ _ => ⟨fun pins s σ H Q I h => pts_nil.run pins s σ H Q I (yes_imp h)⟩) he hs).weak fun _ _ _ => asg_imp (fun _ _ _ => lcA_imp (fun _ _ _ _ h => h) (fun _ _ _ h => h) fun _ _ _ h => h) fun _ _ _ _ => gN_imp hio
theorem s_setLcIfA (n : Nat) {q : Nat} {i : Nat} {y : Str} {py p : Pos} {scope : Scope} {own : List (Str × Nat)} (hc : X.calm = true) (hN : X.N.Nodup) (hy : X.N[i]? = some y) (hyl : X.env.scope.names.lookup y = some .local)
    (hsw : swapsWith (.ListComp elt [⟨tg, a, [cnd], 0⟩] scope p) (some (.Name y py)) pos.line X.env = Pure.pure true) (ha : PE X a (tVar q)) (ok : BlkOk X.N X.env.scope scope own)
    (hg : ∀ s H C cl fp, VG (Blk X scope s H C cl fp) (fun i => !(own.map (·.2)).contains i) tg g) (ht : ∀ s H C cl fp, VT (Blk X scope s H C cl fp) E0 cnd mc) (he : ∀ s H C cl fp, VE (Blk X scope s H C cl fp) E0 elt me) (hio : io i = false := by rfl) (hs : ∀ x, foldedSetIterable a X.env x = Pure.pure x := by intro _; rfl) :
    VS X E io (.Assign [.Name y py] (.ListComp elt [⟨tg, a, [cnd], 0⟩] scope p) pos) (sAsg (eLcA q n (own.map (·.2)) g mc me) (gN i)) :=
  (ps_setLc (tt := tT X.K E0 mc) hc hN hy hyl hsw (pi_list ha) ok hg (fun s H C cl fp => pts_one (ht s H C cl fp)) he hs).weak fun _ _ _ => asg_imp (fun _ _ _ => lcA_imp (fun _ _ _ _ h => h) (fun _ _ _ h => h) fun _ _ _ h => h) fun _ _ _ _ => gN_imp hio
end
/-! ### how such loops run -/
@[simp] theorem itemO_pu (ds : List D) (k : Nat) : itemO (.pu (.lst ds)) k = some ds[k]? := rfl
@[simp] theorem itemO_map (ds : List D) (k : Nat) : itemO (.li (ds.map .pu)) k = some ds[k]? := by
  simp only [itemO, List.getElem?_map]
  cases ds[k]? <;> rfl
theorem itemO_mapf {α : Type} (f : α → D) (xs : List α) (k : Nat) : itemO (.li (xs.map fun x => .pu (f x))) k = some ((xs.map f)[k]?) := by
  simp only [itemO, List.getElem?_map]
  cases xs[k]? <;> rfl
theorem loopA_from {i : Nat} {g : GD} {body : M Fl} {ds : List D} (P : Nat → Ws.Env → Prop) (hp : ∀ k e, P k e → ∃ o, e[i]? = some (some o) ∧ itemO o k = some ds[k]?)
    (hs : ∀ k x e, ds[k]? = some x → P k e → ∃ e1, g (.pu x) e = some e1 ∧ NxP (P (k + 1)) (body e1)) : ∀ (n k : Nat) (e0 : Ws.Env), k ≤ ds.length → ds.length < n + k → P k e0 → ∃ e, loopA i g body n k e0 = .ok .nx e ∧ P ds.length e
  | 0, k, e0, h1, h2, _ => by omega
  | n + 1, k, e0, h1, h2, h0 => by
    obtain ⟨o, e1, e2⟩ := hp k e0 h0
    unfold loopA
    rw [e1]
    simp only [e2]
    cases ek : ds[k]? with
    | none =>
      have : k = ds.length := by have : ds.length ≤ k := by simpa using ek
                                 omega
      subst this
      exact ⟨e0, rfl, h0⟩
    | some x =>
      obtain ⟨e3, g1, e4, b1, p4⟩ := hs k x e0 ek h0
      simp only [g1, b1]
      have := (List.getElem?_eq_some_iff.mp ek).1
      exact loopA_from P hp hs n (k + 1) e4 this (by omega) p4
theorem loopA_ex {i n : Nat} {g : GD} {body : M Fl} {ds : List D} (P : Nat → Ws.Env → Prop) (hp : ∀ k e, P k e → ∃ o, e[i]? = some (some o) ∧ itemO o k = some ds[k]?)
    (hs : ∀ k x e, ds[k]? = some x → P k e → ∃ e1, g (.pu x) e = some e1 ∧ NxP (P (k + 1)) (body e1)) (hn : ds.length < n) {e0 : Ws.Env} (h0 : P 0 e0) : ∃ e, loopA i g body n 0 e0 = .ok .nx e ∧ P ds.length e :=
  loopA_from P hp hs n 0 e0 (Nat.zero_le _) hn h0
theorem loopCA_from {i : Nat} {own : List Nat} {g : GD} {c : M Bool} {elt : M O} {ds : List D} {p : D → Bool} {f : D → O} {e0 : Ws.Env} {o : O} (hw : wipeE e0 own = e0) (ho : e0[i]? = some (some o)) (hi : ∀ j, itemO o j = some ds[j]?)
    (h : ∀ x ∈ ds, ∃ e1, g (.pu x) e0 = some e1 ∧ ∃ e2, c e1 = .ok (p x) e2 ∧ (p x = false → wipeE e2 own = e0) ∧ (p x = true → ∃ e3, elt e2 = .ok (f x) e3 ∧ wipeE e3 own = e0)) :
    ∀ (n k : Nat) (acc : List O), k ≤ ds.length → ds.length < n + k → acc.length + (ds.length - k) ≤ 100000 → loopCA i own g c elt n k acc e0 = .ok (acc ++ ((ds.drop k).filter p).map f) e0
  | 0, k, acc, h1, h2, _ => by omega
  | n + 1, k, acc, h1, h2, h3 => by
    unfold loopCA
    rw [ho]
    simp only [hi, hw]
    cases ek : ds[k]? with
    | none =>
      have : ds.length ≤ k := by simpa using ek
      rw [List.drop_eq_nil_of_le this]
      simp
    | some x =>
      have hk := (List.getElem?_eq_some_iff.mp ek).1
      obtain ⟨e1, a1, e2, a2, a3, a4⟩ := h x (List.mem_of_getElem? ek)
      simp only [a1, a2]
      rw [drop_lt ek]
      cases hp : p x with
      | false =>
        simp only [a3 hp]
        rw [loopCA_from hw ho hi h n (k + 1) acc hk (by omega) (by omega)]
        simp [hp]
      | true =>
        obtain ⟨e3, a5, a6⟩ := a4 hp
        have hl : acc.length < 100000 := by omega
        simp only [a5, if_pos hl, a6]
        rw [loopCA_from hw ho hi h n (k + 1) (acc ++ [f x]) hk (by omega) (by simp; omega)]
        simp [hp]
theorem loopCA_pure {i n : Nat} {own : List Nat} {g : GD} {c : M Bool} {elt : M O} {ds : List D} (p : D → Bool) (f : D → O) {e0 : Ws.Env} {o : O} (hw : wipeE e0 own = e0) (ho : e0[i]? = some (some o)) (hi : ∀ j, itemO o j = some ds[j]?)
    (h : ∀ x ∈ ds, ∃ e1, g (.pu x) e0 = some e1 ∧ ∃ e2, c e1 = .ok (p x) e2 ∧ (p x = false → wipeE e2 own = e0) ∧ (p x = true → ∃ e3, elt e2 = .ok (f x) e3 ∧ wipeE e3 own = e0)) (hn : ds.length < n) (hl : ds.length ≤ 100000) : loopCA i own g c elt n 0 [] e0 = .ok ((ds.filter p).map f) e0 := by
  rw [loopCA_from hw ho hi h n 0 [] (Nat.zero_le _) hn (by simpa using hl)]
  simp
theorem loopC_from {own : List Nat} {g : GD} {c : M Bool} {elt : M O} {p : D → Bool} {f : D → O} {e0 : Ws.Env} (hw : wipeE e0 own = e0) : ∀ {ds : List D} {acc : List O}, acc.length + ds.length ≤ 100000 →
    (∀ x ∈ ds, ∃ e1, g (.pu x) e0 = some e1 ∧ ∃ e2, c e1 = .ok (p x) e2 ∧ (p x = false → wipeE e2 own = e0) ∧ (p x = true → ∃ e3, elt e2 = .ok (f x) e3 ∧ wipeE e3 own = e0)) → loopC own g c elt ds acc e0 = .ok (acc ++ (ds.filter p).map f) e0
  | [], acc, _, _ => by simp [loopC]
  | x :: xs, acc, h3, h => by
    obtain ⟨e1, a1, e2, a2, a3, a4⟩ := h x (by simp)
    rw [loopC, hw, a1]
    simp only [a2]
    simp at h3
    cases hp : p x with
    | false =>
      simp only [a3 hp]
      rw [loopC_from hw (by omega) fun y hy => h y (by simp [hy])]
      simp [hp]
    | true =>
      obtain ⟨e3, a5, a6⟩ := a4 hp
      have hl : acc.length < 100000 := by omega
      simp only [a5, if_pos hl, a6]
      rw [loopC_from hw (by simp; omega) fun y hy => h y (by simp [hy])]
      simp [hp]
theorem loopC_filter {own : List Nat} {g : GD} {c : M Bool} {elt : M O} (p : D → Bool) (f : D → O) {e0 : Ws.Env} (hw : wipeE e0 own = e0) {ds : List D} (hl : ds.length ≤ 100000)
    (h : ∀ x ∈ ds, ∃ e1, g (.pu x) e0 = some e1 ∧ ∃ e2, c e1 = .ok (p x) e2 ∧ (p x = false → wipeE e2 own = e0) ∧ (p x = true → ∃ e3, elt e2 = .ok (f x) e3 ∧ wipeE e3 own = e0)) : loopC own g c elt ds [] e0 = .ok ((ds.filter p).map f) e0 := by
  rw [loopC_from hw (by simpa using hl) h]
  simp
end Ws

namespace Ws
open PySem L2
/-! ### the module's own values, nested -/
def RepU (K : PySem.W.Frag) (u : Value) (d : D) : Prop := ∃ v : V, RelV v u ∧ ∀ Z, Rep K Z v d
inductive RepUs (K : PySem.W.Frag) : List Value → List D → Prop
  | nil : RepUs K [] []
  | cons {u : Value} {us : List Value} {d : D} {ds : List D} : RepU K u d → RepUs K us ds → RepUs K (u :: us) (d :: ds)
section
variable {K : PySem.W.Frag} {w : World} {h : Heap} {mg : Str → Option Value} {x : Str} {u : Value} {d : D} {a : Addr} {dd : Option Addr} {its : Array Value} {n : Nat} {sl : Array (Option Value)} {ds : List D} {us : List Value}
theorem RepU.sc (c : scB u d = true) : RepU K u d := sc_rep c
theorem RepUs.all : ∀ {us : List Value} {ds : List D}, RepUs K us ds → ∃ vs : List V, Vals vs us ∧ ∀ Z, Reps K Z vs ds
  | _, _, .nil => ⟨[], .nil, fun _ => .nil⟩
  | _, _, .cons ⟨v, r, q⟩ t => by
    obtain ⟨vs, rs, qs⟩ := t.all
    exact ⟨v :: vs, .cons r rs, fun Z => .cons (q Z) (qs Z)⟩
theorem RepU.tup (l : K.lookup a = some ⟨.type "tuple", dd, .seq its n, sl⟩) (e : its.toList = us) (z : its.size ≤ 1000) (h : RepUs K us ds) : RepU K (.ref a) (.tup ds) := by
  obtain ⟨vs, r, q⟩ := h.all
  subst e
  exact ⟨.ref a, rfl, fun Z => .tup (.inr ⟨_, its, n, l, rfl, rfl, Nat.le_of_lt (small1000 z), r⟩) (q Z)⟩
theorem RepU.tups (l : K.lookup a = some ⟨.type "tuple", dd, .seq its n, sl⟩) (c : scsB its.toList ds = true) (z : its.size ≤ 1000) : RepU K (.ref a) (.tup ds) := by
  obtain ⟨vs, r, q⟩ := scs_rep (K := K) c
  exact ⟨.ref a, rfl, fun Z => .tup (.inr ⟨_, its, n, l, rfl, rfl, Nat.le_of_lt (small1000 z), r⟩) (q Z)⟩
theorem glob_u (X : K.In h) (G : h.Ns mainGlobals mg) (e : PySem.W.nsIn K mainGlobals x = some (some u)) (r : RepU K u d) : GlobD K mg x d := by
  obtain ⟨v, r, q⟩ := r
  exact ⟨u, v, PySem.W.mg_of X G e, r, q⟩
theorem strs_rep : ∀ {us : List Value} {ss : List Str}, scsB us (ss.map .str) = true → Vals (ss.map V.str) us
  | [], [], _ => .nil
  | u :: us, s :: ss, h => by
    simp only [List.map_cons, scsB, Bool.and_eq_true] at h
    have h1 := h.1
    cases u <;> simp [scB] at h1
    subst h1
    exact .cons ⟨_, rfl⟩ (strs_rep h.2)
  | [], _ :: _, h => by simp [scsB] at h
  | _ :: _, [], h => by simp [scsB] at h
theorem glob_t {ss : List Str} (X : K.In h) (G : h.Ns mainGlobals mg) (e : PySem.W.nsIn K mainGlobals x = some (some (.ref a))) (l : K.lookup a = some ⟨.type "tuple", none, .seq its n, sl⟩) (c : scsB its.toList (ss.map .str) = true) (z : its.size ≤ 1000) : GlobT K mg x ss :=
  ⟨a, _, PySem.W.mg_of X G e, l, rfl, rfl, fun H => .inr ⟨_, its, n, l, rfl, rfl, Nat.le_of_lt (small1000 z), strs_rep c⟩⟩
/-! dicts with text keys -/
def keyB : List DictEntry → List Str → Bool
  | [], [] => true
  | e :: es, s :: ss => (match e.key with
    | .str x _ => x == s
    | _ => false) && keyB es ss
  | _, _ => false
def zipM : List Str → List D → List (D × D)
  | s :: ss, d :: ds => (.str s, d) :: zipM ss ds
  | _, _ => []
theorem find_m (z : Str) : ∀ {es : List DictEntry} {ss : List Str} {us : List Value} {ds : List D}, keyB es ss = true → es.map (·.val) = us → RepUs K us ds →
    (es.any (·.refKey) = false) ∧ match getK (zipM ss ds) (.inr z) with
    | some d => ∃ e, es.find? (fun e => e.key.isStr z) = some e ∧ RepU K e.val d
    | none => es.find? (fun e => e.key.isStr z) = none
  | [], [], _, _, _, e, r => by cases e; cases r; exact ⟨rfl, rfl⟩
  | e :: es, s :: ss, _, _, h, rfl, .cons (d := d) (ds := ds) r rs => by
    simp only [keyB, Bool.and_eq_true] at h
    obtain ⟨a, b⟩ := find_m z h.2 rfl rs
    cases ek : e.key with
    | str y t =>
      have h1 := h.1
      rw [ek] at h1
      have h1 : y = s := LawfulBEq.eq_of_beq h1
      subst h1
      refine ⟨by rw [List.any_cons, a]; simp [DictEntry.refKey, ek], ?_⟩
      have e1 : kIs (.inr z) (.str y) = (y == z) := by simp [kIs, Bool.beq_comm]
      have e2 : e.key.isStr z = (y == z) := by rw [ek]; rfl
      rw [zipM, getK_cons, e1, List.find?_cons, e2]
      cases c : (y == z) with
      | true => exact ⟨_, rfl, r⟩
      | false => exact b
    | _ => have h1 := h.1; rw [ek] at h1; cases h1
  | [], _ :: _, _, _, h, _, _ => by simp [keyB] at h
  | _ :: _, [], _, _, h, _, _ => by simp [keyB] at h
theorem glob_m {es : Array DictEntry} {ss : List Str} {kvs : List (D × D)} (X : K.In h) (G : h.Ns mainGlobals mg) (e : PySem.W.nsIn K mainGlobals x = some (some (.ref a))) (l : K.lookup a = some ⟨.type "dict", none, .dict es n, #[]⟩) (k : PySem.W.KeysLit w.params es.toList) (low : (a == sysModules) = false)
    (kb : keyB es.toList ss = true) (ev : es.toList.map (·.val) = us) (r : RepUs K us ds) (ez : kvs = zipM ss ds) : GlobM K w mg x kvs := by
  subst ez
  refine ⟨a, es, n, PySem.W.mg_of X G e, ⟨l, k, low⟩, fun z => ?_⟩
  obtain ⟨q1, q2⟩ := find_m z kb ev r
  cases hd : getK (zipM ss ds) (.inr z) with
  | some d =>
    rw [hd] at q2
    obtain ⟨en, f, v, r1, r2⟩ := q2
    refine ⟨en.val, v, ?_, r1, r2⟩
    unfold PySem.W.nsIn
    rw [l]
    simp only [f]
  | none =>
    rw [hd] at q2
    show PySem.W.nsIn K a z = some none
    unfold PySem.W.nsIn
    rw [l]
    have q2 : es.toList.find? (fun e => e.key.isStr z) = none := q2
    simp only [q2, q1]
    rfl
end
end Ws

namespace Ws
open PySem L2
/-! ### places: a name, then fields and items -/
inductive RS where
  | fld (cs : List Str) (n : Str) | key (k : L2.Key)
inductive PSt where
  | fld (cs : List Str) (n : Str) | num (k : Int) | str (s : Str) | var (j : Nat)
def varK : Option (Option O) → Option RS
  | some (some (.pu (.int k))) => some (.key (.inl k))
  | some (some (.pu (.str s))) => some (.key (.inr s))
  | _ => none
def PSt.res (e : Ws.Env) : PSt → Option RS
  | .fld cs n => some (.fld cs n)
  | .num k => some (.key (.inl k))
  | .str s => some (.key (.inr s))
  | .var j => varK e[j]?
def getF {α : Type} : List (Str × α) → Str → Option α
  | [], _ => none
  | (g, x) :: r, n => if g = n then some x else getF r n
def setF {α : Type} : List (Str × α) → Str → α → List (Str × α)
  | [], _, _ => []
  | (g, x) :: r, n, y => if g = n then (g, y) :: r else (g, x) :: setF r n y
def setK {α : Type} : List (D × α) → L2.Key → α → List (D × α)
  | [], _, _ => []
  | (q, x) :: r, k, y => if kIs k q = true then (q, y) :: r else (q, x) :: setK r k y
@[simp] theorem getF_nil {α : Type} (n : Str) : getF ([] : List (Str × α)) n = none := rfl
@[simp] theorem getF_cons {α : Type} (g n : Str) (x : α) (r : List (Str × α)) : getF ((g, x) :: r) n = if g = n then some x else getF r n := rfl
@[simp] theorem setF_nil {α : Type} (n : Str) (y : α) : setF [] n y = [] := rfl
@[simp] theorem setF_cons {α : Type} (g n : Str) (x y : α) (r : List (Str × α)) : setF ((g, x) :: r) n y = if g = n then (g, y) :: r else (g, x) :: setF r n y := rfl
@[simp] theorem setK_nil {α : Type} (k : L2.Key) (y : α) : setK ([] : List (D × α)) k y = [] := rfl
@[simp] theorem setK_cons {α : Type} (q : D) (k : L2.Key) (x y : α) (r : List (D × α)) : setK ((q, x) :: r) k y = if kIs k q = true then (q, y) :: r else (q, x) :: setK r k y := rfl
def O.sub : O → RS → Option O
  | .ob C fs, .fld cs n => if cs.contains C = true then getF fs n else none
  | .pu (.ins C fs), .fld cs n => if cs.contains C = true then (getF fs n).map .pu else none
  | .li os, .key (.inl k) => atI os k
  | .tu os, .key (.inl k) => atI os k
  | .di kvs, .key k => getK kvs k
  | .pu (.lst ds), .key (.inl k) => (atI ds k).map .pu
  | .pu (.tup ds), .key (.inl k) => (atI ds k).map .pu
  | .pu (.dct kvs), .key k => (getK kvs k).map .pu
  | _, _ => none
def O.putS : O → RS → O → O
  | .ob C fs, .fld _ n, x => .ob C (setF fs n x)
  | .li os, .key (.inl k), x => .li (match ixN os.length k with
    | some j => os.set j x
    | none => os)
  | .tu os, .key (.inl k), x => .tu (match ixN os.length k with
    | some j => os.set j x
    | none => os)
  | .di kvs, .key k, x => .di (setK kvs k x)
  | o, _, _ => o
/-- rs: the last step first -/
def getP (e : Ws.Env) (i : Nat) : List PSt → Option O
  | [] => (e[i]?).join
  | s :: r => (getP e i r).bind fun o => (s.res e).bind o.sub
def putP (e : Ws.Env) (i : Nat) : List PSt → O → Ws.Env
  | [], x => e.set i (some x)
  | s :: r, x => match getP e i r, s.res e with
    | some o, some q => putP e i r (o.putS q x)
    | _, _ => e
/-! the values -/
section
variable {K : PySem.W.Frag} {E : XK} {Z Z' H H' : Hp} {σ σ' σ1 τ ρ : St} {env env' T R : Ws.Env} {F G A : Fp} {Q Q' : VK} {v : V} {o o1 : O} {d : D}
variable (K H) in
def StepV (v : V) : RS → V → Prop
  | .fld cs n, w => ∃ a C cn dx fs, v = .ref a ∧ ClsN K cn C ∧ cs.contains cn = true ∧ H a = some (.ins C dx fs) ∧ getF fs n = some w
  | .key k, w => (∃ p xs i, k = .inl i ∧ v = .ref p ∧ (SqL K H p xs ∨ SqT K H p xs) ∧ atI xs i = some w) ∨ ∃ a ws, v = .ref a ∧ Rd H a (.dK ws) ∧ valV ws k = some w
theorem getF_lookup {α : Type} (n : Str) : ∀ fs : List (Str × α), getF fs n = fs.lookup n
  | [] => rfl
  | (g, x) :: r => by
    rw [getF_cons, List.lookup_cons, getF_lookup n r]
    by_cases h : g = n
    · subst h; simp
    · have : (n == g) = false := by
        cases q : (n == g)
        · rfl
        · exact absurd (LawfulBEq.eq_of_beq q).symm h
      simp [h, this]
theorem RepOs.sub : ∀ {vs : List V} {os : List O} {j : Nat} {A : Fp}, RepOs K Z H vs os A → os[j]? = some o1 → ∃ (w : V) (A1 B1 : Fp), vs[j]? = some w ∧ RepO K Z H w o1 A1 ∧ (∀ b, A1 b + B1 b ≤ A b) ∧
    ∀ {Z' H' : Hp} {o' : O} {A' G : Fp}, Le K Z Z' → (∀ b, 0 < B1 b → H' b = H b) → RepO K Z' H' w o' A' → (∀ b, A' b + B1 b ≤ G b) → RepOs K Z' H' vs (os.set j o') G
  | _, _, _, _, .nil, e => by simp at e
  | _, _, 0, _, .cons (F1 := A) (F2 := B) q r i, e => by
    simp at e; subst e
    exact ⟨_, A, B, rfl, q, i, fun m k q' g => .cons q' (r.mono m k fun b => Nat.le_refl _) g⟩
  | _, _, j + 1, _, .cons (F1 := A) (F2 := B) q r i, e => by
    obtain ⟨w, A1, B1, a, b, c, d⟩ := RepOs.sub (j := j) r (by simpa using e)
    refine ⟨w, A1, fun b => A b + B1 b, by simpa using a, b, fun b => by have := i b; have := c b; show A1 b + (A b + B1 b) ≤ _; omega, fun {Z' H' o' A' G} m k q' g => ?_⟩
    exact .cons (F2 := fun b => A' b + B1 b) (q.mono m (fun b z => k b (by show 0 < A b + B1 b; omega)) fun b => Nat.le_refl _) (d m (fun b z => k b (by show 0 < A b + B1 b; omega)) q' fun b => Nat.le_refl _) fun b => by have : A' b + (A b + B1 b) ≤ G b := g b; show A b + (A' b + B1 b) ≤ G b; omega
theorem RepOk.sub {k : L2.Key} : ∀ {ws : List (L2.Key × V)} {kvs : List (D × O)} {A : Fp}, RepOk K Z H ws kvs A → getK kvs k = some o1 → ∃ (w : V) (A1 B1 : Fp), valV ws k = some w ∧ RepO K Z H w o1 A1 ∧ (∀ b, A1 b + B1 b ≤ A b) ∧
    ∀ {Z' H' : Hp} {o' : O} {A' G : Fp}, Le K Z Z' → (∀ b, 0 < B1 b → H' b = H b) → RepO K Z' H' w o' A' → (∀ b, A' b + B1 b ≤ G b) → RepOk K Z' H' ws (setK kvs k o') G
  | _, _, _, .nil, e => by cases e
  | _, _, _, .cons (k := k') (v := v) (ws := ws) (o := o2) (kvs := kvs) (F1 := A) (F2 := B) q r i, e => by
    by_cases hk : k' = k
    · have hc : kIs k (keyD k') = true := by rw [kIs_key]; simpa using hk
      rw [getK_cons, if_pos hc] at e
      cases e
      refine ⟨v, A, B, valV_pos hk, q, i, fun m kk q' g => ?_⟩
      rw [setK_cons, if_pos hc]
      exact .cons q' (r.mono m kk fun b => Nat.le_refl _) g
    · have hc : ¬ kIs k (keyD k') = true := by rw [kIs_key]; simpa using hk
      rw [getK_cons, if_neg hc] at e
      obtain ⟨w, A1, B1, a, b, c, d⟩ := RepOk.sub r e
      refine ⟨w, A1, fun b => A b + B1 b, by rw [valV_neg hk]; exact a, b, fun b => by have := i b; have := c b; show A1 b + (A b + B1 b) ≤ _; omega, fun {Z' H' o' A' G} m kk q' g => ?_⟩
      rw [setK_cons, if_neg hc]
      exact .cons (F2 := fun b => A' b + B1 b) (q.mono m (fun b z => kk b (by show 0 < A b + B1 b; omega)) fun b => Nat.le_refl _) (d m (fun b z => kk b (by show 0 < A b + B1 b; omega)) q' fun b => Nat.le_refl _) fun b => by have : A' b + (A b + B1 b) ≤ G b := g b; show A b + (A' b + B1 b) ≤ G b; omega
theorem RepOf.sub {n : Str} : ∀ {ws : List (Str × V)} {fs : List (Str × O)} {A : Fp}, RepOf K Z H ws fs A → getF fs n = some o1 → ∃ (w : V) (A1 B1 : Fp), getF ws n = some w ∧ RepO K Z H w o1 A1 ∧ (∀ b, A1 b + B1 b ≤ A b) ∧
    ∀ {Z' H' : Hp} {o' : O} {A' G : Fp}, Le K Z Z' → (∀ b, 0 < B1 b → H' b = H b) → RepO K Z' H' w o' A' → (∀ b, A' b + B1 b ≤ G b) → RepOf K Z' H' ws (setF fs n o') G
  | _, _, _, .nil, e => by cases e
  | _, _, _, .cons (k := k') (v := v) (F1 := A) (F2 := B) q r i, e => by
    by_cases hk : k' = n
    · rw [getF_cons, if_pos hk] at e
      cases e
      refine ⟨v, A, B, by rw [getF_cons, if_pos hk], q, i, fun m kk q' g => ?_⟩
      rw [setF_cons, if_pos hk]
      exact .cons q' (r.mono m kk fun b => Nat.le_refl _) g
    · rw [getF_cons, if_neg hk] at e
      obtain ⟨w, A1, B1, a, b, c, d⟩ := RepOf.sub r e
      refine ⟨w, A1, fun b => A b + B1 b, by rw [getF_cons, if_neg hk]; exact a, b, fun b => by have := i b; have := c b; show A1 b + (A b + B1 b) ≤ _; omega, fun {Z' H' o' A' G} m kk q' g => ?_⟩
      rw [setF_cons, if_neg hk]
      exact .cons (F2 := fun b => A' b + B1 b) (q.mono m (fun b z => kk b (by show 0 < A b + B1 b; omega)) fun b => Nat.le_refl _) (d m (fun b z => kk b (by show 0 < A b + B1 b; omega)) q' fun b => Nat.le_refl _) fun b => by have : A' b + (A b + B1 b) ≤ G b := g b; show A b + (A' b + B1 b) ≤ G b; omega
theorem RepFs.get {n : Str} : ∀ {ws : List (Str × V)} {fs : List (Str × D)}, RepFs K Z ws fs → getF fs n = some d → ∃ w, getF ws n = some w ∧ Rep K Z w d
  | _, _, .nil, e => by cases e
  | _, _, .cons (k := k') q r, e => by
    by_cases hk : k' = n
    · rw [getF_cons, if_pos hk] at e
      cases e
      exact ⟨_, by rw [getF_cons, if_pos hk], q⟩
    · rw [getF_cons, if_neg hk] at e
      obtain ⟨w, a, b⟩ := RepFs.get r e
      exact ⟨w, by rw [getF_cons, if_neg hk]; exact a, b⟩
theorem atI_rep {vs : List V} {ds : List D} {i : Int} (r : Reps K Z vs ds) (e : atI ds i = some d) : ∃ w, atI vs i = some w ∧ Rep K Z w d := by
  unfold atI at e ⊢
  obtain ⟨j, e1, e2⟩ := Option.bind_eq_some_iff.mp e
  rw [Reps.length r, e1]
  have hj : j < vs.length := by have := (List.getElem?_eq_some_iff.mp e2).1; rw [← Reps.length r] at this; exact this
  obtain ⟨d', e3, q⟩ := r.get (List.getElem?_eq_getElem hj)
  rw [e2] at e3; cases e3
  exact ⟨_, List.getElem?_eq_getElem hj, q⟩
theorem one_up {a : Addr} {A B C G : Fp} (i : ∀ b, one a b + A b ≤ F b) (j : ∀ b, B b + C b ≤ A b) : ∀ b, B b + (one a b + C b) ≤ F b := fun b => by have := i b; have := j b; omega
theorem RepO.sub {s : RS} (h : Sub Z H) (q : RepO K Z H v o A) (e : o.sub s = some o1) : ∃ (w : V) (A1 B1 : Fp), StepV K H v s w ∧ RepO K Z H w o1 A1 ∧ (∀ b, A1 b + B1 b ≤ A b) ∧
    ∀ {Z' H' : Hp} {o' : O} {A' G : Fp}, Le K Z Z' → (∀ b, 0 < B1 b → H' b = H b) → RepO K Z' H' w o' A' → (∀ b, A' b + B1 b ≤ G b) → RepO K Z' H' v (o.putS s o') G := by
  have fz : ∀ {d : D} {w : V} {d1 : D}, Rep K Z v d → o = .pu d → StepV K H v s w → Rep K Z w d1 → o1 = .pu d1 → ∃ (w : V) (A1 B1 : Fp), StepV K H v s w ∧ RepO K Z H w o1 A1 ∧ (∀ b, A1 b + B1 b ≤ A b) ∧
      ∀ {Z' H' : Hp} {o' : O} {A' G : Fp}, Le K Z Z' → (∀ b, 0 < B1 b → H' b = H b) → RepO K Z' H' w o' A' → (∀ b, A' b + B1 b ≤ G b) → RepO K Z' H' v (o.putS s o') G := by
    rintro d w d1 qd rfl st q1 rfl
    refine ⟨w, fun _ => 0, fun _ => 0, st, .pu q1, fun b => by simp, fun m _ _ _ => ?_⟩
    have : ∀ x, O.putS (.pu d) s x = .pu d := by intro x; cases d <;> rfl
    rw [this]
    exact .pu (qd.mono m)
  cases o with
  | ob C fs =>
    cases s with
    | fld cs n =>
      simp only [O.sub] at e
      split at e
      · rename_i hc
        cases q with
        | @ob a C' dx _ ws _ F1 _ cn ha qs i =>
          obtain ⟨w, A1, B1, a1, a2, a3, a4⟩ := qs.sub e
          refine ⟨w, A1, fun b => one a b + B1 b, ⟨a, C', C, dx, ws, rfl, cn, hc, ha, a1⟩, a2, one_up (G := A) i a3, fun {Z' H' o' A' G} m k q' g => ?_⟩
          exact .ob cn ((k a (by show 0 < one a a + _; rw [one_self]; omega)).trans ha) (a4 m (fun b z => k b (by show 0 < one a b + B1 b; omega)) q' fun b => Nat.le_refl _) fun b => by have : A' b + (one a b + B1 b) ≤ G b := g b; show one a b + (A' b + B1 b) ≤ _; omega
      · cases e
    | key k => cases e
  | li os =>
    cases s with
    | fld cs n => cases e
    | key k =>
      cases k with
      | inr _ => cases e
      | inl k =>
        simp only [O.sub] at e
        cases q with
        | @li a vs _ F1 _ ha qs i =>
          unfold atI at e
          obtain ⟨j, e1, e2⟩ := Option.bind_eq_some_iff.mp e
          obtain ⟨w, A1, B1, a1, a2, a3, a4⟩ := qs.sub e2
          refine ⟨w, A1, fun b => one a b + B1 b, .inl ⟨a, vs, k, rfl, rfl, .inl (.of ha), by unfold atI; rw [qs.len, e1]; exact a1⟩, a2, one_up (G := A) i a3, fun {Z' H' o' A' G} m kk q' g => ?_⟩
          simp only [O.putS, e1]
          exact .li ((kk a (by show 0 < one a a + _; rw [one_self]; omega)).trans ha) (a4 m (fun b z => kk b (by show 0 < one a b + B1 b; omega)) q' fun b => Nat.le_refl _) fun b => by have : A' b + (one a b + B1 b) ≤ G b := g b; show one a b + (A' b + B1 b) ≤ _; omega
  | tu os =>
    cases s with
    | fld cs n => cases e
    | key k =>
      cases k with
      | inr _ => cases e
      | inl k =>
        simp only [O.sub] at e
        cases q with
        | @tu a vs _ F1 _ ha qs i =>
          unfold atI at e
          obtain ⟨j, e1, e2⟩ := Option.bind_eq_some_iff.mp e
          obtain ⟨w, A1, B1, a1, a2, a3, a4⟩ := qs.sub e2
          refine ⟨w, A1, fun b => one a b + B1 b, .inl ⟨a, vs, k, rfl, rfl, .inr (.of ha), by unfold atI; rw [qs.len, e1]; exact a1⟩, a2, one_up (G := A) i a3, fun {Z' H' o' A' G} m kk q' g => ?_⟩
          simp only [O.putS, e1]
          exact .tu ((kk a (by show 0 < one a a + _; rw [one_self]; omega)).trans ha) (a4 m (fun b z => kk b (by show 0 < one a b + B1 b; omega)) q' fun b => Nat.le_refl _) fun b => by have : A' b + (one a b + B1 b) ≤ G b := g b; show one a b + (A' b + B1 b) ≤ _; omega
  | di kvs =>
    cases s with
    | fld cs n => cases e
    | key k =>
      simp only [O.sub] at e
      cases q with
      | @di a ws _ F1 _ ha qs i =>
        obtain ⟨w, A1, B1, a1, a2, a3, a4⟩ := qs.sub e
        refine ⟨w, A1, fun b => one a b + B1 b, .inr ⟨a, ws, rfl, .inl ha, a1⟩, a2, one_up (G := A) i a3, fun {Z' H' o' A' G} m kk q' g => ?_⟩
        exact .di ((kk a (by show 0 < one a a + _; rw [one_self]; omega)).trans ha) (a4 m (fun b z => kk b (by show 0 < one a b + B1 b; omega)) q' fun b => Nat.le_refl _) fun b => by have : A' b + (one a b + B1 b) ≤ G b := g b; show one a b + (A' b + B1 b) ≤ _; omega
  | pu d =>
    cases q with
    | pu q =>
      cases d with
      | ins C fs =>
        cases s with
        | fld cs n =>
          simp only [O.sub] at e
          split at e
          · rename_i hc
            obtain ⟨d1, e1, rfl⟩ := map_some e
            cases q with
            | @ins a C' dx _ ws _ cn ha qs =>
              obtain ⟨w, b1, b2⟩ := qs.get e1
              exact fz (.ins cn ha qs) rfl ⟨a, C', C, dx, ws, rfl, cn, hc, (h.le (K := K)).i _ _ _ _ ha, b1⟩ b2 rfl
          · cases e
        | key k => cases e
      | lst ds =>
        cases s with
        | fld cs n => cases e
        | key k =>
          cases k with
          | inr _ => cases e
          | inl k =>
            obtain ⟨d1, e1, rfl⟩ := map_some e
            cases q with
            | @lst a vs _ ha qs =>
              obtain ⟨w, b1, b2⟩ := atI_rep qs e1
              exact fz (.lst ha qs) rfl (.inl ⟨a, vs, k, rfl, rfl, .inl ((h.le (K := K)).l _ _ ha), b1⟩) b2 rfl
      | tup ds =>
        cases s with
        | fld cs n => cases e
        | key k =>
          cases k with
          | inr _ => cases e
          | inl k =>
            obtain ⟨d1, e1, rfl⟩ := map_some e
            cases q with
            | @tup a vs _ ha qs =>
              obtain ⟨w, b1, b2⟩ := atI_rep qs e1
              exact fz (.tup ha qs) rfl (.inl ⟨a, vs, k, rfl, rfl, .inr ((h.le (K := K)).t _ _ ha), b1⟩) b2 rfl
      | dct kvs =>
        cases s with
        | fld cs n => cases e
        | key k =>
          obtain ⟨d1, e1, rfl⟩ := map_some e
          cases q with
          | @dct a ws _ ha qs =>
            obtain ⟨w, b1, b2⟩ := (getK_rep qs).1 _ e1
            exact fz (.dct ha qs) rfl (.inr ⟨a, ws, rfl, (h.le (K := K)).d _ _ ha, b1⟩) b2 rfl
      | _ => cases s <;> cases e
  | diT _ => cases s <;> cases e
  | any => cases s <;> cases e
/-! the walk along a place -/
def tOrE (a b : TE) : TE := fun σ H Q => a σ H Q ∨ b σ H Q
def tStp (K : PySem.W.Frag) : PSt → TE → TE
  | .fld _ n, t => tFld K t n
  | .num k, t => tOrE (tOp (rIx K) t (tC (.int k))) (tDGet t (tC (.int k)))
  | .str s, t => tDGet t (tC (.str s))
  | .var j, t => tOrE (tOp (rIx K) t (tVar j)) (tDGet t (tVar j))
def tPl (K : PySem.W.Frag) (i : Nat) : List PSt → TE
  | [] => tVar i
  | s :: r => tStp K s (tPl K i r)
def StOk (K : PySem.W.Frag) : PSt → Prop
  | .fld cs n => ∀ cn C, cs.contains cn = true → ClsN K cn C → Cls K C ∧ NoAttr K C n
  | _ => True
def RsOk (K : PySem.W.Frag) (rs : List PSt) : Prop := ∀ s ∈ rs, StOk K s
theorem Ok.var {j : Nat} (ok : Ok K Z H (τ ++ σ) (T ++ env) F) (hl : τ.length = T.length) (e : env[j]? = some (some (.pu d))) : ∃ w, σ[j]? = some (some w) ∧ Rep K Z w d := by
  obtain ⟨w, _, _, hv, q, _⟩ := ok.slot hl e
  cases q with
  | pu q => exact ⟨w, hv, q⟩
theorem step_eval {s : PSt} {r : RS} {t : TE} {v w : V} (ok : Ok K Z H (τ ++ σ) (T ++ env) F) (hl : τ.length = T.length) (hs : StOk K s) (hr : s.res env = some r) (ht : ∀ Q : VK, Q v H → t σ H Q) (st : StepV K H v r w) : ∀ Q : VK, Q w H → tStp K s t σ H Q := by
  intro Q q
  have ix : ∀ {k : L2.Key} {y : TE}, StepV K H v (.key k) w → (∀ Q : VK, Q (kV k) H → y σ H Q) → tOrE (tOp (rIx K) t y) (tDGet t y) σ H Q := by
    intro k y st hy
    rcases st with ⟨p, xs, i, rfl, rfl, hx | hx, hi⟩ | ⟨a, ws, rfl, ha, hi⟩
    · exact .inl (ht _ (hy _ (.inl ⟨p, xs, i, w, rfl, rfl, hx, hi, q⟩)))
    · exact .inl (ht _ (hy _ (.inr (.inl ⟨p, xs, i, w, rfl, rfl, hx, hi, q⟩))))
    · exact .inr (ht _ (hy _ ⟨a, w, rfl, .inl ⟨ws, k, ha, rfl, hi.symm⟩, q⟩))
  cases s with
  | fld cs n =>
    cases hr
    obtain ⟨a, C, cn, dx, fs, rfl, c1, c2, ha, hf⟩ := st
    obtain ⟨k1, k2⟩ := hs cn C c2 c1
    exact ht _ ⟨a, C, dx, fs, w, rfl, ha, k1, k2, by rw [← getF_lookup]; exact hf, q⟩
  | num k => cases hr; exact ix st fun Q q => q
  | str x =>
    cases hr
    rcases st with ⟨p, xs, i, h0, _⟩ | ⟨a, ws, rfl, ha, hi⟩
    · cases h0
    · exact ht _ ⟨a, w, rfl, .inl ⟨ws, .inr x, ha, rfl, hi.symm⟩, q⟩
  | var j =>
    simp only [PSt.res] at hr
    unfold varK at hr
    split at hr
    · rename_i k e
      cases hr
      obtain ⟨u, e1, e2⟩ := ok.var hl e
      cases e2
      exact ix st fun Q q => ⟨_, e1, q⟩
    · rename_i k e
      cases hr
      obtain ⟨u, e1, e2⟩ := ok.var hl e
      cases e2
      exact ix st fun Q q => ⟨_, e1, q⟩
    · cases hr
theorem Ok.place : ∀ {rs : List PSt} {i : Nat} {o : O}, Ok K Z H (τ ++ σ) (T ++ env) F → τ.length = T.length → RsOk K rs → getP env i rs = some o →
    ∃ (v : V) (A B : Fp), (∀ Q : VK, Q v H → tPl K i rs σ H Q) ∧ RepO K Z H v o A ∧ (∀ b, A b + B b ≤ F b) ∧
      ∀ {Z' H' : Hp} {o' : O} {A' G : Fp}, Le K Z Z' → (∀ b, 0 < B b → H' b = H b) → RepO K Z' H' v o' A' → (∀ b, A' b + B b ≤ G b) → RepSl K Z' H' (τ ++ σ) (T ++ putP env i rs o') G
  | [], i, o, ok, hl, _, e => by
    have e : env[i]? = some (some o) := by
      unfold getP at e
      cases h : env[i]? with
      | none => rw [h] at e; cases e
      | some x => rw [h] at e; cases x with
        | none => cases e
        | some y => cases e; rfl
    obtain ⟨v, A, B, hv, q, i1, _, k⟩ := ok.slot hl e
    refine ⟨v, A, B, fun Q h => ⟨v, hv, h⟩, q, i1, fun m kk q' g => ?_⟩
    have := k m kk q' g
    rw [set_self hv] at this
    exact this
  | s :: r, i, o, ok, hl, hr, e => by
    obtain ⟨o0, e0, e1⟩ := Option.bind_eq_some_iff.mp e
    obtain ⟨q, e2, e3⟩ := Option.bind_eq_some_iff.mp e1
    obtain ⟨v0, A0, B0, p1, p2, p3, p4⟩ := Ok.place ok hl (fun s hs => hr s (List.mem_cons_of_mem _ hs)) e0
    obtain ⟨w, A1, B1, s1, s2, s3, s4⟩ := p2.sub ok.sub e3
    refine ⟨w, A1, fun b => B1 b + B0 b, step_eval ok hl (hr s List.mem_cons_self) e2 p1 s1, s2, fun b => by have := p3 b; have := s3 b; show A1 b + (B1 b + B0 b) ≤ _; omega, fun {Z' H' o' A' G} m k q' g => ?_⟩
    have h1 := s4 m (fun b z => k b (by show 0 < B1 b + B0 b; omega)) q' (G := fun b => A' b + B1 b) fun b => Nat.le_refl _
    have h2 := p4 m (fun b z => k b (by show 0 < B1 b + B0 b; omega)) h1 (G := G) fun b => by have : A' b + (B1 b + B0 b) ≤ G b := g b; show A' b + B1 b + B0 b ≤ _; omega
    simp only [putP, e0, e2]
    exact h2
end
end Ws

namespace Ws
open PySem L2
/-! ### readings that change nothing: B, a value that stays; R, one that is looked at -/
abbrev BD := Ws.Env → Option D
section
variable {K : PySem.W.Frag} {E : XK} {Z Z' H H' : Hp} {σ σ' σ1 τ ρ : St} {env env' T R : Ws.Env} {F G A : Fp} {Q Q' : VK} {v : V} {o o1 : O} {d : D}
variable (K) in
def tB (b : BD) : TE := fun σ H Q => ∃ (Z : Hp) (τ : St) (T env : Ws.Env) (F : Fp) (d : D), Ok K Z H (τ ++ σ) (T ++ env) F ∧ τ.length = T.length ∧ b env = some d ∧ ∀ v, Rep K Z v d → Q v H
variable (K) in
def tR (b : BD) : TE := fun σ H Q => ∃ (Z : Hp) (τ : St) (T env : Ws.Env) (F : Fp) (d : D), Ok K Z H (τ ++ σ) (T ++ env) F ∧ τ.length = T.length ∧ b env = some d ∧ ∀ v, Rep K H v d → Q v H
variable (K) in
def tRs (bs : Ws.Env → Option (List D)) : TA := fun σ H Q => ∃ (Z : Hp) (τ : St) (T env : Ws.Env) (F : Fp) (ds : List D), Ok K Z H (τ ++ σ) (T ++ env) F ∧ τ.length = T.length ∧ bs env = some ds ∧ ∀ vs, Reps K H vs ds → Q vs H
theorem tR_B {b : BD} {σ : St} {H : Hp} {Q : VK} (h : tR K b σ H Q) : tB K b σ H Q := by
  obtain ⟨Z, τ, T, env, F, d, ok, hl, e, k⟩ := h
  exact ⟨Z, τ, T, env, F, d, ok, hl, e, fun v q => k v (q.mono (ok.sub.le (K := K)))⟩
/-- a constant -/
def bC (d : D) : BD := fun _ => some d
@[simp] theorem bC_eq (d : D) (e : Ws.Env) : bC d e = some d := rfl
theorem bC_imp {d : D} {v : V} (hv : ∀ Z, Rep K Z v d) {σ : St} {H : Hp} {Q : VK} (h : tB K (bC d) σ H Q) : Q v H := by
  obtain ⟨Z, τ, T, env, F, d', ok, hl, e, k⟩ := h
  cases e
  exact k v (hv Z)
/-- what stands at a place, for good -/
def bP (i : Nat) (rs : List PSt) : BD := fun env => match getP env i rs with
  | some (.pu d) => some d
  | _ => none
theorem bP_imp {i : Nat} {rs : List PSt} (hr : RsOk K rs) {σ : St} {H : Hp} {Q : VK} (h : tB K (bP i rs) σ H Q) : tPl K i rs σ H Q := by
  obtain ⟨Z, τ, T, env, F, d, ok, hl, e, k⟩ := h
  unfold bP at e
  split at e
  · rename_i d' e'
    cases e
    obtain ⟨v, A, B, p1, p2, _⟩ := ok.place hl hr e'
    cases p2 with
    | pu p2 => exact p1 _ (k v p2)
  · cases e
/-- what stands at a place, looked at -/
def rP (i : Nat) (rs : List PSt) : BD := fun env => (getP env i rs).map O.toD
theorem rP_imp {i : Nat} {rs : List PSt} (hr : RsOk K rs) {σ : St} {H : Hp} {Q : VK} (h : tR K (rP i rs) σ H Q) : tPl K i rs σ H Q := by
  obtain ⟨Z, τ, T, env, F, d, ok, hl, e, k⟩ := h
  obtain ⟨o, e1, rfl⟩ := map_some e
  obtain ⟨v, A, B, p1, p2, _⟩ := ok.place hl hr e1
  exact p1 _ (k v (ok.rep p2))
/-- an operation of two -/
def bOp (f : D → D → Option D) (a b : BD) : BD := fun e => match a e, b e with
  | some x, some y => f x y
  | _, _ => none
def bUn (f : D → Option D) (a : BD) : BD := fun e => match a e with
  | some x => f x
  | _ => none
theorem bOp_imp {f : D → D → Option D} {r : R2} (hf : OpS K f r) {a b : BD} {ta tb : TE} (ha : ∀ σ H Q, tR K a σ H Q → ta σ H Q) (hb : ∀ σ H Q, tR K b σ H Q → tb σ H Q) {σ : St} {H : Hp} {Q : VK} (h : tB K (bOp f a b) σ H Q) : tOp r ta tb σ H Q := by
  obtain ⟨Z, τ, T, env, F, d, ok, hl, e, k⟩ := h
  unfold bOp at e
  split at e
  · rename_i x y ea eb
    exact ha σ H _ ⟨Z, τ, T, env, F, x, ok, hl, ea, fun v qv => hb σ H _ ⟨Z, τ, T, env, F, y, ok, hl, eb, fun u qu => hf H v u x y d Q qv qu e fun w hw => k w (hw Z)⟩⟩
  · cases e
theorem bUn_imp {f : D → Option D} {r : V → Hp → VK → Prop} (hf : UnS K f r) {a : BD} {ta : TE} (ha : ∀ σ H Q, tR K a σ H Q → ta σ H Q) {σ : St} {H : Hp} {Q : VK} (h : tB K (bUn f a) σ H Q) : tUn r ta σ H Q := by
  obtain ⟨Z, τ, T, env, F, d, ok, hl, e, k⟩ := h
  unfold bUn at e
  split at e
  · rename_i x ea
    exact ha σ H _ ⟨Z, τ, T, env, F, x, ok, hl, ea, fun v qv => hf H v x d Q qv e fun w hw => k w (hw Z)⟩
  · cases e
/-- arguments that are looked at -/
def bsN : Ws.Env → Option (List D) := fun _ => some []
def bsC (a : BD) (bs : Ws.Env → Option (List D)) : Ws.Env → Option (List D) := fun e => match a e, bs e with
  | some x, some xs => some (x :: xs)
  | _, _ => none
theorem bsN_imp {σ : St} {H : Hp} {Q : List V → Hp → Prop} (h : tRs K bsN σ H Q) : tNil σ H Q := by
  obtain ⟨Z, τ, T, env, F, d, ok, hl, e, k⟩ := h
  cases e
  exact k [] .nil
theorem bsC_imp {a : BD} {bs : Ws.Env → Option (List D)} {ta : TE} {tas : TA} (ha : ∀ σ H Q, tR K a σ H Q → ta σ H Q) (hb : ∀ σ H Q, tRs K bs σ H Q → tas σ H Q) {σ : St} {H : Hp} {Q : List V → Hp → Prop} (h : tRs K (bsC a bs) σ H Q) : tCons ta tas σ H Q := by
  obtain ⟨Z, τ, T, env, F, d, ok, hl, e, k⟩ := h
  unfold bsC at e
  split at e
  · rename_i x xs ea eb
    cases e
    exact ha σ H _ ⟨Z, τ, T, env, F, x, ok, hl, ea, fun v qv => hb σ H _ ⟨Z, τ, T, env, F, xs, ok, hl, eb, fun vs qs => k (v :: vs) (.cons qv qs)⟩⟩
  · cases e
/-- a built-in that reads -/
def bCall (f : List D → Option D) (bs : Ws.Env → Option (List D)) : BD := fun e => (bs e).bind f
theorem bCall_imp {f : List D → Option D} {r : List V → Hp → VK → Prop} (hf : CallS K f r) {bs : Ws.Env → Option (List D)} {ta : TA} (ha : ∀ σ H Q, tRs K bs σ H Q → ta σ H Q) {σ : St} {H : Hp} {Q : VK} (h : tB K (bCall f bs) σ H Q) : tCB r ta σ H Q := by
  obtain ⟨Z, τ, T, env, F, d, ok, hl, e, k⟩ := h
  obtain ⟨ds, e1, e2⟩ := Option.bind_eq_some_iff.mp e
  exact ha σ H _ ⟨Z, τ, T, env, F, ds, ok, hl, e1, fun vs qs => hf H vs ds d Q qs e2 fun w hw => k w (hw Z)⟩
/-- if -/
def bIf (c : BD) (a b : BD) : BD := fun e => match c e with
  | some (.bl true) => a e
  | some (.bl false) => b e
  | _ => none
/-- what stays, as an expression -/
def eB (b : BD) : M O := fun env => match b env with
  | some d => .ok (.pu d) env
  | none => .no
@[simp] theorem eB.c (b : BD) {z : Option O} {zs : Ws.Env} : eB b (z :: zs) = (match b (z :: zs) with
  | some d => .ok (.pu d) (z :: zs)
  | none => .no) := rfl
theorem eB_imp {b : BD} {σ : St} {H : Hp} {Q : VK} (h : tE K E (eB b) σ H Q) : tB K b σ H Q := by
  obtain ⟨Z, τ, T, env, F, ok, hl, post⟩ := h
  unfold eB at post
  split at post
  · rename_i d e
    exact ⟨Z, τ, T, env, F, d, ok, hl, e, fun v q => post v H Z F (Same.refl Z) (ok.pure q)⟩
  · exact post.elim
def cB (b : BD) : M Bool := fun env => match b env with
  | some (.bl x) => .ok x env
  | _ => .no
@[simp] theorem cB.c (b : BD) {z : Option O} {zs : Ws.Env} : cB b (z :: zs) = (match b (z :: zs) with
  | some (.bl x) => .ok x (z :: zs)
  | _ => .no) := rfl
/-! ### a place read, laid down for good where it was owned -/
def fzP (env : Ws.Env) (i : Nat) (rs : List PSt) : O → Ws.Env
  | .pu _ => env
  | o => putP env i rs (.pu o.toD)
def rdP (i : Nat) (rs : List PSt) : M O := fun env => match getP env i rs with
  | some o => .ok (.pu o.toD) (fzP env i rs o)
  | none => .no
@[simp] theorem rdP.c (i : Nat) (rs : List PSt) {z : Option O} {zs : Ws.Env} : rdP i rs (z :: zs) = (match getP (z :: zs) i rs with
  | some o => .ok (.pu o.toD) (fzP (z :: zs) i rs o)
  | none => .no) := rfl
theorem fz_ok {A B : Fp} (ok : Ok K Z H σ env F) (q : RepO K Z H v o A) (i : ∀ b, A b + B b ≤ F b) : ∃ Z', Same Z Z' ∧ Sub Z' H ∧ Rep K Z' v o.toD ∧ ∀ b, 0 < B b → Z' b = none := by
  let Z' : Hp := fun b => if 0 < A b then H b else Z b
  have s : Same Z Z' := fun b u e => by
    have : ¬ 0 < A b := fun z => by
      have := ok.own b (by have := i b; omega)
      rw [this] at e; cases e
    show (if 0 < A b then H b else Z b) = _
    rw [if_neg this]; exact e
  refine ⟨Z', s, fun b u e => ?_, q.freeze (le_of_same s) fun b z => if_pos z, fun b z => ?_⟩
  · by_cases z : 0 < A b
    · exact .inl (by rw [← e]; show _ = (if 0 < A b then H b else Z b); rw [if_pos z])
    · have e' : (if 0 < A b then H b else Z b) = some u := e
      rw [if_neg z] at e'
      exact ok.sub b u e'
  · have e : ¬ 0 < A b := by have := i b; have := ok.le b; omega
    show (if 0 < A b then H b else Z b) = _
    rw [if_neg e]
    exact ok.own b (by have := i b; omega)
theorem rdP_imp {i : Nat} {rs : List PSt} (hr : RsOk K rs) {σ : St} {H : Hp} {Q : VK} (h : tE K E (rdP i rs) σ H Q) : tPl K i rs σ H Q := by
  obtain ⟨Z, τ, T, env, F, ok, hl, post⟩ := h
  unfold rdP at post
  split at post
  · rename_i o e
    obtain ⟨v, A, B, p1, p2, p3, p4⟩ := ok.place hl hr e
    refine p1 _ ?_
    by_cases ho : ∃ d, o = .pu d
    · obtain ⟨d, rfl⟩ := ho
      cases p2 with
      | pu p2 =>
        rw [toD_pu] at post
        exact post v H Z F (Same.refl Z) (ok.pure p2)
    · have e1 : fzP env i rs o = putP env i rs (.pu o.toD) := by
        cases o with
        | pu d => exact absurd ⟨d, rfl⟩ ho
        | _ => rfl
      rw [e1] at post
      obtain ⟨Z', s, t, q, n⟩ := fz_ok ok p2 p3
      have sl := p4 (Z' := Z') (H' := H) (o' := .pu o.toD) (A' := fun _ => 0) (G := B) (le_of_same s) (fun _ _ => rfl) (.pu q) fun b => by simp
      exact post v H Z' B s (Ok.pure ⟨t, sl, fun b => by have := p3 b; have := ok.le b; omega, n, fun b z => ok.there b (by have := p3 b; omega)⟩ q)
  · exact post.elim
end
section
variable {X : Cx} {E : XK} {i : Nat} {a b e : Expr} {rs : List PSt} {pos p2 apos : Pos} {x : Str} {f : Str}
abbrev VBx (X : Cx) (e : Expr) (b : BD) : Prop := PE X e (tB X.K b)
abbrev VR (X : Cx) (e : Expr) (b : BD) : Prop := PE X e (tR X.K b)
abbrev VRs (X : Cx) (es : List Expr) (bs : Ws.Env → Option (List D)) : Prop := PA X es (tRs X.K bs)
/-- an expression that is a place -/
structure VPl (X : Cx) (e : Expr) (i : Nat) (rs : List PSt) : Prop where
  pe : PE X e (tPl X.K i rs)
  ok : RsOk X.K rs
theorem PE.orE {t1 t2 : TE} (h1 : PE X e t1) (h2 : PE X e t2) : PE X e (tOrE t1 t2) := ⟨fun pins s σ H Q I h => h.elim (h1.run pins s σ H Q I) (h2.run pins s σ H Q I)⟩
theorem pl_name (h : PE X e (tVar i)) : VPl X e i [] := ⟨h, fun _ h => by cases h⟩
theorem RsOk.cons {K : PySem.W.Frag} {s : PSt} {rs : List PSt} (h : StOk K s) (hs : RsOk K rs) : RsOk K (s :: rs) := fun t ht => by
  rcases List.mem_cons.mp ht with rfl | ht
  · exact h
  · exact hs t ht
theorem pl_fld {cs : List Str} (h : VPl X e i rs) (hs : StOk X.K (.fld cs f)) (hb : attributeBase e f X.env (eval e X.env) = eval e X.env := by rfl) : VPl X (.Attribute e f pos) i (.fld cs f :: rs) := ⟨pe_fld h.pe hb, h.ok.cons hs⟩
theorem pe_cint {k : Int} {j : Nat} : PE X (.Constant (.int k) j pos) (tC (.int k)) := pe_int
theorem pl_num {k : Int} (hu : X.A.units + 1 < cLine) (h : VPl X e i rs) (hb : PE X b (tC (.int k))) (hs : PlainIx b) (hn : NoSl b) : VPl X (.Subscript e b pos) i (.num k :: rs) := ⟨PE.orE (pe_ix ix_seq h.pe hb hs) (pe_dget hu h.pe hb hn), h.ok.cons trivial⟩
theorem pl_var {j : Nat} (hu : X.A.units + 1 < cLine) (h : VPl X e i rs) (hb : PE X b (tVar j)) (hs : PlainIx b) (hn : NoSl b) : VPl X (.Subscript e b pos) i (.var j :: rs) := ⟨PE.orE (pe_ix ix_seq h.pe hb hs) (pe_dget hu h.pe hb hn), h.ok.cons trivial⟩
theorem pl_str {s : Str} (hu : X.A.units + 1 < cLine) (h : VPl X e i rs) (hb : PE X b (tC (.str s))) (hn : NoSl b) : VPl X (.Subscript e b pos) i (.str s :: rs) := ⟨pe_dget hu h.pe hb hn, h.ok.cons trivial⟩
theorem v_rdP (h : VPl X e i rs) : VE X E e (rdP i rs) := h.pe.weak fun _ _ _ => rdP_imp h.ok
theorem x_pl (h : VPl X e i rs) : VBx X e (bP i rs) := h.pe.weak fun _ _ _ => bP_imp h.ok
theorem r_pl (h : VPl X e i rs) : VR X e (rP i rs) := h.pe.weak fun _ _ _ => rP_imp h.ok
theorem r_x {b : BD} (h : VBx X e b) : VR X e b := h.weak fun _ _ _ => tR_B
theorem v_x {b : BD} (h : VBx X e b) : VE X E e (eB b) := h.weak fun _ _ _ => eB_imp
end
end Ws

namespace Ws
open PySem L2
/-! ### operations on what is looked at -/
section
variable {K : PySem.W.Frag} {E : XK} {Z Z' H H' : Hp} {σ σ' σ1 τ ρ : St} {env env' T R : Ws.Env} {F G A : Fp} {Q Q' : VK} {v : V} {o o1 : O} {d : D}
def iiD (c : Int → Int → Bool) (g : Int → Int → Int) : D → D → Option D
  | .int i, .int j => if c i j = true then some (.int (g i j)) else none
  | _, _ => none
@[simp] theorem iiD_int (c : Int → Int → Bool) (g : Int → Int → Int) (i j : Int) : iiD c g (.int i) (.int j) = if c i j = true then some (.int (g i j)) else none := rfl
theorem ops_I {c : Int → Int → Bool} {C : Int → Int → Prop} {g : Int → Int → Int} (hc : ∀ i j, c i j = true → C i j) : OpS K (iiD c g) (rI C fun i j => .int (g i j)) := by
  intro H v u x y z Q p q e k
  unfold iiD at e
  split at e
  · split at e
    · rename_i i j h
      cases e; cases p; cases q
      exact ⟨_, _, rfl, rfl, hc _ _ h, k _ fun _ => .int _⟩
    · cases e
  · cases e
theorem ops_I0 {c : Int → Int → Bool} {g : Int → Int → Int} : OpS K (iiD c g) (rI0 fun i j => .int (g i j)) := by
  intro H v u x y z Q p q e k
  unfold iiD at e
  split at e
  · split at e
    · cases e; cases p; cases q
      exact ⟨_, _, rfl, rfl, k _ fun _ => .int _⟩
    · cases e
  · cases e
def catD : D → D → Option D
  | .str a, .str b => if a.length + b.length ≤ 100000 then some (.str (a ++ b)) else none
  | _, _ => none
@[simp] theorem catD_str (a b : Str) : catD (.str a) (.str b) = if a.length + b.length ≤ 100000 then some (.str (a ++ b)) else none := rfl
@[simp] theorem catD_int (a b : Int) : catD (.int a) (.int b) = none := rfl
theorem ops_cat : OpS K catD rCatS := by
  intro H v u x y z Q p q e k
  unfold catD at e
  split at e
  · split at e
    · cases e; cases p; cases q
      exact ⟨_, _, rfl, rfl, line_le (by assumption), k _ fun _ => .str _⟩
    · cases e
  · cases e
def orD (f g : D → D → Option D) : D → D → Option D := fun x y => match f x y with
  | some z => some z
  | none => g x y
theorem OpS.or {f g : D → D → Option D} {r s : R2} (hf : OpS K f r) (hg : OpS K g s) : OpS K (orD f g) (fun x y H Q => r x y H Q ∨ s x y H Q) := by
  intro H v u x y z Q p q e k
  unfold orD at e
  split at e
  · rename_i w ew
    cases e
    exact .inl (hf H v u x y _ Q p q ew k)
  · exact .inr (hg H v u x y z Q p q e k)
def addD : D → D → Option D
  | .int i, .int j => some (.int (i + j))
  | .str a, .str b => if a.length + b.length ≤ 100000 then some (.str (a ++ b)) else none
  | _, _ => none
@[simp] theorem addD_int (i j : Int) : addD (.int i) (.int j) = some (.int (i + j)) := rfl
@[simp] theorem addD_str (a b : Str) : addD (.str a) (.str b) = if a.length + b.length ≤ 100000 then some (.str (a ++ b)) else none := rfl
theorem ops_add : OpS K addD (ror (rI0 fun i j => .int (i + j)) rCatS) := by
  intro H v u x y z Q p q e k
  unfold addD at e
  split at e
  · cases e; cases p; cases q
    exact .inl ⟨_, _, rfl, rfl, k _ fun _ => .int _⟩
  · split at e
    · cases e; cases p; cases q
      exact .inr ⟨_, _, rfl, rfl, line_le (by assumption), k _ fun _ => .str _⟩
    · cases e
  · cases e
def notD : D → Option D
  | .bl b => some (.bl !b)
  | _ => none
@[simp] theorem notD_bl (b : Bool) : notD (.bl b) = some (.bl !b) := rfl
def negD : D → Option D
  | .int i => some (.int (-i))
  | _ => none
@[simp] theorem negD_int (i : Int) : negD (.int i) = some (.int (-i)) := rfl
theorem uns_neg : UnS K negD (rU fun i => .int (-i)) := by
  intro H v x z Q p e k
  cases x <;> cases e
  cases p
  exact ⟨_, rfl, k _ fun _ => .int _⟩
def bAnd (a b : BD) : BD := fun e => match a e with
  | some (.bl true) => b e
  | some (.bl false) => some (.bl false)
  | _ => none
def bOr (a b : BD) : BD := fun e => match a e with
  | some (.bl false) => b e
  | some (.bl true) => some (.bl true)
  | _ => none
theorem cB_imp {b : BD} {σ : St} {H : Hp} {Q : Bool → Hp → Prop} (h : tT K E (cB b) σ H Q) : L2.tB (tB K b) σ H Q := by
  obtain ⟨Z, τ, T, env, F, ok, hl, post⟩ := h
  unfold cB at post
  split at post
  · rename_i x e
    refine ⟨Z, τ, T, env, F, _, ok, hl, e, fun v q => ?_⟩
    cases q
    exact ⟨x, rfl, post H Z F (Same.refl Z) ok⟩
  · exact post.elim
/-! new lists, tuples, dicts of what stands at a place -/
def eListP (i : Nat) (rs : List PSt) : M O := fun env => match getP env i rs with
  | some x => lift ((x.lis.or x.tups).bind fun xs => (allP xs).map fun ds => .li (ds.map .pu)) env
  | none => .no
@[simp] theorem eListP.c (i : Nat) (rs : List PSt) {z : Option O} {zs : Ws.Env} : eListP i rs (z :: zs) = (match getP (z :: zs) i rs with
  | some x => lift ((x.lis.or x.tups).bind fun xs => (allP xs).map fun ds => .li (ds.map .pu)) (z :: zs)
  | none => .no) := rfl
theorem listP_imp {i : Nat} {rs : List PSt} (hr : RsOk K rs) {σ : St} {H : Hp} {Q : VK} (q : tE K E (eListP i rs) σ H Q) : tCB (rListW K) (tCons (tPl K i rs) tNil) σ H Q := by
  obtain ⟨Z, τ, T, env, F, ok, hl, post⟩ := q
  unfold eListP at post
  split at post
  · rename_i x ex
    obtain ⟨v, A, B, hv, q1, i1, _⟩ := ok.place hl hr ex
    refine hv _ ?_
    cases e : (x.lis.or x.tups).bind fun xs => (allP xs).map fun ds => O.li (ds.map .pu) with
    | none => rw [e] at post; exact post.elim
    | some z =>
      rw [e] at post
      obtain ⟨xs, e1, e2⟩ := Option.bind_eq_some_iff.mp e
      obtain ⟨ds, e3, rfl⟩ := map_some e2
      have fin : ∀ {us : List V}, RepOs K Z H us xs A → ∀ p, H p = none → Q (.ref p) (upd H p (.lst us)) := fun {us} ps p hp =>
        post _ _ Z _ (Same.refl Z) (Ok.newL (F1 := fun _ => 0) ok ok.sl (allP_ok ps e3).os (fun b => by simp) hp)
      cases ex1 : x.lis with
      | some ys =>
        rw [ex1] at e1
        cases e1
        obtain ⟨a, us, rfl, ha, ps⟩ := lis_ok ok.sub q1 ex1
        exact ⟨a, us, rfl, .inl (ha), fin ps⟩
      | none =>
        rw [ex1] at e1
        obtain ⟨a, us, rfl, ha, ps⟩ := tups_ok ok.sub q1 e1
        exact ⟨a, us, rfl, .inr ha, fin ps⟩
  · exact post.elim
def eTupP (i : Nat) (rs : List PSt) : M O := fun env => match getP env i rs with
  | some x => match x.lis with
    | some xs => lift ((allP xs).map fun ds => .pu (.tup ds)) env
    | none => (match x with
      | .pu (.tup ds) => .ok (.pu (.tup ds)) env
      | _ => .no)
  | none => .no
@[simp] theorem eTupP.c (i : Nat) (rs : List PSt) {z : Option O} {zs : Ws.Env} : eTupP i rs (z :: zs) = (match getP (z :: zs) i rs with
  | some x => match x.lis with
    | some xs => lift ((allP xs).map fun ds => .pu (.tup ds)) (z :: zs)
    | none => (match x with
      | .pu (.tup ds) => .ok (.pu (.tup ds)) (z :: zs)
      | _ => .no)
  | none => .no) := rfl
theorem tupP_imp {i : Nat} {rs : List PSt} (hr : RsOk K rs) {σ : St} {H : Hp} {Q : VK} (q : tE K E (eTupP i rs) σ H Q) : tCB (rTupW K) (tCons (tPl K i rs) tNil) σ H Q := by
  obtain ⟨Z, τ, T, env, F, ok, hl, post⟩ := q
  unfold eTupP at post
  split at post
  · rename_i x ex
    obtain ⟨v, A, B, hv, q1, i1, _⟩ := ok.place hl hr ex
    refine hv _ ?_
    split at post
    · rename_i xs e1
      cases e : allP xs with
      | none => rw [e] at post; exact post.elim
      | some ds =>
        rw [e] at post
        obtain ⟨a, us, rfl, ha, ps⟩ := lis_ok ok.sub q1 e1
        refine ⟨a, us, rfl, .inl ⟨ha, fun p hp => ?_⟩⟩
        have nn := Ok.newT (F1 := fun _ => 0) ok ok.sl ((allP_ok ps e).os (H := H)) (fun b => by simp) hp
        rw [show mkT (ds.map .pu) = .pu (.tup ds) from by unfold mkT; rw [allP_map]] at nn
        obtain ⟨Z2, G2, s2, ok2⟩ := nn
        exact post _ _ Z2 G2 s2 ok2
    · split at post
      · cases q1 with
        | pu q1 =>
          have q0 := q1
          cases q1 with
          | tup a r => exact ⟨_, _, rfl, .inr ⟨(ok.sub.le (K := K)).t _ _ a, post _ H Z F (Same.refl Z) (ok.pure q0)⟩⟩
      · exact post.elim
  · exact post.elim
def eDictP (i : Nat) (rs : List PSt) : M O := fun env => match getP env i rs with
  | some x => dcpK x.dis env
  | none => .no
@[simp] theorem eDictP.c (i : Nat) (rs : List PSt) {z : Option O} {zs : Ws.Env} : eDictP i rs (z :: zs) = (match getP (z :: zs) i rs with
  | some x => dcpK x.dis (z :: zs)
  | none => .no) := rfl
theorem dictP_imp {i : Nat} {rs : List PSt} (hr : RsOk K rs) {σ : St} {H : Hp} {Q : VK} (q : tE K E (eDictP i rs) σ H Q) : tCB (rDictC K) (tCons (tPl K i rs) tNil) σ H Q := by
  obtain ⟨Z, τ, T, env, F, ok, hl, post⟩ := q
  unfold eDictP at post
  split at post
  · rename_i x ex
    obtain ⟨v, A, B, hv, q1, i1, _⟩ := ok.place hl hr ex
    refine hv _ ?_
    cases e : x.dis with
    | none => rw [e] at post; exact post.elim
    | some ds =>
      rw [e] at post
      cases q1 with
      | di ha r j =>
        exact ⟨_, _, rfl, .inl ha, fun p hp => post _ _ Z _ (Same.refl Z) (ok.newDf (allPk_ok r e).own hp)⟩
      | @pu _ d _ q1 =>
        cases d with
        | dct kvs =>
          cases e
          cases q1 with
          | dct ha r => exact ⟨_, _, rfl, (ok.sub.le (K := K)).d _ _ ha, fun p hp => post _ _ Z _ (Same.refl Z) (ok.newDf r.own hp)⟩
        | _ => cases e
      | _ => cases e
  · exact post.elim
/-! slices of a place, bounds that change nothing -/
def partB : Option BD → Ws.Env → Option (Option Int)
  | none, _ => some none
  | some b, e => match b e with
    | some (.int i) => some (some i)
    | _ => none
def eSlP (i : Nat) (rs : List PSt) (lo hi : Option BD) : M O := fun env => match getP env i rs, partB lo env, partB hi env with
  | some x, some l, some h => lift (slO x l h) env
  | _, _, _ => .no
@[simp] theorem eSlP.c (i : Nat) (rs : List PSt) (lo hi : Option BD) {z : Option O} {zs : Ws.Env} : eSlP i rs lo hi (z :: zs) = (match getP (z :: zs) i rs, partB lo (z :: zs), partB hi (z :: zs) with
  | some x, some l, some h => lift (slO x l h) (z :: zs)
  | _, _, _ => .no) := rfl
@[simp] theorem partB_none (e : Ws.Env) : partB none e = some none := rfl
@[simp] theorem partB_some (b : BD) (e : Ws.Env) : partB (some b) e = (match b e with
    | some (.int i) => some (some i)
    | _ => none) := rfl
inductive PartX (K : PySem.W.Frag) : Option BD → TO → Prop
  | none : PartX K none tNoPart
  | some {b : BD} {t : TE} : (∀ σ H Q, tB K b σ H Q → t σ H Q) → PartX K (some b) (tPart t)
theorem partX_run {b : Option BD} {t : TO} (pv : PartX K b t) {env : Ws.Env} (ok : Ok K Z H (τ ++ σ) (T ++ env) F) (hl : τ.length = T.length) {l : Option Int} (e : partB b env = some l) {Qo : Option Int → Hp → Prop} (k : Qo l H) : t σ H Qo :=
  match b, t, pv, e with
  | _, _, .none, e => by cases e; exact k
  | some b, _, .some hi, e => by
    rw [partB_some] at e
    split at e
    · rename_i i eb
      cases e
      refine hi σ H _ ⟨Z, τ, T, env, F, _, ok, hl, eb, fun v q => ?_⟩
      cases q
      exact ⟨i, rfl, k⟩
    · cases e
theorem slP_imp {i : Nat} {rs : List PSt} (hr : RsOk K rs) {lo hi : Option BD} {tl th : TO} (pl : PartX K lo tl) (ph : PartX K hi th) {σ : St} {H : Hp} {Q : VK} (h : tE K E (eSlP i rs lo hi) σ H Q) : tSl (rSlW K) (tPl K i rs) tl th σ H Q := by
  obtain ⟨Z, τ, T, env, F, ok, hl, post⟩ := h
  unfold eSlP at post
  split at post
  · rename_i x l u ex el eu
    obtain ⟨v, A, B, hv, q1, i1, _⟩ := ok.place hl hr ex
    refine hv _ (partX_run pl ok hl el (partX_run ph ok hl eu ?_))
    cases e : slO x l u with
    | none => rw [e] at post; exact post.elim
    | some z =>
      rw [e] at post
      exact sl_run ok q1 e fun w H' Z' F' s o => post w H' Z' F' s o
  · exact post.elim
/-- place[::-1] -/
def revP : O → Option O
  | .pu (.lst ds) => some (.li (ds.reverse.map .pu))
  | .pu (.tup ds) => some (.pu (.tup ds.reverse))
  | .li os => (allP os).map fun ds => .li (ds.reverse.map .pu)
  | _ => none
@[simp] theorem revP_lst (ds : List D) : revP (.pu (.lst ds)) = some (.li (ds.reverse.map .pu)) := rfl
@[simp] theorem revP_tup (ds : List D) : revP (.pu (.tup ds)) = some (.pu (.tup ds.reverse)) := rfl
@[simp] theorem revP_li (os : List O) : revP (.li os) = (allP os).map fun ds => .li (ds.reverse.map .pu) := rfl
def eRevP (i : Nat) (rs : List PSt) : M O := fun env => match getP env i rs with
  | some x => lift (revP x) env
  | none => .no
@[simp] theorem eRevP.c (i : Nat) (rs : List PSt) {z : Option O} {zs : Ws.Env} : eRevP i rs (z :: zs) = (match getP (z :: zs) i rs with
  | some x => lift (revP x) (z :: zs)
  | none => .no) := rfl
theorem revP_run {A : Fp} {x z : O} (ok : Ok K Z H σ env F) (q : RepO K Z H v x A) (e : revP x = some z) (k : ∀ (w : V) (H' Z' : Hp) (F' : Fp), Same Z Z' → Ok K Z' H' (some w :: σ) (some z :: env) F' → Q w H') :
    ∃ a xs, v = .ref a ∧ ((SqL K H a xs ∧ ∀ p, H p = none → Q (.ref p) (upd H p (.lst xs.reverse))) ∨ (SqT K H a xs ∧ ∀ p, H p = none → Q (.ref p) (upd H p (.tup xs.reverse)))) := by
  unfold revP at e
  split at e
  · cases e
    cases q with
    | pu q => cases q with
      | lst a r => exact ⟨_, _, rfl, .inl ⟨((ok.sub.le (K := K)).l _ _ a), fun p hp => k _ _ Z _ (Same.refl Z) (Ok.newL (F1 := fun _ => 0) ok ok.sl r.reverse.os (fun b => by simp) hp)⟩⟩
  · cases e
    cases q with
    | pu q => cases q with
      | tup a r =>
        refine ⟨_, _, rfl, .inr ⟨(ok.sub.le (K := K)).t _ _ a, fun p hp => ?_⟩⟩
        have nn := Ok.newT (F1 := fun _ => 0) ok ok.sl (r.reverse.os (H := H)) (fun b => by simp) hp
        rw [mkT_map] at nn
        obtain ⟨Z2, G2, s2, ok3⟩ := nn
        exact k _ _ Z2 G2 s2 ok3
  · obtain ⟨ds, e1, rfl⟩ := map_some e
    cases q with
    | li a r i =>
      have r := allP_ok r e1
      exact ⟨_, _, rfl, .inl ⟨SqL.of a, fun p hp => k _ _ Z _ (Same.refl Z) (Ok.newL (F1 := fun _ => 0) ok ok.sl r.reverse.os (fun b => by simp) hp)⟩⟩
  · cases e
end
section
variable {X : Cx} {E : XK} {i j : Nat} {a b c e : Expr} {es : List Expr} {rs : List PSt} {pos p1 p2 p3 apos : Pos} {x q : Str} {f : D → D → Option D} {ba bb : BD} {op : CmpOp} {bs : Ws.Env → Option (List D)} {fs : List D → Option D} {id : String}
theorem x_int {n : Int} {k : Nat} : VBx X (.Constant (.int n) k pos) (bC (.int n)) := pe_int.weak fun _ _ _ h => bC_imp (fun _ => .int n) h
theorem x_bl {n : Bool} {k : Nat} : VBx X (.Constant (.bool n) k pos) (bC (.bl n)) := pe_bl.weak fun _ _ _ h => bC_imp (fun _ => .bl n) h
theorem x_non {k : Nat} : VBx X (.Constant .none k pos) (bC .non) := pe_non.weak fun _ _ _ h => bC_imp (fun _ => .non) h
theorem x_str {s t : Str} {k : Nat} (h : s = t) : VBx X (.Constant (.str s) k pos) (bC (.str t)) := by subst h; exact pe_str.weak fun _ _ _ h => bC_imp (fun _ => .str s) h
theorem x_glob {d : D} (h : GlobD X.K X.mg x d) (hg : Gl X x := by rfl) (hdb : (x == ("__debug__" : Str)) = false := by decide) : VBx X (.Name x pos) (bC d) := by
  obtain ⟨u, v, hm, hr, hz⟩ := h
  exact (pe_glob hg hm hr hdb).weak fun _ _ _ h => bC_imp hz h
theorem x_cmp (h : CmpR X op f) (ha : VR X a ba) (hb : VR X b bb) (hm : behindInMarks op b = false) : VBx X (.Compare a [op] [b] pos) (bOp f ba bb) := by
  obtain ⟨r, ho, hs⟩ := h.ex
  exact (pe_cmpR ho ha hb hm).weak fun _ _ _ => bOp_imp hs (fun _ _ _ h => h) fun _ _ _ h => h
theorem x_add (ha : VR X a ba) (hb : VR X b bb) : VBx X (.BinOp a .Add b pos) (bOp addD ba bb) := (pe_op (op_add.or op_add_str) ha hb).weak fun _ _ _ => bOp_imp ops_add (fun _ _ _ h => h) fun _ _ _ h => h
theorem x_sub (ha : VR X a ba) (hb : VR X b bb) : VBx X (.BinOp a .Sub b pos) (bOp (iiD (fun _ _ => true) fun i j => i - j) ba bb) := (pe_op op_sub ha hb).weak fun _ _ _ => bOp_imp ops_I0 (fun _ _ _ h => h) fun _ _ _ h => h
theorem x_mul (ha : VR X a ba) (hb : VR X b bb) : VBx X (.BinOp a .Mult b pos) (bOp (iiD (fun i j => decide ((-(2 ^ 64) < i ∧ i < 2 ^ 64) ∨ (-(2 ^ 64) < j ∧ j < 2 ^ 64))) fun i j => i * j) ba bb) := (pe_op op_mul ha hb).weak fun _ _ _ => bOp_imp (ops_I fun _ _ h => of_decide_eq_true h) (fun _ _ _ h => h) fun _ _ _ h => h
theorem x_mod (ha : VR X a ba) (hb : VR X b bb) : VBx X (.BinOp a .Mod b pos) (bOp (iiD (fun _ j => decide (j ≠ 0)) fun i j => i.fmod j) ba bb) := (pe_op op_modN ha hb).weak fun _ _ _ => bOp_imp (ops_I fun _ _ h => by simpa using h) (fun _ _ _ h => h) fun _ _ _ h => h
theorem x_fdiv (ha : VR X a ba) (hb : VR X b bb) : VBx X (.BinOp a .FloorDiv b pos) (bOp (iiD (fun _ j => decide (j ≠ 0 ∧ j.natAbs < 1073741824)) fun i j => i.fdiv j) ba bb) := (pe_op op_fdivN ha hb).weak fun _ _ _ => bOp_imp (ops_I fun _ _ h => by simpa [CDivN] using h) (fun _ _ _ h => h) fun _ _ _ h => h
theorem x_neg (ha : VR X a ba) : VBx X (.UnaryOp .USub a pos) (bUn negD ba) := (pe_un un_neg ha).weak fun _ _ _ => bUn_imp uns_neg fun _ _ _ h => h
theorem x_not (ha : VBx X a ba) : VBx X (.UnaryOp .Not a pos) (bUn notD ba) := (pe_not ha).weak fun σ H Q h => by
  obtain ⟨Z, τ, T, env, F, d, ok, hl, e, k⟩ := h
  unfold bUn at e
  split at e
  · rename_i y ea
    refine ⟨Z, τ, T, env, F, y, ok, hl, ea, fun v qv => ?_⟩
    cases y <;> cases e
    cases qv
    exact ⟨_, rfl, k _ (.bl _)⟩
  · cases e
theorem x_and {rest : List Expr} (ha : VBx X a ba) (hb : VBx X (.BoolOp .And (b :: rest) pos) bb) : VBx X (.BoolOp .And (a :: b :: rest) pos) (bAnd ba bb) := (pe_and ha hb).weak fun σ H Q h => by
  obtain ⟨Z, τ, T, env, F, d, ok, hl, e, k⟩ := h
  unfold bAnd at e
  split at e
  · rename_i ea
    refine ⟨Z, τ, T, env, F, _, ok, hl, ea, fun v qv => ?_⟩
    cases qv
    exact ⟨_, rfl, ⟨Z, τ, T, env, F, d, ok, hl, e, k⟩⟩
  · rename_i ea
    cases e
    refine ⟨Z, τ, T, env, F, _, ok, hl, ea, fun v qv => ?_⟩
    cases qv
    exact ⟨_, rfl, k _ (.bl _)⟩
  · cases e
theorem x_or {rest : List Expr} (ha : VBx X a ba) (hb : VBx X (.BoolOp .Or (b :: rest) pos) bb) : VBx X (.BoolOp .Or (a :: b :: rest) pos) (bOr ba bb) := (pe_or ha hb).weak fun σ H Q h => by
  obtain ⟨Z, τ, T, env, F, d, ok, hl, e, k⟩ := h
  unfold bOr at e
  split at e
  · rename_i ea
    refine ⟨Z, τ, T, env, F, _, ok, hl, ea, fun v qv => ?_⟩
    cases qv
    exact ⟨_, rfl, ⟨Z, τ, T, env, F, d, ok, hl, e, k⟩⟩
  · rename_i ea
    cases e
    refine ⟨Z, τ, T, env, F, _, ok, hl, ea, fun v qv => ?_⟩
    cases qv
    exact ⟨_, rfl, k _ (.bl _)⟩
  · cases e
theorem x_one {op : BoolOp} (ha : VBx X a ba) : VBx X (.BoolOp op [a] pos) ba := pe_one ha
theorem xs_nil : VRs X [] bsN := pa_nil.weak fun _ _ _ => bsN_imp
theorem xs_cons (ha : VR X a ba) (hr : VRs X es bs) (hs : starEach (a :: es) X.env = (false, eval a X.env) :: starEach es X.env := by rfl) : VRs X (a :: es) (bsC ba bs) := (pa_cons ha hr hs).weak fun _ _ _ => bsC_imp (fun _ _ _ h => h) fun _ _ _ h => h
theorem x_blt (h : BltS X (.builtin id) fs) (hm : X.mg x = none) (hv : bootBuiltins x = some (.builtin id)) (ha : VRs X (e :: es) bs) (hg : Gl X x := by rfl) (hn : x ≠ "__name__" := by decide) (hdb : (x == ("__debug__" : Str)) = false := by decide)
    (he : starEach (e :: es) X.env = (false, eval e X.env) :: starEach es X.env := by rfl) (hpl : (backTo pos (starEach es X.env)).any (·.1) = false := by rfl) : VBx X (.Call (.Name x p1) (e :: es) [] pos) (bCall fs bs) := by
  obtain ⟨r, hc, hs⟩ := h.ex
  exact (pe_callB hc hg hm hv ha hn hdb he hpl).weak fun _ _ _ => bCall_imp hs fun _ _ _ h => h
theorem x_isi {n : String} (hm : X.mg x = none) (hv : bootBuiltins x = some (.builtin "isinstance")) (hq : X.mg q = none) (hqv : bootBuiltins q = some (.type n)) (ha : VR X e ba) (hg : Gl X x := by rfl) (hgq : Gl X q := by rfl) (hn : x ≠ "__name__" := by decide) (hdb : (x == ("__debug__" : Str)) = false := by decide) (hnq : q ≠ "__name__" := by decide) (hdbq : (q == ("__debug__" : Str)) = false := by decide)
    (he : starEach (e :: [.Name q p2]) X.env = (false, eval e X.env) :: starEach [.Name q p2] X.env := by rfl) (hpl : (backTo pos (starEach [.Name q p2] X.env)).any (·.1) = false := by rfl) : VBx X (.Call (.Name x p1) [e, .Name q p2] [] pos) (bCall isiD (bsC ba (bsC (bC (.ty n)) bsN))) :=
  (pe_callB call_isi hg hm hv (pa_cons ha (pa_cons (pe_bltn hgq hq hqv (v := .ty n) rfl hnq hdbq) pa_nil) he) hn hdb he hpl).weak fun _ _ _ => bCall_imp calls_isi fun _ _ _ => bsC_imp (fun _ _ _ h => h) fun _ _ _ => bsC_imp (fun _ _ _ h => bC_imp (fun _ => .ty n) (tR_B h)) fun _ _ _ => bsN_imp
/-- as a test -/
theorem t_x (h : VBx X a ba) (he : ∀ whole, isTrue a X.env whole = (do let v ← whole; standAt a.pos; holding [v] (truthy v)) := by intro _; rfl) : VT X E a (cB ba) := (pt_val h he).weak fun _ _ _ => cB_imp
theorem v_listP (hm : X.mg x = none) (hv : bootBuiltins x = some (.type "list")) (ha : VPl X e i rs) (hg : Gl X x := by rfl) (hn : x ≠ "__name__" := by decide) (hdb : (x == ("__debug__" : Str)) = false := by decide)
    (he : starEach (e :: []) X.env = (false, eval e X.env) :: starEach [] X.env := by rfl) (hpl : (backTo pos (starEach [] X.env)).any (·.1) = false := by rfl) : VE X E (.Call (.Name x p1) [e] [] pos) (eListP i rs) :=
  (pe_callTy call_list_of hg hm hv (pa_cons ha.pe pa_nil he) hn hdb he hpl).weak fun _ _ _ => listP_imp ha.ok
theorem v_tupP (hm : X.mg x = none) (hv : bootBuiltins x = some (.type "tuple")) (ha : VPl X e i rs) (hg : Gl X x := by rfl) (hn : x ≠ "__name__" := by decide) (hdb : (x == ("__debug__" : Str)) = false := by decide)
    (he : starEach (e :: []) X.env = (false, eval e X.env) :: starEach [] X.env := by rfl) (hpl : (backTo pos (starEach [] X.env)).any (·.1) = false := by rfl) : VE X E (.Call (.Name x p1) [e] [] pos) (eTupP i rs) :=
  (pe_callTy call_tuple_of hg hm hv (pa_cons ha.pe pa_nil he) hn hdb he hpl).weak fun _ _ _ => tupP_imp ha.ok
theorem v_dictP (hm : X.mg x = none) (hv : bootBuiltins x = some (.type "dict")) (ha : VPl X e i rs) (hg : Gl X x := by rfl) (hn : x ≠ "__name__" := by decide) (hdb : (x == ("__debug__" : Str)) = false := by decide)
    (he : starEach (e :: []) X.env = (false, eval e X.env) :: starEach [] X.env := by rfl) (hpl : (backTo pos (starEach [] X.env)).any (·.1) = false := by rfl) : VE X E (.Call (.Name x p1) [e] [] pos) (eDictP i rs) :=
  (pe_callTy call_dictD hg hm hv (pa_cons ha.pe pa_nil he) hn hdb he hpl).weak fun _ _ _ => dictP_imp ha.ok
structure VPx (X : Cx) (e : Option Expr) (b : Option BD) : Prop where
  ex : ∃ t, PO X e t ∧ PartX X.K b t
theorem px_none : VPx X none none := ⟨_, po_none, .none⟩
theorem px_some (h : VBx X e ba) : VPx X (some e) (some ba) := ⟨_, po_some h, .some fun _ _ _ h => h⟩
theorem v_slP {lo hi : Option Expr} {bl bh : Option BD} (ha : VPl X a i rs) (hl : VPx X lo bl) (hh : VPx X hi bh) : VE X E (.Subscript a (.Slice lo hi none p2) pos) (eSlP i rs bl bh) := by
  obtain ⟨t1, h1, h2⟩ := hl.ex
  obtain ⟨t2, h3, h4⟩ := hh.ex
  exact (pe_slice sl_W ha.pe h1 h3).weak fun _ _ _ => slP_imp ha.ok h2 h4
theorem v_revP {k : Nat} (ha : VPl X e i rs) : VE X E (.Subscript e (.Slice none none (some (.UnaryOp .USub (.Constant (.int 1) k p1) p2)) p3) pos) (eRevP i rs) := by
  refine (pe_revW ha.pe).weak fun σ H Q h => ?_
  obtain ⟨Z, τ, T, env, F, ok, hl, post⟩ := h
  unfold eRevP at post
  split at post
  · rename_i y ey
    obtain ⟨v, A, B, hv, q1, i1, _⟩ := ok.place hl ha.ok ey
    refine hv _ ?_
    cases ez : revP y with
    | none => rw [ez] at post; exact post.elim
    | some z =>
      rw [ez] at post
      exact revP_run ok q1 ez fun w H' Z' F' s o => post w H' Z' F' s o
  · exact post.elim
end
end Ws

namespace Ws
open PySem L2
/-! ### what makes new objects and touches no old one -/
abbrev ND := Ws.Env → Option O
abbrev NDs := Ws.Env → Option (List O)
section
variable {K : PySem.W.Frag} {E : XK} {Z Z' H H' : Hp} {σ σ' σ1 τ ρ : St} {env env' T R : Ws.Env} {F G A : Fp} {Q Q' : VK} {v : V} {o o1 : O} {d : D} {io : Nat → Bool}
variable (K) in
def tN (m : ND) : TE := fun σ H Q => ∃ (Z : Hp) (τ : St) (T env : Ws.Env) (F : Fp) (o : O), Ok K Z H (τ ++ σ) (T ++ env) F ∧ τ.length = T.length ∧ m env = some o ∧
  ∀ (v : V) (H' Z' : Hp) (C : Fp), Same Z Z' → Same H H' → Ok K Z' H' (τ ++ σ) (T ++ env) F → RepO K Z' H' v o C → (∀ b, C b + F b ≤ 1) → (∀ b, 0 < C b → Z' b = none ∧ H' b ≠ none) → Q v H'
variable (K) in
def tNs (ms : NDs) : TA := fun σ H Q => ∃ (Z : Hp) (τ : St) (T env : Ws.Env) (F : Fp) (os : List O), Ok K Z H (τ ++ σ) (T ++ env) F ∧ τ.length = T.length ∧ ms env = some os ∧
  ∀ (vs : List V) (H' Z' : Hp) (C : Fp), Same Z Z' → Same H H' → Ok K Z' H' (τ ++ σ) (T ++ env) F → RepOs K Z' H' vs os C → (∀ b, C b + F b ≤ 1) → (∀ b, 0 < C b → Z' b = none ∧ H' b ≠ none) → Q vs H'
variable (K) in
def tBs (bs : Ws.Env → Option (List D)) : TA := fun σ H Q => ∃ (Z : Hp) (τ : St) (T env : Ws.Env) (F : Fp) (ds : List D), Ok K Z H (τ ++ σ) (T ++ env) F ∧ τ.length = T.length ∧ bs env = some ds ∧ ∀ vs, Reps K Z vs ds → Q vs H
theorem bbN_imp {σ : St} {H : Hp} {Q : List V → Hp → Prop} (h : tBs K bsN σ H Q) : tNil σ H Q := by
  obtain ⟨Z, τ, T, env, F, d, ok, hl, e, k⟩ := h
  cases e
  exact k [] .nil
theorem bbC_imp {a : BD} {bs : Ws.Env → Option (List D)} {ta : TE} {tas : TA} (ha : ∀ σ H Q, tB K a σ H Q → ta σ H Q) (hb : ∀ σ H Q, tBs K bs σ H Q → tas σ H Q) {σ : St} {H : Hp} {Q : List V → Hp → Prop} (h : tBs K (bsC a bs) σ H Q) : tCons ta tas σ H Q := by
  obtain ⟨Z, τ, T, env, F, d, ok, hl, e, k⟩ := h
  unfold bsC at e
  split at e
  · rename_i x xs ea eb
    cases e
    exact ha σ H _ ⟨Z, τ, T, env, F, x, ok, hl, ea, fun v qv => hb σ H _ ⟨Z, τ, T, env, F, xs, ok, hl, eb, fun vs qs => k (v :: vs) (.cons qv qs)⟩⟩
  · cases e
def nB (b : BD) : ND := fun e => (b e).map .pu
theorem nB_imp {b : BD} {σ : St} {H : Hp} {Q : VK} (h : tN K (nB b) σ H Q) : tB K b σ H Q := by
  obtain ⟨Z, τ, T, env, F, o, ok, hl, e, k⟩ := h
  obtain ⟨d, e1, rfl⟩ := map_some e
  exact ⟨Z, τ, T, env, F, d, ok, hl, e1, fun v q => k v H Z (fun _ => 0) (Same.refl Z) (Same.refl H) ok (.pu q) (fun b => by have := ok.le b; simpa using this) fun b z => by simp at z⟩
/-- a tuple of what stays -/
def nTup (bs : Ws.Env → Option (List D)) : ND := fun e => (bs e).bind fun ds => if ds.length ≤ 100000 then some (.pu (.tup ds)) else none
/-- a list of what stays -/
def nLst (bs : Ws.Env → Option (List D)) : ND := fun e => (bs e).bind fun ds => if ds.length ≤ 100000 then some (.li (ds.map .pu)) else none
theorem nTup_imp {bs : Ws.Env → Option (List D)} {ta : TA} (ha : ∀ σ H Q, tBs K bs σ H Q → ta σ H Q) {σ : St} {H : Hp} {Q : VK} (h : tN K (nTup bs) σ H Q) : tTup ta σ H Q := by
  obtain ⟨Z, τ, T, env, F, o, ok, hl, e, k⟩ := h
  obtain ⟨ds, e1, e2⟩ := Option.bind_eq_some_iff.mp e
  split at e2
  · rename_i hz
    cases e2
    refine ha σ H _ ⟨Z, τ, T, env, F, ds, ok, hl, e1, fun vs qs => ?_⟩
    refine ⟨by rw [qs.length]; exact line_le hz, fun p hp => ?_⟩
    have np : Z p = none := ok.sub.none hp
    have s : Same Z (upd Z p (.tup vs)) := Same.upd np
    have ok1 := ok.same (Same.upd (u := .tup vs) hp)
    have ok2 : Ok K (upd Z p (.tup vs)) (upd H p (.tup vs)) (τ ++ σ) (T ++ env) F := ok1.know s (fun b u ub => by
      by_cases x : b = p
      · subst x; rw [upd_same] at ub; exact .inl (by rw [upd_same]; exact ub)
      · rw [upd_ne x] at ub; exact ok1.sub b u ub) fun b z => by
      have : b ≠ p := fun x => by subst x; exact ok.there _ z hp
      rw [upd_ne this]
      exact ok.own b z
    exact k _ _ _ (fun _ => 0) s (Same.upd hp) ok2 (.pu (.tup (.of upd_same) (qs.mono (le_of_same s)))) (fun b => by have := ok.le b; simpa using this) fun b z => by simp at z
  · cases e2
theorem nLst_imp {bs : Ws.Env → Option (List D)} {ta : TA} (ha : ∀ σ H Q, tBs K bs σ H Q → ta σ H Q) {σ : St} {H : Hp} {Q : VK} (h : tN K (nLst bs) σ H Q) : tLst ta σ H Q := by
  obtain ⟨Z, τ, T, env, F, o, ok, hl, e, k⟩ := h
  obtain ⟨ds, e1, e2⟩ := Option.bind_eq_some_iff.mp e
  split at e2
  · rename_i hz
    cases e2
    refine ha σ H _ ⟨Z, τ, T, env, F, ds, ok, hl, e1, fun vs qs => ?_⟩
    refine ⟨by rw [qs.length]; exact line_le hz, fun p hp => ?_⟩
    have ok1 := ok.same (Same.upd (u := .lst vs) hp)
    have fp : F p = 0 := by
      rcases Nat.eq_zero_or_pos (F p) with z | z
      · exact z
      · exact absurd hp (ok.there _ z)
    refine k _ _ Z (one p) (Same.refl Z) (Same.upd hp) ok1 (.li (F := fun _ => 0) upd_same (qs.os (H := upd H p (.lst vs))) fun b => by simp) (fun b => ?_) fun b z => ?_
    · by_cases x : b = p
      · subst x; rw [one_self, fp]; exact Nat.le_refl _
      · have : one p b = 0 := if_neg x
        rw [this]; have := ok.le b; omega
    · have : b = p := by
        by_cases x : b = p
        · exact x
        · rw [show one p b = 0 from if_neg x] at z; cases z
      subst this
      exact ⟨ok.sub.none hp, by rw [upd_same]; simp⟩
  · cases e2
def nsN : NDs := fun _ => some []
def nsC (m : ND) (ms : NDs) : NDs := fun e => match m e, ms e with
  | some x, some xs => some (x :: xs)
  | _, _ => none
theorem nsN_imp {σ : St} {H : Hp} {Q : List V → Hp → Prop} (h : tNs K nsN σ H Q) : tNil σ H Q := by
  obtain ⟨Z, τ, T, env, F, os, ok, hl, e, k⟩ := h
  cases e
  exact k [] H Z (fun _ => 0) (Same.refl Z) (Same.refl H) ok .nil (fun b => by have := ok.le b; simpa using this) fun b z => by simp at z
theorem nsC_imp {m : ND} {ms : NDs} {ta : TE} {tas : TA} (ha : ∀ σ H Q, tN K m σ H Q → ta σ H Q) (hb : ∀ σ H Q, tNs K ms σ H Q → tas σ H Q) {σ : St} {H : Hp} {Q : List V → Hp → Prop} (h : tNs K (nsC m ms) σ H Q) : tCons ta tas σ H Q := by
  obtain ⟨Z, τ, T, env, F, os, ok, hl, e, k⟩ := h
  unfold nsC at e
  split at e
  · rename_i x xs ea eb
    cases e
    refine ha σ H _ ⟨Z, τ, T, env, F, x, ok, hl, ea, fun v H1 Z1 C s1 sh1 ok1 q l f => ?_⟩
    have okp := ok1.push q l f
    refine hb σ H1 _ ⟨Z1, some v :: τ, some x :: T, env, _, xs, okp, by simp [hl], eb, fun vs H2 Z2 C2 s2 sh2 ok2 q2 l2 f2 => ?_⟩
    have q' : RepO K Z2 H2 v x C := q.mono (le_of_same s2) (fun b z => by
      cases e : H1 b with
      | none => exact absurd e (f b z).2
      | some u => exact sh2 _ _ e) fun b => Nat.le_refl _
    have ok3 : Ok K Z2 H2 (τ ++ σ) (T ++ env) F := by
      have okF := ok1.same sh2
      exact okF.know s2 ok2.sub fun b z => ok2.own b (by show 0 < C b + F b; omega)
    refine k (v :: vs) H2 Z2 (fun b => C b + C2 b) (s1.trans s2) (sh1.trans sh2) ok3 (.cons q' q2 fun b => Nat.le_refl _) (fun b => by have : C2 b + (C b + F b) ≤ 1 := l2 b; show C b + C2 b + F b ≤ 1; omega) fun b z => ?_
    have z : 0 < C b + C2 b := z
    by_cases zc : 0 < C b
    · refine ⟨ok2.own b (by show 0 < C b + F b; omega), ?_⟩
      cases e : H1 b with
      | none => exact absurd e (f b zc).2
      | some u => rw [sh2 _ _ e]; simp
    · exact f2 b (by omega)
  · cases e
/-- as an expression -/
def eN (m : ND) : M O := fun env => match m env with
  | some o => .ok o env
  | none => .no
@[simp] theorem eN.c (m : ND) {z : Option O} {zs : Ws.Env} : eN m (z :: zs) = (match m (z :: zs) with
  | some o => .ok o (z :: zs)
  | none => .no) := rfl
theorem eN_imp {m : ND} {σ : St} {H : Hp} {Q : VK} (h : tE K E (eN m) σ H Q) : tN K m σ H Q := by
  obtain ⟨Z, τ, T, env, F, ok, hl, post⟩ := h
  unfold eN at post
  split at post
  · rename_i o e
    exact ⟨Z, τ, T, env, F, o, ok, hl, e, fun v H' Z' C s sh ok' q l f => post v H' Z' _ s (ok'.push q l f)⟩
  · exact post.elim
/-! ### a change at a place -/
theorem Ok.mut {σt : St} {envt : Ws.Env} {Ft B A' : Fp} {a : Addr} {u' : HO} {st : St} {en : Ws.Env} (okt : Ok K Z H σt envt Ft) (ha : 0 < Ft a) (sl : RepSl K Z (upd H a u') st en (fun b => A' b + B b)) (g : ∀ b, A' b + B b ≤ Ft b) : Ok K Z (upd H a u') st en (fun b => A' b + B b) := by
  have za := okt.own a ha
  refine ⟨fun b u ub => ?_, sl, fun b => Nat.le_trans (g b) (okt.le b), fun b z => okt.own b (by have := g b; omega), fun b z => ?_⟩
  · have : b ≠ a := fun x => by subst x; rw [za] at ub; cases ub
    rw [upd_ne this]
    exact okt.sub b u ub
  · by_cases x : b = a
    · subst x; rw [upd_same]; simp
    · rw [upd_ne x]; exact okt.there b (by have := g b; omega)
/-- a method of a list at a place -/
def methK (i : Nat) (rs : List PSt) (env : Ws.Env) : Option (O × List O) → Out O
  | some (r, zs) => .ok r (putP env i rs (.li zs))
  | none => .no
@[simp] theorem methK_some (i : Nat) (rs : List PSt) (env : Ws.Env) (r : O) (zs : List O) : methK i rs env (some (r, zs)) = .ok r (putP env i rs (.li zs)) := rfl
@[simp] theorem methK_none (i : Nat) (rs : List PSt) (env : Ws.Env) : methK i rs env none = .no := rfl
def eMethP (f : List O → List O → Option (O × List O)) (i : Nat) (rs : List PSt) (ms : NDs) : M O := fun env => match getP env i rs, ms env with
  | some (.li xs), some ys => methK i rs env (f xs ys)
  | _, _ => .no
@[simp] theorem eMethP.c (f : List O → List O → Option (O × List O)) (i : Nat) (rs : List PSt) (ms : NDs) {z : Option O} {zs : Ws.Env} : eMethP f i rs ms (z :: zs) = (match getP (z :: zs) i rs, ms (z :: zs) with
  | some (.li xs), some ys => methK i rs (z :: zs) (f xs ys)
  | _, _ => .no) := rfl
theorem methP_run {f : List O → List O → Option (O × List O)} {r : V → List V → Hp → VK → Prop} {i : Nat} {rs : List PSt} (hv : MethV K f r) {xs ys : List O} {us : List V} {B C A : Fp} (ok' : Ok K Z' H' (τ ++ σ) (T ++ env) F) (q : RepO K Z' H' v (.li xs) A) (i3 : ∀ b, A b + B b ≤ F b)
    (p4 : ∀ {o' : O} {A' G : Fp} {H2 : Hp}, (∀ b, 0 < B b → H2 b = H' b) → RepO K Z' H2 v o' A' → (∀ b, A' b + B b ≤ G b) → RepSl K Z' H2 (τ ++ σ) (T ++ putP env i rs o') G)
    (qy : RepOs K Z' H' us ys C) (l : ∀ b, C b + F b ≤ 1) (fr : ∀ b, 0 < C b → Z' b = none ∧ H' b ≠ none) (post : PostE K E Z' τ T σ Q (methK i rs env (f xs ys))) : r v us H' Q := by
  cases q with
  | @li a vs _ A1 _ ha qs j =>
    cases e : f xs ys with
    | none => rw [e] at post; exact post.elim
    | some p =>
      obtain ⟨z, zs⟩ := p
      rw [e] at post
      have hA : 0 < A a := by have := j a; rw [one_self] at this; omega
      have na : ∀ b, 0 < A1 b → b ≠ a := fun b w x => by subst x; have := j b; rw [one_self] at this; have := i3 b; have := ok'.le b; omega
      have nb : ∀ b, 0 < C b → b ≠ a := fun b w x => by subst x; have := l b; have := i3 b; omega
      have nB : ∀ b, 0 < B b → b ≠ a := fun b w x => by subst x; have := i3 b; have := ok'.le b; omega
      refine hv Z' H' a vs us xs ys zs z A1 C Q ha qs qy e fun w ws C1 C2 hC ic => ?_
      have kp : ∀ b, b ≠ a → upd H' a (.lst ws) b = H' b := fun b h => upd_ne h
      obtain ⟨c1, c2⟩ := hC (upd H' a (.lst ws)) kp na nb
      have pt := p4 (H2 := upd H' a (.lst ws)) (o' := .li zs) (A' := fun b => one a b + C2 b) (G := fun b => one a b + C2 b + B b) (fun b w => kp b (nB b w)) (.li upd_same c2 fun b => Nat.le_refl _) fun b => Nat.le_refl _
      have tot : ∀ b, C1 b + (one a b + C2 b) + B b ≤ C b + F b := fun b => by have := ic b; have := j b; have := i3 b; omega
      have okt : Ok K Z' H' (us.map some ++ (τ ++ σ)) (ys.map some ++ (T ++ env)) (fun b => C b + F b) := by
        refine ⟨ok'.sub, slots_cons qy ok'.sl fun b => Nat.le_refl _, l, fun b z => ?_, fun b z => ?_⟩
        · by_cases zc : 0 < C b
          · exact (fr b zc).1
          · exact ok'.own b (by have z : 0 < C b + F b := z; omega)
        · by_cases zc : 0 < C b
          · exact (fr b zc).2
          · exact ok'.there b (by have z : 0 < C b + F b := z; omega)
      have sl2 : RepSl K Z' (upd H' a (.lst ws)) (some w :: (τ ++ σ)) (some z :: (T ++ putP env i rs (.li zs))) (fun b => C1 b + (one a b + C2 b + B b)) := .so c1 pt fun b => Nat.le_refl _
      have okz := Ok.mut (A' := C1) (B := fun b => one a b + C2 b + B b) okt (by show 0 < C a + F a; have := i3 a; omega) sl2 fun b => by have := tot b; show C1 b + (one a b + C2 b + B b) ≤ C b + F b; omega
      exact post w _ Z' _ (Same.refl Z') okz
theorem methP_imp {f : List O → List O → Option (O × List O)} {r : V → List V → Hp → VK → Prop} {i : Nat} {rs : List PSt} {ms : NDs} {ta : TA} (hv : MethV K f r) (hr : RsOk K rs) (hta : ∀ σ H Q, tNs K ms σ H Q → ta σ H Q) {σ : St} {H : Hp} {Q : VK} (h : tE K E (eMethP f i rs ms) σ H Q) : tBM K "list" r (tPl K i rs) ta σ H Q := by
  obtain ⟨Z, τ, T, env, F, ok, hl, post⟩ := h
  unfold eMethP at post
  split at post
  · rename_i xs ys ex ey
    obtain ⟨v, A, B, p1, p2, p3, p4⟩ := ok.place hl hr ex
    refine p1 _ ⟨?_, ?_⟩
    · cases p2 with
      | li a _ _ => exact .inl ⟨rfl, _, SqL.of a⟩
    · refine hta σ H _ ⟨Z, τ, T, env, F, ys, ok, hl, ey, fun us H' Z' C s sh ok' qy l fr => ?_⟩
      have kp : ∀ b, 0 < F b → H' b = H b := fun b z => by
        cases e : H b with
        | none => exact absurd e (ok.there b z)
        | some u => exact sh _ _ e
      have q' : RepO K Z' H' v (.li xs) A := p2.mono (le_of_same s) (fun b z => kp b (by have := p3 b; omega)) fun b => Nat.le_refl _
      exact methP_run hv ok' q' p3 (fun {o' A' G H2} k q g => p4 (le_of_same s) (fun b z => (k b z).trans (kp b (by have := p3 b; omega))) q g) qy l fr (PostE.mono s post)
  · exact post.elim
theorem methP0_imp {f : List O → List O → Option (O × List O)} {r : V → List V → Hp → VK → Prop} {i : Nat} {rs : List PSt} (hv : MethV K f r) (hr : RsOk K rs) {σ : St} {H : Hp} {Q : VK} (h : tE K E (eMethP f i rs nsN) σ H Q) : tBM0 K "list" r (tPl K i rs) σ H Q := by
  obtain ⟨Z, τ, T, env, F, ok, hl, post⟩ := h
  unfold eMethP at post
  split at post
  · rename_i xs ys ex ey
    cases ey
    obtain ⟨v, A, B, p1, p2, p3, p4⟩ := ok.place hl hr ex
    refine p1 _ ⟨?_, ?_⟩
    · cases p2 with
      | li a _ _ => exact .inl ⟨rfl, _, SqL.of a⟩
    · exact methP_run (C := fun _ => 0) hv ok p2 p3 (fun {o' A' G H2} k q g => p4 Le.refl k q g) .nil (fun b => by have := ok.le b; simpa using this) (fun b z => by simp at z) post
  · exact post.elim
@[simp] def popAtF : List O → List O → Option (O × List O)
  | xs, [.pu (.int i)] => if -(2 ^ 63) ≤ i ∧ i < 2 ^ 63 then (ixN xs.length i).bind fun k => (xs[k]?).map fun o => (o, xs.eraseIdx k) else none
  | _, _ => none
theorem RepOs.erase : ∀ {vs : List V} {os : List O} {A : Fp} {k : Nat} {o : O}, RepOs K Z H vs os A → os[k]? = some o → ∃ v C C', vs[k]? = some v ∧ RepO K Z H v o C ∧ RepOs K Z H (vs.eraseIdx k) (os.eraseIdx k) C' ∧ ∀ b, C b + C' b ≤ A b
  | _, _, _, _, _, .nil, e => by simp at e
  | _, _, _, 0, _, .cons (F1 := A1) (F2 := A2) q r i, e => by simp at e; subst e; exact ⟨_, A1, A2, rfl, q, r, i⟩
  | _, _, _, k + 1, _, .cons (F1 := A1) (F2 := A2) q r i, e => by
    obtain ⟨v, C, C', a, b, c, d⟩ := RepOs.erase (k := k) r (by simpa using e)
    exact ⟨v, C, fun b => A1 b + C' b, by simpa using a, b, .cons q c fun b => Nat.le_refl _, fun b => by have := i b; have := d b; show C b + (A1 b + C' b) ≤ _; omega⟩
theorem methv_popAt : MethV K popAtF rPopAt := by
  intro Z H a vs us xs ys zs z A B Q ha qs qy e k
  unfold popAtF at e
  split at e
  · rename_i i
    split at e
    · rename_i hb
      obtain ⟨j, e1, e2⟩ := Option.bind_eq_some_iff.mp e
      obtain ⟨o, e3, e4⟩ := map_some e2
      cases e4
      obtain ⟨v, C, C', c1, c2, c3, c4⟩ := qs.erase e3
      cases qy with
      | cons q r _ =>
        cases r
        cases q with
        | pu q =>
          cases q
          refine ⟨a, vs, i, j, v, rfl, rfl, ha, hb.1, hb.2, by rw [qs.len]; exact (ixN_seq e1).1, c1, ?_⟩
          refine k v (vs.eraseIdx j) C C' (fun H' kp na nb => ⟨c2.mono Le.refl (fun b w => kp b (na b (by have := c4 b; omega))) fun b => Nat.le_refl _, c3.mono Le.refl (fun b w => kp b (na b (by have := c4 b; omega))) fun b => Nat.le_refl _⟩) fun b => by have := c4 b; omega
    · cases e
  · cases e
end
section
variable {X : Cx} {E : XK} {io : Nat → Bool} {i : Nat} {a e : Expr} {es : List Expr} {rs : List PSt} {pos apos cpos : Pos} {b : BD} {bs : Ws.Env → Option (List D)} {m : ND} {ms : NDs} {mf : List O → List O → Option (O × List O)} {name : Str} {id : String}
abbrev VN (X : Cx) (e : Expr) (m : ND) : Prop := PE X e (tN X.K m)
abbrev VNs (X : Cx) (es : List Expr) (ms : NDs) : Prop := PA X es (tNs X.K ms)
abbrev VBs (X : Cx) (es : List Expr) (bs : Ws.Env → Option (List D)) : Prop := PA X es (tBs X.K bs)
theorem n_x (h : VBx X e b) : VN X e (nB b) := h.weak fun _ _ _ => nB_imp
theorem bb_nil : VBs X [] bsN := pa_nil.weak fun _ _ _ => bbN_imp
theorem bb_cons (ha : VBx X a b) (hr : VBs X es bs) (hs : starEach (a :: es) X.env = (false, eval a X.env) :: starEach es X.env := by rfl) : VBs X (a :: es) (bsC b bs) := (pa_cons ha hr hs).weak fun _ _ _ => bbC_imp (fun _ _ _ h => h) fun _ _ _ h => h
theorem n_tup {x1 : Nat} (h : VBs X es bs) : VN X (.Tuple es x1 pos) (nTup bs) := (pe_tup h).weak fun _ _ _ => nTup_imp fun _ _ _ h => h
theorem n_lst (h : VBs X es bs) : VN X (.List es pos) (nLst bs) := (pe_lst h).weak fun _ _ _ => nLst_imp fun _ _ _ h => h
theorem ns_nil : VNs X [] nsN := pa_nil.weak fun _ _ _ => nsN_imp
theorem ns_cons (ha : VN X a m) (hr : VNs X es ms) (hs : starEach (a :: es) X.env = (false, eval a X.env) :: starEach es X.env := by rfl) : VNs X (a :: es) (nsC m ms) := (pa_cons ha hr hs).weak fun _ _ _ => nsC_imp (fun _ _ _ h => h) fun _ _ _ h => h
theorem v_n (h : VN X e m) : VE X E e (eN m) := h.weak fun _ _ _ => eN_imp
theorem m_popAt : MethR X "list.pop" popAtF := ⟨_, mt_popAt, methv_popAt⟩
theorem v_methP {o : Expr} (h : MethR X id mf) (slot : PySem.Slot "list" name id) (hty : typeOf (.builtin id) = Pure.pure (.type "method_descriptor")) (ho : VPl X o i rs) (ha : VNs X (e :: es) ms)
    (hbase : attributeBase o name X.env (eval o X.env) = eval o X.env := by rfl)
    (hfew : ((backTo cpos (starEach (e :: es) X.env)).all (fun x => !x.1) && (backToKw cpos (keywordEach [] X.env)).all (fun x => x.1.isSome)
      && decide ((e :: es).length + ([] : List Keyword).length + (if ([] : List Keyword).isEmpty then 0 else 1) < 30)) = true := by rfl)
    (hline : (apos.endLine == cpos.line) = true := by rfl) (hs : starEach (e :: es) X.env = (false, eval e X.env) :: starEach es X.env := by rfl) (hplain : (backTo cpos (starEach es X.env)).any (·.1) = false := by rfl) :
    VE X E (.Call (.Attribute o name apos) (e :: es) [] cpos) (eMethP mf i rs ms) := by
  obtain ⟨r, hm, hv⟩ := h.ex
  exact (pe_bm PySem.F.plainAttrs_list slot hty hm ho.pe ha hbase hfew hline hs hplain).weak fun _ _ _ => methP_imp hv ho.ok fun _ _ _ h => h
theorem v_methP0 {o : Expr} (h : MethR X id mf) (slot : PySem.Slot "list" name id) (hty : typeOf (.builtin id) = Pure.pure (.type "method_descriptor")) (ho : VPl X o i rs)
    (hbase : attributeBase o name X.env (eval o X.env) = eval o X.env := by rfl) (hline : (apos.endLine == cpos.line) = true := by rfl) : VE X E (.Call (.Attribute o name apos) [] [] cpos) (eMethP mf i rs nsN) := by
  obtain ⟨r, hm, hv⟩ := h.ex
  exact (pe_bm0 PySem.F.plainAttrs_list slot hty hm ho.pe hbase hline).weak fun _ _ _ => methP0_imp hv ho.ok
end
end Ws

namespace Ws
open PySem L2
/-! ### stores at a place -/
theorem PS.orS {X : Cx} {s : Stmt} {t1 t2 : TS} (h1 : PS X s t1) (h2 : PS X s t2) : PS X s (fun D σ H => t1 D σ H ∨ t2 D σ H) := ⟨fun pins st σ H D I h => h.elim (h1.run pins st σ H D I) (h2.run pins st σ H D I)⟩
def putFO : List (Str × O) → Str → O → List (Str × O)
  | [], n, x => [(n, x)]
  | (g, y) :: r, n, x => if g = n then (g, x) :: r else (g, y) :: putFO r n x
@[simp] theorem putFO_nil (n : Str) (x : O) : putFO [] n x = [(n, x)] := rfl
@[simp] theorem putFO_cons (g n : Str) (x y : O) (r : List (Str × O)) : putFO ((g, y) :: r) n x = if g = n then (g, x) :: r else (g, y) :: putFO r n x := rfl
section
variable {K : PySem.W.Frag} {E : XK} {Z Z' H H' : Hp} {σ σ' σ1 τ ρ : St} {env env' T R : Ws.Env} {F G A : Fp} {Q Q' : VK} {v : V} {o o1 : O} {d : D} {io : Nat → Bool}
theorem RepOf.put {n : Str} : ∀ {ws : List (Str × V)} {fs : List (Str × O)} {A C : Fp}, RepOf K Z H ws fs A → RepO K Z H v o C → RepOf K Z H (putF n v ws) (putFO fs n o) (fun b => A b + C b)
  | _, _, A, C, .nil, q => .cons (F2 := fun _ => 0) q .nil fun b => by show C b + 0 ≤ A b + C b; omega
  | _, _, A, C, .cons (k := g) (F1 := A1) (F2 := A2) q r i, qv => by
    unfold putF putFO
    by_cases h : g = n
    · rw [if_pos h, if_pos h]
      exact .cons qv r fun b => by have := i b; show C b + A2 b ≤ A b + C b; omega
    · rw [if_neg h, if_neg h]
      exact .cons (F2 := fun b => A2 b + C b) q (RepOf.put r qv) fun b => by have := i b; show A1 b + (A2 b + C b) ≤ A b + C b; omega
theorem RepOf.length : ∀ {ws : List (Str × V)} {fs : List (Str × O)} {A : Fp}, RepOf K Z H ws fs A → ws.length = fs.length
  | _, _, _, .nil => rfl
  | _, _, _, .cons _ r _ => by simp [r.length]
/-- place.n = value -/
def fstK (i : Nat) (rs : List PSt) (cs : List Str) (n : Str) (x : O) (e : Ws.Env) : Out Fl := match getP e i rs with
  | some (.ob C fs) => if cs.contains C = true ∧ fs.length < 1000 then .ok .nx (putP e i rs (.ob C (putFO fs n x))) else .no
  | _ => .no
def sFldP (i : Nat) (rs : List PSt) (cs : List Str) (n : Str) (m : M O) : M Fl := fun env => (m env).bind fun x e => fstK i rs cs n x e
@[simp] theorem sFldP.c (i : Nat) (rs : List PSt) (cs : List Str) (n : Str) (m : M O) {z : Option O} {zs : Ws.Env} : sFldP i rs cs n m (z :: zs) = ((m (z :: zs)).bind fun x e => fstK i rs cs n x e) := rfl
@[simp] theorem fstK.c (i : Nat) (rs : List PSt) (cs : List Str) (n : Str) (x : O) {z : Option O} {zs : Ws.Env} : fstK i rs cs n x (z :: zs) = (match getP (z :: zs) i rs with
  | some (.ob C fs) => if cs.contains C = true ∧ fs.length < 1000 then .ok .nx (putP (z :: zs) i rs (.ob C (putFO fs n x))) else .no
  | _ => .no) := rfl
theorem sFldP_imp {i : Nat} {rs : List PSt} {cs : List Str} {n : Str} {m : M O} {tv : TE} (hr : RsOk K rs) (hs : StOk K (.fld cs n)) (hv : ∀ σ H Q, tE K E m σ H Q → tv σ H Q) {D : Ends} {σ : St} {H : Hp} (h : tS K E io (sFldP i rs cs n m) D σ H) : sFld K (tPl K i rs) tv n D σ H := by
  obtain ⟨Z, τ, T, env, F, ok, hl, post⟩ := h
  refine hv σ H _ ⟨Z, τ, T, env, F, ok, hl, (stepES (ρ := []) (R := []) rfl post).imp fun v H1 ⟨Z1, F1, x, e1, s1, ok1, post1⟩ => ?_⟩
  obtain ⟨v', Av, F2, ev, qv, ok2, i2⟩ := Ok.top (x := some v) ok1
  cases ev
  unfold fstK at post1
  split at post1
  · rename_i C fs ex
    split at post1
    · rename_i hc
      obtain ⟨w, A, B, p1, p2, p3, p4⟩ := Ok.place (τ := τ) (T := T) (σ := σ) (env := e1) ok2 hl hr ex
      cases p2 with
      | @ob a C' dx _ ws _ A1 _ cn ha qs j =>
        obtain ⟨k1, k2⟩ := hs C C' hc.1 cn
        refine p1 _ ⟨a, C', dx, ws, rfl, ha, k1, k2, by rw [qs.length]; exact hc.2, ?_⟩
        have hA : 0 < A a := by have := j a; rw [one_self] at this; omega
        have na : ∀ b, 0 < A1 b → b ≠ a := fun b w x => by subst x; have := j b; rw [one_self] at this; have := p3 b; have := ok2.le b; omega
        have nv : ∀ b, 0 < Av b → b ≠ a := fun b w x => by subst x; have := i2 b; have := p3 b; have := ok1.le b; omega
        have nB : ∀ b, 0 < B b → b ≠ a := fun b w x => by subst x; have := p3 b; have := ok2.le b; omega
        have kp : ∀ b, b ≠ a → upd H1 a (.ins C' dx (putF n v ws)) b = H1 b := fun b h => upd_ne h
        have q2 : RepO K Z1 (upd H1 a (.ins C' dx (putF n v ws))) (.ref a) (.ob C (putFO fs n x)) (fun b => one a b + (A1 b + Av b)) :=
          .ob cn upd_same ((qs.mono Le.refl (fun b w => kp b (na b w)) fun b => Nat.le_refl _).put (qv.mono Le.refl (fun b w => kp b (nv b w)) fun b => Nat.le_refl _)) fun b => Nat.le_refl _
        have sl := p4 (Z' := Z1) (H' := upd H1 a (.ins C' dx (putF n v ws))) (G := fun b => one a b + (A1 b + Av b) + B b) Le.refl (fun b w => kp b (nB b w)) q2 fun b => Nat.le_refl _
        have okz := Ok.mut (A' := fun b => one a b + (A1 b + Av b)) (B := B) ok1 (by have := i2 a; have := p3 a; omega) sl fun b => by have := j b; have := p3 b; have := i2 b; show one a b + (A1 b + Av b) + B b ≤ F1 b; omega
        exact post1 σ _ Z1 _ (Same.refl Z1) (Pin.refl σ) okz
    · exact post1.elim
  · exact post1.elim
/-- place[key] = value: a dict (the value frozen), a list -/
def putPK (i : Nat) (rs : List PSt) (kb : BD) (x : O) (e : Ws.Env) : Out Fl := match getP e i rs, kb e with
  | some (.di kvs), some yd => (match dKey yd with
    | some k => if kvs.length < 100000 then .ok .nx (putP e i rs (.di (putKO kvs k x.toD))) else .no
    | none => .no)
  | some (.li xs), some (.int k) => (match ixN xs.length k with
    | some j => .ok .nx (putP e i rs (.li (xs.set j x)))
    | none => .no)
  | _, _ => .no
def sPutP (i : Nat) (rs : List PSt) (kb : BD) (m : M O) : M Fl := fun env => (m env).bind fun x e => putPK i rs kb x e
@[simp] theorem sPutP.c (i : Nat) (rs : List PSt) (kb : BD) (m : M O) {z : Option O} {zs : Ws.Env} : sPutP i rs kb m (z :: zs) = ((m (z :: zs)).bind fun x e => putPK i rs kb x e) := rfl
@[simp] theorem putPK.c (i : Nat) (rs : List PSt) (kb : BD) (x : O) {z : Option O} {zs : Ws.Env} : putPK i rs kb x (z :: zs) = (match getP (z :: zs) i rs, kb (z :: zs) with
  | some (.di kvs), some yd => (match dKey yd with
    | some k => if kvs.length < 100000 then .ok .nx (putP (z :: zs) i rs (.di (putKO kvs k x.toD))) else .no
    | none => .no)
  | some (.li xs), some (.int k) => (match ixN xs.length k with
    | some j => .ok .nx (putP (z :: zs) i rs (.li (xs.set j x)))
    | none => .no)
  | _, _ => .no) := rfl
theorem putP_dict {i : Nat} {rs : List PSt} {kb : BD} {td ty : TE} {x : O} {kvs : List (Ws.D × O)} {yd : Ws.D} {k : L2.Key} {D : Ends} (hr : RsOk K rs) (htd : td = tPl K i rs) (hy : ∀ σ H Q, tB K kb σ H Q → ty σ H Q) (hl : τ.length = T.length) (ok1 : Ok K Z H (some v :: (τ ++ σ)) (some x :: (T ++ env)) F)
    (ex : getP env i rs = some (.di kvs)) (ey : kb env = some yd) (ek : dKey yd = some k) (hz : kvs.length < 100000) (post : PostS K E io Z τ T σ D (.ok .nx (putP env i rs (.di (putKO kvs k x.toD))))) :
    td σ H fun w H2 => ty σ H2 fun y H3 => ∃ a H4, w = .ref a ∧ DPut H3 a y v H4 ∧ D.nx σ H4 := by
  subst htd
  obtain ⟨Z1, F1, s1, ok2⟩ := ok1.freeze
  obtain ⟨v', Av, F2, ev, qv, ok3, i3⟩ := Ok.top (x := some v) ok2
  cases ev
  obtain ⟨w, A, B, p1, p2, p3, p4⟩ := Ok.place (τ := τ) (T := T) (σ := σ) (env := env) ok3 hl hr ex
  cases p2 with
  | @di a ws _ A1 _ ha rk j =>
    cases qv with
    | pu qv =>
      refine p1 _ (hy σ H _ ⟨Z1, τ, T, env, F2, yd, ok3, hl, ey, fun u qu => ?_⟩)
      have hu := dKey_rep qu ek
      refine ⟨a, _, rfl, hu ▸ DPut.k ha (Nat.lt_of_lt_of_le (by rw [rk.length]; exact hz) (by decide)), ?_⟩
      have na : ∀ b, 0 < A1 b → b ≠ a := fun b w x => by subst x; have := j b; rw [one_self] at this; have := p3 b; have := ok3.le b; omega
      have nB : ∀ b, 0 < B b → b ≠ a := fun b w x => by subst x; have := j b; rw [one_self] at this; have := p3 b; have := ok3.le b; omega
      have kp : ∀ b, b ≠ a → upd H a (.dK (putK ws k v)) b = H b := fun b h => upd_ne h
      have q2 : RepO K Z1 (upd H a (.dK (putK ws k v))) (.ref a) (.di (putKO kvs k x.toD)) (fun b => one a b + A1 b) := .di upd_same (RepOk.mono Le.refl (RepOk.put qv rk) (fun b w => kp b (na b w)) fun b => Nat.le_refl _) fun b => Nat.le_refl _
      have sl := p4 (Z' := Z1) (H' := upd H a (.dK (putK ws k v))) (G := fun b => one a b + A1 b + B b) Le.refl (fun b w => kp b (nB b w)) q2 fun b => Nat.le_refl _
      have okz := Ok.mut (A' := fun b => one a b + A1 b) (B := B) ok3 (by have := j a; rw [one_self] at this; have := p3 a; omega) sl fun b => by have := j b; have := p3 b; show one a b + A1 b + B b ≤ F2 b; omega
      exact (PostS.mono s1 post) σ _ Z1 _ (Same.refl Z1) (Pin.refl σ) okz
theorem putP_list {i : Nat} {rs : List PSt} {kb : BD} {td ty : TE} {x : O} {xs : List O} {k : Int} {j : Nat} {D : Ends} (hr : RsOk K rs) (htd : td = tPl K i rs) (hy : ∀ σ H Q, tB K kb σ H Q → ty σ H Q) (hl : τ.length = T.length) (ok1 : Ok K Z H (some v :: (τ ++ σ)) (some x :: (T ++ env)) F)
    (ex : getP env i rs = some (.li xs)) (ey : kb env = some (.int k)) (ek : ixN xs.length k = some j) (post : PostS K E io Z τ T σ D (.ok .nx (putP env i rs (.li (xs.set j x))))) : gSub td ty rSetL v σ H D.nx := by
  subst htd
  obtain ⟨v', Av, F2, ev, qv, ok3, i3⟩ := Ok.top (x := some v) ok1
  cases ev
  obtain ⟨w, A, B, p1, p2, p3, p4⟩ := Ok.place (τ := τ) (T := T) (σ := σ) (env := env) ok3 hl hr ex
  cases p2 with
  | @li a vs _ A1 _ ha qs jj =>
    refine p1 _ (hy σ H _ ⟨Z, τ, T, env, F2, _, ok3, hl, ey, fun u qu => ?_⟩)
    cases qu
    refine ⟨a, vs, k, j, rfl, rfl, ha, by rw [qs.len]; exact ek, ?_⟩
    have na : ∀ b, 0 < A1 b → b ≠ a := fun b w x => by subst x; have := jj b; rw [one_self] at this; have := p3 b; have := ok3.le b; omega
    have nv : ∀ b, 0 < Av b → b ≠ a := fun b w x => by subst x; have := jj b; rw [one_self] at this; have := p3 b; have := i3 b; have := ok1.le b; omega
    have nB : ∀ b, 0 < B b → b ≠ a := fun b w x => by subst x; have := jj b; rw [one_self] at this; have := p3 b; have := ok3.le b; omega
    have kp : ∀ b, b ≠ a → upd H a (.lst (vs.set j v)) b = H b := fun b h => upd_ne h
    have q2 : RepO K Z (upd H a (.lst (vs.set j v))) (.ref a) (.li (xs.set j x)) (fun b => one a b + (A1 b + Av b)) := .li upd_same (RepOs.set j (qs.mono Le.refl (fun b w => kp b (na b w)) fun b => Nat.le_refl _) (qv.mono Le.refl (fun b w => kp b (nv b w)) fun b => Nat.le_refl _)) fun b => Nat.le_refl _
    have sl := p4 (Z' := Z) (H' := upd H a (.lst (vs.set j v))) (G := fun b => one a b + (A1 b + Av b) + B b) Le.refl (fun b w => kp b (nB b w)) q2 fun b => Nat.le_refl _
    have okz := Ok.mut (A' := fun b => one a b + (A1 b + Av b)) (B := B) ok1 (by have := jj a; rw [one_self] at this; have := p3 a; have := i3 a; omega) sl fun b => by have := jj b; have := p3 b; have := i3 b; show one a b + (A1 b + Av b) + B b ≤ F b; omega
    exact post σ _ Z _ (Same.refl Z) (Pin.refl σ) okz
theorem sPutP_imp {i : Nat} {rs : List PSt} {kb : BD} {m : M O} {tv ty : TE} (hr : RsOk K rs) (hy : ∀ σ H Q, tB K kb σ H Q → ty σ H Q) (hv : ∀ σ H Q, tE K E m σ H Q → tv σ H Q) {D : Ends} {σ : St} {H : Hp} (h : tS K E io (sPutP i rs kb m) D σ H) :
    L2.sDPut (tPl K i rs) ty tv D σ H ∨ tAsg tv (gSub (tPl K i rs) ty rSetL) D σ H := by
  obtain ⟨Z, τ, T, env, F, ok, hl, post⟩ := h
  unfold sPutP at post
  cases em : m env with
  | no => rw [em] at post; exact post.elim
  | ex x e1 =>
    rw [em] at post
    refine .inl (hv σ H _ ⟨Z, τ, T, env, F, ok, hl, ?_⟩)
    rw [em]
    exact post σ (Pin.refl σ)
  | ok x e1 =>
    rw [em] at post
    have post : PostS K E io Z τ T σ D (putPK i rs kb x e1) := post
    unfold putPK at post
    split at post
    · rename_i kvs yd ex ey
      split at post
      · rename_i k ek
        split at post
        · rename_i hz
          refine .inl (hv σ H _ ⟨Z, τ, T, env, F, ok, hl, ?_⟩)
          rw [em]
          intro v H1 Z1 F1 s1 ok1
          exact putP_dict hr rfl hy hl ok1 ex ey ek hz (PostS.mono s1 post)
        · exact post.elim
      · exact post.elim
    · rename_i xs k ex ey
      split at post
      · rename_i j ek
        refine .inr (hv σ H _ ⟨Z, τ, T, env, F, ok, hl, ?_⟩)
        rw [em]
        intro v H1 Z1 F1 s1 ok1
        exact putP_list hr rfl hy hl ok1 ex ey ek (PostS.mono s1 post)
      · exact post.elim
    · exact post.elim
/-! ### op= -/
def augK (i : Nat) (f : D → D → Option D) (y : O) (e : Ws.Env) : Out Fl := match e[i]?, y with
  | some (some (.pu x)), .pu y => (match f x y with
    | some z => .ok .nx (e.set i (some (.pu z)))
    | none => .no)
  | _, _ => .no
def sAug (i : Nat) (f : D → D → Option D) (m : M O) : M Fl := fun env => match env[i]? with
  | some (some (.pu _)) => (m env).bind fun y e => augK i f y e
  | _ => .no
@[simp] theorem sAug.c (i : Nat) (f : D → D → Option D) (m : M O) {z : Option O} {zs : Ws.Env} : sAug i f m (z :: zs) = (match (z :: zs)[i]? with
  | some (some (.pu _)) => (m (z :: zs)).bind fun y e => augK i f y e
  | _ => .no) := rfl
@[simp] theorem augK.c (i : Nat) (f : D → D → Option D) (y : O) {z : Option O} {zs : Ws.Env} : augK i f y (z :: zs) = (match (z :: zs)[i]?, y with
  | some (some (.pu x)), .pu y => (match f x y with
    | some w => .ok .nx ((z :: zs).set i (some (.pu w)))
    | none => .no)
  | _, _ => .no) := rfl
theorem sAug_imp {i : Nat} {f : D → D → Option D} {r : R2} {m : M O} {tv : TE} (hio : io i = false) (hf : OpS K f r) (hv : ∀ σ H Q, tE K E m σ H Q → tv σ H Q) {D : Ends} {σ : St} {H : Hp} (h : tS K E io (sAug i f m) D σ H) : tAug i tv r D σ H := by
  obtain ⟨Z, τ, T, env, F, ok, hl, post⟩ := h
  unfold sAug at post
  split at post
  · rename_i x0 ex0
    obtain ⟨v, hv0, _⟩ := ok.var hl ex0
    refine ⟨v, hv0, hv σ H _ ⟨Z, τ, T, env, F, ok, hl, (stepES (ρ := []) (R := []) rfl post).imp fun u H1 ⟨Z1, F1, y, e1, s1, ok1, post1⟩ => ?_⟩⟩
    obtain ⟨v', Av, F2, ev, qv, ok2, i2⟩ := Ok.top (x := some u) ok1
    cases ev
    unfold augK at post1
    split at post1
    · rename_i x y ex
      obtain ⟨w, hw, qx⟩ := Ok.var (τ := τ) (T := T) (σ := σ) (env := e1) ok2 hl ex
      rw [hv0] at hw
      cases hw
      split at post1
      · rename_i z ez
        cases qv with
        | pu qv =>
          refine hf H1 v u x y z _ (qx.mono (ok2.sub.le (K := K))) (qv.mono (ok2.sub.le (K := K))) ez fun w hw => ?_
          have ok3 := Ok.store (τ := τ) (T := T) (σ := σ) (env := e1) (i := i) (ok2.pure (hw Z1)) hl
          refine post1 (σ.set i (some w)) H1 Z1 _ (Same.refl Z1) ⟨by simp, fun j hj => ?_⟩ ok3
          rw [List.getElem?_set_ne]
          rintro rfl
          rw [hio] at hj
          cases hj
      · exact post1.elim
    · exact post1.elim
  · exact post.elim
/-- place.n op= e -/
def sFldAugP (i : Nat) (rs : List PSt) (cs : List Str) (n : Str) (f : D → D → Option D) (yb : BD) : M Fl := fun env => match getP env i rs, yb env with
  | some (.ob C fs), some y => (match getF fs n with
    | some (.pu x) => (match f x y with
      | some z => if cs.contains C = true ∧ fs.length < 1000 then .ok .nx (putP env i rs (.ob C (putFO fs n (.pu z)))) else .no
      | none => .no)
    | _ => .no)
  | _, _ => .no
@[simp] theorem sFldAugP.c (i : Nat) (rs : List PSt) (cs : List Str) (n : Str) (f : D → D → Option D) (yb : BD) {z : Option O} {zs : Ws.Env} : sFldAugP i rs cs n f yb (z :: zs) = (match getP (z :: zs) i rs, yb (z :: zs) with
  | some (.ob C fs), some y => (match getF fs n with
    | some (.pu x) => (match f x y with
      | some w => if cs.contains C = true ∧ fs.length < 1000 then .ok .nx (putP (z :: zs) i rs (.ob C (putFO fs n (.pu w)))) else .no
      | none => .no)
    | _ => .no)
  | _, _ => .no) := rfl
theorem sFldAugP_imp {i : Nat} {rs : List PSt} {cs : List Str} {n : Str} {f : D → D → Option D} {r : R2} {yb : BD} {tv : TE} (hr : RsOk K rs) (hs : StOk K (.fld cs n)) (hf : OpS K f r) (hv : ∀ σ H Q, tB K yb σ H Q → tv σ H Q) {D : Ends} {σ : St} {H : Hp} (h : tS K E io (sFldAugP i rs cs n f yb) D σ H) : sFldAug K (tPl K i rs) tv r n D σ H := by
  obtain ⟨Z, τ, T, env, F, ok, hl, post⟩ := h
  unfold sFldAugP at post
  split at post
  · rename_i C fs y ex ey
    split at post
    · rename_i x exf
      split at post
      · rename_i z ez
        split at post
        · rename_i hc
          obtain ⟨w, A, B, p1, p2, p3, p4⟩ := ok.place hl hr ex
          cases p2 with
          | @ob a C' dx _ ws _ A1 _ cn ha qs j =>
            obtain ⟨k1, k2⟩ := hs C C' hc.1 cn
            obtain ⟨wf, _, _, f1, f2, _, _⟩ := qs.sub exf
            cases f2 with
            | pu f2 =>
              refine p1 _ ⟨a, C', dx, ws, wf, rfl, ha, k1, k2, by rw [← getF_lookup]; exact f1, hv σ H _ ⟨Z, τ, T, env, F, y, ok, hl, ey, fun u qu => ?_⟩⟩
              refine hf H wf u x y z _ (f2.mono (ok.sub.le (K := K))) (qu.mono (ok.sub.le (K := K))) ez fun zz hz => ?_
              refine ⟨dx, ws, ha, by rw [qs.length]; exact hc.2, ?_⟩
              have na : ∀ b, 0 < A1 b → b ≠ a := fun b w x => by subst x; have := j b; rw [one_self] at this; have := p3 b; have := ok.le b; omega
              have nB : ∀ b, 0 < B b → b ≠ a := fun b w x => by subst x; have := j b; rw [one_self] at this; have := p3 b; have := ok.le b; omega
              have kp : ∀ b, b ≠ a → upd H a (.ins C' dx (putF n zz ws)) b = H b := fun b h => upd_ne h
              have q2 : RepO K Z (upd H a (.ins C' dx (putF n zz ws))) (.ref a) (.ob C (putFO fs n (.pu z))) (fun b => one a b + (A1 b + 0)) :=
                .ob cn upd_same ((qs.mono Le.refl (fun b w => kp b (na b w)) fun b => Nat.le_refl _).put (C := fun _ => 0) (.pu (hz Z))) fun b => Nat.le_refl _
              have sl := p4 (Z' := Z) (H' := upd H a (.ins C' dx (putF n zz ws))) (G := fun b => one a b + (A1 b + 0) + B b) Le.refl (fun b w => kp b (nB b w)) q2 fun b => Nat.le_refl _
              have okz := Ok.mut (A' := fun b => one a b + (A1 b + 0)) (B := B) ok (by have := j a; rw [one_self] at this; have := p3 a; omega) sl fun b => by have := j b; have := p3 b; show one a b + (A1 b + 0) + B b ≤ F b; omega
              exact post σ _ Z _ (Same.refl Z) (Pin.refl σ) okz
        · exact post.elim
      · exact post.elim
    · exact post.elim
  · exact post.elim
/-- place[key] op= e, a dict -/
def sDAugP (i : Nat) (rs : List PSt) (kb : BD) (f : D → D → Option D) (yb : BD) : M Fl := fun env => match getP env i rs, kb env, yb env with
  | some (.di kvs), some kd, some y => (match dKey kd with
    | some k => (match getK kvs k with
      | some (.pu x) => (match f x y with
        | some z => if kvs.length < 100000 then .ok .nx (putP env i rs (.di (putKO kvs k z))) else .no
        | none => .no)
      | _ => .no)
    | none => .no)
  | _, _, _ => .no
@[simp] theorem sDAugP.c (i : Nat) (rs : List PSt) (kb : BD) (f : D → D → Option D) (yb : BD) {z : Option O} {zs : Ws.Env} : sDAugP i rs kb f yb (z :: zs) = (match getP (z :: zs) i rs, kb (z :: zs), yb (z :: zs) with
  | some (.di kvs), some kd, some y => (match dKey kd with
    | some k => (match getK kvs k with
      | some (.pu x) => (match f x y with
        | some w => if kvs.length < 100000 then .ok .nx (putP (z :: zs) i rs (.di (putKO kvs k w))) else .no
        | none => .no)
      | _ => .no)
    | none => .no)
  | _, _, _ => .no) := rfl
theorem sDAugP_imp {i : Nat} {rs : List PSt} {kb : BD} {f : D → D → Option D} {r : R2} {yb : BD} {ty tv : TE} (hr : RsOk K rs) (hf : OpS K f r) (hy : ∀ σ H Q, tB K kb σ H Q → ty σ H Q) (hv : ∀ σ H Q, tB K yb σ H Q → tv σ H Q) {D : Ends} {σ : St} {H : Hp} (h : tS K E io (sDAugP i rs kb f yb) D σ H) : sDAug (tPl K i rs) ty tv r D σ H := by
  obtain ⟨Z, τ, T, env, F, ok, hl, post⟩ := h
  unfold sDAugP at post
  split at post
  · rename_i kvs kd y ex ekd ey
    split at post
    · rename_i k ek
      split at post
      · rename_i x exf
        split at post
        · rename_i z ez
          split at post
          · rename_i hz
            obtain ⟨w, A, B, p1, p2, p3, p4⟩ := ok.place hl hr ex
            cases p2 with
            | @di a ws _ A1 _ ha rk j =>
              obtain ⟨wf, _, _, f1, f2, _, _⟩ := rk.sub exf
              cases f2 with
              | pu f2 =>
                refine p1 _ (hy σ H _ ⟨Z, τ, T, env, F, kd, ok, hl, ekd, fun u qu => ?_⟩)
                have hu := dKey_rep qu ek
                refine ⟨a, wf, rfl, by rw [hu, ← f1]; exact DGet.k ha, hv σ H _ ⟨Z, τ, T, env, F, y, ok, hl, ey, fun u2 qu2 => ?_⟩⟩
                refine hf H wf u2 x y z _ (f2.mono (ok.sub.le (K := K))) (qu2.mono (ok.sub.le (K := K))) ez fun zz hzz => ?_
                refine ⟨_, hu ▸ DPut.k ha (Nat.lt_of_lt_of_le (by rw [rk.length]; exact hz) (by decide)), ?_⟩
                have na : ∀ b, 0 < A1 b → b ≠ a := fun b w x => by subst x; have := j b; rw [one_self] at this; have := p3 b; have := ok.le b; omega
                have nB : ∀ b, 0 < B b → b ≠ a := fun b w x => by subst x; have := j b; rw [one_self] at this; have := p3 b; have := ok.le b; omega
                have kp : ∀ b, b ≠ a → upd H a (.dK (putK ws k zz)) b = H b := fun b h => upd_ne h
                have q2 : RepO K Z (upd H a (.dK (putK ws k zz))) (.ref a) (.di (putKO kvs k z)) (fun b => one a b + A1 b) := .di upd_same (RepOk.mono Le.refl (RepOk.put (hzz Z) rk) (fun b w => kp b (na b w)) fun b => Nat.le_refl _) fun b => Nat.le_refl _
                have sl := p4 (Z' := Z) (H' := upd H a (.dK (putK ws k zz))) (G := fun b => one a b + A1 b + B b) Le.refl (fun b w => kp b (nB b w)) q2 fun b => Nat.le_refl _
                have okz := Ok.mut (A' := fun b => one a b + A1 b) (B := B) ok (by have := j a; rw [one_self] at this; have := p3 a; omega) sl fun b => by have := j b; have := p3 b; show one a b + A1 b + B b ≤ F b; omega
                exact post σ _ Z _ (Same.refl Z) (Pin.refl σ) okz
          · exact post.elim
        · exact post.elim
      · exact post.elim
    · exact post.elim
  · exact post.elim
end
section
variable {X : Cx} {E : XK} {io : Nat → Bool} {i : Nat} {a b e value : Expr} {rs : List PSt} {pos pos' tpos : Pos} {kb yb : BD} {m : M O} {n : Str} {cs : List Str} {x : Str} {op : Operator} {f : D → D → Option D}
theorem s_fldP (ha : VPl X a i rs) (hs : StOk X.K (.fld cs n)) (hv : VE X E value m) (hsw : swapsWith value (some (.Attribute a n pos')) pos.line X.env = Pure.pure false := by rfl) : VS X E io (.Assign [.Attribute a n pos'] value pos) (sFldP i rs cs n m) := (ps_fld ha.pe hv hsw).weak fun _ _ _ => sFldP_imp ha.ok hs fun _ _ _ h => h
theorem s_putP (hu : X.A.units + 1 < cLine) (ha : VPl X a i rs) (hb : VBx X b kb) (hv : VE X E value m) (hsw : swapsWith value (some (.Subscript a b pos')) pos.line X.env = Pure.pure false := by rfl)
    (hss : swapsWithSole [.Subscript a b pos'] value pos.line X.env = Pure.pure false := by rfl) (hw : swappedStores [.Subscript a b pos'] value X.env = Pure.pure none := by rfl) (h1 : (assignEach [.Subscript a b pos'] X.env).map (·.2) = [assign (.Subscript a b pos') X.env] := by rfl)
    (has : ∀ v, assign (.Subscript a b pos') X.env v = (do
      let ov ← holding [v] (eval a X.env)
      let iv ← holding [v, ov] (eval b X.env)
      standAt pos'
      holding [v, ov, iv] (setItem ov iv v)
      release [v, ov, iv] []) := by intro _; rfl) : VS X E io (.Assign [.Subscript a b pos'] value pos) (sPutP i rs kb m) :=
  (PS.orS (ps_dput hu ha.pe hb hv hsw) (ps_asg hv (pg_sub ha.pe hb set_list has) hss hw h1)).weak fun _ _ _ => sPutP_imp ha.ok (fun _ _ _ h => h) fun _ _ _ h => h
structure AugR (X : Cx) (op : Operator) (f : D → D → Option D) : Prop where
  ex : ∃ r, OpR X (inplaceOp op) r ∧ OpS X.K f r
theorem g_add : AugR X .Add addD := ⟨_, iop_add.or iop_add_str, ops_add⟩
theorem g_sub : AugR X .Sub (iiD (fun _ _ => true) fun i j => i - j) := ⟨_, iop_sub, ops_I0⟩
theorem s_aug (h : AugR X op f) (hN : X.N.Nodup) (hx : Loc X.env.scope x) (he : VE X E e m) (hi : X.N[i]? = some x := by rfl) (hio : io i = false := by rfl) (hf : X.fn x = true ∨ X.env.scope.names.lookup x = some .local := by first | exact .inl rfl | exact .inr rfl | assumption) : VS X E io (.AugAssign (.Name x pos') op e pos) (sAug i f m) := by
  obtain ⟨r, ho, hs⟩ := h.ex
  exact (ps_aug (ti := r) hN hi hx he (fun pins s σ H x y v u Q I r1 r2 h => ho pins s σ H x y v u Q I r1 r2 h) hf).weak fun _ _ _ => sAug_imp hio hs fun _ _ _ h => h
theorem s_fldaug (h : AugR X op f) (ha : VPl X a i rs) (hs : StOk X.K (.fld cs n)) (hv : VBx X value yb) : VS X E io (.AugAssign (.Attribute a n tpos) op value pos) (sFldAugP i rs cs n f yb) := by
  obtain ⟨r, ho, hss⟩ := h.ex
  exact (ps_fldaug (rd := r) ha.pe hv (fun pins s σ H x y v u Q I r1 r2 h => ho pins s σ H x y v u Q I r1 r2 h)).weak fun _ _ _ => sFldAugP_imp ha.ok hs hss fun _ _ _ h => h
theorem s_daug (hu : X.A.units + 1 < cLine) (h : AugR X op f) (ha : VPl X a i rs) (hb : VBx X b kb) (hv : VBx X value yb) (hst : ∀ ov iv new, augStore b ov iv new = (do holding [new, ov, iv] (setItem ov iv new); release [new, ov, iv] []; Pure.pure .next) := by intros; rfl) : VS X E io (.AugAssign (.Subscript a b tpos) op value pos) (sDAugP i rs kb f yb) := by
  obtain ⟨r, ho, hss⟩ := h.ex
  exact (ps_daug (rd := r) hu ha.pe hb hv (fun pins s σ H x y v u Q I r1 r2 h => ho pins s σ H x y v u Q I r1 r2 h) hst).weak fun _ _ _ => sDAugP_imp ha.ok hss (fun _ _ _ h => h) fun _ _ _ h => h
end
end Ws

namespace Ws
open PySem L2
/-! ### own classes: new instances, methods -/
section
variable {K : PySem.W.Frag} {E : XK} {Z Z' H H' : Hp} {σ σ' σ1 τ ρ : St} {env env' T R : Ws.Env} {F G A : Fp} {Q Q' : VK} {v : V} {o o1 : O} {d : D} {io : Nat → Bool}
theorem Ok.newI {C dx p : Addr} {cn : Str} (cl : ClsN K cn C) (ok : Ok K Z H σ env F) (hp : H p = none) : Ok K Z (upd H p (.ins C dx [])) (some (.ref p) :: σ) (some (.ob cn []) :: env) (fun b => one p b + F b) := by
  have np : F p = 0 := by
    rcases Nat.eq_zero_or_pos (F p) with z | z
    · exact z
    · exact absurd hp (ok.there p z)
  have ok1 := ok.same (Same.upd (u := .ins C dx []) hp)
  refine ok1.push (.ob (F := fun _ => 0) cl upd_same .nil fun b => by simp) (fun b => ?_) fun b z => ?_
  · by_cases x : b = p
    · subst x; rw [one_self, np]; exact Nat.le_refl _
    · rw [show one p b = 0 from if_neg x]; have := ok.le b; omega
  · have : b = p := by
      by_cases x : b = p
      · exact x
      · rw [show one p b = 0 from if_neg x] at z; cases z
    subst this
    exact ⟨ok.sub.none hp, by rw [upd_same]; simp⟩
def makeK (li : List (Option Nat)) (e : Ws.Env) : Out O → Out O
  | .ok (.pu .non) (some o :: ps) => .ok o (back li ps e)
  | .ex x (_ :: ps) => .ex x (back li ps e)
  | _ => .no
@[simp] theorem makeK_ok (li : List (Option Nat)) (e : Ws.Env) (o : O) (ps : Ws.Env) : makeK li e (.ok (.pu .non) (some o :: ps)) = .ok o (back li ps e) := rfl
@[simp] theorem makeK_ex (li : List (Option Nat)) (e : Ws.Env) (x : Exn) (o : Option O) (ps : Ws.Env) : makeK li e (.ex x (o :: ps)) = .ex x (back li ps e) := rfl
@[simp] theorem makeK_no (li : List (Option Nat)) (e : Ws.Env) : makeK li e .no = .no := rfl
def eMake (cn : Str) (f : FD) (li : List (Option Nat)) (ms : M (List O)) : M O := fun env => (ms env).bind fun xs e => makeK li e (f (.ob cn [] :: xs))
@[simp] theorem eMake.c (cn : Str) (f : FD) (li : List (Option Nat)) (ms : M (List O)) {z : Option O} {zs : Ws.Env} : eMake cn f li ms (z :: zs) = ((ms (z :: zs)).bind fun xs e => makeK li e (f (.ob cn [] :: xs))) := rfl
theorem make_run {C : Addr} {cn : Str} {f : FD} {n : Nat} {li : List (Option Nat)} {us : List V} {xs : List O} (cl : ClsN K cn C) (hn : li.length = n) (hl : τ.length = T.length) (ok1 : Ok K Z H (us.map some ++ (τ ++ σ)) (xs.map some ++ (T ++ env)) F) (l1 : us.length = xs.length) (io1 : IoOk σ li us)
    (post : PostE K E Z τ T σ Q (makeK li env (f (.ob cn [] :: xs)))) (x dx : Addr) (hx : H x = none) (hdx : H dx = none) (hne : dx ≠ x) :
    spV K (n + 1) f (.ref x :: us) (upd (upd H dx (.own x)) x (.ins C dx [])) (fun v H2 => v = .non ∧ Q (.ref x) H2) E := by
  have hlen := io1.length
  have ok2 : Ok K Z (upd (upd H dx (.own x)) x (.ins C dx [])) (some (.ref x) :: (us.map some ++ (τ ++ σ))) (some (.ob cn []) :: (xs.map some ++ (T ++ env))) _ := Ok.newI cl (ok1.same (Same.upd hdx)) (by rw [upd_ne (Ne.symm hne)]; exact hx)
  refine ⟨by simp [hlen, hn], Z, τ ++ σ, T ++ env, .ob cn [] :: xs, _, ok2, by simp [l1], ?_, ?_⟩
  · have := ok1.sl.len
    simp only [List.length_append, List.length_map] at this ⊢
    omega
  · cases e : f (.ob cn [] :: xs) with
    | no => rw [e] at post; exact post.elim
    | ok r ps =>
      rw [e] at post
      cases ps with
      | nil => cases r with
          | pu r => cases r <;> exact post.elim
          | _ => exact post.elim
      | cons p0 ps =>
        cases p0 with
        | none => cases r with
          | pu r => cases r <;> exact post.elim
          | _ => exact post.elim
        | some o =>
          cases r with
          | pu r =>
            cases r with
            | non =>
              intro v H' Z' F' s lp ok'
              cases ok'.sl with
              | @so _ _ _ _ A B _ q r' i =>
                cases q with
                | pu q =>
                  cases q
                  refine ⟨rfl, ?_⟩
                  cases r' with
                  | @so _ _ _ _ A2 B2 _ q2 r2 i2 =>
                    obtain ⟨F2, F3, a, b, c⟩ := RepSl.split (by simpa using lp) r2
                    exact post (.ref x) H' Z' F' s (ok'.dn (.so (F2 := fun b => F2 b + F3 b) q2 (back_ok io1 hl a b fun b => Nat.le_refl _) fun b => by have := i b; have := i2 b; have := c b; show A2 b + (F2 b + F3 b) ≤ F' b; omega) fun b => Nat.le_refl _)
            | _ => exact post.elim
          | _ => exact post.elim
    | ex y ps =>
      rw [e] at post
      cases ps with
      | nil => exact post.elim
      | cons p0 ps =>
        intro a H' Z' F' s lp ok' xr
        have ok3 := ok'.pop
        obtain ⟨F2, F3, a1, b, c⟩ := RepSl.split (by simpa using lp) ok3.sl
        exact post a H' Z' F' s (ok3.dn (back_ok io1 hl a1 b c) fun b => Nat.le_refl _) xr
theorem make_imp {C : Addr} {cn : Str} {f : FD} {n : Nat} {li : List (Option Nat)} {ms : M (List O)} {σ : St} {H : Hp} {Q : VK} (cl : ClsN K cn C) (hn : li.length = n) (h : tE K E (eMake cn f li ms) σ H Q) : tMake C (spV K (n + 1) f) [] E (tL K E li ms) σ H Q := by
  obtain ⟨Z, τ, T, env, F, ok, hl, post⟩ := h
  refine ⟨Z, τ, T, env, F, ok, hl, (stepL (ρ := []) (R := []) rfl post).imp fun us H1 ⟨Z1, F1, xs, e1, s1, l1, io1, ok1, post1⟩ => ?_⟩
  intro x dx hx hdx hne
  rw [List.append_nil]
  exact make_run cl hn hl ok1 l1 io1 post1 x dx hx hdx hne
/-! a method of an instance that a name owns -/
def smK (i : Nat) (li : List (Option Nat)) (e : Ws.Env) : Out O → Out O
  | .ok r (some o :: ps) => .ok r (back li ps (e.set i (some o)))
  | .ex x (some o :: ps) => .ex x (back li ps (e.set i (some o)))
  | _ => .no
@[simp] theorem smK_ok (i : Nat) (li : List (Option Nat)) (e : Ws.Env) (r o : O) (ps : Ws.Env) : smK i li e (.ok r (some o :: ps)) = .ok r (back li ps (e.set i (some o))) := rfl
@[simp] theorem smK_ex (i : Nat) (li : List (Option Nat)) (e : Ws.Env) (x : Exn) (o : O) (ps : Ws.Env) : smK i li e (.ex x (some o :: ps)) = .ex x (back li ps (e.set i (some o))) := rfl
@[simp] theorem smK_no (i : Nat) (li : List (Option Nat)) (e : Ws.Env) : smK i li e .no = .no := rfl
def sm1 (f : FD) (i : Nat) (li : List (Option Nat)) (ys : List O) (e : Ws.Env) : Out O := match e[i]? with
  | some (some o) => smK i li (e.set i none) (f (o :: ys))
  | _ => .no
def eMcS (f : FD) (cn m : Str) (i : Nat) (li : List (Option Nat)) (ms : M (List O)) : M O := fun env => match env[i]? with
  | some (some (.ob C fs)) => if C = cn ∧ getF fs m = none then (ms env).bind (sm1 f i li) else .no
  | _ => .no
@[simp] theorem sm1.c (f : FD) (i : Nat) (li : List (Option Nat)) (ys : List O) {z : Option O} {zs : Ws.Env} : sm1 f i li ys (z :: zs) = (match (z :: zs)[i]? with
  | some (some o) => smK i li ((z :: zs).set i none) (f (o :: ys))
  | _ => .no) := rfl
@[simp] theorem eMcS.c (f : FD) (cn m : Str) (i : Nat) (li : List (Option Nat)) (ms : M (List O)) {z : Option O} {zs : Ws.Env} : eMcS f cn m i li ms (z :: zs) = (match (z :: zs)[i]? with
  | some (some (.ob C fs)) => if C = cn ∧ getF fs m = none then (ms (z :: zs)).bind (sm1 f i li) else .no
  | _ => .no) := rfl
theorem RepOf.none {n : Str} : ∀ {ws : List (Str × V)} {fs : List (Str × O)} {A : Fp}, RepOf K Z H ws fs A → getF fs n = none → getF ws n = none
  | _, _, _, .nil, _ => rfl
  | _, _, _, .cons (k := g) q r i, e => by
    rw [getF_cons] at e ⊢
    by_cases h : g = n
    · rw [if_pos h] at e; cases e
    · rw [if_neg h] at e ⊢; exact RepOf.none r e
theorem RepFs.none {n : Str} : ∀ {ws : List (Str × V)} {fs : List (Str × D)}, RepFs K Z ws fs → getF fs n = none → getF ws n = none
  | _, _, .nil, _ => rfl
  | _, _, .cons (k := g) q r, e => by
    rw [getF_cons] at e ⊢
    by_cases h : g = n
    · rw [if_pos h] at e; cases e
    · rw [if_neg h] at e ⊢; exact RepFs.none r e
theorem mcS_run {f : FD} {n i : Nat} {li : List (Option Nat)} {us : List V} {xs : List O} {w : V} (hn : li.length = n) (hl : τ.length = T.length) (hw : σ[i]? = some (some w)) (ok1 : Ok K Z H (us.map some ++ (τ ++ σ)) (xs.map some ++ (T ++ env)) F) (l1 : us.length = xs.length) (io1 : IoOk σ li us)
    (post : PostE K E Z τ T σ Q (sm1 f i li xs env)) : spV K (n + 1) f (w :: us) H Q E := by
  have hlen := io1.length
  unfold sm1 at post
  split at post
  · rename_i o eo
    have ok2 : Ok K Z H ((us.map some ++ τ) ++ σ) ((xs.map some ++ T) ++ env) F := by rw [List.append_assoc, List.append_assoc]; exact ok1
    obtain ⟨w', A, B, hw', q, i1, r, _⟩ := ok2.slot (by simp [l1, hl]) eo
    rw [hw] at hw'
    cases hw'
    rw [List.append_assoc, List.append_assoc] at r
    have ok3 : Ok K Z H (some w :: (us.map some ++ (τ ++ σ))) (some o :: (xs.map some ++ (T ++ env.set i none))) F := ok1.dn (.so q r i1) fun b => Nat.le_refl _
    refine ⟨by simp [hlen, hn], Z, τ ++ σ, T ++ env.set i none, o :: xs, F, ok3, by simp [l1], ?_, ?_⟩
    · have := ok1.sl.len
      simp only [List.length_append, List.length_map, List.length_set] at this ⊢
      omega
    · -- the receiver comes back to its name
      have put : ∀ {o2 : O} {A2 B2 G2 : Fp} {Z2 H2 : Hp}, RepSl K Z2 H2 (τ ++ σ) (T ++ env.set i none) B2 → RepO K Z2 H2 w o2 A2 → (∀ b, A2 b + B2 b ≤ G2 b) → RepSl K Z2 H2 (τ ++ σ) (T ++ (env.set i none).set i (some o2)) G2 := by
        intro o2 A2 B2 G2 Z2 H2 sl q2 g
        have hi : i < env.length := by
          rcases Nat.lt_or_ge i env.length with h' | h'
          · exact h'
          · rw [List.getElem?_eq_none h'] at eo; cases eo
        have p := sl.put (i := τ.length + i) (G := G2) (by rw [List.length_append, List.length_set, hl]; omega) q2 g
        rw [set_under hl, set_underS, set_self hw] at p
        exact p
      cases e : f (o :: xs) with
      | no => rw [e] at post; exact post.elim
      | ok r ps =>
        rw [e] at post
        cases ps with
        | nil => exact post.elim
        | cons p0 ps =>
          cases p0 with
          | none => exact post.elim
          | some o2 =>
            intro v H' Z' F' s lp ok'
            cases ok'.sl with
            | @so _ _ _ _ A1 B1 _ q1 r1 j1 =>
              cases r1 with
              | @so _ _ _ _ A2 B2 _ q2 r2 j2 =>
                obtain ⟨F2, F3, a, b, c⟩ := RepSl.split (by simpa using lp) r2
                have p := put b q2 (G2 := fun b => A2 b + F3 b) fun b => Nat.le_refl _
                exact post v H' Z' F' s (ok'.dn (.so (F2 := fun b => F2 b + (A2 b + F3 b)) q1 (back_ok io1 hl a p fun b => Nat.le_refl _) fun b => by have := j1 b; have := j2 b; have := c b; show A1 b + (F2 b + (A2 b + F3 b)) ≤ F' b; omega) fun b => Nat.le_refl _)
      | ex y ps =>
        rw [e] at post
        cases ps with
        | nil => exact post.elim
        | cons p0 ps =>
          cases p0 with
          | none => exact post.elim
          | some o2 =>
            intro a H' Z' F' s lp ok' xr
            cases ok'.sl with
            | @so _ _ _ _ A2 B2 _ q2 r2 j2 =>
              obtain ⟨F2, F3, a1, b, c⟩ := RepSl.split (by simpa using lp) r2
              have p := put b q2 (G2 := fun b => A2 b + F3 b) fun b => Nat.le_refl _
              exact post a H' Z' F' s (ok'.dn (back_ok (G := F') io1 hl a1 p fun b => by have := j2 b; have := c b; show F2 b + (A2 b + F3 b) ≤ F' b; omega) fun b => Nat.le_refl _) xr
  · exact post.elim
theorem mcS_imp {C : Addr} {f : FD} {cn m : Str} {n i : Nat} {li : List (Option Nat)} {ms : M (List O)} {σ : St} {H : Hp} {Q : VK} (cl : ClsN K cn C) (hn : li.length = n) (h : tE K E (eMcS f cn m i li ms) σ H Q) : tMeth C m (spV K (n + 1) f) [] E (tVar i) (tL K E li ms) σ H Q := by
  obtain ⟨Z, τ, T, env, F, ok, hl, post⟩ := h
  unfold eMcS at post
  split at post
  · rename_i C' fs eo
    split at post
    · rename_i hc
      obtain ⟨w, A, B, hw, q, _⟩ := ok.slot hl eo
      cases q with
      | @ob a Ca dx _ ws _ A1 _ cn' ha qs j =>
        rw [hc.1] at cn'
        have := cn'.inj cl
        subst this
        refine ⟨.ref a, hw, a, dx, ws, rfl, ha, by rw [← getF_lookup]; exact qs.none hc.2, ?_⟩
        refine ⟨Z, τ, T, env, F, ok, hl, (stepL (ρ := []) (R := []) rfl post).imp fun us H1 ⟨Z1, F1, xs, e1, s1, l1, io1, ok1, post1⟩ => ?_⟩
        rw [List.append_nil]
        exact mcS_run hn hl hw ok1 l1 io1 post1
    · exact post.elim
  · exact post.elim
/-! a method of an instance that is laid down for good, at any place -/
def fmK (li : List (Option Nat)) (e : Ws.Env) : Out O → Out O
  | .ok r (_ :: ps) => .ok r (back li ps e)
  | .ex x (_ :: ps) => .ex x (back li ps e)
  | _ => .no
@[simp] theorem fmK_ok (li : List (Option Nat)) (e : Ws.Env) (r : O) (o : Option O) (ps : Ws.Env) : fmK li e (.ok r (o :: ps)) = .ok r (back li ps e) := rfl
@[simp] theorem fmK_ex (li : List (Option Nat)) (e : Ws.Env) (x : Exn) (o : Option O) (ps : Ws.Env) : fmK li e (.ex x (o :: ps)) = .ex x (back li ps e) := rfl
@[simp] theorem fmK_no (li : List (Option Nat)) (e : Ws.Env) : fmK li e .no = .no := rfl
def eMcF (f : FD) (cn m : Str) (i : Nat) (rs : List PSt) (li : List (Option Nat)) (ms : M (List O)) : M O := fun env => match getP env i rs with
  | some (.pu (.ins C fs)) => if C = cn ∧ getF fs m = none then (ms env).bind fun ys e => fmK li e (f (.pu (.ins C fs) :: ys)) else .no
  | _ => .no
@[simp] theorem eMcF.c (f : FD) (cn m : Str) (i : Nat) (rs : List PSt) (li : List (Option Nat)) (ms : M (List O)) {z : Option O} {zs : Ws.Env} : eMcF f cn m i rs li ms (z :: zs) = (match getP (z :: zs) i rs with
  | some (.pu (.ins C fs)) => if C = cn ∧ getF fs m = none then (ms (z :: zs)).bind fun ys e => fmK li e (f (.pu (.ins C fs) :: ys)) else .no
  | _ => .no) := rfl
theorem fm_run {f : FD} {n : Nat} {li : List (Option Nat)} {us : List V} {xs : List O} {w : V} {d : D} (hn : li.length = n) (hl : τ.length = T.length) (hw : Rep K Z w d) (ok1 : Ok K Z H (us.map some ++ (τ ++ σ)) (xs.map some ++ (T ++ env)) F) (l1 : us.length = xs.length) (io1 : IoOk σ li us)
    (post : PostE K E Z τ T σ Q (fmK li env (f (.pu d :: xs)))) : spV K (n + 1) f (w :: us) H Q E := by
  have hlen := io1.length
  refine ⟨by simp [hlen, hn], Z, τ ++ σ, T ++ env, .pu d :: xs, F, ok1.pure hw, by simp [l1], ?_, ?_⟩
  · have := ok1.sl.len
    simp only [List.length_append, List.length_map] at this ⊢
    omega
  · cases e : f (.pu d :: xs) with
    | no => rw [e] at post; exact post.elim
    | ok r ps =>
      rw [e] at post
      cases ps with
      | nil => exact post.elim
      | cons p0 ps =>
        intro v H' Z' F' s lp ok'
        cases ok'.sl with
        | @so _ _ _ _ A1 B1 _ q1 r1 j1 =>
          obtain ⟨F2, F3, a, b, c⟩ := RepSl.split (by simpa using lp) r1.tail
          exact post v H' Z' F' s (ok'.dn (.so (F2 := fun b => F2 b + F3 b) q1 (back_ok io1 hl a b fun b => Nat.le_refl _) fun b => by have := j1 b; have := c b; show A1 b + (F2 b + F3 b) ≤ F' b; omega) fun b => Nat.le_refl _)
    | ex y ps =>
      rw [e] at post
      cases ps with
      | nil => exact post.elim
      | cons p0 ps =>
        intro a H' Z' F' s lp ok' xr
        obtain ⟨F2, F3, a1, b, c⟩ := RepSl.split (by simpa using lp) ok'.pop.sl
        exact post a H' Z' F' s (ok'.dn (back_ok io1 hl a1 b c) fun b => Nat.le_refl _) xr
theorem mcF_imp {C : Addr} {f : FD} {cn m : Str} {n i : Nat} {rs : List PSt} {li : List (Option Nat)} {ms : M (List O)} {σ : St} {H : Hp} {Q : VK} (hr : RsOk K rs) (cl : ClsN K cn C) (hn : li.length = n) (h : tE K E (eMcF f cn m i rs li ms) σ H Q) : tMeth C m (spV K (n + 1) f) [] E (tPl K i rs) (tL K E li ms) σ H Q := by
  obtain ⟨Z, τ, T, env, F, ok, hl, post⟩ := h
  unfold eMcF at post
  split at post
  · rename_i C' fs eo
    split at post
    · rename_i hc
      obtain ⟨w, A, B, p1, q, _⟩ := ok.place hl hr eo
      cases q with
      | pu q =>
        have q0 := q
        cases q with
        | @ins a Ca dx _ ws _ cn' ha qs =>
          rw [hc.1] at cn'
          have := cn'.inj cl
          subst this
          refine p1 _ ⟨a, dx, ws, rfl, (ok.sub.le (K := K)).i _ _ _ _ ha, by rw [← getF_lookup]; exact qs.none hc.2, ?_⟩
          refine ⟨Z, τ, T, env, F, ok, hl, (stepL (ρ := []) (R := []) rfl post).imp fun us H1 ⟨Z1, F1, xs, e1, s1, l1, io1, ok1, post1⟩ => ?_⟩
          rw [List.append_nil]
          exact fm_run hn hl (q0.mono (le_of_same s1)) ok1 l1 io1 post1
    · exact post.elim
  · exact post.elim
/-! place.get(key, else) -/
def getD2 : O → D → D → Option D
  | .di kvs, kd, x => (dKey kd).bind fun k => match getK kvs k with
    | some (.pu d) => some d
    | some _ => none
    | none => some x
  | .pu (.dct kvs), kd, x => (dKey kd).map fun k => (getK kvs k).getD x
  | _, _, _ => none
def bGet2 (i : Nat) (rs : List PSt) (kb xb : BD) : BD := fun e => match getP e i rs, kb e, xb e with
  | some o, some kd, some x => getD2 o kd x
  | _, _, _ => none
theorem bGet2_imp {i : Nat} {rs : List PSt} {kb xb : BD} {ty tx : TE} (hr : RsOk K rs) (hy : ∀ σ H Q, tB K kb σ H Q → ty σ H Q) (hx : ∀ σ H Q, tB K xb σ H Q → tx σ H Q) {σ : St} {H : Hp} {Q : VK} (h : tB K (bGet2 i rs kb xb) σ H Q) : tDGet2 (tPl K i rs) ty tx σ H Q := by
  obtain ⟨Z, τ, T, env, F, d, ok, hl, e, k⟩ := h
  unfold bGet2 at e
  split at e
  · rename_i o kd x eo ek ex
    obtain ⟨w, A, B, p1, q, _⟩ := ok.place hl hr eo
    cases o with
    | di kvs =>
      obtain ⟨kk, e1, e2⟩ := Option.bind_eq_some_iff.mp e
      cases q with
      | @di a ws _ A1 _ ha rk j =>
        refine p1 _ ⟨a, rfl, .inl ⟨ws, .inl ha⟩, hy σ H _ ⟨Z, τ, T, env, F, _, ok, hl, ek, fun u qu => hx σ H _ ⟨Z, τ, T, env, F, _, ok, hl, ex, fun u2 qu2 => ?_⟩⟩⟩
        have hu := dKey_rep qu e1
        subst hu
        refine ⟨valV ws kk, DGet.k ha, ?_⟩
        cases eg : getK kvs kk with
        | none =>
          simp only [eg] at e2
          cases e2
          rw [(getKO_rep rk).2 eg]
          exact k _ qu2
        | some o2 =>
          simp only [eg] at e2
          obtain ⟨w2, _, _, f1, f2, _, _⟩ := rk.sub eg
          cases o2 with
          | pu d2 =>
            cases e2
            cases f2 with
            | pu f2 => rw [f1]; exact k _ f2
          | _ => cases e2
    | pu d0 =>
      cases d0 with
      | dct kvs =>
        obtain ⟨kk, e1, rfl⟩ := map_some e
        cases q with
        | pu q =>
          cases q with
          | @dct a ws _ ha rk =>
            refine p1 _ ⟨a, rfl, .inl ⟨ws, (ok.sub.le (K := K)).d _ _ ha⟩, hy σ H _ ⟨Z, τ, T, env, F, _, ok, hl, ek, fun u qu => hx σ H _ ⟨Z, τ, T, env, F, _, ok, hl, ex, fun u2 qu2 => ?_⟩⟩⟩
            have hu := dKey_rep qu e1
            subst hu
            refine ⟨valV ws kk, .inl ⟨ws, kk, (ok.sub.le (K := K)).d _ _ ha, rfl, rfl⟩, ?_⟩
            cases eg : getK kvs kk with
            | none =>
              rw [eg] at k
              rw [(getK_rep rk).2 eg]
              exact k _ qu2
            | some d2 =>
              rw [eg] at k
              obtain ⟨w2, f1, f2⟩ := (getK_rep rk).1 _ eg
              rw [f1]
              exact k _ f2
      | _ => cases e
    | _ => cases e
  · cases e
end
section
variable {X : Cx} {E : XK} {io : Nat → Bool} {i k n : Nat} {a e o f : Expr} {es : List Expr} {rs : List PSt} {pos apos cpos p : Pos} {kb xb : BD} {li : List (Option Nat)} {ms : M (List O)} {x m cn : Str} {fn : FD}
/-- C(..) -/
structure MakeV (P : Program) (w : World) (K : PySem.W.Frag) (mg : Str → Option Value) (base : Heap) (k : Nat) (x : Str) (n : Nat) (fn : FD) : Prop where
  ex : ∃ (C fa : Addr) (fd : FuncData) (ps : List Str), FnOk P w K mg base CX0 k fa fd ps (spV K (n + 1) fn) ∧ Mk K C fa ∧ mg x = some (.ref C) ∧ ClsN K x C ∧ Binds K fd ps []
theorem v_make (h : MakeV X.prog X.w X.K X.mg X.base k x n fn) (hr : Room (k + 1) X.A) (ha : VA X E0 (e :: es) li ms) (hl : li.length = n := by rfl) (hg : Gl X x := by rfl) (hdb : (x == ("__debug__" : Str)) = false := by decide)
    (he : starEach (e :: es) X.env = (false, eval e X.env) :: starEach es X.env := by rfl) (hpl : (backTo pos (starEach es X.env)).any (·.1) = false := by rfl) : VE X E0 (.Call (.Name x p) (e :: es) [] pos) (eMake x fn li ms) := by
  obtain ⟨C, fa, fd, ps, F, M, hm, cl, hb⟩ := h.ex
  exact (pe_make M F hr hg hm hb .nil pass0 ha hdb he hpl).weak fun _ _ _ => make_imp cl hl
theorem v_make0 (h : MakeV X.prog X.w X.K X.mg X.base k x 0 fn) (hr : Room (k + 1) X.A) (hg : Gl X x := by rfl) (hdb : (x == ("__debug__" : Str)) = false := by decide) : VE X E0 (.Call (.Name x p) [] [] pos) (eMake x fn [] nilA) := by
  obtain ⟨C, fa, fd, ps, F, M, hm, cl, hb⟩ := h.ex
  refine (pe_make0 M F hr hg hm hb .nil pass0 hdb).weak fun σ H Q h => ?_
  have := make_imp (n := 0) cl rfl h
  obtain ⟨Z, τ, T, env, F, ok, hl, post⟩ := this
  exact post [] H Z F (Same.refl Z) rfl .nil ok
/-- o.m(..) -/
structure MethI (P : Program) (w : World) (K : PySem.W.Frag) (mg : Str → Option Value) (base : Heap) (k : Nat) (cn m : Str) (n : Nat) (fn : FD) : Prop where
  ex : ∃ (C fa : Addr) (fd : FuncData) (ps : List Str), FnOk P w K mg base CX0 k fa fd ps (spV K (n + 1) fn) ∧ Cls K C ∧ Meth K C m fa ∧ ClsN K cn C ∧ Binds K fd ps []
theorem v_mcS {pl : Sem Bool} (h : MethI X.prog X.w X.K X.mg X.base k cn m n fn) (hr : Room k X.A) (ho : PE X o (tVar i)) (ha : VA X E0 (e :: es) li ms) (hl : li.length = n := by rfl)
    (hst : starEach (e :: es) X.env = (false, eval e X.env) :: starEach es X.env := by rfl) (hpl : (backTo pos (starEach es X.env)).any (·.1) = false := by rfl)
    (ht : eval (.Call (.Attribute o m apos) (e :: es) [] pos) X.env = (do
      let ov ← eval o X.env
      standAt apos.atName
      let (f, first) ← holding [ov] (getMethod ov m pl)
      callWith pos f first (backTo pos (starEach (e :: es) X.env)) (backToKw pos (keywordEach [] X.env))) := by rfl) : VE X E0 (.Call (.Attribute o m apos) (e :: es) [] pos) (eMcS fn cn m i li ms) := by
  obtain ⟨C, fa, fd, ps, F, c, M, cl, hb⟩ := h.ex
  exact (pe_meth ho c M F hr hb .nil pass0 ha hst hpl ht).weak fun _ _ _ => mcS_imp cl hl
theorem v_mcS0 {pl : Sem Bool} (h : MethI X.prog X.w X.K X.mg X.base k cn m 0 fn) (hr : Room k X.A) (ho : PE X o (tVar i))
    (ht : eval (.Call (.Attribute o m apos) [] [] pos) X.env = (do
      let ov ← eval o X.env
      standAt apos.atName
      let (f, first) ← holding [ov] (getMethod ov m pl)
      callWith pos f first (backTo pos (starEach [] X.env)) (backToKw pos (keywordEach [] X.env))) := by rfl) : VE X E0 (.Call (.Attribute o m apos) [] [] pos) (eMcS fn cn m i [] nilA) := by
  obtain ⟨C, fa, fd, ps, F, c, M, cl, hb⟩ := h.ex
  refine (pe_meth0 ho c M F hr hb .nil pass0 ht).weak fun σ H Q h => ?_
  obtain ⟨w, hw, a, dx, fs, ew, hH, hf, rest⟩ := mcS_imp (n := 0) cl rfl h
  refine ⟨w, hw, a, dx, fs, ew, hH, hf, ?_⟩
  obtain ⟨Z, τ, T, env, F, ok, hl, post⟩ := rest
  exact post [] H Z F (Same.refl Z) rfl .nil ok
theorem v_mcF {pl : Sem Bool} (h : MethI X.prog X.w X.K X.mg X.base k cn m n fn) (hr : Room k X.A) (ho : VPl X o i rs) (ha : VA X E0 (e :: es) li ms) (hl : li.length = n := by rfl)
    (hst : starEach (e :: es) X.env = (false, eval e X.env) :: starEach es X.env := by rfl) (hpl : (backTo pos (starEach es X.env)).any (·.1) = false := by rfl)
    (ht : eval (.Call (.Attribute o m apos) (e :: es) [] pos) X.env = (do
      let ov ← eval o X.env
      standAt apos.atName
      let (f, first) ← holding [ov] (getMethod ov m pl)
      callWith pos f first (backTo pos (starEach (e :: es) X.env)) (backToKw pos (keywordEach [] X.env))) := by rfl) : VE X E0 (.Call (.Attribute o m apos) (e :: es) [] pos) (eMcF fn cn m i rs li ms) := by
  obtain ⟨C, fa, fd, ps, F, c, M, cl, hb⟩ := h.ex
  exact (pe_meth ho.pe c M F hr hb .nil pass0 ha hst hpl ht).weak fun _ _ _ => mcF_imp ho.ok cl hl
theorem v_mcF0 {pl : Sem Bool} (h : MethI X.prog X.w X.K X.mg X.base k cn m 0 fn) (hr : Room k X.A) (ho : VPl X o i rs)
    (ht : eval (.Call (.Attribute o m apos) [] [] pos) X.env = (do
      let ov ← eval o X.env
      standAt apos.atName
      let (f, first) ← holding [ov] (getMethod ov m pl)
      callWith pos f first (backTo pos (starEach [] X.env)) (backToKw pos (keywordEach [] X.env))) := by rfl) : VE X E0 (.Call (.Attribute o m apos) [] [] pos) (eMcF fn cn m i rs [] nilA) := by
  obtain ⟨C, fa, fd, ps, F, c, M, cl, hb⟩ := h.ex
  refine (pe_meth0 ho.pe c M F hr hb .nil pass0 ht).weak fun σ H Q h => ?_
  obtain ⟨Z, τ, T, env, F', ok, hl, post⟩ := h
  unfold eMcF at post
  split at post
  · rename_i C' fs eo
    split at post
    · rename_i hc
      obtain ⟨w, A, B, p1, q, _⟩ := ok.place hl ho.ok eo
      cases q with
      | pu q =>
        have q0 := q
        cases q with
        | @ins a Ca dx _ ws _ cn' ha qs =>
          rw [hc.1] at cn'
          have := cn'.inj cl
          subst this
          exact p1 _ ⟨a, dx, ws, rfl, (ok.sub.le (K := X.K)).i _ _ _ _ ha, by rw [← getF_lookup]; exact qs.none hc.2, fm_run (us := []) (xs := []) rfl hl q0 ok rfl .nil post⟩
    · exact post.elim
  · exact post.elim
theorem x_get2 (hu : X.A.units + 1 < cLine) (ho : VPl X o i rs) (he : VBx X e kb) (hf : VBx X f xb) (hm : M2 X o "get" apos e f cpos := by exact ⟨rfl, rfl, rfl, rfl⟩) : VBx X (.Call (.Attribute o "get" apos) [e, f] [] cpos) (bGet2 i rs kb xb) := (pe_dget2 hu ho.pe he hf hm).weak fun _ _ _ => bGet2_imp ho.ok (fun _ _ _ h => h) fun _ _ _ h => h
end
end Ws

namespace Ws
open PySem L2
/-! ### an instance that a name holds, owned or laid down -/
section
variable {K : PySem.W.Frag} {E : XK}
def eMc (f : FD) (cn m : Str) (i : Nat) (li : List (Option Nat)) (ms : M (List O)) : M O := fun env => match env[i]? with
  | some (some (.ob _ _)) => eMcS f cn m i li ms env
  | _ => eMcF f cn m i [] li ms env
@[simp] theorem eMc.c (f : FD) (cn m : Str) (i : Nat) (li : List (Option Nat)) (ms : M (List O)) {z : Option O} {zs : Ws.Env} : eMc f cn m i li ms (z :: zs) = (match (z :: zs)[i]? with
  | some (some (.ob _ _)) => eMcS f cn m i li ms (z :: zs)
  | _ => eMcF f cn m i [] li ms (z :: zs)) := rfl
theorem mc_imp {C : Addr} {f : FD} {cn m : Str} {n i : Nat} {li : List (Option Nat)} {ms : M (List O)} {σ : St} {H : Hp} {Q : VK} (cl : ClsN K cn C) (hn : li.length = n) (h : tE K E (eMc f cn m i li ms) σ H Q) : tMeth C m (spV K (n + 1) f) [] E (tVar i) (tL K E li ms) σ H Q := by
  obtain ⟨Z, τ, T, env, F, ok, hl, post⟩ := h
  unfold eMc at post
  split at post
  · exact mcS_imp cl hn ⟨Z, τ, T, env, F, ok, hl, post⟩
  · exact mcF_imp (rs := []) (fun _ h => by cases h) cl hn ⟨Z, τ, T, env, F, ok, hl, post⟩
end
section
variable {X : Cx} {E : XK} {io : Nat → Bool} {i k n : Nat} {a e o f value : Expr} {es : List Expr} {rs : List PSt} {pos pos' tpos apos cpos p : Pos} {kb xb yb : BD} {li : List (Option Nat)} {ms : M (List O)} {x x' m m' cn nm nm' : Str} {fn : FD} {cs : List Str} {mv : M O} {op : Operator} {fd : D → D → Option D}
theorem v_mc {pl : Sem Bool} (h : MethI X.prog X.w X.K X.mg X.base k cn m n fn) (hr : Room k X.A) (em : m = m') (ho : PE X o (tVar i)) (ha : VA X E0 (e :: es) li ms) (hl : li.length = n := by rfl)
    (hst : starEach (e :: es) X.env = (false, eval e X.env) :: starEach es X.env := by rfl) (hpl : (backTo pos (starEach es X.env)).any (·.1) = false := by rfl)
    (ht : eval (.Call (.Attribute o m apos) (e :: es) [] pos) X.env = (do
      let ov ← eval o X.env
      standAt apos.atName
      let (f, first) ← holding [ov] (getMethod ov m pl)
      callWith pos f first (backTo pos (starEach (e :: es) X.env)) (backToKw pos (keywordEach [] X.env))) := by rfl) : VE X E0 (.Call (.Attribute o m apos) (e :: es) [] pos) (eMc fn cn m' i li ms) := by
  subst em
  obtain ⟨C, fa, fd, ps, F, c, M, cl, hb⟩ := h.ex
  exact (pe_meth ho c M F hr hb .nil pass0 ha hst hpl ht).weak fun _ _ _ => mc_imp cl hl
theorem v_mc0 {pl : Sem Bool} (h : MethI X.prog X.w X.K X.mg X.base k cn m 0 fn) (hr : Room k X.A) (em : m = m') (ho : PE X o (tVar i))
    (ht : eval (.Call (.Attribute o m apos) [] [] pos) X.env = (do
      let ov ← eval o X.env
      standAt apos.atName
      let (f, first) ← holding [ov] (getMethod ov m pl)
      callWith pos f first (backTo pos (starEach [] X.env)) (backToKw pos (keywordEach [] X.env))) := by rfl) : VE X E0 (.Call (.Attribute o m apos) [] [] pos) (eMc fn cn m' i [] nilA) := by
  subst em
  obtain ⟨C, fa, fd, ps, F, c, M, cl, hb⟩ := h.ex
  refine (pe_meth0 ho c M F hr hb .nil pass0 ht).weak fun σ H Q h => ?_
  obtain ⟨w, hw, a, dx, fs, ew, hH, hf, rest⟩ := mc_imp (n := 0) cl rfl h
  refine ⟨w, hw, a, dx, fs, ew, hH, hf, ?_⟩
  obtain ⟨Z, τ, T, env, F, ok, hl, post⟩ := rest
  exact post [] H Z F (Same.refl Z) rfl .nil ok
theorem v_mcFE {pl : Sem Bool} (h : MethI X.prog X.w X.K X.mg X.base k cn m n fn) (hr : Room k X.A) (em : m = m') (ho : VPl X o i rs) (ha : VA X E0 (e :: es) li ms) (hl : li.length = n := by rfl)
    (hst : starEach (e :: es) X.env = (false, eval e X.env) :: starEach es X.env := by rfl) (hpl : (backTo pos (starEach es X.env)).any (·.1) = false := by rfl)
    (ht : eval (.Call (.Attribute o m apos) (e :: es) [] pos) X.env = (do
      let ov ← eval o X.env
      standAt apos.atName
      let (f, first) ← holding [ov] (getMethod ov m pl)
      callWith pos f first (backTo pos (starEach (e :: es) X.env)) (backToKw pos (keywordEach [] X.env))) := by rfl) : VE X E0 (.Call (.Attribute o m apos) (e :: es) [] pos) (eMcF fn cn m' i rs li ms) := by
  subst em
  exact v_mcF h hr ho ha hl hst hpl ht
theorem v_mcF0E {pl : Sem Bool} (h : MethI X.prog X.w X.K X.mg X.base k cn m 0 fn) (hr : Room k X.A) (em : m = m') (ho : VPl X o i rs)
    (ht : eval (.Call (.Attribute o m apos) [] [] pos) X.env = (do
      let ov ← eval o X.env
      standAt apos.atName
      let (f, first) ← holding [ov] (getMethod ov m pl)
      callWith pos f first (backTo pos (starEach [] X.env)) (backToKw pos (keywordEach [] X.env))) := by rfl) : VE X E0 (.Call (.Attribute o m apos) [] [] pos) (eMcF fn cn m' i rs [] nilA) := by
  subst em
  exact v_mcF0 h hr ho ht
theorem pl_fldE (h : VPl X e i rs) (hs : StOk X.K (.fld cs nm')) (en : nm = nm') (hb : attributeBase e nm X.env (eval e X.env) = eval e X.env := by rfl) : VPl X (.Attribute e nm pos) i (.fld cs nm' :: rs) := by subst en; exact pl_fld h hs hb
theorem pl_strE {b : Expr} (hu : X.A.units + 1 < cLine) (h : VPl X e i rs) (hb : PE X b (tC (.str nm))) (en : nm = nm') (hn : NoSl b) : VPl X (.Subscript e b pos) i (.str nm' :: rs) := by subst en; exact pl_str hu h hb hn
theorem s_fldPE (ha : VPl X a i rs) (hs : StOk X.K (.fld cs nm')) (en : nm = nm') (hv : VE X E value mv) (hsw : swapsWith value (some (.Attribute a nm pos')) pos.line X.env = Pure.pure false := by rfl) : VS X E io (.Assign [.Attribute a nm pos'] value pos) (sFldP i rs cs nm' mv) := by subst en; exact s_fldP ha hs hv hsw
theorem s_fldaugE (h : AugR X op fd) (ha : VPl X a i rs) (hs : StOk X.K (.fld cs nm')) (en : nm = nm') (hv : VBx X value yb) : VS X E io (.AugAssign (.Attribute a nm tpos) op value pos) (sFldAugP i rs cs nm' fd yb) := by subst en; exact s_fldaug h ha hs hv
theorem v_makeE (h : MakeV X.prog X.w X.K X.mg X.base k x n fn) (hr : Room (k + 1) X.A) (ex : x = x') (ha : VA X E0 (e :: es) li ms) (hl : li.length = n := by rfl) (hg : Gl X x := by rfl) (hdb : (x == ("__debug__" : Str)) = false := by decide)
    (he : starEach (e :: es) X.env = (false, eval e X.env) :: starEach es X.env := by rfl) (hpl : (backTo pos (starEach es X.env)).any (·.1) = false := by rfl) : VE X E0 (.Call (.Name x p) (e :: es) [] pos) (eMake x' fn li ms) := by subst ex; exact v_make h hr ha hl hg hdb he hpl
theorem v_make0E (h : MakeV X.prog X.w X.K X.mg X.base k x 0 fn) (hr : Room (k + 1) X.A) (ex : x = x') (hg : Gl X x := by rfl) (hdb : (x == ("__debug__" : Str)) = false := by decide) : VE X E0 (.Call (.Name x p) [] [] pos) (eMake x' fn [] nilA) := by subst ex; exact v_make0 h hr hg hdb
/-- facts of fields from those of the classes -/
theorem StOk.of1 {K : PySem.W.Frag} {c1 n : Str} {C1 : Addr} (h1 : ClsN K c1 C1) (k1 : Cls K C1) (n1 : NoAttr K C1 n) : StOk K (.fld [c1] n) := by
  intro cn C hc hC
  have : cn = c1 := by simpa using hc
  subst this
  have := hC.inj h1
  subst this
  exact ⟨k1, n1⟩
theorem StOk.of2 {K : PySem.W.Frag} {c1 n : Str} {cs : List Str} {C1 : Addr} (h1 : ClsN K c1 C1) (k1 : Cls K C1) (n1 : NoAttr K C1 n) (r : StOk K (.fld cs n)) : StOk K (.fld (c1 :: cs) n) := by
  intro cn C hc hC
  have : cn = c1 ∨ cn ∈ cs := by simpa using hc
  rcases this with rfl | h
  · have := hC.inj h1
    subst this
    exact ⟨k1, n1⟩
  · exact r cn C (by simpa using h) hC
theorem StOk.nil {K : PySem.W.Frag} {n : Str} : StOk K (.fld [] n) := by
  intro cn C hc
  simp at hc
end
/-! ### how places run -/
@[simp] theorem getP_nil (e : Ws.Env) (i : Nat) : getP e i [] = (e[i]?).join := rfl
@[simp] theorem getP_cons (e : Ws.Env) (i : Nat) (s : PSt) (r : List PSt) : getP e i (s :: r) = (getP e i r).bind fun o => (s.res e).bind o.sub := rfl
@[simp] theorem putP_nil (e : Ws.Env) (i : Nat) (x : O) : putP e i [] x = e.set i (some x) := rfl
def putQ (e : Ws.Env) (i : Nat) (r : List PSt) (x : O) : Option O → Option RS → Ws.Env
  | some o, some q => putP e i r (o.putS q x)
  | _, _ => e
@[simp] theorem putQ_some (e : Ws.Env) (i : Nat) (r : List PSt) (x o : O) (q : RS) : putQ e i r x (some o) (some q) = putP e i r (o.putS q x) := rfl
@[simp] theorem putP_cons (e : Ws.Env) (i : Nat) (s : PSt) (r : List PSt) (x : O) : putP e i (s :: r) x = putQ e i r x (getP e i r) (s.res e) := by
  rw [putP]
  cases getP e i r <;> cases s.res e <;> rfl
@[simp] theorem res_fld (cs : List Str) (n : Str) (e : Ws.Env) : (PSt.fld cs n).res e = some (.fld cs n) := rfl
@[simp] theorem res_num (k : Int) (e : Ws.Env) : (PSt.num k).res e = some (.key (.inl k)) := rfl
@[simp] theorem res_str (s : Str) (e : Ws.Env) : (PSt.str s).res e = some (.key (.inr s)) := rfl
@[simp] theorem varK_int (k : Int) : varK (some (some (.pu (.int k)))) = some (.key (.inl k)) := rfl
@[simp] theorem varK_str (s : Str) : varK (some (some (.pu (.str s)))) = some (.key (.inr s)) := rfl
@[simp] theorem res_var (j : Nat) (e : Ws.Env) : (PSt.var j).res e = varK e[j]? := rfl
@[simp] theorem sub_ob (C : Str) (fs : List (Str × O)) (cs : List Str) (n : Str) : O.sub (.ob C fs) (.fld cs n) = if cs.contains C = true then getF fs n else none := rfl
@[simp] theorem sub_ins (C : Str) (fs : List (Str × D)) (cs : List Str) (n : Str) : O.sub (.pu (.ins C fs)) (.fld cs n) = if cs.contains C = true then (getF fs n).map .pu else none := rfl
@[simp] theorem sub_li (os : List O) (k : Int) : O.sub (.li os) (.key (.inl k)) = atI os k := rfl
@[simp] theorem sub_tu (os : List O) (k : Int) : O.sub (.tu os) (.key (.inl k)) = atI os k := rfl
@[simp] theorem sub_di (kvs : List (D × O)) (k : L2.Key) : O.sub (.di kvs) (.key k) = getK kvs k := rfl
@[simp] theorem sub_lst (ds : List D) (k : Int) : O.sub (.pu (.lst ds)) (.key (.inl k)) = (atI ds k).map .pu := rfl
@[simp] theorem sub_tup (ds : List D) (k : Int) : O.sub (.pu (.tup ds)) (.key (.inl k)) = (atI ds k).map .pu := rfl
@[simp] theorem sub_dct (kvs : List (D × D)) (k : L2.Key) : O.sub (.pu (.dct kvs)) (.key k) = (getK kvs k).map .pu := rfl
@[simp] theorem putS_ob (C : Str) (fs : List (Str × O)) (cs : List Str) (n : Str) (x : O) : O.putS (.ob C fs) (.fld cs n) x = .ob C (setF fs n x) := rfl
@[simp] theorem putS_li (os : List O) (k : Int) (x : O) : O.putS (.li os) (.key (.inl k)) x = .li (match ixN os.length k with
    | some j => os.set j x
    | none => os) := rfl
@[simp] theorem putS_di (kvs : List (D × O)) (k : L2.Key) (x : O) : O.putS (.di kvs) (.key k) x = .di (setK kvs k x) := rfl
def pureK : Option O → Option D
  | some (.pu d) => some d
  | _ => none
@[simp] theorem pureK_pu (d : D) : pureK (some (.pu d)) = some d := rfl
@[simp] theorem pureK_none : pureK none = none := rfl
@[simp] theorem bP_eq (i : Nat) (rs : List PSt) (e : Ws.Env) : bP i rs e = pureK (getP e i rs) := by
  unfold bP
  cases getP e i rs with
  | none => rfl
  | some o => cases o <;> rfl
@[simp] theorem rP_eq (i : Nat) (rs : List PSt) (e : Ws.Env) : rP i rs e = (getP e i rs).map O.toD := rfl
def opK (f : D → D → Option D) : Option D → Option D → Option D
  | some x, some y => f x y
  | _, _ => none
@[simp] theorem opK_some (f : D → D → Option D) (x y : D) : opK f (some x) (some y) = f x y := rfl
@[simp] theorem opK_n1 (f : D → D → Option D) (y : Option D) : opK f none y = none := by cases y <;> rfl
@[simp] theorem bOp_eq (f : D → D → Option D) (a b : BD) (e : Ws.Env) : bOp f a b e = opK f (a e) (b e) := by
  unfold bOp
  cases a e <;> cases b e <;> rfl
@[simp] theorem bUn_eq (f : D → Option D) (a : BD) (e : Ws.Env) : bUn f a e = (a e).bind f := by
  unfold bUn
  cases a e <;> rfl
@[simp] theorem bsN_eq (e : Ws.Env) : bsN e = some [] := rfl
def consK2 {α : Type} : Option α → Option (List α) → Option (List α)
  | some x, some xs => some (x :: xs)
  | _, _ => none
@[simp] theorem consK2_some {α : Type} (x : α) (xs : List α) : consK2 (some x) (some xs) = some (x :: xs) := rfl
@[simp] theorem bsC_eq (a : BD) (bs : Ws.Env → Option (List D)) (e : Ws.Env) : bsC a bs e = consK2 (a e) (bs e) := by
  unfold bsC
  cases a e <;> cases bs e <;> rfl
@[simp] theorem bCall_eq (f : List D → Option D) (bs : Ws.Env → Option (List D)) (e : Ws.Env) : bCall f bs e = (bs e).bind f := rfl
@[simp] theorem nB_eq (b : BD) (e : Ws.Env) : nB b e = (b e).map .pu := rfl
@[simp] theorem nTup_eq (bs : Ws.Env → Option (List D)) (e : Ws.Env) : nTup bs e = (bs e).bind fun ds => if ds.length ≤ 100000 then some (.pu (.tup ds)) else none := rfl
@[simp] theorem nLst_eq (bs : Ws.Env → Option (List D)) (e : Ws.Env) : nLst bs e = (bs e).bind fun ds => if ds.length ≤ 100000 then some (.li (ds.map .pu)) else none := rfl
@[simp] theorem nsN_eq (e : Ws.Env) : nsN e = some [] := rfl
@[simp] theorem nsC_eq (m : ND) (ms : NDs) (e : Ws.Env) : nsC m ms e = consK2 (m e) (ms e) := by
  unfold nsC
  cases m e <;> cases ms e <;> rfl
def get2K : Option O → Option D → Option D → Option D
  | some o, some kd, some x => getD2 o kd x
  | _, _, _ => none
@[simp] theorem get2K_some (o : O) (k x : D) : get2K (some o) (some k) (some x) = getD2 o k x := rfl
@[simp] theorem bGet2_eq (i : Nat) (rs : List PSt) (kb xb : BD) (e : Ws.Env) : bGet2 i rs kb xb e = get2K (getP e i rs) (kb e) (xb e) := by
  unfold bGet2
  cases getP e i rs <;> cases kb e <;> cases xb e <;> rfl
def andB (b : BD) (e : Ws.Env) : Option D → Option D
  | some (.bl true) => b e
  | some (.bl false) => some (.bl false)
  | _ => none
@[simp] theorem andB_t (b : BD) (e : Ws.Env) : andB b e (some (.bl true)) = b e := rfl
@[simp] theorem andB_f (b : BD) (e : Ws.Env) : andB b e (some (.bl false)) = some (.bl false) := rfl
theorem andB_d (b : BD) (e : Ws.Env) (x : Bool) : andB b e (some (.bl x)) = if x = true then b e else some (.bl false) := by cases x <;> rfl
@[simp] theorem bAnd_eq (a b : BD) (e : Ws.Env) : bAnd a b e = andB b e (a e) := by
  unfold bAnd
  cases a e with
  | none => rfl
  | some d => cases d with
    | bl x => cases x <;> rfl
    | _ => rfl
def orB (b : BD) (e : Ws.Env) : Option D → Option D
  | some (.bl false) => b e
  | some (.bl true) => some (.bl true)
  | _ => none
@[simp] theorem orB_t (b : BD) (e : Ws.Env) : orB b e (some (.bl true)) = some (.bl true) := rfl
@[simp] theorem orB_f (b : BD) (e : Ws.Env) : orB b e (some (.bl false)) = b e := rfl
theorem orB_d (b : BD) (e : Ws.Env) (x : Bool) : orB b e (some (.bl x)) = if x = true then some (.bl true) else b e := by cases x <;> rfl
@[simp] theorem bOr_eq (a b : BD) (e : Ws.Env) : bOr a b e = orB b e (a e) := by
  unfold bOr
  cases a e with
  | none => rfl
  | some d => cases d with
    | bl x => cases x <;> rfl
    | _ => rfl
end Ws

namespace Ws
open PySem L2
/-! ### smaller readings: comparisons as tests, chains, int, abs, text.index, insert -/
section
variable {K : PySem.W.Frag} {E : XK} {Z Z' H H' : Hp} {σ σ' σ1 τ ρ : St} {env env' T R : Ws.Env} {F G A : Fp} {Q Q' : VK} {v : V} {o o1 : O} {d : D}
theorem cBop_imp {f : D → D → Option D} {r : R2} (hf : OpS K f r) {a b : BD} {σ : St} {H : Hp} {Q : Bool → Hp → Prop} (h : tT K E (cB (bOp f a b)) σ H Q) : tTest (tOp r (tR K a) (tR K b)) σ H Q :=
  bOp_imp hf (fun _ _ _ h => h) (fun _ _ _ h => h) (cB_imp h)
def bChn (f g : D → D → Option D) (a b c : BD) : BD := fun e => match a e, b e with
  | some x, some y => (match f x y with
    | some (.bl true) => (match c e with
      | some z => g y z
      | none => none)
    | some (.bl false) => some (.bl false)
    | _ => none)
  | _, _ => none
theorem bChn_imp {f g : D → D → Option D} {r r' : R2} (hf : OpS K f r) (hg : OpS K g r') {a b c : BD} {σ : St} {H : Hp} {Q : VK} (h : tB K (bChn f g a b c) σ H Q) : tChain r r' (tR K a) (tR K b) (tR K c) σ H Q := by
  obtain ⟨Z, τ, T, env, F, d, ok, hl, e, k⟩ := h
  unfold bChn at e
  split at e
  · rename_i x y ea eb
    refine ⟨Z, τ, T, env, F, x, ok, hl, ea, fun v qv => ⟨Z, τ, T, env, F, y, ok, hl, eb, fun u qu => ?_⟩⟩
    split at e
    · rename_i e1
      refine hf H v u x y _ _ qv qu e1 fun w hw => ?_
      cases hw Z
      refine ⟨true, rfl, ?_⟩
      rw [if_pos rfl]
      split at e
      · rename_i z ec
        exact ⟨Z, τ, T, env, F, z, ok, hl, ec, fun w qw => hg H u w y z d Q qu qw e fun w hw => k w (hw Z)⟩
      · cases e
    · rename_i e1
      cases e
      refine hf H v u x y _ _ qv qu e1 fun w hw => ?_
      cases hw Z
      refine ⟨false, rfl, ?_⟩
      rw [if_neg (by decide)]
      exact k _ (.bl _)
    · cases e
  · cases e
/-- a op1 b op2 c op3 d -/
def tChain3 (r r' r'' : R2) (ta tb tc td : TE) : TE := fun σ H Q => ta σ H fun x H1 => tb σ H1 fun y H2 => r x y H2 fun z H3 => ∃ k, z = .bl k ∧
  (if k = true then tc σ H3 fun w H4 => r' y w H4 fun z H5 => ∃ k, z = .bl k ∧ (if k = true then td σ H5 fun w' H6 => r'' w w' H6 Q else Q (.bl false) H5) else Q (.bl false) H3)
def bChn3 (f g h : D → D → Option D) (a b c d : BD) : BD := fun e => match a e, b e with
  | some x, some y => (match f x y with
    | some (.bl true) => (match c e with
      | some z => (match g y z with
        | some (.bl true) => (match d e with
          | some w => h z w
          | none => none)
        | some (.bl false) => some (.bl false)
        | _ => none)
      | none => none)
    | some (.bl false) => some (.bl false)
    | _ => none)
  | _, _ => none
theorem bChn3_imp {f g f3 : D → D → Option D} {r r' r'' : R2} (hf : OpS K f r) (hg : OpS K g r') (h3 : OpS K f3 r'') {a b c c3 : BD} {σ : St} {H : Hp} {Q : VK} (h : tB K (bChn3 f g f3 a b c c3) σ H Q) : tChain3 r r' r'' (tR K a) (tR K b) (tR K c) (tR K c3) σ H Q := by
  obtain ⟨Z, τ, T, env, F, d, ok, hl, e, k⟩ := h
  unfold bChn3 at e
  split at e
  · rename_i x y ea eb
    refine ⟨Z, τ, T, env, F, x, ok, hl, ea, fun v qv => ⟨Z, τ, T, env, F, y, ok, hl, eb, fun u qu => ?_⟩⟩
    split at e
    · rename_i e1
      refine hf H v u x y _ _ qv qu e1 fun w hw => ?_
      cases hw Z
      refine ⟨true, rfl, ?_⟩
      rw [if_pos rfl]
      split at e
      · rename_i z ec
        refine ⟨Z, τ, T, env, F, z, ok, hl, ec, fun w qw => ?_⟩
        split at e
        · rename_i e2
          refine hg H u w y z _ _ qu qw e2 fun w1 hw1 => ?_
          cases hw1 Z
          refine ⟨true, rfl, ?_⟩
          rw [if_pos rfl]
          split at e
          · rename_i z3 ed
            exact ⟨Z, τ, T, env, F, z3, ok, hl, ed, fun w3 qw3 => h3 H w w3 z z3 d Q qw qw3 e fun w hw => k w (hw Z)⟩
          · cases e
        · rename_i e2
          cases e
          refine hg H u w y z _ _ qu qw e2 fun w1 hw1 => ?_
          cases hw1 Z
          refine ⟨false, rfl, ?_⟩
          rw [if_neg (by decide)]
          exact k _ (.bl _)
        · cases e
      · cases e
    · rename_i e1
      cases e
      refine hf H v u x y _ _ qv qu e1 fun w hw => ?_
      cases hw Z
      refine ⟨false, rfl, ?_⟩
      rw [if_neg (by decide)]
      exact k _ (.bl _)
    · cases e
  · cases e
/-! int(..), abs(..) -/
def int1D : List D → Option D
  | [.int i] => some (.int i)
  | [.bl k] => some (.int (if k then 1 else 0))
  | _ => none
@[simp] theorem int1D_int (i : Int) : int1D [.int i] = some (.int i) := rfl
@[simp] theorem int1D_bl (k : Bool) : int1D [.bl k] = some (.int (if k then 1 else 0)) := rfl
theorem calls_int1 : CallS K int1D (fun xs H Q => (∃ i, xs = [.int i] ∧ Q (.int i) H) ∨ ∃ k, xs = [.bl k] ∧ Q (.int (if k then 1 else 0)) H) := by
  intro H vs ds z Q h e k
  unfold int1D at e
  split at e
  · cases e
    cases h with
    | cons p r => cases p; cases r; exact .inl ⟨_, rfl, k _ fun _ => .int _⟩
  · cases e
    cases h with
    | cons p r => cases p; cases r; exact .inr ⟨_, rfl, k _ fun _ => .int _⟩
  · cases e
def absD : List D → Option D
  | [.int i] => some (.int (if i < 0 then -i else i))
  | _ => none
@[simp] theorem absD_int (i : Int) : absD [.int i] = some (.int (if i < 0 then -i else i)) := rfl
theorem calls_abs : CallS K absD (fun xs H Q => ∃ i, xs = [.int i] ∧ Q (.int (if i < 0 then -i else i)) H) := by
  intro H vs ds z Q h e k
  unfold absD at e
  split at e
  · cases e
    cases h with
    | cons p r => cases p; cases r; exact ⟨_, rfl, k _ fun _ => .int _⟩
  · cases e
/-! text.index(sign) -/
def sidxD : D → D → Option D
  | .str a, .str b => match Builtin.Str.occurrences a b 0 a.length 1 with
    | i :: _ => some (.int (i : Nat))
    | [] => none
  | _, _ => none
theorem sidx_imp {a b : BD} {σ : St} {H : Hp} {Q : VK} (h : tB K (bOp sidxD a b) σ H Q) : tBM K "str" (fun x xs H Q => ∃ a b i rest, x = .str a ∧ xs = [.str b] ∧ Builtin.Str.occurrences a b 0 a.length 1 = i :: rest ∧ Q (.int (i : Nat)) H) (tR K a) (tCons (tR K b) tNil) σ H Q := by
  obtain ⟨Z, τ, T, env, F, d, ok, hl, e, k⟩ := h
  unfold bOp at e
  split at e
  · rename_i x y ea eb
    unfold sidxD at e
    split at e
    · rename_i s t
      split at e
      · rename_i i rest eo
        cases e
        refine ⟨Z, τ, T, env, F, _, ok, hl, ea, fun v qv => ?_⟩
        cases qv
        refine ⟨rfl, ⟨Z, τ, T, env, F, _, ok, hl, eb, fun u qu => ?_⟩⟩
        cases qu
        exact ⟨s, t, i, rest, rfl, rfl, eo, k _ (.int _)⟩
      · cases e
    · cases e
  · cases e
/-! xs.insert(i, y) -/
def insF : List O → List O → Option (O × List O)
  | xs, [.pu (.int i), y] => if xs.length < 100000 ∧ 0 ≤ i ∧ i < 2 ^ 63 then some (.pu .non, xs.take i.toNat ++ [y] ++ xs.drop i.toNat) else none
  | _, _ => none
@[simp] theorem insF_i (xs : List O) (i : Int) (y : O) : insF xs [.pu (.int i), y] = if xs.length < 100000 ∧ 0 ≤ i ∧ i < 2 ^ 63 then some (.pu .non, xs.take i.toNat ++ [y] ++ xs.drop i.toNat) else none := rfl
theorem RepOs.ins : ∀ {vs : List V} {os : List O} {A B : Fp} {v : V} {o : O} (j : Nat), RepOs K Z H vs os A → RepO K Z H v o B → RepOs K Z H (vs.take j ++ [v] ++ vs.drop j) (os.take j ++ [o] ++ os.drop j) (fun b => A b + B b)
  | _, _, A, B, _, _, 0, r, q => .cons (F2 := A) q r fun b => by show B b + A b ≤ A b + B b; omega
  | _, _, A, B, _, _, j + 1, .nil, q => .cons (F2 := A) q .nil fun b => by show B b + A b ≤ A b + B b; omega
  | _, _, A, B, _, _, j + 1, .cons (F1 := A1) (F2 := A2) h r i, q => .cons (F2 := fun b => A2 b + B b) h (r.ins j q) fun b => by have := i b; show A1 b + (A2 b + B b) ≤ A b + B b; omega
theorem methv_ins : MethV K insF (fun x vs H Q => ∃ (l : Addr) (xs : List V) (i : Int) (y : V), x = .ref l ∧ vs = [.int i, y] ∧ H l = some (.lst xs) ∧ xs.length < sizeLine ∧ 0 ≤ i ∧ i < 2 ^ 63 ∧
    Q .non (upd H l (.lst (xs.take i.toNat ++ [y] ++ xs.drop i.toNat)))) := by
  intro Z H a vs us xs ys zs z A B Q ha qs qy e k
  unfold insF at e
  split at e
  · split at e
    · rename_i i y hz
      cases e
      cases qy with
      | @cons _ _ _ _ A1 A2 _ qi r2 i1 =>
        cases qi with
        | pu qi =>
          cases qi
          cases r2 with
          | @cons u _ _ _ B1 B2 _ q r i =>
            cases r
            refine ⟨a, vs, _, u, rfl, rfl, ha, Nat.lt_of_lt_of_le (by rw [qs.len]; exact hz.1) (by decide), hz.2.1, hz.2.2, ?_⟩
            refine k .non _ (fun _ => 0) (fun b => A b + B1 b) (fun H' kp na nb => ⟨.pu .non, (qs.mono Le.refl (fun b w => kp b (na b w)) fun b => Nat.le_refl _).ins _ (q.mono Le.refl (fun b w => kp b (nb b (by have := i b; have := i1 b; omega))) fun b => Nat.le_refl _)⟩) fun b => by have := i b; have := i1 b; show 0 + (A b + B1 b) ≤ A b + B b; omega
    · cases e
  · cases e
end
section
variable {X : Cx} {E : XK} {i j : Nat} {a b c e f3 : Expr} {es : List Expr} {rs : List PSt} {pos p1 p2 p3 apos cpos : Pos} {x q : Str} {f g g3 : D → D → Option D} {ba bb bc bd : BD} {op op' op'' : CmpOp} {bs : Ws.Env → Option (List D)} {fs : List D → Option D} {id : String}
theorem t_xcmp (h : CmpR X op f) (ha : VR X a ba) (hb : VR X b bb) (hm : behindInMarks op b = false) : VT X E (.Compare a [op] [b] pos) (cB (bOp f ba bb)) := by
  obtain ⟨r, ho, hs⟩ := h.ex
  exact (pt_cmpR ho ha hb hm).weak fun _ _ _ => cBop_imp hs
theorem x_chn (h : CmpR X op f) (h' : CmpR X op' g) (ha : VR X a ba) (hb : VR X b bb) (hc : VR X c bc) (hm : lastMarks [op, op'] [b, c] = false := by with_unfolding_all rfl) : VBx X (.Compare a [op, op'] [b, c] pos) (bChn f g ba bb bc) := by
  obtain ⟨r, ho, hs⟩ := h.ex
  obtain ⟨r', ho', hs'⟩ := h'.ex
  exact (pe_chain ho ho' ha hb hc hm).weak fun _ _ _ => bChn_imp hs hs'
theorem t_xchn (h : CmpR X op f) (h' : CmpR X op' g) (ha : VR X a ba) (hb : VR X b bb) (hc : VR X c bc) (hm : lastMarks [op, op'] [b, c] = false := by with_unfolding_all rfl) : VT X E (.Compare a [op, op'] [b, c] pos) (cB (bChn f g ba bb bc)) := by
  obtain ⟨r, ho, hs⟩ := h.ex
  obtain ⟨r', ho', hs'⟩ := h'.ex
  exact (pt_chain ho ho' ha hb hc hm).weak fun _ _ _ h => bChn_imp hs hs' (cB_imp h)
open PySem.Spec PyProof.Rows in
theorem pe_chain3 {ta tb tc td : TE} {r r' r'' : R2} (ho : OpR X (compareOp op) r) (ho' : OpR X (compareOp op') r') (ho'' : OpR X (compareOp op'') r'') (ha : PE X a ta) (hb : PE X b tb) (hc : PE X c tc) (hd : PE X e td)
    (hm : lastMarks [op, op', op''] [b, c, e] = false := by with_unfolding_all rfl) : PE X (.Compare a [op, op', op''] [b, c, e] pos) (tChain3 r r' r'' ta tb tc td) := by
  refine ⟨fun pins s σ H Q I h => ?_⟩
  refine Compare_chain (thn (ha.run pins s σ H _ I h) fun v s1 ⟨x, H1, I1, r1, q1⟩ => chain_link (thn (hb.run pins s1 σ H1 _ I1 q1) fun u s2 ⟨y, H2, I2, r2, q2⟩ =>
    thn (ho pins s2 σ H2 x y v u _ I2 r1 r2 q2) fun d s3 ⟨z, H3, I3, r3, k, e, q3⟩ => ?_)) hm
  subst e
  cases r3
  refine wpAny_truthy_bool ?_
  cases k with
  | false => exact ite_ff ⟨.bl false, H3, I3, rfl, q3⟩
  | true =>
    refine ite_tt (chain_link (thn (hc.run pins s3 σ H3 _ I3 q3) fun w' s4 ⟨z', H4, I4, r4, q4⟩ => thn (ho' pins s4 σ H4 y z' u w' _ I4 r2 r4 q4) fun d s5 ⟨z, H5, I5, r5, k, e, q5⟩ => ?_))
    subst e
    cases r5
    refine wpAny_truthy_bool ?_
    cases k with
    | false => exact ite_ff ⟨.bl false, H5, I5, rfl, q5⟩
    | true => exact ite_tt (chain_last (thn (hd.run pins s5 σ H5 _ I5 q5) fun w6 s6 ⟨z6, H6, I6, r6, q6⟩ => ho'' pins s6 σ H6 z' z6 w' w6 Q I6 r4 r6 q6))
open PySem.Spec PyProof.Rows in
theorem pt_chain3 {ta tb tc td : TE} {r r' r'' : R2} (ho : OpR X (compareOp op) r) (ho' : OpR X (compareOp op') r') (ho'' : OpR X (compareOp op'') r'') (ha : PE X a ta) (hb : PE X b tb) (hc : PE X c tc) (hd : PE X e td)
    (hm : lastMarks [op, op', op''] [b, c, e] = false := by with_unfolding_all rfl) : PT X (.Compare a [op, op', op''] [b, c, e] pos) (tTest (tChain3 r r' r'' ta tb tc td)) := by
  refine ⟨fun pins s σ H Q I h => ?_⟩
  refine isTrue_chain (thn (ha.run pins s σ H _ I h) fun v s1 ⟨x, H1, I1, r1, q1⟩ => test_link (thn (hb.run pins s1 σ H1 _ I1 q1) fun u s2 ⟨y, H2, I2, r2, q2⟩ =>
    thn (ho pins s2 σ H2 x y v u _ I2 r1 r2 q2) fun d s3 ⟨z, H3, I3, r3, k, e, q3⟩ => ?_)) hm
  subst e
  cases r3
  refine wpAny_truthy_bool ?_
  cases k with
  | false => exact ite_ff (by obtain ⟨c, e, q⟩ := q3; cases e; exact ⟨H3, I3, q⟩)
  | true =>
    refine ite_tt (test_link (thn (hc.run pins s3 σ H3 _ I3 q3) fun w' s4 ⟨z', H4, I4, r4, q4⟩ => thn (ho' pins s4 σ H4 y z' u w' _ I4 r2 r4 q4) fun d s5 ⟨z, H5, I5, r5, k, e, q5⟩ => ?_))
    subst e
    cases r5
    refine wpAny_truthy_bool ?_
    cases k with
    | false => exact ite_ff (by obtain ⟨c, e, q⟩ := q5; cases e; exact ⟨H5, I5, q⟩)
    | true => exact ite_tt (test_last (thn (hd.run pins s5 σ H5 _ I5 q5) fun w6 s6 ⟨z6, H6, I6, r6, q6⟩ => thn (ho'' pins s6 σ H6 z' z6 w' w6 _ I6 r4 r6 q6) fun d s7 ⟨z, H7, I7, r7, k, e, q7⟩ => by subst e; cases r7; exact wpAny_truthy_bool ⟨H7, I7, q7⟩))
theorem x_chn3 (h : CmpR X op f) (h' : CmpR X op' g) (h'' : CmpR X op'' g3) (ha : VR X a ba) (hb : VR X b bb) (hc : VR X c bc) (hd : VR X e bd) (hm : lastMarks [op, op', op''] [b, c, e] = false := by with_unfolding_all rfl) : VBx X (.Compare a [op, op', op''] [b, c, e] pos) (bChn3 f g g3 ba bb bc bd) := by
  obtain ⟨r, ho, hs⟩ := h.ex
  obtain ⟨r', ho', hs'⟩ := h'.ex
  obtain ⟨r'', ho'', hs''⟩ := h''.ex
  exact (pe_chain3 ho ho' ho'' ha hb hc hd hm).weak fun _ _ _ => bChn3_imp hs hs' hs''
theorem t_xchn3 (h : CmpR X op f) (h' : CmpR X op' g) (h'' : CmpR X op'' g3) (ha : VR X a ba) (hb : VR X b bb) (hc : VR X c bc) (hd : VR X e bd) (hm : lastMarks [op, op', op''] [b, c, e] = false := by with_unfolding_all rfl) : VT X E (.Compare a [op, op', op''] [b, c, e] pos) (cB (bChn3 f g g3 ba bb bc bd)) := by
  obtain ⟨r, ho, hs⟩ := h.ex
  obtain ⟨r', ho', hs'⟩ := h'.ex
  obtain ⟨r'', ho'', hs''⟩ := h''.ex
  exact (pt_chain3 ho ho' ho'' ha hb hc hd hm).weak fun _ _ _ h => bChn3_imp hs hs' hs'' (cB_imp h)
theorem b_int1 : BltS X (.type "int") int1D := ⟨_, call_int1, calls_int1⟩
theorem b_abs : BltS X (.builtin "abs") absD := ⟨_, call_abs, calls_abs⟩
theorem x_bltT {ty : String} (h : BltS X (.type ty) fs) (hm : X.mg x = none) (hv : bootBuiltins x = some (.type ty)) (ha : VRs X (e :: es) bs) (hg : Gl X x := by rfl) (hn : x ≠ "__name__" := by decide) (hdb : (x == ("__debug__" : Str)) = false := by decide)
    (he : starEach (e :: es) X.env = (false, eval e X.env) :: starEach es X.env := by rfl) (hpl : (backTo pos (starEach es X.env)).any (·.1) = false := by rfl) : VBx X (.Call (.Name x p1) (e :: es) [] pos) (bCall fs bs) := by
  obtain ⟨r, hc, hs⟩ := h.ex
  exact (pe_callTy hc hg hm hv ha hn hdb he hpl).weak fun _ _ _ => bCall_imp hs fun _ _ _ h => h
theorem x_sidx {s t : Str} {k : Nat} (hst : s = t) (ha : VR X e ba) (hbase : attributeBase (.Constant (.str s) k p1) "index" X.env (eval (.Constant (.str s) k p1) X.env) = eval (.Constant (.str s) k p1) X.env := by rfl)
    (hfew : ((backTo cpos (starEach (e :: []) X.env)).all (fun x => !x.1) && (backToKw cpos (keywordEach [] X.env)).all (fun x => x.1.isSome)
      && decide ((e :: []).length + ([] : List Keyword).length + (if ([] : List Keyword).isEmpty then 0 else 1) < 30)) = true := by rfl)
    (hline : (apos.endLine == cpos.line) = true := by rfl) (hs : starEach (e :: []) X.env = (false, eval e X.env) :: starEach [] X.env := by rfl) (hplain : (backTo cpos (starEach [] X.env)).any (·.1) = false := by rfl) :
    VBx X (.Call (.Attribute (.Constant (.str s) k p1) "index" apos) [e] [] cpos) (bOp sidxD (bC (.str t)) ba) := by
  subst hst
  exact (pe_bm PySem.F.plainAttrs_str PySem.F.slot_str_index PySem.F.type_str_index mt_sindex (r_x (x_str rfl)) (pa_cons ha pa_nil hs) hbase hfew hline hs hplain).weak fun _ _ _ => sidx_imp
theorem m_ins : MethR X "list.insert" insF := ⟨_, mt_insert, methv_ins⟩
end
end Ws

namespace Ws
open PySem L2
/-! ### zip of any three of list and tuple -/
def ItzC (K : PySem.W.Frag) (t1 t2 t3 : Bool) (a b c : Addr) : It :=
  ⟨fun i H => ∃ (xs ys zs : List V) (x y z : V), SqB K H t1 a xs ∧ SqB K H t2 b ys ∧ SqB K H t3 c zs ∧ xs[i]? = some x ∧ ys[i]? = some y ∧ zs[i]? = some z,
    fun i H v H' => ∃ T x y z, v = .ref T ∧ H T = none ∧ H' = upd H T (.tup [x, y, z]) ∧ (∀ xs, SqB K H t1 a xs → xs[i]? = some x) ∧ (∀ ys, SqB K H t2 b ys → ys[i]? = some y) ∧ ∀ zs, SqB K H t3 c zs → zs[i]? = some z,
    fun i H => ∃ xs ys zs : List V, SqB K H t1 a xs ∧ SqB K H t2 b ys ∧ SqB K H t3 c zs ∧ i ≤ xs.length ∧ i ≤ ys.length ∧ i ≤ zs.length ∧ (i = xs.length ∨ i = ys.length ∨ i = zs.length)⟩
theorem turn_zipC {P : Program} {w : World} {K : PySem.W.Frag} {elts : List Expr} {kk : Nat} {tpos : Pos} {t1 t2 t3 : Bool} {a b c z TI TO i1 i2 i3 : Addr} (S : ZipSep3 z TI TO i1 i2 i3 [i1, a] [i2, b] [i3, c]) (h1a : a ≠ i1) (h2b : b ≠ i2) (h3c : c ≠ i3) :
    Turn P w K (.Tuple elts kk tpos) (ItzC K t1 t2 t3 a b c) [z, TI, TO, i1, i2, i3] z (fun i h => IsZip h z TI TO .none ∧ IsTupOf3 h TI (.ref i1) (.ref i2) (.ref i3) ∧ (∃ x y z, IsTupOf3 h TO x y z) ∧ itAt t1 h i1 a i ∧ itAt t2 h i2 b i ∧ itAt t3 h i3 c i) where
  mem := List.mem_cons_self
  obj := fun i h st e hc => by
    obtain ⟨s1, s2, ⟨u, v, w', s3⟩, s4, s5, s6⟩ := st
    have e' : e = z ∨ e = TI ∨ e = TO ∨ e = i1 ∨ e = i2 ∨ e = i3 := by simpa using hc
    rcases e' with rfl | rfl | rfl | rfl | rfl | rfl
    · exact ⟨_, s1, fun v q => by cases q⟩
    · exact ⟨_, s2, fun v q => by cases q⟩
    · exact ⟨_, s3, fun v q => by cases q⟩
    · exact s4.obj
    · exact s5.obj
    · exact s6.obj
  keep := fun i h h' st k => by
    obtain ⟨s1, s2, ⟨u, v, w', s3⟩, s4, s5, s6⟩ := st
    exact ⟨k _ (by simp) _ s1, k _ (by simp) _ s2, ⟨u, v, w', k _ (by simp) _ s3⟩, s4.at fun o q => k i1 (by simp) o q, s5.at fun o q => k i2 (by simp) o q, s6.at fun o q => k i3 (by simp) o q⟩
  item := by
    intro X hP hw hK hc i pins s σ H E I hf st hg
    subst hP hw hK
    obtain ⟨s1, s2, ⟨x0, y0, z0, s3⟩, s4, s5, s6⟩ := st
    obtain ⟨xs, ys, zs, x, y, zz, qx, qy, qz, ex, ey, ez⟩ := hg
    obtain ⟨its, rv, p⟩ := SqB.seq I qx
    obtain ⟨its2, rv2, p2⟩ := SqB.seq I qy
    obtain ⟨its3, rv3, p3⟩ := SqB.seq I qz
    obtain ⟨u, hu, ru⟩ := rv.get ex
    obtain ⟨u2, hu2, ru2⟩ := rv2.get ey
    obtain ⟨u3, hu3, ru3⟩ := rv3.get ez
    have hh := I.ok.hd hc
    have lt1 : i < its.toArray.size := by rw [List.size_toArray]; exact (List.getElem?_eq_some_iff.mp hu).1
    have lt2 : i < its2.toArray.size := by rw [List.size_toArray]; exact (List.getElem?_eq_some_iff.mp hu2).1
    have lt3 : i < its3.toArray.size := by rw [List.size_toArray]; exact (List.getElem?_eq_some_iff.mp hu3).1
    have zl : z < s.heap.objs.size := Heap.lt_size s1
    refine wpAny_pyNext_zipD3_item S (draws_of (A := X.A.in1) hh t1 i1 a h1a its.toArray) (draws_of (A := X.A.in1) hh t2 i2 b h2b its2.toArray) (draws_of (A := X.A.in1) hh t3 i3 c h3c its3.toArray) s1 s2 s3 ⟨s4, p⟩ ⟨s5, p2⟩ ⟨s6, p3⟩ lt1 lt2 lt3 fun v1 v2 v3 h' tk g1 g2 g3 z' TO' n1 n2 n3 hT hsz hk => ?_
    have ev1 : v1 = u := Option.some.inj (g1.symm.trans (by simpa using hu))
    have ev2 : v2 = u2 := Option.some.inj (g2.symm.trans (by simpa using hu2))
    have ev3 : v3 = u3 := Option.some.inj (g3.symm.trans (by simpa using hu3))
    subst ev1 ev2 ev3
    refine ⟨_, rfl, wpAny_letOwnedTupleGo_zip (s := { s with heap := h', toks := tk }) z' fun h'' z'' sb => ?_⟩
    have hT2 := (sb.2 _ (Nat.ne_of_gt zl)).trans hT
    have new : ObjOk X.prog X.w (upd H s.heap.objs.size (.tup [x, y, zz])) h'' s.heap.objs.size (.tup [x, y, zz]) :=
      ⟨by show 3 ≤ sizeLine; decide, [v1, v2, v3], .cons ru (.cons ru2 (.cons ru3 .nil)), ⟨_, hT2, rfl, _, rfl⟩⟩
    have kk : ∀ c o, c ∉ [z, TI, TO, i1, i2, i3] → s.heap.get? c = some o → h''.get? c = some o := fun c o hb q => by
      simp only [List.mem_cons, List.not_mem_nil, or_false, not_or] at hb
      exact (sb.2 c hb.1).trans (hk c o hb.1 hb.2.2.1 hb.2.2.2.1 hb.2.2.2.2.1 hb.2.2.2.2.2 q)
    have I1 : Inv X pins σ (upd H s.heap.objs.size (.tup [x, y, zz])) { s with heap := h'', toks := tk } := I.turnedNew (t' := tk) kk hf (Nat.le_refl _) new
    refine ⟨.ref s.heap.objs.size, _, I1, rfl, ⟨_, x, y, zz, rfl, I.hok.fresh (Nat.le_refl _), rfl, fun l hl => by rw [SqB.inj I hl qx]; exact ex, fun l hl => by rw [SqB.inj I hl qy]; exact ey, fun l hl => by rw [SqB.inj I hl qz]; exact ez⟩, ⟨z'', ?_, ⟨v1, v2, v3, ?_⟩, ?_, ?_, ?_⟩, fun c hcm => ?_⟩
    · exact (sb.2 _ S.TIz).trans (hk _ _ S.TIz S.TITO S.TIi1 S.TIi2 S.TIi3 s2)
    · exact (sb.2 _ S.TOz).trans TO'
    · exact n1.1.at fun o q => (sb.2 _ (fun e => S.zf1 (by rw [← e]; simp))).trans q
    · exact n2.1.at fun o q => (sb.2 _ (fun e => S.zf2 (by rw [← e]; simp))).trans q
    · exact n3.1.at fun o q => (sb.2 _ (fun e => S.zf3 (by rw [← e]; simp))).trans q
    · have lt : c < s.heap.objs.size := by
        have e' : c = z ∨ c = TI ∨ c = TO ∨ c = i1 ∨ c = i2 ∨ c = i3 := by simpa using hcm
        rcases e' with rfl | rfl | rfl | rfl | rfl | rfl
        · exact zl
        · exact Heap.lt_size s2
        · exact Heap.lt_size s3
        · obtain ⟨_, e1, _⟩ := s4.obj; exact Heap.lt_size e1
        · obtain ⟨_, e1, _⟩ := s5.obj; exact Heap.lt_size e1
        · obtain ⟨_, e1, _⟩ := s6.obj; exact Heap.lt_size e1
      rw [upd_ne (Nat.ne_of_lt lt)]
      exact (hf c hcm).1
  done := by
    intro X hP hw hK hc i pins s σ H E I hf st hg
    subst hP hw hK
    obtain ⟨s1, s2, ⟨x0, y0, z0, s3⟩, s4, s5, s6⟩ := st
    obtain ⟨xs, ys, zs, qx, qy, qz, l1, l2, l3, le⟩ := hg
    obtain ⟨its, rv, p⟩ := SqB.seq I qx
    obtain ⟨its2, rv2, p2⟩ := SqB.seq I qy
    obtain ⟨its3, rv3, p3⟩ := SqB.seq I qz
    have hh := I.ok.hd hc
    have n1 := rv.length
    have n2 := rv2.length
    have n3 := rv3.length
    refine wpAny_pyNext_zipD3_end S (draws_of (A := X.A.in1) hh t1 i1 a h1a its.toArray) (draws_of (A := X.A.in1) hh t2 i2 b h2b its2.toArray) (draws_of (A := X.A.in1) hh t3 i3 c h3c its3.toArray) s1 s2 s3 ⟨s4, p⟩ ⟨s5, p2⟩ ⟨s6, p3⟩ (by simp; omega) (by simp; omega) (by simp; omega) (by simp; omega) fun h' tk hk => ⟨rfl, ?_⟩
    exact I.turnedL (t' := tk) (ch := [z, TI, TO, i1, i2, i3]) (fun c o hb q => by
      simp only [List.mem_cons, List.not_mem_nil, or_false, not_or] at hb
      exact hk c o hb.1 hb.2.2.1 hb.2.2.2.1 hb.2.2.2.2.1 hb.2.2.2.2.2 q) hf
  self := fun A i s Q E st h => wpAny_pyIter_zip st.1 h
def iZipC (K : PySem.W.Frag) (ta : TA) : TI := fun σ H R => ta σ H fun vs H1 => ∃ (a b c : Addr) (xs ys zs : List V) (t1 t2 t3 : Bool), vs = [.ref a, .ref b, .ref c] ∧ SqB K H1 t1 a xs ∧ SqB K H1 t2 b ys ∧ SqB K H1 t3 c zs ∧ R (ItzC K t1 t2 t3 a b c) H1
theorem pi_zipC {X : Cx} {e e2 e3 : Expr} {ta : TA} {p pos tpos : Pos} {elts : List Expr} {kk : Nat} (hg : Gl X "zip") (hm : X.mg "zip" = none) (ha : PA X [e, e2, e3] ta)
    (hs : starEach [e, e2, e3] X.env = (false, eval e X.env) :: starEach [e2, e3] X.env := by rfl) (hpl : (backTo pos (starEach [e2, e3] X.env)).any (·.1) = false := by rfl) :
    PI X (.Tuple elts kk tpos) (.Call (.Name "zip" p) [e, e2, e3] [] pos) (iZipC X.K ta) := by
  refine ⟨fun pins s σ H R I h => ?_⟩
  refine PyProof.Rows.Call_ (ld_blt I hg hm PyProof.Rows.boot_zip (PyProof.Rows.callWith_type1 (thn (ha.run pos pins s σ H _ I h) fun us s1 ⟨vs, H1, I1, r1, q1⟩ => ?_) hs hpl))
  obtain ⟨a, b, c, xs, ys, zs, t1, t2, t3, ex, qx, qy, qz, q⟩ := q1
  subst ex
  cases r1 with
  | cons r rr =>
    cases rr with
    | cons r' rr =>
      cases rr with
      | cons r'' rr =>
      cases rr
      cases r
      cases r'
      cases r''
      obtain ⟨its, rv, p1⟩ := SqB.seq I1 qx
      obtain ⟨its2, rv2, p2⟩ := SqB.seq I1 qy
      obtain ⟨its3, rv3, p3⟩ := SqB.seq I1 qz
      have la := p1.lt
      have lb := p2.lt
      have lc := p3.lt
      refine zip_begins3 (begins_of t1 a its.toArray) (begins_of t2 b its2.toArray) (begins_of t3 c its3.toArray) p1 p2 p3 fun h' hz hTI hTO g1 g2 g3 hsz hk => wpAny_pyIter_zip hz ?_
      have I2 : Inv X pins σ H1 { s1 with heap := h' } := I1.kept (t' := s1.toks) hk
      refine ⟨s1.heap.objs.size + 5, [s1.heap.objs.size + 5, s1.heap.objs.size + 3, s1.heap.objs.size + 4, s1.heap.objs.size, s1.heap.objs.size + 1, s1.heap.objs.size + 2], _, _, H1, rfl, I2,
        turn_zipC (zip_sep3 (fp1 := [a]) (fp2 := [b]) (fp3 := [c]) (fun c hc => by rw [List.mem_singleton.mp hc]; exact la) (fun c hc => by rw [List.mem_singleton.mp hc]; exact lb) fun c hc => by rw [List.mem_singleton.mp hc]; exact lc) (Nat.ne_of_lt la) (Nat.ne_of_lt (Nat.lt_succ_of_lt lb)) (Nat.ne_of_lt (Nat.lt_succ_of_lt (Nat.lt_succ_of_lt lc))), ⟨hz, hTI, ⟨_, _, _, hTO⟩, itAt.start g1, itAt.start g2, itAt.start g3⟩, fun c hcm => ?_, q⟩
      have hle : s1.heap.objs.size ≤ c := by
        have e' : c = s1.heap.objs.size + 5 ∨ c = s1.heap.objs.size + 3 ∨ c = s1.heap.objs.size + 4 ∨ c = s1.heap.objs.size ∨ c = s1.heap.objs.size + 1 ∨ c = s1.heap.objs.size + 2 := by simpa using hcm
        rcases e' with z | z | z | z | z | z <;> rw [z]
        · exact Nat.le_add_right _ 5
        · exact Nat.le_add_right _ 3
        · exact Nat.le_add_right _ 4
        · exact Nat.le_refl _
        · exact Nat.le_add_right _ 1
        · exact Nat.le_add_right _ 2
      exact I1.fpOk hle (I1.hok.fresh hle)
section
variable {K : PySem.W.Frag} {E : XK} {Z Z' H H' : Hp} {σ σ' σ1 τ ρ : L2.St} {env env' T R : Ws.Env} {F G : Fp} {Q Q' : VK} {v : V} {o : O} {d : D}
/-- the triples -/
def zip3D (xs ys zs : List D) : List D := (xs.zip (ys.zip zs)).map fun p => .tup [p.1, p.2.1, p.2.2]
theorem walk_zipC {t1 t2 t3 : Bool} {a b c : Addr} {vs us ws : List V} {ds es fs : List D} (h1 : SqB K Z t1 a vs) (r1 : Reps K Z vs ds) (h2 : SqB K Z t2 b us) (r2 : Reps K Z us es) (h3 : SqB K Z t3 c ws) (r3 : Reps K Z ws fs) : WalkD K (ItzC K t1 t2 t3 a b c) (zip3D ds es fs) Z := by
  intro H sub
  have g1 := h1.le sub
  have g2 := h2.le sub
  have g3 := h3.le sub
  have l1 := Reps.length r1
  have l2 := Reps.length r2
  have l3 := Reps.length r3
  have ll : (zip3D ds es fs).length = min ds.length (min es.length fs.length) := by simp [zip3D]
  rw [ll]
  refine ⟨fun i hi => ⟨vs, us, ws, vs[i]'(by omega), us[i]'(by omega), ws[i]'(by omega), g1, g2, g3, by simp [show i < vs.length by omega], by simp [show i < us.length by omega], by simp [show i < ws.length by omega]⟩, ⟨vs, us, ws, g1, g2, g3, by omega, by omega, by omega, by omega⟩, fun i v H' hi y => ?_⟩
  obtain ⟨T, x, y, zz, rfl, hT, rfl, hx, hy, hz⟩ := y
  have ex := hx vs g1
  have ey := hy us g2
  have ez := hz ws g3
  obtain ⟨d, ed, qd⟩ := r1.get ex
  obtain ⟨e, ee, qe⟩ := r2.get ey
  obtain ⟨f, ef, qf⟩ := r3.get ez
  refine ⟨Same.upd hT, .tup [d, e, f], by rw [zip3D, List.getElem?_map, (List.getElem?_zip_eq_some (z := (d, (e, f)))).mpr ⟨ed, (List.getElem?_zip_eq_some (z := (e, f))).mpr ⟨ee, ef⟩⟩]; rfl, fun Z2 s2 t2 => ⟨upd Z2 T (.tup [x, y, zz]), Same.upd (t2.none hT), fun c o ec => ?_, fun c hc => ?_, ?_⟩⟩
  · by_cases w : c = T
    · subst w
      rw [upd_same] at ec ⊢
      exact .inl ec
    · rw [upd_ne w] at ec ⊢
      exact t2 c o ec
  · by_cases w : c = T
    · exact .inr (w ▸ hT)
    · rw [upd_ne w] at hc
      exact .inl hc
  · have m : Le K Z (upd Z2 T (.tup [x, y, zz])) := (le_of_same s2).trans (le_of_same (Same.upd (t2.none hT)))
    exact .tup (SqT.of upd_same) (.cons (qd.mono m) (.cons (qe.mono m) (.cons (qf.mono m) .nil)))
/-- what a zip of three walks -/
def zip3K : List O → Ws.Env → Out (List D) := fun os e => match os with
  | [.pu x, .pu y, .pu z] => (match x.seq, y.seq, z.seq with
    | some ds, some es, some fs => .ok (zip3D ds es fs) e
    | _, _, _ => .no)
  | _ => .no
@[simp] theorem zip3K_pu (x y z : D) (e : Ws.Env) : zip3K [.pu x, .pu y, .pu z] e = (match x.seq, y.seq, z.seq with
    | some ds, some es, some fs => .ok (zip3D ds es fs) e
    | _, _, _ => .no) := rfl
def iZip3 (ms : M (List O)) : M (List D) := fun env => (ms env).bind zip3K
@[simp] theorem iZip3.c (ms : M (List O)) {z : Option O} {zs : Ws.Env} : iZip3 ms (z :: zs) = ((ms (z :: zs)).bind zip3K) := rfl
theorem zip3_imp {ms : M (List O)} {li : List (Option Nat)} {σ : L2.St} {H : Hp} {R : It → Hp → Prop} (h : tI K E (iZip3 ms) σ H R) : iZipC K (tL K E li ms) σ H R := by
  obtain ⟨Z, τ, T, env, F, ok, hl, post⟩ := h
  refine ⟨Z, τ, T, env, F, ok, hl, (stepLI (ρ := []) (R := []) rfl post).imp fun vs H1 ⟨Z1, F1, xs, e1, s1, l1, _, ok1, post1⟩ => ?_⟩
  unfold zip3K at post1
  split at post1
  · rename_i x y z
    split at post1
    · rename_i ds es fs ex ey ez
      match vs, l1 with
      | [v, u, w], _ =>
        obtain ⟨_, A, B, e2, q1, ok2, i1⟩ := Ok.top (x := some v) ok1
        cases e2
        obtain ⟨_, A', B', e3, q2, ok3, i2⟩ := Ok.top (x := some u) ok2
        cases e3
        obtain ⟨_, A3, B3, e4, q3, ok4, i3⟩ := Ok.top (x := some w) ok3
        cases e4
        cases q1 with
        | pu q1 =>
          cases q2 with
          | pu q2 =>
            cases q3 with
            | pu q3 =>
              obtain ⟨t1, a, ws, rfl, ha, r1⟩ := seqB_rep q1 ex
              obtain ⟨t2, b, us, rfl, hb, r2⟩ := seqB_rep q2 ey
              obtain ⟨t3, c, vs3, rfl, hc, r3⟩ := seqB_rep q3 ez
              exact ⟨a, b, c, ws, us, vs3, t1, t2, t3, rfl, ha.le ok4.sub, hb.le ok4.sub, hc.le ok4.sub, post1 _ H1 Z1 _ (Same.refl Z1) ok4 (walk_zipC ha r1 hb r2 hc r3)⟩
    · exact post1.elim
  · exact post1.elim
end
section
variable {X : Cx} {E : XK} {a b c : Expr} {li : List (Option Nat)} {ms : M (List O)} {p pos tpos : Pos} {elts : List Expr} {kk : Nat}
theorem i_zip3 (hm : X.mg "zip" = none) (ha : VA X E [a, b, c] li ms) (hg : Gl X "zip" := by rfl) (hs : starEach [a, b, c] X.env = (false, eval a X.env) :: starEach [b, c] X.env := by rfl) (hpl : (backTo pos (starEach [b, c] X.env)).any (·.1) = false := by rfl) : VI X E (.Tuple elts kk tpos) (.Call (.Name "zip" p) [a, b, c] [] pos) (iZip3 ms) :=
  (pi_zipC hg hm ha hs hpl).weak fun _ _ _ => zip3_imp
end
end Ws

namespace Ws
open PySem L2
/-! ### enumerate(name), the name owns a list: walked where it stands -/
section
variable {K : PySem.W.Frag} {E : XK} {Z Z' H H' : Hp} {σ σ' σ1 τ ρ : St} {env env' T R : Ws.Env} {F G : Fp} {Q Q' : VK} {v : V} {o : O} {d : D} {io io' : Nat → Bool}
def loopE (i : Nat) (g : GD) (body : M Fl) : Nat → Nat → M Fl
  | 0, _, _ => .no
  | n + 1, k, e => match e[i]? with
    | some (some o) => match itemO o k with
      | none => .no
      | some none => .ok .nx e
      | some (some x) => match g (.pu (.tup [.int (k : Nat), x])) e with
        | none => .no
        | some e1 => match body e1 with
          | .ok .nx e2 => loopE i g body n (k + 1) e2
          | .ok .ct e2 => loopE i g body n (k + 1) e2
          | .ok .bk e2 => .ok .nx e2
          | .ok (.rt r) e2 => .ok (.rt r) e2
          | .ex x e2 => .ex x e2
          | .no => .no
    | _ => .no
theorem forE_imp {i n : Nat} {g : GD} {tg : TG} {body : M Fl} {tb : TS} (hg : ∀ v σ H Q, tG K (ioA i io) g v σ H Q → tg v σ H Q) (hb : ∀ D σ H, tS K E (ioA i io) body D σ H → tb D σ H) {D : Ends} {σ : St} {H : Hp}
    (h : tS K E io (loopE i g body n 0) D σ H) : tFor (iEnum K (tCons (tVar i) tNil)) tg tb D σ H := by
  obtain ⟨Z, τ, T, env, F, ok, hl, post⟩ := h
  have hio : ∀ j, io j = true → ioA i io j = true := fun j hj => by simp [ioA, hj]
  have post := PostS.wk hio post
  -- the name holds a list
  have st : ∃ a vs, σ[i]? = some (some (.ref a)) ∧ SqL K H a vs := by
    cases n with
    | zero => exact post.elim
    | succ n =>
      unfold loopE at post
      split at post
      · rename_i o e
        obtain ⟨v, A, B, hv, q, _⟩ := ok.slot hl e
        split at post
        · exact post.elim
        · rename_i e1
          obtain ⟨a, vs, rfl, hs, _⟩ := item_ok ok.sub q e1
          exact ⟨a, vs, hv, hs⟩
        · rename_i x e1
          obtain ⟨a, vs, rfl, hs, _⟩ := item_ok ok.sub q e1
          exact ⟨a, vs, hv, hs⟩
      · exact post.elim
  obtain ⟨a, vs0, ha, hs0⟩ := st
  refine ⟨.ref a, ha, a, vs0, rfl, hs0, ?_⟩
  refine ⟨fun k m σ' H' => ∃ (Z' : Hp) (e' : Ws.Env) (F' : Fp), Same Z Z' ∧ Pin (ioA i io) σ σ' ∧ Ok K Z' H' (τ ++ σ') (T ++ e') F' ∧ PostS K E (ioA i io) Z' τ T σ' D (loopE i g body m k e'),
    ⟨n, Z, env, F, Same.refl _, Pin.refl σ, ok, post⟩, ?_⟩
  rintro k m σ' H' ⟨Z', e', F', s', p', ok', post'⟩
  cases m with
  | zero => exact post'.elim
  | succ m =>
    unfold loopE at post'
    split at post'
    · rename_i o e
      obtain ⟨v, A, B, hv, q, _⟩ := ok'.slot hl e
      have hv2 : σ'[i]? = some (some (.ref a)) := by rw [p'.2 i (by simp [ioA]), ha]
      rw [hv2] at hv
      cases hv
      split at post'
      · exact post'.elim
      · rename_i e1
        obtain ⟨a', vs, ea, hs, it⟩ := item_ok ok'.sub q e1
        cases ea
        exact .inl ⟨⟨vs, hs, it⟩, post' σ' H' Z' F' (Same.refl _) (Pin.refl σ') ok'⟩
      · rename_i x e1
        obtain ⟨a', vs, ea, hs, y, ey, ry⟩ := item_ok ok'.sub q e1
        cases ea
        refine .inr ⟨⟨vs, y, hs, ey⟩, fun σ2 H2 => ∃ (Z2 : Hp) (e2 : Ws.Env) (F2 : Fp), Same Z Z2 ∧ Pin (ioA i io) σ σ2 ∧ Ok K Z2 H2 (τ ++ σ2) (T ++ e2) F2 ∧ PostS K E (ioA i io) Z2 τ T σ2 D (loopE i g body m (k + 1) e2), fun σ2 H2 q => ⟨m, by omega, q⟩, fun x' H2 yl => ?_⟩
        obtain ⟨TT, y', rfl, hTT, rfl, hx⟩ := yl
        have := hx vs hs
        rw [ey] at this
        cases this
        have nn := Ok.newT (F1 := fun _ => 0) ok' ok'.sl ((Reps.cons (Rep.int (k : Nat)) (Reps.cons ry .nil)).os (H := H')) (fun b => by simp) hTT
        rw [mkT_map] at nn
        obtain ⟨Z6, F6, s6, ok6⟩ := nn
        split at post'
        · exact post'.elim
        · rename_i e2 eg
          refine hg (.ref TT) σ' _ _ ⟨Z6, τ, T, e', e2, F6, .pu (.tup [.int (k : Nat), x]), ok6, hl, eg, fun σ3 H3 Z4 F3 s4 p3 ok3 => ?_⟩
          refine hb _ σ3 H3 ⟨Z4, τ, T, e2, F3, ok3, hl, ?_⟩
          have post2 := (PostS.mono (s6.trans s4) post').pin p3
          cases eb : body e2 with
          | no => simp only [eb] at post2; exact post2
          | ex x e3 => simp only [eb] at post2; exact post2
          | ok fl e3 =>
            simp only [eb] at post2
            cases fl with
            | nx => exact fun σ5 H5 Z5 F5 s5 p5 ok5 => ⟨Z5, e3, F5, ((s'.trans s6).trans s4).trans s5, (p'.trans p3).trans p5, ok5, (PostS.mono s5 post2).pin p5⟩
            | ct => exact fun σ5 H5 Z5 F5 s5 p5 ok5 => ⟨Z5, e3, F5, ((s'.trans s6).trans s4).trans s5, (p'.trans p3).trans p5, ok5, (PostS.mono s5 post2).pin p5⟩
            | bk => exact post2
            | rt r => exact post2
    · exact post'.elim
end
section
variable {X : Cx} {E : XK} {io : Nat → Bool} {i n : Nat} {a : Expr} {sts : List Stmt} {p pos tpos fpos : Pos} {elts : List Expr} {kk : Nat} {g : GD} {s1 : M Fl}
theorem s_forE (n : Nat) (hp : PassesOwn (model X.prog X.w) X.A X.env X.xe) (hc : X.calm = true) (hm : X.mg "enumerate" = none) (ha : PE X a (tVar i)) (hgl : VG X (ioA i io) (.Tuple elts kk tpos) g) (hb : VB X E (ioA i io) sts s1) (hg : Gl X "enumerate" := by rfl) (hs : starEach [a] X.env = [(false, eval a X.env)] := by rfl) (hpl : (backTo pos (starEach [] X.env)).any (·.1) = false := by rfl)
    (hs1 : starEach (a :: []) X.env = (false, eval a X.env) :: starEach [] X.env := by rfl) (hf : ∀ x, foldedSetIterable (.Call (.Name "enumerate" p) [a] [] pos) X.env x = Pure.pure x := by intro _; rfl) : VS X E io (.For (.Tuple elts kk tpos) (.Call (.Name "enumerate" p) [a] [] pos) sts [] fpos) (loopE i g s1 n 0) :=
  (ps_for hp hc (pi_enum hg hm (pa_cons ha pa_nil hs1) hs) hgl hb hf).weak fun _ _ _ => forE_imp (fun _ _ _ _ h => h) fun _ _ _ h => h
end
theorem loopE_from {i : Nat} {g : GD} {body : M Fl} {ds : List D} (P : Nat → Ws.Env → Prop) (hp : ∀ k e, P k e → ∃ o, e[i]? = some (some o) ∧ itemO o k = some ds[k]?)
    (hs : ∀ k x e, ds[k]? = some x → P k e → ∃ e1, g (.pu (.tup [.int (k : Nat), x])) e = some e1 ∧ NxP (P (k + 1)) (body e1)) : ∀ (n k : Nat) (e0 : Ws.Env), k ≤ ds.length → ds.length < n + k → P k e0 → ∃ e, loopE i g body n k e0 = .ok .nx e ∧ P ds.length e
  | 0, k, e0, h1, h2, _ => by omega
  | n + 1, k, e0, h1, h2, h0 => by
    obtain ⟨o, e1, e2⟩ := hp k e0 h0
    unfold loopE
    rw [e1]
    simp only [e2]
    cases ek : ds[k]? with
    | none =>
      have : k = ds.length := by have : ds.length ≤ k := by simpa using ek
                                 omega
      subst this
      exact ⟨e0, rfl, h0⟩
    | some x =>
      obtain ⟨e3, g1, e4, b1, p4⟩ := hs k x e0 ek h0
      simp only [g1, b1]
      have := (List.getElem?_eq_some_iff.mp ek).1
      exact loopE_from P hp hs n (k + 1) e4 this (by omega) p4
theorem loopE_ex {i n : Nat} {g : GD} {body : M Fl} {ds : List D} (P : Nat → Ws.Env → Prop) (hp : ∀ k e, P k e → ∃ o, e[i]? = some (some o) ∧ itemO o k = some ds[k]?)
    (hs : ∀ k x e, ds[k]? = some x → P k e → ∃ e1, g (.pu (.tup [.int (k : Nat), x])) e = some e1 ∧ NxP (P (k + 1)) (body e1)) (hn : ds.length < n) {e0 : Ws.Env} (h0 : P 0 e0) : ∃ e, loopE i g body n 0 e0 = .ok .nx e ∧ P ds.length e :=
  loopE_from P hp hs n 0 e0 (Nat.zero_le _) hn h0
end Ws

namespace Ws
open PySem L2
/-! ### for simp -/
@[simp] theorem fzP_pu (e : Ws.Env) (i : Nat) (rs : List PSt) (d : D) : fzP e i rs (.pu d) = e := rfl
@[simp] theorem fzP_li (e : Ws.Env) (i : Nat) (rs : List PSt) (xs : List O) : fzP e i rs (.li xs) = putP e i rs (.pu (O.li xs).toD) := rfl
@[simp] theorem fzP_tu (e : Ws.Env) (i : Nat) (rs : List PSt) (xs : List O) : fzP e i rs (.tu xs) = putP e i rs (.pu (O.tu xs).toD) := rfl
@[simp] theorem fzP_di (e : Ws.Env) (i : Nat) (rs : List PSt) (xs : List (D × O)) : fzP e i rs (.di xs) = putP e i rs (.pu (O.di xs).toD) := rfl
@[simp] theorem fzP_ob (e : Ws.Env) (i : Nat) (rs : List PSt) (C : Str) (xs : List (Str × O)) : fzP e i rs (.ob C xs) = putP e i rs (.pu (O.ob C xs).toD) := rfl
def chn1B (g : D → D → Option D) (c : BD) (e : Ws.Env) (y : D) : Option D → Option D
  | some (.bl true) => (c e).bind (g y)
  | some (.bl false) => some (.bl false)
  | _ => none
@[simp] theorem chn1B_bl (g : D → D → Option D) (c : BD) (e : Ws.Env) (y : D) (b : Bool) : chn1B g c e y (some (.bl b)) = if b = true then (c e).bind (g y) else some (.bl false) := by cases b <;> rfl
@[simp] theorem bChn_eq (f g : D → D → Option D) (a b c : BD) (e : Ws.Env) : bChn f g a b c e = (a e).bind fun x => (b e).bind fun y => chn1B g c e y (f x y) := by
  unfold bChn
  cases a e with
  | none => rfl
  | some x =>
    cases b e with
    | none => rfl
    | some y =>
      simp only [Option.bind_some]
      generalize f x y = r
      cases r with
      | none => rfl
      | some w =>
        cases w with
        | bl k =>
          cases k with
          | false => rfl
          | true => show (match c e with | some z => g y z | none => none) = (c e).bind (g y); cases c e <;> rfl
        | _ => rfl
def chn2B (g h : D → D → Option D) (c d : BD) (e : Ws.Env) (y : D) : Option D → Option D
  | some (.bl true) => (c e).bind fun z => chn1B h d e z (g y z)
  | some (.bl false) => some (.bl false)
  | _ => none
@[simp] theorem chn2B_bl (g h : D → D → Option D) (c d : BD) (e : Ws.Env) (y : D) (b : Bool) : chn2B g h c d e y (some (.bl b)) = if b = true then (c e).bind fun z => chn1B h d e z (g y z) else some (.bl false) := by cases b <;> rfl
@[simp] theorem bChn3_eq (f g h : D → D → Option D) (a b c d : BD) (e : Ws.Env) : bChn3 f g h a b c d e = (a e).bind fun x => (b e).bind fun y => chn2B g h c d e y (f x y) := by
  unfold bChn3
  cases a e with
  | none => rfl
  | some x =>
    cases b e with
    | none => rfl
    | some y =>
      simp only [Option.bind_some]
      generalize f x y = r
      cases r with
      | none => rfl
      | some w =>
        cases w with
        | bl k =>
          cases k with
          | false => rfl
          | true =>
            show (match c e with
              | some z => (match g y z with
                | some (.bl true) => (match d e with
                  | some w => h z w
                  | none => none)
                | some (.bl false) => some (.bl false)
                | _ => none)
              | none => none) = (c e).bind fun z => chn1B h d e z (g y z)
            cases c e with
            | none => rfl
            | some z =>
              show (match g y z with
                | some (.bl true) => (match d e with
                  | some w => h z w
                  | none => none)
                | some (.bl false) => some (.bl false)
                | _ => none) = chn1B h d e z (g y z)
              generalize g y z = r
              cases r with
              | none => rfl
              | some w =>
                cases w with
                | bl k =>
                  cases k with
                  | false => rfl
                  | true => show (match d e with | some w => h z w | none => none) = (d e).bind (h z); cases d e <;> rfl
                | _ => rfl
        | _ => rfl
end Ws

namespace Ws
open PySem L2
/-! ### loops over an owned list that follow a machine -/
theorem runM_split {α σ : Type} {step : σ → α → Option σ} {xs : List α} {k : Nat} {x : α} (hx : xs[k]? = some x) (m : σ) : runM step m (xs.take (k + 1)) = (runM step m (xs.take k)).bind fun m => step m x := by
  have e : xs.take (k + 1) = xs.take k ++ [x] := by
    rw [List.take_add_one, hx]; rfl
  rw [e, runM_app]
  cases runM step m (xs.take k) with
  | none => rfl
  | some m1 => show (step m1 x).bind (fun m => runM step m []) = step m1 x; cases step m1 x <;> rfl
theorem runM_drop {α σ : Type} {step : σ → α → Option σ} {xs : List α} {k : Nat} {x : α} (hx : xs[k]? = some x) (m : σ) : runM step m (xs.drop k) = (step m x).bind fun m => runM step m (xs.drop (k + 1)) := by
  rw [drop_lt hx]; rfl
theorem runE_ex {α σ : Type} {step : σ → α → Option σ} {i n : Nat} {g : GD} {body : M Fl} {xs : List α} {f : α → D} (P : σ → Ws.Env → Prop) (hp : ∀ m e, P m e → ∀ k, ∃ o, e[i]? = some (some o) ∧ itemO o k = some (xs.map f)[k]?)
    (ht : ∀ (k : Nat) x m m' e, x ∈ xs → step m x = some m' → P m e → ∃ e1, g (.pu (.tup [.int (k : Nat), f x])) e = some e1 ∧ NxP (P m') (body e1)) {m0 m : σ} (hr : runM step m0 xs = some m) (hn : xs.length < n) {e0 : Ws.Env} (h0 : P m0 e0) :
    ∃ e, loopE i g body n 0 e0 = .ok .nx e ∧ P m e := by
  obtain ⟨e, h1, m1, h2, h3⟩ := loopE_ex (i := i) (n := n) (g := g) (body := body) (ds := xs.map f) (fun k e => ∃ m1, runM step m1 (xs.drop k) = some m ∧ P m1 e) (fun k e ⟨m1, _, h⟩ => hp m1 e h k)
    (fun k x e hx ⟨m1, h1, h2⟩ => by
      rw [List.getElem?_map] at hx
      obtain ⟨y, hy, rfl⟩ := Option.map_eq_some_iff.mp hx
      rw [runM_drop hy] at h1
      obtain ⟨m2, e1, e2⟩ := Option.bind_eq_some_iff.mp h1
      obtain ⟨e3, a, b, c, d⟩ := ht k y m1 m2 e (List.mem_of_getElem? hy) e1 h2
      exact ⟨e3, a, b, c, m2, e2, d⟩) (by simpa using hn) (e0 := e0) ⟨m0, by simpa using hr, h0⟩
  rw [List.drop_eq_nil_of_le (by simp)] at h2
  cases h2
  exact ⟨e, h1, h3⟩
theorem runA_ex {α σ : Type} {step : σ → α → Option σ} {i n : Nat} {g : GD} {body : M Fl} {xs : List α} {f : α → D} (P : σ → Ws.Env → Prop) (hp : ∀ m e, P m e → ∀ k, ∃ o, e[i]? = some (some o) ∧ itemO o k = some (xs.map f)[k]?)
    (ht : ∀ (k : Nat) x m m' e, x ∈ xs → step m x = some m' → P m e → ∃ e1, g (.pu (f x)) e = some e1 ∧ NxP (P m') (body e1)) {m0 m : σ} (hr : runM step m0 xs = some m) (hn : xs.length < n) {e0 : Ws.Env} (h0 : P m0 e0) :
    ∃ e, loopA i g body n 0 e0 = .ok .nx e ∧ P m e := by
  obtain ⟨e, h1, m1, h2, h3⟩ := loopA_ex (i := i) (n := n) (g := g) (body := body) (ds := xs.map f) (fun k e => ∃ m1, runM step m1 (xs.drop k) = some m ∧ P m1 e) (fun k e ⟨m1, _, h⟩ => hp m1 e h k)
    (fun k x e hx ⟨m1, h1, h2⟩ => by
      rw [List.getElem?_map] at hx
      obtain ⟨y, hy, rfl⟩ := Option.map_eq_some_iff.mp hx
      rw [runM_drop hy] at h1
      obtain ⟨m2, e1, e2⟩ := Option.bind_eq_some_iff.mp h1
      obtain ⟨e3, a, b, c, d⟩ := ht k y m1 m2 e (List.mem_of_getElem? hy) e1 h2
      exact ⟨e3, a, b, c, m2, e2, d⟩) (by simpa using hn) (e0 := e0) ⟨m0, by simpa using hr, h0⟩
  rw [List.drop_eq_nil_of_le (by simp)] at h2
  cases h2
  exact ⟨e, h1, h3⟩
theorem runF_ex {α σ : Type} {step : σ → α → Option σ} {g : GD} {body : M Fl} {xs : List α} {f : α → D} (P : σ → Ws.Env → Prop)
    (ht : ∀ x m m' e, x ∈ xs → step m x = some m' → P m e → ∃ e1, g (.pu (f x)) e = some e1 ∧ NxP (P m') (body e1)) {m0 m : σ} (hr : runM step m0 xs = some m) {e0 : Ws.Env} (h0 : P m0 e0) :
    ∃ e, loopF g body (xs.map f) e0 = .ok .nx e ∧ P m e := by
  obtain ⟨e, h1, m1, h2, h3⟩ := loop_ex (g := g) (body := body) (items := xs.map f) (j := 0) (fun k e => ∃ m1, runM step m1 (xs.drop k) = some m ∧ P m1 e)
    (fun k x e hx ⟨m1, h1, h2⟩ => by
      rw [List.getElem?_map] at hx
      obtain ⟨y, hy, rfl⟩ := Option.map_eq_some_iff.mp hx
      rw [Nat.zero_add, runM_drop hy] at h1
      obtain ⟨m2, e1, e2⟩ := Option.bind_eq_some_iff.mp h1
      obtain ⟨e3, a, b, c, d⟩ := ht y m1 m2 e (List.mem_of_getElem? hy) e1 h2
      exact ⟨e3, a, b, c, m2, by rw [Nat.zero_add]; exact e2, d⟩) (e0 := e0) ⟨m0, by simpa using hr, h0⟩
  rw [List.drop_eq_nil_of_le (by simp)] at h2
  cases h2
  exact ⟨e, h1, h3⟩
theorem runFE_ex {α σ : Type} {step : σ → α → Option σ} {g : GD} {body : M Fl} {xs : List α} {f : α → D} (P : Nat → σ → Ws.Env → Prop)
    (ht : ∀ (k : Nat) x m m' e, x ∈ xs → step m x = some m' → P k m e → ∃ e1, g (.pu (.tup [.int (k : Nat), f x])) e = some e1 ∧ NxP (P (k + 1) m') (body e1)) {m0 m : σ} (hr : runM step m0 xs = some m) {e0 : Ws.Env} (h0 : P 0 m0 e0) :
    ∃ e, loopF g body (enumD (xs.map f)) e0 = .ok .nx e ∧ P xs.length m e := by
  obtain ⟨e, h1, m1, h2, h3⟩ := loop_ex (g := g) (body := body) (items := enumD (xs.map f)) (j := 0) (fun k e => ∃ m1, runM step m1 (xs.drop k) = some m ∧ P k m1 e)
    (fun k x e hx ⟨m1, h1, h2⟩ => by
      rw [Nat.zero_add] at h1 h2
      simp only [enumD, List.getElem?_map, List.getElem?_zipIdx, Option.map_map] at hx
      obtain ⟨y, hy, rfl⟩ := Option.map_eq_some_iff.mp hx
      rw [runM_drop hy] at h1
      obtain ⟨m2, e1, e2⟩ := Option.bind_eq_some_iff.mp h1
      obtain ⟨e3, a, b, c, d⟩ := ht k y m1 m2 e (List.mem_of_getElem? hy) e1 h2
      exact ⟨e3, by simpa using a, b, c, m2, by rw [Nat.zero_add]; exact e2, by rw [Nat.zero_add]; exact d⟩) (e0 := e0) ⟨m0, by simpa using hr, h0⟩
  have hl : (enumD (xs.map f)).length = xs.length := by simp [enumD]
  rw [hl, Nat.zero_add] at h2 h3
  rw [List.drop_eq_nil_of_le (Nat.le_refl _)] at h2
  cases h2
  exact ⟨e, h1, h3⟩
end Ws

namespace Ws
open PySem L2
/-! ### repr of data, where no text is being written (A.guards = some []) -/
mutual
def D.py : D → Option PyData
  | .non => some .none
  | .bl b => some (.bool b)
  | .int i => some (.int i)
  | .str x => some (.str x)
  | .lst ds => (D.pys ds).map .list
  | .tup ds => (D.pys ds).map .tuple
  | _ => none
def D.pys : List D → Option (List PyData)
  | [] => some []
  | d :: ds => match D.py d, D.pys ds with
    | some x, some xs => some (x :: xs)
    | _, _ => none
end
theorem py_non : D.py .non = some .none := by rw [D.py]
theorem py_bl (b : Bool) : D.py (.bl b) = some (.bool b) := by rw [D.py]
theorem py_int (i : Int) : D.py (.int i) = some (.int i) := by rw [D.py]
theorem py_str (x : Str) : D.py (.str x) = some (.str x) := by rw [D.py]
theorem py_lst (ds : List D) : D.py (.lst ds) = (D.pys ds).map .list := by rw [D.py]
theorem py_tup (ds : List D) : D.py (.tup ds) = (D.pys ds).map .tuple := by rw [D.py]
theorem pys_nil : D.pys [] = some [] := by rw [D.pys]
theorem pys_cons (d : D) (ds : List D) : D.pys (d :: ds) = (match D.py d, D.pys ds with
    | some x, some xs => some (x :: xs)
    | _, _ => none) := by rw [D.pys]
theorem pys_cons_some {d : D} {ds : List D} {ps : List PyData} (h : D.pys (d :: ds) = some ps) : ∃ x xs, D.py d = some x ∧ D.pys ds = some xs ∧ ps = x :: xs := by
  rw [pys_cons] at h
  cases e1 : D.py d with
  | none => rw [e1] at h; cases h
  | some x =>
    cases e2 : D.pys ds with
    | none => rw [e1, e2] at h; cases h
    | some xs => rw [e1, e2] at h; cases h; exact ⟨x, xs, rfl, rfl, rfl⟩
section
variable {K : PySem.W.Frag} {Z Z' H H' : Hp} {v : V} {d : D}
mutual
theorem rep_dp : ∀ {v : V} {d : D} {p : PyData}, Rep K H v d → D.py d = some p → Dp K H v p
  | _, _, _, .non, e => by rw [py_non] at e; cases e; exact .non
  | _, _, _, .bl b, e => by rw [py_bl] at e; cases e; exact .bl b
  | _, _, _, .int i, e => by rw [py_int] at e; cases e; exact .int i
  | _, _, _, .str x, e => by rw [py_str] at e; cases e; exact .str x
  | _, _, _, .lst a r, e => by
    rw [py_lst] at e
    obtain ⟨ps, e1, rfl⟩ := map_some e
    exact .lst a (reps_dp r e1)
  | _, _, _, .tup a r, e => by
    rw [py_tup] at e
    obtain ⟨ps, e1, rfl⟩ := map_some e
    exact .tup a (reps_dp r e1)
  | _, _, _, .dct .., e => by rw [D.py] at e <;> first | cases e | (intros; simp)
  | _, _, _, .dcT .., e => by rw [D.py] at e <;> first | cases e | (intros; simp)
  | _, _, _, .ins .., e => by rw [D.py] at e <;> first | cases e | (intros; simp)
  | _, _, _, .ty .., e => by rw [D.py] at e <;> first | cases e | (intros; simp)
  | _, _, _, .any .., e => by rw [D.py] at e <;> first | cases e | (intros; simp)
theorem reps_dp : ∀ {vs : List V} {ds : List D} {ps : List PyData}, Reps K H vs ds → D.pys ds = some ps → DpAll K H vs ps
  | _, _, _, .nil, e => by rw [pys_nil] at e; cases e; exact .nil
  | _, _, _, .cons q r, e => by
    obtain ⟨x, xs, e1, e2, rfl⟩ := pys_cons_some e
    exact .cons (rep_dp q e1) (reps_dp r e2)
end
end
end Ws

namespace Ws
open PySem L2
mutual
theorem py_noDict : ∀ {d : D} {p : PyData}, D.py d = some p → p.hasDict = false
  | .non, p, e => by rw [py_non] at e; cases e; rfl
  | .bl b, p, e => by rw [py_bl] at e; cases e; rfl
  | .int i, p, e => by rw [py_int] at e; cases e; rfl
  | .str x, p, e => by rw [py_str] at e; cases e; rfl
  | .lst ds, p, e => by
    rw [py_lst] at e
    obtain ⟨ps, e1, rfl⟩ := map_some e
    simpa [PyData.hasDict] using pys_noDict e1
  | .tup ds, p, e => by
    rw [py_tup] at e
    obtain ⟨ps, e1, rfl⟩ := map_some e
    simpa [PyData.hasDict] using pys_noDict e1
  | .ty _, p, e => by rw [D.py] at e <;> first | cases e | (intros; simp)
  | .ref _, p, e => by rw [D.py] at e <;> first | cases e | (intros; simp)
  | .dct _, p, e => by rw [D.py] at e <;> first | cases e | (intros; simp)
  | .dcT _, p, e => by rw [D.py] at e <;> first | cases e | (intros; simp)
  | .ins _ _, p, e => by rw [D.py] at e <;> first | cases e | (intros; simp)
  | .any, p, e => by rw [D.py] at e <;> first | cases e | (intros; simp)
theorem pys_noDict : ∀ {ds : List D} {ps : List PyData}, D.pys ds = some ps → PyData.hasDictAll ps = false
  | [], _, e => by rw [pys_nil] at e; cases e; rfl
  | d :: ds, _, e => by
    obtain ⟨x, xs, e1, e2, rfl⟩ := pys_cons_some e
    simp [PyData.hasDictAll, py_noDict e1, pys_noDict e2]
end
/-- the text of a tree -/
def reprD : List D → Option D
  | [d] => match d.py with
    | some p => if p.showable = true ∧ p.depth ≤ 60 ∧ p.shown.length ≤ 16000000 then some (.str p.shown) else none
    | none => none
  | _ => none
def rReprD (K : PySem.W.Frag) : List V → Hp → VK → Prop := fun xs H Q => ∃ v p, xs = [v] ∧ Dp K H v p ∧ p.showable = true ∧ p.hasDict = false ∧ p.depth ≤ 60 ∧ p.shown.length ≤ 16000000 ∧ Q (.str p.shown) H
theorem calls_repr {K : PySem.W.Frag} : CallS K reprD (rReprD K) := by
  intro H vs ds z Q h e k
  unfold reprD at e
  split at e
  · rename_i d
    split at e
    · rename_i p ep
      split at e
      · rename_i hc
        cases e
        cases h with
        | cons q r =>
          cases r
          exact ⟨_, p, rfl, rep_dp q ep, hc.1, py_noDict ep, hc.2.1, hc.2.2, k _ fun _ => .str _⟩
      · cases e
    · cases e
  · cases e
theorem call_reprD {X : Cx} (hg : X.A.guards = some []) (hu : X.A.units + 64 < cLine) : CallR X (.builtin "repr") (rReprD X.K) := by
  intro pins s σ H xs us Q I r h
  obtain ⟨v, p, rfl, hd, hs, hn, hp, hz, q⟩ := h
  obtain ⟨u, rfl, ru⟩ := vals1 r
  have hsl := sizeLine_eq
  cases hd with
  | non => cases ru; exact PySem.P.repr_of_none ⟨.str _, H, I.tok _, ⟨_, rfl⟩, q⟩
  | bl b => cases ru; exact PySem.P.repr_of_bool ⟨.str _, H, I.tok _, ⟨_, rfl⟩, q⟩
  | int i =>
    obtain ⟨t, rfl⟩ := ru
    exact PySem.P.repr_of_int (by simpa [PyData.showable] using hs) ⟨.str _, H, I.tok _, ⟨_, rfl⟩, q⟩
  | str x =>
    obtain ⟨t, rfl⟩ := ru
    exact PySem.P.repr_of_str ⟨.str _, H, I.tok _, ⟨_, rfl⟩, q⟩ (Nat.le_trans hz (by omega))
  | @lst a ys ps ha hl =>
    cases ru
    obtain ⟨as, rr⟩ := Dp.reads I _ _ _ (Dp.lst ha hl) rfl
    exact repr_of_reads' rr hs (PyData.noDict_hsm hn) hg (by omega) (fun _ _ e => e) (fun h' u tk hk => ⟨.str _, H, I.kept hk, ⟨_, rfl⟩, q⟩) (by omega)
  | @tup a ys ps ha hl =>
    cases ru
    obtain ⟨as, rr⟩ := Dp.reads I _ _ _ (Dp.tup ha hl) rfl
    exact repr_of_reads' rr hs (PyData.noDict_hsm hn) hg (by omega) (fun _ _ e => e) (fun h' u tk hk => ⟨.str _, H, I.kept hk, ⟨_, rfl⟩, q⟩) (by omega)
theorem b_repr {X : Cx} (hg : X.A.guards = some []) (hu : X.A.units + 64 < cLine) : BltS X (.builtin "repr") reprD := ⟨_, call_reprD hg hu, calls_repr⟩
end Ws

namespace Ws
open PySem L2
/-! ### promises of defs for callers that write no text just now (A.guards = some []) -/
structure FnG (P : Program) (w : World) (K : PySem.W.Frag) (mg : Str → Option Value) (base : Heap) (CX : CXT) (k : Nat) (f : Addr) (fd : FuncData) (ps : List Str) (sp : Sp) : Prop where
  len : ∀ vs H Q E, sp vs H Q E → vs.length = ps.length
  run : ∀ (A : Around) (outer : List PySem.Env) (s : Shared) (H : Hp) (args : Args) (us : List Value) (vs : List V) (Q : VK) (E : XK), A.guards = some [] → Room k A → Env0 P w K mg base A outer s H → BindsTo s fd args (ps.zip us) → Vals vs us → sp vs H Q E →
    codeAny (model P w) A (.call (.ref f) args) (CR CX outer P w H s Q E) s
section
variable {P : Program} {w : World} {K : PySem.W.Frag} {mg : Str → Option Value} {base : Heap} {CX : CXT} {k : Nat} {f : Addr} {fd : FuncData} {ps N : List Str} {sp : Sp}
theorem FnG.of (F : FnOk P w K mg base CX k f fd ps sp) : FnG P w K mg base CX k f fd ps sp := ⟨F.len, fun A outer s H args us vs Q E _ => F.run A outer s H args us vs Q E⟩
/-- a def entered: the frame is laid, its body runs, its answer comes out -/
theorem enterG {x qual : Str} {st : Stmt} (F : Fun K x qual st f fd) (S : FnScope N ps (defScope st)) (len : ∀ vs H Q E, sp vs H Q E → vs.length = ps.length)
    (hbody : ∀ (cdv : Value) (A : Around) (outer : List PySem.Env) (s : Shared) (H : Hp) (vs : List V) (Q : VK) (E : XK), A.guards = some [] → Room k (A.deeper (PyProof.Rows.envOfC qual (defScope st) s.heap.objs.size f cdv)) → sp vs H Q E →
      ∃ t, PSs (cxOf CX0 P w K mg base N qual (defScope st) f cdv A outer s H E).nox (defBody st) t ∧ t { nx := fun _ H' => Q .non H', rt := Q } (L2.start N vs) H) : FnG P w K mg base CX0 (k + 1) f fd ps sp := by
  obtain ⟨oc, od, kV, doc, pm, an, cdv, ct, osl, rfl, lk, hcd⟩ := F.ex
  refine ⟨len, fun A outer s H args us vs Q E hg hr e0 hb r hsp => ?_⟩
  have hin : K.In s.heap := e0.mod.kin.keeps fun b o e => (e0.bs b o e).1
  have hlim : s.heap.NoLimit := e0.mod.nolimit.keeps fun b o e => (e0.bs b o e).1
  refine codeAny_call_function hr.depth (hin _ _ lk) rfl S.co S.gen rfl (PySem.W.codeRec_of hin hcd) (hb _ _ _ _ ?_)
  refine wpAny_newFunctionEnv_cells S.kind (fun ⟨n, v⟩ hy => ?_) fun env he s1 x => ?_
  · rcases S.par n (List.of_mem_zip hy).1 with q | q
    · exact .inl q
    · exact .inr ⟨q, PySem.W.cellsFrom_some _ _ _ (.inl q)⟩
  · subst he
    obtain ⟨t, ht, hq⟩ := hbody cdv A outer s H vs Q E hg (hr.deeper _) hsp
    have I : Inv (cxOf CX0 P w K mg base N qual (defScope st) f cdv A outer s H E) [] (L2.start N vs) H s1 := inv_start S hr.hd e0 (len _ _ _ _ hsp) r x
    refine ⟨hlim.keeps x.toInCall.keep, codeAny_func (wpAny_mono (ht.nox.run [] s1 (L2.start N vs) H _ I hq) (fun fl s' hs => ?_) fun e s' hs => hs)⟩
    cases fl with
    | ret u => obtain ⟨v, σ', H', J, rv, q⟩ := hs; exact ⟨v, H', J.os, J.bare, J.base, J.hok, rv, q⟩
    | next => obtain ⟨σ', H', J, q⟩ := hs; exact ⟨.non, H', J.os, J.bare, J.base, J.hok, rfl, q⟩
    | brk => obtain ⟨_, _, _, q⟩ := hs; exact q.elim
    | cont => obtain ⟨_, _, _, q⟩ := hs; exact q.elim
theorem okVG {x qual : Str} {st : Stmt} {f : Addr} {fd : FuncData} {N ps : List Str} {k n j : Nat} {io : Nat → Bool} {m : M Fl} (F : Fun K x qual st f fd) (S : FnScope N ps (defScope st)) (hn : ps.length = n) (hN : N.length = n + j)
    (hbody : ∀ (cdv : Value) (A : Around) (outer : List PySem.Env) (s : Shared) (H : Hp) (E : XK), A.guards = some [] → Room k (A.deeper (PyProof.Rows.envOfC qual (defScope st) s.heap.objs.size f cdv)) →
      PSs (cxOf CX0 P w K mg base N qual (defScope st) f cdv A outer s H E).nox (defBody st) (tS K E0 io m)) : FnG P w K mg base CX0 (k + 1) f fd ps (spV K n (fden n j io m)) := by
  refine enterG F S (fun vs H Q E h => by rw [h.1, hn]) (fun cdv A outer s H vs Q E hg hr h => ?_)
  obtain ⟨hlen, Z, τ, T, os, F0, ok, l, hl, post⟩ := h
  refine ⟨_, hbody cdv A outer s H E hg hr, ?_⟩
  have hj : N.length - vs.length = j := by omega
  have st0 : L2.start N vs = vs.map some ++ List.replicate j none := by unfold L2.start; rw [hj]
  rw [st0]
  -- the arguments come to the bottom, under what the callers bear
  have okb : Ok K Z H (τ ++ (vs.map some ++ List.replicate j none)) (T ++ (os.map some ++ List.replicate j none)) F0 := by
    obtain ⟨F1, F2, a, b, c⟩ := ok.sl.split (by simpa using l)
    have n0 := slots_none (K := K) (Z := Z) (H := H) (List.replicate j (none : Option V))
    rw [List.length_replicate] at n0
    have a2 := a.app (G := F1) n0 fun b => by simp
    exact ok.dn (b.app a2 fun b => by have := c b; omega) fun b => Nat.le_refl _
  -- at the end
  have fin : ∀ {v : V} {r : O} {σ' : L2.St} {e : Env} {H' Z' : Hp} {F' : Fp}, Pin io (vs.map some ++ List.replicate j none) σ' → Ok K Z' H' (some v :: (τ ++ σ')) (some r :: (T ++ e)) F' → ∃ G, vs.length = (keepP io n e).length ∧ Ok K Z' H' (some v :: (vs.map some ++ τ)) (some r :: (keepP io n e ++ T)) G := by
    intro v r σ' e H' Z' F' p ok'
    have kl : vs.length = (keepP io n e).length := by simp [keepP, hlen]
    cases ok'.sl with
    | @so _ _ _ _ A B _ q r' i =>
      obtain ⟨F1, F2, a, b, c⟩ := r'.split hl
      have el : e.length = n + j := by rw [← b.len, p.1]; simp [hlen]
      obtain ⟨G, g1, g2, _⟩ := slots_keep (vs := vs) n b (fun i' hi hio => by rw [p.2 i' hio, map_get (by omega)]) (by omega) (by omega)
      rw [List.take_of_length_le (by omega)] at g1
      exact ⟨F', kl, ok'.dn (.so (F2 := fun b => G b + F1 b) q (g1.app a fun b => Nat.le_refl _) fun b => by have := i b; have := c b; have := g2 b; show A b + (G b + F1 b) ≤ F' b; omega) fun b => Nat.le_refl _⟩
  refine ⟨Z, τ, T, _, F0, okb, hl, ?_⟩
  unfold fden at post
  cases em : m (os.map some ++ List.replicate j none) with
  | no => rw [em] at post; exact post
  | ex x e => rw [em] at post; exact post.elim
  | ok fl e =>
    rw [em] at post
    cases fl with
    | nx =>
      intro σ' H' Z' F' s' p ok'
      obtain ⟨G, l2, ok2⟩ := fin (v := .non) (r := .pu .non) p (ok'.pure .non)
      exact post .non H' Z' G s' l2 ok2
    | rt r =>
      intro v σ' H' Z' F' s' p ok'
      obtain ⟨G, l2, ok2⟩ := fin p ok'
      exact post v H' Z' G s' l2 ok2
    | bk => exact post.elim
    | ct => exact post.elim
end
section
variable {X : Cx} {E : XK} {k n : Nat} {f fa : Addr} {fd : FuncData} {ps : List Str} {sp : Sp} {x : Str} {p pos : Pos} {e : Expr} {es : List Expr} {ta : TA} {li : List (Option Nat)} {ms : M (List O)} {fn : FD}
theorem runG {pins : List (Addr × Obj)} {σ : L2.St} {H : Hp} {s : Shared} {Q : VK} {us : List Value} {vs : List V} (F : FnG X.prog X.w X.K X.mg X.base CX0 k f fd ps sp) (hgd : X.A.guards = some []) (hr : Room k X.A) (hb : Binds X.K fd ps [])
    (I : Inv X pins σ H s) (r : Vals vs us) (h : sp vs H Q E0) : wpAny (model X.prog X.w) X.A (call (.ref f) us) (EP X pins σ Q) X.xe s := by
  have bind := hb s us I.kIn (by rw [List.append_nil, ← r.length]; exact F.len _ _ _ _ h)
  rw [List.append_nil] at bind
  refine wpAny_call (codeAny_mono (F.run X.A X.stack s H ⟨us, []⟩ us vs Q E0 hgd hr I.env0 bind r h) fun r s' hq => ?_)
  match r, hq with
  | .error e, hq => exact pass0 pins σ H s e s' I hq
  | .ok (.ret u), hq => exact I.after hq
/-- what a caller needs of such a def -/
structure DefG (P : Program) (w : World) (K : PySem.W.Frag) (mg : Str → Option Value) (base : Heap) (k : Nat) (x : Str) (n : Nat) (fn : FD) : Prop where
  ex : ∃ (fa : Addr) (fd : FuncData) (ps : List Str), FnG P w K mg base CX0 k fa fd ps (spV K n fn) ∧ mg x = some (.ref fa) ∧ PySem.W.keepIn K (.ref fa) = true ∧ Binds K fd ps []
theorem DefV.g {P : Program} {w : World} {K : PySem.W.Frag} {mg : Str → Option Value} {base : Heap} (h : DefV P w K mg base k x n fn) : DefG P w K mg base k x n fn := let ⟨fa, fd, ps, F, r⟩ := h.ex; ⟨fa, fd, ps, .of F, r⟩
theorem v_callG (h : DefG X.prog X.w X.K X.mg X.base k x n fn) (hgd : X.A.guards = some []) (hr : Room k X.A) (ha : VA X E0 (e :: es) li ms) (hl : li.length = n := by rfl) (hg : Gl X x := by rfl) (hdb : (x == ("__debug__" : Str)) = false := by decide)
    (he : starEach (e :: es) X.env = (false, eval e X.env) :: starEach es X.env := by rfl) (hpl : (backTo pos (starEach es X.env)).any (·.1) = false := by rfl) : VE X E0 (.Call (.Name x p) (e :: es) [] pos) (eCallF fn li ms) := by
  obtain ⟨fa, fd, ps, F, hm, hk, hb⟩ := h.ex
  refine ⟨fun pins s σ H Q I h => ?_⟩
  refine wpAny_Call_Name_kw (ld_glob I hg hm ?_ hdb)
  refine PySem.W.callWith_K (h₀ := X.base) I.ok.mod.kin hk (thn (ha.run pos pins s σ H _ I (callF_imp (E := E0) (io := li) hl h)) fun us s1 ⟨vs, H1, I1, r, q⟩ => ⟨I1.kIn, ?_⟩) he hpl
  exact runG F hgd hr hb I1 r (by simpa using q)
end
end Ws

namespace Ws
open PySem L2 PySem.Spec
/-! ### the top, for such a promise -/
open PyProof.Rows in
theorem topG {P : Program} {w : World} {K : PySem.W.Frag} {mg mb : Str → Option Value} {k : Nat} {fa a : Addr} {fd : FuncData} {x : Str} {sp : Sp} {s : Shared} {vs : List Value} {ns : List Int}
    (KX : K.In s.heap) (hns : s.heap.Ns mainGlobals mg) (hb : s.heap.Ns builtinsNs mb) (hbb : ∀ x : Str, x ≠ "__name__" → mb x = bootBuiltins x) (hlim : s.heap.NoLimit) (hg : s.gens = #[])
    (ha : s.heap.get? a = some { cls := .type "list", data := .seq vs.toArray }) (hi : IntsAre vs ns) (hl : ns.length ≤ sizeLine) (hr : Room k callerA)
    (F : ∀ base : Heap, K.In base → base.Ns mainGlobals mg → FnG P w K mg base CX0 k fa fd [x] sp) (hbind : ∀ (s : Shared) (u : Value), BindsTo s fd ⟨[u], []⟩ [(x, u)])
    (hsp : ∀ H : Hp, Only H → SqL K H a (ns.map V.int) → sp [.ref a] H (fun v _ => v = .bl true) fun _ _ _ => False) :
    codeAny (model P w) callerA (.call (.ref fa) ⟨[.ref a], []⟩) (fun r s' => r = .ok (.ret (.bool true)) ∧ OldK s.heap s'.heap ∧ s'.os = s.os ∧ AllBare s'.gens) s := by
  have rv := vals_ints hi
  have run : ∀ H : Hp, (∀ b, H b = none ∨ (b = a ∧ K.lookup a = none ∧ ∃ o, H b = some (.frz o (.lst (ns.map V.int))))) → SqL K H a (ns.map V.int) → HOk P w H s.heap →
      codeAny (model P w) callerA (.call (.ref fa) ⟨[.ref a], []⟩) (fun r s' => r = .ok (.ret (.bool true)) ∧ OldK s.heap s'.heap ∧ s'.os = s.os ∧ AllBare s'.gens) s := by
    intro H hH hS hok
    have ns' : ∀ {b : Addr} {m : Str → Option Value}, s.heap.Ns b m → (hidT s.heap H).Ns b m := fun {b m} ⟨o, es, ep, e, d, r⟩ => by
      refine ⟨o, es, ep, hidT_get e ?_, d, r⟩
      rcases hH b with h | ⟨rfl, _, _⟩
      · exact h
      · rw [ha] at e
        cases e
        cases d
    have kin : K.In (hidT s.heap H) := fun b o e => hidT_get (KX b o e) (by
      rcases hH b with h | ⟨rfl, h, _⟩
      · exact h
      · rw [h] at e; cases e)
    have env : Env0 P w K mg (hidT s.heap H) callerA [] s H := by
      obtain ⟨mc, c1, c2⟩ := hlim
      exact ⟨rfl, ⟨kin, ns' hns, ⟨mb, ns' hb, hbb⟩, ⟨mc, ns' c1, c2⟩⟩, fun b o e => of_hidT e, Nat.le_of_eq (hidT_size _ _), trivial, fun b hb => absurd (show b ∈ ([] : List Addr) from hb) List.not_mem_nil, hok, .of_eq hg⟩
    have only : Only H := fun b => (hH b).imp id fun ⟨_, _, o, e⟩ => ⟨o, _, e⟩
    refine codeAny_mono ((F _ kin (ns' hns)).run callerA [] s H _ [.ref a] [.ref a] _ _ rfl hr env (hbind s (.ref a)) (.cons rfl .nil) (hsp H only hS)) fun r s' h => ?_
    match r, h with
    | .error e, h => exact (show False from h).elim
    | .ok (.ret u), ⟨v, H', os, bare, un, hok', rr, q⟩ =>
      have q : v = .bl true := q
      subst q
      cases (show u = Value.bool true from rr)
      refine ⟨rfl, OldK.of_keep fun b o e => ?_, os, bare⟩
      rcases hH b with h | ⟨rfl, _, o', h⟩
      · exact un.keep b o e h (fun z => nomatch (show b ∈ ([] : List Addr) from z)) (fun z => nomatch (show b ∈ ([] : List Addr) from z))
      · have e1 := (hok _ _ h).1
        have e2 := (hok' _ _ (un.frzs _ _ _ h)).1
        rw [e] at e1
        cases e1
        exact e2
  cases hk : K.lookup a with
  | some o =>
    have e := KX a o hk
    rw [ha] at e
    cases e
    exact run (fun _ => none) (fun _ => .inl rfl) (.inr ⟨_, vs.toArray, _, hk, rfl, rfl, rfl, by rw [List.size_toArray, hi.length]; exact hl, by simpa using rv⟩) fun b u z => nomatch (show (none : Option HO) = some u from z)
  | none =>
    have ob : ObjOk P w (fun b => if b = a then some (.frz { cls := .type "list", data := .seq vs.toArray } (.lst (ns.map V.int))) else none) s.heap a (.frz { cls := .type "list", data := .seq vs.toArray } (.lst (ns.map V.int))) :=
      ⟨ha, by rw [List.length_map]; exact hl, vs, _, rv, ha⟩
    refine run (fun b => if b = a then some (.frz { cls := .type "list", data := .seq vs.toArray } (.lst (ns.map V.int))) else none) (fun b => ?_) (.inl (.inr ⟨_, if_pos rfl⟩)) fun b u z => ?_
    · by_cases h : b = a
      · exact .inr ⟨h, hk, _, if_pos h⟩
      · exact .inl (if_neg h)
    · by_cases h : b = a
      · subst h
        cases (if_pos rfl).symm.trans z
        exact ob
      · cases (if_neg h).symm.trans z
/-- the walk of a law, from such a promise -/
theorem walkG {l : PySem.W.OpenLaw} {n k : Nat} {q : Program} {loose : List Str} {XP : (Str → Option Value) → Heap → Prop} {YP : World → Heap → Prop} {d : DefRec} {K : Params → PySem.W.Frag} {sp : World → Sp} {x : Str}
    (hn : l.most = some n) (hn2 : n ≤ sizeLine) (hdf : d.params.defaults = []) (hr : Room k callerA) (hY : ∀ (w : World) (h : Heap), YP w h → (K w.params).In h)
    (F : ∀ (w : World) (mg : Str → Option Value) (fa : Addr) (h : Heap), (K w.params).In h → h.Ns mainGlobals mg → mg d.name = some (.ref fa) →
      ∃ fd : FuncData, (∀ (s : Shared) (u : Value), BindsTo s fd ⟨[u], []⟩ [(x, u)]) ∧ ∀ base : Heap, (K w.params).In base → base.Ns mainGlobals mg → FnG l.prog w (K w.params) mg base CX0 k fa fd [x] (sp w))
    (hsp : ∀ (w : World) (H : Hp) (a : Addr) (ns : List Int), ns.length ≤ n → Only H → SqL (K w.params) H a (ns.map V.int) → sp w [.ref a] H (fun v _ => v = .bl true) fun _ _ _ => False) :
    PySem.W.WalkO q loose XP YP l.row.toRowW d [] (fun f vs => PySem.call f vs) := by
  refine Att.attach_call hn hdf fun w s₀ s₁ mg mb fa o pm cd doc a vs ns G Y ho hd hcd hmg hobj hints hlen hg => ?_
  obtain ⟨fd, hb, hF⟩ := F w mg fa _ (hY w _ Y) G.T.g hmg
  exact topG (hY w _ Y) G.T.g G.T.b G.T.builtins G.T.nolimit hg hobj hints (Nat.le_trans hlen hn2) hr hF hb fun H hO hS => hsp w H a ns hlen hO hS
end Ws

namespace Ws
open PySem L2
/-! ### d.get(k); isinstance(x, (T1, T2)); d.update(e) -/
section
variable {X : Cx} {E : XK} {i : Nat} {o e : Expr} {rs : List PSt} {apos cpos : Pos} {kb : BD}
theorem x_get1 (hu : X.A.units + 1 < cLine) (ho : VPl X o i rs) (he : VBx X e kb) (hm : M1 X o "get" apos e cpos := by exact ⟨rfl, rfl, rfl, rfl⟩) : VBx X (.Call (.Attribute o "get" apos) [e] [] cpos) (bGet2 i rs kb (bC .non)) :=
  (pe_dget1 hu ho.pe he hm).weak fun σ H Q h => bGet2_imp (tx := tC .non) ho.ok (fun _ _ _ h => h) (fun _ _ _ h => bC_imp (fun _ => .non) h) h
end
def rUpd : V → List V → Hp → VK → Prop := fun x xs H Q => ∃ (a b : Addr) (kvs more : List (L2.Key × V)), x = .ref a ∧ xs = [.ref b] ∧ a ≠ b ∧ H a = some (.dK kvs) ∧ H b = some (.dK more) ∧ kvs.length + more.length ≤ 100000 ∧ Q .non (upd H a (.dK (mergeK kvs more)))
theorem mt_update {X : Cx} : MtR X "dict.update" rUpd := by
  intro pins s σ H x xs v us Q I rx rxs h
  obtain ⟨a, b, kvs, more, rfl, rfl, hab, ha, hb, hz, q⟩ := h
  cases rx
  obtain ⟨u, rfl, ru⟩ := rxs.one
  cases ru
  have hsl := sizeLine_eq
  obtain ⟨z1, h1, vs1, r1, d1⟩ := dk_of I.hok ha
  obtain ⟨z2, h2, vs2, r2, d2⟩ := dk_of I.hok hb
  have l1 : kvs.length = vs1.length := r1.length
  have l2 : more.length = vs2.length := r2.length
  refine call_meetsIn PySem.F.slot_dict_update d1.typeIs PySem.F.entry_dict_update (PySem.F.args_dict_update_2 _ _) (meets_dict_update (mixKind X.prog X.w) a b hab h2) ⟨vs1, vs2, d1, d2, by omega, fun h' dd' _ hs => ?_⟩
  have hzz : (mergeK kvs more).length ≤ sizeLine := by have := length_mergeK more kvs; omega
  have he : ∃ q, h'.get? a = some q := let ⟨q, _, _, hq, _⟩ := dd'; ⟨q, hq⟩
  exact ⟨.non, _, d_write I (by rw [ha]; exact True.intro) hs he (dk_new hzz h1 (r2.merge r1) dd'), rfl, q⟩
end Ws

namespace Ws
open PySem L2
/-! ### isinstance(x, (T1, T2)) -/
def kitTB (k : String) : List String → Option Bool
  | [] => some false
  | n :: ns => match kitB k n with
    | some true => some true
    | some false => kitTB k ns
    | none => none
section
variable {K : PySem.W.Frag} {E : XK} {Z Z' H H' : Hp} {σ σ' σ1 τ ρ : L2.St} {env env' T R : Ws.Env} {F G A : Fp} {Q Q' : VK} {v : V} {o o1 : O} {d : D}
theorem kit_tys {k : String} : ∀ {ns : List String} {b : Bool}, kitTB k ns = some b → PySem.W.kitAny K (.type k) (ns.map .type) = some b
  | [], _, e => by cases e; rfl
  | n :: ns, b, e => by
    unfold kitTB at e
    split at e
    · rename_i e1
      cases e
      show (match PySem.W.kitOne K (.type k) (.type n) with
        | some true => some true
        | some false => PySem.W.kitAny K (.type k) (ns.map .type)
        | none => none) = some true
      rw [kit_ty e1]
    · rename_i e1
      show (match PySem.W.kitOne K (.type k) (.type n) with
        | some true => some true
        | some false => PySem.W.kitAny K (.type k) (ns.map .type)
        | none => none) = some b
      rw [kit_ty e1]
      exact kit_tys e
    · cases e
def eIsiT (ns : List String) (a : BD) : M O := fun env => match (a env).bind fun d => d.kind.bind fun k => kitTB k ns with
  | some b => .ok (.pu (.bl b)) env
  | none => .no
@[simp] theorem eIsiT.c (ns : List String) (a : BD) {z : Option O} {zs : Ws.Env} : eIsiT ns a (z :: zs) = (match (a (z :: zs)).bind fun d => d.kind.bind fun k => kitTB k ns with
  | some b => .ok (.pu (.bl b)) (z :: zs)
  | none => .no) := rfl
theorem isiT_imp {n1 n2 : String} {a : BD} {σ : L2.St} {H : Hp} {Q : VK} (h : tE K E (eIsiT [n1, n2] a) σ H Q) : tCB (rIsiT K) (tCons (tR K a) (tCons (tTup (tCons (tC (.ty n1)) (tCons (tC (.ty n2)) tNil))) tNil)) σ H Q := by
  obtain ⟨Z, τ, T, env, F, ok, hl, post⟩ := h
  unfold eIsiT at post
  split at post
  · rename_i b e
    obtain ⟨d, e1, e2⟩ := Option.bind_eq_some_iff.mp e
    obtain ⟨k, e3, e4⟩ := Option.bind_eq_some_iff.mp e2
    refine ⟨Z, τ, T, env, F, d, ok, hl, e1, fun v q => ⟨by rw [sizeLine_eq]; show 2 ≤ 16777216; omega, fun p hp => ?_⟩⟩
    have sm : Same H (upd H p (.tup [.ty n1, .ty n2])) := Same.upd hp
    refine ⟨v, p, [.ty n1, .ty n2], .type k, [.type n1, .type n2], b, rfl, upd_same, .cons (.ty n1) (.cons (.ty n2) .nil), kind_rep (q.mono (le_of_same sm)) e3, kit_tys e4, ?_⟩
    exact post _ _ Z F (Same.refl Z) ((ok.same sm).pure (.bl b))
  · exact post.elim
end
section
variable {X : Cx} {E : XK} {e : Expr} {ba : BD} {x q1 q2 : Str} {p1 p2 p3 pos tpos : Pos} {kk : Nat}
theorem v_isiT {n1 n2 : String} (hm : X.mg x = none) (hv : bootBuiltins x = some (.builtin "isinstance")) (hq1 : X.mg q1 = none) (hqv1 : bootBuiltins q1 = some (.type n1)) (hq2 : X.mg q2 = none) (hqv2 : bootBuiltins q2 = some (.type n2)) (ha : VR X e ba)
    (hg : Gl X x := by rfl) (hg1 : Gl X q1 := by rfl) (hg2 : Gl X q2 := by rfl) (hn : x ≠ "__name__" := by decide) (hdb : (x == ("__debug__" : Str)) = false := by decide) (hn1 : q1 ≠ "__name__" := by decide) (hdb1 : (q1 == ("__debug__" : Str)) = false := by decide) (hn2 : q2 ≠ "__name__" := by decide) (hdb2 : (q2 == ("__debug__" : Str)) = false := by decide)
    (h1 : starEach [.Name q1 p2, .Name q2 p3] X.env = (false, eval (.Name q1 p2) X.env) :: starEach [.Name q2 p3] X.env := by rfl) (h2 : starEach [.Name q2 p3] X.env = (false, eval (.Name q2 p3) X.env) :: starEach [] X.env := by rfl)
    (h3 : starEach [.Tuple [.Name q1 p2, .Name q2 p3] kk tpos] X.env = (false, eval (.Tuple [.Name q1 p2, .Name q2 p3] kk tpos) X.env) :: starEach [] X.env := by rfl)
    (he : starEach (e :: [.Tuple [.Name q1 p2, .Name q2 p3] kk tpos]) X.env = (false, eval e X.env) :: starEach [.Tuple [.Name q1 p2, .Name q2 p3] kk tpos] X.env := by rfl) (hpl : (backTo pos (starEach [.Tuple [.Name q1 p2, .Name q2 p3] kk tpos] X.env)).any (·.1) = false := by rfl) :
    VE X E (.Call (.Name x p1) [e, .Tuple [.Name q1 p2, .Name q2 p3] kk tpos] [] pos) (eIsiT [n1, n2] ba) :=
  (pe_callB call_isiT hg hm hv (pa_cons ha (pa_cons (pe_tup (pa_cons (pe_bltn hg1 hq1 hqv1 (v := .ty n1) rfl hn1 hdb1) (pa_cons (pe_bltn hg2 hq2 hqv2 (v := .ty n2) rfl hn2 hdb2) pa_nil h2) h1)) pa_nil h3) he) hn hdb he hpl).weak fun _ _ _ => isiT_imp
end
end Ws

namespace Ws
open PySem L2
/-! ### C(e, .., k = v) and C(e, ..) where the last one is left to its default -/
section
variable {K : PySem.W.Frag} {E : XK} {Z Z' H H' : Hp} {σ σ' σ1 τ ρ : L2.St} {env env' T R : Ws.Env} {F G A : Fp} {Q Q' : VK} {v : V} {o o1 : O} {d : D}
theorem sl_rot : ∀ {us : List V} {xs : List O} {F : Fp}, us.length = xs.length → RepSl K Z H (some v :: (us.map some ++ σ)) (some o :: (xs.map some ++ env)) F → RepSl K Z H ((us ++ [v]).map some ++ σ) ((xs ++ [o]).map some ++ env) F
  | [], [], _, _, h => h
  | u :: us, x :: xs, G, hl, h => by
    cases h with
    | @so _ _ _ _ A1 A2 _ q r i =>
      cases r with
      | @so _ _ _ _ B1 B2 _ qu r2 i2 =>
        exact .so (F2 := fun b => A1 b + B2 b) qu (sl_rot (by simpa using hl) (.so q r2 fun b => Nat.le_refl _)) fun b => by have := i b; have := i2 b; show B1 b + (A1 b + B2 b) ≤ G b; omega
theorem Ok.rotR {us : List V} {xs : List O} (hl : us.length = xs.length) (ok : Ok K Z H (some v :: (us.map some ++ σ)) (some o :: (xs.map some ++ env)) F) : Ok K Z H ((us ++ [v]).map some ++ σ) ((xs ++ [o]).map some ++ env) F := ⟨ok.sub, sl_rot hl ok.sl, ok.le, ok.own, ok.there⟩
theorem IoOk.snoc : ∀ {li : List (Option Nat)} {us : List V}, IoOk σ li us → IoOk σ (li ++ [none]) (us ++ [v])
  | _, _, .nil => .val .nil
  | _, _, .val i => .val i.snoc
  | _, _, .lent e i => .lent e i.snoc
/-- the last argument is the default d -/
def eMakeD (cn : Str) (f : FD) (li : List (Option Nat)) (ms : M (List O)) (d : D) : M O := fun env => (ms env).bind fun xs e => makeK (li ++ [none]) e (f (.ob cn [] :: (xs ++ [.pu d])))
@[simp] theorem eMakeD.c (cn : Str) (f : FD) (li : List (Option Nat)) (ms : M (List O)) (d : D) {z : Option O} {zs : Ws.Env} : eMakeD cn f li ms d (z :: zs) = ((ms (z :: zs)).bind fun xs e => makeK (li ++ [none]) e (f (.ob cn [] :: (xs ++ [.pu d])))) := rfl
theorem makeD_imp {C : Addr} {cn : Str} {f : FD} {n : Nat} {li : List (Option Nat)} {ms : M (List O)} {u : V} {σ : L2.St} {H : Hp} {Q : VK} (hu : ∀ Z, Rep K Z u d) (cl : ClsN K cn C) (hn : li.length = n) (h : tE K E (eMakeD cn f li ms d) σ H Q) : tMake C (spV K (n + 2) f) [u] E (tL K E li ms) σ H Q := by
  obtain ⟨Z, τ, T, env, F, ok, hl, post⟩ := h
  refine ⟨Z, τ, T, env, F, ok, hl, (stepL (ρ := []) (R := []) rfl post).imp fun us H1 ⟨Z1, F1, xs, e1, s1, l1, io1, ok1, post1⟩ => ?_⟩
  intro x dx hx hdx hne
  exact make_run (n := n + 1) (li := li ++ [none]) cl (by simp [hn]) hl (Ok.rotR l1 (ok1.pure (hu Z1))) (by simp [l1]) io1.snoc post1 x dx hx hdx hne
/-- the last argument by its name -/
def eMakeW (cn : Str) (f : FD) (li : List (Option Nat)) (ms : M (List O)) (m : M O) : M O := fun env => (ms env).bind fun xs e => (m e).bind fun y e2 => makeK (li ++ [none]) e2 (f (.ob cn [] :: (xs ++ [y])))
@[simp] theorem eMakeW.c (cn : Str) (f : FD) (li : List (Option Nat)) (ms : M (List O)) (m : M O) {z : Option O} {zs : Ws.Env} : eMakeW cn f li ms m (z :: zs) = ((ms (z :: zs)).bind fun xs e => (m e).bind fun y e2 => makeK (li ++ [none]) e2 (f (.ob cn [] :: (xs ++ [y])))) := rfl
theorem makeW_imp {C : Addr} {cn : Str} {f : FD} {n : Nat} {li : List (Option Nat)} {ms : M (List O)} {m : M O} {σ : L2.St} {H : Hp} {Q : VK} (cl : ClsN K cn C) (hn : li.length = n) (h : tE K E (eMakeW cn f li ms m) σ H Q) :
    tMakeK C n 1 (spV K (n + 2) f) (fun vs zs => vs ++ zs) E (tL K E li ms) (tCons (tE K E m) tNil) σ H Q := by
  obtain ⟨Z, τ, T, env, F, ok, hl, post⟩ := h
  refine ⟨Z, τ, T, env, F, ok, hl, (stepL (ρ := []) (R := []) rfl post).imp fun us H1 ⟨Z1, F1, xs, e1, s1, l1, io1, ok1, post1⟩ => ?_⟩
  have okA : Ok K Z1 H1 ((us.map some ++ τ) ++ σ) ((xs.map some ++ T) ++ e1) F1 := by
    rw [List.append_assoc, List.append_assoc]; exact ok1
  refine ⟨Z1, us.map some ++ τ, xs.map some ++ T, e1, F1, okA, by simp [l1, hl], (stepE (ρ := us.map some) (R := xs.map some) (by simp [l1]) post1).imp fun v H2 ⟨Z2, F2, y, e2, s2, ok2, post2⟩ => ?_⟩
  refine ⟨by rw [← hn]; exact io1.length, rfl, fun x dx hx hdx hne => ?_⟩
  exact make_run (n := n + 1) (li := li ++ [none]) cl (by simp [hn]) hl (Ok.rotR l1 ok2) (by simp [l1]) io1.snoc post2 x dx hx hdx hne
end
section
variable {X : Cx} {k n : Nat} {x : Str} {p pos kpos : Pos} {e a : Expr} {es : List Expr} {li : List (Option Nat)} {ms : M (List O)} {m : M O} {fn : FD} {d : D} {nm : Str}
/-- C(..) of n arguments, behind which its default d stands -/
structure MakeD (P : Program) (w : World) (K : PySem.W.Frag) (mg : Str → Option Value) (base : Heap) (k : Nat) (x : Str) (n : Nat) (d : D) (fn : FD) : Prop where
  ex : ∃ (C fa : Addr) (fd : FuncData) (ps : List Str) (u : V) (u' : Value), FnOk P w K mg base CX0 k fa fd ps (spV K (n + 2) fn) ∧ Mk K C fa ∧ mg x = some (.ref C) ∧ ClsN K x C ∧ Binds K fd ps [u'] ∧ RelV u u' ∧ ∀ Z, Rep K Z u d
/-- C(..) of n arguments and one by its name -/
structure MakeW (P : Program) (w : World) (K : PySem.W.Frag) (mg : Str → Option Value) (base : Heap) (k : Nat) (x nm : Str) (n : Nat) (fn : FD) : Prop where
  ex : ∃ (C fa : Addr) (fd : FuncData) (ps : List Str), FnOk P w K mg base CX0 k fa fd ps (spV K (n + 2) fn) ∧ Mk K C fa ∧ mg x = some (.ref C) ∧ ClsN K x C ∧ KBn K fd ps (n + 1) [nm] (fun us ws => us ++ ws) (fun vs zs => vs ++ zs)
theorem v_makeD (h : MakeD X.prog X.w X.K X.mg X.base k x n d fn) (hr : Room (k + 1) X.A) (ha : VA X E0 (e :: es) li ms) (hl : li.length = n := by rfl) (hg : Gl X x := by rfl) (hdb : (x == ("__debug__" : Str)) = false := by decide)
    (he : starEach (e :: es) X.env = (false, eval e X.env) :: starEach es X.env := by rfl) (hpl : (backTo pos (starEach es X.env)).any (·.1) = false := by rfl) : VE X E0 (.Call (.Name x p) (e :: es) [] pos) (eMakeD x fn li ms d) := by
  obtain ⟨C, fa, fd, ps, u, u', F, M, hm, cl, hb, ru, hu⟩ := h.ex
  exact (pe_make M F hr hg hm hb (.cons ru .nil) pass0 ha hdb he hpl).weak fun _ _ _ => makeD_imp hu cl hl
theorem v_makeW (h : MakeW X.prog X.w X.K X.mg X.base k x nm n fn) (hr : Room (k + 1) X.A) (ha : VA X E0 (e :: es) li ms) (hk : VE X E0 a m) (hl : li.length = n := by rfl) (hg : Gl X x := by rfl)
    (hall : (backToKw pos (keywordEach [⟨some nm, a, kpos⟩] X.env)).all (·.1.isSome) = true := by rfl) (hks : (backToKw pos (keywordEach [⟨some nm, a, kpos⟩] X.env)).filterMap (·.1) = [nm] := by rfl) (hdb : (x == ("__debug__" : Str)) = false := by decide)
    (he : starEach (e :: es) X.env = (false, eval e X.env) :: starEach es X.env := by rfl) (hpl : ((backTo pos (starEach (e :: es) X.env)).any (·.1) || (backToKw pos (keywordEach [⟨some nm, a, kpos⟩] X.env)).any (·.1.isNone)) = false := by rfl) :
    VE X E0 (.Call (.Name x p) (e :: es) [⟨some nm, a, kpos⟩] pos) (eMakeW x fn li ms m) := by
  obtain ⟨C, fa, fd, ps, F, M, hm, cl, hb⟩ := h.ex
  exact (pe_makeK (n := n) M F hr hg hm hb pass0 ha (pk_cons hk pk_nil) hall hks hdb he hpl).weak fun _ _ _ => makeW_imp cl hl
end
end Ws

namespace Ws
open PySem L2
/-! ### name.update(e) -/
def mergeO : List (D × O) → List (D × D) → List (D × O)
  | kvs, [] => kvs
  | kvs, (kd, d) :: r => match dKey kd with
    | some k => mergeO (putKO kvs k d) r
    | none => kvs
@[simp] theorem mergeO_nil (kvs : List (D × O)) : mergeO kvs [] = kvs := by rw [mergeO]
@[simp] theorem mergeO_cons (kvs : List (D × O)) (kd d : D) (r : List (D × D)) : mergeO kvs ((kd, d) :: r) = (match dKey kd with
    | some k => mergeO (putKO kvs k d) r
    | none => kvs) := by rw [mergeO]
section
variable {K : PySem.W.Frag} {E : XK} {Z Z' H H' : Hp} {σ σ' σ1 τ ρ : L2.St} {env env' T R : Ws.Env} {F G A : Fp} {Q Q' : VK} {v : V} {o o1 : O} {d : D}
theorem dKey_keyD (k : L2.Key) : dKey (keyD k) = some k := by cases k <;> rfl
theorem RepOk.merge : ∀ {ws2 : List (L2.Key × V)} {kds : List (D × D)} {ws : List (L2.Key × V)} {kvs : List (D × O)} {A : Fp}, RepKs K Z ws2 kds → RepOk K Z H ws kvs A → RepOk K Z H (mergeK ws ws2) (mergeO kvs kds) A
  | _, _, ws, kvs, A, .nil, r => by rw [mergeO_nil]; exact r
  | _, _, ws, kvs, A, .cons (k := k) q r2, r => by
    rw [mergeO_cons, dKey_keyD]
    have t := RepOk.merge r2 (RepOk.put (k := k) q r)
    exact t
def updK (i : Nat) (y : O) (e : Ws.Env) : Out O := match y, e[i]? with
  | .di more, some (some (.di kvs)) => (match allPk more with
    | some kds => if kvs.length + more.length ≤ 100000 then .ok (.pu .non) (e.set i (some (.di (mergeO kvs kds)))) else .no
    | none => .no)
  | _, _ => .no
def eUpd (i : Nat) (m : M O) : M O := fun env => match env[i]? with
  | some (some (.di _)) => (m env).bind fun y e => updK i y e
  | _ => .no
@[simp] theorem eUpd.c (i : Nat) (m : M O) {z : Option O} {zs : Ws.Env} : eUpd i m (z :: zs) = (match (z :: zs)[i]? with
  | some (some (.di _)) => (m (z :: zs)).bind fun y e => updK i y e
  | _ => .no) := rfl
@[simp] theorem updK.c (i : Nat) (more : List (D × O)) {z : Option O} {zs : Ws.Env} : updK i (.di more) (z :: zs) = (match (z :: zs)[i]? with
  | some (some (.di kvs)) => (match allPk more with
    | some kds => if kvs.length + more.length ≤ 100000 then .ok (.pu .non) ((z :: zs).set i (some (.di (mergeO kvs kds)))) else .no
    | none => .no)
  | _ => .no) := by
  unfold updK
  cases (z :: zs)[i]? with
  | none => rfl
  | some x =>
    cases x with
    | none => rfl
    | some w => cases w <;> rfl
theorem upd_imp {i : Nat} {m : M O} {σ : L2.St} {H : Hp} {Q : VK} (h : tE K E (eUpd i m) σ H Q) : tBM K "dict" rUpd (tVar i) (tCons (tE K E m) tNil) σ H Q := by
  obtain ⟨Z, τ, T, env, F, ok, hl, post⟩ := h
  unfold eUpd at post
  split at post
  · rename_i kvs0 ex0
    obtain ⟨v, _, _, hv0, q0, _⟩ := ok.slot hl ex0
    refine ⟨v, hv0, ?_, ?_⟩
    · cases q0 with
      | di a _ _ => exact .inr (.inr (.inl ⟨rfl, .inl ⟨_, a⟩⟩))
    · refine ⟨Z, τ, T, env, F, ok, hl, (stepE (ρ := []) (R := []) rfl post).imp fun u H1 ⟨Z1, F1, y, e1, s1, ok1, post1⟩ => ?_⟩
      unfold updK at post1
      split at post1
      · rename_i more kvs ex
        split at post1
        · rename_i kds ek
          split at post1
          · rename_i hz
            obtain ⟨_, A0, B0, e2, qy, ok2, i2⟩ := Ok.top (x := some u) ok1
            cases e2
            obtain ⟨v', A, B, hv', q, i1, r1, put⟩ := Ok.slot (τ := τ) (T := T) (σ := σ) (env := e1) ok2 hl ex
            rw [hv0] at hv'
            cases hv'
            cases qy with
            | @di b ws2 _ A2 _ hb rk2 j2 =>
              cases q with
              | @di a ws _ A1 _ ha rk j =>
                have hA : 0 < A a := by have := j a; rw [one_self] at this; omega
                have hab : a ≠ b := fun x => by
                  subst x
                  have h1 := j2 a
                  rw [one_self] at h1
                  have := i2 a
                  have := i1 a
                  have := ok1.le a
                  omega
                refine ⟨a, b, ws, ws2, rfl, rfl, hab, ha, hb, by rw [rk.length, rk2.length]; exact hz, ?_⟩
                have na : ∀ b, 0 < A1 b → b ≠ a := fun b w x => by subst x; have := j b; rw [one_self] at this; have := i1 b; have := ok2.le b; omega
                have nB : ∀ b, 0 < B b → b ≠ a := fun b w x => by subst x; have := j b; rw [one_self] at this; have := i1 b; have := ok2.le b; omega
                have kp : ∀ c, c ≠ a → upd H1 a (.dK (mergeK ws ws2)) c = H1 c := fun c h => upd_ne h
                have q2 : RepO K Z1 (upd H1 a (.dK (mergeK ws ws2))) (.ref a) (.di (mergeO kvs kds)) (fun b => one a b + A1 b) := .di upd_same (RepOk.mono Le.refl (RepOk.merge (allPk_ok rk2 ek) rk) (fun b w => kp b (na b w)) fun b => Nat.le_refl _) fun b => Nat.le_refl _
                have pt := put (Z' := Z1) (H' := upd H1 a (.dK (mergeK ws ws2))) (v' := .ref a) (o' := .di (mergeO kvs kds)) (F1' := fun b => one a b + A1 b) (G := fun b => one a b + A1 b + B b) Le.refl (fun b w => kp b (nB b w)) q2 fun b => Nat.le_refl _
                rw [set_self hv0] at pt
                have okz := Ok.mut (A' := fun b => one a b + A1 b) (B := B) ok2 (by have := i1 a; omega) pt fun b => by have := j b; have := i1 b; show one a b + A1 b + B b ≤ B0 b; omega
                exact post1 _ _ Z1 _ (Same.refl Z1) (okz.pure .non)
          · exact post1.elim
        · exact post1.elim
      · exact post1.elim
  · exact post.elim
end
section
variable {X : Cx} {E : XK} {i : Nat} {o e : Expr} {m : M O} {apos cpos : Pos}
theorem v_upd (ho : PE X o (tVar i)) (ha : VE X E e m) (hbase : attributeBase o "update" X.env (eval o X.env) = eval o X.env := by rfl)
    (hfew : ((backTo cpos (starEach (e :: []) X.env)).all (fun x => !x.1) && (backToKw cpos (keywordEach [] X.env)).all (fun x => x.1.isSome)
      && decide ((e :: []).length + ([] : List Keyword).length + (if ([] : List Keyword).isEmpty then 0 else 1) < 30)) = true := by rfl)
    (hline : (apos.endLine == cpos.line) = true := by rfl) (hs : starEach (e :: []) X.env = (false, eval e X.env) :: starEach [] X.env := by rfl) (hplain : (backTo cpos (starEach [] X.env)).any (·.1) = false := by rfl) :
    VE X E (.Call (.Attribute o "update" apos) [e] [] cpos) (eUpd i m) :=
  (pe_bm PySem.F.plainAttrs_dict PySem.F.slot_dict_update PySem.F.type_dict_update mt_update ho (pa_cons ha pa_nil hs) hbase hfew hline hs hplain).weak fun _ _ _ => upd_imp
end
end Ws

namespace Ws
open PySem L2
section
variable {X : Cx} {k n : Nat} {x y : Str} {p pos kpos : Pos} {e a : Expr} {es : List Expr} {li : List (Option Nat)} {ms : M (List O)} {m : M O} {fn : FD} {d : D} {nm : Str}
theorem v_makeDE (h : MakeD X.prog X.w X.K X.mg X.base k x n d fn) (hr : Room (k + 1) X.A) (hxy : x = y) (ha : VA X E0 (e :: es) li ms) (hl : li.length = n := by rfl) (hg : Gl X x := by rfl) (hdb : (x == ("__debug__" : Str)) = false := by decide)
    (he : starEach (e :: es) X.env = (false, eval e X.env) :: starEach es X.env := by rfl) (hpl : (backTo pos (starEach es X.env)).any (·.1) = false := by rfl) : VE X E0 (.Call (.Name x p) (e :: es) [] pos) (eMakeD y fn li ms d) := hxy ▸ v_makeD h hr ha hl hg hdb he hpl
theorem v_makeWE (h : MakeW X.prog X.w X.K X.mg X.base k x nm n fn) (hr : Room (k + 1) X.A) (hxy : x = y) (ha : VA X E0 (e :: es) li ms) (hk : VE X E0 a m) (hl : li.length = n := by rfl) (hg : Gl X x := by rfl)
    (hall : (backToKw pos (keywordEach [⟨some nm, a, kpos⟩] X.env)).all (·.1.isSome) = true := by rfl) (hks : (backToKw pos (keywordEach [⟨some nm, a, kpos⟩] X.env)).filterMap (·.1) = [nm] := by rfl) (hdb : (x == ("__debug__" : Str)) = false := by decide)
    (he : starEach (e :: es) X.env = (false, eval e X.env) :: starEach es X.env := by rfl) (hpl : ((backTo pos (starEach (e :: es) X.env)).any (·.1) || (backToKw pos (keywordEach [⟨some nm, a, kpos⟩] X.env)).any (·.1.isNone)) = false := by rfl) :
    VE X E0 (.Call (.Name x p) (e :: es) [⟨some nm, a, kpos⟩] pos) (eMakeW y fn li ms m) := hxy ▸ v_makeW h hr ha hk hl hg hall hks hdb he hpl
end
end Ws

namespace Ws
open PySem L2
theorem bindsD_of {K : PySem.W.Frag} {fd : FuncData} {ps : List Str} {n : Nat} {D : Addr} {nm : Str} {u : Value} (hq : PySem.W.nsIn K D nm = some (some u)) (hp : ps.length = n + 1)
    (h : ∀ us ks : List Value, us.length = n → ks.length = 1 → KwChain D ([nm].zip ks) (bindArgs fd ⟨us, []⟩) (ps.zip (us ++ ks))) : Binds K fd ps [u] := fun s us X hlen =>
  BindsTo.of_looks fun M => KwChain.looks (l := [(nm, u)]) X (fun q hm => by rw [List.mem_singleton.mp hm]; exact hq) (h us [u] (by simp at hlen; omega) rfl)
theorem kbn_of {K : PySem.W.Frag} {fd : FuncData} {ps : List Str} {n : Nat} {nm : Str} (h : ∀ us ws : List Value, us.length = n → ws.length = 1 → bindArgs fd ⟨us, [nm].zip ws⟩ = Pure.pure (ps.zip (us ++ ws))) : KBn K fd ps n [nm] (fun us ws => us ++ ws) (fun vs zs => vs ++ zs) :=
  ⟨fun s us ws X l1 l2 => .of_eq (h us ws l1 l2), fun r1 r2 => r1.append r2⟩
end Ws

namespace Gd
open PySem L2 Ws
def tl1_l_mixed : M Fl := (sSeq (sIf (eTst (eBinL (cmpD fun i j => decide (i < j)) 0 (eBin powO (cst (.int 10)) (cst (.int 18)))))
  (sRet (mv 2))
  sNext)
  (sRet (eBin modO (eBin addO (rd 2) (eBin modO (eBin fdivW (rd 0) (eBin powO (cst (.int 10)) (cst (.int 18)))) (eBin addO (cst (.int 1)) (eBin mulO (eBin addO (rd 1) (cst (.int 1))) (cst (.int 4014476939333036189094441199026045136645885247730)))))) (cst (.int 2147483399)))))
@[simp] theorem tl1_l_mixed.c {z : Option O} {zs : Ws.Env} : tl1_l_mixed (z :: zs) = (sSeq (sIf (eTst (eBinL (cmpD fun i j => decide (i < j)) 0 (eBin powO (cst (.int 10)) (cst (.int 18)))))
  (sRet (mv 2))
  sNext)
  (sRet (eBin modO (eBin addO (rd 2) (eBin modO (eBin fdivW (rd 0) (eBin powO (cst (.int 10)) (cst (.int 18)))) (eBin addO (cst (.int 1)) (eBin mulO (eBin addO (rd 1) (cst (.int 1))) (cst (.int 4014476939333036189094441199026045136645885247730)))))) (cst (.int 2147483399))))) (z :: zs) := rfl
def body_l_mixed : M Fl := (sSeq (sAsg (eBin modO (eBin powO (eBin modO (eBin mulO (eBin addO (eBin addO (eBin modO (rd 0) (cst (.int 2147483399))) (eBin mulO (cst (.int 104729)) (rd 1))) (cst (.int 11))) (cst (.int 48271))) (cst (.int 2147483399))) (cst (.int 5))) (cst (.int 2147483399))) (gN 2))
  tl1_l_mixed)
@[simp] theorem body_l_mixed.c {z : Option O} {zs : Ws.Env} : body_l_mixed (z :: zs) = (sSeq (sAsg (eBin modO (eBin powO (eBin modO (eBin mulO (eBin addO (eBin addO (eBin modO (rd 0) (cst (.int 2147483399))) (eBin mulO (cst (.int 104729)) (rd 1))) (cst (.int 11))) (cst (.int 48271))) (cst (.int 2147483399))) (cst (.int 5))) (cst (.int 2147483399))) (gN 2))
  tl1_l_mixed) (z :: zs) := rfl
def den_l_mixed : FD := fden 2 1 (fun _ => false) body_l_mixed
def tl1_l_next : M Fl := (sSeq (sIf (eTst (eBin (opD (eqD true)) (rdP 0 [.num 0]) (eLst nilA)))
  (sAsg (eBin ixO (rdP 0 [.num 0]) (eBin modO (rd 2) (rd 3))) (gN 4))
  sNext)
  (sRet (eBin modO (eBin fdivW (eCallF den_l_mixed [none, none] (consA (rd 4) (consA (eBin modO (eBin fdivW (rd 2) (rd 3)) (cst (.int 127))) nilA))) (cst (.int 7))) (rd 1))))
@[simp] theorem tl1_l_next.c {z : Option O} {zs : Ws.Env} : tl1_l_next (z :: zs) = (sSeq (sIf (eTst (eBin (opD (eqD true)) (rdP 0 [.num 0]) (eLst nilA)))
  (sAsg (eBin ixO (rdP 0 [.num 0]) (eBin modO (rd 2) (rd 3))) (gN 4))
  sNext)
  (sRet (eBin modO (eBin fdivW (eCallF den_l_mixed [none, none] (consA (rd 4) (consA (eBin modO (eBin fdivW (rd 2) (rd 3)) (cst (.int 127))) nilA))) (cst (.int 7))) (rd 1)))) (z :: zs) := rfl
def tl2_l_next : M Fl := (sSeq (sAsg (cst (.int 0)) (gN 4))
  tl1_l_next)
@[simp] theorem tl2_l_next.c {z : Option O} {zs : Ws.Env} : tl2_l_next (z :: zs) = (sSeq (sAsg (cst (.int 0)) (gN 4))
  tl1_l_next) (z :: zs) := rfl
def tl3_l_next : M Fl := (sSeq (sAsg (eB (bCall max2D (bsC (bC (.int 1)) (bsC (bCall lenD (bsC (rP 0 [.num 0]) bsN)) bsN)))) (gN 3))
  tl2_l_next)
@[simp] theorem tl3_l_next.c {z : Option O} {zs : Ws.Env} : tl3_l_next (z :: zs) = (sSeq (sAsg (eB (bCall max2D (bsC (bC (.int 1)) (bsC (bCall lenD (bsC (rP 0 [.num 0]) bsN)) bsN)))) (gN 3))
  tl2_l_next) (z :: zs) := rfl
def tl4_l_next : M Fl := (sSeq (sPutP 0 [] (bC (.int 1)) (eBin addO (rd 2) (cst (.int 1))))
  tl3_l_next)
@[simp] theorem tl4_l_next.c {z : Option O} {zs : Ws.Env} : tl4_l_next (z :: zs) = (sSeq (sPutP 0 [] (bC (.int 1)) (eBin addO (rd 2) (cst (.int 1))))
  tl3_l_next) (z :: zs) := rfl
def body_l_next : M Fl := (sSeq (sAsg (rdP 0 [.num 1]) (gN 2))
  tl4_l_next)
@[simp] theorem body_l_next.c {z : Option O} {zs : Ws.Env} : body_l_next (z :: zs) = (sSeq (sAsg (rdP 0 [.num 1]) (gN 2))
  tl4_l_next) (z :: zs) := rfl
def den_l_next : FD := fden 2 3 (fun i => ([0] : List Nat).contains i) body_l_next
end Gd

namespace Gd
open PySem L2 Ws
def s_abcdefghijklmnopqrstuvwxyz : Str := ⟨#[97, 98, 99, 100, 101, 102, 103, 104, 105, 106, 107, 108, 109, 110, 111, 112, 113, 114, 115, 116, 117, 118, 119, 120, 121, 122]⟩
theorem Ss_abcdefghijklmnopqrstuvwxyz : ("abcdefghijklmnopqrstuvwxyz" : Str) = s_abcdefghijklmnopqrstuvwxyz := by decide +kernel
@[simp] theorem kc_abcdefghijklmnopqrstuvwxyz : code s_abcdefghijklmnopqrstuvwxyz = 10764007916138016340623357018381878484926717388140237205260222238679159552778379350162562789826662349700200066221652708414050842492300689345988503579451497382011 := by decide +kernel
def s_register : Str := ⟨#[114, 101, 103, 105, 115, 116, 101, 114]⟩
theorem Ss_register : ("register" : Str) = s_register := by decide +kernel
@[simp] theorem kc_register : code s_register = 20516694259852748517391577934315245050970243187 := by decide +kernel
def s_a : Str := ⟨#[97]⟩
theorem Ss_a : ("a" : Str) = s_a := by decide +kernel
@[simp] theorem kc_a : code s_a = 98 := by decide +kernel
def s_b : Str := ⟨#[98]⟩
theorem Ss_b : ("b" : Str) = s_b := by decide +kernel
@[simp] theorem kc_b : code s_b = 99 := by decide +kernel
def s_c : Str := ⟨#[99]⟩
theorem Ss_c : ("c" : Str) = s_c := by decide +kernel
@[simp] theorem kc_c : code s_c = 100 := by decide +kernel
def s_d : Str := ⟨#[100]⟩
theorem Ss_d : ("d" : Str) = s_d := by decide +kernel
@[simp] theorem kc_d : code s_d = 101 := by decide +kernel
def s_e : Str := ⟨#[101]⟩
theorem Ss_e : ("e" : Str) = s_e := by decide +kernel
@[simp] theorem kc_e : code s_e = 102 := by decide +kernel
def s_f : Str := ⟨#[102]⟩
theorem Ss_f : ("f" : Str) = s_f := by decide +kernel
@[simp] theorem kc_f : code s_f = 103 := by decide +kernel
def s_g : Str := ⟨#[103]⟩
theorem Ss_g : ("g" : Str) = s_g := by decide +kernel
@[simp] theorem kc_g : code s_g = 104 := by decide +kernel
def s_h : Str := ⟨#[104]⟩
theorem Ss_h : ("h" : Str) = s_h := by decide +kernel
@[simp] theorem kc_h : code s_h = 105 := by decide +kernel
def s_word : Str := ⟨#[119, 111, 114, 100]⟩
theorem Ss_word : ("word" : Str) = s_word := by decide +kernel
@[simp] theorem kc_word : code s_word = 1106805137004023513189 := by decide +kernel
def s_sp : Str := ⟨#[115, 112]⟩
theorem Ss_sp : ("sp" : Str) = s_sp := by decide +kernel
@[simp] theorem kc_sp : code s_sp = 243269745 := by decide +kernel
def s_name : Str := ⟨#[110, 97, 109, 101]⟩
theorem Ss_name : ("name" : Str) = s_name := by decide +kernel
@[simp] theorem kc_name : code s_name = 1023794727099668889702 := by decide +kernel
def s_near : Str := ⟨#[110, 101, 97, 114]⟩
theorem Ss_near : ("near" : Str) = s_near := by decide +kernel
@[simp] theorem kc_near : code s_near = 1023794744691829768307 := by decide +kernel
def s_number : Str := ⟨#[110, 117, 109, 98, 101, 114]⟩
theorem Ss_number : ("number" : Str) = s_number := by decide +kernel
@[simp] theorem kc_number : code s_number = 4502697214463632837895632474603635 := by decide +kernel
def s_Function : Str := ⟨#[70, 117, 110, 99, 116, 105, 111, 110]⟩
theorem Ss_Function : ("Function" : Str) = s_Function := by decide +kernel
@[simp] theorem kc_Function : code s_Function = 12666833311099720808943253209767706047048319087 := by decide +kernel
def s_code : Str := ⟨#[99, 111, 100, 101]⟩
theorem Ss_code : ("code" : Str) = s_code := by decide +kernel
@[simp] theorem kc_code : code s_code = 922337696266898636902 := by decide +kernel
def s_landings : Str := ⟨#[108, 97, 110, 100, 105, 110, 103, 115]⟩
theorem Ss_landings : ("landings" : Str) = s_landings := by decide +kernel
@[simp] theorem kc_landings : code s_landings = 19446258150041195639297136959436534437633851508 := by decide +kernel
def s_set_w : Str := ⟨#[115, 101, 116]⟩
theorem Ss_set_w : ("set" : Str) = s_set_w := by decide +kernel
@[simp] theorem kc_set_w : code s_set_w = 510173609197685 := by decide +kernel
def s_copy : Str := ⟨#[99, 111, 112, 121]⟩
theorem Ss_copy : ("copy" : Str) = s_copy := by decide +kernel
@[simp] theorem kc_copy : code s_copy = 922337696266923802746 := by decide +kernel
def s_mix : Str := ⟨#[109, 105, 120]⟩
theorem Ss_mix : ("mix" : Str) = s_mix := by decide +kernel
@[simp] theorem kc_mix : code s_mix = 483785338519673 := by decide +kernel
def s_push : Str := ⟨#[112, 117, 115, 104]⟩
theorem Ss_push : ("push" : Str) = s_push := by decide +kernel
@[simp] theorem kc_push : code s_push = 1042241559134321246313 := by decide +kernel
def s_pop : Str := ⟨#[112, 111, 112]⟩
theorem Ss_pop : ("pop" : Str) = s_pop := by decide +kernel
@[simp] theorem kc_pop : code s_pop = 496979490635889 := by decide +kernel
def s_room : Str := ⟨#[114, 111, 111, 109]⟩
theorem Ss_room : ("room" : Str) = s_room := by decide +kernel
@[simp] theorem kc_room : code s_room = 1060688276819743342702 := by decide +kernel
def s_store : Str := ⟨#[115, 116, 111, 114, 101]⟩
theorem Ss_store : ("store" : Str) = s_store := by decide +kernel
@[simp] theorem kc_store : code s_store = 2243767400339772641713848422 := by decide +kernel
def s_load : Str := ⟨#[108, 111, 97, 100]⟩
theorem Ss_load : ("load" : Str) = s_load := by decide +kernel
@[simp] theorem kc_load : code s_load = 1005348044598585327717 := by decide +kernel
def s_call : Str := ⟨#[99, 97, 108, 108]⟩
theorem Ss_call : ("call" : Str) = s_call := by decide +kernel
@[simp] theorem kc_call : code s_call = 922337634694264258669 := by decide +kernel
def s_ret_w : Str := ⟨#[114, 101, 116]⟩
theorem Ss_ret_w : ("ret" : Str) = s_ret_w := by decide +kernel
@[simp] theorem kc_ret_w : code s_ret_w = 505775562686581 := by decide +kernel
def s_go : Str := ⟨#[103, 111]⟩
theorem Ss_go : ("go" : Str) = s_go := by decide +kernel
@[simp] theorem kc_go : code s_go = 218103920 := by decide +kernel
def s_to : Str := ⟨#[116, 111]⟩
theorem Ss_to : ("to" : Str) = s_to := by decide +kernel
@[simp] theorem kc_to : code s_to = 245366896 := by decide +kernel
def s_if_w : Str := ⟨#[105, 102]⟩
theorem Ss_if_w : ("if" : Str) = s_if_w := by decide +kernel
@[simp] theorem kc_if_w : code s_if_w = 222298215 := by decide +kernel
def s_out : Str := ⟨#[111, 117, 116]⟩
theorem Ss_out : ("out" : Str) = s_out := by decide +kernel
@[simp] theorem kc_out : code s_out = 492581456707701 := by decide +kernel
def s_throw : Str := ⟨#[116, 104, 114, 111, 119]⟩
theorem Ss_throw : ("throw" : Str) = s_throw := by decide +kernel
@[simp] theorem kc_throw : code s_throw = 2263110102773155460385079416 := by decide +kernel
def s_resume : Str := ⟨#[114, 101, 115, 117, 109, 101]⟩
theorem Ss_resume : ("resume" : Str) = s_resume := by decide +kernel
@[simp] theorem kc_resume : code s_resume = 4664956181807891720257925789253734 := by decide +kernel
abbrev d_REGISTERS : D := .tup [.str s_a, .str s_b, .str s_c, .str s_d, .str s_e, .str s_f, .str s_g, .str s_h]
abbrev d_WORDS : D := .tup [.str s_a, .str s_b, .str s_c, .str s_d, .str s_e, .str s_f, .str s_g, .str s_h, .str s_sp]
abbrev d_LETTERS : D := .str s_abcdefghijklmnopqrstuvwxyz
abbrev d_MOST_NEAR : D := .int 99
abbrev d_MOST_CODE : D := .int 1000
abbrev m_SHAPES : List (D × D) := [(.str s_set_w, .tup [.str s_register, .str s_number]), (.str s_copy, .tup [.str s_word, .str s_word]), (.str s_mix, .tup [.str s_register, .str s_register, .str s_register]), (.str s_push, .tup [.str s_register]), (.str s_pop, .tup [.str s_register]), (.str s_room, .tup [.str s_near]), (.str s_store, .tup [.str s_word, .str s_near, .str s_register]), (.str s_load, .tup [.str s_register, .str s_word, .str s_near]), (.str s_call, .tup [.str s_name]), (.str s_ret_w, .tup []), (.str s_go, .tup [.str s_to]), (.str s_if_w, .tup [.str s_to]), (.str s_out, .tup [.str s_register]), (.str s_throw, .tup []), (.str s_resume, .tup [])]
def cg1_is_name : GD := (gN 1)
@[simp] theorem cg1_is_name.c (o : O) {z : Option O} {zs : Ws.Env} : cg1_is_name o (z :: zs) = (gN 1) o (z :: zs) := rfl
def ce1_is_name : M O := (eB (bOp (inD false) (rP 1 []) (bC d_LETTERS)))
@[simp] theorem ce1_is_name.c {z : Option O} {zs : Ws.Env} : ce1_is_name (z :: zs) = (eB (bOp (inD false) (rP 1 []) (bC d_LETTERS))) (z :: zs) := rfl
def body_is_name : M Fl := (sSeq (sIf (eOr (eNot (cB (bCall isiD (bsC (rP 0 []) (bsC (bC (.ty "str")) bsN))))) (eNot (cB (bChn (cmpD fun i j => decide (i ≤ j)) (cmpD fun i j => decide (i ≤ j)) (bC (.int 1)) (bCall lenD (bsC (rP 0 []) bsN)) (bC (.int 8))))))
  (sRet (cst (.bl false)))
  sNext)
  (sRet (eCall (callD allD) (consA (eLc [1] (iAny (rd 0)) cg1_is_name cYes ce1_is_name) nilA))))
@[simp] theorem body_is_name.c {z : Option O} {zs : Ws.Env} : body_is_name (z :: zs) = (sSeq (sIf (eOr (eNot (cB (bCall isiD (bsC (rP 0 []) (bsC (bC (.ty "str")) bsN))))) (eNot (cB (bChn (cmpD fun i j => decide (i ≤ j)) (cmpD fun i j => decide (i ≤ j)) (bC (.int 1)) (bCall lenD (bsC (rP 0 []) bsN)) (bC (.int 8))))))
  (sRet (cst (.bl false)))
  sNext)
  (sRet (eCall (callD allD) (consA (eLc [1] (iAny (rd 0)) cg1_is_name cYes ce1_is_name) nilA)))) (z :: zs) := rfl
def den_is_name : FD := fden 1 1 (fun _ => false) body_is_name
def body_is_number : M Fl := (sRet (eB (bAnd (bCall isiD (bsC (rP 0 []) (bsC (bC (.ty "int")) bsN))) (bUn notD (bCall isiD (bsC (rP 0 []) (bsC (bC (.ty "bool")) bsN)))))))
@[simp] theorem body_is_number.c {z : Option O} {zs : Ws.Env} : body_is_number (z :: zs) = (sRet (eB (bAnd (bCall isiD (bsC (rP 0 []) (bsC (bC (.ty "int")) bsN))) (bUn notD (bCall isiD (bsC (rP 0 []) (bsC (bC (.ty "bool")) bsN))))))) (z :: zs) := rfl
def den_is_number : FD := fden 1 0 (fun _ => false) body_is_number
def body_is_near : M Fl := (sRet (eAndV (eCallF den_is_number [none] (consA (rd 0) nilA)) (eB (bChn (cmpD fun i j => decide (i ≤ j)) (cmpD fun i j => decide (i ≤ j)) (bUn negD (bC d_MOST_NEAR)) (rP 0 []) (bC d_MOST_NEAR)))))
@[simp] theorem body_is_near.c {z : Option O} {zs : Ws.Env} : body_is_near (z :: zs) = (sRet (eAndV (eCallF den_is_number [none] (consA (rd 0) nilA)) (eB (bChn (cmpD fun i j => decide (i ≤ j)) (cmpD fun i j => decide (i ≤ j)) (bUn negD (bC d_MOST_NEAR)) (rP 0 []) (bC d_MOST_NEAR))))) (z :: zs) := rfl
def den_is_near : FD := fden 1 0 (fun _ => false) body_is_near
def tl1_fits : M Fl := (sSeq (sIf (cB (bOp (eqD false) (rP 0 []) (bC (.str s_near))))
  (sRet (eCallF den_is_near [none] (consA (rd 1) nilA)))
  sNext)
  (sRet (eAndV (eCallF den_is_number [none] (consA (rd 1) nilA)) (eB (bOr (bOp (eqD false) (rP 0 []) (bC (.str s_number))) (bChn (cmpD fun i j => decide (i ≤ j)) (cmpD fun i j => decide (i < j)) (bC (.int 0)) (rP 1 []) (rP 2 [])))))))
@[simp] theorem tl1_fits.c {z : Option O} {zs : Ws.Env} : tl1_fits (z :: zs) = (sSeq (sIf (cB (bOp (eqD false) (rP 0 []) (bC (.str s_near))))
  (sRet (eCallF den_is_near [none] (consA (rd 1) nilA)))
  sNext)
  (sRet (eAndV (eCallF den_is_number [none] (consA (rd 1) nilA)) (eB (bOr (bOp (eqD false) (rP 0 []) (bC (.str s_number))) (bChn (cmpD fun i j => decide (i ≤ j)) (cmpD fun i j => decide (i < j)) (bC (.int 0)) (rP 1 []) (rP 2 []))))))) (z :: zs) := rfl
def tl2_fits : M Fl := (sSeq (sIf (cB (bOp (eqD false) (rP 0 []) (bC (.str s_name))))
  (sRet (eCallF den_is_name [none] (consA (rd 1) nilA)))
  sNext)
  tl1_fits)
@[simp] theorem tl2_fits.c {z : Option O} {zs : Ws.Env} : tl2_fits (z :: zs) = (sSeq (sIf (cB (bOp (eqD false) (rP 0 []) (bC (.str s_name))))
  (sRet (eCallF den_is_name [none] (consA (rd 1) nilA)))
  sNext)
  tl1_fits) (z :: zs) := rfl
def tl3_fits : M Fl := (sSeq (sIf (cB (bOp (eqD false) (rP 0 []) (bC (.str s_word))))
  (sRet (eB (bOp (inD false) (rP 1 []) (bC d_WORDS))))
  sNext)
  tl2_fits)
@[simp] theorem tl3_fits.c {z : Option O} {zs : Ws.Env} : tl3_fits (z :: zs) = (sSeq (sIf (cB (bOp (eqD false) (rP 0 []) (bC (.str s_word))))
  (sRet (eB (bOp (inD false) (rP 1 []) (bC d_WORDS))))
  sNext)
  tl2_fits) (z :: zs) := rfl
def body_fits : M Fl := (sSeq (sIf (cB (bOp (eqD false) (rP 0 []) (bC (.str s_register))))
  (sRet (eB (bOp (inD false) (rP 1 []) (bC d_REGISTERS))))
  sNext)
  tl3_fits)
@[simp] theorem body_fits.c {z : Option O} {zs : Ws.Env} : body_fits (z :: zs) = (sSeq (sIf (cB (bOp (eqD false) (rP 0 []) (bC (.str s_register))))
  (sRet (eB (bOp (inD false) (rP 1 []) (bC d_REGISTERS))))
  sNext)
  tl3_fits) (z :: zs) := rfl
def den_fits : FD := fden 3 0 (fun _ => false) body_fits
def cg1_is_instruction : GD := (gTupD 2 (gConsD (gN 4) (gConsD (gN 5) gNilD)))
@[simp] theorem cg1_is_instruction.c (o : O) {z : Option O} {zs : Ws.Env} : cg1_is_instruction o (z :: zs) = (gTupD 2 (gConsD (gN 4) (gConsD (gN 5) gNilD))) o (z :: zs) := rfl
def ce1_is_instruction : M O := (eCallF den_fits [none, none, none] (consA (rd 4) (consA (rd 5) (consA (rd 1) nilA))))
@[simp] theorem ce1_is_instruction.c {z : Option O} {zs : Ws.Env} : ce1_is_instruction (z :: zs) = (eCallF den_fits [none, none, none] (consA (rd 4) (consA (rd 5) (consA (rd 1) nilA)))) (z :: zs) := rfl
def tl1_is_instruction : M Fl := (sSeq (sIf (eOr (eNot (cB (bCall isiD (bsC (rP 2 []) (bsC (bC (.ty "str")) bsN))))) (eOr (eTst (eUn (unD (minD true m_SHAPES)) (rd 2))) (eTst (eBin (opD (eqD true)) (eB (bCall lenD (bsC (rP 3 []) bsN))) (eCall (callD lenD) (consA (eUn (unD (mgetD m_SHAPES)) (rd 2)) nilA))))))
  (sRet (cst (.bl false)))
  sNext)
  (sRet (eCall (callD allD) (consA (eLc [4, 5] (iZip (consA (eFz (eUn (unD (mgetD m_SHAPES)) (rd 2))) (consA (rd 3) nilA))) cg1_is_instruction cYes ce1_is_instruction) nilA))))
@[simp] theorem tl1_is_instruction.c {z : Option O} {zs : Ws.Env} : tl1_is_instruction (z :: zs) = (sSeq (sIf (eOr (eNot (cB (bCall isiD (bsC (rP 2 []) (bsC (bC (.ty "str")) bsN))))) (eOr (eTst (eUn (unD (minD true m_SHAPES)) (rd 2))) (eTst (eBin (opD (eqD true)) (eB (bCall lenD (bsC (rP 3 []) bsN))) (eCall (callD lenD) (consA (eUn (unD (mgetD m_SHAPES)) (rd 2)) nilA))))))
  (sRet (cst (.bl false)))
  sNext)
  (sRet (eCall (callD allD) (consA (eLc [4, 5] (iZip (consA (eFz (eUn (unD (mgetD m_SHAPES)) (rd 2))) (consA (rd 3) nilA))) cg1_is_instruction cYes ce1_is_instruction) nilA)))) (z :: zs) := rfl
def tl2_is_instruction : M Fl := (sSeq (sAsg (rd 0) (gStarD 2 1 (gConsD (gN 2) (gConsD (gN 3) gNilD))))
  tl1_is_instruction)
@[simp] theorem tl2_is_instruction.c {z : Option O} {zs : Ws.Env} : tl2_is_instruction (z :: zs) = (sSeq (sAsg (rd 0) (gStarD 2 1 (gConsD (gN 2) (gConsD (gN 3) gNilD))))
  tl1_is_instruction) (z :: zs) := rfl
def body_is_instruction : M Fl := (sSeq (sIf (eOr (eNot (cB (bCall isiD (bsC (rP 0 []) (bsC (bC (.ty "tuple")) bsN))))) (cB (bOp (eqD false) (bCall lenD (bsC (rP 0 []) bsN)) (bC (.int 0)))))
  (sRet (cst (.bl false)))
  sNext)
  tl2_is_instruction)
@[simp] theorem body_is_instruction.c {z : Option O} {zs : Ws.Env} : body_is_instruction (z :: zs) = (sSeq (sIf (eOr (eNot (cB (bCall isiD (bsC (rP 0 []) (bsC (bC (.ty "tuple")) bsN))))) (cB (bOp (eqD false) (bCall lenD (bsC (rP 0 []) bsN)) (bC (.int 0)))))
  (sRet (cst (.bl false)))
  sNext)
  tl2_is_instruction) (z :: zs) := rfl
def den_is_instruction : FD := fden 2 4 (fun _ => false) body_is_instruction
def cg1_is_landing : GD := (gN 2)
@[simp] theorem cg1_is_landing.c (o : O) {z : Option O} {zs : Ws.Env} : cg1_is_landing o (z :: zs) = (gN 2) o (z :: zs) := rfl
def ce1_is_landing : M O := (eCallF den_is_number [none] (consA (rd 2) nilA))
@[simp] theorem ce1_is_landing.c {z : Option O} {zs : Ws.Env} : ce1_is_landing (z :: zs) = (eCallF den_is_number [none] (consA (rd 2) nilA)) (z :: zs) := rfl
def tl1_is_landing : M Fl := (sSeq (sAsg (rd 0) (gTupD 3 (gConsD (gN 3) (gConsD (gN 4) (gConsD (gN 5) gNilD)))))
  (sRet (eB (bAnd (bChn3 (cmpD fun i j => decide (i ≤ j)) (cmpD fun i j => decide (i < j)) (cmpD fun i j => decide (i ≤ j)) (bC (.int 0)) (rP 3 []) (rP 4 []) (rP 1 [])) (bChn (cmpD fun i j => decide (i ≤ j)) (cmpD fun i j => decide (i < j)) (bC (.int 0)) (rP 5 []) (rP 1 []))))))
@[simp] theorem tl1_is_landing.c {z : Option O} {zs : Ws.Env} : tl1_is_landing (z :: zs) = (sSeq (sAsg (rd 0) (gTupD 3 (gConsD (gN 3) (gConsD (gN 4) (gConsD (gN 5) gNilD)))))
  (sRet (eB (bAnd (bChn3 (cmpD fun i j => decide (i ≤ j)) (cmpD fun i j => decide (i < j)) (cmpD fun i j => decide (i ≤ j)) (bC (.int 0)) (rP 3 []) (rP 4 []) (rP 1 [])) (bChn (cmpD fun i j => decide (i ≤ j)) (cmpD fun i j => decide (i < j)) (bC (.int 0)) (rP 5 []) (rP 1 [])))))) (z :: zs) := rfl
def body_is_landing : M Fl := (sSeq (sIf (eOr (eNot (cB (bCall isiD (bsC (rP 0 []) (bsC (bC (.ty "tuple")) bsN))))) (eOr (cB (bOp (eqD true) (bCall lenD (bsC (rP 0 []) bsN)) (bC (.int 3)))) (eNot (eTru (eCall (callD allD) (consA (eLc [2] (iAny (rd 0)) cg1_is_landing cYes ce1_is_landing) nilA))))))
  (sRet (cst (.bl false)))
  sNext)
  tl1_is_landing)
@[simp] theorem body_is_landing.c {z : Option O} {zs : Ws.Env} : body_is_landing (z :: zs) = (sSeq (sIf (eOr (eNot (cB (bCall isiD (bsC (rP 0 []) (bsC (bC (.ty "tuple")) bsN))))) (eOr (cB (bOp (eqD true) (bCall lenD (bsC (rP 0 []) bsN)) (bC (.int 3)))) (eNot (eTru (eCall (callD allD) (consA (eLc [2] (iAny (rd 0)) cg1_is_landing cYes ce1_is_landing) nilA))))))
  (sRet (cst (.bl false)))
  sNext)
  tl1_is_landing) (z :: zs) := rfl
def den_is_landing : FD := fden 2 4 (fun _ => false) body_is_landing
def fg1_Function_init : GD := (gTupD 2 (gConsD (gN 5) (gConsD (gN 6) gNilD)))
@[simp] theorem fg1_Function_init.c (o : O) {z : Option O} {zs : Ws.Env} : fg1_Function_init o (z :: zs) = (gTupD 2 (gConsD (gN 5) (gConsD (gN 6) gNilD))) o (z :: zs) := rfl
def fb1_Function_init : M Fl := (sIf (eNot (eTru (eCallF den_is_instruction [none, none] (consA (rd 6) (consA (rd 4) nilA)))))
  sNever
  sNext)
@[simp] theorem fb1_Function_init.c {z : Option O} {zs : Ws.Env} : fb1_Function_init (z :: zs) = (sIf (eNot (eTru (eCallF den_is_instruction [none, none] (consA (rd 6) (consA (rd 4) nilA)))))
  sNever
  sNext) (z :: zs) := rfl
def cg1_Function_init : GD := (gN 6)
@[simp] theorem cg1_Function_init.c (o : O) {z : Option O} {zs : Ws.Env} : cg1_Function_init o (z :: zs) = (gN 6) o (z :: zs) := rfl
def ce1_Function_init : M O := (eCallF den_is_landing [none, none] (consA (rd 6) (consA (rd 4) nilA)))
@[simp] theorem ce1_Function_init.c {z : Option O} {zs : Ws.Env} : ce1_Function_init (z :: zs) = (eCallF den_is_landing [none, none] (consA (rd 6) (consA (rd 4) nilA))) (z :: zs) := rfl
def tl1_Function_init : M Fl := (sSeq (sFldP 0 [] [s_Function] s_code (eTupP 2 []))
  (sFldP 0 [] [s_Function] s_landings (eTupP 3 [])))
@[simp] theorem tl1_Function_init.c {z : Option O} {zs : Ws.Env} : tl1_Function_init (z :: zs) = (sSeq (sFldP 0 [] [s_Function] s_code (eTupP 2 []))
  (sFldP 0 [] [s_Function] s_landings (eTupP 3 []))) (z :: zs) := rfl
def tl2_Function_init : M Fl := (sSeq (sFldP 0 [] [s_Function] s_name (rd 1))
  tl1_Function_init)
@[simp] theorem tl2_Function_init.c {z : Option O} {zs : Ws.Env} : tl2_Function_init (z :: zs) = (sSeq (sFldP 0 [] [s_Function] s_name (rd 1))
  tl1_Function_init) (z :: zs) := rfl
def tl3_Function_init : M Fl := (sSeq (sIf (eOr (eNot (eTru (eIsiT ["list", "tuple"] (rP 3 [])))) (eNot (eTru (eCall (callD allD) (consA (eLc [6] (iAny (rd 3)) cg1_Function_init cYes ce1_Function_init) nilA)))))
  sNever
  sNext)
  tl2_Function_init)
@[simp] theorem tl3_Function_init.c {z : Option O} {zs : Ws.Env} : tl3_Function_init (z :: zs) = (sSeq (sIf (eOr (eNot (eTru (eIsiT ["list", "tuple"] (rP 3 [])))) (eNot (eTru (eCall (callD allD) (consA (eLc [6] (iAny (rd 3)) cg1_Function_init cYes ce1_Function_init) nilA)))))
  sNever
  sNext)
  tl2_Function_init) (z :: zs) := rfl
def tl4_Function_init : M Fl := (sSeq (sIf (eNot (cB (bChn (cmpD fun i j => decide (i ≤ j)) (cmpD fun i j => decide (i ≤ j)) (bC (.int 1)) (rP 4 []) (bC d_MOST_CODE))))
  sNever
  sNext)
  tl3_Function_init)
@[simp] theorem tl4_Function_init.c {z : Option O} {zs : Ws.Env} : tl4_Function_init (z :: zs) = (sSeq (sIf (eNot (cB (bChn (cmpD fun i j => decide (i ≤ j)) (cmpD fun i j => decide (i ≤ j)) (bC (.int 1)) (rP 4 []) (bC d_MOST_CODE))))
  sNever
  sNext)
  tl3_Function_init) (z :: zs) := rfl
def tl5_Function_init : M Fl := (sSeq (sFor (iEnumr (consA (rd 2) nilA)) fg1_Function_init fb1_Function_init)
  tl4_Function_init)
@[simp] theorem tl5_Function_init.c {z : Option O} {zs : Ws.Env} : tl5_Function_init (z :: zs) = (sSeq (sFor (iEnumr (consA (rd 2) nilA)) fg1_Function_init fb1_Function_init)
  tl4_Function_init) (z :: zs) := rfl
def tl6_Function_init : M Fl := (sSeq (sAsg (eB (bCall lenD (bsC (rP 2 []) bsN))) (gN 4))
  tl5_Function_init)
@[simp] theorem tl6_Function_init.c {z : Option O} {zs : Ws.Env} : tl6_Function_init (z :: zs) = (sSeq (sAsg (eB (bCall lenD (bsC (rP 2 []) bsN))) (gN 4))
  tl5_Function_init) (z :: zs) := rfl
def body_Function_init : M Fl := (sSeq (sIf (eNot (eTru (eCallF den_is_name [none] (consA (rd 1) nilA))))
  sNever
  sNext)
  tl6_Function_init)
@[simp] theorem body_Function_init.c {z : Option O} {zs : Ws.Env} : body_Function_init (z :: zs) = (sSeq (sIf (eNot (eTru (eCallF den_is_name [none] (consA (rd 1) nilA))))
  sNever
  sNext)
  tl6_Function_init) (z :: zs) := rfl
def den_Function_init : FD := fden 4 3 (fun i => ([0] : List Nat).contains i) body_Function_init
end Gd

namespace Gd
open PySem L2 Ws
def s_r : Str := ⟨#[114]⟩
theorem Ss_r : ("r" : Str) = s_r := by decide +kernel
@[simp] theorem kc_r : code s_r = 115 := by decide +kernel
def s_abcdefgh : Str := ⟨#[97, 98, 99, 100, 101, 102, 103, 104]⟩
theorem Ss_abcdefgh : ("abcdefgh" : Str) = s_abcdefgh := by decide +kernel
@[simp] theorem kc_abcdefgh : code s_abcdefgh = 17483792657640646320065329243644280311730143337 := by decide +kernel
def s_w : Str := ⟨#[119]⟩
theorem Ss_w : ("w" : Str) = s_w := by decide +kernel
@[simp] theorem kc_w : code s_w = 120 := by decide +kernel
def s_k : Str := ⟨#[107]⟩
theorem Ss_k : ("k" : Str) = s_k := by decide +kernel
@[simp] theorem kc_k : code s_k = 108 := by decide +kernel
def s_t : Str := ⟨#[116]⟩
theorem Ss_t : ("t" : Str) = s_t := by decide +kernel
@[simp] theorem kc_t : code s_t = 117 := by decide +kernel
def s_wkr : Str := ⟨#[119, 107, 114]⟩
theorem Ss_wkr : ("wkr" : Str) = s_wkr := by decide +kernel
@[simp] theorem kc_wkr : code s_wkr = 527765807825011 := by decide +kernel
def s_rrr : Str := ⟨#[114, 114, 114]⟩
theorem Ss_rrr : ("rrr" : Str) = s_rrr := by decide +kernel
@[simp] theorem kc_rrr : code s_rrr = 505775589949555 := by decide +kernel
def s_ww : Str := ⟨#[119, 119]⟩
theorem Ss_ww : ("ww" : Str) = s_ww := by decide +kernel
@[simp] theorem kc_ww : code s_ww = 251658360 := by decide +kernel
def s_rn : Str := ⟨#[114, 110]⟩
theorem Ss_rn : ("rn" : Str) = s_rn := by decide +kernel
@[simp] theorem kc_rn : code s_rn = 241172591 := by decide +kernel
def s__empty : Str := ⟨#[]⟩
theorem Ss__empty : ("" : Str) = s__empty := by decide +kernel
@[simp] theorem kc__empty : code s__empty = 0 := by decide +kernel
def s_rwk : Str := ⟨#[114, 119, 107]⟩
theorem Ss_rwk : ("rwk" : Str) = s_rwk := by decide +kernel
@[simp] theorem kc_rwk : code s_rwk = 505775600435308 := by decide +kernel
def s_zz : Str := ⟨#[122, 122]⟩
theorem Ss_zz : ("zz" : Str) = s_zz := by decide +kernel
@[simp] theorem kc_zz : code s_zz = 257949819 := by decide +kernel
def s_none : Str := ⟨#[110, 111, 110, 101]⟩
theorem Ss_none : ("none" : Str) = s_none := by decide +kernel
@[simp] theorem kc_none : code s_none = 1023794788672322142310 := by decide +kernel
def s_end : Str := ⟨#[101, 110, 100]⟩
theorem Ss_end : ("end" : Str) = s_end := by decide +kernel
@[simp] theorem kc_end : code s_end = 448600976916581 := by decide +kernel
def s_land : Str := ⟨#[108, 97, 110, 100]⟩
theorem Ss_land : ("land" : Str) = s_land := by decide +kernel
@[simp] theorem kc_land : code s_land = 1005347983025961435237 := by decide +kernel
def s_fun : Str := ⟨#[102, 117, 110]⟩
theorem Ss_fun : ("fun" : Str) = s_fun := by decide +kernel
@[simp] theorem kc_fun : code s_fun = 452999038107759 := by decide +kernel
def tl1_l_part : M Fl := (sSeq (sAsg (eBin addO (eBin mulO (eCallF den_l_next [some 0, none] (lendB 0 (consA (eBin powO (cst (.int 10)) (cst (.int 6))) nilA))) (eBin powO (cst (.int 10)) (cst (.int 6)))) (eCallF den_l_next [some 0, none] (lendB 0 (consA (eBin powO (cst (.int 10)) (cst (.int 6))) nilA)))) (gN 5))
  (sRet (eBin ixO (eLst (consA (cst (.int 0)) (consA (eFz (eBin subO (eCallF den_l_next [some 0, none] (lendB 0 (consA (cst (.int 20)) nilA))) (cst (.int 9)))) (consA (eFz (eBin ixO (eLst (consA (eFz (eBin powO (cst (.int 10)) (cst (.int 12)))) (consA (eUn negO (eBin powO (cst (.int 10)) (cst (.int 12)))) nilA))) (eBin modO (rd 5) (cst (.int 2))))) (consA (eFz (eBin ixO (eLst (consA (rd 5) (consA (eFz (eBin subO (cst (.int 0)) (rd 5))) nilA))) (eBin modO (eBin fdivW (rd 5) (cst (.int 2))) (cst (.int 2))))) nilA))))) (rd 4))))
@[simp] theorem tl1_l_part.c {z : Option O} {zs : Ws.Env} : tl1_l_part (z :: zs) = (sSeq (sAsg (eBin addO (eBin mulO (eCallF den_l_next [some 0, none] (lendB 0 (consA (eBin powO (cst (.int 10)) (cst (.int 6))) nilA))) (eBin powO (cst (.int 10)) (cst (.int 6)))) (eCallF den_l_next [some 0, none] (lendB 0 (consA (eBin powO (cst (.int 10)) (cst (.int 6))) nilA)))) (gN 5))
  (sRet (eBin ixO (eLst (consA (cst (.int 0)) (consA (eFz (eBin subO (eCallF den_l_next [some 0, none] (lendB 0 (consA (cst (.int 20)) nilA))) (cst (.int 9)))) (consA (eFz (eBin ixO (eLst (consA (eFz (eBin powO (cst (.int 10)) (cst (.int 12)))) (consA (eUn negO (eBin powO (cst (.int 10)) (cst (.int 12)))) nilA))) (eBin modO (rd 5) (cst (.int 2))))) (consA (eFz (eBin ixO (eLst (consA (rd 5) (consA (eFz (eBin subO (cst (.int 0)) (rd 5))) nilA))) (eBin modO (eBin fdivW (rd 5) (cst (.int 2))) (cst (.int 2))))) nilA))))) (rd 4)))) (z :: zs) := rfl
def tl2_l_part : M Fl := (sSeq (sIf (cB (bOp (eqD false) (rP 1 []) (bC (.str s_f))))
  (sRet (eIxAt 3 (eCallF den_l_next [some 0, none] (lendB 0 (consA (eB (bCall lenD (bsC (rP 3 []) bsN))) nilA)))))
  sNext)
  tl1_l_part)
@[simp] theorem tl2_l_part.c {z : Option O} {zs : Ws.Env} : tl2_l_part (z :: zs) = (sSeq (sIf (cB (bOp (eqD false) (rP 1 []) (bC (.str s_f))))
  (sRet (eIxAt 3 (eCallF den_l_next [some 0, none] (lendB 0 (consA (eB (bCall lenD (bsC (rP 3 []) bsN))) nilA)))))
  sNext)
  tl1_l_part) (z :: zs) := rfl
def tl3_l_part : M Fl := (sSeq (sIf (cB (bOp (eqD false) (rP 1 []) (bC (.str s_t))))
  (sRet (eBin ixO (eLst (consA (cst (.int 0)) (consA (eFz (eBin subO (rd 2) (cst (.int 1)))) (consA (eFz (eCallF den_l_next [some 0, none] (lendB 0 (consA (rd 2) nilA)))) (consA (eFz (eCallF den_l_next [some 0, none] (lendB 0 (consA (rd 2) nilA)))) nilA))))) (rd 4)))
  sNext)
  tl2_l_part)
@[simp] theorem tl3_l_part.c {z : Option O} {zs : Ws.Env} : tl3_l_part (z :: zs) = (sSeq (sIf (cB (bOp (eqD false) (rP 1 []) (bC (.str s_t))))
  (sRet (eBin ixO (eLst (consA (cst (.int 0)) (consA (eFz (eBin subO (rd 2) (cst (.int 1)))) (consA (eFz (eCallF den_l_next [some 0, none] (lendB 0 (consA (rd 2) nilA)))) (consA (eFz (eCallF den_l_next [some 0, none] (lendB 0 (consA (rd 2) nilA)))) nilA))))) (rd 4)))
  sNext)
  tl2_l_part) (z :: zs) := rfl
def tl4_l_part : M Fl := (sSeq (sIf (cB (bOp (eqD false) (rP 1 []) (bC (.str s_k))))
  (sRet (eBin ixO (eLst (consA (cst (.int 99)) (consA (eUn negO (cst (.int 99))) (consA (eFz (eBin subO (eCallF den_l_next [some 0, none] (lendB 0 (consA (cst (.int 199)) nilA))) (cst (.int 99)))) (consA (eFz (eCallF den_l_next [some 0, none] (lendB 0 (consA (cst (.int 9)) nilA)))) nilA))))) (rd 4)))
  sNext)
  tl3_l_part)
@[simp] theorem tl4_l_part.c {z : Option O} {zs : Ws.Env} : tl4_l_part (z :: zs) = (sSeq (sIf (cB (bOp (eqD false) (rP 1 []) (bC (.str s_k))))
  (sRet (eBin ixO (eLst (consA (cst (.int 99)) (consA (eUn negO (cst (.int 99))) (consA (eFz (eBin subO (eCallF den_l_next [some 0, none] (lendB 0 (consA (cst (.int 199)) nilA))) (cst (.int 99)))) (consA (eFz (eCallF den_l_next [some 0, none] (lendB 0 (consA (cst (.int 9)) nilA)))) nilA))))) (rd 4)))
  sNext)
  tl3_l_part) (z :: zs) := rfl
def tl5_l_part : M Fl := (sSeq (sIf (cB (bOp (eqD false) (rP 1 []) (bC (.str s_w))))
  (sRet (eBin ixO (eLst (consA (cst (.str s_a)) (consA (cst (.str s_b)) (consA (cst (.str s_c)) (consA (cst (.str s_d)) (consA (cst (.str s_e)) (consA (cst (.str s_f)) (consA (cst (.str s_g)) (consA (cst (.str s_h)) (consA (cst (.str s_sp)) (consA (cst (.str s_sp)) (consA (cst (.str s_sp)) nilA)))))))))))) (eCallF den_l_next [some 0, none] (lendB 0 (consA (cst (.int 11)) nilA)))))
  sNext)
  tl4_l_part)
@[simp] theorem tl5_l_part.c {z : Option O} {zs : Ws.Env} : tl5_l_part (z :: zs) = (sSeq (sIf (cB (bOp (eqD false) (rP 1 []) (bC (.str s_w))))
  (sRet (eBin ixO (eLst (consA (cst (.str s_a)) (consA (cst (.str s_b)) (consA (cst (.str s_c)) (consA (cst (.str s_d)) (consA (cst (.str s_e)) (consA (cst (.str s_f)) (consA (cst (.str s_g)) (consA (cst (.str s_h)) (consA (cst (.str s_sp)) (consA (cst (.str s_sp)) (consA (cst (.str s_sp)) nilA)))))))))))) (eCallF den_l_next [some 0, none] (lendB 0 (consA (cst (.int 11)) nilA)))))
  sNext)
  tl4_l_part) (z :: zs) := rfl
def tl6_l_part : M Fl := (sSeq (sIf (cB (bOp (eqD false) (rP 1 []) (bC (.str s_r))))
  (sRet (eBin ixO (cst (.str s_abcdefgh)) (eCallF den_l_next [some 0, none] (lendB 0 (consA (cst (.int 8)) nilA)))))
  sNext)
  tl5_l_part)
@[simp] theorem tl6_l_part.c {z : Option O} {zs : Ws.Env} : tl6_l_part (z :: zs) = (sSeq (sIf (cB (bOp (eqD false) (rP 1 []) (bC (.str s_r))))
  (sRet (eBin ixO (cst (.str s_abcdefgh)) (eCallF den_l_next [some 0, none] (lendB 0 (consA (cst (.int 8)) nilA)))))
  sNext)
  tl5_l_part) (z :: zs) := rfl
def body_l_part : M Fl := (sSeq (sAsg (eCallF den_l_next [some 0, none] (lendB 0 (consA (cst (.int 4)) nilA))) (gN 4))
  tl6_l_part)
@[simp] theorem body_l_part.c {z : Option O} {zs : Ws.Env} : body_l_part (z :: zs) = (sSeq (sAsg (eCallF den_l_next [some 0, none] (lendB 0 (consA (cst (.int 4)) nilA))) (gN 4))
  tl6_l_part) (z :: zs) := rfl
def den_l_part : FD := fden 4 2 (fun i => ([0] : List Nat).contains i) body_l_part
def tl1_l_shape : M Fl := (sSeq (sDrop (eUpd 1 (eDisp [.inr s_load, .inr s_call, .inr s_ret_w, .inr s_go, .inr s_if_w, .inr s_out, .inr s_throw, .inr s_resume] (consA (cst (.str s_rwk)) (consA (cst (.str s_f)) (consA (cst (.str s__empty)) (consA (cst (.str s_t)) (consA (cst (.str s_t)) (consA (cst (.str s_r)) (consA (cst (.str s__empty)) (consA (cst (.str s__empty)) nilA)))))))))))
  (sRet (eB (bGet2 1 [] (bP 0 []) (bC .non)))))
@[simp] theorem tl1_l_shape.c {z : Option O} {zs : Ws.Env} : tl1_l_shape (z :: zs) = (sSeq (sDrop (eUpd 1 (eDisp [.inr s_load, .inr s_call, .inr s_ret_w, .inr s_go, .inr s_if_w, .inr s_out, .inr s_throw, .inr s_resume] (consA (cst (.str s_rwk)) (consA (cst (.str s_f)) (consA (cst (.str s__empty)) (consA (cst (.str s_t)) (consA (cst (.str s_t)) (consA (cst (.str s_r)) (consA (cst (.str s__empty)) (consA (cst (.str s__empty)) nilA)))))))))))
  (sRet (eB (bGet2 1 [] (bP 0 []) (bC .non))))) (z :: zs) := rfl
def body_l_shape : M Fl := (sSeq (sAsg (eDisp [.inr s_set_w, .inr s_copy, .inr s_mix, .inr s_push, .inr s_pop, .inr s_room, .inr s_store] (consA (cst (.str s_rn)) (consA (cst (.str s_ww)) (consA (cst (.str s_rrr)) (consA (cst (.str s_r)) (consA (cst (.str s_r)) (consA (cst (.str s_k)) (consA (cst (.str s_wkr)) nilA)))))))) (gN 1))
  tl1_l_shape)
@[simp] theorem body_l_shape.c {z : Option O} {zs : Ws.Env} : body_l_shape (z :: zs) = (sSeq (sAsg (eDisp [.inr s_set_w, .inr s_copy, .inr s_mix, .inr s_push, .inr s_pop, .inr s_room, .inr s_store] (consA (cst (.str s_rn)) (consA (cst (.str s_ww)) (consA (cst (.str s_rrr)) (consA (cst (.str s_r)) (consA (cst (.str s_r)) (consA (cst (.str s_k)) (consA (cst (.str s_wkr)) nilA)))))))) (gN 1))
  tl1_l_shape) (z :: zs) := rfl
def den_l_shape : FD := fden 1 1 (fun _ => false) body_l_shape
def cg1_l_code : GD := (gN 7)
@[simp] theorem cg1_l_code.c (o : O) {z : Option O} {zs : Ws.Env} : cg1_l_code o (z :: zs) = (gN 7) o (z :: zs) := rfl
def ce1_l_code : M O := (eCallF den_l_part [some 0, none, none, none] (lendB 0 (consA (rd 7) (consA (rd 1) (consA (rd 2) nilA)))))
@[simp] theorem ce1_l_code.c {z : Option O} {zs : Ws.Env} : ce1_l_code (z :: zs) = (eCallF den_l_part [some 0, none, none, none] (lendB 0 (consA (rd 7) (consA (rd 1) (consA (rd 2) nilA))))) (z :: zs) := rfl
def fg1_l_code : GD := (gN 5)
@[simp] theorem fg1_l_code.c (o : O) {z : Option O} {zs : Ws.Env} : fg1_l_code o (z :: zs) = (gN 5) o (z :: zs) := rfl
def fb1_l_code : M Fl := (sSeq (sAsg (eBin ixO (eBin addO (rd 3) (eLst (consA (cst (.str s_resume)) nilA))) (eCallF den_l_next [some 0, none] (lendB 0 (consA (cst (.int 15)) nilA)))) (gN 6))
  (sDrop (eMeth appF 4 (consA (eBin addO (eTup (consA (rd 6) nilA)) (eCall tupO (consA (eLc [7] (iAny (eCallF den_l_shape [none] (consA (rd 6) nilA))) cg1_l_code cYes ce1_l_code) nilA))) nilA))))
@[simp] theorem fb1_l_code.c {z : Option O} {zs : Ws.Env} : fb1_l_code (z :: zs) = (sSeq (sAsg (eBin ixO (eBin addO (rd 3) (eLst (consA (cst (.str s_resume)) nilA))) (eCallF den_l_next [some 0, none] (lendB 0 (consA (cst (.int 15)) nilA)))) (gN 6))
  (sDrop (eMeth appF 4 (consA (eBin addO (eTup (consA (rd 6) nilA)) (eCall tupO (consA (eLc [7] (iAny (eCallF den_l_shape [none] (consA (rd 6) nilA))) cg1_l_code cYes ce1_l_code) nilA))) nilA)))) (z :: zs) := rfl
def tl1_l_code : M Fl := (sSeq (sFor (iRange1 (consA (rd 1) nilA)) fg1_l_code fb1_l_code)
  (sRet (mv 4)))
@[simp] theorem tl1_l_code.c {z : Option O} {zs : Ws.Env} : tl1_l_code (z :: zs) = (sSeq (sFor (iRange1 (consA (rd 1) nilA)) fg1_l_code fb1_l_code)
  (sRet (mv 4))) (z :: zs) := rfl
def tl2_l_code : M Fl := (sSeq (sAsg (eLst nilA) (gN 4))
  tl1_l_code)
@[simp] theorem tl2_l_code.c {z : Option O} {zs : Ws.Env} : tl2_l_code (z :: zs) = (sSeq (sAsg (eLst nilA) (gN 4))
  tl1_l_code) (z :: zs) := rfl
def body_l_code : M Fl := (sSeq (sAsg (eLst (consA (cst (.str s_set_w)) (consA (cst (.str s_copy)) (consA (cst (.str s_mix)) (consA (cst (.str s_push)) (consA (cst (.str s_pop)) (consA (cst (.str s_room)) (consA (cst (.str s_store)) (consA (cst (.str s_load)) (consA (cst (.str s_call)) (consA (cst (.str s_ret_w)) (consA (cst (.str s_go)) (consA (cst (.str s_if_w)) (consA (cst (.str s_out)) (consA (cst (.str s_throw)) nilA))))))))))))))) (gN 3))
  tl2_l_code)
@[simp] theorem body_l_code.c {z : Option O} {zs : Ws.Env} : body_l_code (z :: zs) = (sSeq (sAsg (eLst (consA (cst (.str s_set_w)) (consA (cst (.str s_copy)) (consA (cst (.str s_mix)) (consA (cst (.str s_push)) (consA (cst (.str s_pop)) (consA (cst (.str s_room)) (consA (cst (.str s_store)) (consA (cst (.str s_load)) (consA (cst (.str s_call)) (consA (cst (.str s_ret_w)) (consA (cst (.str s_go)) (consA (cst (.str s_if_w)) (consA (cst (.str s_out)) (consA (cst (.str s_throw)) nilA))))))))))))))) (gN 3))
  tl2_l_code) (z :: zs) := rfl
def den_l_code : FD := fden 3 5 (fun i => ([0] : List Nat).contains i) body_l_code
def fg1_l_landings : GD := (gN 4)
@[simp] theorem fg1_l_landings.c (o : O) {z : Option O} {zs : Ws.Env} : fg1_l_landings o (z :: zs) = (gN 4) o (z :: zs) := rfl
def fb1_l_landings : M Fl := (sSeq (sAsg (eCallF den_l_next [some 0, none] (lendB 0 (consA (rd 1) nilA))) (gN 5))
  (sDrop (eMeth appF 3 (consA (eTup (consA (rd 5) (consA (eBin addO (eBin addO (rd 5) (cst (.int 1))) (eCallF den_l_next [some 0, none] (lendB 0 (consA (eBin subO (rd 1) (rd 5)) nilA)))) (consA (eCallF den_l_next [some 0, none] (lendB 0 (consA (rd 1) nilA))) nilA)))) nilA))))
@[simp] theorem fb1_l_landings.c {z : Option O} {zs : Ws.Env} : fb1_l_landings (z :: zs) = (sSeq (sAsg (eCallF den_l_next [some 0, none] (lendB 0 (consA (rd 1) nilA))) (gN 5))
  (sDrop (eMeth appF 3 (consA (eTup (consA (rd 5) (consA (eBin addO (eBin addO (rd 5) (cst (.int 1))) (eCallF den_l_next [some 0, none] (lendB 0 (consA (eBin subO (rd 1) (rd 5)) nilA)))) (consA (eCallF den_l_next [some 0, none] (lendB 0 (consA (rd 1) nilA))) nilA)))) nilA)))) (z :: zs) := rfl
def tl1_l_landings : M Fl := (sSeq (sFor (iRange1 (consA (eCallF den_l_next [some 0, none] (lendB 0 (consA (eBin addO (rd 2) (cst (.int 1))) nilA))) nilA)) fg1_l_landings fb1_l_landings)
  (sRet (mv 3)))
@[simp] theorem tl1_l_landings.c {z : Option O} {zs : Ws.Env} : tl1_l_landings (z :: zs) = (sSeq (sFor (iRange1 (consA (eCallF den_l_next [some 0, none] (lendB 0 (consA (eBin addO (rd 2) (cst (.int 1))) nilA))) nilA)) fg1_l_landings fb1_l_landings)
  (sRet (mv 3))) (z :: zs) := rfl
def body_l_landings : M Fl := (sSeq (sAsg (eLst nilA) (gN 3))
  tl1_l_landings)
@[simp] theorem body_l_landings.c {z : Option O} {zs : Ws.Env} : body_l_landings (z :: zs) = (sSeq (sAsg (eLst nilA) (gN 3))
  tl1_l_landings) (z :: zs) := rfl
def den_l_landings : FD := fden 3 3 (fun i => ([0] : List Nat).contains i) body_l_landings
def fg1_l_word : GD := (gN 3)
@[simp] theorem fg1_l_word.c (o : O) {z : Option O} {zs : Ws.Env} : fg1_l_word o (z :: zs) = (gN 3) o (z :: zs) := rfl
def fb1_l_word : M Fl := (sAsg (eBin addO (rd 2) (eBin ixO (cst (.str s_abcdefghijklmnopqrstuvwxyz)) (eCallF den_l_next [some 0, none] (lendB 0 (consA (cst (.int 26)) nilA))))) (gN 2))
@[simp] theorem fb1_l_word.c {z : Option O} {zs : Ws.Env} : fb1_l_word (z :: zs) = (sAsg (eBin addO (rd 2) (eBin ixO (cst (.str s_abcdefghijklmnopqrstuvwxyz)) (eCallF den_l_next [some 0, none] (lendB 0 (consA (cst (.int 26)) nilA))))) (gN 2)) (z :: zs) := rfl
def tl1_l_word : M Fl := (sSeq (sFor (iRange1 (consA (eBin addO (cst (.int 1)) (eCallF den_l_next [some 0, none] (lendB 0 (consA (cst (.int 8)) nilA)))) nilA)) fg1_l_word fb1_l_word)
  (sRet (mv 2)))
@[simp] theorem tl1_l_word.c {z : Option O} {zs : Ws.Env} : tl1_l_word (z :: zs) = (sSeq (sFor (iRange1 (consA (eBin addO (cst (.int 1)) (eCallF den_l_next [some 0, none] (lendB 0 (consA (cst (.int 8)) nilA)))) nilA)) fg1_l_word fb1_l_word)
  (sRet (mv 2))) (z :: zs) := rfl
def tl2_l_word : M Fl := (sSeq (sAsg (cst (.str s__empty)) (gN 2))
  tl1_l_word)
@[simp] theorem tl2_l_word.c {z : Option O} {zs : Ws.Env} : tl2_l_word (z :: zs) = (sSeq (sAsg (cst (.str s__empty)) (gN 2))
  tl1_l_word) (z :: zs) := rfl
def tl3_l_word : M Fl := (sSeq (sIf (eTst (eBin (opD (eqD false)) (eCallF den_l_next [some 0, none] (lendB 0 (consA (cst (.int 4)) nilA))) (cst (.int 0))))
  (sRet (eIxAt 1 (eCallF den_l_next [some 0, none] (lendB 0 (consA (cst (.int 16)) nilA)))))
  sNext)
  tl2_l_word)
@[simp] theorem tl3_l_word.c {z : Option O} {zs : Ws.Env} : tl3_l_word (z :: zs) = (sSeq (sIf (eTst (eBin (opD (eqD false)) (eCallF den_l_next [some 0, none] (lendB 0 (consA (cst (.int 4)) nilA))) (cst (.int 0))))
  (sRet (eIxAt 1 (eCallF den_l_next [some 0, none] (lendB 0 (consA (cst (.int 16)) nilA)))))
  sNext)
  tl2_l_word) (z :: zs) := rfl
def body_l_word : M Fl := (sSeq (sAsg (eLst (consA (cst (.str s_fun)) (consA (cst (.str s_land)) (consA (cst (.str s_set_w)) (consA (cst (.str s_call)) (consA (cst (.str s_ret_w)) (consA (cst (.str s_go)) (consA (cst (.str s_if_w)) (consA (cst (.str s_end)) (consA (cst (.str s_sp)) (consA (cst (.str s_a)) (consA (cst (.str s_e)) (consA (cst (.str s_h)) (consA (cst (.str s_end)) (consA (cst (.str s_none)) (consA (cst (.str s_zz)) (consA (cst (.str s_throw)) nilA))))))))))))))))) (gN 1))
  tl3_l_word)
@[simp] theorem body_l_word.c {z : Option O} {zs : Ws.Env} : body_l_word (z :: zs) = (sSeq (sAsg (eLst (consA (cst (.str s_fun)) (consA (cst (.str s_land)) (consA (cst (.str s_set_w)) (consA (cst (.str s_call)) (consA (cst (.str s_ret_w)) (consA (cst (.str s_go)) (consA (cst (.str s_if_w)) (consA (cst (.str s_end)) (consA (cst (.str s_sp)) (consA (cst (.str s_a)) (consA (cst (.str s_e)) (consA (cst (.str s_h)) (consA (cst (.str s_end)) (consA (cst (.str s_none)) (consA (cst (.str s_zz)) (consA (cst (.str s_throw)) nilA))))))))))))))))) (gN 1))
  tl3_l_word) (z :: zs) := rfl
def den_l_word : FD := fden 1 3 (fun i => ([0] : List Nat).contains i) body_l_word
def cg1_l_words : GD := (gN 5)
@[simp] theorem cg1_l_words.c (o : O) {z : Option O} {zs : Ws.Env} : cg1_l_words o (z :: zs) = (gN 5) o (z :: zs) := rfl
def ce1_l_words : M O := (eBin addO (eSlP 4 [] none (some (bC (.int 7)))) (rd 5))
@[simp] theorem ce1_l_words.c {z : Option O} {zs : Ws.Env} : ce1_l_words (z :: zs) = (eBin addO (eSlP 4 [] none (some (bC (.int 7)))) (rd 5)) (z :: zs) := rfl
def cc1_l_words : M Bool := (eTst (eBinR (inD true) (eBin addO (eSlP 4 [] none (some (bC (.int 7)))) (rd 5)) 2))
@[simp] theorem cc1_l_words.c {z : Option O} {zs : Ws.Env} : cc1_l_words (z :: zs) = (eTst (eBinR (inD true) (eBin addO (eSlP 4 [] none (some (bC (.int 7)))) (rd 5)) 2)) (z :: zs) := rfl
def tl1_l_words : M Fl := (sSeq (sIf (cB (bOp (inD false) (rP 4 []) (rP 2 [])))
  (sAsg (eBin ixO (eLc [5] (iAny (cst (.str s_abcdefghijklmnopqrstuvwxyz))) cg1_l_words cc1_l_words ce1_l_words) (cst (.int 0))) (gN 4))
  sNext)
  (sDrop (eMeth appF 2 (consA (rd 4) nilA))))
@[simp] theorem tl1_l_words.c {z : Option O} {zs : Ws.Env} : tl1_l_words (z :: zs) = (sSeq (sIf (cB (bOp (inD false) (rP 4 []) (rP 2 [])))
  (sAsg (eBin ixO (eLc [5] (iAny (cst (.str s_abcdefghijklmnopqrstuvwxyz))) cg1_l_words cc1_l_words ce1_l_words) (cst (.int 0))) (gN 4))
  sNext)
  (sDrop (eMeth appF 2 (consA (rd 4) nilA)))) (z :: zs) := rfl
def fg1_l_words : GD := (gN 3)
@[simp] theorem fg1_l_words.c (o : O) {z : Option O} {zs : Ws.Env} : fg1_l_words o (z :: zs) = (gN 3) o (z :: zs) := rfl
def fb1_l_words : M Fl := (sSeq (sAsg (eCallF den_l_word [some 0] (lendB 0 nilA)) (gN 4))
  tl1_l_words)
@[simp] theorem fb1_l_words.c {z : Option O} {zs : Ws.Env} : fb1_l_words (z :: zs) = (sSeq (sAsg (eCallF den_l_word [some 0] (lendB 0 nilA)) (gN 4))
  tl1_l_words) (z :: zs) := rfl
def tl2_l_words : M Fl := (sSeq (sFor (iRange1 (consA (rd 1) nilA)) fg1_l_words fb1_l_words)
  (sRet (mv 2)))
@[simp] theorem tl2_l_words.c {z : Option O} {zs : Ws.Env} : tl2_l_words (z :: zs) = (sSeq (sFor (iRange1 (consA (rd 1) nilA)) fg1_l_words fb1_l_words)
  (sRet (mv 2))) (z :: zs) := rfl
def body_l_words : M Fl := (sSeq (sAsg (eLst nilA) (gN 2))
  tl2_l_words)
@[simp] theorem body_l_words.c {z : Option O} {zs : Ws.Env} : body_l_words (z :: zs) = (sSeq (sAsg (eLst nilA) (gN 2))
  tl2_l_words) (z :: zs) := rfl
def den_l_words : FD := fden 2 4 (fun i => ([0] : List Nat).contains i) body_l_words
end Gd

namespace Ws
open PySem L2
/-! ### comprehensions that begin with anything in their own slots -/
theorem wipeE_idem (own : List Nat) (e : Ws.Env) : wipeE (wipeE e own) own = wipeE e own := by
  apply List.ext_getElem? 
  intro i
  have key : ∀ (own : List Nat) (e : Ws.Env) (i : Nat), (wipeE e own)[i]? = if i ∈ own then (e[i]?).map (fun _ => none) else e[i]? := by
    intro own
    induction own with
    | nil => intro e i; simp [wipeE]
    | cons j own ih =>
      intro e i
      have h : wipeE e (j :: own) = wipeE (e.set j none) own ∨ wipeE e (j :: own) = (wipeE e own).set j none := by
        first | exact .inl rfl | exact .inr rfl
      rcases h with h | h <;> rw [h]
      · rw [ih, List.getElem?_set]
        by_cases hj : j = i
        · subst hj
          by_cases hl : j < e.length <;> simp [hl]
        · have hj' : ¬ i = j := fun z => hj z.symm
          simp [hj, hj']
      · rw [List.getElem?_set, ih]
        have hlen : (wipeE e own).length = e.length := by
          have : ∀ (own : List Nat) (e : Ws.Env), (wipeE e own).length = e.length := by
            intro own
            induction own with
            | nil => intro e; rfl
            | cons k own ih2 => intro e; simp_all [wipeE]
          exact this own e
        by_cases hj : j = i
        · subst hj
          by_cases hl : j < e.length <;> simp [hl, hlen]
        · have hj' : ¬ i = j := fun z => hj z.symm
          simp [hj, hj']
  rw [key, key]
  by_cases h : i ∈ own <;> simp [h, Function.comp_def]
theorem loopC_wiped {own : List Nat} {g : GD} {c : M Bool} {elt : M O} {x : D} {xs : List D} {acc : List O} {e : Ws.Env} : loopC own g c elt (x :: xs) acc e = loopC own g c elt (x :: xs) acc (wipeE e own) := by
  rw [loopC, loopC, wipeE_idem]
theorem loopC_pureW {own : List Nat} {g : GD} {c : M Bool} {elt : M O} {f : D → O} {e e0 : Ws.Env} (hw : wipeE e own = e0) {items : List D} (hl : items.length ≤ 100000) (h : ∀ x ∈ items, ∃ e1, g (.pu x) e0 = some e1 ∧ c e1 = .ok true e1 ∧ ∃ e3, elt e1 = .ok (f x) e3 ∧ wipeE e3 own = e0) :
    ∃ e', loopC own g c elt items [] e = .ok (items.map f) e' ∧ wipeE e' own = e0 := by
  cases items with
  | nil => exact ⟨e, by simp [loopC], hw⟩
  | cons x xs =>
    rw [loopC_wiped, hw]
    have h0 : wipeE e0 own = e0 := by rw [← hw, wipeE_idem]
    exact ⟨e0, by simpa using loopC_pure (acc := []) h0 (by simpa using hl) h, h0⟩
@[simp] theorem allP_fun {α : Type} (f : α → D) (xs : List α) : allP (xs.map fun x => O.pu (f x)) = some (xs.map f) := allP_comp f xs
end Ws

namespace Ws
open PySem L2
/-! ### trees whose text is short: depth at most k, at most n signs -/
structure RpP (k n : Nat) (p : PyData) : Prop where
  s : p.showable = true
  d : p.depth ≤ k
  l : p.shown.length ≤ n
def Rp (k n : Nat) (d : D) : Prop := ∃ p, d.py = some p ∧ RpP k n p
theorem Rp.mono {k n k' n' : Nat} {d : D} (h : Rp k n d) (hk : k ≤ k') (hn : n ≤ n') : Rp k' n' d := by
  obtain ⟨p, h1, a, b, c⟩ := h
  exact ⟨p, h1, a, Nat.le_trans b hk, Nat.le_trans c hn⟩
noncomputable def shw (d : D) : Str := match d.py with
  | some p => p.shown
  | none => Str.empty
theorem repr_of {k n : Nat} {d : D} (h : Rp k n d) (hk : k ≤ 60) (hn : n ≤ 16000000) : reprD [d] = some (.str (shw d)) := by
  obtain ⟨p, h1, a, b, c⟩ := h
  simp [reprD, shw, h1, a, Nat.le_trans b hk, Nat.le_trans c hn]
theorem rp_int {i : Int} {m : Nat} (hm : 0 < m) (hm2 : m < 500) (h1 : -10 ^ m < i) (h2 : i < 10 ^ m) : Rp 0 (m + 1) (.int i) := by
  refine ⟨.int i, py_int i, ?_, ?_, ?_⟩
  · have h3 : i.natAbs < 10 ^ m := by
      have e : ((10 ^ m : Nat) : Int) = (10 : Int) ^ m := by simp
      omega
    have h4 : i.natAbs < 2 ^ 1920 := by
      refine Nat.lt_of_lt_of_le h3 (Nat.le_trans (Nat.pow_le_pow_right (by decide) (show m ≤ 500 by omega)) ?_)
      decide +kernel
    simp only [PyData.showable, decide_eq_true_eq]
    by_cases h0 : i.natAbs = 0
    · rw [h0]; decide
    · exact (Nat.log2_lt h0).mpr h4
  · simp [PyData.depth]
  · show (Str.ofString (toString i)).length ≤ m + 1
    by_cases h0 : 0 ≤ i
    · exact Nat.le_trans (PyProof.Rows.toString_length_le h0 hm h2) (by omega)
    · have := PyProof.Rows.len_text_negI (n := i) (by omega)
      have h3 := PyProof.Rows.toString_length_le (v := 0 - i) (by omega) hm (by omega)
      omega
theorem rp_bl (b : Bool) : Rp 0 5 (.bl b) := ⟨.bool b, py_bl b, rfl, by simp [PyData.depth], by cases b <;> decide⟩
theorem rp_non : Rp 0 4 .non := ⟨.none, py_non, rfl, by simp [PyData.depth], by decide⟩
theorem rp_str {x : Str} {m : Nat} (h : x.length ≤ m) (hx : ∀ c ∈ x.cps.toList, c < 16 ^ 8) : Rp 0 (10 * m + 2) (.str x) := by
  refine ⟨.str x, py_str x, rfl, by simp [PyData.depth], ?_⟩
  have := PySem.StrLaws.reprText_len x hx
  show (reprText x).length ≤ _
  omega
theorem piled_le {n : Nat} : ∀ {ts : List Str}, (∀ t ∈ ts, t.length ≤ n) → piled ts ≤ ts.length * (n + 2)
  | [], _ => by simp [piled]
  | t :: ts, h => by
    have h1 := h t (by simp)
    have h2 := piled_le (n := n) (ts := ts) fun u hu => h u (by simp [hu])
    rw [piled_cons, List.length_cons, Nat.add_mul]
    omega
theorem listText_le {n : Nat} : ∀ {ts : List Str}, (∀ t ∈ ts, t.length ≤ n) → (listText ts).length ≤ ts.length * (n + 2) + 2
  | [], _ => by have : (listText []).length = 2 := by decide
                omega
  | t :: r, h => by
    have hp := piled_le (n := n) (ts := r) fun u hu => h u (by simp [hu])
    have h1 := h t (by simp)
    have h' := textFrom_length_pos r 1 (("[" : Str) ++ (if (0 : Nat) > 0 then ", " else "" : String) ++ t) (Nat.succ_pos 0)
    have e : ((("[" : Str) ++ (if (0 : Nat) > 0 then ", " else "" : String) ++ t)).length = 1 + t.length := by
      rw [strLen_append, strLen_append]; rfl
    have hX : (listText (t :: r)).length = (textFrom 0 "[" (t :: r)).length + 1 := by
      show (textFrom 0 "[" (t :: r) ++ "]").length = _
      rw [strLen_append]; rfl
    have hY : (textFrom 0 "[" (t :: r)).length = (textFrom 1 (("[" : Str) ++ (if (0 : Nat) > 0 then ", " else "" : String) ++ t) r).length := rfl
    rw [hX, hY, h', e, List.length_cons, Nat.add_mul]; omega
theorem tupleText_le {n : Nat} {ts : List Str} (h : ∀ t ∈ ts, t.length ≤ n) : (tupleText ts).length ≤ ts.length * (n + 2) + 3 := by
  have hp := piled_le (n := n) h
  unfold tupleText
  rw [strLen_append, strLen_append]
  have e1 : ((("(" : String) : Str)).length = 1 := rfl
  have e3 : (((if ts.length == 1 then ",)" else ")" : String) : Str)).length ≤ 2 := by split <;> decide
  rw [e1]
  by_cases h : ts = []
  · subst h; have e4 : (Str.join ", " ([] : List Str)).length = 0 := rfl
    rw [e4]; omega
  · have := join_length_add ts h
    omega
theorem rps_of {k n : Nat} : ∀ {ds : List D}, (∀ d ∈ ds, Rp k n d) → ∃ ps, D.pys ds = some ps ∧ PyData.showableAll ps = true ∧ PyData.depthAll ps ≤ k ∧ (PyData.shownAll ps).length = ds.length ∧ ∀ t ∈ PyData.shownAll ps, t.length ≤ n
  | [], _ => ⟨[], pys_nil, by simp [PyData.showableAll], by simp [PyData.depthAll], by simp [PyData.shownAll], by simp [PyData.shownAll]⟩
  | d :: ds, h => by
    obtain ⟨p, h1, a, b, c⟩ := h d (by simp)
    obtain ⟨ps, h2, a2, b2, c2, e2⟩ := rps_of (ds := ds) fun x hx => h x (by simp [hx])
    refine ⟨p :: ps, by rw [pys_cons, h1, h2], by simp [PyData.showableAll, a, a2], by simp only [PyData.depthAll]; omega, by simp [PyData.shownAll, c2], fun t ht => ?_⟩
    simp [PyData.shownAll] at ht
    rcases ht with rfl | ht
    · exact c
    · exact e2 t ht
theorem rp_lst {k n m : Nat} {ds : List D} (h : ∀ d ∈ ds, Rp k n d) (hm : ds.length ≤ m) : Rp (k + 1) (m * (n + 2) + 2) (.lst ds) := by
  obtain ⟨ps, h2, a2, b2, c2, e2⟩ := rps_of h
  refine ⟨.list ps, by rw [py_lst, h2]; rfl, by simpa [PyData.showable] using a2, by simp only [PyData.depth]; omega, ?_⟩
  have := listText_le e2
  rw [c2] at this
  have h3 : ds.length * (n + 2) ≤ m * (n + 2) := Nat.mul_le_mul_right _ hm
  simp only [PyData.shown]
  omega
theorem rp_tup {k n m : Nat} {ds : List D} (h : ∀ d ∈ ds, Rp k n d) (hm : ds.length ≤ m) : Rp (k + 1) (m * (n + 2) + 3) (.tup ds) := by
  obtain ⟨ps, h2, a2, b2, c2, e2⟩ := rps_of h
  refine ⟨.tuple ps, by rw [py_tup, h2]; rfl, by simpa [PyData.showable] using a2, by simp only [PyData.depth]; omega, ?_⟩
  have := tupleText_le e2
  rw [c2] at this
  have h3 : ds.length * (n + 2) ≤ m * (n + 2) := Nat.mul_le_mul_right _ hm
  simp only [PyData.shown]
  omega
end Ws

namespace Ws
open PySem L2
/-! ### comprehensions of two clauses -/
def loopC2 (own vs1 : List Nat) (g : GD) (c : M Bool) (mi1 : M (List D)) (g1 : GD) (c1 : M Bool) (elt : M O) : List D → List O → Ws.Env → Out (List O)
  | [], acc, e => .ok acc e
  | x :: xs, acc, e => match g (.pu x) (wipeE e own) with
    | none => .no
    | some e1 => match c e1 with
      | .ok false e2 => loopC2 own vs1 g c mi1 g1 c1 elt xs acc (wipeE e2 own)
      | .ok true e2 => (match mi1 e2 with
        | .ok ys e3 => (match loopC vs1 g1 c1 elt ys acc e3 with
          | .ok acc2 e4 => loopC2 own vs1 g c mi1 g1 c1 elt xs acc2 (wipeE e4 own)
          | _ => .no)
        | _ => .no)
      | _ => .no
def eLc2 (own vs1 : List Nat) (mi : M (List D)) (g : GD) (c : M Bool) (mi1 : M (List D)) (g1 : GD) (c1 : M Bool) (elt : M O) : M O := fun env => (mi env).bind fun items e => lcK own (loopC2 own vs1 g c mi1 g1 c1 elt items [] e)
@[simp] theorem eLc2.c (own vs1 : List Nat) (mi : M (List D)) (g : GD) (c : M Bool) (mi1 : M (List D)) (g1 : GD) (c1 : M Bool) (elt : M O) {z : Option O} {zs : Ws.Env} : eLc2 own vs1 mi g c mi1 g1 c1 elt (z :: zs) = (mi (z :: zs)).bind fun items e => lcK own (loopC2 own vs1 g c mi1 g1 c1 elt items [] e) := rfl
section
variable {K : PySem.W.Frag} {Z Z' H H' : Hp} {σ σ' σ1 τ ρ : L2.St} {env env' T R : Ws.Env} {F G A : Fp} {Q Q' : VK} {v : V} {o o1 : O} {d : D}
theorem wipe_of_pin {own : List Nat} {σ3 : L2.St} (p3 : Pin (fun i => !own.contains i) (L2.wipe σ own) σ3) : L2.wipe σ3 own = L2.wipe σ own := wipe_pin p3
theorem lc2_imp {E : XK} {own vs1 : List Nat} {mi mi1 : M (List D)} {wi wi1 : TI} {g g1 : GD} {tg tg1 : TG} {c c1 : M Bool} {tc tc1 : TT} {elt : M O} {te : TE} (hi : ∀ σ H R, tI K E mi σ H R → wi σ H R) (hg : ∀ v σ H Q, tG K (fun i => !own.contains i) g v σ H Q → tg v σ H Q)
    (hc : ∀ σ H Q, tT K E0 c σ H Q → tc σ H Q) (hi1 : ∀ σ H R, tI K E0 mi1 σ H R → wi1 σ H R) (hg1 : ∀ v σ H Q, tG K (fun i => !vs1.contains i) g1 v σ H Q → tg1 v σ H Q) (hc1 : ∀ σ H Q, tT K E0 c1 σ H Q → tc1 σ H Q)
    (he : ∀ σ H Q, tE K E0 elt σ H Q → te σ H Q) {σ : L2.St} {H : Hp} {Q : VK} (h : tE K E (eLc2 own vs1 mi g c mi1 g1 c1 elt) σ H Q) : tLc2 wi tg tc wi1 tg1 tc1 te own vs1 σ H Q := by
  obtain ⟨Z, τ, T, env, F, ok, hl, post⟩ := h
  refine hi σ H _ ⟨Z, τ, T, env, F, ok, hl, ?_⟩
  have st := bindI (fun Z o => PostE K E Z τ T σ Q o) (fun s h => PostE.mono s h) (fun h => h) (fun h => h) post
  cases e0 : mi env with
  | no => rw [e0] at st; exact st
  | ex x e1 => rw [e0] at st; exact st
  | ok ys0 e10 =>
  rw [e0] at st
  intro J H1 Z1' F1' s1' ok1' wk1' D hD
  obtain ⟨Z1, F1, ys, e1, s1, ok1, wk, post1⟩ := st J H1 Z1' F1' s1' ok1' wk1'
  have ok2 := Ok.newL (vs := []) (os := []) (F1 := fun _ => 0) (F2 := F1) ok1 ok1.sl .nil (fun b => by simp) hD
  refine ⟨fun i m H' => m = ys.length - i ∧ i ≤ ys.length ∧ ∃ (Z' : Hp) (acc : List O) (e' : Ws.Env) (F' : Fp), Same Z1 Z' ∧ Ok K Z' H' (some (.ref D) :: (τ ++ σ)) (some (.li acc) :: (T ++ e')) F' ∧
      PostE K E Z' τ T σ Q (lcK own (loopC2 own vs1 g c mi1 g1 c1 elt (ys.drop i) acc e')),
    ⟨ys.length, rfl, Nat.zero_le _, Z1, [], e1, _, Same.refl _, ok2, by simpa using post1⟩, ?_⟩
  rintro i m H' ⟨rfl, hi', Z', acc, e', F', s', ok', post'⟩
  obtain ⟨w1, w2, w3⟩ := wk H' (Same.sub s' ok'.sub)
  by_cases hlt : i < ys.length
  · refine .inr ⟨w1 i hlt, fun H2 => ∃ (Z2 : Hp) (acc : List O) (e2 : Ws.Env) (F2 : Fp), Same Z1 Z2 ∧ Ok K Z2 H2 (some (.ref D) :: (τ ++ σ)) (some (.li acc) :: (T ++ e2)) F2 ∧
        PostE K E Z2 τ T σ Q (lcK own (loopC2 own vs1 g c mi1 g1 c1 elt (ys.drop (i + 1)) acc e2)), fun H2 q => ⟨ys.length - (i + 1), by omega, rfl, hlt, q⟩, fun x H2 y => ?_⟩
    obtain ⟨sh, d, ed, hz⟩ := w3 i x H2 hlt y
    obtain ⟨Z3, s3, t3, n3, q3⟩ := hz Z' s' ok'.sub
    rw [drop_lt ed] at post'
    unfold loopC2 at post'
    cases eg : g (.pu d) (wipeE e' own) with
    | none => rw [eg] at post'; exact post'.elim
    | some e2 =>
    simp only [eg] at post'
    have okw := Ok.wipe (τ := some (.ref D) :: τ) (T := some (.li acc) :: T) own (by simp [hl]) ok'
    refine hg x _ H2 _ ⟨Z3, some (.ref D) :: τ, some (.li acc) :: T, wipeE e' own, e2, F', .pu d, okw.turn sh s3 t3 n3 q3, by simp [hl], eg, fun σ3 H3 Z4 F3 s4 p3 ok3 => ?_⟩
    have hw : L2.wipe σ3 own = L2.wipe σ own := wipe_pin p3
    refine ⟨hw, hc σ3 H3 _ ⟨Z4, some (.ref D) :: τ, some (.li acc) :: T, e2, F3, ok3, by simp [hl], ?_⟩⟩
    have post2 := PostE.mono (s3.trans s4) post'
    cases ec : c e2 with
    | no => simp only [ec] at post2; exact post2.elim
    | ex x e3 => simp only [ec] at post2; exact post2.elim
    | ok b e3 =>
    intro H5 Z5 F5 s5 ok5
    cases b with
    | false =>
      simp only [ec] at post2
      show ∃ (Z2 : Hp) (acc : List O) (e2 : Ws.Env) (F2 : Fp), _
      have ok6 := Ok.swapW (τ := some (.ref D) :: τ) (T := some (.li acc) :: T) own (by simp [hl]) hw ok5
      exact ⟨Z5, acc, _, F5, (s'.trans (s3.trans s4)).trans s5, ok6, PostE.mono s5 post2⟩
    | true =>
      simp only [ec] at post2
      show wi1 σ3 H5 _
      refine hi1 σ3 H5 _ ⟨Z5, some (.ref D) :: τ, some (.li acc) :: T, e3, F5, ok5, by simp [hl], ?_⟩
      cases ei : mi1 e3 with
      | no => simp only [ei] at post2; exact post2.elim
      | ex x e4 => simp only [ei] at post2; exact post2.elim
      | ok zs e4 =>
      simp only [ei] at post2
      intro J1 H6 Z6 F6 s6 ok6 wk1
      have sA : Same Z1 Z6 := ((s'.trans (s3.trans s4)).trans s5).trans s6
      refine ⟨fun j n H7 => n = zs.length - j ∧ j ≤ zs.length ∧ ∃ (Z7 : Hp) (acc : List O) (e7 : Ws.Env) (F7 : Fp), Same Z6 Z7 ∧ Ok K Z7 H7 (some (.ref D) :: (τ ++ σ3)) (some (.li acc) :: (T ++ e7)) F7 ∧
          PostE K E Z7 τ T σ Q (lcK own (match loopC vs1 g1 c1 elt (zs.drop j) acc e7 with
            | .ok acc2 e4 => loopC2 own vs1 g c mi1 g1 c1 elt (ys.drop (i + 1)) acc2 (wipeE e4 own)
            | _ => .no)),
        ⟨zs.length, rfl, Nat.zero_le _, Z6, acc, e4, F6, Same.refl _, ok6, by simpa using PostE.mono (s5.trans s6) post2⟩, ?_⟩
      rintro j n H7 ⟨rfl, hj, Z7, acc7, e7, F7, s7, ok7, post7⟩
      obtain ⟨u1, u2, u3⟩ := wk1 H7 (Same.sub s7 ok7.sub)
      by_cases hlt1 : j < zs.length
      · refine .inr ⟨u1 j hlt1, fun H8 => ∃ (Z8 : Hp) (acc : List O) (e8 : Ws.Env) (F8 : Fp), Same Z6 Z8 ∧ Ok K Z8 H8 (some (.ref D) :: (τ ++ σ3)) (some (.li acc) :: (T ++ e8)) F8 ∧
            PostE K E Z8 τ T σ Q (lcK own (match loopC vs1 g1 c1 elt (zs.drop (j + 1)) acc e8 with
              | .ok acc2 e4 => loopC2 own vs1 g c mi1 g1 c1 elt (ys.drop (i + 1)) acc2 (wipeE e4 own)
              | _ => .no)), fun H8 q => ⟨zs.length - (j + 1), by omega, rfl, hlt1, q⟩, fun x1 H8 y1 => ?_⟩
        obtain ⟨sh1, d1, ed1, hz1⟩ := u3 j x1 H8 hlt1 y1
        obtain ⟨Z9, s9, t9, n9, q9⟩ := hz1 Z7 s7 ok7.sub
        rw [drop_lt ed1] at post7
        unfold loopC at post7
        cases eg1 : g1 (.pu d1) (wipeE e7 vs1) with
        | none => rw [eg1] at post7; exact post7.elim
        | some e8 =>
        simp only [eg1] at post7
        have okw1 := Ok.wipe (τ := some (.ref D) :: τ) (T := some (.li acc7) :: T) vs1 (by simp [hl]) ok7
        refine hg1 x1 _ H8 _ ⟨Z9, some (.ref D) :: τ, some (.li acc7) :: T, wipeE e7 vs1, e8, F7, .pu d1, okw1.turn sh1 s9 t9 n9 q9, by simp [hl], eg1, fun σ10 H10 Z10 F10 s10 p10 ok10 => ?_⟩
        have hw1 : L2.wipe σ10 vs1 = L2.wipe σ3 vs1 := wipe_pin p10
        refine ⟨hw1, hc1 σ10 H10 _ ⟨Z10, some (.ref D) :: τ, some (.li acc7) :: T, e8, F10, ok10, by simp [hl], ?_⟩⟩
        have post8 := PostE.mono (s9.trans s10) post7
        cases ec1 : c1 e8 with
        | no => simp only [ec1] at post8; exact post8.elim
        | ex x e3 => simp only [ec1] at post8; exact post8.elim
        | ok b1 e9 =>
        intro H11 Z11 F11 s11 ok11
        cases b1 with
        | false =>
          simp only [ec1] at post8
          show ∃ (Z8 : Hp) (acc : List O) (e8 : Ws.Env) (F8 : Fp), _
          have ok12 := Ok.swapW (τ := some (.ref D) :: τ) (T := some (.li acc7) :: T) vs1 (by simp [hl]) hw1 ok11
          exact ⟨Z11, acc7, _, F11, (s7.trans (s9.trans s10)).trans s11, ok12, PostE.mono s11 post8⟩
        | true =>
          simp only [ec1] at post8
          show te σ10 H11 _
          refine he σ10 H11 _ ⟨Z11, some (.ref D) :: τ, some (.li acc7) :: T, e9, F11, ok11, by simp [hl], ?_⟩
          cases ee : elt e9 with
          | no => simp only [ee] at post8; exact post8.elim
          | ex x e4 => simp only [ee] at post8; exact post8.elim
          | ok yo e12 =>
            simp only [ee] at post8
            by_cases hz : acc7.length < 100000
            · simp only [if_pos hz] at post8
              intro y H12 Z12 F12 s12 ok12
              obtain ⟨vs, hD12, hlen, ok13⟩ := Ok.addTop ok12
              refine ⟨vs, hD12, Nat.lt_of_lt_of_le (by omega : vs.length < 100000) (by decide), ?_⟩
              have ok14 := Ok.swapW (τ := some (.ref D) :: τ) (T := some (.li (acc7 ++ [yo])) :: T) vs1 (by simp [hl]) hw1 ok13
              exact ⟨Z12, acc7 ++ [yo], _, F12, ((s7.trans (s9.trans s10)).trans s11).trans s12, ok14, PostE.mono (s11.trans s12) post8⟩
            · simp only [if_neg hz] at post8
              exact post8.elim
      · have e : j = zs.length := by omega
        subst e
        refine .inl ⟨u2, ?_⟩
        rw [List.drop_length] at post7
        have ok15 := Ok.swapW (τ := some (.ref D) :: τ) (T := some (.li acc7) :: T) own (by simp [hl]) hw ok7
        exact ⟨Z7, acc7, _, F7, sA.trans s7, ok15, post7⟩
  · have e : i = ys.length := by omega
    subst e
    refine .inl ⟨w2, ?_⟩
    rw [List.drop_length] at post'
    have ok9 := Ok.swapW (τ := some (.ref D) :: τ) (T := some (.li acc) :: T) (σ' := σ) own (by simp [hl]) rfl ok'
    exact post' _ H' Z' F' (Same.refl _) ok9
end
section
variable {X : Cx} {E : XK} {io : Nat → Bool} {pos : Pos} {tg iter tg1 iter1 elt cnd1 : Expr} {mi mi1 : M (List D)} {g g1 : GD} {mc1 : M Bool} {me : M O}
theorem v_lc2 {scope : Scope} {own : List (Str × Nat)} {vs1 : List Nat} (hc : X.calm = true) (hN : X.N.Nodup) (hi : VI X E tg iter mi) (ok : BlkOk X.N X.env.scope scope own) (hv : ∀ i ∈ vs1, i ∈ own.map (·.2))
    (hg : ∀ s H C cl fp, VG (Blk X scope s H C cl fp) (fun i => !(own.map (·.2)).contains i) tg g) (hi1 : ∀ s H C cl fp, VI (Blk X scope s H C cl fp) E0 tg1 iter1 mi1) (hg1 : ∀ s H C cl fp, VG (Blk X scope s H C cl fp) (fun i => !vs1.contains i) tg1 g1)
    (he : ∀ s H C cl fp, VE (Blk X scope s H C cl fp) E0 elt me) (hs : ∀ x, foldedSetIterable iter X.env x = Pure.pure x := by intro _; rfl) (hs1 : ∀ env x, foldedSetIterable iter1 env x = Pure.pure x := by intro _ _; rfl) :
    VE X E (.ListComp elt [⟨tg, iter, [], 0⟩, ⟨tg1, iter1, [], 0⟩] scope pos) (eLc2 (own.map (·.2)) vs1 mi g cYes mi1 g1 cYes me) :=
  (pe_lc2 (tt := tT X.K E0 cYes) (tt1 := tT X.K E0 cYes) hc hN hi ok hv hg (fun _ _ _ _ _ => ⟨fun pins s σ H Q I h => pts_nil.run pins s σ H Q I (yes_imp h)⟩) hi1 hg1 (fun _ _ _ _ _ => ⟨fun pins s σ H Q I h => pts_nil.run pins s σ H Q I (yes_imp h)⟩) he hs hs1).weak
    fun _ _ _ => lc2_imp (fun _ _ _ h => h) (fun _ _ _ _ h => h) (fun _ _ _ h => h) (fun _ _ _ h => h) (fun _ _ _ _ h => h) (fun _ _ _ h => h) fun _ _ _ h => h
theorem v_lc2If {scope : Scope} {own : List (Str × Nat)} {vs1 : List Nat} (hc : X.calm = true) (hN : X.N.Nodup) (hi : VI X E tg iter mi) (ok : BlkOk X.N X.env.scope scope own) (hv : ∀ i ∈ vs1, i ∈ own.map (·.2))
    (hg : ∀ s H C cl fp, VG (Blk X scope s H C cl fp) (fun i => !(own.map (·.2)).contains i) tg g) (hi1 : ∀ s H C cl fp, VI (Blk X scope s H C cl fp) E0 tg1 iter1 mi1) (hg1 : ∀ s H C cl fp, VG (Blk X scope s H C cl fp) (fun i => !vs1.contains i) tg1 g1)
    (ht1 : ∀ s H C cl fp, VT (Blk X scope s H C cl fp) E0 cnd1 mc1) (he : ∀ s H C cl fp, VE (Blk X scope s H C cl fp) E0 elt me) (hs : ∀ x, foldedSetIterable iter X.env x = Pure.pure x := by intro _; rfl) (hs1 : ∀ env x, foldedSetIterable iter1 env x = Pure.pure x := by intro _ _; rfl) :
    VE X E (.ListComp elt [⟨tg, iter, [], 0⟩, ⟨tg1, iter1, [cnd1], 0⟩] scope pos) (eLc2 (own.map (·.2)) vs1 mi g cYes mi1 g1 mc1 me) :=
  (pe_lc2 (tt := tT X.K E0 cYes) (tt1 := tT X.K E0 mc1) hc hN hi ok hv hg (fun _ _ _ _ _ => ⟨fun pins s σ H Q I h => pts_nil.run pins s σ H Q I (yes_imp h)⟩) hi1 hg1 (fun s H C cl fp => pts_one (ht1 s H C cl fp)) he hs hs1).weak
    fun _ _ _ => lc2_imp (fun _ _ _ h => h) (fun _ _ _ _ h => h) (fun _ _ _ h => h) (fun _ _ _ h => h) (fun _ _ _ _ h => h) (fun _ _ _ h => h) fun _ _ _ h => h
theorem s_setLc2 {i : Nat} {y : Str} {py p : Pos} {scope : Scope} {own : List (Str × Nat)} {vs1 : List Nat} (hc : X.calm = true) (hN : X.N.Nodup) (hy : X.N[i]? = some y) (hyl : X.env.scope.names.lookup y = some .local)
    (hsw : swapsWith (.ListComp elt [⟨tg, iter, [], 0⟩, ⟨tg1, iter1, [], 0⟩] scope p) (some (.Name y py)) pos.line X.env = Pure.pure true) (hi : VI X E tg iter mi) (ok : BlkOk X.N X.env.scope scope own) (hv : ∀ i ∈ vs1, i ∈ own.map (·.2))
    (hg : ∀ s H C cl fp, VG (Blk X scope s H C cl fp) (fun i => !(own.map (·.2)).contains i) tg g) (hi1 : ∀ s H C cl fp, VI (Blk X scope s H C cl fp) E0 tg1 iter1 mi1) (hg1 : ∀ s H C cl fp, VG (Blk X scope s H C cl fp) (fun i => !vs1.contains i) tg1 g1)
    (he : ∀ s H C cl fp, VE (Blk X scope s H C cl fp) E0 elt me) (hio : io i = false := by rfl) (hs : ∀ x, foldedSetIterable iter X.env x = Pure.pure x := by intro _; rfl) (hs1 : ∀ env x, foldedSetIterable iter1 env x = Pure.pure x := by intro _ _; rfl) :
    VS X E io (.Assign [.Name y py] (.ListComp elt [⟨tg, iter, [], 0⟩, ⟨tg1, iter1, [], 0⟩] scope p) pos) (sAsg (eLc2 (own.map (·.2)) vs1 mi g cYes mi1 g1 cYes me) (gN i)) :=
  (ps_setLc2 (tt := tT X.K E0 cYes) (tt1 := tT X.K E0 cYes) hc hN hy hyl hsw hi ok hv hg (fun _ _ _ _ _ => ⟨fun pins s σ H Q I h => pts_nil.run pins s σ H Q I (yes_imp h)⟩) hi1 hg1 (fun _ _ _ _ _ => ⟨fun pins s σ H Q I h => pts_nil.run pins s σ H Q I (yes_imp h)⟩) he hs hs1).weak
    fun _ _ _ => asg_imp (fun _ _ _ => lc2_imp (fun _ _ _ h => h) (fun _ _ _ _ h => h) (fun _ _ _ h => h) (fun _ _ _ h => h) (fun _ _ _ _ h => h) (fun _ _ _ h => h) fun _ _ _ h => h) fun _ _ _ _ => gN_imp hio
theorem s_setLc2If {i : Nat} {y : Str} {py p : Pos} {scope : Scope} {own : List (Str × Nat)} {vs1 : List Nat} (hc : X.calm = true) (hN : X.N.Nodup) (hy : X.N[i]? = some y) (hyl : X.env.scope.names.lookup y = some .local)
    (hsw : swapsWith (.ListComp elt [⟨tg, iter, [], 0⟩, ⟨tg1, iter1, [cnd1], 0⟩] scope p) (some (.Name y py)) pos.line X.env = Pure.pure true) (hi : VI X E tg iter mi) (ok : BlkOk X.N X.env.scope scope own) (hv : ∀ i ∈ vs1, i ∈ own.map (·.2))
    (hg : ∀ s H C cl fp, VG (Blk X scope s H C cl fp) (fun i => !(own.map (·.2)).contains i) tg g) (hi1 : ∀ s H C cl fp, VI (Blk X scope s H C cl fp) E0 tg1 iter1 mi1) (hg1 : ∀ s H C cl fp, VG (Blk X scope s H C cl fp) (fun i => !vs1.contains i) tg1 g1)
    (ht1 : ∀ s H C cl fp, VT (Blk X scope s H C cl fp) E0 cnd1 mc1) (he : ∀ s H C cl fp, VE (Blk X scope s H C cl fp) E0 elt me) (hio : io i = false := by rfl) (hs : ∀ x, foldedSetIterable iter X.env x = Pure.pure x := by intro _; rfl) (hs1 : ∀ env x, foldedSetIterable iter1 env x = Pure.pure x := by intro _ _; rfl) :
    VS X E io (.Assign [.Name y py] (.ListComp elt [⟨tg, iter, [], 0⟩, ⟨tg1, iter1, [cnd1], 0⟩] scope p) pos) (sAsg (eLc2 (own.map (·.2)) vs1 mi g cYes mi1 g1 mc1 me) (gN i)) :=
  (ps_setLc2 (tt := tT X.K E0 cYes) (tt1 := tT X.K E0 mc1) hc hN hy hyl hsw hi ok hv hg (fun _ _ _ _ _ => ⟨fun pins s σ H Q I h => pts_nil.run pins s σ H Q I (yes_imp h)⟩) hi1 hg1 (fun s H C cl fp => pts_one (ht1 s H C cl fp)) he hs hs1).weak
    fun _ _ _ => asg_imp (fun _ _ _ => lc2_imp (fun _ _ _ h => h) (fun _ _ _ _ h => h) (fun _ _ _ h => h) (fun _ _ _ h => h) (fun _ _ _ _ h => h) (fun _ _ _ h => h) fun _ _ _ h => h) fun _ _ _ _ => gN_imp hio
end
end Ws

namespace Ws
open PySem PySem.Spec PyProof.Rows L2
/-! ### set(a list of texts), its length -/
instance kBEq : BEq L2.Key := instBEqOfDecidableEq
instance kLaw : LawfulBEq L2.Key := inferInstance
def addK (σ : List L2.Key) (k : L2.Key) : List L2.Key := if k ∈ σ then σ else σ ++ [k]
def metK (ks : List L2.Key) : List L2.Key := ks.foldl addK []
theorem addK_mem (σ : List L2.Key) (k j : L2.Key) : (decide (j ∈ σ) || decide (j = k)) = decide (j ∈ addK σ k) := by
  unfold addK
  by_cases h : k ∈ σ
  · rw [if_pos h]
    by_cases e : j = k
    · subst e; simp [h]
    · simp [e]
  · rw [if_neg h]
    by_cases e : j = k <;> simp [e]
theorem addK_len (σ : List L2.Key) (k : L2.Key) : (if decide (k ∈ σ) = true then σ.length else σ.length + 1) = (addK σ k).length := by
  unfold addK
  by_cases h : k ∈ σ <;> simp [h]
theorem metK_take {ks : List L2.Key} {i : Nat} {k : L2.Key} (h : ks[i]? = some k) : metK (ks.take (i + 1)) = addK (metK (ks.take i)) k := by
  unfold metK
  rw [List.take_add_one, h, List.foldl_append]
  rfl
theorem foldl_addK_le : ∀ (ks σ : List L2.Key), (ks.foldl addK σ).length ≤ σ.length + ks.length
  | [], σ => Nat.le_refl _
  | k :: ks, σ => by
    have h1 := foldl_addK_le ks (addK σ k)
    have h2 : (addK σ k).length ≤ σ.length + 1 := by rw [← addK_len]; split <;> omega
    rw [List.foldl_cons, List.length_cons]
    omega
theorem metK_le (ks : List L2.Key) : (metK ks).length ≤ ks.length := by
  have := foldl_addK_le ks []
  simpa [metK] using this
abbrev SetM (P : Program) (w : World) (h : Heap) (a : Addr) (σ : List L2.Key) : Prop := h.SetOf (mixKind P w) a (fun j => decide (j ∈ σ)) σ.length
theorem SetM.at {P : Program} {w : World} {h h' : Heap} {a : Addr} {σ : List L2.Key} (x : SetM P w h a σ) (k : ∀ o, h.get? a = some o → h'.get? a = some o) : SetM P w h' a σ := setOf_at x k
theorem SetM.of {P : Program} {w : World} {h : Heap} {a : Addr} {σ : List L2.Key} {S : L2.Key → Bool} {n : Nat} (x : h.SetOf (mixKind P w) a S n) (e : ∀ j, S j = decide (j ∈ σ)) (en : n = σ.length) : SetM P w h a σ := by
  cases funext e
  cases en
  exact x
section
variable {P : Program} {w : World} {A : Around} {E : Value → Shared → Prop} {s : Shared}
theorem set_loopK {I : Addr} {fp wr : List Addr} {G : Array GenState → Array GenState → Prop} {n : Nat} {Pv : Nat → Value → Prop} {St : Nat → Shared → Prop} {R : Result → Shared → Prop}
    (W : WalksS P w A.in1 I fp wr G n Pv St) (S : Addr) (nf : S ∉ fp) (ks : List L2.Key) (hn : n = ks.length) (room : n + 1 < scanBound) (val : ∀ i v, Pv i v → ∃ k, ks[i]? = some k ∧ (mixKind P w).is k v = true ∧ v.scannable = true) :
    ∀ (d i : Nat) (s : Shared), n - i = d → i ≤ n → St i s → SetM P w s.heap S (metK (ks.take i)) →
      (∀ t, Moved (S :: wr) G s t → SetM P w t.heap S (metK ks) → R (.ok (.ret .none)) t) →
      codeAny (model P w) A (.builtin "set.update.loop" ⟨[.ref S, .ref I], []⟩) R s := by
  have nw : S ∉ wr := fun h => nf (W.sub _ h)
  have up : ∀ b ∈ wr, b ∈ S :: wr := fun b h => .tail _ h
  intro d
  induction d with
  | zero =>
    intro i s hd hi st hS hR
    have e : i = n := by omega
    subst e
    refine codeAny_builtin PyProof.Rows.F.entry_set_update_loop ?_
    rw [Around.under_plainId PyProof.Rows.F.plain_set_update_loop _]
    show wpAny _ A.in1 (pyNext (.ref I) >>= _) _ _ _
    refine wpAny_bind (W.done s _ _ st fun t hm => ?_)
    show wpAny _ A.in1 (ret Value.none) _ _ _
    rw [List.take_of_length_le (by omega)] at hS
    exact wpAny_pure (hR t (hm.mono up) (hS.at fun o e => hm.heap S o nw e))
  | succ d ih =>
    intro i s hd hi st hS hR
    have lt : i < n := by omega
    refine codeAny_builtin PyProof.Rows.F.entry_set_update_loop ?_
    rw [Around.under_plainId PyProof.Rows.F.plain_set_update_loop _]
    show wpAny _ A.in1 (pyNext (.ref I) >>= _) _ _ _
    refine wpAny_bind (W.item i s _ _ lt st fun v t hP st2 hm => ?_)
    obtain ⟨k, hk, hkey, hsc⟩ := val i v hP
    have hS2 : SetM P w t.heap S (metK (ks.take i)) := hS.at fun o e => hm.heap S o nw e
    show wpAny _ A.in1 (holding [v] (setAdd S v) >>= _) _ _ _
    refine wpAny_bind (wpAny_holding ?_)
    unfold setAdd
    refine wpAny_holding (wpAny_bind ((mixKind P w).pyHash (k := k) hkey ?_))
    have rm : (metK (ks.take i)).length + 1 < scanBound := by
      have := metK_le (ks.take i)
      rw [List.length_take] at this
      omega
    refine wpAny_setAddHashed_of (knd := mixKind P w) (s := { t with toks := t.toks + 1 }) hkey hsc hS2 rm fun h3 sb hS3 => ?_
    have hS4 : SetM P w h3 S (metK (ks.take (i + 1))) := by
      rw [metK_take hk]
      exact SetM.of hS3 (fun j => addK_mem _ _ _) (addK_len _ _)
    refine wpAny_pure ⟨plainId_quiet PyProof.Rows.F.plain_set_update_loop _, ih (i + 1) _ (by omega) lt (W.frame _ t _ _ st2 (Nat.le_succ _) fun b hb o e => ?_) hS4 fun u hm2 hS5 => ?_⟩
    · exact (sb.2 b fun z : b = S => nf (z ▸ hb)).trans e
    · exact hR u (Moved.trans W.gtrans ((hm.mono up).then_heap (Nat.le_succ _) fun b o hb e => (sb.2 b fun z : b = S => hb (by rw [z]; exact .head _)).trans e) hm2) hS5
end
end Ws

namespace Ws
open PySem PySem.Spec PyProof.Rows L2
section
variable {P : Program} {w : World} {A : Around} {E : Value → Shared → Prop} {s : Shared}
abbrev set0 (led : Bool) : Obj := { cls := .type "set", dict := none, data := .set #[] 0 (.fresh 0 0 led) }
theorem set0_M {h : Heap} {a : Addr} {led : Bool} (e : h.get? a = some (set0 led)) : SetM P w h a [] :=
  SetM.of ((PyProof.Rows.setObjOf_fresh (knd := mixKind P w) led).setOf e (by unfold scanBound; omega)) (fun _ => rfl) rfl
set_option maxHeartbeats 6400000 in
theorem call_set_listK {l : Addr} {its : Array Value} {ks : List L2.Key} {Q : Value → Shared → Prop} (calm : A.handled = none) (isl : s.heap.IsList l its) (hn : its.size = ks.length) (room : its.size + 1 < scanBound)
    (val : ∀ (i : Nat) (v : Value), its[i]? = some v → ∃ k, ks[i]? = some k ∧ (mixKind P w).is k v = true ∧ v.scannable = true)
    (q : ∀ (h2 : Heap) (tk : Nat), SetM P w h2 s.heap.objs.size (metK ks) → (∀ b o, b < s.heap.objs.size → s.heap.get? b = some o → h2.get? b = some o) → Q (.ref s.heap.objs.size) { s with heap := h2, toks := tk }) :
    wpAny (model P w) A (call (.type "set") [.ref l]) Q E s := by
  obtain ⟨c, tl, hmro⟩ := PySem.F.called_set.mro
  have hmade := PySem.F.called_set.made; have hsub := PySem.F.called_set.sub
  refine wpAny_call (codeAny_of_tree ?_)
  show wpAny _ _ (callAny (.type "set") _) _ _ _
  refine wpAny_pure ⟨Code.quiet_builtin _ (by decide +kernel), codeAny_builtin PySem.F.entry_type_call ?_⟩
  rw [Around.under_plain (weight_type_call_type "set" [.ref l] []) rfl]
  have h1 := PySem.F.called_set.notType; have h2 := PySem.F.called_set.canCreate; have hct := PySem.F.typeCall_set_1 (.ref l)
  repeat (any_goals (first | assumption | wp_step))
  refine codeAny_mono (code_set_new_1 (.ref l) (E := E) (Q₁ := fun o t => ∃ led : Bool, o = .ref s.heap.objs.size ∧ t = { s with heap := s.heap.push (set0 led) }) fun led => ⟨led, rfl, rfl⟩) fun r t hr => ?_
  cases r with
  | error e => exact hr
  | ok fl =>
  cases fl with
  | ret obj =>
    obtain ⟨led, rfl, rfl⟩ := hr
    have hS : (s.heap.push (set0 led)).get? s.heap.objs.size = some (set0 led) := Heap.get?_push_size _ rfl
    have hT : Shared.TypeIs { s with heap := s.heap.push (set0 led) } (.ref s.heap.objs.size) "set" := ⟨_, hS, rfl⟩
    have hli := PySem.F.called_set.init.lookup; have hbi := PySem.F.called_set.init.bind (.ref s.heap.objs.size)
    repeat (any_goals (first | assumption | wp_step))
    refine codeAny_mono (codeAny_call_builtin (R := wants (fun r u => r = .none ∧ ∃ h2 tk, u = { s with heap := h2, toks := tk } ∧ SetM P w h2 s.heap.objs.size (metK ks) ∧ (∀ b o, b < s.heap.objs.size → s.heap.get? b = some o → h2.get? b = some o)) E)
      PySem.F.called_set.init.plain PySem.F.entry_set_init (check_set_init_1 hT ?_)) fun r2 t2 hr2 => ?_
    · obtain ⟨⟨ocls, odict, odata, oslots⟩, hol, hcl, nl, hdl⟩ := isl
      simp only at hcl hdl
      subst hcl hdl
      have hol2 : (s.heap.push (set0 led)).get? l = some { cls := .type "list", dict := odict, data := .seq its nl, slots := oslots } := Heap.get?_push_of_some _ hol
      have hsls := PySem.F.sub_list_set; have hslf := PySem.F.sub_list_frozenset
      have hne : (Value.type "list" == Value.type "dict") = false := by decide
      have hl1 : (s.heap.push (set0 led)).IsList l its := ⟨_, hol2, rfl, nl, rfl⟩
      unfold Builtin.«set.__init__» noKeywords Builtin.Frozenset.updateFrom
      generalize hPI : pyIter = PI
      wp_walk
      subst hPI
      refine wpAny_pyIter_list hl1 (wpAny_bind (wpAny_runValue ?_))
      have lS := Heap.lt_size hol
      have calm3 : A.in1.in1.in1.handled = none := by simp [calm]
      have neI : l ≠ (s.heap.push (set0 led)).objs.size := by rw [Heap.size_push]; exact Nat.ne_of_lt (Nat.lt_succ_of_lt lS)
      have nf : s.heap.objs.size ∉ [(s.heap.push (set0 led)).objs.size, l] := by
        rw [Heap.size_push]
        intro z
        rcases List.mem_cons.mp z with z | z
        · exact absurd z (Nat.ne_of_lt (Nat.lt_succ_self _))
        · exact absurd (List.mem_singleton.mp z) (Nat.ne_of_gt lS)
      refine set_loopK ((Walks.list calm3 _ l neI its).toS) s.heap.objs.size nf ks hn room val (its.size - 0) 0 _ (by omega) (Nat.zero_le _) ⟨⟨_, Heap.get?_push_size _ rfl, rfl, rfl⟩, (hl1.push _)⟩ (set0_M (Heap.get?_push_of_some _ hS)) ?fin
      case fin =>
        rintro ⟨h2, g2, d2, tk2, os2⟩ hm hS2
        have eg : g2 = s.gens := hm.gens; have ed : d2 = s.drawn := hm.drawn; have eo : os2 = s.os := hm.os
        subst eg ed eo
        show wpAny _ _ _ _ _ _
        refine wpAny_pure ?_
        show wpAny _ _ (ret Value.none) _ _ _
        refine wpAny_pure ⟨rfl, h2, tk2, rfl, hS2, fun b o hb e => hm.heap b o (fun z => ?_) (Heap.get?_push_of_some _ (Heap.get?_push_of_some _ e))⟩
        rcases List.mem_cons.mp z with z | z
        · exact absurd z (Nat.ne_of_lt hb)
        · have z := List.mem_singleton.mp z
          rw [Heap.size_push] at z
          exact absurd z (Nat.ne_of_lt (Nat.lt_succ_of_lt hb))
    · cases r2 with
      | error e => exact hr2
      | ok fl2 =>
      cases fl2 with
      | ret r =>
        obtain ⟨rfl, h2, tk, rfl, hS2, hk⟩ := hr2
        repeat (any_goals (first | assumption | wp_step))
        exact q _ _ hS2 hk
      | _ => exact hr2.elim
  | _ => exact hr.elim
end
/-! ### len(set(xs)) -/
def tLenSetK (K : PySem.W.Frag) (ta : TE) : TE := fun σ H Q => ta σ H fun x H1 => ∃ (l : Addr) (ks : List L2.Key), x = .ref l ∧ SqL K H1 l (ks.map kV) ∧ ks.length ≤ 1000 ∧ Q (.int ((metK ks).length : Nat)) H1
theorem kVs_val {P : Program} {w : World} : ∀ {ks : List L2.Key} {us : List Value}, Vals (ks.map kV) us → ∀ (i : Nat) (v : Value), us[i]? = some v → ∃ k, ks[i]? = some k ∧ (mixKind P w).is k v = true ∧ v.scannable = true
  | [], _, .nil, i, v, e => by simp at e
  | k :: ks, _, .cons r t, 0, v, e => by simp at e; subst e; exact ⟨k, rfl, kV_is r, key_scan r⟩
  | k :: ks, _, .cons r t, i + 1, v, e => kVs_val t i v (by simpa using e)
theorem pe_lenSetK {X : Cx} {a : Expr} {ta : TE} {p p2 q pos : Pos} (hg : Gl X "len") (hm : X.mg "len" = none) (hg2 : Gl X "set") (hm2 : X.mg "set" = none) (ha : PE X a ta) (hc : X.calm = true := by rfl)
    (na : starEach [a] X.env = (false, eval a X.env) :: starEach [] X.env := by rfl) : PE X (.Call (.Name "len" p) [.Call (.Name "set" p2) [a] [] q] [] pos) (tLenSetK X.K ta) := by
  refine ⟨fun pins s σ H Q I h => Call_ (ld_blt I hg hm boot_len (PyProof.Rows.callWith_builtin1 (PyProof.Rows.args_cons ?_ rfl) rfl rfl))⟩
  refine Call_ (ld_blt I hg2 hm2 boot_set (PyProof.Rows.callWith_type1 (PyProof.Rows.args_cons (thn (ha.run pins s σ H _ I h) fun v s1 ⟨x, H1, I1, r1, q1⟩ => PyProof.Rows.args_nil ?_) na) na rfl))
  obtain ⟨l, ks, rfl, hq, hl, q1⟩ := q1
  cases r1
  obtain ⟨its, r, pl, hz⟩ := I1.list hq
  have hlen : its.toArray.size = ks.length := by rw [List.size_toArray, ← r.length, List.length_map]
  have h2 := metK_le ks
  refine call_set_listK (I1.ok.hd hc) pl.isList hlen (by rw [hlen]; unfold scanBound; omega) (fun i v e => kVs_val (P := X.prog) (w := X.w) r i v (by simpa using e)) fun h' tk hS hk => PyProof.Rows.args_nil ?_
  obtain ⟨o, es, ep, t, ho, hex, hd, _, _, _, hf, hn⟩ := hS
  have I2 : Inv X pins σ H1 { s1 with heap := h', toks := tk } := I1.kept fun b o e => hk b o (Heap.lt_size e) e
  exact call_len_set ho hex hd hf (by rw [hn] <;> omega) ⟨.int (metK ks).length, H1, I2.tok _, ⟨_, by rw [hn]⟩, q1⟩
end Ws

namespace Ws
open PySem L2
/-! ### len(set(..)), str(..), sep.join(..) -/
def keysD : List D → Option (List L2.Key)
  | [] => some []
  | d :: ds => match dKey d, keysD ds with
    | some k, some ks => some (k :: ks)
    | _, _ => none
def lenSetD : D → Option D
  | .lst ds => match keysD ds with
    | some ks => if ks.length ≤ 1000 then some (.int (metK ks).length) else none
    | none => none
  | _ => none
def strsD : List D → Option (List Str)
  | [] => some []
  | .str x :: ds => (strsD ds).map fun xs => x :: xs
  | _ => none
@[simp] theorem strsD_map {α : Type} (f : α → Str) : ∀ xs : List α, strsD (xs.map fun x => .str (f x)) = some (xs.map f)
  | [] => rfl
  | x :: xs => by simp [strsD, strsD_map f xs]
@[simp] theorem strsD_str : ∀ xs : List Str, strsD (xs.map D.str) = some xs
  | [] => rfl
  | x :: xs => by simp [strsD, strsD_str xs]
@[simp] theorem keysD_str : ∀ xs : List Str, keysD (xs.map D.str) = some (xs.map Sum.inr)
  | [] => rfl
  | x :: xs => by simp [keysD, keysD_str xs]
def joinD (a : Str) (d : D) : Option D := match d.seq with
  | some ds => (match strsD ds with
    | some ys => if (ys.map (·.length)).sum + ys.length * a.length ≤ 16777216 then some (.str (Txt.join a ys)) else none
    | none => none)
  | none => none
def strD : List D → Option D
  | [.int i] => if i.natAbs.log2 < 1920 then some (.str (Str.ofString (toString i))) else none
  | [.str a] => some (.str a)
  | _ => none
section
variable {K : PySem.W.Frag} {E : XK} {Z Z' H H' : Hp} {σ σ' σ1 τ ρ : L2.St} {env env' T R : Ws.Env} {F G A : Fp} {Q Q' : VK} {v : V} {o o1 : O} {d : D}
theorem keys_rep : ∀ {vs : List V} {ds : List D} {ks : List L2.Key}, Reps K H vs ds → keysD ds = some ks → vs = ks.map kV
  | _, _, ks, .nil, e => by cases e; rfl
  | _, _, ks, .cons (d := d) (ds := ds) q r, e => by
    unfold keysD at e
    cases e1 : dKey d with
    | none => rw [e1] at e; cases e
    | some k =>
      cases e2 : keysD ds with
      | none => rw [e1, e2] at e; cases e
      | some ks' =>
        rw [e1, e2] at e
        cases e
        rw [dKey_rep q e1, keys_rep r e2]; rfl
theorem strs_repD : ∀ {vs : List V} {ds : List D} {ks : List Str}, Reps K H vs ds → strsD ds = some ks → vs = ks.map V.str
  | _, _, ks, .nil, e => by cases e; rfl
  | _, _, ks, .cons (d := d) (ds := ds) q r, e => by
    unfold strsD at e
    cases q with
    | str x =>
      obtain ⟨xs, e1, rfl⟩ := map_some e
      rw [strs_repD r e1]; rfl
    | _ => cases e
theorem lenSet_imp {b : BD} {σ : L2.St} {H : Hp} {Q : VK} {ta : TE} (ha : ∀ σ H Q, tR K b σ H Q → ta σ H Q) (h : tB K (bUn lenSetD b) σ H Q) : tLenSetK K ta σ H Q := by
  obtain ⟨Z, τ, T, env, F, d, ok, hl, e, k⟩ := h
  unfold bUn at e
  split at e
  · rename_i x ea
    refine ha σ H _ ⟨Z, τ, T, env, F, x, ok, hl, ea, fun v qv => ?_⟩
    unfold lenSetD at e
    split at e
    · rename_i ds
      split at e
      · rename_i ks ek
        split at e
        · rename_i hz
          cases e
          cases qv with
          | @lst a vs _ hs r =>
            rw [keys_rep r ek] at hs
            exact ⟨a, ks, rfl, hs, hz, k _ (.int _)⟩
        · cases e
      · cases e
    · cases e
  · cases e
def rStr : List V → Hp → VK → Prop := fun xs H Q => (∃ i, xs = [.int i] ∧ i.natAbs.log2 < 1920 ∧ Q (.str (Str.ofString (toString i))) H) ∨ ∃ a, xs = [.str a] ∧ Q (.str a) H
theorem calls_str : CallS K strD rStr := by
  intro H vs ds z Q h e k
  unfold strD at e
  split at e
  · split at e
    · rename_i hz
      cases e
      cases h with
      | cons q r => cases r; cases q; exact .inl ⟨_, rfl, hz, k _ fun _ => .str _⟩
    · cases e
  · cases e
    cases h with
    | cons q r => cases r; cases q; exact .inr ⟨_, rfl, k _ fun _ => .str _⟩
  · cases e
theorem call_strB {X : Cx} : CallR X (.type "str") rStr := by
  intro pins s σ H xs us Q I r h
  rcases h with h | h
  · exact call_str_int pins s σ H xs us Q I r h
  · exact SkE.call_str_str pins s σ H xs us Q I r h
theorem b_str {X : Cx} : BltS X (.type "str") strD := ⟨_, call_strB, calls_str⟩
def eJoin (a : Str) (m : M O) : M O := fun env => (m env).bind fun y e => lift ((joinD a y.toD).map .pu) e
@[simp] theorem eJoin.c (a : Str) (m : M O) {z : Option O} {zs : Ws.Env} : eJoin a m (z :: zs) = ((m (z :: zs)).bind fun y e => lift ((joinD a y.toD).map .pu) e) := rfl
theorem join_imp {a : Str} {m : M O} {σ : L2.St} {H : Hp} {Q : VK} (h : tE K E (eJoin a m) σ H Q) :
    tM1 (fun x xs H Q => ∃ a p, ∃ ys : List Str, x = .str a ∧ xs = [.ref p] ∧ (SqL K H p (ys.map V.str) ∨ SqT K H p (ys.map V.str)) ∧ (ys.map (·.length)).sum + ys.length * a.length ≤ 16777216 ∧ Q (.str (Txt.join a ys)) H) (tC (.str a)) (tE K E m) σ H Q := by
  obtain ⟨Z, τ, T, env, F, ok, hl, post⟩ := h
  refine ⟨⟨a, rfl⟩, Z, τ, T, env, F, ok, hl, (stepE (ρ := []) (R := []) rfl post).imp fun u H1 ⟨Z1, F1, y, e1, s1, ok1, post1⟩ => ?_⟩
  obtain ⟨_, A0, B0, e2, qy, ok2, i2⟩ := Ok.top (x := some u) ok1
  cases e2
  have q := ok1.rep qy
  cases ej : joinD a y.toD with
  | none => rw [ej] at post1; exact post1.elim
  | some z =>
    rw [ej] at post1
    unfold joinD at ej
    split at ej
    · rename_i ds es
      split at ej
      · rename_i ys ey
        split at ej
        · rename_i hz
          cases ej
          have fin : Q (.str (Txt.join a ys)) H1 := post1 _ H1 Z1 _ (Same.refl Z1) (ok2.pure (.str _))
          generalize y.toD = yd at q es
          cases q with
          | @lst p vs _ hs r =>
            cases es
            rw [strs_repD r ey] at hs
            exact ⟨a, p, ys, rfl, rfl, .inl hs, hz, fin⟩
          | @tup p vs _ hs r =>
            cases es
            rw [strs_repD r ey] at hs
            exact ⟨a, p, ys, rfl, rfl, .inr hs, hz, fin⟩
          | _ => cases es
        · cases ej
      · cases ej
    · cases ej
end
section
variable {X : Cx} {E : XK} {i : Nat} {o e : Expr} {m : M O} {apos cpos p1 : Pos} {ba : BD}
theorem v_join {s t : Str} {k : Nat} (hst : s = t) (ha : VE X E e m) (hs : starEach [e] X.env = [(false, eval e X.env)] := by rfl) (hbase : attributeBase (.Constant (.str s) k p1) "join" X.env (eval (.Constant (.str s) k p1) X.env) = eval (.Constant (.str s) k p1) X.env := by rfl) (hline : (apos.endLine == cpos.line) = true := by rfl) :
    VE X E (.Call (.Attribute (.Constant (.str s) k p1) "join" apos) [e] [] cpos) (eJoin t m) := by
  subst hst
  exact (pe_join pe_str ha hs hbase hline).weak fun _ _ _ => join_imp
theorem x_lenSet {a : Expr} {p p2 q pos : Pos} (hm : X.mg "len" = none) (hm2 : X.mg "set" = none) (ha : VR X a ba) (hg : Gl X "len" := by rfl) (hg2 : Gl X "set" := by rfl) (hc : X.calm = true := by rfl)
    (na : starEach [a] X.env = (false, eval a X.env) :: starEach [] X.env := by rfl) : VBx X (.Call (.Name "len" p) [.Call (.Name "set" p2) [a] [] q] [] pos) (bUn lenSetD ba) :=
  (pe_lenSetK hg hm hg2 hm2 ha hc na).weak fun σ H Q h => lenSet_imp (fun _ _ _ h => h) h
end
end Ws

namespace Gd
open PySem L2 Ws
def s_Program : Str := ⟨#[80, 114, 111, 103, 114, 97, 109]⟩
theorem Ss_Program : ("Program" : Str) = s_Program := by decide +kernel
@[simp] theorem kc_Program : code s_Program = 6890722595105379121045513921450626515054 := by decide +kernel
def s_functions : Str := ⟨#[102, 117, 110, 99, 116, 105, 111, 110, 115]⟩
theorem Ss_functions : ("functions" : Str) = s_functions := by decide +kernel
@[simp] theorem kc_functions : code s_functions = 38536896225054158399841547504982554769000875861999732 := by decide +kernel
abbrev d_MOST_FUNCTIONS : D := .int 12
def cg1_Program_init : GD := (gN 3)
@[simp] theorem cg1_Program_init.c (o : O) {z : Option O} {zs : Ws.Env} : cg1_Program_init o (z :: zs) = (gN 3) o (z :: zs) := rfl
def ce1_Program_init : M O := (rdP 3 [.fld [s_Function] s_name])
@[simp] theorem ce1_Program_init.c {z : Option O} {zs : Ws.Env} : ce1_Program_init (z :: zs) = (rdP 3 [.fld [s_Function] s_name]) (z :: zs) := rfl
def cg2_Program_init : GD := (gN 3)
@[simp] theorem cg2_Program_init.c (o : O) {z : Option O} {zs : Ws.Env} : cg2_Program_init o (z :: zs) = (gN 3) o (z :: zs) := rfl
def cc2_Program_init : M Bool := (cB (bOp (eqD false) (rP 5 [.num 0]) (bC (.str s_call))))
@[simp] theorem cc2_Program_init.c {z : Option O} {zs : Ws.Env} : cc2_Program_init (z :: zs) = (cB (bOp (eqD false) (rP 5 [.num 0]) (bC (.str s_call)))) (z :: zs) := rfl
def cg3_Program_init : GD := (gN 5)
@[simp] theorem cg3_Program_init.c (o : O) {z : Option O} {zs : Ws.Env} : cg3_Program_init o (z :: zs) = (gN 5) o (z :: zs) := rfl
def ce3_Program_init : M O := (rdP 5 [.num 1])
@[simp] theorem ce3_Program_init.c {z : Option O} {zs : Ws.Env} : ce3_Program_init (z :: zs) = (rdP 5 [.num 1]) (z :: zs) := rfl
def ci3_Program_init : M (List D) := (iAny (rdP 3 [.fld [s_Function] s_code]))
@[simp] theorem ci3_Program_init.c {z : Option O} {zs : Ws.Env} : ci3_Program_init (z :: zs) = (iAny (rdP 3 [.fld [s_Function] s_code])) (z :: zs) := rfl
def cg4_Program_init : GD := (gN 6)
@[simp] theorem cg4_Program_init.c (o : O) {z : Option O} {zs : Ws.Env} : cg4_Program_init o (z :: zs) = (gN 6) o (z :: zs) := rfl
def ce4_Program_init : M O := (eB (bOp (inD false) (rP 6 []) (rP 2 [])))
@[simp] theorem ce4_Program_init.c {z : Option O} {zs : Ws.Env} : ce4_Program_init (z :: zs) = (eB (bOp (inD false) (rP 6 []) (rP 2 []))) (z :: zs) := rfl
def tl1_Program_init : M Fl := (sSeq (sIf (eNot (eTru (eCall (callD allD) (consA (eLc [6] (iAny (rd 4)) cg4_Program_init cYes ce4_Program_init) nilA))))
  sNever
  sNext)
  (sFldP 0 [] [s_Program] s_functions (eTupP 1 [])))
@[simp] theorem tl1_Program_init.c {z : Option O} {zs : Ws.Env} : tl1_Program_init (z :: zs) = (sSeq (sIf (eNot (eTru (eCall (callD allD) (consA (eLc [6] (iAny (rd 4)) cg4_Program_init cYes ce4_Program_init) nilA))))
  sNever
  sNext)
  (sFldP 0 [] [s_Program] s_functions (eTupP 1 []))) (z :: zs) := rfl
def tl2_Program_init : M Fl := (sSeq (sAsg (eLc2 [3, 5] [5] (iAny (rd 1)) cg2_Program_init cYes ci3_Program_init cg3_Program_init cc2_Program_init ce3_Program_init) (gN 4))
  tl1_Program_init)
@[simp] theorem tl2_Program_init.c {z : Option O} {zs : Ws.Env} : tl2_Program_init (z :: zs) = (sSeq (sAsg (eLc2 [3, 5] [5] (iAny (rd 1)) cg2_Program_init cYes ci3_Program_init cg3_Program_init cc2_Program_init ce3_Program_init) (gN 4))
  tl1_Program_init) (z :: zs) := rfl
def tl3_Program_init : M Fl := (sSeq (sIf (eOr (eNot (cB (bChn (cmpD fun i j => decide (i ≤ j)) (cmpD fun i j => decide (i ≤ j)) (bC (.int 1)) (bCall lenD (bsC (rP 2 []) bsN)) (bC d_MOST_FUNCTIONS)))) (cB (bOp (cmpD fun i j => decide (i < j)) (bUn lenSetD (rP 2 [])) (bCall lenD (bsC (rP 2 []) bsN)))))
  sNever
  sNext)
  tl2_Program_init)
@[simp] theorem tl3_Program_init.c {z : Option O} {zs : Ws.Env} : tl3_Program_init (z :: zs) = (sSeq (sIf (eOr (eNot (cB (bChn (cmpD fun i j => decide (i ≤ j)) (cmpD fun i j => decide (i ≤ j)) (bC (.int 1)) (bCall lenD (bsC (rP 2 []) bsN)) (bC d_MOST_FUNCTIONS)))) (cB (bOp (cmpD fun i j => decide (i < j)) (bUn lenSetD (rP 2 [])) (bCall lenD (bsC (rP 2 []) bsN)))))
  sNever
  sNext)
  tl2_Program_init) (z :: zs) := rfl
def body_Program_init : M Fl := (sSeq (sAsg (eLc [3] (iAny (rd 1)) cg1_Program_init cYes ce1_Program_init) (gN 2))
  tl3_Program_init)
@[simp] theorem body_Program_init.c {z : Option O} {zs : Ws.Env} : body_Program_init (z :: zs) = (sSeq (sAsg (eLc [3] (iAny (rd 1)) cg1_Program_init cYes ce1_Program_init) (gN 2))
  tl3_Program_init) (z :: zs) := rfl
def den_Program_init : FD := fden 2 5 (fun i => ([0] : List Nat).contains i) body_Program_init
end Gd

namespace Gd
open PySem L2 Ws
def s__x20 : Str := ⟨#[32]⟩
theorem Ss__x20 : (" " : Str) = s__x20 := by decide +kernel
@[simp] theorem kc__x20 : code s__x20 = 33 := by decide +kernel
def s__x0a : Str := ⟨#[10]⟩
theorem Ss__x0a : ("\n" : Str) = s__x0a := by decide +kernel
@[simp] theorem kc__x0a : code s__x0a = 11 := by decide +kernel
def cg1_trow_of : GD := (gN 1)
@[simp] theorem cg1_trow_of.c (o : O) {z : Option O} {zs : Ws.Env} : cg1_trow_of o (z :: zs) = (gN 1) o (z :: zs) := rfl
def ce1_trow_of : M O := (eB (bCall strD (bsC (rP 1 []) bsN)))
@[simp] theorem ce1_trow_of.c {z : Option O} {zs : Ws.Env} : ce1_trow_of (z :: zs) = (eB (bCall strD (bsC (rP 1 []) bsN))) (z :: zs) := rfl
def body_trow_of : M Fl := (sRet (eBin addO (eJoin s__x20 (eLc [1] (iAny (rd 0)) cg1_trow_of cYes ce1_trow_of)) (cst (.str s__x0a))))
@[simp] theorem body_trow_of.c {z : Option O} {zs : Ws.Env} : body_trow_of (z :: zs) = (sRet (eBin addO (eJoin s__x20 (eLc [1] (iAny (rd 0)) cg1_trow_of cYes ce1_trow_of)) (cst (.str s__x0a)))) (z :: zs) := rfl
def den_trow_of : FD := fden 1 1 (fun _ => false) body_trow_of
def cg1_program_text : GD := (gN 3)
@[simp] theorem cg1_program_text.c (o : O) {z : Option O} {zs : Ws.Env} : cg1_program_text o (z :: zs) = (gN 3) o (z :: zs) := rfl
def ce1_program_text : M O := (eCallF den_trow_of [none] (consA (rd 3) nilA))
@[simp] theorem ce1_program_text.c {z : Option O} {zs : Ws.Env} : ce1_program_text (z :: zs) = (eCallF den_trow_of [none] (consA (rd 3) nilA)) (z :: zs) := rfl
def cg2_program_text : GD := (gN 4)
@[simp] theorem cg2_program_text.c (o : O) {z : Option O} {zs : Ws.Env} : cg2_program_text o (z :: zs) = (gN 4) o (z :: zs) := rfl
def ce2_program_text : M O := (eCallF den_trow_of [none] (consA (eBin addO (eTup (consA (cst (.str s_land)) nilA)) (rd 4)) nilA))
@[simp] theorem ce2_program_text.c {z : Option O} {zs : Ws.Env} : ce2_program_text (z :: zs) = (eCallF den_trow_of [none] (consA (eBin addO (eTup (consA (cst (.str s_land)) nilA)) (rd 4)) nilA)) (z :: zs) := rfl
def tl1_program_text : M Fl := (sSeq (sDrop (eMeth extF 1 (consA (eLc [3] (iAny (rdP 2 [.fld [s_Function] s_code])) cg1_program_text cYes ce1_program_text) nilA)))
  (sDrop (eMeth extF 1 (consA (eLc [4] (iAny (rdP 2 [.fld [s_Function] s_landings])) cg2_program_text cYes ce2_program_text) nilA))))
@[simp] theorem tl1_program_text.c {z : Option O} {zs : Ws.Env} : tl1_program_text (z :: zs) = (sSeq (sDrop (eMeth extF 1 (consA (eLc [3] (iAny (rdP 2 [.fld [s_Function] s_code])) cg1_program_text cYes ce1_program_text) nilA)))
  (sDrop (eMeth extF 1 (consA (eLc [4] (iAny (rdP 2 [.fld [s_Function] s_landings])) cg2_program_text cYes ce2_program_text) nilA)))) (z :: zs) := rfl
def fg1_program_text : GD := (gN 2)
@[simp] theorem fg1_program_text.c (o : O) {z : Option O} {zs : Ws.Env} : fg1_program_text o (z :: zs) = (gN 2) o (z :: zs) := rfl
def fb1_program_text : M Fl := (sSeq (sDrop (eMeth appF 1 (consA (eCallF den_trow_of [none] (consA (eTup (consA (cst (.str s_fun)) (consA (rdP 2 [.fld [s_Function] s_name]) nilA))) nilA)) nilA)))
  tl1_program_text)
@[simp] theorem fb1_program_text.c {z : Option O} {zs : Ws.Env} : fb1_program_text (z :: zs) = (sSeq (sDrop (eMeth appF 1 (consA (eCallF den_trow_of [none] (consA (eTup (consA (cst (.str s_fun)) (consA (rdP 2 [.fld [s_Function] s_name]) nilA))) nilA)) nilA)))
  tl1_program_text) (z :: zs) := rfl
def tl2_program_text : M Fl := (sSeq (sFor (iAny (rdP 0 [.fld [s_Program] s_functions])) fg1_program_text fb1_program_text)
  (sRet (eJoin s__empty (rd 1))))
@[simp] theorem tl2_program_text.c {z : Option O} {zs : Ws.Env} : tl2_program_text (z :: zs) = (sSeq (sFor (iAny (rdP 0 [.fld [s_Program] s_functions])) fg1_program_text fb1_program_text)
  (sRet (eJoin s__empty (rd 1)))) (z :: zs) := rfl
def body_program_text : M Fl := (sSeq (sAsg (eLst nilA) (gN 1))
  tl2_program_text)
@[simp] theorem body_program_text.c {z : Option O} {zs : Ws.Env} : body_program_text (z :: zs) = (sSeq (sAsg (eLst nilA) (gN 1))
  tl2_program_text) (z :: zs) := rfl
def den_program_text : FD := fden 1 4 (fun _ => false) body_program_text
end Gd

namespace Gd
open PySem L2 Ws
def fg1_l_functions : GD := (gN 5)
@[simp] theorem fg1_l_functions.c (o : O) {z : Option O} {zs : Ws.Env} : fg1_l_functions o (z :: zs) = (gN 5) o (z :: zs) := rfl
def fb1_l_functions : M Fl := (sSeq (sAsg (eBin addO (cst (.int 1)) (eCallF den_l_next [some 0, none] (lendB 0 (consA (rd 2) nilA)))) (gN 6))
  (sDrop (eMeth appF 4 (consA (eTup (consA (rd 5) (consA (eCallF den_l_code [some 0, none, none] (lendB 0 (consA (rd 6) (consA (rd 3) nilA)))) (consA (eCallF den_l_landings [some 0, none, none] (lendB 0 (consA (rd 6) (consA (cst (.int 3)) nilA)))) nilA)))) nilA))))
@[simp] theorem fb1_l_functions.c {z : Option O} {zs : Ws.Env} : fb1_l_functions (z :: zs) = (sSeq (sAsg (eBin addO (cst (.int 1)) (eCallF den_l_next [some 0, none] (lendB 0 (consA (rd 2) nilA)))) (gN 6))
  (sDrop (eMeth appF 4 (consA (eTup (consA (rd 5) (consA (eCallF den_l_code [some 0, none, none] (lendB 0 (consA (rd 6) (consA (rd 3) nilA)))) (consA (eCallF den_l_landings [some 0, none, none] (lendB 0 (consA (rd 6) (consA (cst (.int 3)) nilA)))) nilA)))) nilA)))) (z :: zs) := rfl
def tl1_l_functions : M Fl := (sSeq (sFor (iAny (rd 3)) fg1_l_functions fb1_l_functions)
  (sRet (mv 4)))
@[simp] theorem tl1_l_functions.c {z : Option O} {zs : Ws.Env} : tl1_l_functions (z :: zs) = (sSeq (sFor (iAny (rd 3)) fg1_l_functions fb1_l_functions)
  (sRet (mv 4))) (z :: zs) := rfl
def tl2_l_functions : M Fl := (sSeq (sAsg (eLst nilA) (gN 4))
  tl1_l_functions)
@[simp] theorem tl2_l_functions.c {z : Option O} {zs : Ws.Env} : tl2_l_functions (z :: zs) = (sSeq (sAsg (eLst nilA) (gN 4))
  tl1_l_functions) (z :: zs) := rfl
def body_l_functions : M Fl := (sSeq (sAsg (eCallF den_l_words [some 0, none] (lendB 0 (consA (eBin addO (cst (.int 1)) (eCallF den_l_next [some 0, none] (lendB 0 (consA (rd 1) nilA)))) nilA))) (gN 3))
  tl2_l_functions)
@[simp] theorem body_l_functions.c {z : Option O} {zs : Ws.Env} : body_l_functions (z :: zs) = (sSeq (sAsg (eCallF den_l_words [some 0, none] (lendB 0 (consA (eBin addO (cst (.int 1)) (eCallF den_l_next [some 0, none] (lendB 0 (consA (rd 1) nilA)))) nilA))) (gN 3))
  tl2_l_functions) (z :: zs) := rfl
def den_l_functions : FD := fden 3 4 (fun i => ([0] : List Nat).contains i) body_l_functions
def cg1_l_program : GD := (gTupD 3 (gConsD (gN 1) (gConsD (gN 2) (gConsD (gN 3) gNilD))))
@[simp] theorem cg1_l_program.c (o : O) {z : Option O} {zs : Ws.Env} : cg1_l_program o (z :: zs) = (gTupD 3 (gConsD (gN 1) (gConsD (gN 2) (gConsD (gN 3) gNilD)))) o (z :: zs) := rfl
def ce1_l_program : M O := (eMakeW s_Function den_Function_init [none, none] (consA (rd 1) (consA (rd 2) nilA)) (rd 3))
@[simp] theorem ce1_l_program.c {z : Option O} {zs : Ws.Env} : ce1_l_program (z :: zs) = (eMakeW s_Function den_Function_init [none, none] (consA (rd 1) (consA (rd 2) nilA)) (rd 3)) (z :: zs) := rfl
def body_l_program : M Fl := (sRet (eMake s_Program den_Program_init [none] (consA (eLc [1, 2, 3] (iAny (rd 0)) cg1_l_program cYes ce1_l_program) nilA)))
@[simp] theorem body_l_program.c {z : Option O} {zs : Ws.Env} : body_l_program (z :: zs) = (sRet (eMake s_Program den_Program_init [none] (consA (eLc [1, 2, 3] (iAny (rd 0)) cg1_l_program cYes ce1_l_program) nilA))) (z :: zs) := rfl
def den_l_program : FD := fden 1 3 (fun _ => false) body_l_program
end Gd

namespace J05
open PySem L2 Ws Gd
/-! ### printed by gen3.py -/
def topS (i : Nat) : Stmt := PySem.Challenge.pw_walkback_k05_programs_written.main.body.getD i (.Pass ⟨0, 0, 0, 0⟩)
structure Txt (K : PySem.W.Frag) (w : World) (mg : Str → Option Value) : Prop where
  z0 : True
  o_code_Function : StOk K (.fld [s_Function] s_code)
  o_functions_Program : StOk K (.fld [s_Program] s_functions)
  o_landings_Function : StOk K (.fld [s_Function] s_landings)
  o_name_Function : StOk K (.fld [s_Function] s_name)
  m_SHAPES : GlobM K w mg "SHAPES" m_SHAPES
  g_LETTERS : GlobD K mg "LETTERS" d_LETTERS
  g_MOST_CODE : GlobD K mg "MOST_CODE" d_MOST_CODE
  g_MOST_FUNCTIONS : GlobD K mg "MOST_FUNCTIONS" d_MOST_FUNCTIONS
  g_MOST_NEAR : GlobD K mg "MOST_NEAR" d_MOST_NEAR
  g_REGISTERS : GlobD K mg "REGISTERS" d_REGISTERS
  g_WORDS : GlobD K mg "WORDS" d_WORDS
  n_all : mg "all" = none
  n_bool : mg "bool" = none
  n_enumerate : mg "enumerate" = none
  n_int : mg "int" = none
  n_isinstance : mg "isinstance" = none
  n_len : mg "len" = none
  n_list : mg "list" = none
  n_max : mg "max" = none
  n_min : mg "min" = none
  n_range : mg "range" = none
  n_repr : mg "repr" = none
  n_set : mg "set" = none
  n_str : mg "str" = none
  n_tuple : mg "tuple" = none
  n_zip : mg "zip" = none
abbrev st_l_mixed : Stmt := topS 27
abbrev st_l_next : Stmt := topS 28
abbrev st_l_part : Stmt := topS 32
abbrev st_l_shape : Stmt := topS 31
abbrev st_l_code : Stmt := topS 33
abbrev st_l_landings : Stmt := topS 34
abbrev st_l_word : Stmt := topS 29
abbrev st_l_words : Stmt := topS 30
abbrev st_l_functions : Stmt := topS 35
abbrev st_is_name : Stmt := topS 15
abbrev st_is_number : Stmt := topS 16
abbrev st_is_near : Stmt := topS 17
abbrev st_fits : Stmt := topS 18
abbrev st_is_instruction : Stmt := topS 19
abbrev st_is_landing : Stmt := topS 20
abbrev st_Function_init : Stmt := inClass (topS 21) 0
abbrev st_Program_init : Stmt := inClass (topS 22) 0
abbrev st_l_program : Stmt := topS 36
abbrev st_l_same : Stmt := topS 37
abbrev st_l_row : Stmt := topS 38
abbrev st_l_text : Stmt := topS 39
abbrev st_trow_of : Stmt := topS 24
abbrev st_program_text : Stmt := topS 25
abbrev st_law : Stmt := topS 40
abbrev N_l_mixed : List Str := ["_law_cell", "_law_k", "_law_mix"]
theorem sc_l_mixed : FnScope N_l_mixed ["_law_cell", "_law_k"] (defScope st_l_mixed) := ⟨rfl, rfl, rfl, by decide +kernel, rfl, by decide +kernel, by decide +kernel⟩
theorem ok_l_mixed {P : Program} {w : World} {K : PySem.W.Frag} {mg : Str → Option Value} {base : Heap} {fa : Addr} {fd : FuncData} (T : Txt K w mg)  (F : Fun K "_law_mixed" "_law_mixed" st_l_mixed fa fd) : FnOk P w K mg base CX0 1 fa fd ["_law_cell", "_law_k"] (spV K 2 den_l_mixed) :=
  okV (io := fun _ => false) F sc_l_mixed rfl rfl fun cdv A outer s H E hr =>
  (b_cons (s_set (i := 2) sc_l_mixed.nd (by first | exact Or.inl rfl | exact Or.inr rfl) (v_mod (v_pow (v_mod (v_mul (v_add (v_add (v_mod (v_rd 0) v_int) (v_mul v_int (v_rd 1))) v_int) v_int) v_int) v_int) v_int))
  (b_cons (s_if (t_cmpL c_lt (pv 0) (v_pow v_int v_int) (nomark _))
  (b_one (s_ret (v_mv 2)))
  b_nil)
  (b_one (s_ret (v_mod (v_add (v_rd 2) (v_mod (v_fdivW (v_rd 0) (v_pow v_int v_int)) (v_add v_int (v_mul (v_add (v_rd 1) v_int) v_int)))) v_int)))))
abbrev N_l_next : List Str := ["_law_draw", "_law_size", "_law_at", "_law_many", "_law_cell"]
theorem sc_l_next : FnScope N_l_next ["_law_draw", "_law_size"] (defScope st_l_next) := ⟨rfl, rfl, rfl, by decide +kernel, rfl, by decide +kernel, by decide +kernel⟩
theorem ok_l_next {P : Program} {w : World} {K : PySem.W.Frag} {mg : Str → Option Value} {base : Heap} {fa : Addr} {fd : FuncData} (T : Txt K w mg) (D_l_mixed : DefV P w K mg base 1 "_law_mixed" 2 den_l_mixed) (F : Fun K "_law_next" "_law_next" st_l_next fa fd) : FnOk P w K mg base CX0 2 fa fd ["_law_draw", "_law_size"] (spV K 2 den_l_next) :=
  okV (io := fun i => ([0] : List Nat).contains i) F sc_l_next rfl rfl fun cdv A outer s H E hr =>
  (b_cons (s_set (i := 2) sc_l_next.nd (by first | exact Or.inl rfl | exact Or.inr rfl) (v_rdP (pl_num (hu_of hr) (pl_name (pv 0)) pe_cint (fun _ _ => rfl) (fun _ _ => rfl))))
  (b_cons (s_putP (hu_of hr) (pl_name (pv 0)) x_int (v_add (v_rd 2) v_int))
  (b_cons (s_set (i := 3) sc_l_next.nd (by first | exact Or.inl rfl | exact Or.inr rfl) (v_x (x_blt (b_max2 rfl) T.n_max (by decide +kernel) (xs_cons (r_x x_int) (xs_cons (r_x (x_blt b_len T.n_len (by decide +kernel) (xs_cons (r_pl (pl_num (hu_of hr) (pl_name (pv 0)) pe_cint (fun _ _ => rfl) (fun _ _ => rfl))) xs_nil))) xs_nil)))))
  (b_cons (s_set (i := 4) sc_l_next.nd (by first | exact Or.inl rfl | exact Or.inr rfl) v_int)
  (b_cons (s_if (t_cmp (c_ne hr.units) (v_rdP (pl_num (hu_of hr) (pl_name (pv 0)) pe_cint (fun _ _ => rfl) (fun _ _ => rfl))) (v_lst a_nil) (nomark _))
  (b_one (s_set (i := 4) sc_l_next.nd (by first | exact Or.inl rfl | exact Or.inr rfl) (v_ix (v_rdP (pl_num (hu_of hr) (pl_name (pv 0)) pe_cint (fun _ _ => rfl) (fun _ _ => rfl))) (v_mod (v_rd 2) (v_rd 3)) (fun _ _ => rfl))))
  b_nil)
  (b_one (s_ret (v_mod (v_fdivW (v_call D_l_mixed (hr.mono (by decide)) (a_cons (v_rd 4) (a_cons (v_mod (v_fdivW (v_rd 2) (v_rd 3)) v_int) a_nil))) v_int) (v_rd 1)))))))))
abbrev N_l_part : List Str := ["_law_draw", "_law_kind", "_law_many", "_law_names", "_law_way", "_law_far"]
theorem sc_l_part : FnScope N_l_part ["_law_draw", "_law_kind", "_law_many", "_law_names"] (defScope st_l_part) := ⟨rfl, rfl, rfl, by decide +kernel, rfl, by decide +kernel, by decide +kernel⟩
theorem ok_l_part {P : Program} {w : World} {K : PySem.W.Frag} {mg : Str → Option Value} {base : Heap} {fa : Addr} {fd : FuncData} (T : Txt K w mg) (D_l_next : DefV P w K mg base 2 "_law_next" 2 den_l_next) (F : Fun K "_law_part" "_law_part" st_l_part fa fd) : FnOk P w K mg base CX0 3 fa fd ["_law_draw", "_law_kind", "_law_many", "_law_names"] (spV K 4 den_l_part) :=
  okV (io := fun i => ([0] : List Nat).contains i) F sc_l_part rfl rfl fun cdv A outer s H E hr =>
  (b_cons (s_set (i := 4) sc_l_part.nd (by first | exact Or.inl rfl | exact Or.inr rfl) (v_call D_l_next (hr.mono (by decide)) (a_lendB (i := 0) (pv 0) (a_cons v_int a_nil))))
  (b_cons (s_if (t_xcmp (c_eq hr.units) (r_pl (pl_name (pv 1))) (r_x (x_str Ss_r)) (nomark _))
  (b_one (s_ret (v_ix (v_str Ss_abcdefgh) (v_call D_l_next (hr.mono (by decide)) (a_lendB (i := 0) (pv 0) (a_cons v_int a_nil))) (fun _ _ => rfl))))
  b_nil)
  (b_cons (s_if (t_xcmp (c_eq hr.units) (r_pl (pl_name (pv 1))) (r_x (x_str Ss_w)) (nomark _))
  (b_one (s_ret (v_ix (v_lst (a_cons (v_str Ss_a) (a_cons (v_str Ss_b) (a_cons (v_str Ss_c) (a_cons (v_str Ss_d) (a_cons (v_str Ss_e) (a_cons (v_str Ss_f) (a_cons (v_str Ss_g) (a_cons (v_str Ss_h) (a_cons (v_str Ss_sp) (a_cons (v_str Ss_sp) (a_cons (v_str Ss_sp) a_nil)))))))))))) (v_call D_l_next (hr.mono (by decide)) (a_lendB (i := 0) (pv 0) (a_cons v_int a_nil))) (fun _ _ => rfl))))
  b_nil)
  (b_cons (s_if (t_xcmp (c_eq hr.units) (r_pl (pl_name (pv 1))) (r_x (x_str Ss_k)) (nomark _))
  (b_one (s_ret (v_ix (v_lst (a_cons v_int (a_cons (v_neg v_int) (a_cons (v_fz (v_sub (v_call D_l_next (hr.mono (by decide)) (a_lendB (i := 0) (pv 0) (a_cons v_int a_nil))) v_int)) (a_cons (v_fz (v_call D_l_next (hr.mono (by decide)) (a_lendB (i := 0) (pv 0) (a_cons v_int a_nil)))) a_nil))))) (v_rd 4) (fun _ _ => rfl))))
  b_nil)
  (b_cons (s_if (t_xcmp (c_eq hr.units) (r_pl (pl_name (pv 1))) (r_x (x_str Ss_t)) (nomark _))
  (b_one (s_ret (v_ix (v_lst (a_cons v_int (a_cons (v_fz (v_sub (v_rd 2) v_int)) (a_cons (v_fz (v_call D_l_next (hr.mono (by decide)) (a_lendB (i := 0) (pv 0) (a_cons (v_rd 2) a_nil)))) (a_cons (v_fz (v_call D_l_next (hr.mono (by decide)) (a_lendB (i := 0) (pv 0) (a_cons (v_rd 2) a_nil)))) a_nil))))) (v_rd 4) (fun _ _ => rfl))))
  b_nil)
  (b_cons (s_if (t_xcmp (c_eq hr.units) (r_pl (pl_name (pv 1))) (r_x (x_str Ss_f)) (nomark _))
  (b_one (s_ret (v_ixAt (pv 3) (v_call D_l_next (hr.mono (by decide)) (a_lendB (i := 0) (pv 0) (a_cons (v_x (x_blt b_len T.n_len (by decide +kernel) (xs_cons (r_pl (pl_name (pv 3))) xs_nil))) a_nil))) (fun _ _ => rfl))))
  b_nil)
  (b_cons (s_set (i := 5) sc_l_part.nd (by first | exact Or.inl rfl | exact Or.inr rfl) (v_add (v_mul (v_call D_l_next (hr.mono (by decide)) (a_lendB (i := 0) (pv 0) (a_cons (v_pow v_int v_int) a_nil))) (v_pow v_int v_int)) (v_call D_l_next (hr.mono (by decide)) (a_lendB (i := 0) (pv 0) (a_cons (v_pow v_int v_int) a_nil)))))
  (b_one (s_ret (v_ix (v_lst (a_cons v_int (a_cons (v_fz (v_sub (v_call D_l_next (hr.mono (by decide)) (a_lendB (i := 0) (pv 0) (a_cons v_int a_nil))) v_int)) (a_cons (v_fz (v_ix (v_lst (a_cons (v_fz (v_pow v_int v_int)) (a_cons (v_neg (v_pow v_int v_int)) a_nil))) (v_mod (v_rd 5) v_int) (fun _ _ => rfl))) (a_cons (v_fz (v_ix (v_lst (a_cons (v_rd 5) (a_cons (v_fz (v_sub v_int (v_rd 5))) a_nil))) (v_mod (v_fdivW (v_rd 5) v_int) v_int) (fun _ _ => rfl))) a_nil))))) (v_rd 4) (fun _ _ => rfl)))))))))))
abbrev N_l_shape : List Str := ["_law_word_here", "_law_shapes"]
theorem sc_l_shape : FnScope N_l_shape ["_law_word_here"] (defScope st_l_shape) := ⟨rfl, rfl, rfl, by decide +kernel, rfl, by decide +kernel, by decide +kernel⟩
theorem ok_l_shape {P : Program} {w : World} {K : PySem.W.Frag} {mg : Str → Option Value} {base : Heap} {fa : Addr} {fd : FuncData} (T : Txt K w mg)  (F : Fun K "_law_shape" "_law_shape" st_l_shape fa fd) : FnOk P w K mg base CX0 1 fa fd ["_law_word_here"] (spV K 1 den_l_shape) :=
  okV (io := fun _ => false) F sc_l_shape rfl rfl fun cdv A outer s H E hr =>
  (b_cons (s_set (i := 1) sc_l_shape.nd (by first | exact Or.inl rfl | exact Or.inr rfl) (v_disp (pp_cons Ss_set_w (v_str Ss_rn) (pp_cons Ss_copy (v_str Ss_ww) (pp_cons Ss_mix (v_str Ss_rrr) (pp_cons Ss_push (v_str Ss_r) (pp_cons Ss_pop (v_str Ss_r) (pp_cons Ss_room (v_str Ss_k) (pp_cons Ss_store (v_str Ss_wkr) pp_nil))))))) (by decide +kernel)))
  (b_cons (s_expr (v_upd (pv 1) (v_disp (pp_cons Ss_load (v_str Ss_rwk) (pp_cons Ss_call (v_str Ss_f) (pp_cons Ss_ret_w (v_str Ss__empty) (pp_cons Ss_go (v_str Ss_t) (pp_cons Ss_if_w (v_str Ss_t) (pp_cons Ss_out (v_str Ss_r) (pp_cons Ss_throw (v_str Ss__empty) (pp_cons Ss_resume (v_str Ss__empty) pp_nil)))))))) (by decide +kernel))))
  (b_one (s_ret (v_x (x_get1 (hu_of hr) (pl_name (pv 1)) (x_pl (pl_name (pv 0)))))))))
abbrev N_l_code : List Str := ["_law_draw", "_law_many", "_law_names", "_law_words_here", "_law_found", "_law_k", "_law_word_here", "_law_kind"]
theorem sc_l_code : FnScope N_l_code ["_law_draw", "_law_many", "_law_names"] (defScope st_l_code) := ⟨rfl, rfl, rfl, by decide +kernel, rfl, by decide +kernel, by decide +kernel⟩
theorem ok_l_code {P : Program} {w : World} {K : PySem.W.Frag} {mg : Str → Option Value} {base : Heap} {fa : Addr} {fd : FuncData} (T : Txt K w mg) (D_l_next : DefV P w K mg base 2 "_law_next" 2 den_l_next) (D_l_part : DefV P w K mg base 3 "_law_part" 4 den_l_part) (D_l_shape : DefV P w K mg base 1 "_law_shape" 1 den_l_shape) (F : Fun K "_law_code" "_law_code" st_l_code fa fd) : FnOk P w K mg base CX0 4 fa fd ["_law_draw", "_law_many", "_law_names"] (spV K 3 den_l_code) :=
  okV (io := fun i => ([0] : List Nat).contains i) F sc_l_code rfl rfl fun cdv A outer s H E hr =>
  (b_cons (s_set (i := 3) sc_l_code.nd (by first | exact Or.inl rfl | exact Or.inr rfl) (v_lst (a_cons (v_str Ss_set_w) (a_cons (v_str Ss_copy) (a_cons (v_str Ss_mix) (a_cons (v_str Ss_push) (a_cons (v_str Ss_pop) (a_cons (v_str Ss_room) (a_cons (v_str Ss_store) (a_cons (v_str Ss_load) (a_cons (v_str Ss_call) (a_cons (v_str Ss_ret_w) (a_cons (v_str Ss_go) (a_cons (v_str Ss_if_w) (a_cons (v_str Ss_out) (a_cons (v_str Ss_throw) a_nil))))))))))))))))
  (b_cons (s_set (i := 4) sc_l_code.nd (by first | exact Or.inl rfl | exact Or.inr rfl) (v_lst a_nil))
  (b_cons (s_for PassesOwn.never rfl (i_range1 T.n_range (a_cons (v_rd 1) a_nil)) (g_name 5 sc_l_code.nd (by first | exact Or.inl rfl | exact Or.inr rfl))
  (b_cons (s_set (i := 6) sc_l_code.nd (by first | exact Or.inl rfl | exact Or.inr rfl) (v_ix (v_add (v_rd 3) (v_lst (a_cons (v_str Ss_resume) a_nil))) (v_call D_l_next (hr.mono (by decide)) (a_lendB (i := 0) (pv 0) (a_cons v_int a_nil))) (fun _ _ => rfl)))
  (b_one (s_expr (v_meth m_app PySem.F.slot_list_append (by first | rfl | decide +kernel | kernel_rfl) (pv 4) (a_cons (v_add (v_tup (a_cons (v_rd 6) a_nil)) (v_bltT b_tup T.n_tuple (by decide +kernel) (a_cons (v_lc (own := [("_law_kind", 7)]) rfl sc_l_code.nd (i_any (v_call D_l_shape (hr.mono (by decide)) (a_cons (v_rd 6) a_nil))) (blkOk_by (N := N_l_code) (sc := defScope st_l_code) (by decide +kernel)) (fun _ _ _ _ _ => (g_name 7 sc_l_code.nd (by first | exact Or.inl rfl | exact Or.inr rfl))) (fun _ _ _ _ _ => (v_call D_l_part (hr.mono (by decide)) (a_lendB (i := 0) (pv 0) (a_cons (v_rd 7) (a_cons (v_rd 1) (a_cons (v_rd 2) a_nil))))))) a_nil))) a_nil))))))
  (b_one (s_ret (v_mv 4))))))
abbrev N_l_landings : List Str := ["_law_draw", "_law_many", "_law_most", "_law_found", "_law_k", "_law_first"]
theorem sc_l_landings : FnScope N_l_landings ["_law_draw", "_law_many", "_law_most"] (defScope st_l_landings) := ⟨rfl, rfl, rfl, by decide +kernel, rfl, by decide +kernel, by decide +kernel⟩
theorem ok_l_landings {P : Program} {w : World} {K : PySem.W.Frag} {mg : Str → Option Value} {base : Heap} {fa : Addr} {fd : FuncData} (T : Txt K w mg) (D_l_next : DefV P w K mg base 2 "_law_next" 2 den_l_next) (F : Fun K "_law_landings" "_law_landings" st_l_landings fa fd) : FnOk P w K mg base CX0 3 fa fd ["_law_draw", "_law_many", "_law_most"] (spV K 3 den_l_landings) :=
  okV (io := fun i => ([0] : List Nat).contains i) F sc_l_landings rfl rfl fun cdv A outer s H E hr =>
  (b_cons (s_set (i := 3) sc_l_landings.nd (by first | exact Or.inl rfl | exact Or.inr rfl) (v_lst a_nil))
  (b_cons (s_for PassesOwn.never rfl (i_range1 T.n_range (a_cons (v_call D_l_next (hr.mono (by decide)) (a_lendB (i := 0) (pv 0) (a_cons (v_add (v_rd 2) v_int) a_nil))) a_nil)) (g_name 4 sc_l_landings.nd (by first | exact Or.inl rfl | exact Or.inr rfl))
  (b_cons (s_set (i := 5) sc_l_landings.nd (by first | exact Or.inl rfl | exact Or.inr rfl) (v_call D_l_next (hr.mono (by decide)) (a_lendB (i := 0) (pv 0) (a_cons (v_rd 1) a_nil))))
  (b_one (s_expr (v_meth m_app PySem.F.slot_list_append (by first | rfl | decide +kernel | kernel_rfl) (pv 3) (a_cons (v_tup (a_cons (v_rd 5) (a_cons (v_add (v_add (v_rd 5) v_int) (v_call D_l_next (hr.mono (by decide)) (a_lendB (i := 0) (pv 0) (a_cons (v_sub (v_rd 1) (v_rd 5)) a_nil)))) (a_cons (v_call D_l_next (hr.mono (by decide)) (a_lendB (i := 0) (pv 0) (a_cons (v_rd 1) a_nil))) a_nil)))) a_nil))))))
  (b_one (s_ret (v_mv 3)))))
abbrev N_l_word : List Str := ["_law_draw", "_law_some", "_law_word_here", "_law_k"]
theorem sc_l_word : FnScope N_l_word ["_law_draw"] (defScope st_l_word) := ⟨rfl, rfl, rfl, by decide +kernel, rfl, by decide +kernel, by decide +kernel⟩
theorem ok_l_word {P : Program} {w : World} {K : PySem.W.Frag} {mg : Str → Option Value} {base : Heap} {fa : Addr} {fd : FuncData} (T : Txt K w mg) (D_l_next : DefV P w K mg base 2 "_law_next" 2 den_l_next) (F : Fun K "_law_word" "_law_word" st_l_word fa fd) : FnOk P w K mg base CX0 3 fa fd ["_law_draw"] (spV K 1 den_l_word) :=
  okV (io := fun i => ([0] : List Nat).contains i) F sc_l_word rfl rfl fun cdv A outer s H E hr =>
  (b_cons (s_set (i := 1) sc_l_word.nd (by first | exact Or.inl rfl | exact Or.inr rfl) (v_lst (a_cons (v_str Ss_fun) (a_cons (v_str Ss_land) (a_cons (v_str Ss_set_w) (a_cons (v_str Ss_call) (a_cons (v_str Ss_ret_w) (a_cons (v_str Ss_go) (a_cons (v_str Ss_if_w) (a_cons (v_str Ss_end) (a_cons (v_str Ss_sp) (a_cons (v_str Ss_a) (a_cons (v_str Ss_e) (a_cons (v_str Ss_h) (a_cons (v_str Ss_end) (a_cons (v_str Ss_none) (a_cons (v_str Ss_zz) (a_cons (v_str Ss_throw) a_nil))))))))))))))))))
  (b_cons (s_if (t_cmp (c_eq hr.units) (v_call D_l_next (hr.mono (by decide)) (a_lendB (i := 0) (pv 0) (a_cons v_int a_nil))) v_int (nomark _))
  (b_one (s_ret (v_ixAt (pv 1) (v_call D_l_next (hr.mono (by decide)) (a_lendB (i := 0) (pv 0) (a_cons v_int a_nil))) (fun _ _ => rfl))))
  b_nil)
  (b_cons (s_set (i := 2) sc_l_word.nd (by first | exact Or.inl rfl | exact Or.inr rfl) (v_str Ss__empty))
  (b_cons (s_for PassesOwn.never rfl (i_range1 T.n_range (a_cons (v_add v_int (v_call D_l_next (hr.mono (by decide)) (a_lendB (i := 0) (pv 0) (a_cons v_int a_nil)))) a_nil)) (g_name 3 sc_l_word.nd (by first | exact Or.inl rfl | exact Or.inr rfl))
  (b_one (s_set (i := 2) sc_l_word.nd (by first | exact Or.inl rfl | exact Or.inr rfl) (v_add (v_rd 2) (v_ix (v_str Ss_abcdefghijklmnopqrstuvwxyz) (v_call D_l_next (hr.mono (by decide)) (a_lendB (i := 0) (pv 0) (a_cons v_int a_nil))) (fun _ _ => rfl))))))
  (b_one (s_ret (v_mv 2)))))))
abbrev N_l_words : List Str := ["_law_draw", "_law_many", "_law_found", "_law_k", "_law_word_here", "_law_sign"]
theorem sc_l_words : FnScope N_l_words ["_law_draw", "_law_many"] (defScope st_l_words) := ⟨rfl, rfl, rfl, by decide +kernel, rfl, by decide +kernel, by decide +kernel⟩
theorem ok_l_words {P : Program} {w : World} {K : PySem.W.Frag} {mg : Str → Option Value} {base : Heap} {fa : Addr} {fd : FuncData} (T : Txt K w mg) (D_l_word : DefV P w K mg base 3 "_law_word" 1 den_l_word) (F : Fun K "_law_words" "_law_words" st_l_words fa fd) : FnOk P w K mg base CX0 4 fa fd ["_law_draw", "_law_many"] (spV K 2 den_l_words) :=
  okV (io := fun i => ([0] : List Nat).contains i) F sc_l_words rfl rfl fun cdv A outer s H E hr =>
  (b_cons (s_set (i := 2) sc_l_words.nd (by first | exact Or.inl rfl | exact Or.inr rfl) (v_lst a_nil))
  (b_cons (s_for PassesOwn.never rfl (i_range1 T.n_range (a_cons (v_rd 1) a_nil)) (g_name 3 sc_l_words.nd (by first | exact Or.inl rfl | exact Or.inr rfl))
  (b_cons (s_set (i := 4) sc_l_words.nd (by first | exact Or.inl rfl | exact Or.inr rfl) (v_call D_l_word (hr.mono (by decide)) (a_lendB (i := 0) (pv 0) a_nil)))
  (b_cons (s_if (t_xcmp c_in (r_pl (pl_name (pv 4))) (r_pl (pl_name (pv 2))) (by rfl))
  (b_one (s_set (i := 4) sc_l_words.nd (by first | exact Or.inl rfl | exact Or.inr rfl) (v_ix (v_lcIf (own := [("_law_sign", 5)]) rfl sc_l_words.nd (i_any (v_str Ss_abcdefghijklmnopqrstuvwxyz)) (blkOk_by (N := N_l_words) (sc := defScope st_l_words) (by decide +kernel)) (fun _ _ _ _ _ => (g_name 5 sc_l_words.nd (by first | exact Or.inl rfl | exact Or.inr rfl))) (fun _ _ _ _ _ => (t_cmpR c_notIn (v_add (v_slP (pl_name (pv 4)) px_none (px_some x_int)) (v_rd 5)) (pv 2) (by rfl))) (fun _ _ _ _ _ => (v_add (v_slP (pl_name (pv 4)) px_none (px_some x_int)) (v_rd 5)))) v_int (fun _ _ => rfl))))
  b_nil)
  (b_one (s_expr (v_meth m_app PySem.F.slot_list_append (by first | rfl | decide +kernel | kernel_rfl) (pv 2) (a_cons (v_rd 4) a_nil)))))))
  (b_one (s_ret (v_mv 2)))))
abbrev N_l_functions : List Str := ["_law_draw", "_law_most", "_law_size", "_law_names", "_law_found", "_law_name", "_law_many"]
theorem sc_l_functions : FnScope N_l_functions ["_law_draw", "_law_most", "_law_size"] (defScope st_l_functions) := ⟨rfl, rfl, rfl, by decide +kernel, rfl, by decide +kernel, by decide +kernel⟩
theorem ok_l_functions {P : Program} {w : World} {K : PySem.W.Frag} {mg : Str → Option Value} {base : Heap} {fa : Addr} {fd : FuncData} (T : Txt K w mg) (D_l_next : DefV P w K mg base 2 "_law_next" 2 den_l_next) (D_l_code : DefV P w K mg base 4 "_law_code" 3 den_l_code) (D_l_landings : DefV P w K mg base 3 "_law_landings" 3 den_l_landings) (D_l_words : DefV P w K mg base 4 "_law_words" 2 den_l_words) (F : Fun K "_law_functions" "_law_functions" st_l_functions fa fd) : FnOk P w K mg base CX0 5 fa fd ["_law_draw", "_law_most", "_law_size"] (spV K 3 den_l_functions) :=
  okV (io := fun i => ([0] : List Nat).contains i) F sc_l_functions rfl rfl fun cdv A outer s H E hr =>
  (b_cons (s_set (i := 3) sc_l_functions.nd (by first | exact Or.inl rfl | exact Or.inr rfl) (v_call D_l_words (hr.mono (by decide)) (a_lendB (i := 0) (pv 0) (a_cons (v_add v_int (v_call D_l_next (hr.mono (by decide)) (a_lendB (i := 0) (pv 0) (a_cons (v_rd 1) a_nil)))) a_nil))))
  (b_cons (s_set (i := 4) sc_l_functions.nd (by first | exact Or.inl rfl | exact Or.inr rfl) (v_lst a_nil))
  (b_cons (s_for PassesOwn.never rfl (i_any (v_rd 3)) (g_name 5 sc_l_functions.nd (by first | exact Or.inl rfl | exact Or.inr rfl))
  (b_cons (s_set (i := 6) sc_l_functions.nd (by first | exact Or.inl rfl | exact Or.inr rfl) (v_add v_int (v_call D_l_next (hr.mono (by decide)) (a_lendB (i := 0) (pv 0) (a_cons (v_rd 2) a_nil)))))
  (b_one (s_expr (v_meth m_app PySem.F.slot_list_append (by first | rfl | decide +kernel | kernel_rfl) (pv 4) (a_cons (v_tup (a_cons (v_rd 5) (a_cons (v_call D_l_code (hr.mono (by decide)) (a_lendB (i := 0) (pv 0) (a_cons (v_rd 6) (a_cons (v_rd 3) a_nil)))) (a_cons (v_call D_l_landings (hr.mono (by decide)) (a_lendB (i := 0) (pv 0) (a_cons (v_rd 6) (a_cons v_int a_nil)))) a_nil)))) a_nil))))))
  (b_one (s_ret (v_mv 4))))))
abbrev N_is_name : List Str := ["thing", "sign"]
theorem sc_is_name : FnScope N_is_name ["thing"] (defScope st_is_name) := ⟨rfl, rfl, rfl, by decide +kernel, rfl, by decide +kernel, by decide +kernel⟩
theorem ok_is_name {P : Program} {w : World} {K : PySem.W.Frag} {mg : Str → Option Value} {base : Heap} {fa : Addr} {fd : FuncData} (T : Txt K w mg)  (F : Fun K "is_name" "is_name" st_is_name fa fd) : FnOk P w K mg base CX0 1 fa fd ["thing"] (spV K 1 den_is_name) :=
  okV (io := fun _ => false) F sc_is_name rfl rfl fun cdv A outer s H E hr =>
  (b_cons (s_if (t_w (w_or (t_not (t_x (x_isi T.n_isinstance (by decide +kernel) T.n_str (by decide +kernel) (r_pl (pl_name (pv 0)))))) (w_or1 (t_not (t_xchn c_le c_le (r_x x_int) (r_x (x_blt b_len T.n_len (by decide +kernel) (xs_cons (r_pl (pl_name (pv 0))) xs_nil))) (r_x x_int))))))
  (b_one (s_ret v_bl))
  b_nil)
  (b_one (s_ret (v_blt (b_all rfl).r T.n_all (by decide +kernel) (a_cons (v_lc (own := [("sign", 1)]) rfl sc_is_name.nd (i_any (v_rd 0)) (blkOk_by (N := N_is_name) (sc := defScope st_is_name) (by decide +kernel)) (fun _ _ _ _ _ => (g_name 1 sc_is_name.nd (by first | exact Or.inl rfl | exact Or.inr rfl))) (fun _ _ _ _ _ => (v_x (x_cmp c_in (r_pl (pl_name (pv 1))) (r_x (x_glob T.g_LETTERS)) (by rfl))))) a_nil)))))
abbrev N_is_number : List Str := ["thing"]
theorem sc_is_number : FnScope N_is_number ["thing"] (defScope st_is_number) := ⟨rfl, rfl, rfl, by decide +kernel, rfl, by decide +kernel, by decide +kernel⟩
theorem ok_is_number {P : Program} {w : World} {K : PySem.W.Frag} {mg : Str → Option Value} {base : Heap} {fa : Addr} {fd : FuncData} (T : Txt K w mg)  (F : Fun K "is_number" "is_number" st_is_number fa fd) : FnOk P w K mg base CX0 1 fa fd ["thing"] (spV K 1 den_is_number) :=
  okV (io := fun _ => false) F sc_is_number rfl rfl fun cdv A outer s H E hr =>
  (b_one (s_ret (v_x (x_and (x_isi T.n_isinstance (by decide +kernel) T.n_int (by decide +kernel) (r_pl (pl_name (pv 0)))) (x_one (x_not (x_isi T.n_isinstance (by decide +kernel) T.n_bool (by decide +kernel) (r_pl (pl_name (pv 0))))))))))
abbrev N_is_near : List Str := ["thing"]
theorem sc_is_near : FnScope N_is_near ["thing"] (defScope st_is_near) := ⟨rfl, rfl, rfl, by decide +kernel, rfl, by decide +kernel, by decide +kernel⟩
theorem ok_is_near {P : Program} {w : World} {K : PySem.W.Frag} {mg : Str → Option Value} {base : Heap} {fa : Addr} {fd : FuncData} (T : Txt K w mg) (D_is_number : DefV P w K mg base 1 "is_number" 1 den_is_number) (F : Fun K "is_near" "is_near" st_is_near fa fd) : FnOk P w K mg base CX0 2 fa fd ["thing"] (spV K 1 den_is_near) :=
  okV (io := fun _ => false) F sc_is_near rfl rfl fun cdv A outer s H E hr =>
  (b_one (s_ret (v_and (v_call D_is_number (hr.mono (by decide)) (a_cons (v_rd 0) a_nil)) (v_one (v_x (x_chn c_le c_le (r_x (x_neg (r_x (x_glob T.g_MOST_NEAR)))) (r_pl (pl_name (pv 0))) (r_x (x_glob T.g_MOST_NEAR))))))))
abbrev N_fits : List Str := ["kind", "thing", "many"]
theorem sc_fits : FnScope N_fits ["kind", "thing", "many"] (defScope st_fits) := ⟨rfl, rfl, rfl, by decide +kernel, rfl, by decide +kernel, by decide +kernel⟩
theorem ok_fits {P : Program} {w : World} {K : PySem.W.Frag} {mg : Str → Option Value} {base : Heap} {fa : Addr} {fd : FuncData} (T : Txt K w mg) (D_is_name : DefV P w K mg base 1 "is_name" 1 den_is_name) (D_is_number : DefV P w K mg base 1 "is_number" 1 den_is_number) (D_is_near : DefV P w K mg base 2 "is_near" 1 den_is_near) (F : Fun K "fits" "fits" st_fits fa fd) : FnOk P w K mg base CX0 3 fa fd ["kind", "thing", "many"] (spV K 3 den_fits) :=
  okV (io := fun _ => false) F sc_fits rfl rfl fun cdv A outer s H E hr =>
  (b_cons (s_if (t_xcmp (c_eq hr.units) (r_pl (pl_name (pv 0))) (r_x (x_str Ss_register)) (nomark _))
  (b_one (s_ret (v_x (x_cmp c_in (r_pl (pl_name (pv 1))) (r_x (x_glob T.g_REGISTERS)) (by rfl)))))
  b_nil)
  (b_cons (s_if (t_xcmp (c_eq hr.units) (r_pl (pl_name (pv 0))) (r_x (x_str Ss_word)) (nomark _))
  (b_one (s_ret (v_x (x_cmp c_in (r_pl (pl_name (pv 1))) (r_x (x_glob T.g_WORDS)) (by rfl)))))
  b_nil)
  (b_cons (s_if (t_xcmp (c_eq hr.units) (r_pl (pl_name (pv 0))) (r_x (x_str Ss_name)) (nomark _))
  (b_one (s_ret (v_call D_is_name (hr.mono (by decide)) (a_cons (v_rd 1) a_nil))))
  b_nil)
  (b_cons (s_if (t_xcmp (c_eq hr.units) (r_pl (pl_name (pv 0))) (r_x (x_str Ss_near)) (nomark _))
  (b_one (s_ret (v_call D_is_near (hr.mono (by decide)) (a_cons (v_rd 1) a_nil))))
  b_nil)
  (b_one (s_ret (v_and (v_call D_is_number (hr.mono (by decide)) (a_cons (v_rd 1) a_nil)) (v_one (v_x (x_or (x_cmp (c_eq hr.units) (r_pl (pl_name (pv 0))) (r_x (x_str Ss_number)) (nomark _)) (x_one (x_chn c_le c_lt (r_x x_int) (r_pl (pl_name (pv 1))) (r_pl (pl_name (pv 2)))))))))))))))
abbrev N_is_instruction : List Str := ["thing", "many", "word", "parts", "kind", "part"]
theorem sc_is_instruction : FnScope N_is_instruction ["thing", "many"] (defScope st_is_instruction) := ⟨rfl, rfl, rfl, by decide +kernel, rfl, by decide +kernel, by decide +kernel⟩
theorem ok_is_instruction {P : Program} {w : World} {K : PySem.W.Frag} {mg : Str → Option Value} {base : Heap} {fa : Addr} {fd : FuncData} (T : Txt K w mg) (D_fits : DefV P w K mg base 3 "fits" 3 den_fits) (F : Fun K "is_instruction" "is_instruction" st_is_instruction fa fd) : FnOk P w K mg base CX0 4 fa fd ["thing", "many"] (spV K 2 den_is_instruction) :=
  okV (io := fun _ => false) F sc_is_instruction rfl rfl fun cdv A outer s H E hr =>
  (b_cons (s_if (t_w (w_or (t_not (t_x (x_isi T.n_isinstance (by decide +kernel) T.n_tuple (by decide +kernel) (r_pl (pl_name (pv 0)))))) (w_or1 (t_xcmp (c_eq hr.units) (r_x (x_blt b_len T.n_len (by decide +kernel) (xs_cons (r_pl (pl_name (pv 0))) xs_nil))) (r_x x_int) (nomark _)))))
  (b_one (s_ret v_bl))
  b_nil)
  (b_cons (s_asg (v_rd 0) (g_tupS rfl (g_cons (g_name 2 sc_is_instruction.nd (by first | exact Or.inl rfl | exact Or.inr rfl)) (g_star (g_name 3 sc_is_instruction.nd (by first | exact Or.inl rfl | exact Or.inr rfl)) g_nil)) (by decide)))
  (b_cons (s_if (t_w (w_or (t_not (t_x (x_isi T.n_isinstance (by decide +kernel) T.n_str (by decide +kernel) (r_pl (pl_name (pv 2)))))) (w_or (t_notInM T.m_SHAPES (v_rd 2) (by rfl)) (w_or1 (t_cmp (c_ne hr.units) (v_x (x_blt b_len T.n_len (by decide +kernel) (xs_cons (r_pl (pl_name (pv 3))) xs_nil))) (v_blt b_len.r T.n_len (by decide +kernel) (a_cons (v_getM T.m_SHAPES (v_rd 2) (fun _ _ => rfl)) a_nil)) (nomark _))))))
  (b_one (s_ret v_bl))
  b_nil)
  (b_one (s_ret (v_blt (b_all rfl).r T.n_all (by decide +kernel) (a_cons (v_lc (own := [("kind", 4), ("part", 5)]) rfl sc_is_instruction.nd (i_zip T.n_zip (a_cons (v_fz (v_getM T.m_SHAPES (v_rd 2) (fun _ _ => rfl))) (a_cons (v_rd 3) a_nil))) (blkOk_by (N := N_is_instruction) (sc := defScope st_is_instruction) (by decide +kernel)) (fun _ _ _ _ _ => (g_tup rfl (g_cons (g_name 4 sc_is_instruction.nd (by first | exact Or.inl rfl | exact Or.inr rfl)) (g_cons (g_name 5 sc_is_instruction.nd (by first | exact Or.inl rfl | exact Or.inr rfl)) g_nil)))) (fun _ _ _ _ _ => (v_call D_fits (hr.mono (by decide)) (a_cons (v_rd 4) (a_cons (v_rd 5) (a_cons (v_rd 1) a_nil)))))) a_nil)))))))
abbrev N_is_landing : List Str := ["thing", "many", "part", "first", "end", "to"]
theorem sc_is_landing : FnScope N_is_landing ["thing", "many"] (defScope st_is_landing) := ⟨rfl, rfl, rfl, by decide +kernel, rfl, by decide +kernel, by decide +kernel⟩
theorem ok_is_landing {P : Program} {w : World} {K : PySem.W.Frag} {mg : Str → Option Value} {base : Heap} {fa : Addr} {fd : FuncData} (T : Txt K w mg) (D_is_number : DefV P w K mg base 1 "is_number" 1 den_is_number) (F : Fun K "is_landing" "is_landing" st_is_landing fa fd) : FnOk P w K mg base CX0 2 fa fd ["thing", "many"] (spV K 2 den_is_landing) :=
  okV (io := fun _ => false) F sc_is_landing rfl rfl fun cdv A outer s H E hr =>
  (b_cons (s_if (t_w (w_or (t_not (t_x (x_isi T.n_isinstance (by decide +kernel) T.n_tuple (by decide +kernel) (r_pl (pl_name (pv 0)))))) (w_or (t_xcmp (c_ne hr.units) (r_x (x_blt b_len T.n_len (by decide +kernel) (xs_cons (r_pl (pl_name (pv 0))) xs_nil))) (r_x x_int) (nomark _)) (w_or1 (t_not (t_tru (v_blt (b_all rfl).r T.n_all (by decide +kernel) (a_cons (v_lc (own := [("part", 2)]) rfl sc_is_landing.nd (i_any (v_rd 0)) (blkOk_by (N := N_is_landing) (sc := defScope st_is_landing) (by decide +kernel)) (fun _ _ _ _ _ => (g_name 2 sc_is_landing.nd (by first | exact Or.inl rfl | exact Or.inr rfl))) (fun _ _ _ _ _ => (v_call D_is_number (hr.mono (by decide)) (a_cons (v_rd 2) a_nil)))) a_nil)) (fun _ => rfl)))))))
  (b_one (s_ret v_bl))
  b_nil)
  (b_cons (s_asg (v_rd 0) (g_tup rfl (g_cons (g_name 3 sc_is_landing.nd (by first | exact Or.inl rfl | exact Or.inr rfl)) (g_cons (g_name 4 sc_is_landing.nd (by first | exact Or.inl rfl | exact Or.inr rfl)) (g_cons (g_name 5 sc_is_landing.nd (by first | exact Or.inl rfl | exact Or.inr rfl)) g_nil)))))
  (b_one (s_ret (v_x (x_and (x_chn3 c_le c_lt c_le (r_x x_int) (r_pl (pl_name (pv 3))) (r_pl (pl_name (pv 4))) (r_pl (pl_name (pv 1)))) (x_one (x_chn c_le c_lt (r_x x_int) (r_pl (pl_name (pv 5))) (r_pl (pl_name (pv 1)))))))))))
abbrev N_Function_init : List Str := ["self", "name", "code", "landings", "many", "at", "thing"]
theorem sc_Function_init : FnScope N_Function_init ["self", "name", "code", "landings"] (defScope st_Function_init) := ⟨rfl, rfl, rfl, by decide +kernel, rfl, by decide +kernel, by decide +kernel⟩
theorem ok_Function_init {P : Program} {w : World} {K : PySem.W.Frag} {mg : Str → Option Value} {base : Heap} {fa : Addr} {fd : FuncData} (T : Txt K w mg) (D_is_name : DefV P w K mg base 1 "is_name" 1 den_is_name) (D_is_instruction : DefV P w K mg base 4 "is_instruction" 2 den_is_instruction) (D_is_landing : DefV P w K mg base 2 "is_landing" 2 den_is_landing) (F : Fun K "__init__" "Function.__init__" st_Function_init fa fd) : FnOk P w K mg base CX0 5 fa fd ["self", "name", "code", "landings"] (spV K 4 den_Function_init) :=
  okV (io := fun i => ([0] : List Nat).contains i) F sc_Function_init rfl rfl fun cdv A outer s H E hr =>
  (b_cons (s_if (t_not (t_tru (v_call D_is_name (hr.mono (by decide)) (a_cons (v_rd 1) a_nil)) (fun _ => rfl)))
  (b_one s_never)
  b_nil)
  (b_cons (s_set (i := 4) sc_Function_init.nd (by first | exact Or.inl rfl | exact Or.inr rfl) (v_x (x_blt b_len T.n_len (by decide +kernel) (xs_cons (r_pl (pl_name (pv 2))) xs_nil))))
  (b_cons (s_for PassesOwn.never rfl (i_enumr T.n_enumerate (a_cons (v_rd 2) a_nil)) (g_tup rfl (g_cons (g_name 5 sc_Function_init.nd (by first | exact Or.inl rfl | exact Or.inr rfl)) (g_cons (g_name 6 sc_Function_init.nd (by first | exact Or.inl rfl | exact Or.inr rfl)) g_nil)))
  (b_one (s_if (t_not (t_tru (v_call D_is_instruction (hr.mono (by decide)) (a_cons (v_rd 6) (a_cons (v_rd 4) a_nil))) (fun _ => rfl)))
  (b_one s_never)
  b_nil)))
  (b_cons (s_if (t_not (t_xchn c_le c_le (r_x x_int) (r_pl (pl_name (pv 4))) (r_x (x_glob T.g_MOST_CODE))))
  (b_one s_never)
  b_nil)
  (b_cons (s_if (t_w (w_or (t_not (t_tru (v_isiT T.n_isinstance (by decide +kernel) T.n_list (by decide +kernel) T.n_tuple (by decide +kernel) (r_pl (pl_name (pv 3)))) (fun _ => rfl))) (w_or1 (t_not (t_tru (v_blt (b_all rfl).r T.n_all (by decide +kernel) (a_cons (v_lc (own := [("thing", 6)]) rfl sc_Function_init.nd (i_any (v_rd 3)) (blkOk_by (N := N_Function_init) (sc := defScope st_Function_init) (by decide +kernel)) (fun _ _ _ _ _ => (g_name 6 sc_Function_init.nd (by first | exact Or.inl rfl | exact Or.inr rfl))) (fun _ _ _ _ _ => (v_call D_is_landing (hr.mono (by decide)) (a_cons (v_rd 6) (a_cons (v_rd 4) a_nil))))) a_nil)) (fun _ => rfl))))))
  (b_one s_never)
  b_nil)
  (b_cons (s_fldPE (pl_name (pv 0)) T.o_name_Function Ss_name (v_rd 1))
  (b_cons (s_fldPE (pl_name (pv 0)) T.o_code_Function Ss_code (v_tupP T.n_tuple (by decide +kernel) (pl_name (pv 2))))
  (b_one (s_fldPE (pl_name (pv 0)) T.o_landings_Function Ss_landings (v_tupP T.n_tuple (by decide +kernel) (pl_name (pv 3))))))))))))
abbrev N_Program_init : List Str := ["self", "functions", "names", "one", "called", "thing", "name"]
theorem sc_Program_init : FnScope N_Program_init ["self", "functions"] (defScope st_Program_init) := ⟨rfl, rfl, rfl, by decide +kernel, rfl, by decide +kernel, by decide +kernel⟩
theorem ok_Program_init {P : Program} {w : World} {K : PySem.W.Frag} {mg : Str → Option Value} {base : Heap} {fa : Addr} {fd : FuncData} (T : Txt K w mg)  (F : Fun K "__init__" "Program.__init__" st_Program_init fa fd) : FnOk P w K mg base CX0 1 fa fd ["self", "functions"] (spV K 2 den_Program_init) :=
  okV (io := fun i => ([0] : List Nat).contains i) F sc_Program_init rfl rfl fun cdv A outer s H E hr =>
  (b_cons (s_set (i := 2) sc_Program_init.nd (by first | exact Or.inl rfl | exact Or.inr rfl) (v_lc (own := [("one", 3)]) rfl sc_Program_init.nd (i_any (v_rd 1)) (blkOk_by (N := N_Program_init) (sc := defScope st_Program_init) (by decide +kernel)) (fun _ _ _ _ _ => (g_name 3 sc_Program_init.nd (by first | exact Or.inl rfl | exact Or.inr rfl))) (fun _ _ _ _ _ => (v_rdP (pl_fldE (pl_name (pv 3)) T.o_name_Function Ss_name)))))
  (b_cons (s_if (t_w (w_or (t_not (t_xchn c_le c_le (r_x x_int) (r_x (x_blt b_len T.n_len (by decide +kernel) (xs_cons (r_pl (pl_name (pv 2))) xs_nil))) (r_x (x_glob T.g_MOST_FUNCTIONS)))) (w_or1 (t_xcmp c_lt (r_x (x_lenSet T.n_len T.n_set (r_pl (pl_name (pv 2))))) (r_x (x_blt b_len T.n_len (by decide +kernel) (xs_cons (r_pl (pl_name (pv 2))) xs_nil))) (nomark _)))))
  (b_one s_never)
  b_nil)
  (b_cons (s_setLc2If (i := 4) (own := [("one", 3), ("thing", 5)]) (vs1 := [5]) rfl sc_Program_init.nd rfl rfl (sw_true rfl rfl rfl (by decide +kernel)) (i_any (v_rd 1)) (blkOk_by (N := N_Program_init) (sc := defScope st_Program_init) (by decide +kernel)) (by decide) (fun _ _ _ _ _ => (g_name 3 sc_Program_init.nd (by first | exact Or.inl rfl | exact Or.inr rfl))) (fun _ _ _ _ _ => (i_any (v_rdP (pl_fldE (pl_name (pv 3)) T.o_code_Function Ss_code)))) (fun _ _ _ _ _ => (g_name 5 sc_Program_init.nd (by first | exact Or.inl rfl | exact Or.inr rfl))) (fun _ _ _ _ _ => (t_xcmp (c_eq hr.units) (r_pl (pl_num (hu_of hr) (pl_name (pv 5)) pe_cint (fun _ _ => rfl) (fun _ _ => rfl))) (r_x (x_str Ss_call)) (nomark _))) (fun _ _ _ _ _ => (v_rdP (pl_num (hu_of hr) (pl_name (pv 5)) pe_cint (fun _ _ => rfl) (fun _ _ => rfl)))))
  (b_cons (s_if (t_not (t_tru (v_blt (b_all rfl).r T.n_all (by decide +kernel) (a_cons (v_lc (own := [("name", 6)]) rfl sc_Program_init.nd (i_any (v_rd 4)) (blkOk_by (N := N_Program_init) (sc := defScope st_Program_init) (by decide +kernel)) (fun _ _ _ _ _ => (g_name 6 sc_Program_init.nd (by first | exact Or.inl rfl | exact Or.inr rfl))) (fun _ _ _ _ _ => (v_x (x_cmp c_in (r_pl (pl_name (pv 6))) (r_pl (pl_name (pv 2))) (by rfl))))) a_nil)) (fun _ => rfl)))
  (b_one s_never)
  b_nil)
  (b_one (s_fldPE (pl_name (pv 0)) T.o_functions_Program Ss_functions (v_tupP T.n_tuple (by decide +kernel) (pl_name (pv 1)))))))))
abbrev N_l_program : List Str := ["_law_rows", "_law_name", "_law_code_here", "_law_lands"]
theorem sc_l_program : FnScope N_l_program ["_law_rows"] (defScope st_l_program) := ⟨rfl, rfl, rfl, by decide +kernel, rfl, by decide +kernel, by decide +kernel⟩
theorem ok_l_program {P : Program} {w : World} {K : PySem.W.Frag} {mg : Str → Option Value} {base : Heap} {fa : Addr} {fd : FuncData} (T : Txt K w mg) (CD_Function : MakeD P w K mg base 5 "Function" 2 (.tup []) den_Function_init) (CW_Function : MakeW P w K mg base 5 "Function" "landings" 2 den_Function_init) (C_Program : MakeV P w K mg base 1 "Program" 1 den_Program_init) (F : Fun K "_law_program" "_law_program" st_l_program fa fd) : FnOk P w K mg base CX0 7 fa fd ["_law_rows"] (spV K 1 den_l_program) :=
  okV (io := fun _ => false) F sc_l_program rfl rfl fun cdv A outer s H E hr =>
  (b_one (s_ret (v_makeE C_Program (hr.mono (by decide)) Ss_Program (a_cons (v_lc (own := [("_law_name", 1), ("_law_code_here", 2), ("_law_lands", 3)]) rfl sc_l_program.nd (i_any (v_rd 0)) (blkOk_by (N := N_l_program) (sc := defScope st_l_program) (by decide +kernel)) (fun _ _ _ _ _ => (g_tup rfl (g_cons (g_name 1 sc_l_program.nd (by first | exact Or.inl rfl | exact Or.inr rfl)) (g_cons (g_name 2 sc_l_program.nd (by first | exact Or.inl rfl | exact Or.inr rfl)) (g_cons (g_name 3 sc_l_program.nd (by first | exact Or.inl rfl | exact Or.inr rfl)) g_nil))))) (fun _ _ _ _ _ => (v_makeWE CW_Function (hr.mono (by decide)) Ss_Function (a_cons (v_rd 1) (a_cons (v_rd 2) a_nil)) (v_rd 3)))) a_nil))))
abbrev N_l_same : List Str := ["_law_program_here", "_law_rows", "_law_found", "_law_one", "_law_name", "_law_code_here", "_law_lands"]
theorem sc_l_same : FnScope N_l_same ["_law_program_here", "_law_rows"] (defScope st_l_same) := ⟨rfl, rfl, rfl, by decide +kernel, rfl, by decide +kernel, by decide +kernel⟩
def cg1_l_same : GD := (gN 3)
@[simp] theorem cg1_l_same.c (o : O) {z : Option O} {zs : Ws.Env} : cg1_l_same o (z :: zs) = (gN 3) o (z :: zs) := rfl
def ce1_l_same : M O := (eTup (consA (rdP 3 [.fld [s_Function] s_name]) (consA (rdP 3 [.fld [s_Function] s_code]) (consA (rdP 3 [.fld [s_Function] s_landings]) nilA))))
@[simp] theorem ce1_l_same.c {z : Option O} {zs : Ws.Env} : ce1_l_same (z :: zs) = (eTup (consA (rdP 3 [.fld [s_Function] s_name]) (consA (rdP 3 [.fld [s_Function] s_code]) (consA (rdP 3 [.fld [s_Function] s_landings]) nilA)))) (z :: zs) := rfl
def cg2_l_same : GD := (gTupD 3 (gConsD (gN 4) (gConsD (gN 5) (gConsD (gN 6) gNilD))))
@[simp] theorem cg2_l_same.c (o : O) {z : Option O} {zs : Ws.Env} : cg2_l_same o (z :: zs) = (gTupD 3 (gConsD (gN 4) (gConsD (gN 5) (gConsD (gN 6) gNilD)))) o (z :: zs) := rfl
def ce2_l_same : M O := (eTup (consA (rd 4) (consA (eTupP 5 []) (consA (eTupP 6 []) nilA))))
@[simp] theorem ce2_l_same.c {z : Option O} {zs : Ws.Env} : ce2_l_same (z :: zs) = (eTup (consA (rd 4) (consA (eTupP 5 []) (consA (eTupP 6 []) nilA)))) (z :: zs) := rfl
def tl1_l_same : M Fl := (sSeq (sAsg (eLc [3] (iAny (rdP 0 [.fld [s_Program] s_functions])) cg1_l_same cYes ce1_l_same) (gN 2))
  (sRet (eBin (opD (eqD false)) (eB (bCall reprD (bsC (rP 2 []) bsN))) (eCall (callD reprD) (consA (eLc [4, 5, 6] (iAny (rd 1)) cg2_l_same cYes ce2_l_same) nilA)))))
@[simp] theorem tl1_l_same.c {z : Option O} {zs : Ws.Env} : tl1_l_same (z :: zs) = (sSeq (sAsg (eLc [3] (iAny (rdP 0 [.fld [s_Program] s_functions])) cg1_l_same cYes ce1_l_same) (gN 2))
  (sRet (eBin (opD (eqD false)) (eB (bCall reprD (bsC (rP 2 []) bsN))) (eCall (callD reprD) (consA (eLc [4, 5, 6] (iAny (rd 1)) cg2_l_same cYes ce2_l_same) nilA))))) (z :: zs) := rfl
def body_l_same : M Fl := (sSeq (sIf (eNot (cB (bCall isiD (bsC (rP 0 [.fld [s_Program] s_functions]) (bsC (bC (.ty "tuple")) bsN)))))
  (sRet (cst (.bl false)))
  sNext)
  tl1_l_same)
@[simp] theorem body_l_same.c {z : Option O} {zs : Ws.Env} : body_l_same (z :: zs) = (sSeq (sIf (eNot (cB (bCall isiD (bsC (rP 0 [.fld [s_Program] s_functions]) (bsC (bC (.ty "tuple")) bsN)))))
  (sRet (cst (.bl false)))
  sNext)
  tl1_l_same) (z :: zs) := rfl
def den_l_same : FD := fden 2 5 (fun _ => false) body_l_same
theorem ok_l_same {P : Program} {w : World} {K : PySem.W.Frag} {mg : Str → Option Value} {base : Heap} {fa : Addr} {fd : FuncData} (T : Txt K w mg)  (F : Fun K "_law_same" "_law_same" st_l_same fa fd) : FnG P w K mg base CX0 1 fa fd ["_law_program_here", "_law_rows"] (spV K 2 den_l_same) :=
  okVG (io := fun _ => false) F sc_l_same rfl rfl fun cdv A outer s H E hg hr =>
  (b_cons (s_if (t_not (t_x (x_isi T.n_isinstance (by decide +kernel) T.n_tuple (by decide +kernel) (r_pl (pl_fldE (pl_name (pv 0)) T.o_functions_Program Ss_functions)))))
  (b_one (s_ret v_bl))
  b_nil)
  (b_cons (s_setLc (i := 2) (own := [("_law_one", 3)]) rfl sc_l_same.nd rfl rfl (sw_true rfl rfl rfl (by decide +kernel)) (i_any (v_rdP (pl_fldE (pl_name (pv 0)) T.o_functions_Program Ss_functions))) (blkOk_by (N := N_l_same) (sc := defScope st_l_same) (by decide +kernel)) (fun _ _ _ _ _ => (g_name 3 sc_l_same.nd (by first | exact Or.inl rfl | exact Or.inr rfl))) (fun _ _ _ _ _ => (v_tup (a_cons (v_rdP (pl_fldE (pl_name (pv 3)) T.o_name_Function Ss_name)) (a_cons (v_rdP (pl_fldE (pl_name (pv 3)) T.o_code_Function Ss_code)) (a_cons (v_rdP (pl_fldE (pl_name (pv 3)) T.o_landings_Function Ss_landings)) a_nil))))))
  (b_one (s_ret (v_cmp (c_eq hr.units) (v_x (x_blt (b_repr hg hr.units) T.n_repr (by decide +kernel) (xs_cons (r_pl (pl_name (pv 2))) xs_nil))) (v_blt (b_repr hg hr.units).r T.n_repr (by decide +kernel) (a_cons (v_lc (own := [("_law_name", 4), ("_law_code_here", 5), ("_law_lands", 6)]) rfl sc_l_same.nd (i_any (v_rd 1)) (blkOk_by (N := N_l_same) (sc := defScope st_l_same) (by decide +kernel)) (fun _ _ _ _ _ => (g_tup rfl (g_cons (g_name 4 sc_l_same.nd (by first | exact Or.inl rfl | exact Or.inr rfl)) (g_cons (g_name 5 sc_l_same.nd (by first | exact Or.inl rfl | exact Or.inr rfl)) (g_cons (g_name 6 sc_l_same.nd (by first | exact Or.inl rfl | exact Or.inr rfl)) g_nil))))) (fun _ _ _ _ _ => (v_tup (a_cons (v_rd 4) (a_cons (v_tupP T.n_tuple (by decide +kernel) (pl_name (pv 5))) (a_cons (v_tupP T.n_tuple (by decide +kernel) (pl_name (pv 6))) a_nil)))))) a_nil)) (nomark _))))))
abbrev N_l_row : List Str := ["_law_things", "_law_thing"]
theorem sc_l_row : FnScope N_l_row ["_law_things"] (defScope st_l_row) := ⟨rfl, rfl, rfl, by decide +kernel, rfl, by decide +kernel, by decide +kernel⟩
def cg1_l_row : GD := (gN 1)
@[simp] theorem cg1_l_row.c (o : O) {z : Option O} {zs : Ws.Env} : cg1_l_row o (z :: zs) = (gN 1) o (z :: zs) := rfl
def ce1_l_row : M O := (eB (bCall strD (bsC (rP 1 []) bsN)))
@[simp] theorem ce1_l_row.c {z : Option O} {zs : Ws.Env} : ce1_l_row (z :: zs) = (eB (bCall strD (bsC (rP 1 []) bsN))) (z :: zs) := rfl
def body_l_row : M Fl := (sRet (eBin addO (eJoin s__x20 (eLc [1] (iAny (rd 0)) cg1_l_row cYes ce1_l_row)) (cst (.str s__x0a))))
@[simp] theorem body_l_row.c {z : Option O} {zs : Ws.Env} : body_l_row (z :: zs) = (sRet (eBin addO (eJoin s__x20 (eLc [1] (iAny (rd 0)) cg1_l_row cYes ce1_l_row)) (cst (.str s__x0a)))) (z :: zs) := rfl
def den_l_row : FD := fden 1 1 (fun _ => false) body_l_row
theorem ok_l_row {P : Program} {w : World} {K : PySem.W.Frag} {mg : Str → Option Value} {base : Heap} {fa : Addr} {fd : FuncData} (T : Txt K w mg)  (F : Fun K "_law_row" "_law_row" st_l_row fa fd) : FnOk P w K mg base CX0 1 fa fd ["_law_things"] (spV K 1 den_l_row) :=
  okV (io := fun _ => false) F sc_l_row rfl rfl fun cdv A outer s H E hr =>
  (b_one (s_ret (v_add (v_join Ss__x20 (v_lc (own := [("_law_thing", 1)]) rfl sc_l_row.nd (i_any (v_rd 0)) (blkOk_by (N := N_l_row) (sc := defScope st_l_row) (by decide +kernel)) (fun _ _ _ _ _ => (g_name 1 sc_l_row.nd (by first | exact Or.inl rfl | exact Or.inr rfl))) (fun _ _ _ _ _ => (v_x (x_bltT b_str T.n_str (by decide +kernel) (xs_cons (r_pl (pl_name (pv 1))) xs_nil)))))) (v_str Ss__x0a))))
abbrev N_l_text : List Str := ["_law_rows", "_law_found", "_law_name", "_law_code_here", "_law_lands", "_law_thing", "_law_land"]
theorem sc_l_text : FnScope N_l_text ["_law_rows"] (defScope st_l_text) := ⟨rfl, rfl, rfl, by decide +kernel, rfl, by decide +kernel, by decide +kernel⟩
def fg1_l_text : GD := (gN 5)
@[simp] theorem fg1_l_text.c (o : O) {z : Option O} {zs : Ws.Env} : fg1_l_text o (z :: zs) = (gN 5) o (z :: zs) := rfl
def fb1_l_text : M Fl := (sAsg (eBin addO (rd 1) (eCallF den_l_row [none] (consA (rd 5) nilA))) (gN 1))
@[simp] theorem fb1_l_text.c {z : Option O} {zs : Ws.Env} : fb1_l_text (z :: zs) = (sAsg (eBin addO (rd 1) (eCallF den_l_row [none] (consA (rd 5) nilA))) (gN 1)) (z :: zs) := rfl
def fg2_l_text : GD := (gN 6)
@[simp] theorem fg2_l_text.c (o : O) {z : Option O} {zs : Ws.Env} : fg2_l_text o (z :: zs) = (gN 6) o (z :: zs) := rfl
def fb2_l_text : M Fl := (sAsg (eBin addO (rd 1) (eCallF den_l_row [none] (consA (eBin addO (eTup (consA (cst (.str s_land)) nilA)) (rd 6)) nilA))) (gN 1))
@[simp] theorem fb2_l_text.c {z : Option O} {zs : Ws.Env} : fb2_l_text (z :: zs) = (sAsg (eBin addO (rd 1) (eCallF den_l_row [none] (consA (eBin addO (eTup (consA (cst (.str s_land)) nilA)) (rd 6)) nilA))) (gN 1)) (z :: zs) := rfl
def tl1_l_text : M Fl := (sSeq (sFor (iAny (rd 3)) fg1_l_text fb1_l_text)
  (sFor (iAny (rd 4)) fg2_l_text fb2_l_text))
@[simp] theorem tl1_l_text.c {z : Option O} {zs : Ws.Env} : tl1_l_text (z :: zs) = (sSeq (sFor (iAny (rd 3)) fg1_l_text fb1_l_text)
  (sFor (iAny (rd 4)) fg2_l_text fb2_l_text)) (z :: zs) := rfl
def fg3_l_text : GD := (gTupD 3 (gConsD (gN 2) (gConsD (gN 3) (gConsD (gN 4) gNilD))))
@[simp] theorem fg3_l_text.c (o : O) {z : Option O} {zs : Ws.Env} : fg3_l_text o (z :: zs) = (gTupD 3 (gConsD (gN 2) (gConsD (gN 3) (gConsD (gN 4) gNilD)))) o (z :: zs) := rfl
def fb3_l_text : M Fl := (sSeq (sAsg (eBin addO (rd 1) (eCallF den_l_row [none] (consA (eLst (consA (cst (.str s_fun)) (consA (rd 2) nilA))) nilA))) (gN 1))
  tl1_l_text)
@[simp] theorem fb3_l_text.c {z : Option O} {zs : Ws.Env} : fb3_l_text (z :: zs) = (sSeq (sAsg (eBin addO (rd 1) (eCallF den_l_row [none] (consA (eLst (consA (cst (.str s_fun)) (consA (rd 2) nilA))) nilA))) (gN 1))
  tl1_l_text) (z :: zs) := rfl
def tl2_l_text : M Fl := (sSeq (sFor (iAny (rd 0)) fg3_l_text fb3_l_text)
  (sRet (mv 1)))
@[simp] theorem tl2_l_text.c {z : Option O} {zs : Ws.Env} : tl2_l_text (z :: zs) = (sSeq (sFor (iAny (rd 0)) fg3_l_text fb3_l_text)
  (sRet (mv 1))) (z :: zs) := rfl
def body_l_text : M Fl := (sSeq (sAsg (cst (.str s__empty)) (gN 1))
  tl2_l_text)
@[simp] theorem body_l_text.c {z : Option O} {zs : Ws.Env} : body_l_text (z :: zs) = (sSeq (sAsg (cst (.str s__empty)) (gN 1))
  tl2_l_text) (z :: zs) := rfl
def den_l_text : FD := fden 1 6 (fun _ => false) body_l_text
theorem ok_l_text {P : Program} {w : World} {K : PySem.W.Frag} {mg : Str → Option Value} {base : Heap} {fa : Addr} {fd : FuncData} (T : Txt K w mg) (D_l_row : DefV P w K mg base 1 "_law_row" 1 den_l_row) (F : Fun K "_law_text" "_law_text" st_l_text fa fd) : FnOk P w K mg base CX0 2 fa fd ["_law_rows"] (spV K 1 den_l_text) :=
  okV (io := fun _ => false) F sc_l_text rfl rfl fun cdv A outer s H E hr =>
  (b_cons (s_set (i := 1) sc_l_text.nd (by first | exact Or.inl rfl | exact Or.inr rfl) (v_str Ss__empty))
  (b_cons (s_for PassesOwn.never rfl (i_any (v_rd 0)) (g_tup rfl (g_cons (g_name 2 sc_l_text.nd (by first | exact Or.inl rfl | exact Or.inr rfl)) (g_cons (g_name 3 sc_l_text.nd (by first | exact Or.inl rfl | exact Or.inr rfl)) (g_cons (g_name 4 sc_l_text.nd (by first | exact Or.inl rfl | exact Or.inr rfl)) g_nil))))
  (b_cons (s_set (i := 1) sc_l_text.nd (by first | exact Or.inl rfl | exact Or.inr rfl) (v_add (v_rd 1) (v_call D_l_row (hr.mono (by decide)) (a_cons (v_lst (a_cons (v_str Ss_fun) (a_cons (v_rd 2) a_nil))) a_nil))))
  (b_cons (s_for PassesOwn.never rfl (i_any (v_rd 3)) (g_name 5 sc_l_text.nd (by first | exact Or.inl rfl | exact Or.inr rfl))
  (b_one (s_set (i := 1) sc_l_text.nd (by first | exact Or.inl rfl | exact Or.inr rfl) (v_add (v_rd 1) (v_call D_l_row (hr.mono (by decide)) (a_cons (v_rd 5) a_nil))))))
  (b_one (s_for PassesOwn.never rfl (i_any (v_rd 4)) (g_name 6 sc_l_text.nd (by first | exact Or.inl rfl | exact Or.inr rfl))
  (b_one (s_set (i := 1) sc_l_text.nd (by first | exact Or.inl rfl | exact Or.inr rfl) (v_add (v_rd 1) (v_call D_l_row (hr.mono (by decide)) (a_cons (v_add (v_tup (a_cons (v_str Ss_land) a_nil)) (v_rd 6)) a_nil))))))))))
  (b_one (s_ret (v_mv 1)))))
abbrev N_trow_of : List Str := ["things", "thing"]
theorem sc_trow_of : FnScope N_trow_of ["things"] (defScope st_trow_of) := ⟨rfl, rfl, rfl, by decide +kernel, rfl, by decide +kernel, by decide +kernel⟩
theorem ok_trow_of {P : Program} {w : World} {K : PySem.W.Frag} {mg : Str → Option Value} {base : Heap} {fa : Addr} {fd : FuncData} (T : Txt K w mg)  (F : Fun K "row_of" "row_of" st_trow_of fa fd) : FnOk P w K mg base CX0 1 fa fd ["things"] (spV K 1 den_trow_of) :=
  okV (io := fun _ => false) F sc_trow_of rfl rfl fun cdv A outer s H E hr =>
  (b_one (s_ret (v_add (v_join Ss__x20 (v_lc (own := [("thing", 1)]) rfl sc_trow_of.nd (i_any (v_rd 0)) (blkOk_by (N := N_trow_of) (sc := defScope st_trow_of) (by decide +kernel)) (fun _ _ _ _ _ => (g_name 1 sc_trow_of.nd (by first | exact Or.inl rfl | exact Or.inr rfl))) (fun _ _ _ _ _ => (v_x (x_bltT b_str T.n_str (by decide +kernel) (xs_cons (r_pl (pl_name (pv 1))) xs_nil)))))) (v_str Ss__x0a))))
abbrev N_program_text : List Str := ["program", "rows", "one", "thing", "landing"]
theorem sc_program_text : FnScope N_program_text ["program"] (defScope st_program_text) := ⟨rfl, rfl, rfl, by decide +kernel, rfl, by decide +kernel, by decide +kernel⟩
theorem ok_program_text {P : Program} {w : World} {K : PySem.W.Frag} {mg : Str → Option Value} {base : Heap} {fa : Addr} {fd : FuncData} (T : Txt K w mg) (D_trow_of : DefV P w K mg base 1 "row_of" 1 den_trow_of) (F : Fun K "program_text" "program_text" st_program_text fa fd) : FnOk P w K mg base CX0 2 fa fd ["program"] (spV K 1 den_program_text) :=
  okV (io := fun _ => false) F sc_program_text rfl rfl fun cdv A outer s H E hr =>
  (b_cons (s_set (i := 1) sc_program_text.nd (by first | exact Or.inl rfl | exact Or.inr rfl) (v_lst a_nil))
  (b_cons (s_for PassesOwn.never rfl (i_any (v_rdP (pl_fldE (pl_name (pv 0)) T.o_functions_Program Ss_functions))) (g_name 2 sc_program_text.nd (by first | exact Or.inl rfl | exact Or.inr rfl))
  (b_cons (s_expr (v_meth m_app PySem.F.slot_list_append (by first | rfl | decide +kernel | kernel_rfl) (pv 1) (a_cons (v_call D_trow_of (hr.mono (by decide)) (a_cons (v_tup (a_cons (v_str Ss_fun) (a_cons (v_rdP (pl_fldE (pl_name (pv 2)) T.o_name_Function Ss_name)) a_nil))) a_nil)) a_nil)))
  (b_cons (s_expr (v_meth m_ext PySem.F.slot_list_extend (by first | rfl | decide +kernel | kernel_rfl) (pv 1) (a_cons (v_lc (own := [("thing", 3)]) rfl sc_program_text.nd (i_any (v_rdP (pl_fldE (pl_name (pv 2)) T.o_code_Function Ss_code))) (blkOk_by (N := N_program_text) (sc := defScope st_program_text) (by decide +kernel)) (fun _ _ _ _ _ => (g_name 3 sc_program_text.nd (by first | exact Or.inl rfl | exact Or.inr rfl))) (fun _ _ _ _ _ => (v_call D_trow_of (hr.mono (by decide)) (a_cons (v_rd 3) a_nil)))) a_nil)))
  (b_one (s_expr (v_meth m_ext PySem.F.slot_list_extend (by first | rfl | decide +kernel | kernel_rfl) (pv 1) (a_cons (v_lc (own := [("landing", 4)]) rfl sc_program_text.nd (i_any (v_rdP (pl_fldE (pl_name (pv 2)) T.o_landings_Function Ss_landings))) (blkOk_by (N := N_program_text) (sc := defScope st_program_text) (by decide +kernel)) (fun _ _ _ _ _ => (g_name 4 sc_program_text.nd (by first | exact Or.inl rfl | exact Or.inr rfl))) (fun _ _ _ _ _ => (v_call D_trow_of (hr.mono (by decide)) (a_cons (v_add (v_tup (a_cons (v_str Ss_land) a_nil)) (v_rd 4)) a_nil)))) a_nil)))))))
  (b_one (s_ret (v_join Ss__empty (v_rd 1))))))
abbrev N_law : List Str := ["_law_script", "_law_draw", "_law_turn", "_law_told", "_law_programs", "_law_rows", "_law_k", "_law_found"]
theorem sc_law : FnScope N_law ["_law_script"] (defScope st_law) := ⟨rfl, rfl, rfl, by decide +kernel, rfl, by decide +kernel, by decide +kernel⟩
def cg1_law : GD := (gN 5)
@[simp] theorem cg1_law.c (o : O) {z : Option O} {zs : Ws.Env} : cg1_law o (z :: zs) = (gN 5) o (z :: zs) := rfl
def ce1_law : M O := (eCallF den_l_program [none] (consA (rd 5) nilA))
@[simp] theorem ce1_law.c {z : Option O} {zs : Ws.Env} : ce1_law (z :: zs) = (eCallF den_l_program [none] (consA (rd 5) nilA)) (z :: zs) := rfl
def fg1_law : GD := (gN 6)
@[simp] theorem fg1_law.c (o : O) {z : Option O} {zs : Ws.Env} : fg1_law o (z :: zs) = (gN 6) o (z :: zs) := rfl
def fb1_law : M Fl := (sSeq (sAsg (eCallF den_program_text [none] (consA (rdP 4 [.var 6]) nilA)) (gN 7))
  (sIf (eOr (eNot (cB (bCall isiD (bsC (rP 7 []) (bsC (bC (.ty "str")) bsN))))) (eOr (eTst (eBinL (eqD true) 7 (eCallF den_l_text [none] (consA (rdP 3 [.var 6]) nilA)))) (eNot (eTru (eCallF den_l_same [none, none] (consA (rdP 4 [.var 6]) (consA (rdP 3 [.var 6]) nilA)))))))
  (sRet (cst (.bl false)))
  sNext))
@[simp] theorem fb1_law.c {z : Option O} {zs : Ws.Env} : fb1_law (z :: zs) = (sSeq (sAsg (eCallF den_program_text [none] (consA (rdP 4 [.var 6]) nilA)) (gN 7))
  (sIf (eOr (eNot (cB (bCall isiD (bsC (rP 7 []) (bsC (bC (.ty "str")) bsN))))) (eOr (eTst (eBinL (eqD true) 7 (eCallF den_l_text [none] (consA (rdP 3 [.var 6]) nilA)))) (eNot (eTru (eCallF den_l_same [none, none] (consA (rdP 4 [.var 6]) (consA (rdP 3 [.var 6]) nilA)))))))
  (sRet (cst (.bl false)))
  sNext)) (z :: zs) := rfl
def tl1_law : M Fl := (sSeq (sAsg (eLc [5] (iAny (rd 3)) cg1_law cYes ce1_law) (gN 4))
  (sFor (iAny (eLst (consA (cst (.int 0)) (consA (cst (.int 1)) (consA (cst (.int 0)) nilA))))) fg1_law fb1_law))
@[simp] theorem tl1_law.c {z : Option O} {zs : Ws.Env} : tl1_law (z :: zs) = (sSeq (sAsg (eLc [5] (iAny (rd 3)) cg1_law cYes ce1_law) (gN 4))
  (sFor (iAny (eLst (consA (cst (.int 0)) (consA (cst (.int 1)) (consA (cst (.int 0)) nilA))))) fg1_law fb1_law)) (z :: zs) := rfl
def fg2_law : GD := (gN 2)
@[simp] theorem fg2_law.c (o : O) {z : Option O} {zs : Ws.Env} : fg2_law o (z :: zs) = (gN 2) o (z :: zs) := rfl
def fb2_law : M Fl := (sSeq (sAsg (eLst (consA (eFz (eCallF den_l_functions [some 1, none, none] (lendB 1 (consA (cst (.int 12)) (consA (cst (.int 8)) nilA))))) (consA (eFz (eCallF den_l_functions [some 1, none, none] (lendB 1 (consA (cst (.int 3)) (consA (cst (.int 8)) nilA))))) nilA))) (gN 3))
  tl1_law)
@[simp] theorem fb2_law.c {z : Option O} {zs : Ws.Env} : fb2_law (z :: zs) = (sSeq (sAsg (eLst (consA (eFz (eCallF den_l_functions [some 1, none, none] (lendB 1 (consA (cst (.int 12)) (consA (cst (.int 8)) nilA))))) (consA (eFz (eCallF den_l_functions [some 1, none, none] (lendB 1 (consA (cst (.int 3)) (consA (cst (.int 8)) nilA))))) nilA))) (gN 3))
  tl1_law) (z :: zs) := rfl
def tl2_law : M Fl := (sSeq (sFor (iRange1 (consA (eB (bCall max2D (bsC (bC (.int 1)) (bsC (bCall min2D (bsC (bC (.int 6)) (bsC (bCall lenD (bsC (rP 0 []) bsN)) bsN))) bsN)))) nilA)) fg2_law fb2_law)
  (sRet (cst (.bl true))))
@[simp] theorem tl2_law.c {z : Option O} {zs : Ws.Env} : tl2_law (z :: zs) = (sSeq (sFor (iRange1 (consA (eB (bCall max2D (bsC (bC (.int 1)) (bsC (bCall min2D (bsC (bC (.int 6)) (bsC (bCall lenD (bsC (rP 0 []) bsN)) bsN))) bsN)))) nilA)) fg2_law fb2_law)
  (sRet (cst (.bl true)))) (z :: zs) := rfl
def body_law : M Fl := (sSeq (sAsg (eLst (consA (eFz (eListP 0 [])) (consA (cst (.int 0)) nilA))) (gN 1))
  tl2_law)
@[simp] theorem body_law.c {z : Option O} {zs : Ws.Env} : body_law (z :: zs) = (sSeq (sAsg (eLst (consA (eFz (eListP 0 [])) (consA (cst (.int 0)) nilA))) (gN 1))
  tl2_law) (z :: zs) := rfl
def den_law : FD := fden 1 7 (fun _ => false) body_law
theorem ok_law {P : Program} {w : World} {K : PySem.W.Frag} {mg : Str → Option Value} {base : Heap} {fa : Addr} {fd : FuncData} (T : Txt K w mg) (D_l_functions : DefV P w K mg base 5 "_law_functions" 3 den_l_functions) (D_l_program : DefV P w K mg base 7 "_law_program" 1 den_l_program) (D_l_same : DefG P w K mg base 1 "_law_same" 2 den_l_same) (D_l_text : DefV P w K mg base 2 "_law_text" 1 den_l_text) (D_program_text : DefV P w K mg base 2 "program_text" 1 den_program_text) (F : Fun K "law" "law" st_law fa fd) : FnG P w K mg base CX0 8 fa fd ["_law_script"] (spV K 1 den_law) :=
  okVG (io := fun _ => false) F sc_law rfl rfl fun cdv A outer s H E hg hr =>
  (b_cons (s_set (i := 1) sc_law.nd (by first | exact Or.inl rfl | exact Or.inr rfl) (v_lst (a_cons (v_fz (v_listP T.n_list (by decide +kernel) (pl_name (pv 0)))) (a_cons v_int a_nil))))
  (b_cons (s_for PassesOwn.never rfl (i_range1 T.n_range (a_cons (v_x (x_blt (b_max2 rfl) T.n_max (by decide +kernel) (xs_cons (r_x x_int) (xs_cons (r_x (x_blt (b_min2 rfl) T.n_min (by decide +kernel) (xs_cons (r_x x_int) (xs_cons (r_x (x_blt b_len T.n_len (by decide +kernel) (xs_cons (r_pl (pl_name (pv 0))) xs_nil))) xs_nil)))) xs_nil)))) a_nil)) (g_name 2 sc_law.nd (by first | exact Or.inl rfl | exact Or.inr rfl))
  (b_cons (s_set (i := 3) sc_law.nd (by first | exact Or.inl rfl | exact Or.inr rfl) (v_lst (a_cons (v_fz (v_call D_l_functions (hr.mono (by decide)) (a_lendB (i := 1) (pv 1) (a_cons v_int (a_cons v_int a_nil))))) (a_cons (v_fz (v_call D_l_functions (hr.mono (by decide)) (a_lendB (i := 1) (pv 1) (a_cons v_int (a_cons v_int a_nil))))) a_nil))))
  (b_cons (s_setLc (i := 4) (own := [("_law_rows", 5)]) rfl sc_law.nd rfl rfl (sw_true rfl rfl rfl (by decide +kernel)) (i_any (v_rd 3)) (blkOk_by (N := N_law) (sc := defScope st_law) (by decide +kernel)) (fun _ _ _ _ _ => (g_name 5 sc_law.nd (by first | exact Or.inl rfl | exact Or.inr rfl))) (fun _ _ _ _ _ => (v_call D_l_program (hr.mono (by decide)) (a_cons (v_rd 5) a_nil))))
  (b_one (s_for PassesOwn.never rfl (i_any (v_lst (a_cons v_int (a_cons v_int (a_cons v_int a_nil))))) (g_name 6 sc_law.nd (by first | exact Or.inl rfl | exact Or.inr rfl))
  (b_cons (s_set (i := 7) sc_law.nd (by first | exact Or.inl rfl | exact Or.inr rfl) (v_call D_program_text (hr.mono (by decide)) (a_cons (v_rdP (pl_var (hu_of hr) (pl_name (pv 4)) (pv 6) (fun _ _ => rfl) (fun _ _ => rfl))) a_nil)))
  (b_one (s_if (t_w (w_or (t_not (t_x (x_isi T.n_isinstance (by decide +kernel) T.n_str (by decide +kernel) (r_pl (pl_name (pv 7)))))) (w_or (t_cmpL (c_ne hr.units) (pv 7) (v_call D_l_text (hr.mono (by decide)) (a_cons (v_rdP (pl_var (hu_of hr) (pl_name (pv 3)) (pv 6) (fun _ _ => rfl) (fun _ _ => rfl))) a_nil)) (nomark _)) (w_or1 (t_not (t_tru (v_callG D_l_same hg (hr.mono (by decide)) (a_cons (v_rdP (pl_var (hu_of hr) (pl_name (pv 4)) (pv 6) (fun _ _ => rfl) (fun _ _ => rfl))) (a_cons (v_rdP (pl_var (hu_of hr) (pl_name (pv 3)) (pv 6) (fun _ _ => rfl) (fun _ _ => rfl))) a_nil))) (fun _ => rfl)))))))
  (b_one (s_ret v_bl))
  b_nil))))))))
  (b_one (s_ret v_bl))))
end J05

namespace Gd
open PySem L2 Ws
theorem mixed_ok (c k : Int) (hk : 0 ≤ k) (hk2 : k < 127) : ∃ r, den_l_mixed [.pu (.int c), .pu (.int k)] = .ok (.pu (.int r)) [none, none] := by
  have h := fmod_in ((c.fmod 2147483399 + 104729 * k + 11) * 48271) (m := 2147483399) (by omega)
  have h1 : (((c.fmod 2147483399 + 104729 * k + 11) * 48271).fmod 2147483399).natAbs < 18446744073709551616 := by omega
  have h2 : ¬ (1 + (k + 1) * 4014476939333036189094441199026045136645885247730 = 0) := by omega
  have h3 : Nat.log2 1000000000000000000 < 9000 := by decide +kernel
  have h4 : -18446744073709551616 < k + 1 := by omega
  have h5 : k + 1 < 18446744073709551616 := by omega
  by_cases hc : c < 1000000000000000000
  · simp [den_l_mixed, body_l_mixed, h1, hc]
  · simp [den_l_mixed, body_l_mixed, h1, hc, h2, h3, h4, h5]
theorem next_ok (xs : List Int) (k m : Int) (hx : xs.length ≤ 63) (hk : 0 ≤ k) (hm : 0 < m) : ∃ r, 0 ≤ r ∧ r < m ∧ den_l_next [.li [.pu (.lst (xs.map .int)), .pu (.int k)], .pu (.int m)] = .ok (.pu (.int r)) [some (.li [.pu (.lst (xs.map .int)), .pu (.int (k + 1))]), none] := by
  obtain ⟨c, hc⟩ : ∃ c : Int, den_l_next [.li [.pu (.lst (xs.map .int)), .pu (.int k)], .pu (.int m)] = .ok (.pu (.int (c.fmod m))) [some (.li [.pu (.lst (xs.map .int)), .pu (.int (k + 1))]), none] := by
    have hm' : ¬ m = 0 := by omega
    cases xs with
    | nil =>
      have f := fmod_in k (m := 127) (by omega)
      obtain ⟨r, hr⟩ := mixed_ok 0 (k.fmod 127) f.1 f.2
      refine ⟨r.fdiv 7, ?_⟩
      simp [den_l_next, body_l_next, atI, ixN, hr, hm']
    | cons x xs =>
      have f := fmod_in (k.fdiv (xs.length + 1)) (m := 127) (by omega)
      have g := fmod_in k (m := (xs.length : Int) + 1) (by omega)
      obtain ⟨y, hy, hym⟩ := atI_get (xs := (x :: xs).map (O.pu ∘ D.int)) (i := k.fmod (xs.length + 1)) g.1 (by simpa using g.2)
      obtain ⟨z, hz, rfl⟩ := List.mem_map.mp hym
      obtain ⟨r, hr⟩ := mixed_ok z _ f.1 f.2
      refine ⟨r.fdiv 7, ?_⟩
      simp at hx hy
      have h1 : ¬ ((xs.length : Int) + 1 = 0) := by omega
      have h2 : ((xs.length : Int) + 1).natAbs < 1073741824 := by omega
      have h3 : (if 1 < (xs.length : Int) + 1 then (xs.length : Int) + 1 else 1) = (xs.length : Int) + 1 := by omega
      have h4 : atI [O.pu (D.lst (D.int x :: xs.map D.int)), O.pu (D.int k)] 1 = some (O.pu (D.int k)) := by simp [atI, ixN]
      have h5 : ∀ k, atI [O.pu (D.lst (D.int x :: xs.map D.int)), O.pu (D.int k)] 0 = some (O.pu (D.lst (D.int x :: xs.map D.int))) := by intro k; simp [atI, ixN]
      have h6 : ixN 2 1 = some 1 := rfl
      simp [den_l_next, body_l_next, hr, hm', h1, h2, h3, h4, h5, h6, hy]
  exact ⟨c.fmod m, (fmod_in c hm).1, (fmod_in c hm).2, hc⟩
/-! ### the draws as a function of the script and how many were made -/
abbrev Sc := {xs : List Int // xs.length ≤ 63}
def dr (s : Sc) (k : Nat) : O := .li [.pu (.lst (s.1.map .int)), .pu (.int k)]
@[simp] theorem toD_dr (s : Sc) (k : Nat) : (dr s k).toD = .lst [.lst (s.1.map .int), .int k] := by simp [dr]
theorem nxE (s : Sc) (k : Nat) (m : Int) (hm : 0 < m) : ∃ r, 0 ≤ r ∧ r < m ∧ den_l_next [dr s k, .pu (.int m)] = .ok (.pu (.int r)) [some (dr s (k + 1)), none] := by
  obtain ⟨r, a, b, c⟩ := next_ok s.1 k m s.2 (by omega) hm
  exact ⟨r, a, b, by simpa [dr] using c⟩
noncomputable def nxt (s : Sc) (k : Nat) (m : Int) : Int := if h : 0 < m then (nxE s k m h).choose else 0
theorem nx_in (s : Sc) (k : Nat) (m : Int) (hm : 0 < m) : 0 ≤ nxt s k m ∧ nxt s k m < m := by
  unfold nxt
  rw [dif_pos hm]
  exact ⟨(nxE s k m hm).choose_spec.1, (nxE s k m hm).choose_spec.2.1⟩
theorem nx (s : Sc) (k : Nat) (m : Int) (hm : 0 < m) : den_l_next [dr s k, .pu (.int m)] = .ok (.pu (.int (nxt s k m))) [some (dr s (k + 1)), none] := by
  unfold nxt
  rw [dif_pos hm]
  exact (nxE s k m hm).choose_spec.2.2
class Pos (m : Int) : Prop where
  h : 0 < m
instance {n : Nat} [h : NeZero n] : Pos (no_index (OfNat.ofNat n : Int)) := ⟨by have := h.out; show (0 : Int) < (n : Int); omega⟩
@[simp] theorem nx_lit (s : Sc) (k : Nat) (m : Int) [h : Pos m] : den_l_next [dr s k, .pu (.int m)] = .ok (.pu (.int (nxt s k m))) [some (dr s (k + 1)), none] := nx s k m h.h
theorem in4 {r : Int} (h : 0 ≤ r ∧ r < 4) : r = 0 ∨ r = 1 ∨ r = 2 ∨ r = 3 := by omega
theorem in5 {r : Int} (h : 0 ≤ r ∧ r < 5) : r = 0 ∨ r = 1 ∨ r = 2 ∨ r = 3 ∨ r = 4 := by omega
theorem in6 {r : Int} (h : 0 ≤ r ∧ r < 6) : r = 0 ∨ r = 1 ∨ r = 2 ∨ r = 3 ∨ r = 4 ∨ r = 5 := by omega
theorem in8 {r : Int} (h : 0 ≤ r ∧ r < 8) : r = 0 ∨ r = 1 ∨ r = 2 ∨ r = 3 ∨ r = 4 ∨ r = 5 ∨ r = 6 ∨ r = 7 := by omega
theorem in9 {r : Int} (h : 0 ≤ r ∧ r < 9) : r = 0 ∨ r = 1 ∨ r = 2 ∨ r = 3 ∨ r = 4 ∨ r = 5 ∨ r = 6 ∨ r = 7 ∨ r = 8 := by omega
end Gd

namespace Gd
open PySem L2 Ws
/-! ### names -/
structure Nm (x : Str) : Prop where
  lo : 1 ≤ x.length
  hi : x.length ≤ 8
  ab : ∀ c ∈ x.cps.toList, 97 ≤ c ∧ c ≤ 122
theorem letters_has : ∀ c : Nat, 97 ≤ c ∧ c ≤ 122 → c ∈ s_abcdefghijklmnopqrstuvwxyz.cps.toList := by
  have h : s_abcdefghijklmnopqrstuvwxyz.cps.toList = [97, 98, 99, 100, 101, 102, 103, 104, 105, 106, 107, 108, 109, 110, 111, 112, 113, 114, 115, 116, 117, 118, 119, 120, 121, 122] := by decide +kernel
  intro c hc
  rw [h]
  have : c = 97 ∨ c = 98 ∨ c = 99 ∨ c = 100 ∨ c = 101 ∨ c = 102 ∨ c = 103 ∨ c = 104 ∨ c = 105 ∨ c = 106 ∨ c = 107 ∨ c = 108 ∨ c = 109 ∨ c = 110 ∨ c = 111 ∨ c = 112 ∨ c = 113 ∨ c = 114 ∨ c = 115 ∨ c = 116 ∨ c = 117 ∨ c = 118 ∨ c = 119 ∨ c = 120 ∨ c = 121 ∨ c = 122 := by omega
  simp
  omega
theorem blsD_true {α : Type} : ∀ xs : List α, blsD (xs.map fun _ => D.bl true) = some (xs.map fun _ => true)
  | [] => rfl
  | x :: xs => by simp [blsD_true xs]
theorem is_name_ok (x : Str) (h : Nm x) : den_is_name [.pu (.str x)] = .ok (.pu (.bl true)) [none] := by
  have h1 := h.lo
  have h2 := h.hi
  have hl : (signsD x).length ≤ 100000 := by
    have : (signsD x).length = x.length := by simp [signsD, Str.length]
    omega
  have lc := loopC_filter (own := [1]) (g := cg1_is_name) (c := cYes) (elt := ce1_is_name) (fun _ => true) (fun _ => .pu (.bl true)) (e0 := [some (.pu (.str x)), none]) rfl hl (fun d hd => by
    obtain ⟨c, hc, rfl⟩ := List.mem_map.mp hd
    have := letters_has c (h.ab c hc)
    exact ⟨_, rfl, _, rfl, by simp, fun _ => ⟨_, by simp [ce1_is_name, inD, this]; rfl, rfl⟩⟩)
  have h3 : x.length ≤ 100000 := by omega
  have h4 : (1 : Int) ≤ x.length := by omega
  have h5 : (x.length : Int) ≤ 8 := by omega
  have h6 := blsD_true (signsD x)
  have h7 : (signsD x).filter (fun _ => true) = signsD x := List.filter_eq_self.mpr fun _ _ => rfl
  rw [h7] at lc
  simp [den_is_name, body_is_name, h4, h5, h3, lc, Function.comp_def, h6]
theorem letters_at {r : Int} (h : 0 ≤ r ∧ r < 26) : ∃ c : Nat, (97 ≤ c ∧ c ≤ 122) ∧ atI s_abcdefghijklmnopqrstuvwxyz.cps.toList r = some c := by
  have hl : s_abcdefghijklmnopqrstuvwxyz.cps.toList = [97, 98, 99, 100, 101, 102, 103, 104, 105, 106, 107, 108, 109, 110, 111, 112, 113, 114, 115, 116, 117, 118, 119, 120, 121, 122] := by decide +kernel
  obtain ⟨c, hc, hm⟩ := atI_get (xs := s_abcdefghijklmnopqrstuvwxyz.cps.toList) (i := r) h.1 (by rw [hl]; simpa using h.2)
  refine ⟨c, ?_, hc⟩
  rw [hl] at hm
  simp at hm
  omega
structure Ab (x : Str) (n : Nat) : Prop where
  len : x.length = n
  ab : ∀ c ∈ x.cps.toList, 97 ≤ c ∧ c ≤ 122
theorem Ab.snoc {x : Str} {n c : Nat} (h : Ab x n) (hc : 97 ≤ c ∧ c ≤ 122) : Ab (x ++ ⟨#[c]⟩) (n + 1) := by
  have e : (x ++ (⟨#[c]⟩ : Str)).cps.toList = x.cps.toList ++ [c] := by
    show (x.cps ++ #[c]).toList = _
    simp
  refine ⟨?_, fun d hd => ?_⟩
  · have := congrArg List.length e
    have hx := h.len
    simp [Str.length] at this hx ⊢
    omega
  · rw [e] at hd
    rcases List.mem_append.mp hd with h1 | h1
    · exact h.ab d h1
    · simp at h1; subst h1; exact hc
end Gd

namespace Gd
open PySem L2 Ws
def isR (x : Str) : Prop := x = s_a ∨ x = s_b ∨ x = s_c ∨ x = s_d ∨ x = s_e ∨ x = s_f ∨ x = s_g ∨ x = s_h
def isW (x : Str) : Prop := isR x ∨ x = s_sp
/-! ### instructions -/
inductive Ins where
  | set (x : Str) (n : Int)
  | copy (u v : Str)
  | mix (x y z : Str)
  | push (x : Str)
  | pop (x : Str)
  | room (k : Int)
  | store (u : Str) (k : Int) (x : Str)
  | load (x u : Str) (k : Int)
  | call (f : Str)
  | ret
  | go (t : Int)
  | iff (t : Int)
  | out (x : Str)
  | throw
  | resume
def Ins.d : Ins → D
  | .set x n => .tup [.str s_set_w, .str x, .int n]
  | .copy u v => .tup [.str s_copy, .str u, .str v]
  | .mix x y z => .tup [.str s_mix, .str x, .str y, .str z]
  | .push x => .tup [.str s_push, .str x]
  | .pop x => .tup [.str s_pop, .str x]
  | .room k => .tup [.str s_room, .int k]
  | .store u k x => .tup [.str s_store, .str u, .int k, .str x]
  | .load x u k => .tup [.str s_load, .str x, .str u, .int k]
  | .call f => .tup [.str s_call, .str f]
  | .ret  => .tup [.str s_ret_w]
  | .go t => .tup [.str s_go, .int t]
  | .iff t => .tup [.str s_if_w, .int t]
  | .out x => .tup [.str s_out, .str x]
  | .throw  => .tup [.str s_throw]
  | .resume  => .tup [.str s_resume]
def Ins.ok (m : Int) : Ins → Prop
  | .set x n => isR x ∧ -10000000000000 < n ∧ n < 10000000000000
  | .copy u v => isW u ∧ isW v
  | .mix x y z => isR x ∧ isR y ∧ isR z
  | .push x => isR x
  | .pop x => isR x
  | .room k => -99 ≤ k ∧ k ≤ 99
  | .store u k x => isW u ∧ (-99 ≤ k ∧ k ≤ 99) ∧ isR x
  | .load x u k => isR x ∧ isW u ∧ (-99 ≤ k ∧ k ≤ 99)
  | .call f => Nm f
  | .ret  => True
  | .go t => 0 ≤ t ∧ t < m
  | .iff t => 0 ≤ t ∧ t < m
  | .out x => isR x
  | .throw  => True
  | .resume  => True
def Ins.cl (ws : List Str) : Ins → Prop
  | .call f => f ∈ ws
  | _ => True
theorem is_number_int (i : Int) : den_is_number [.pu (.int i)] = .ok (.pu (.bl true)) [none] := by simp [den_is_number, body_is_number]
theorem is_near_int (i : Int) (h : -99 ≤ i ∧ i ≤ 99) : den_is_near [.pu (.int i)] = .ok (.pu (.bl true)) [none] := by
  simp [den_is_near, body_is_near, is_number_int, h.1, h.2]
theorem fits_r (x : Str) (m : D) (h : isR x) : den_fits [.pu (.str s_register), .pu (.str x), .pu m] = .ok (.pu (.bl true)) [none, none, none] := by
  rcases h with rfl | rfl | rfl | rfl | rfl | rfl | rfl | rfl <;> simp [den_fits, body_fits, inD, keyD]
theorem fits_w (x : Str) (m : D) (h : isW x) : den_fits [.pu (.str s_word), .pu (.str x), .pu m] = .ok (.pu (.bl true)) [none, none, none] := by
  rcases h with (rfl | rfl | rfl | rfl | rfl | rfl | rfl | rfl) | rfl <;> simp [den_fits, body_fits, inD, keyD]
theorem fits_f (x : Str) (m : D) (h : Nm x) : den_fits [.pu (.str s_name), .pu (.str x), .pu m] = .ok (.pu (.bl true)) [none, none, none] := by
  have h1 := is_name_ok x h
  simp [den_fits, body_fits, h1]
theorem fits_k (i : Int) (m : D) (h : -99 ≤ i ∧ i ≤ 99) : den_fits [.pu (.str s_near), .pu (.int i), .pu m] = .ok (.pu (.bl true)) [none, none, none] := by
  have h1 := is_near_int i h
  simp [den_fits, body_fits, h1]
theorem fits_n (i : Int) (m : Int) : den_fits [.pu (.str s_number), .pu (.int i), .pu (.int m)] = .ok (.pu (.bl true)) [none, none, none] := by
  have h1 := is_number_int i
  simp [den_fits, body_fits, h1]
theorem fits_t (i : Int) (m : Int) (h : 0 ≤ i ∧ i < m) : den_fits [.pu (.str s_to), .pu (.int i), .pu (.int m)] = .ok (.pu (.bl true)) [none, none, none] := by
  have h1 := is_number_int i
  simp [den_fits, body_fits, h1, h.1, h.2]
theorem is_instruction_ok (i : Ins) (m : Int) (h : i.ok m) : den_is_instruction [.pu i.d, .pu (.int m)] = .ok (.pu (.bl true)) [none, none] := by
  cases i with
  | set x n =>
    have h1 := fits_r x (.int m) h.1
    have h2 := fits_n n m
    simp [den_is_instruction, body_is_instruction, Ins.d, h1, h2, zipD, loopC, cYes, keyD]
  | copy u v =>
    have h1 := fits_w u (.int m) h.1
    have h2 := fits_w v (.int m) h.2
    simp [den_is_instruction, body_is_instruction, Ins.d, h1, h2, zipD, loopC, cYes, keyD]
  | mix x y z =>
    have h1 := fits_r x (.int m) h.1
    have h2 := fits_r y (.int m) h.2.1
    have h3 := fits_r z (.int m) h.2.2
    simp [den_is_instruction, body_is_instruction, Ins.d, h1, h2, h3, zipD, loopC, cYes, keyD]
  | push x =>
    have h1 := fits_r x (.int m) h
    simp [den_is_instruction, body_is_instruction, Ins.d, h1, zipD, loopC, cYes, keyD]
  | pop x =>
    have h1 := fits_r x (.int m) h
    simp [den_is_instruction, body_is_instruction, Ins.d, h1, zipD, loopC, cYes, keyD]
  | room k =>
    have h1 := fits_k k (.int m) h
    simp [den_is_instruction, body_is_instruction, Ins.d, h1, zipD, loopC, cYes, keyD]
  | store u k x =>
    have h1 := fits_w u (.int m) h.1
    have h2 := fits_k k (.int m) h.2.1
    have h3 := fits_r x (.int m) h.2.2
    simp [den_is_instruction, body_is_instruction, Ins.d, h1, h2, h3, zipD, loopC, cYes, keyD]
  | load x u k =>
    have h1 := fits_r x (.int m) h.1
    have h2 := fits_w u (.int m) h.2.1
    have h3 := fits_k k (.int m) h.2.2
    simp [den_is_instruction, body_is_instruction, Ins.d, h1, h2, h3, zipD, loopC, cYes, keyD]
  | call f =>
    have h1 := fits_f f (.int m) h
    simp [den_is_instruction, body_is_instruction, Ins.d, h1, zipD, loopC, cYes, keyD]
  | ret  =>
    simp [den_is_instruction, body_is_instruction, Ins.d, zipD, loopC, cYes, keyD]
  | go t =>
    have h1 := fits_t t m h
    simp [den_is_instruction, body_is_instruction, Ins.d, h1, zipD, loopC, cYes, keyD]
  | iff t =>
    have h1 := fits_t t m h
    simp [den_is_instruction, body_is_instruction, Ins.d, h1, zipD, loopC, cYes, keyD]
  | out x =>
    have h1 := fits_r x (.int m) h
    simp [den_is_instruction, body_is_instruction, Ins.d, h1, zipD, loopC, cYes, keyD]
  | throw  =>
    simp [den_is_instruction, body_is_instruction, Ins.d, zipD, loopC, cYes, keyD]
  | resume  =>
    simp [den_is_instruction, body_is_instruction, Ins.d, zipD, loopC, cYes, keyD]
structure Ld where
  a : Int
  b : Int
  t : Int
def Ld.d (l : Ld) : D := .tup [.int l.a, .int l.b, .int l.t]
def Ld.ok (m : Int) (l : Ld) : Prop := 0 ≤ l.a ∧ l.a < l.b ∧ l.b ≤ m ∧ 0 ≤ l.t ∧ l.t < m
theorem is_landing_ok (l : Ld) (m : Int) (h : l.ok m) : den_is_landing [.pu l.d, .pu (.int m)] = .ok (.pu (.bl true)) [none, none] := by
  have h1 := is_number_int l.a
  have h2 := is_number_int l.b
  have h3 := is_number_int l.t
  obtain ⟨a, b, c, d, e⟩ := h
  simp [den_is_landing, body_is_landing, Ld.d, h1, h2, h3, a, b, c, d, e, loopC, cYes]
end Gd

namespace Gd
open PySem L2 Ws
/-- a list or a tuple -/
def sq (t : Bool) (ds : List D) : D := if t then .tup ds else .lst ds
@[simp] theorem sq_true (ds : List D) : sq true ds = .tup ds := rfl
@[simp] theorem sq_false (ds : List D) : sq false ds = .lst ds := rfl
/-- a function as it stands -/
def fnFs (nm : Str) (is : List Ins) (ls : List Ld) : List (Str × O) := [(s_name, .pu (.str nm)), (s_code, .pu (.tup (is.map Ins.d))), (s_landings, .pu (.tup (ls.map Ld.d)))]
def PFi (fn nm cd ld mn : Option O) (e : Ws.Env) : Prop := ∃ a b, e = [fn, nm, cd, ld, mn, a, b]
theorem fi_turn (fn nm cd ld : Option O) (k : Nat) (i : Ins) (m : Nat) (h : i.ok m) (e : Ws.Env) (hp : PFi fn nm cd ld (some (.pu (.int m))) e) :
    ∃ e1, fg1_Function_init (.pu (.tup [.int (k : Nat), i.d])) e = some e1 ∧ NxP (PFi fn nm cd ld (some (.pu (.int m)))) (fb1_Function_init e1) := by
  obtain ⟨a, b, rfl⟩ := hp
  refine ⟨_, rfl, ?_⟩
  have h1 := is_instruction_ok i m h
  refine ⟨_, by simp [fb1_Function_init, h1]; exact ⟨rfl, rfl⟩, _, _, rfl⟩
theorem lc_lands (ls : List Ld) (m : Nat) (hl : ∀ l ∈ ls, l.ok m) (hn : ls.length ≤ 100000) (fn nm cd ld a b : Option O) :
    ∃ e', loopC [6] cg1_Function_init cYes ce1_Function_init (ls.map Ld.d) [] [fn, nm, cd, ld, some (.pu (.int m)), a, b] = .ok (ls.map fun _ => .pu (.bl true)) e' ∧ wipeE e' [6] = [fn, nm, cd, ld, some (.pu (.int m)), a, none] := by
  obtain ⟨e', h1, h2⟩ := loopC_pureW (own := [6]) (g := cg1_Function_init) (c := cYes) (elt := ce1_Function_init) (f := fun _ => .pu (.bl true)) (e := [fn, nm, cd, ld, some (.pu (.int m)), a, b]) (e0 := [fn, nm, cd, ld, some (.pu (.int m)), a, none]) rfl (items := ls.map Ld.d) (by simpa using hn) (fun d hd => by
    obtain ⟨l, hl1, rfl⟩ := List.mem_map.mp hd
    have h1 := is_landing_ok l m (hl l hl1)
    exact ⟨_, rfl, rfl, _, by simp [ce1_Function_init, h1]; rfl, rfl⟩)
  exact ⟨e', by simpa [Function.comp_def] using h1, h2⟩
theorem init_ok (nm : Str) (hn : Nm nm) (is : List Ins) (ls : List Ld) (t u : Bool) (hi : ∀ i ∈ is, i.ok is.length) (h1 : 1 ≤ is.length) (h2 : is.length ≤ 1000) (hl : ∀ l ∈ ls, l.ok is.length) (h3 : ls.length ≤ 100000) :
    den_Function_init [.ob s_Function [], .pu (.str nm), .pu (sq t (is.map Ins.d)), .pu (sq u (ls.map Ld.d))] = .ok (.pu .non) [some (.ob s_Function (fnFs nm is ls)), none, none, none] := by
  have n1 := is_name_ok nm hn
  have m1 : (1 : Int) ≤ is.length := by omega
  have m2 : (is.length : Int) ≤ 1000 := by omega
  obtain ⟨e, f1, a, b, rfl⟩ := loop_ex (g := fg1_Function_init) (body := fb1_Function_init) (fun _ => PFi (some (.ob s_Function [])) (some (.pu (.str nm))) (some (.pu (sq t (is.map Ins.d)))) (some (.pu (sq u (ls.map Ld.d)))) (some (.pu (.int is.length)))) (items := enumD (is.map Ins.d)) (j := 0)
    (e0 := [some (.ob s_Function []), some (.pu (.str nm)), some (.pu (sq t (is.map Ins.d))), some (.pu (sq u (ls.map Ld.d))), some (.pu (.int is.length)), none, none])
    (fun k x e hx p => by
      simp only [enumD, List.getElem?_map, List.getElem?_zipIdx, Option.map_map] at hx
      obtain ⟨i, hk, rfl⟩ := Option.map_eq_some_iff.mp hx
      simpa using fi_turn _ _ _ _ k i is.length (hi i (List.mem_of_getElem? hk)) e p) ⟨none, none, rfl⟩
  obtain ⟨e', lc, lw⟩ := lc_lands ls is.length hl h3 (some (.ob s_Function [])) (some (.pu (.str nm))) (some (.pu (sq t (is.map Ins.d)))) (some (.pu (sq u (ls.map Ld.d)))) a b
  have k1 : kitTB "list" ["list", "tuple"] = some true := by decide +kernel
  have k2 : kitTB "tuple" ["list", "tuple"] = some true := by decide +kernel
  have bs : blsD (ls.map fun _ => D.bl true) = some (ls.map fun _ => true) := blsD_true ls
  cases t <;> cases u <;> simp at f1 lc lw <;> simp [den_Function_init, body_Function_init, n1, m1, m2, f1, lc, lw, fnFs, k1, k2, bs, Function.comp_def]
end Gd

namespace Gd
open PySem L2 Ws
/-! ### their texts are short -/
def ShS (x : Str) : Prop := x.length ≤ 8 ∧ ∀ c ∈ x.cps.toList, c < 16 ^ 8
instance (x : Str) : Decidable (ShS x) := inferInstanceAs (Decidable (_ ∧ _))
theorem ShS.rp {x : Str} (h : ShS x) : Rp 0 82 (.str x) := rp_str h.1 h.2
theorem ShS.nm {x : Str} (h : Nm x) : ShS x := ⟨h.hi, fun c hc => Nat.lt_of_le_of_lt (h.ab c hc).2 (by decide)⟩
theorem ShS.r {x : Str} (h : isR x) : ShS x := by
  rcases h with rfl | rfl | rfl | rfl | rfl | rfl | rfl | rfl <;> decide +kernel
theorem ShS.w {x : Str} (h : isW x) : ShS x := by
  rcases h with h | rfl
  · exact ShS.r h
  · decide +kernel
theorem rpi {i : Int} (h1 : -10000000000000 < i) (h2 : i < 10000000000000) : Rp 0 82 (.int i) := (rp_int (i := i) (m := 13) (by decide) (by decide) (by simpa using h1) (by simpa using h2)).mono (Nat.le_refl _) (by decide)
theorem rp_parts {ds : List D} (h : ∀ d ∈ ds, Rp 0 82 d) (hl : ds.length ≤ 4) : Rp 1 339 (.tup ds) := rp_tup h hl
theorem rp_ins (i : Ins) (m : Nat) (hm : m ≤ 1000) (h : i.ok m) : Rp 1 339 i.d := by
  have w : ∀ x : Str, ShS x → Rp 0 82 (.str x) := fun x hx => hx.rp
  have s1 : ShS s_set_w ∧ ShS s_copy ∧ ShS s_mix ∧ ShS s_push ∧ ShS s_pop ∧ ShS s_room ∧ ShS s_store ∧ ShS s_load ∧ ShS s_call ∧ ShS s_ret_w ∧ ShS s_go ∧ ShS s_if_w ∧ ShS s_out ∧ ShS s_throw ∧ ShS s_resume := by
    repeat' apply And.intro
    all_goals decide +kernel
  obtain ⟨a1, a2, a3, a4, a5, a6, a7, a8, a9, a10, a11, a12, a13, a14, a15⟩ := s1
  cases i with
  | set x n => refine rp_parts (fun d hd => ?_) (by simp); simp at hd; obtain ⟨h1, h2, h3⟩ := h; rcases hd with rfl | rfl | rfl <;> first | exact rpi (by omega) (by omega) | exact w _ (by first | assumption | exact ShS.r (by assumption))
  | copy u v => refine rp_parts (fun d hd => ?_) (by simp); simp at hd; obtain ⟨h1, h2⟩ := h; rcases hd with rfl | rfl | rfl <;> exact w _ (by first | assumption | exact ShS.w (by assumption))
  | mix x y z => refine rp_parts (fun d hd => ?_) (by simp); simp at hd; obtain ⟨h1, h2, h3⟩ := h; rcases hd with rfl | rfl | rfl | rfl <;> exact w _ (by first | assumption | exact ShS.r (by assumption))
  | push x => refine rp_parts (fun d hd => ?_) (by simp); simp at hd; rcases hd with rfl | rfl <;> exact w _ (by first | assumption | exact ShS.r (by assumption))
  | pop x => refine rp_parts (fun d hd => ?_) (by simp); simp at hd; rcases hd with rfl | rfl <;> exact w _ (by first | assumption | exact ShS.r (by assumption))
  | room k => refine rp_parts (fun d hd => ?_) (by simp); simp at hd; obtain ⟨h1, h2⟩ := h; rcases hd with rfl | rfl <;> first | exact rpi (by omega) (by omega) | exact w _ (by assumption)
  | store u k x => refine rp_parts (fun d hd => ?_) (by simp); simp at hd; obtain ⟨h1, ⟨h2, h4⟩, h3⟩ := h; rcases hd with rfl | rfl | rfl | rfl <;> first | exact rpi (by omega) (by omega) | exact w _ (by first | assumption | exact ShS.r (by assumption) | exact ShS.w (by assumption))
  | load x u k => refine rp_parts (fun d hd => ?_) (by simp); simp at hd; obtain ⟨h1, h3, ⟨h2, h4⟩⟩ := h; rcases hd with rfl | rfl | rfl | rfl <;> first | exact rpi (by omega) (by omega) | exact w _ (by first | assumption | exact ShS.r (by assumption) | exact ShS.w (by assumption))
  | call f => refine rp_parts (fun d hd => ?_) (by simp); simp at hd; rcases hd with rfl | rfl <;> exact w _ (by first | assumption | exact ShS.nm (by assumption))
  | ret => refine rp_parts (fun d hd => ?_) (by simp); simp at hd; subst hd; exact w _ (by assumption)
  | go t => refine rp_parts (fun d hd => ?_) (by simp); simp at hd; obtain ⟨h1, h2⟩ := h; rcases hd with rfl | rfl <;> first | exact rpi (by omega) (by omega) | exact w _ (by assumption)
  | iff t => refine rp_parts (fun d hd => ?_) (by simp); simp at hd; obtain ⟨h1, h2⟩ := h; rcases hd with rfl | rfl <;> first | exact rpi (by omega) (by omega) | exact w _ (by assumption)
  | out x => refine rp_parts (fun d hd => ?_) (by simp); simp at hd; rcases hd with rfl | rfl <;> exact w _ (by first | assumption | exact ShS.r (by assumption))
  | throw => refine rp_parts (fun d hd => ?_) (by simp); simp at hd; subst hd; exact w _ (by assumption)
  | resume => refine rp_parts (fun d hd => ?_) (by simp); simp at hd; subst hd; exact w _ (by assumption)
theorem rp_ld (l : Ld) (m : Nat) (hm : m ≤ 1000) (h : l.ok m) : Rp 1 339 l.d := by
  refine rp_parts (fun d hd => ?_) (by simp)
  obtain ⟨h1, h2, h3, h4, h5⟩ := h
  simp at hd
  rcases hd with rfl | rfl | rfl <;> exact rpi (by omega) (by omega)
theorem rp_code {is : List Ins} {m : Nat} (hm : m ≤ 1000) (h : ∀ i ∈ is, i.ok m) (hl : is.length ≤ 1000) : Rp 2 341003 (.tup (is.map Ins.d)) :=
  rp_tup (n := 339) (m := 1000) (fun d hd => by obtain ⟨i, hi, rfl⟩ := List.mem_map.mp hd; exact rp_ins i m hm (h i hi)) (by simpa using hl)
theorem rp_lands {ls : List Ld} {m : Nat} (hm : m ≤ 1000) (h : ∀ i ∈ ls, i.ok m) (hl : ls.length ≤ 1000) : Rp 2 341003 (.tup (ls.map Ld.d)) :=
  rp_tup (n := 339) (m := 1000) (fun d hd => by obtain ⟨i, hi, rfl⟩ := List.mem_map.mp hd; exact rp_ld i m hm (h i hi)) (by simpa using hl)
theorem repr_code {is : List Ins} {m : Nat} (hm : m ≤ 1000) (h : ∀ i ∈ is, i.ok m) (hl : is.length ≤ 1000) : reprD [.tup (is.map Ins.d)] = some (.str (shw (.tup (is.map Ins.d)))) := repr_of (rp_code hm h hl) (by decide) (by decide)
theorem repr_lands {ls : List Ld} {m : Nat} (hm : m ≤ 1000) (h : ∀ i ∈ ls, i.ok m) (hl : ls.length ≤ 1000) : reprD [.tup (ls.map Ld.d)] = some (.str (shw (.tup (ls.map Ld.d)))) := repr_of (rp_lands hm h hl) (by decide) (by decide)
theorem repr_nm {x : Str} (h : Nm x) : reprD [.str x] = some (.str (shw (.str x))) := repr_of (ShS.rp (ShS.nm h)) (by decide) (by decide)
end Gd

namespace Ws
open PySem L2
/-! ### how comprehensions run, over lists of one's own things -/
theorem loopC_gen {α : Type} {own : List Nat} {g : GD} {c : M Bool} {elt : M O} {h : α → D} {p : α → Bool} {f : α → O} {e0 : Ws.Env} : ∀ {xs : List α} {acc : List O} {e : Ws.Env}, wipeE e own = e0 → acc.length + xs.length ≤ 100000 →
    (∀ x ∈ xs, ∃ e1, g (.pu (h x)) e0 = some e1 ∧ ∃ e2, c e1 = .ok (p x) e2 ∧ (p x = false → wipeE e2 own = e0) ∧ (p x = true → ∃ e3, elt e2 = .ok (f x) e3 ∧ wipeE e3 own = e0)) →
    ∃ e', loopC own g c elt (xs.map h) acc e = .ok (acc ++ (xs.filter p).map f) e' ∧ wipeE e' own = e0
  | [], acc, e, hw, _, _ => ⟨e, by simp [loopC], hw⟩
  | x :: xs, acc, e, hw, hl, hx => by
    have h0 : wipeE e0 own = e0 := by rw [← hw, wipeE_idem]
    obtain ⟨e1, h1, e2, h2, hf, ht⟩ := hx x (by simp)
    have hl' : acc.length < 100000 := by simp at hl; omega
    rw [List.map_cons, loopC, hw, h1]
    simp only [h2]
    cases hp : p x with
    | false =>
      obtain ⟨e', a, b⟩ := loopC_gen (xs := xs) (acc := acc) (e := e0) (p := p) (f := f) (elt := elt) (c := c) (g := g) (h := h) h0 (by simp at hl; omega) fun y hy => hx y (by simp [hy])
      refine ⟨e', ?_, b⟩
      simp only [hf hp, a, List.filter_cons, hp]
      simp
    | true =>
      obtain ⟨e3, h3, h4⟩ := ht hp
      obtain ⟨e', a, b⟩ := loopC_gen (xs := xs) (acc := acc ++ [f x]) (e := e0) (p := p) (f := f) (elt := elt) (c := c) (g := g) (h := h) h0 (by simp at hl ⊢; omega) fun y hy => hx y (by simp [hy])
      refine ⟨e', ?_, b⟩
      simp only [h3, h4, if_pos hl', a, List.filter_cons, hp]
      simp
theorem loopC_map {α : Type} {own : List Nat} {g : GD} {elt : M O} {h : α → D} {f : α → O} {e e0 : Ws.Env} {xs : List α} (hw : wipeE e own = e0) (hl : xs.length ≤ 100000)
    (hx : ∀ x ∈ xs, ∃ e1, g (.pu (h x)) e0 = some e1 ∧ ∃ e3, elt e1 = .ok (f x) e3 ∧ wipeE e3 own = e0) :
    ∃ e', loopC own g cYes elt (xs.map h) [] e = .ok (xs.map f) e' ∧ wipeE e' own = e0 := by
  obtain ⟨e', a, b⟩ := loopC_gen (own := own) (g := g) (c := cYes) (elt := elt) (h := h) (p := fun _ => true) (f := f) (e0 := e0) (xs := xs) (acc := []) (e := e) hw (by simpa using hl) fun x hxm => by
    obtain ⟨e1, h1, e3, h2, h3⟩ := hx x hxm
    exact ⟨e1, h1, e1, rfl, (fun z => Bool.noConfusion z), fun _ => ⟨e3, h2, h3⟩⟩
  have hf : xs.filter (fun _ => true) = xs := List.filter_eq_self.mpr fun _ _ => rfl
  rw [hf] at a
  exact ⟨e', by simpa using a, b⟩
theorem loopC2_gen {α : Type} {own vs1 : List Nat} {g g1 : GD} {c c1 : M Bool} {mi1 : M (List D)} {elt : M O} {h : α → D} {f : α → List O} {e0 : Ws.Env} : ∀ {xs : List α} {acc : List O} {e : Ws.Env}, wipeE e own = e0 →
    (∀ x ∈ xs, ∀ acc : List O, acc.length ≤ n → ∃ e1, g (.pu (h x)) e0 = some e1 ∧ ∃ e2, c e1 = .ok true e2 ∧ ∃ ys e3, mi1 e2 = .ok ys e3 ∧ ∃ e4, loopC vs1 g1 c1 elt ys acc e3 = .ok (acc ++ f x) e4 ∧ wipeE e4 own = e0) →
    (acc ++ xs.flatMap f).length ≤ n →
    ∃ e', loopC2 own vs1 g c mi1 g1 c1 elt (xs.map h) acc e = .ok (acc ++ xs.flatMap f) e' ∧ wipeE e' own = e0
  | [], acc, e, hw, _, _ => ⟨e, by simp [loopC2], hw⟩
  | x :: xs, acc, e, hw, hx, hl => by
    have h0 : wipeE e0 own = e0 := by rw [← hw, wipeE_idem]
    obtain ⟨e1, h1, e2, h2, ys, e3, h3, e4, h4, h5⟩ := hx x (by simp) acc (by simp at hl; omega)
    obtain ⟨e', a, b⟩ := loopC2_gen (n := n) (xs := xs) (acc := acc ++ f x) (e := e0) (own := own) (vs1 := vs1) (g := g) (c := c) (mi1 := mi1) (g1 := g1) (c1 := c1) (elt := elt) (h := h) (f := f) h0 (fun y hy => hx y (by simp [hy])) (by simp at hl ⊢; omega)
    refine ⟨e', ?_, b⟩
    rw [List.map_cons, loopC2, hw, h1]
    simp only [h2, h3, h4, h5, a]
    simp
/-- .. where tests and elements change no name -/
theorem loopC_genK {α : Type} {own : List Nat} {g : GD} {c : M Bool} {elt : M O} {h : α → D} {p : α → Bool} {f : α → O} {e e0 : Ws.Env} {xs : List α} {acc : List O} (hw : wipeE e own = e0) (hl : acc.length + xs.length ≤ 100000)
    (hx : ∀ x ∈ xs, ∃ e1, g (.pu (h x)) e0 = some e1 ∧ wipeE e1 own = e0 ∧ c e1 = .ok (p x) e1 ∧ (p x = true → elt e1 = .ok (f x) e1)) :
    ∃ e', loopC own g c elt (xs.map h) acc e = .ok (acc ++ (xs.filter p).map f) e' ∧ wipeE e' own = e0 :=
  loopC_gen hw hl fun x hm => by
    obtain ⟨e1, a, b, c1, d⟩ := hx x hm
    exact ⟨e1, a, e1, c1, fun _ => b, fun z => ⟨e1, d z, b⟩⟩
theorem loopC_mapK {α : Type} {own : List Nat} {g : GD} {elt : M O} {h : α → D} {f : α → O} {e e0 : Ws.Env} {xs : List α} (hw : wipeE e own = e0) (hl : xs.length ≤ 100000)
    (hx : ∀ x ∈ xs, ∃ e1, g (.pu (h x)) e0 = some e1 ∧ wipeE e1 own = e0 ∧ elt e1 = .ok (f x) e1) :
    ∃ e', loopC own g cYes elt (xs.map h) [] e = .ok (xs.map f) e' ∧ wipeE e' own = e0 :=
  loopC_map hw hl fun x hm => by
    obtain ⟨e1, a, b, d⟩ := hx x hm
    exact ⟨e1, a, e1, d, b⟩
/-- a for over one's own things that keeps P -/
theorem loop_map {α : Type} {g : GD} {body : M Fl} {h : α → D} (P : List α → Ws.Env → Prop) {xs : List α} (ht : ∀ (ys : List α) (x : α) (e : Ws.Env), ys ++ [x] <+: xs → P ys e → ∃ e1, g (.pu (h x)) e = some e1 ∧ NxP (P (ys ++ [x])) (body e1)) {e0 : Ws.Env} (h0 : P [] e0) :
    ∃ e, loopF g body (xs.map h) e0 = .ok .nx e ∧ P xs e := by
  obtain ⟨e, h1, h2⟩ := loop_ex (g := g) (body := body) (items := xs.map h) (j := 0) (fun j e => P (xs.take j) e) (fun k x e hx p => by
    rw [List.getElem?_map] at hx
    obtain ⟨y, hy, rfl⟩ := Option.map_eq_some_iff.mp hx
    have e2 : xs.take (k + 1) = xs.take k ++ [y] := by rw [List.take_add_one, hy]; rfl
    rw [Nat.zero_add] at p ⊢
    rw [e2]
    exact ht (xs.take k) y e (by rw [← e2]; exact List.take_prefix _ _) p) (e0 := e0) (by simpa using h0)
  rw [List.length_map, Nat.zero_add, List.take_length] at h2
  exact ⟨e, h1, h2⟩
end Ws

namespace Gd
open PySem L2 Ws
/-! ### functions and programs -/
/-- a function told: name, instructions, landings -/
structure Tl where
  nm : Str
  is : List Ins
  ls : List Ld
structure Tl.ok (mi ml : Nat) (t : Tl) : Prop where
  n : Nm t.nm
  i : ∀ i ∈ t.is, i.ok t.is.length
  l : ∀ l ∈ t.ls, l.ok t.is.length
  i1 : 1 ≤ t.is.length
  i2 : t.is.length ≤ mi
  l2 : t.ls.length ≤ ml
/-- told -/
def Tl.d (t : Tl) : D := .tup [.str t.nm, .lst (t.is.map Ins.d), .lst (t.ls.map Ld.d)]
/-- the function -/
def Tl.f (t : Tl) : D := .ins s_Function [(s_name, .str t.nm), (s_code, .tup (t.is.map Ins.d)), (s_landings, .tup (t.ls.map Ld.d))]
def Tl.o (t : Tl) : O := .ob s_Function (fnFs t.nm t.is t.ls)
theorem toD_ob (C : Str) (fs : List (Str × O)) : (O.ob C fs).toD = .ins C (fs.map fun q => (q.1, q.2.toD)) := by rw [O.toD, O.toDf_eq]
@[simp] theorem toD_tlo (t : Tl) : t.o.toD = t.f := by simp [Tl.o, toD_ob, fnFs, Tl.f]
theorem Tl.ok.init {t : Tl} {mi ml : Nat} (h : t.ok mi ml) (hm : mi ≤ 1000) (hl : ml ≤ 100000) (p q : Bool) :
    den_Function_init [.ob s_Function [], .pu (.str t.nm), .pu (sq p (t.is.map Ins.d)), .pu (sq q (t.ls.map Ld.d))] = .ok (.pu .non) [some t.o, none, none, none] :=
  init_ok t.nm h.n t.is t.ls p q h.i h.i1 (by have := h.i2; omega) h.l (by have := h.l2; omega)
structure PgOk (mi ml : Nat) (ts : List Tl) : Prop where
  f : ∀ t ∈ ts, t.ok mi ml
  c : ∀ t ∈ ts, ∀ i ∈ t.is, i.cl (ts.map (·.nm))
  nd : (ts.map (·.nm)).Nodup
  l1 : 1 ≤ ts.length
  l2 : ts.length ≤ 12
def pgFs (ts : List Tl) : List (Str × O) := [(s_functions, .pu (.tup (ts.map Tl.f)))]
def pgO (ts : List Tl) : O := .ob s_Program (pgFs ts)
def pgD (ts : List Tl) : D := .ins s_Program [(s_functions, .tup (ts.map Tl.f))]
@[simp] theorem toD_pgO (ts : List Tl) : (pgO ts).toD = pgD ts := by simp [pgO, toD_ob, pgFs, pgD]
theorem metK_nodup : ∀ {ks σ : List L2.Key}, (σ ++ ks).Nodup → ks.foldl addK σ = σ ++ ks
  | [], σ, _ => by simp
  | k :: ks, σ, h => by
    have hk : k ∉ σ := fun hm => by
      rw [List.nodup_append] at h
      exact h.2.2 k hm k (by simp) rfl
    rw [List.foldl_cons, addK, if_neg hk, metK_nodup (by simpa using h)]
    simp
theorem metK_strs {ws : List Str} (h : ws.Nodup) : (metK (ws.map Sum.inr)).length = ws.length := by
  unfold metK
  rw [metK_nodup (by
    rw [List.nil_append]
    exact List.Pairwise.map _ (fun a b hab e => hab (by cases e; rfl)) h)]
  simp
/-- the names that are called -/
def calls (t : Tl) : List Str := t.is.filterMap fun i => match i with
  | .call f => some f
  | _ => none
def isCall : Ins → Bool
  | .call _ => true
  | _ => false
def callee : Ins → Str
  | .call f => f
  | _ => s_call
theorem calls_eq (t : Tl) : (t.is.filter isCall).map callee = calls t := by
  unfold calls
  induction t.is with
  | nil => rfl
  | cons i is ih => cases i <;> simp [List.filter_cons, isCall, callee, ih]
theorem in_strs (w : Str) (ws : List Str) (h : w ∈ ws) : inD false (.str w) (.lst (ws.map D.str)) = some (.bl true) := by
  have e : (ws.map D.str).all D.flat = true := by simp
  show (if (D.flat (.str w) && (ws.map D.str).all D.flat) = true then some (D.bl ((ws.map D.str).any fun y => y.feq (.str w))) else none) = _
  rw [e]
  have : ((ws.map D.str).any fun y => y.feq (.str w)) = true := List.any_eq_true.mpr ⟨.str w, List.mem_map.mpr ⟨w, h, rfl⟩, by show (w == w) = true; simp⟩
  rw [this]
  rfl
theorem prog_init (mi ml : Nat) (ts : List Tl) (h : PgOk mi ml ts) (hm : mi ≤ 1000) (o : O) (ho : o.toD = .lst (ts.map Tl.f)) :
    den_Program_init [.ob s_Program [], o] = .ok (.pu .non) [some (pgO ts), none] := by
  have l1 := h.l1
  have l2 := h.l2
  obtain ⟨e1, a1, b1⟩ := loopC_mapK (own := [3]) (g := cg1_Program_init) (elt := ce1_Program_init) (h := Tl.f) (f := fun t => .pu (.str t.nm)) (e := [some (.ob s_Program []), some (.pu (.lst (ts.map Tl.f))), none, none, none, none, none]) (xs := ts) rfl (by omega)
    (fun t _ => ⟨_, rfl, rfl, by simp [ce1_Program_init, Tl.f]⟩)
  simp at b1
  have hs : lenSetD (.lst (ts.map fun t => D.str t.nm)) = some (.int ts.length) := by
    have e : (ts.map fun t => D.str t.nm) = (ts.map (·.nm)).map D.str := by simp
    rw [e, lenSetD, keysD_str]
    have := metK_strs h.nd
    simp at this ⊢
    rw [this]
    simp; omega
  have m1 : (1 : Int) ≤ ts.length := by omega
  have m2 : (ts.length : Int) ≤ 12 := by omega
  let nms : O := .li (ts.map fun t => .pu (.str t.nm))
  have hb : (ts.flatMap fun t => (calls t).map fun w => O.pu (D.str w)).length ≤ 12000 := by
    have : ∀ xs : List Tl, (∀ t ∈ xs, t.ok mi ml) → (xs.flatMap fun t => (calls t).map fun w => O.pu (D.str w)).length ≤ xs.length * 1000 := by
      intro xs
      induction xs with
      | nil => simp
      | cons t xs ih =>
        intro hx
        have := ih fun u hu => hx u (by simp [hu])
        have h2 : (calls t).length ≤ t.is.length := List.length_filterMap_le _ _
        have h3 := (hx t (by simp)).i2
        rw [List.flatMap_cons, List.length_append, List.length_map, List.length_cons]
        omega
    have := this ts h.f
    omega
  obtain ⟨e2, a2, b2⟩ := loopC2_gen (n := 12000) (own := [3, 5]) (vs1 := [5]) (g := cg2_Program_init) (c := cYes) (mi1 := ci3_Program_init) (g1 := cg3_Program_init) (c1 := cc2_Program_init) (elt := ce3_Program_init) (h := Tl.f) (f := fun t => (calls t).map fun w => .pu (.str w))
    (e0 := [some (.ob s_Program []), some (.pu (.lst (ts.map Tl.f))), some nms, none, none, none, none]) (xs := ts) (acc := []) (e := [some (.ob s_Program []), some (.pu (.lst (ts.map Tl.f))), some nms, none, none, none, none]) rfl
    (fun t ht acc hacc => by
      have hi2 := (h.f t ht).i2
      obtain ⟨e4, x1, x2⟩ := loopC_genK (own := [5]) (g := cg3_Program_init) (c := cc2_Program_init) (elt := ce3_Program_init) (h := Ins.d) (p := isCall) (f := fun i => .pu (.str (callee i))) (xs := t.is) (acc := acc)
        (e := [some (.ob s_Program []), some (.pu (.lst (ts.map Tl.f))), some nms, some (.pu t.f), none, none, none]) (e0 := [some (.ob s_Program []), some (.pu (.lst (ts.map Tl.f))), some nms, some (.pu t.f), none, none, none]) rfl (by omega)
        (fun i _ => by
          refine ⟨_, rfl, rfl, ?_⟩
          cases i with
          | call f => exact ⟨by simp [cc2_Program_init, Ins.d, isCall], fun _ => by simp [ce3_Program_init, Ins.d, callee]⟩
          | _ => exact ⟨by simp [cc2_Program_init, Ins.d, isCall], fun z => Bool.noConfusion z⟩)
      refine ⟨_, rfl, _, rfl, t.is.map Ins.d, _, by simp [ci3_Program_init, Tl.f]; rfl, e4, ?_, ?_⟩
      · rw [← calls_eq]
        simpa [Tl.f, Function.comp_def] using x1
      · have := congrArg (fun e => wipeE e [3]) x2
        simpa [wipeE] using this) (by simpa using hb)
  have hmem : ∀ w ∈ ts.flatMap calls, w ∈ ts.map (·.nm) := fun w hw => by
    obtain ⟨t, ht, hw⟩ := List.mem_flatMap.mp hw
    unfold calls at hw
    obtain ⟨i, hi, e⟩ := List.mem_filterMap.mp hw
    have := h.c t ht i hi
    cases i <;> simp at e
    subst e
    exact this
  have hbl : (ts.flatMap calls).length ≤ 12000 := by
    have e : (ts.flatMap fun t => (calls t).map fun w => O.pu (D.str w)) = (ts.flatMap calls).map fun w => O.pu (D.str w) := by rw [List.map_flatMap]
    rw [e, List.length_map] at hb
    exact hb
  simp at b2
  obtain ⟨e3, a3, b3⟩ := loopC_mapK (own := [6]) (g := cg4_Program_init) (elt := ce4_Program_init) (h := D.str) (f := fun _ => .pu (.bl true)) (e := [some (.ob s_Program []), some (.pu (.lst (ts.map Tl.f))), some (.li (ts.map fun t => .pu (.str t.nm))), none, some (.pu (.lst ((ts.flatMap calls).map D.str))), none, none]) (xs := ts.flatMap calls) rfl (by omega)
    (fun w hw => ⟨_, rfl, rfl, by
      have := in_strs w (ts.map (·.nm)) (hmem w hw)
      simp [Function.comp_def] at this
      simp [ce4_Program_init, Function.comp_def, this]⟩)
  simp at b3
  have bs : blsD ((ts.flatMap calls).map fun _ => D.bl true) = some ((ts.flatMap calls).map fun _ => true) := blsD_true _
  try simp at a1
  try simp [nms] at a2 b2
  try simp [Function.comp_def] at a2
  try simp [Function.comp_def] at a3
  have fm : (ts.flatMap fun t => (calls t).map fun w => O.pu (D.str w)) = (ts.flatMap calls).map fun w => O.pu (D.str w) := by rw [List.map_flatMap]
  rw [fm] at a2
  have bs2 : ∀ n : Nat, blsD (List.replicate n (D.bl true)) = some (List.replicate n true) := fun n => by
    have := blsD_true (List.replicate n ())
    simpa using this
  cases o with
  | pu d =>
    simp at ho
    subst ho
    simp [den_Program_init, body_Program_init, a1, b1, a2, b2, a3, b3, m1, m2, hs, bs, bs2, Function.comp_def, pgO, pgFs]
  | li xs =>
    simp at ho
    simp [den_Program_init, body_Program_init, a1, b1, a2, b2, a3, b3, m1, m2, hs, bs, bs2, ho, Function.comp_def, pgO, pgFs]
  | tu xs => simp at ho
  | di xs => simp [O.toD] at ho
  | diT xs => simp [O.toD] at ho
  | ob C fs => simp [toD_ob] at ho
  | any => simp [O.toD] at ho
end Gd

namespace Gd
open PySem L2 Ws
/-! ### programs as texts -/
def tx : D → Str
  | .int i => Str.ofString (toString i)
  | .str x => x
  | _ => Str.empty
def Tx (d : D) : Prop := (∃ i : Int, d = .int i ∧ -10000000000000 < i ∧ i < 10000000000000) ∨ ∃ x : Str, d = .str x ∧ x.length ≤ 14
theorem Tx.ok {d : D} (h : Tx d) : strD [d] = some (.str (tx d)) ∧ (tx d).length ≤ 14 := by
  rcases h with ⟨i, rfl, h1, h2⟩ | ⟨x, rfl, h⟩
  · obtain ⟨p, e, a, b, c⟩ := rp_int (i := i) (m := 13) (by decide) (by decide) (by simpa using h1) (by simpa using h2)
    rw [py_int] at e
    cases e
    have a' : i.natAbs.log2 < 1920 := by simpa [PyData.showable] using a
    exact ⟨by simp [strD, a', tx], c⟩
  · exact ⟨by simp [strD, tx], h⟩
theorem join_len (a : Str) {n : Nat} : ∀ {xs : List Str}, (∀ x ∈ xs, x.length ≤ n) → (Str.join a xs).length ≤ xs.length * (n + a.length)
  | [], _ => by simp [Str.join, Str.length, Str.empty]
  | [x], h => by
    have := h x (by simp)
    show x.length ≤ _
    simp; omega
  | x :: y :: r, h => by
    have h1 := join_len a (xs := y :: r) fun z hz => h z (by simp [hz])
    have h2 := h x (by simp)
    show (x ++ a ++ Str.join a (y :: r)).length ≤ _
    rw [strLen_append, strLen_append, List.length_cons, Nat.add_mul]
    omega
def rowS (ds : List D) : Str := Str.join s__x20 (ds.map tx) ++ s__x0a
theorem rowS_len {ds : List D} (h : ∀ d ∈ ds, Tx d) (hl : ds.length ≤ 4) : (rowS ds).length ≤ 61 ∧ (Str.join s__x20 (ds.map tx)).length ≤ 60 := by
  have h1 := join_len s__x20 (n := 14) (xs := ds.map tx) fun x hx => by obtain ⟨d, hd, rfl⟩ := List.mem_map.mp hx; exact (h d hd).ok.2
  have e : s__x20.length = 1 := rfl
  have e2 : s__x0a.length = 1 := rfl
  rw [List.length_map, e] at h1
  unfold rowS
  rw [strLen_append, e2]
  omega
theorem sum_len {n : Nat} : ∀ {xs : List Str}, (∀ x ∈ xs, x.length ≤ n) → (xs.map (·.length)).sum ≤ xs.length * n
  | [], _ => by simp
  | x :: xs, h => by
    have h1 := h x (by simp)
    have h2 := sum_len (xs := xs) fun y hy => h y (by simp [hy])
    rw [List.map_cons, List.sum_cons, List.length_cons, Nat.add_mul]
    omega
theorem join_row {ds : List D} (h : ∀ d ∈ ds, Tx d) (hl : ds.length ≤ 4) : joinD s__x20 (.lst (ds.map fun d => D.str (tx d))) = some (.str (Str.join s__x20 (ds.map tx))) := by
  have h1 := sum_len (n := 14) (xs := ds.map tx) fun x hx => by obtain ⟨d, hd, rfl⟩ := List.mem_map.mp hx; exact (h d hd).ok.2
  have e : s__x20.length = 1 := rfl
  have hc : ((ds.map tx).map (·.length)).sum + (ds.map tx).length * s__x20.length ≤ 16777216 := by
    rw [e, List.length_map] at *
    omega
  unfold joinD
  simp only [D.seq, strsD_map]
  rw [if_pos hc, TL.join_eq]
theorem trow_ok {ds : List D} (h : ∀ d ∈ ds, Tx d) (hl : ds.length ≤ 4) : den_trow_of [.pu (.tup ds)] = .ok (.pu (.str (rowS ds))) [none] := by
  obtain ⟨e', a, b⟩ := loopC_mapK (own := [1]) (g := cg1_trow_of) (elt := ce1_trow_of) (h := id) (f := fun d => .pu (.str (tx d))) (e := [some (.pu (.tup ds)), none]) (xs := ds) rfl (by omega)
    (fun d hd => ⟨_, rfl, rfl, by simp [ce1_trow_of, (h d hd).ok.1]⟩)
  have hj := join_row h hl
  have hz := (rowS_len h hl).2
  have hz2 : (Str.join s__x20 (ds.map tx)).length + s__x0a.length ≤ 100000 := by
    have e2 : s__x0a.length = 1 := rfl
    omega
  simp at a b
  simp [den_trow_of, body_trow_of, a, b, hj, hz2, Function.comp_def, rowS]
/-- an instruction's parts -/
def parts : D → List D
  | .tup ds => ds
  | _ => []
theorem ShS.tx {x : Str} (h : ShS x) : Tx (.str x) := .inr ⟨x, rfl, by have := h.1; omega⟩
theorem Tx.int {i : Int} (h1 : -10000000000000 < i) (h2 : i < 10000000000000) : Tx (.int i) := .inl ⟨i, rfl, h1, h2⟩
theorem ins_tup (i : Ins) : i.d = .tup (parts i.d) := by cases i <;> rfl
theorem ins_tx (i : Ins) (m : Nat) (hm : m ≤ 1000) (h : i.ok m) : (∀ d ∈ parts i.d, Tx d) ∧ (parts i.d).length ≤ 4 := by
  have s1 : ShS s_set_w ∧ ShS s_copy ∧ ShS s_mix ∧ ShS s_push ∧ ShS s_pop ∧ ShS s_room ∧ ShS s_store ∧ ShS s_load ∧ ShS s_call ∧ ShS s_ret_w ∧ ShS s_go ∧ ShS s_if_w ∧ ShS s_out ∧ ShS s_throw ∧ ShS s_resume := by
    repeat' apply And.intro
    all_goals decide +kernel
  obtain ⟨a1, a2, a3, a4, a5, a6, a7, a8, a9, a10, a11, a12, a13, a14, a15⟩ := s1
  refine ⟨fun d hd => ?_, by cases i <;> simp [parts, Ins.d]⟩
  cases i <;> simp [parts, Ins.d] at hd <;> simp only [Ins.ok] at h
  case set => obtain ⟨h1, h2, h3⟩ := h; rcases hd with rfl | rfl | rfl <;> first | exact Tx.int (by omega) (by omega) | exact ShS.tx (by first | assumption | exact ShS.r (by assumption))
  case copy => obtain ⟨h1, h2⟩ := h; rcases hd with rfl | rfl | rfl <;> exact ShS.tx (by first | assumption | exact ShS.w (by assumption))
  case mix => obtain ⟨h1, h2, h3⟩ := h; rcases hd with rfl | rfl | rfl | rfl <;> exact ShS.tx (by first | assumption | exact ShS.r (by assumption))
  case push => rcases hd with rfl | rfl <;> exact ShS.tx (by first | assumption | exact ShS.r (by assumption))
  case pop => rcases hd with rfl | rfl <;> exact ShS.tx (by first | assumption | exact ShS.r (by assumption))
  case room => obtain ⟨h1, h2⟩ := h; rcases hd with rfl | rfl <;> first | exact Tx.int (by omega) (by omega) | exact ShS.tx (by assumption)
  case store => obtain ⟨h1, ⟨h2, h4⟩, h3⟩ := h; rcases hd with rfl | rfl | rfl | rfl <;> first | exact Tx.int (by omega) (by omega) | exact ShS.tx (by first | assumption | exact ShS.r (by assumption) | exact ShS.w (by assumption))
  case load => obtain ⟨h1, h3, ⟨h2, h4⟩⟩ := h; rcases hd with rfl | rfl | rfl | rfl <;> first | exact Tx.int (by omega) (by omega) | exact ShS.tx (by first | assumption | exact ShS.r (by assumption) | exact ShS.w (by assumption))
  case call => rcases hd with rfl | rfl <;> exact ShS.tx (by first | assumption | exact ShS.nm (by assumption))
  case ret => subst hd; exact ShS.tx (by assumption)
  case go => obtain ⟨h1, h2⟩ := h; rcases hd with rfl | rfl <;> first | exact Tx.int (by omega) (by omega) | exact ShS.tx (by assumption)
  case iff => obtain ⟨h1, h2⟩ := h; rcases hd with rfl | rfl <;> first | exact Tx.int (by omega) (by omega) | exact ShS.tx (by assumption)
  case out => rcases hd with rfl | rfl <;> exact ShS.tx (by first | assumption | exact ShS.r (by assumption))
  case throw => subst hd; exact ShS.tx (by assumption)
  case resume => subst hd; exact ShS.tx (by assumption)
def Ins.row (i : Ins) : Str := rowS (parts i.d)
def ldParts (l : Ld) : List D := [.str s_land, .int l.a, .int l.b, .int l.t]
def Ld.row (l : Ld) : Str := rowS (ldParts l)
theorem ld_tx (l : Ld) (m : Nat) (hm : m ≤ 1000) (h : l.ok m) : (∀ d ∈ ldParts l, Tx d) ∧ (ldParts l).length ≤ 4 := by
  have a1 : ShS s_land := by decide +kernel
  obtain ⟨h1, h2, h3, h4, h5⟩ := h
  refine ⟨fun d hd => ?_, by simp [ldParts]⟩
  simp [ldParts] at hd
  rcases hd with rfl | rfl | rfl | rfl <;> first | exact Tx.int (by omega) (by omega) | exact ShS.tx (by assumption)
def funParts (x : Str) : List D := [.str s_fun, .str x]
theorem fun_tx (x : Str) (h : Nm x) : (∀ d ∈ funParts x, Tx d) ∧ (funParts x).length ≤ 4 := by
  have a1 : ShS s_fun := by decide +kernel
  refine ⟨fun d hd => ?_, by simp [funParts]⟩
  simp [funParts] at hd
  rcases hd with rfl | rfl <;> exact ShS.tx (by first | assumption | exact ShS.nm (by assumption))
/-- the rows of a function's text -/
def Tl.rows (t : Tl) : List Str := rowS (funParts t.nm) :: (t.is.map Ins.row ++ t.ls.map Ld.row)
def rowsOf (ts : List Tl) : List Str := ts.flatMap Tl.rows
theorem rows_len {mi ml : Nat} (hm : mi ≤ 1000) {ts : List Tl} (h : ∀ t ∈ ts, t.ok mi ml) : ∀ x ∈ rowsOf ts, x.length ≤ 61 := by
  intro x hx
  obtain ⟨t, ht, hx⟩ := List.mem_flatMap.mp hx
  have o := h t ht
  have hi := o.i2
  simp [Tl.rows] at hx
  rcases hx with rfl | ⟨i, hi2, rfl⟩ | ⟨l, hl, rfl⟩
  · have z := fun_tx t.nm o.n; exact (rowS_len z.1 z.2).1
  · have z := ins_tx i t.is.length (by omega) (o.i i hi2); exact (rowS_len z.1 z.2).1
  · have z := ld_tx l t.is.length (by omega) (o.l l hl); exact (rowS_len z.1 z.2).1
theorem str_ext {a b : Str} (h : a.cps.toList = b.cps.toList) : a = b := by
  cases a; cases b
  congr 1
  exact Array.toList_inj.mp h
theorem app_list (a b : Str) : (a ++ b).cps.toList = a.cps.toList ++ b.cps.toList := by
  show (a.cps ++ b.cps).toList = _
  simp
theorem join_list : ∀ xs : List Str, (Str.join s__empty xs).cps.toList = xs.flatMap fun x => x.cps.toList
  | [] => rfl
  | [x] => by show x.cps.toList = _; simp
  | x :: y :: r => by
    show (x ++ s__empty ++ Str.join s__empty (y :: r)).cps.toList = _
    rw [app_list, app_list, join_list (y :: r)]
    have e : s__empty.cps.toList = [] := by decide +kernel
    rw [e]
    simp
/-- the text of a program -/
def textS (ts : List Tl) : Str := Str.join s__empty (rowsOf ts)
theorem rowsOf_snoc (ys : List Tl) (t : Tl) : rowsOf (ys ++ [t]) = rowsOf ys ++ t.rows := by simp [rowsOf]
def PTx (p : Option O) (ys : List Tl) (e : Ws.Env) : Prop := ∃ a b c, e = [p, some (.li ((rowsOf ys).map fun x => .pu (.str x))), a, b, c]
theorem text_turn {mi ml : Nat} (hm : mi ≤ 1000) (p : Option O) (ys : List Tl) (t : Tl) (o : t.ok mi ml) (hn : (rowsOf ys).length + (1 + t.is.length + t.ls.length) ≤ 100000) (e : Ws.Env) (h : PTx p ys e) :
    ∃ e1, fg1_program_text (.pu t.f) e = some e1 ∧ NxP (PTx p (ys ++ [t])) (fb1_program_text e1) := by
  obtain ⟨a, b, c, rfl⟩ := h
  refine ⟨_, rfl, ?_⟩
  have hi := o.i2
  have z := fun_tx t.nm o.n
  have h1 := trow_ok z.1 z.2
  obtain ⟨e2, a2, b2⟩ := loopC_mapK (own := [3]) (g := cg1_program_text) (elt := ce1_program_text) (h := Ins.d) (f := fun i => .pu (.str i.row)) (e := [p, some (.li ((rowsOf ys ++ [rowS (funParts t.nm)]).map fun x => .pu (.str x))), some (.pu t.f), b, c]) (e0 := [p, some (.li ((rowsOf ys ++ [rowS (funParts t.nm)]).map fun x => .pu (.str x))), some (.pu t.f), none, c]) (xs := t.is) rfl (by omega)
    (fun i hi2 => by
      have z := ins_tx i t.is.length (by omega) (o.i i hi2)
      have h2 := trow_ok z.1 z.2
      rw [← ins_tup] at h2
      exact ⟨_, rfl, rfl, by simp [ce1_program_text, h2, Ins.row]⟩)
  obtain ⟨e3, a3, b3⟩ := loopC_mapK (own := [4]) (g := cg2_program_text) (elt := ce2_program_text) (h := Ld.d) (f := fun i => .pu (.str i.row)) (e := [p, some (.li ((rowsOf ys ++ [rowS (funParts t.nm)] ++ t.is.map Ins.row).map fun x => .pu (.str x))), some (.pu t.f), none, c]) (e0 := [p, some (.li ((rowsOf ys ++ [rowS (funParts t.nm)] ++ t.is.map Ins.row).map fun x => .pu (.str x))), some (.pu t.f), none, none]) (xs := t.ls) rfl (by omega)
    (fun l hl2 => by
      have z := ld_tx l t.is.length (by omega) (o.l l hl2)
      have h2 := trow_ok z.1 z.2
      simp [ldParts] at h2
      exact ⟨_, rfl, rfl, by simp [ce2_program_text, h2, Ld.row, ldParts, Ld.d]⟩)
  have n1 : (rowsOf ys).length < 100000 := by omega
  have n2 : (rowsOf ys).length + 1 + t.is.length ≤ 100000 := by omega
  have n3 : (rowsOf ys).length + (t.is.length + 1) + t.ls.length ≤ 100000 := by omega
  have en : [rowS (funParts t.nm)] = [rowS [D.str s_fun, D.str t.nm]] := rfl
  simp [funParts] at h1 a2 b2 a3 b3
  refine ⟨[p, some (.li ((rowsOf (ys ++ [t])).map fun x => .pu (.str x))), some (.pu t.f), none, none], ?_, _, _, _, rfl⟩
  simp [Tl.f, Function.comp_def] at a2 b2 a3 b3
  simp [fb1_program_text, Tl.f, h1, n1, a2, b2, a3, b3, n2, n3, rowsOf_snoc, Tl.rows, funParts, Function.comp_def]
theorem text_ok (mi ml : Nat) (ts : List Tl) (h : PgOk mi ml ts) (hm : mi ≤ 1000) (hml : ml ≤ 1000) : den_program_text [.pu (pgD ts)] = .ok (.pu (.str (textS ts))) [none] := by
  have l2 := h.l2
  have hb : ∀ xs : List Tl, (∀ t ∈ xs, t.ok mi ml) → (rowsOf xs).length ≤ xs.length * 2001 := by
    intro xs
    induction xs with
    | nil => intro _; simp [rowsOf]
    | cons t xs ih =>
      intro hx
      have h1 := ih fun u hu => hx u (by simp [hu])
      have o := hx t (by simp)
      have := o.i2
      have := o.l2
      have e : rowsOf (t :: xs) = t.rows ++ rowsOf xs := by simp [rowsOf]
      rw [e, List.length_append, List.length_cons]
      simp [Tl.rows]
      omega
  obtain ⟨e, f1, a, b, c, rfl⟩ := loop_map (g := fg1_program_text) (body := fb1_program_text) (h := Tl.f) (PTx (some (.pu (pgD ts)))) (xs := ts) (e0 := [some (.pu (pgD ts)), some (.li ((rowsOf []).map fun x => .pu (.str x))), none, none, none])
    (fun ys t e hp p => by
      have ht : t ∈ ts := hp.subset (by simp)
      have hl := hp.length_le
      have o := h.f t ht
      have := o.i2
      have := o.l2
      have := hb ys fun u hu => h.f u (hp.subset (by simp [hu]))
      simp at hl
      exact text_turn hm _ ys t o (by omega) e p) ⟨none, none, none, rfl⟩
  have hj : joinD s__empty (.lst ((rowsOf ts).map D.str)) = some (.str (textS ts)) := by
    have h1 := sum_len (n := 61) (xs := rowsOf ts) (rows_len hm h.f)
    have h2 := hb ts h.f
    have e : s__empty.length = 0 := by decide +kernel
    unfold joinD
    simp only [D.seq, strsD_str]
    rw [if_pos (by rw [e]; omega), TL.join_eq]
    rfl
  have e0 : rowsOf [] = [] := rfl
  simp [e0, pgD] at f1
  simp [den_program_text, body_program_text, pgD, f1, hj, Function.comp_def]
end Gd

namespace Gd
open PySem L2 Ws
def PW (s : Sc) (l : Option O) (j : Nat) (e : Ws.Env) : Prop := ∃ k x y, Ab x j ∧ e = [some (dr s k), l, some (.pu (.str x)), y]
theorem word_turn (s : Sc) (l : Option O) (j : Nat) (hj : j < 100) (x : D) (e : Ws.Env) (h : PW s l j e) : ∃ e1, fg1_l_word (.pu x) e = some e1 ∧ NxP (PW s l (j + 1)) (fb1_l_word e1) := by
  obtain ⟨k, w, y, hw, rfl⟩ := h
  refine ⟨_, rfl, ?_⟩
  obtain ⟨c, hc, e1⟩ := letters_at (nx_in s k 26 (by decide))
  have h1 := hw.len
  have h2 : w.length + (⟨#[c]⟩ : Str).length ≤ 100000 := by show w.length + 1 ≤ 100000; omega
  have h3 : s_abcdefghijklmnopqrstuvwxyz.length ≤ 100000 := by decide +kernel
  refine ⟨_, by simp [fb1_l_word, e1, h2, h3]; rfl, ?_⟩
  exact ⟨k + 1, _, _, hw.snoc hc, rfl⟩
def wordsS : List Str := [s_fun, s_land, s_set_w, s_call, s_ret_w, s_go, s_if_w, s_end, s_sp, s_a, s_e, s_h, s_end, s_none, s_zz, s_throw]
def nmB (x : Str) : Bool := decide (1 ≤ x.length) && decide (x.length ≤ 8) && x.cps.toList.all fun c => decide (97 ≤ c) && decide (c ≤ 122)
theorem nm_of {x : Str} (h : nmB x = true) : Nm x := by
  unfold nmB at h
  rw [Bool.and_eq_true, Bool.and_eq_true] at h
  refine ⟨of_decide_eq_true h.1.1, of_decide_eq_true h.1.2, fun c hc => ?_⟩
  have := List.all_eq_true.mp h.2 c hc
  rw [Bool.and_eq_true] at this
  exact ⟨of_decide_eq_true this.1, of_decide_eq_true this.2⟩
theorem wordsS_nm : ∀ x ∈ wordsS, Nm x := by
  have h : wordsS.all nmB = true := by decide +kernel
  exact fun x hx => nm_of (List.all_eq_true.mp h x hx)
theorem word_ok (s : Sc) (k : Nat) : ∃ (x : Str) (k' : Nat), Nm x ∧ den_l_word [dr s k] = .ok (.pu (.str x)) [some (dr s k')] := by
  by_cases c : nxt s k 4 = 0
  · obtain ⟨y, hy, hm⟩ := atI_get (xs := wordsS.map fun w => O.pu (D.str w)) (i := nxt s (k + 1) 16) (nx_in s (k + 1) 16 (by decide)).1 (by simpa [wordsS] using (nx_in s (k + 1) 16 (by decide)).2)
    obtain ⟨w, hw, rfl⟩ := List.mem_map.mp hm
    simp [wordsS] at hy
    exact ⟨w, k + 1 + 1, wordsS_nm w hw, by simp [den_l_word, body_l_word, c, hy]⟩
  · have hn := nx_in s (k + 1) 8 (by decide)
    let lst : Option O := some (.li (wordsS.map fun w => O.pu (D.str w)))
    obtain ⟨e, h1, k', x, y, hx, rfl⟩ := loop_ex (g := fg1_l_word) (body := fb1_l_word) (PW s lst) (items := rangeD 0 (1 + nxt s (k + 1) 8).toNat) (j := 0) (e0 := [some (dr s (k + 1 + 1)), lst, some (.pu (.str s__empty)), none])
      (fun i x e hx p => word_turn s lst (0 + i) (by have := (List.getElem?_eq_some_iff.mp hx).1; simp at this; omega) x e p)
      ⟨k + 1 + 1, s__empty, none, ⟨by decide +kernel, by have : s__empty.cps.toList = [] := by decide +kernel
                                                         rw [this]; simp⟩, rfl⟩
    have hl := hx.len
    simp at hl
    have h2 : -100000 ≤ 1 + nxt s (k + 1) 8 ∧ 1 + nxt s (k + 1) 8 ≤ 100000 := by omega
    simp [lst, wordsS] at h1
    exact ⟨x, k', ⟨by omega, by omega, hx.ab⟩, by simp [den_l_word, body_l_word, c, h1, h2]⟩
theorem cut7 (x : Str) : (cutS x none (some 7)).cps.toList = x.cps.toList.take 7 := by
  unfold cutS
  have h1 : HT.sIx x.length x.length (some 7) = min 7 x.length := HT.sIx_nat _ _ 7
  have h2 : HT.sIx x.length 0 none = 0 := rfl
  rw [h1, h2]
  simp only [List.drop_zero, Nat.sub_zero]
  have : x.cps.toList.length = x.length := by simp [Str.length]
  rw [← this, ← List.take_eq_take_min]
/-- the first seven signs and one behind them -/
def w7 (x : Str) (c : Nat) : Str := cutS x none (some 7) ++ ⟨#[c]⟩
theorem w7_list (x : Str) (c : Nat) : (w7 x c).cps.toList = x.cps.toList.take 7 ++ [c] := by
  have e : (w7 x c).cps.toList = (cutS x none (some 7)).cps.toList ++ [c] := by
    show ((cutS x none (some 7)).cps ++ #[c]).toList = _
    simp
  rw [e, cut7]
theorem w7_nm {x : Str} (h : Nm x) {c : Nat} (hc : 97 ≤ c ∧ c ≤ 122) : Nm (w7 x c) := by
  have e := w7_list x c
  have l : (w7 x c).length = (x.cps.toList.take 7 ++ [c]).length := by rw [← e]; simp [Str.length]
  have := h.hi
  refine ⟨by rw [l]; simp, by rw [l]; simp; omega, fun d hd => ?_⟩
  rw [e] at hd
  rcases List.mem_append.mp hd with h1 | h1
  · exact h.ab d (List.mem_of_mem_take h1)
  · simp at h1; subst h1; exact hc
theorem w7_inj {x : Str} {c d : Nat} (h : w7 x c = w7 x d) : c = d := by
  have := congrArg (fun y : Str => y.cps.toList) h
  simp only [w7_list] at this
  simpa using this
def abc : List Nat := [97, 98, 99, 100, 101, 102, 103, 104, 105, 106, 107, 108, 109, 110, 111, 112, 113, 114, 115, 116, 117, 118, 119, 120, 121, 122]
theorem abc_eq : s_abcdefghijklmnopqrstuvwxyz.cps.toList = abc := by decide +kernel
/-- one of the signs is free -/
theorem free7 (x : Str) (ws : List Str) (h : ws.length < 26) : ∃ c rest, abc.filter (fun c => !decide (w7 x c ∈ ws)) = c :: rest := by
  cases e : abc.filter (fun c => !decide (w7 x c ∈ ws)) with
  | cons c rest => exact ⟨c, rest, rfl⟩
  | nil =>
    have all : ∀ c ∈ abc, w7 x c ∈ ws := fun c hc => by
      have := List.filter_eq_nil_iff.mp e c hc
      simpa using this
    have nd : (abc.map (w7 x)).Nodup := by
      have : abc.Nodup := by decide
      exact List.Pairwise.map (w7 x) (fun a b hab h => hab (w7_inj h)) this
    have := nd.length_le_of_subset (l₂ := ws) fun y hy => by
      obtain ⟨c, hc, rfl⟩ := List.mem_map.mp hy
      exact all c hc
    simp [abc] at this
    omega
def wO (ws : List Str) : O := .li (ws.map fun w => .pu (.str w))
theorem feq_str (a b : Str) : D.feq (.str a) (.str b) = (a == b) := rfl
theorem any_strs (w : Str) : ∀ ws : List Str, ((ws.map D.str).any fun y => y.feq (.str w)) = decide (w ∈ ws)
  | [] => by simp
  | x :: xs => by
    have := any_strs w xs
    rw [List.map_cons, List.any_cons, this, feq_str]
    by_cases h : x = w
    · subst h; simp
    · have h' : ¬ w = x := fun e => h e.symm
      have h2 : (x == w) = false := by simpa using h
      simp [h', h2]
theorem inD_strs (neg : Bool) (w : Str) (ws : List Str) : inD neg (.str w) (.lst (ws.map D.str)) = some (.bl (if neg then !decide (w ∈ ws) else decide (w ∈ ws))) := by
  have h : (ws.map D.str).all D.flat = true := by simp
  have hw : D.flat (.str w) = true := rfl
  show (if (D.flat (.str w) && (ws.map D.str).all D.flat) = true then some (D.bl (if neg then !((ws.map D.str).any fun y => y.feq (.str w)) else (ws.map D.str).any fun y => y.feq (.str w))) else none) = _
  rw [hw, h, any_strs]
  rfl
@[simp] theorem toD_wO (ws : List Str) : (wO ws).toD = .lst (ws.map D.str) := by simp [wO]
theorem cut7_len (w : Str) : (cutS w none (some 7)).length ≤ 7 := by
  have e := congrArg List.length (cut7 w)
  simp [Str.length] at e ⊢
  omega
def sgn : D → Nat
  | .str ⟨cs⟩ => cs.getD 0 0
  | _ => 0
theorem lc_words (s : O) (n a : Option O) (w : Str) (hw : Nm w) (ws : List Str) : loopC [5] cg1_l_words cc1_l_words ce1_l_words (signsD s_abcdefghijklmnopqrstuvwxyz) [] [some s, n, some (wO ws), a, some (.pu (.str w)), none] =
    .ok ((abc.filter (fun c => !decide (w7 w c ∈ ws))).map fun c => .pu (.str (w7 w c))) [some s, n, some (wO ws), a, some (.pu (.str w)), none] := by
  have hi := hw.hi
  have h1 : w.length ≤ 100000 := by omega
  have sg : signsD s_abcdefghijklmnopqrstuvwxyz = abc.map fun c => D.str ⟨#[c]⟩ := by unfold signsD; rw [abc_eq]
  have l7 : ∀ c, (cutS w none (some 7)).length + (⟨#[c]⟩ : Str).length ≤ 100000 := fun c => by
    have := cut7_len w
    show _ + 1 ≤ _
    omega
  have lc := loopC_filter (own := [5]) (g := cg1_l_words) (c := cc1_l_words) (elt := ce1_l_words) (fun d => !decide (w7 w (sgn d) ∈ ws)) (fun d => .pu (.str (w7 w (sgn d)))) (e0 := [some s, n, some (wO ws), a, some (.pu (.str w)), none]) rfl (ds := abc.map fun c => D.str ⟨#[c]⟩) (by simp [abc]) (fun d hd => by
    obtain ⟨c, hc, rfl⟩ := List.mem_map.mp hd
    have e1 := inD_strs true (cutS w none (some 7) ++ ⟨#[c]⟩) ws
    refine ⟨[some s, n, some (wO ws), a, some (.pu (.str w)), some (.pu (.str ⟨#[c]⟩))], rfl, [some s, n, some (wO ws), a, some (.pu (.str w)), some (.pu (.str ⟨#[c]⟩))], ?_, fun _ => rfl, fun _ => ⟨[some s, n, some (wO ws), a, some (.pu (.str w)), some (.pu (.str ⟨#[c]⟩))], ?_, rfl⟩⟩
    · simp [cc1_l_words, h1, l7, sgn, w7, e1, -inD]
    · simp [ce1_l_words, h1, l7, sgn, w7])
  rw [sg, lc, List.filter_map, List.map_map]
  rfl
def PN (s : Sc) (n : Option O) (j : Nat) (e : Ws.Env) : Prop := ∃ k ws x y, ((∀ w ∈ ws, Nm w) ∧ ws.Nodup) ∧ ws.length = j ∧ e = [some (dr s k), n, some (wO ws), x, y, none]
theorem nodup_snoc {α : Type} {xs : List α} {y : α} (h : xs.Nodup) (n : y ∉ xs) : (xs ++ [y]).Nodup := by
  rw [List.nodup_append]
  refine ⟨h, by simp, fun a ha b hb e => ?_⟩
  simp at hb
  subst hb e
  exact n ha
theorem words_turn (s : Sc) (n : Option O) (j : Nat) (hj : j < 20) (x : D) (e : Ws.Env) (h : PN s n j e) : ∃ e1, fg1_l_words (.pu x) e = some e1 ∧ NxP (PN s n (j + 1)) (fb1_l_words e1) := by
  obtain ⟨k, ws, x0, y0, ⟨hw, hnd⟩, hl, rfl⟩ := h
  refine ⟨_, rfl, ?_⟩
  obtain ⟨w, k', hn, e1⟩ := word_ok s k
  have e2 := inD_strs false w ws
  have h2 : ws.length < 100000 := by omega
  have h26 : s_abcdefghijklmnopqrstuvwxyz.length ≤ 100000 := by decide +kernel
  by_cases c : w ∈ ws
  · obtain ⟨d, rest, hf⟩ := free7 w ws (by omega)
    have hfr : w7 w d ∉ ws := by
      have := (List.mem_filter.mp (show d ∈ abc.filter (fun c => !decide (w7 w c ∈ ws)) by rw [hf]; simp)).2
      simpa using this
    have hd : d ∈ abc := (List.mem_filter.mp (show d ∈ abc.filter (fun c => !decide (w7 w c ∈ ws)) by rw [hf]; simp)).1
    have hd2 : 97 ≤ d ∧ d ≤ 122 := by simp [abc] at hd; omega
    have lc := lc_words (dr s k') n (some (.pu x)) w hn ws
    rw [hf] at lc
    simp only [wO, List.map_cons] at lc
    have a0 : ∀ (y : O) (l : List O), atI (y :: l) 0 = some y := fun y l => by simp [atI, ixN]
    refine ⟨_, by simp [fb1_l_words, e1, e2, c, lc, wO, h2, a0, h26]; rfl, ?_⟩
    exact ⟨k', ws ++ [w7 w d], _, _, ⟨fun v hv => by
      rcases List.mem_append.mp hv with h | h
      · exact hw v h
      · simp at h; subst h; exact w7_nm hn hd2, nodup_snoc hnd hfr⟩, by simp [hl], by simp [wO]; repeat (first | exact rfl | refine ⟨rfl, ?_⟩)⟩
  · refine ⟨_, by simp [fb1_l_words, e1, e2, c, wO, h2]; rfl, ?_⟩
    exact ⟨k', ws ++ [w], _, _, ⟨fun v hv => by
      rcases List.mem_append.mp hv with h | h
      · exact hw v h
      · simp at h; subst h; exact hn, nodup_snoc hnd c⟩, by simp [hl], by simp [wO]; repeat (first | exact rfl | refine ⟨rfl, ?_⟩)⟩
theorem words_ok (s : Sc) (k : Nat) (n : Nat) (hn : n ≤ 20) : ∃ (ws : List Str) (k' : Nat), (((∀ w ∈ ws, Nm w) ∧ ws.Nodup) ∧ ws.length = n) ∧ den_l_words [dr s k, .pu (.int (n : Nat))] = .ok (wO ws) [some (dr s k'), none] := by
  obtain ⟨e, h1, k', ws, x, y, hw, hl, rfl⟩ := loop_ex (g := fg1_l_words) (body := fb1_l_words) (PN s (some (.pu (.int (n : Nat))))) (items := rangeD 0 n) (j := 0) (e0 := [some (dr s k), some (.pu (.int (n : Nat))), some (wO []), none, none, none])
    (fun i x e hx p => words_turn s _ (0 + i) (by have := (List.getElem?_eq_some_iff.mp hx).1; simp at this; omega) x e p)
    ⟨k, [], none, none, ⟨by simp, List.nodup_nil⟩, rfl, rfl⟩
  have h2 : (n : Int) ≤ 100000 ∧ n ≤ 100000 := by omega
  simp at hl
  simp [wO] at h1
  exact ⟨ws, k', ⟨hw, hl⟩, by simp [den_l_words, body_l_words, h1, h2, wO]⟩
def tab : List (Str × Str) := [(s_set_w, s_rn), (s_copy, s_ww), (s_mix, s_rrr), (s_push, s_r), (s_pop, s_r), (s_room, s_k), (s_store, s_wkr), (s_load, s_rwk), (s_call, s_f), (s_ret_w, s__empty), (s_go, s_t), (s_if_w, s_t), (s_out, s_r), (s_throw, s__empty), (s_resume, s__empty)]
theorem shape_ok (p : Str × Str) (h : p ∈ tab) : den_l_shape [.pu (.str p.1)] = .ok (.pu (.str p.2)) [none] := by
  simp [tab] at h
  rcases h with rfl | rfl | rfl | rfl | rfl | rfl | rfl | rfl | rfl | rfl | rfl | rfl | rfl | rfl | rfl <;> simp [den_l_shape, body_l_shape, putKO, keyD, dKey, getD2]
end Gd

namespace Gd
open PySem L2 Ws
/-! ### what stands behind a first word -/
def wkO (ws : List Str) : O := .pu (.lst (ws.map .str))
theorem r_at {r : Int} (h : 0 ≤ r ∧ r < 8) : ∃ (c : Nat) (q : Str), isR q ∧ atI s_abcdefgh.cps.toList r = some c ∧ (⟨#[c]⟩ : Str) = q := by
  rcases in8 h with rfl | rfl | rfl | rfl | rfl | rfl | rfl | rfl
  · exact ⟨97, s_a, by simp [isR], by decide +kernel, by decide +kernel⟩
  · exact ⟨98, s_b, by simp [isR], by decide +kernel, by decide +kernel⟩
  · exact ⟨99, s_c, by simp [isR], by decide +kernel, by decide +kernel⟩
  · exact ⟨100, s_d, by simp [isR], by decide +kernel, by decide +kernel⟩
  · exact ⟨101, s_e, by simp [isR], by decide +kernel, by decide +kernel⟩
  · exact ⟨102, s_f, by simp [isR], by decide +kernel, by decide +kernel⟩
  · exact ⟨103, s_g, by simp [isR], by decide +kernel, by decide +kernel⟩
  · exact ⟨104, s_h, by simp [isR], by decide +kernel, by decide +kernel⟩
theorem part_r (s : Sc) (k : Nat) (m ns : D) : ∃ (x : Str) (k' : Nat), isR x ∧ den_l_part [dr s k, .pu (.str s_r), .pu m, .pu ns] = .ok (.pu (.str x)) [some (dr s k'), none, none, none] := by
  obtain ⟨c, q, hq, e1, e2⟩ := r_at (nx_in s (k + 1) 8 (by decide))
  have hl : s_abcdefgh.length ≤ 100000 := by decide +kernel
  exact ⟨q, k + 1 + 1, hq, by simp [den_l_part, body_l_part, hl, e1, e2]⟩
def wL : List Str := [s_a, s_b, s_c, s_d, s_e, s_f, s_g, s_h, s_sp, s_sp, s_sp]
theorem part_w (s : Sc) (k : Nat) (m ns : D) : ∃ (x : Str) (k' : Nat), isW x ∧ den_l_part [dr s k, .pu (.str s_w), .pu m, .pu ns] = .ok (.pu (.str x)) [some (dr s k'), none, none, none] := by
  obtain ⟨y, hy, hm⟩ := atI_get (xs := wL.map fun w => O.pu (D.str w)) (i := nxt s (k + 1) 11) (nx_in s (k + 1) 11 (by decide)).1 (by simpa [wL] using (nx_in s (k + 1) 11 (by decide)).2)
  obtain ⟨w, hw, rfl⟩ := List.mem_map.mp hm
  simp [wL] at hy
  refine ⟨w, k + 1 + 1, ?_, by simp [den_l_part, body_l_part, hy]⟩
  simp [wL] at hw
  simp [isW, isR]
  rcases hw with h | h | h | h | h | h | h | h | h <;> simp [h]
theorem part_k (s : Sc) (k : Nat) (m ns : D) : ∃ (i : Int) (k' : Nat), (-99 ≤ i ∧ i ≤ 99) ∧ den_l_part [dr s k, .pu (.str s_k), .pu m, .pu ns] = .ok (.pu (.int i)) [some (dr s k'), none, none, none] := by
  have h1 := nx_in s (k + 1) 199 (by decide)
  have h2 := nx_in s (k + 1 + 1) 9 (by decide)
  rcases in4 (nx_in s k 4 (by decide)) with c | c | c | c
  · exact ⟨99, k + 1 + 1 + 1, by omega, by simp [den_l_part, body_l_part, c, atI, ixN]⟩
  · exact ⟨-99, k + 1 + 1 + 1, by omega, by simp [den_l_part, body_l_part, c, atI, ixN]⟩
  · exact ⟨nxt s (k + 1) 199 - 99, k + 1 + 1 + 1, by omega, by simp [den_l_part, body_l_part, c, atI, ixN]⟩
  · exact ⟨nxt s (k + 1 + 1) 9, k + 1 + 1 + 1, by omega, by simp [den_l_part, body_l_part, c, atI, ixN]⟩
theorem part_t (s : Sc) (k : Nat) (m : Int) (hm : 0 < m) (ns : D) : ∃ (i : Int) (k' : Nat), (0 ≤ i ∧ i < m) ∧ den_l_part [dr s k, .pu (.str s_t), .pu (.int m), .pu ns] = .ok (.pu (.int i)) [some (dr s k'), none, none, none] := by
  have n1 := nx s (k + 1) m hm
  have n2 := nx s (k + 1 + 1) m hm
  have h1 := nx_in s (k + 1) m hm
  have h2 := nx_in s (k + 1 + 1) m hm
  rcases in4 (nx_in s k 4 (by decide)) with c | c | c | c
  · exact ⟨0, k + 1 + 1 + 1, by omega, by simp [den_l_part, body_l_part, c, atI, ixN, n1, n2]⟩
  · exact ⟨m - 1, k + 1 + 1 + 1, by omega, by simp [den_l_part, body_l_part, c, atI, ixN, n1, n2]⟩
  · exact ⟨nxt s (k + 1) m, k + 1 + 1 + 1, by omega, by simp [den_l_part, body_l_part, c, atI, ixN, n1, n2]⟩
  · exact ⟨nxt s (k + 1 + 1) m, k + 1 + 1 + 1, by omega, by simp [den_l_part, body_l_part, c, atI, ixN, n1, n2]⟩
theorem part_f (s : Sc) (k : Nat) (m : D) (ws : List Str) (hw : ∀ w ∈ ws, Nm w) (h0 : 0 < ws.length) (h1 : ws.length ≤ 20) : ∃ (x : Str) (k' : Nat), (Nm x ∧ x ∈ ws) ∧ den_l_part [dr s k, .pu (.str s_f), .pu m, wkO ws] = .ok (.pu (.str x)) [some (dr s k'), none, none, none] := by
  have hm : (0 : Int) < ws.length := by omega
  have n1 := nx s (k + 1) ws.length hm
  have i1 := nx_in s (k + 1) ws.length hm
  obtain ⟨y, hy, hym⟩ := atI_get (xs := ws.map (O.pu ∘ D.str)) (i := nxt s (k + 1) ws.length) i1.1 (by simpa using i1.2)
  obtain ⟨w, hwm, rfl⟩ := List.mem_map.mp hym
  exact ⟨w, k + 1 + 1, ⟨hw w hwm, hwm⟩, by simp [den_l_part, body_l_part, wkO, n1, hy]⟩
end Gd

namespace Gd
open PySem L2 Ws
def sg_n : Str := ⟨#[110]⟩
@[simp] theorem kc_sg_n : code sg_n = 111 := by decide +kernel
theorem part_n (s : Sc) (k : Nat) (m ns : D) : ∃ (i : Int) (k' : Nat), (-10000000000000 < i ∧ i < 10000000000000) ∧ den_l_part [dr s k, .pu (.str sg_n), .pu m, .pu ns] = .ok (.pu (.int i)) [some (dr s k'), none, none, none] := by
  let f : Int := nxt s (k + 1) 1000000 * 1000000 + nxt s (k + 1 + 1) 1000000
  have i1 := nx_in s (k + 1) 1000000 (by decide)
  have i2 := nx_in s (k + 1 + 1) 1000000 (by decide)
  have g1 : (nxt s (k + 1) 1000000).natAbs < 18446744073709551616 := by omega
  obtain ⟨a, qa, ha⟩ : ∃ a : Int, (-10000000000000 < a ∧ a < 10000000000000) ∧ atI [O.pu (D.int 1000000000000), O.pu (D.int (-1000000000000))] (f.fmod 2) = some (.pu (.int a)) := by
    obtain ⟨y, h1, h2⟩ := atI_get (xs := [O.pu (D.int 1000000000000), O.pu (D.int (-1000000000000))]) (i := f.fmod 2) (fmod_in f (by decide)).1 (fmod_in f (by decide)).2
    simp at h2
    rcases h2 with rfl | rfl <;> exact ⟨_, by decide, h1⟩
  obtain ⟨b, qb, hb⟩ : ∃ b : Int, (-10000000000000 < b ∧ b < 10000000000000) ∧ atI [O.pu (D.int f), O.pu (D.int (0 - f))] ((f.fdiv 2).fmod 2) = some (.pu (.int b)) := by
    obtain ⟨y, h1, h2⟩ := atI_get (xs := [O.pu (D.int f), O.pu (D.int (0 - f))]) (i := (f.fdiv 2).fmod 2) (fmod_in _ (by decide)).1 (fmod_in _ (by decide)).2
    simp at h2
    rcases h2 with rfl | rfl <;> exact ⟨_, by omega, h1⟩
  have i3 := nx_in s (k + 1 + 1 + 1) 20 (by decide)
  simp [f] at ha hb
  rcases in4 (nx_in s k 4 (by decide)) with c | c | c | c
  · exact ⟨0, k + 1 + 1 + 1 + 1, by decide, by simp [den_l_part, body_l_part, c, ha, hb]⟩
  · exact ⟨nxt s (k + 1 + 1 + 1) 20 - 9, k + 1 + 1 + 1 + 1, by omega, by simp [den_l_part, body_l_part, c, ha, hb]⟩
  · exact ⟨a, k + 1 + 1 + 1 + 1, qa, by simp [den_l_part, body_l_part, c, ha, hb]⟩
  · exact ⟨b, k + 1 + 1 + 1 + 1, qb, by simp [den_l_part, body_l_part, c, ha, hb]⟩
end Gd

namespace Gd
open PySem L2 Ws
/-- what a drawn instruction's parts are -/
def CodeW (s : Sc) (k : Nat) (m : Int) (ws : List Str) (w sh : Str) : Prop := ∀ (A B C z : Option O), ∃ (i : Ins) (ps : List D) (k' : Nat) (z' : Option O), (i.ok m ∧ i.cl ws) ∧ i.d = .tup (.str w :: ps) ∧
  loopC [7] cg1_l_code cYes ce1_l_code (signsD sh) [] [some (dr s k), some (.pu (.int m)), some (wkO ws), A, B, C, some (.pu (.str w)), z] = .ok (ps.map .pu) [some (dr s k'), some (.pu (.int m)), some (wkO ws), A, B, C, some (.pu (.str w)), z']
theorem sg_rn : signsD s_rn = [.str s_r, .str sg_n] := by
  have h : s_rn.cps.toList = [114, 110] := by decide +kernel
  simp [signsD, h]
  repeat' apply And.intro
  all_goals decide +kernel
theorem sg_ww : signsD s_ww = [.str s_w, .str s_w] := by
  have h : s_ww.cps.toList = [119, 119] := by decide +kernel
  simp [signsD, h]
  repeat' apply And.intro
  all_goals decide +kernel
theorem sg_rrr : signsD s_rrr = [.str s_r, .str s_r, .str s_r] := by
  have h : s_rrr.cps.toList = [114, 114, 114] := by decide +kernel
  simp [signsD, h]
  repeat' apply And.intro
  all_goals decide +kernel
theorem sg_r : signsD s_r = [.str s_r] := by
  have h : s_r.cps.toList = [114] := by decide +kernel
  simp [signsD, h]
  repeat' apply And.intro
  all_goals decide +kernel
theorem sg_k : signsD s_k = [.str s_k] := by
  have h : s_k.cps.toList = [107] := by decide +kernel
  simp [signsD, h]
  repeat' apply And.intro
  all_goals decide +kernel
theorem sg_wkr : signsD s_wkr = [.str s_w, .str s_k, .str s_r] := by
  have h : s_wkr.cps.toList = [119, 107, 114] := by decide +kernel
  simp [signsD, h]
  repeat' apply And.intro
  all_goals decide +kernel
theorem sg_rwk : signsD s_rwk = [.str s_r, .str s_w, .str s_k] := by
  have h : s_rwk.cps.toList = [114, 119, 107] := by decide +kernel
  simp [signsD, h]
  repeat' apply And.intro
  all_goals decide +kernel
theorem sg_f : signsD s_f = [.str s_f] := by
  have h : s_f.cps.toList = [102] := by decide +kernel
  simp [signsD, h]
  repeat' apply And.intro
  all_goals decide +kernel
theorem sg__empty : signsD s__empty = [] := by
  have h : s__empty.cps.toList = [] := by decide +kernel
  simp [signsD, h]
theorem sg_t : signsD s_t = [.str s_t] := by
  have h : s_t.cps.toList = [116] := by decide +kernel
  simp [signsD, h]
  repeat' apply And.intro
  all_goals decide +kernel
theorem cw_set (s : Sc) (k : Nat) (m : Int) (hm : 0 < m) (ws : List Str) (hw : ∀ w ∈ ws, Nm w) (h0 : 0 < ws.length) (h1 : ws.length ≤ 20) : CodeW s k m ws s_set_w s_rn := by
  intro A B C z
  obtain ⟨x, k0, g0, e0⟩ := part_r s k (.int m) (.lst (ws.map .str))
  obtain ⟨n, k1, g1, e1⟩ := part_n s k0 (.int m) (.lst (ws.map .str))
  exact ⟨.set x n, [.str x, .int n], k1, none, ⟨⟨g0, g1⟩, trivial⟩, rfl, by simp [wkO] at *; simp [sg_rn, loopC, cYes, wkO, e0, e1]⟩
theorem cw_copy (s : Sc) (k : Nat) (m : Int) (hm : 0 < m) (ws : List Str) (hw : ∀ w ∈ ws, Nm w) (h0 : 0 < ws.length) (h1 : ws.length ≤ 20) : CodeW s k m ws s_copy s_ww := by
  intro A B C z
  obtain ⟨u, k0, g0, e0⟩ := part_w s k (.int m) (.lst (ws.map .str))
  obtain ⟨v, k1, g1, e1⟩ := part_w s k0 (.int m) (.lst (ws.map .str))
  exact ⟨.copy u v, [.str u, .str v], k1, none, ⟨⟨g0, g1⟩, trivial⟩, rfl, by simp [wkO] at *; simp [sg_ww, loopC, cYes, wkO, e0, e1]⟩
theorem cw_mix (s : Sc) (k : Nat) (m : Int) (hm : 0 < m) (ws : List Str) (hw : ∀ w ∈ ws, Nm w) (h0 : 0 < ws.length) (h1 : ws.length ≤ 20) : CodeW s k m ws s_mix s_rrr := by
  intro A B C z
  obtain ⟨x, k0, g0, e0⟩ := part_r s k (.int m) (.lst (ws.map .str))
  obtain ⟨y, k1, g1, e1⟩ := part_r s k0 (.int m) (.lst (ws.map .str))
  obtain ⟨z, k2, g2, e2⟩ := part_r s k1 (.int m) (.lst (ws.map .str))
  exact ⟨.mix x y z, [.str x, .str y, .str z], k2, none, ⟨⟨g0, g1, g2⟩, trivial⟩, rfl, by simp [wkO] at *; simp [sg_rrr, loopC, cYes, wkO, e0, e1, e2]⟩
theorem cw_push (s : Sc) (k : Nat) (m : Int) (hm : 0 < m) (ws : List Str) (hw : ∀ w ∈ ws, Nm w) (h0 : 0 < ws.length) (h1 : ws.length ≤ 20) : CodeW s k m ws s_push s_r := by
  intro A B C z
  obtain ⟨x, k0, g0, e0⟩ := part_r s k (.int m) (.lst (ws.map .str))
  exact ⟨.push x, [.str x], k0, none, ⟨g0, trivial⟩, rfl, by simp [wkO] at *; simp [sg_r, loopC, cYes, wkO, e0]⟩
theorem cw_pop (s : Sc) (k : Nat) (m : Int) (hm : 0 < m) (ws : List Str) (hw : ∀ w ∈ ws, Nm w) (h0 : 0 < ws.length) (h1 : ws.length ≤ 20) : CodeW s k m ws s_pop s_r := by
  intro A B C z
  obtain ⟨x, k0, g0, e0⟩ := part_r s k (.int m) (.lst (ws.map .str))
  exact ⟨.pop x, [.str x], k0, none, ⟨g0, trivial⟩, rfl, by simp [wkO] at *; simp [sg_r, loopC, cYes, wkO, e0]⟩
theorem cw_room (s : Sc) (k : Nat) (m : Int) (hm : 0 < m) (ws : List Str) (hw : ∀ w ∈ ws, Nm w) (h0 : 0 < ws.length) (h1 : ws.length ≤ 20) : CodeW s k m ws s_room s_k := by
  intro A B C z
  obtain ⟨i, k0, g0, e0⟩ := part_k s k (.int m) (.lst (ws.map .str))
  exact ⟨.room i, [.int i], k0, none, ⟨g0, trivial⟩, rfl, by simp [wkO] at *; simp [sg_k, loopC, cYes, wkO, e0]⟩
theorem cw_store (s : Sc) (k : Nat) (m : Int) (hm : 0 < m) (ws : List Str) (hw : ∀ w ∈ ws, Nm w) (h0 : 0 < ws.length) (h1 : ws.length ≤ 20) : CodeW s k m ws s_store s_wkr := by
  intro A B C z
  obtain ⟨u, k0, g0, e0⟩ := part_w s k (.int m) (.lst (ws.map .str))
  obtain ⟨i, k1, g1, e1⟩ := part_k s k0 (.int m) (.lst (ws.map .str))
  obtain ⟨x, k2, g2, e2⟩ := part_r s k1 (.int m) (.lst (ws.map .str))
  exact ⟨.store u i x, [.str u, .int i, .str x], k2, none, ⟨⟨g0, g1, g2⟩, trivial⟩, rfl, by simp [wkO] at *; simp [sg_wkr, loopC, cYes, wkO, e0, e1, e2]⟩
theorem cw_load (s : Sc) (k : Nat) (m : Int) (hm : 0 < m) (ws : List Str) (hw : ∀ w ∈ ws, Nm w) (h0 : 0 < ws.length) (h1 : ws.length ≤ 20) : CodeW s k m ws s_load s_rwk := by
  intro A B C z
  obtain ⟨x, k0, g0, e0⟩ := part_r s k (.int m) (.lst (ws.map .str))
  obtain ⟨u, k1, g1, e1⟩ := part_w s k0 (.int m) (.lst (ws.map .str))
  obtain ⟨i, k2, g2, e2⟩ := part_k s k1 (.int m) (.lst (ws.map .str))
  exact ⟨.load x u i, [.str x, .str u, .int i], k2, none, ⟨⟨g0, g1, g2⟩, trivial⟩, rfl, by simp [wkO] at *; simp [sg_rwk, loopC, cYes, wkO, e0, e1, e2]⟩
theorem cw_call (s : Sc) (k : Nat) (m : Int) (hm : 0 < m) (ws : List Str) (hw : ∀ w ∈ ws, Nm w) (h0 : 0 < ws.length) (h1 : ws.length ≤ 20) : CodeW s k m ws s_call s_f := by
  intro A B C z
  obtain ⟨f, k0, g0, e0⟩ := part_f s k (.int m) ws hw h0 h1
  exact ⟨.call f, [.str f], k0, none, ⟨g0.1, g0.2⟩, rfl, by simp [wkO] at *; simp [sg_f, loopC, cYes, wkO, e0]⟩
theorem cw_ret (s : Sc) (k : Nat) (m : Int) (hm : 0 < m) (ws : List Str) (hw : ∀ w ∈ ws, Nm w) (h0 : 0 < ws.length) (h1 : ws.length ≤ 20) : CodeW s k m ws s_ret_w s__empty := by
  intro A B C z
  exact ⟨.ret, [], k, z, ⟨trivial, trivial⟩, rfl, by simp [wkO] at *; simp [sg__empty, loopC, cYes, wkO]⟩
theorem cw_go (s : Sc) (k : Nat) (m : Int) (hm : 0 < m) (ws : List Str) (hw : ∀ w ∈ ws, Nm w) (h0 : 0 < ws.length) (h1 : ws.length ≤ 20) : CodeW s k m ws s_go s_t := by
  intro A B C z
  obtain ⟨t, k0, g0, e0⟩ := part_t s k m hm (.lst (ws.map .str))
  exact ⟨.go t, [.int t], k0, none, ⟨g0, trivial⟩, rfl, by simp [wkO] at *; simp [sg_t, loopC, cYes, wkO, e0]⟩
theorem cw_iff (s : Sc) (k : Nat) (m : Int) (hm : 0 < m) (ws : List Str) (hw : ∀ w ∈ ws, Nm w) (h0 : 0 < ws.length) (h1 : ws.length ≤ 20) : CodeW s k m ws s_if_w s_t := by
  intro A B C z
  obtain ⟨t, k0, g0, e0⟩ := part_t s k m hm (.lst (ws.map .str))
  exact ⟨.iff t, [.int t], k0, none, ⟨g0, trivial⟩, rfl, by simp [wkO] at *; simp [sg_t, loopC, cYes, wkO, e0]⟩
theorem cw_out (s : Sc) (k : Nat) (m : Int) (hm : 0 < m) (ws : List Str) (hw : ∀ w ∈ ws, Nm w) (h0 : 0 < ws.length) (h1 : ws.length ≤ 20) : CodeW s k m ws s_out s_r := by
  intro A B C z
  obtain ⟨x, k0, g0, e0⟩ := part_r s k (.int m) (.lst (ws.map .str))
  exact ⟨.out x, [.str x], k0, none, ⟨g0, trivial⟩, rfl, by simp [wkO] at *; simp [sg_r, loopC, cYes, wkO, e0]⟩
theorem cw_throw (s : Sc) (k : Nat) (m : Int) (hm : 0 < m) (ws : List Str) (hw : ∀ w ∈ ws, Nm w) (h0 : 0 < ws.length) (h1 : ws.length ≤ 20) : CodeW s k m ws s_throw s__empty := by
  intro A B C z
  exact ⟨.throw, [], k, z, ⟨trivial, trivial⟩, rfl, by simp [wkO] at *; simp [sg__empty, loopC, cYes, wkO]⟩
theorem cw_resume (s : Sc) (k : Nat) (m : Int) (hm : 0 < m) (ws : List Str) (hw : ∀ w ∈ ws, Nm w) (h0 : 0 < ws.length) (h1 : ws.length ≤ 20) : CodeW s k m ws s_resume s__empty := by
  intro A B C z
  exact ⟨.resume, [], k, z, ⟨trivial, trivial⟩, rfl, by simp [wkO] at *; simp [sg__empty, loopC, cYes, wkO]⟩
end Gd

namespace Gd
open PySem L2 Ws
def wds14 : List Str := [s_set_w, s_copy, s_mix, s_push, s_pop, s_room, s_store, s_load, s_call, s_ret_w, s_go, s_if_w, s_out, s_throw]
theorem cw_all (s : Sc) (k : Nat) (m : Int) (hm : 0 < m) (ws : List Str) (hw : ∀ w ∈ ws, Nm w) (h0 : 0 < ws.length) (h1 : ws.length ≤ 20) : ∀ p ∈ tab, CodeW s k m ws p.1 p.2 := by
  intro p hp
  simp [tab] at hp
  rcases hp with rfl | rfl | rfl | rfl | rfl | rfl | rfl | rfl | rfl | rfl | rfl | rfl | rfl | rfl | rfl
  · exact cw_set s k m hm ws hw h0 h1
  · exact cw_copy s k m hm ws hw h0 h1
  · exact cw_mix s k m hm ws hw h0 h1
  · exact cw_push s k m hm ws hw h0 h1
  · exact cw_pop s k m hm ws hw h0 h1
  · exact cw_room s k m hm ws hw h0 h1
  · exact cw_store s k m hm ws hw h0 h1
  · exact cw_load s k m hm ws hw h0 h1
  · exact cw_call s k m hm ws hw h0 h1
  · exact cw_ret s k m hm ws hw h0 h1
  · exact cw_go s k m hm ws hw h0 h1
  · exact cw_iff s k m hm ws hw h0 h1
  · exact cw_out s k m hm ws hw h0 h1
  · exact cw_throw s k m hm ws hw h0 h1
  · exact cw_resume s k m hm ws hw h0 h1
def wdsO (f : Bool) : Option O := some (if f then .pu (.lst (wds14.map .str)) else .li (wds14.map fun w => .pu (.str w)))
def insO (is : List Ins) : O := .li (is.map fun i => .pu i.d)
@[simp] theorem toD_insO (is : List Ins) : (insO is).toD = .lst (is.map Ins.d) := by simp [insO]
def PCd (s : Sc) (m : Int) (ws : List Str) (j : Nat) (e : Ws.Env) : Prop := ∃ (k : Nat) (f : Bool) (is : List Ins) (a b c : Option O), (∀ i ∈ is, i.ok m ∧ i.cl ws) ∧ is.length = j ∧ e = [some (dr s k), some (.pu (.int m)), some (wkO ws), wdsO f, some (insO is), a, b, c]
theorem code_turn (s : Sc) (m : Int) (hm : 0 < m) (ws : List Str) (hw : ∀ w ∈ ws, Nm w) (h0 : 0 < ws.length) (h1 : ws.length ≤ 20) (j : Nat) (hj : j < 100000) (x : D) (e : Ws.Env) (h : PCd s m ws j e) :
    ∃ e1, fg1_l_code (.pu x) e = some e1 ∧ NxP (PCd s m ws (j + 1)) (fb1_l_code e1) := by
  obtain ⟨k, f, is, a, b, c, hi, hl, rfl⟩ := h
  refine ⟨_, rfl, ?_⟩
  obtain ⟨y, hy, hm1⟩ := atI_get (xs := tab.map fun p => O.pu (D.str p.1)) (i := nxt s k 15) (nx_in s k 15 (by decide)).1 (by simpa [tab] using (nx_in s k 15 (by decide)).2)
  obtain ⟨p, hp, rfl⟩ := List.mem_map.mp hm1
  have hsh := shape_ok p hp
  obtain ⟨i, ps, k', z', hio, hd, hc⟩ := cw_all s (k + 1) m hm ws hw h0 h1 p hp (wdsO true) (some (insO is)) (some (.pu x)) c
  have l2 : is.length < 100000 := by omega
  have l3 : 1 + ps.length ≤ 100000 := by
    cases i <;> simp [Ins.d] at hd <;> obtain ⟨_, rfl⟩ := hd <;> simp
  have l4 : ps.length ≤ 100000 := by omega
  simp [tab] at hy
  simp [wdsO, wds14, insO] at hc
  refine ⟨_, by cases f <;> (simp [fb1_l_code, wdsO, wds14, hy, hsh, hc, l2, l3, l4, insO]; try rfl), ?_⟩
  refine ⟨k', true, is ++ [i], some (.pu x), some (.pu (.str p.1)), none, fun v hv => ?_, by simp [hl], by simp [insO, wdsO, wds14, hd]⟩
  rcases List.mem_append.mp hv with h | h
  · exact hi v h
  · simp at h; subst h; exact hio
theorem code_ok (s : Sc) (k n : Nat) (hn : 0 < n) (hn2 : n ≤ 100000) (ws : List Str) (hw : ∀ w ∈ ws, Nm w) (h0 : 0 < ws.length) (h1 : ws.length ≤ 20) :
    ∃ (is : List Ins) (k' : Nat), ((∀ i ∈ is, i.ok n ∧ i.cl ws) ∧ is.length = n) ∧ den_l_code [dr s k, .pu (.int n), wkO ws] = .ok (insO is) [some (dr s k'), none, none] := by
  obtain ⟨e, f1, k', f, is, a, b, c, hi, hl, rfl⟩ := loop_ex (g := fg1_l_code) (body := fb1_l_code) (PCd s n ws) (items := rangeD 0 n) (j := 0)
    (e0 := [some (dr s k), some (.pu (.int n)), some (wkO ws), wdsO false, some (insO []), none, none, none])
    (fun i x e hx p => code_turn s n (by omega) ws hw h0 h1 (0 + i) (by have := (List.getElem?_eq_some_iff.mp hx).1; simp at this; omega) x e p)
    ⟨k, false, [], none, none, none, by simp, rfl, rfl⟩
  simp at hl
  have g1 : (n : Int) ≤ 100000 := by omega
  simp [wdsO, wds14, insO] at f1
  exact ⟨is, k', ⟨hi, hl⟩, by simp [den_l_code, body_l_code, f1, g1, hn2, insO]⟩
def ldsO (ls : List Ld) : O := .li (ls.map fun l => .pu l.d)
@[simp] theorem toD_ldsO (ls : List Ld) : (ldsO ls).toD = .lst (ls.map Ld.d) := by simp [ldsO]
def PLd (s : Sc) (m : Int) (c0 : Option O) (j : Nat) (e : Ws.Env) : Prop := ∃ (k : Nat) (ls : List Ld) (a b : Option O), (∀ l ∈ ls, l.ok m) ∧ ls.length = j ∧ e = [some (dr s k), some (.pu (.int m)), c0, some (ldsO ls), a, b]
theorem lands_turn (s : Sc) (m : Int) (hm : 0 < m) (c0 : Option O) (j : Nat) (hj : j < 100000) (x : D) (e : Ws.Env) (h : PLd s m c0 j e) :
    ∃ e1, fg1_l_landings (.pu x) e = some e1 ∧ NxP (PLd s m c0 (j + 1)) (fb1_l_landings e1) := by
  obtain ⟨k, ls, a, b, hi, hl, rfl⟩ := h
  refine ⟨_, rfl, ?_⟩
  have n1 := nx s k m hm
  have i1 := nx_in s k m hm
  have hp : 0 < m - nxt s k m := by omega
  have n2 := nx s (k + 1) (m - nxt s k m) hp
  have i2 := nx_in s (k + 1) (m - nxt s k m) hp
  have n3 := nx s (k + 1 + 1) m hm
  have i3 := nx_in s (k + 1 + 1) m hm
  have l2 : ls.length < 100000 := by omega
  refine ⟨_, by simp [fb1_l_landings, n1, n2, n3]; simp [ldsO, l2]; rfl, ?_⟩
  refine ⟨k + 1 + 1 + 1, ls ++ [⟨nxt s k m, nxt s k m + 1 + nxt s (k + 1) (m - nxt s k m), nxt s (k + 1 + 1) m⟩], _, _, fun v hv => ?_, by simp [hl], by simp [ldsO, Ld.d]; exact ⟨rfl, rfl⟩⟩
  rcases List.mem_append.mp hv with h | h
  · exact hi v h
  · simp at h; subst h; refine ⟨i1.1, ?_, ?_, i3.1, i3.2⟩ <;> dsimp only <;> omega
theorem lands_ok (s : Sc) (k n : Nat) (hn : 0 < n) (q : Nat) (hq : q ≤ 100) :
    ∃ (ls : List Ld) (k' : Nat), ((∀ l ∈ ls, l.ok n) ∧ ls.length ≤ q) ∧ den_l_landings [dr s k, .pu (.int n), .pu (.int q)] = .ok (ldsO ls) [some (dr s k'), none, none] := by
  have hp : (0 : Int) < q + 1 := by omega
  have n1 := nx s k (q + 1) hp
  have i1 := nx_in s k (q + 1) hp
  obtain ⟨e, f1, k', ls, a, b, hi, hl, rfl⟩ := loop_ex (g := fg1_l_landings) (body := fb1_l_landings) (PLd s n (some (.pu (.int q)))) (items := rangeD 0 (nxt s k (q + 1)).toNat) (j := 0)
    (e0 := [some (dr s (k + 1)), some (.pu (.int n)), some (.pu (.int q)), some (ldsO []), none, none])
    (fun i x e hx p => lands_turn s n (by omega) _ (0 + i) (by have := (List.getElem?_eq_some_iff.mp hx).1; simp at this; omega) x e p)
    ⟨k + 1, [], none, none, by simp, rfl, rfl⟩
  simp at hl
  have g1 : -100000 ≤ nxt s k (q + 1) ∧ nxt s k (q + 1) ≤ 100000 := by omega
  simp [ldsO] at f1
  exact ⟨ls, k', ⟨hi, by omega⟩, by simp [den_l_landings, body_l_landings, n1, f1, g1, ldsO]⟩
end Gd

namespace Gd
open PySem L2 Ws
/-! ### drawn programs -/
def Tl.t (t : Tl) : O := .tu [.pu (.str t.nm), insO t.is, ldsO t.ls]
@[simp] theorem toD_tlt (t : Tl) : t.t.toD = t.d := by simp [Tl.t, Tl.d]
def tlsO (ts : List Tl) : O := .li (ts.map Tl.t)
@[simp] theorem toD_tlsO (ts : List Tl) : (tlsO ts).toD = .lst (ts.map Tl.d) := by simp [tlsO]
def PFs (s : Sc) (a b : Option O) (size : Nat) (ws : List Str) (ys : List Str) (e : Ws.Env) : Prop := ∃ (k : Nat) (ts : List Tl) (x y : Option O), (∀ t ∈ ts, t.ok size 3 ∧ ∀ i ∈ t.is, i.cl ws) ∧ ts.map (·.nm) = ys ∧ e = [some (dr s k), a, b, some (wkO ws), some (tlsO ts), x, y]
theorem functions_turn (s : Sc) (a : Option O) (size : Nat) (h0 : 0 < size) (h1 : size ≤ 1000) (ws : List Str) (hw : ∀ w ∈ ws, Nm w) (hl0 : 0 < ws.length) (hl : ws.length ≤ 20) (ys : List Str) (w : Str) (hp : ys ++ [w] <+: ws) (e : Ws.Env) (h : PFs s a (some (.pu (.int size))) size ws ys e) :
    ∃ e1, fg1_l_functions (.pu (.str w)) e = some e1 ∧ NxP (PFs s a (some (.pu (.int size))) size ws (ys ++ [w])) (fb1_l_functions e1) := by
  obtain ⟨k, ts, x, y, ht, hn, rfl⟩ := h
  refine ⟨_, rfl, ?_⟩
  have n1 := nx s k size (by omega)
  have i1 := nx_in s k size (by omega)
  obtain ⟨n, hn2⟩ : ∃ n : Nat, 1 + nxt s k size = n := ⟨(1 + nxt s k size).toNat, by omega⟩
  obtain ⟨is, k2, ⟨hi, hil⟩, e2⟩ := code_ok s (k + 1) n (by omega) (by omega) ws hw hl0 hl
  obtain ⟨ls, k3, ⟨hld, hll⟩, e3⟩ := lands_ok s k2 n (by omega) 3 (by omega)
  have e3 : den_l_landings [dr s k2, .pu (.int n), .pu (.int 3)] = _ := e3
  have hwm : w ∈ ws := hp.subset (by simp)
  have hlen : ts.length < 100000 := by
    have := congrArg List.length hn
    have := hp.length_le
    simp at *
    omega
  simp [wkO] at e2
  refine ⟨[some (dr s k3), a, some (.pu (.int size)), some (wkO ws), some (tlsO (ts ++ [⟨w, is, ls⟩])), some (.pu (.str w)), some (.pu (.int n))], by simp [fb1_l_functions, n1, hn2, e2, e3, tlsO, wkO, hlen, Tl.t, insO, ldsO], k3, ts ++ [⟨w, is, ls⟩], _, _, ?_, by simp [hn], rfl⟩
  intro t ht2
  rcases List.mem_append.mp ht2 with h | h
  · exact ht t h
  · simp at h
    subst h
    exact ⟨⟨hw w hwm, fun i hi2 => by rw [hil]; exact (hi i hi2).1, fun l hl2 => by rw [hil]; exact hld l hl2, by show 1 ≤ is.length; omega, by show is.length ≤ size; omega, hll⟩, fun i hi2 => (hi i hi2).2⟩
theorem functions_ok (s : Sc) (k most size : Nat) (hm : 0 < most) (hm2 : most ≤ 12) (h0 : 0 < size) (h1 : size ≤ 1000) :
    ∃ (ts : List Tl) (k' : Nat), (PgOk size 3 ts ∧ ts.length ≤ most) ∧ den_l_functions [dr s k, .pu (.int most), .pu (.int size)] = .ok (tlsO ts) [some (dr s k'), none, none] := by
  have n1 := nx s k most (by omega)
  have i1 := nx_in s k most (by omega)
  obtain ⟨n, hn⟩ : ∃ n : Nat, 1 + nxt s k most = n := ⟨(1 + nxt s k most).toNat, by omega⟩
  obtain ⟨ws, k1, ⟨⟨hw, hnd⟩, hl⟩, e1⟩ := words_ok s (k + 1) n (by omega)
  obtain ⟨e, f1, k', ts, x, y, ht, hnm, rfl⟩ := loop_map (g := fg1_l_functions) (body := fb1_l_functions) (h := D.str) (PFs s (some (.pu (.int most))) (some (.pu (.int size))) size ws) (xs := ws)
    (e0 := [some (dr s k1), some (.pu (.int most)), some (.pu (.int size)), some (wkO ws), some (tlsO []), none, none])
    (fun ys w e hp p => functions_turn s _ size h0 h1 ws hw (by omega) (by omega) ys w hp e p) ⟨k1, [], none, none, by simp, rfl, rfl⟩
  have hlen : ts.length = n := by have := congrArg List.length hnm; simpa [hl] using this
  simp [wO] at e1
  simp [tlsO, wkO] at f1
  refine ⟨ts, k', ⟨⟨fun t h => (ht t h).1, fun t h => by rw [hnm]; exact (ht t h).2, by rw [hnm]; exact hnd, by omega, by omega⟩, by omega⟩, by simp [den_l_functions, body_l_functions, n1, hn, e1, f1, tlsO]⟩
theorem lc_program (ts : List Tl) (mi ml : Nat) (h : ∀ t ∈ ts, t.ok mi ml) (hm : mi ≤ 1000) (hl : ml ≤ 100000) (hn : ts.length ≤ 100000) (a : Option O) :
    ∃ e', loopC [1, 2, 3] cg1_l_program cYes ce1_l_program (ts.map Tl.d) [] [a, none, none, none] = .ok (ts.map Tl.o) e' ∧ wipeE e' [1, 2, 3] = [a, none, none, none] :=
  loopC_mapK (own := [1, 2, 3]) (g := cg1_l_program) (elt := ce1_l_program) (h := Tl.d) (f := Tl.o) rfl hn fun t ht => by
    have := (h t ht).init hm hl false false
    simp at this
    refine ⟨_, rfl, rfl, ?_⟩
    simp [ce1_l_program, this]
theorem program_ok (ts : List Tl) (mi ml : Nat) (h : PgOk mi ml ts) (hm : mi ≤ 1000) (hl : ml ≤ 100000) : den_l_program [.pu (.lst (ts.map Tl.d))] = .ok (pgO ts) [none] := by
  have := h.l2
  obtain ⟨e', a, b⟩ := lc_program ts mi ml h.f hm hl (by omega) (some (.pu (.lst (ts.map Tl.d))))
  have p := prog_init mi ml ts h hm (.li (ts.map Tl.o)) (by simp)
  simp at a b
  simp [den_l_program, body_l_program, a, b, p]
end Gd

namespace J05
open PySem L2 Ws Gd
theorem row_eq : den_l_row = den_trow_of := rfl
theorem lrow_ok {ds : List D} (h : ∀ d ∈ ds, Tx d) (hl : ds.length ≤ 4) : den_l_row [.pu (.tup ds)] = .ok (.pu (.str (rowS ds))) [none] := by rw [row_eq]; exact trow_ok h hl
theorem lrow_ok2 {ds : List D} (h : ∀ d ∈ ds, Tx d) (hl : ds.length ≤ 4) : den_l_row [.li (ds.map .pu)] = .ok (.pu (.str (rowS ds))) [none] := by
  obtain ⟨e', a, b⟩ := loopC_mapK (own := [1]) (g := cg1_l_row) (elt := ce1_l_row) (h := id) (f := fun d => .pu (.str (tx d))) (e := [some (.pu (.lst ds)), none]) (xs := ds) rfl (by omega)
    (fun d hd => ⟨_, rfl, rfl, by simp [ce1_l_row, (h d hd).ok.1]⟩)
  have hj := join_row h hl
  have hz := (rowS_len h hl).2
  have hz2 : (Str.join s__x20 (ds.map tx)).length + s__x0a.length ≤ 100000 := by
    have e2 : s__x0a.length = 1 := rfl
    omega
  simp at a b
  simp [den_l_row, body_l_row, a, b, hj, hz2, Function.comp_def, rowS]
def cat (xs : List Str) : List Nat := xs.flatMap fun x => x.cps.toList
theorem cat_app (xs ys : List Str) : cat (xs ++ ys) = cat xs ++ cat ys := by simp [cat]
theorem cat_one (x : Str) : cat [x] = x.cps.toList := by simp [cat]
theorem cat_len {xs : List Str} (h : ∀ x ∈ xs, x.length ≤ 61) : (cat xs).length ≤ xs.length * 61 := by
  induction xs with
  | nil => simp [cat]
  | cons x xs ih =>
    have h1 := ih fun y hy => h y (by simp [hy])
    have h2 := h x (by simp)
    have e : cat (x :: xs) = x.cps.toList ++ cat xs := by simp [cat]
    rw [e, List.length_append, List.length_cons, Nat.add_mul]
    have : x.cps.toList.length = x.length := by simp [Str.length]
    omega
theorem strlen (x : Str) : x.length = x.cps.toList.length := by simp [Str.length]
def PT1 (r c1 c2 c3 : Option O) (base : List Str) (zs : List Str) (e : Ws.Env) : Prop := ∃ (x : Str) (d f : Option O), x.cps.toList = cat (base ++ zs) ∧ e = [r, some (.pu (.str x)), c1, c2, c3, d, f]
theorem t1_turn (r c1 c2 c3 : Option O) (base : List Str) (hb : (∀ x ∈ base, x.length ≤ 61) ∧ base.length ≤ 1400) (m : Nat) (hm : m ≤ 1000) (zs : List Ins) (i : Ins) (hz : ∀ j ∈ zs ++ [i], j.ok m) (hl : zs.length < 100) (e : Ws.Env) (h : PT1 r c1 c2 c3 base (zs.map Ins.row) e) :
    ∃ e1, fg1_l_text (.pu i.d) e = some e1 ∧ NxP (PT1 r c1 c2 c3 base ((zs ++ [i]).map Ins.row)) (fb1_l_text e1) := by
  obtain ⟨x, d, f, hx, rfl⟩ := h
  refine ⟨_, rfl, ?_⟩
  have z := ins_tx i m hm (hz i (by simp))
  have h1 := lrow_ok z.1 z.2
  rw [← ins_tup] at h1
  have hc := cat_len (xs := base ++ zs.map Ins.row) (by
    intro y hy
    rcases List.mem_append.mp hy with hy | hy
    · exact hb.1 y hy
    · obtain ⟨j, hj, rfl⟩ := List.mem_map.mp hy
      have z := ins_tx j m hm (hz j (by simp [hj])); exact (rowS_len z.1 z.2).1)
  have hr := (rowS_len z.1 z.2).1
  have hxl : x.length + (rowS (parts i.d)).length ≤ 100000 := by
    rw [strlen x, hx]
    simp at hc ⊢
    omega
  refine ⟨_, by simp [fb1_l_text, h1, hxl]; (repeat (first | exact rfl | refine ⟨rfl, ?_⟩)), x ++ rowS (parts i.d), _, _, ?_, rfl⟩
  rw [app_list, hx]
  simp [cat, Ins.row]
theorem t2_turn (r c1 c2 c3 : Option O) (base : List Str) (hb : (∀ x ∈ base, x.length ≤ 61) ∧ base.length ≤ 1500) (m : Nat) (hm : m ≤ 1000) (zs : List Ld) (i : Ld) (hz : ∀ j ∈ zs ++ [i], j.ok m) (hl : zs.length < 10) (e : Ws.Env) (h : PT1 r c1 c2 c3 base (zs.map Ld.row) e) :
    ∃ e1, fg2_l_text (.pu i.d) e = some e1 ∧ NxP (PT1 r c1 c2 c3 base ((zs ++ [i]).map Ld.row)) (fb2_l_text e1) := by
  obtain ⟨x, d, f, hx, rfl⟩ := h
  refine ⟨_, rfl, ?_⟩
  have z := ld_tx i m hm (hz i (by simp))
  have h1 := lrow_ok z.1 z.2
  have hc := cat_len (xs := base ++ zs.map Ld.row) (by
    intro y hy
    rcases List.mem_append.mp hy with hy | hy
    · exact hb.1 y hy
    · obtain ⟨j, hj, rfl⟩ := List.mem_map.mp hy
      have z := ld_tx j m hm (hz j (by simp [hj])); exact (rowS_len z.1 z.2).1)
  have hr := (rowS_len z.1 z.2).1
  have hxl : x.length + (rowS (ldParts i)).length ≤ 100000 := by
    rw [strlen x, hx]
    simp at hc ⊢
    omega
  simp [ldParts] at h1 hxl
  refine ⟨_, by simp [fb2_l_text, Ld.d, h1, hxl]; (repeat (first | exact rfl | refine ⟨rfl, ?_⟩)), x ++ rowS (ldParts i), _, _, ?_, by simp [ldParts]; exact ⟨rfl, rfl⟩⟩
  rw [app_list, hx]
  simp [cat, Ld.row]
def PT3 (r : Option O) (ys : List Tl) (e : Ws.Env) : Prop := ∃ (x : Str) (a b c d f : Option O), x.cps.toList = cat (rowsOf ys) ∧ e = [r, some (.pu (.str x)), a, b, c, d, f]
theorem t3_turn (r : Option O) (ys : List Tl) (t : Tl) (ho : ∀ u ∈ ys ++ [t], u.ok 8 3) (hn : ys.length < 12) (e : Ws.Env) (h : PT3 r ys e) :
    ∃ e1, fg3_l_text (.pu t.d) e = some e1 ∧ NxP (PT3 r (ys ++ [t])) (fb3_l_text e1) := by
  obtain ⟨x, a, b, c, d, f, hx, rfl⟩ := h
  have o := ho t (by simp)
  have oi := o.i2
  have ol := o.l2
  refine ⟨_, rfl, ?_⟩
  have z := fun_tx t.nm o.n
  have h1 := lrow_ok2 z.1 z.2
  have hr := rows_len (mi := 8) (ml := 3) (by decide) (ts := ys) fun u hu => ho u (by simp [hu])
  have hc := cat_len hr
  have hl : (rowsOf ys).length ≤ 144 := by
    have : ∀ xs : List Tl, (∀ t ∈ xs, t.ok 8 3) → (rowsOf xs).length ≤ xs.length * 12 := by
      intro xs
      induction xs with
      | nil => intro _; simp [rowsOf]
      | cons t xs ih =>
        intro hx
        have h1 := ih fun u hu => hx u (by simp [hu])
        have o := hx t (by simp)
        have := o.i2
        have := o.l2
        have e : rowsOf (t :: xs) = t.rows ++ rowsOf xs := by simp [rowsOf]
        rw [e, List.length_append, List.length_cons]
        simp [Tl.rows]
        omega
    have := this ys fun u hu => ho u (by simp [hu])
    omega
  have hr1 := (rowS_len z.1 z.2).1
  have hxl : x.length + (rowS (funParts t.nm)).length ≤ 100000 := by
    rw [strlen x, hx]; omega
  let b1 := rowsOf ys ++ [rowS (funParts t.nm)]
  have hb1 : (∀ x ∈ b1, x.length ≤ 61) ∧ b1.length ≤ 1400 := by
    refine ⟨fun y hy => ?_, by simp [b1]; omega⟩
    rcases List.mem_append.mp hy with hy | hy
    · exact hr y hy
    · simp at hy; subst hy; exact hr1
  obtain ⟨e2, f2, x2, d2, g2, hx2, rfl⟩ := loop_map (g := fg1_l_text) (body := fb1_l_text) (h := Ins.d) (xs := t.is) (fun zs => PT1 r (some (.pu (.str t.nm))) (some (.pu (.lst (t.is.map Ins.d)))) (some (.pu (.lst (t.ls.map Ld.d)))) b1 (zs.map Ins.row))
    (fun zs i e hp p => t1_turn _ _ _ _ _ hb1 t.is.length (by omega) zs i (fun j hj => o.i j (hp.subset hj)) (by have := hp.length_le; simp at this; omega) e p) (e0 := [r, some (.pu (.str (x ++ rowS (funParts t.nm)))), some (.pu (.str t.nm)), some (.pu (.lst (t.is.map Ins.d))), some (.pu (.lst (t.ls.map Ld.d))), d, f])
    ⟨_, _, _, by rw [app_list, hx]; simp [b1, cat], rfl⟩
  let b2 := b1 ++ t.is.map Ins.row
  have hb2 : (∀ x ∈ b2, x.length ≤ 61) ∧ b2.length ≤ 1500 := by
    refine ⟨fun y hy => ?_, by simp [b2, b1]; omega⟩
    rcases List.mem_append.mp hy with hy | hy
    · exact hb1.1 y hy
    · obtain ⟨j, hj, rfl⟩ := List.mem_map.mp hy
      have z := ins_tx j t.is.length (by omega) (o.i j hj); exact (rowS_len z.1 z.2).1
  obtain ⟨e3, f3, x3, d3, g3, hx3, rfl⟩ := loop_map (g := fg2_l_text) (body := fb2_l_text) (h := Ld.d) (xs := t.ls) (fun zs => PT1 r (some (.pu (.str t.nm))) (some (.pu (.lst (t.is.map Ins.d)))) (some (.pu (.lst (t.ls.map Ld.d)))) b2 (zs.map Ld.row))
    (fun zs i e hp p => t2_turn _ _ _ _ _ hb2 t.is.length (by omega) zs i (fun j hj => o.l j (hp.subset hj)) (by have := hp.length_le; simp at this; omega) e p) (e0 := [r, some (.pu (.str x2)), some (.pu (.str t.nm)), some (.pu (.lst (t.is.map Ins.d))), some (.pu (.lst (t.ls.map Ld.d))), d2, g2])
    ⟨_, _, _, by rw [hx2]; simp [b2], rfl⟩
  simp [funParts] at h1 hxl f2
  refine ⟨_, by simp [fb3_l_text, Tl.d, h1, hxl, f2, f3]; (repeat (first | exact rfl | refine ⟨rfl, ?_⟩)), x3, _, _, _, _, _, ?_, rfl⟩
  rw [hx3, rowsOf_snoc]
  simp [b2, b1, Tl.rows]
theorem ltext_ok (ts : List Tl) (h : ∀ u ∈ ts, u.ok 8 3) (hn : ts.length ≤ 12) : den_l_text [.pu (.lst (ts.map Tl.d))] = .ok (.pu (.str (textS ts))) [none] := by
  obtain ⟨e, f1, x, a, b, c, d, f, hx, rfl⟩ := loop_map (g := fg3_l_text) (body := fb3_l_text) (h := Tl.d) (xs := ts) (PT3 (some (.pu (.lst (ts.map Tl.d)))))
    (fun ys t e hp p => t3_turn _ ys t (fun u hu => h u (hp.subset hu)) (by have := hp.length_le; simp at this; omega) e p) (e0 := [some (.pu (.lst (ts.map Tl.d))), some (.pu (.str s__empty)), none, none, none, none, none])
    ⟨s__empty, _, _, _, _, _, by decide +kernel, rfl⟩
  have e : x = textS ts := str_ext (by rw [hx, textS, join_list]; rfl)
  simp [den_l_text, body_l_text, f1, e]
/-- what is compared -/
def tgD (t : Tl) : D := .tup [.str t.nm, .tup (t.is.map Ins.d), .tup (t.ls.map Ld.d)]
theorem rp_tg {t : Tl} (o : t.ok 8 3) : Rp 3 1023018 (tgD t) := by
  have oi := o.i2
  have ol := o.l2
  refine rp_tup (k := 2) (n := 341003) (m := 3) (fun d hd => ?_) (by simp)
  simp at hd
  rcases hd with rfl | rfl | rfl
  · exact (ShS.rp (ShS.nm o.n)).mono (by decide) (by decide)
  · exact rp_code (m := t.is.length) (by omega) o.i (by omega)
  · exact rp_lands (m := t.is.length) (by omega) o.l (by omega)
theorem same_ok (ts : List Tl) (h : ∀ u ∈ ts, u.ok 8 3) (hn : ts.length ≤ 12) : den_l_same [.pu (pgD ts), .pu (.lst (ts.map Tl.d))] = .ok (.pu (.bl true)) [none, none] := by
  obtain ⟨e1, a1, b1⟩ := loopC_mapK (own := [3]) (g := cg1_l_same) (elt := ce1_l_same) (h := Tl.f) (f := fun t => .pu (tgD t)) (e := [some (.pu (pgD ts)), some (.pu (.lst (ts.map Tl.d))), none, none, none, none, none]) (xs := ts) rfl (by omega)
    (fun t ht => ⟨_, rfl, rfl, by simp [ce1_l_same, Tl.f, tgD]⟩)
  obtain ⟨e2, a2, b2⟩ := loopC_mapK (own := [4, 5, 6]) (g := cg2_l_same) (elt := ce2_l_same) (h := Tl.d) (f := fun t => .pu (tgD t)) (e := [some (.pu (pgD ts)), some (.pu (.lst (ts.map Tl.d))), some (.li (ts.map fun t => .pu (tgD t))), none, none, none, none]) (xs := ts) rfl (by omega)
    (fun t ht => ⟨_, rfl, rfl, by simp [ce2_l_same, tgD]⟩)
  have hr : reprD [.lst (ts.map tgD)] = some (.str (shw (.lst (ts.map tgD)))) := repr_of (rp_lst (k := 3) (n := 1023018) (m := 12) (fun d hd => by obtain ⟨t, ht, rfl⟩ := List.mem_map.mp hd; exact rp_tg (h t ht)) (by simpa using hn)) (by decide) (by decide)
  simp [pgD] at a1 b1 a2 b2
  simp [den_l_same, body_l_same, pgD, a1, b1, a2, b2, hr, Function.comp_def]
end J05

namespace J05
open PySem L2 Ws Gd
@[simp] theorem fzP_pg (e : Ws.Env) (i : Nat) (rs : List PSt) (ts : List Tl) : fzP e i rs (pgO ts) = putP e i rs (.pu (pgD ts)) := by
  rw [← toD_pgO]; rfl
theorem turns_eq (n c : Nat) : (if (1 : Int) < (if (n : Int) < c then (n : Int) else c) then (if (n : Int) < c then (n : Int) else c) else 1) = ((max 1 (min c n) : Nat) : Int) := by
  by_cases h1 : (n : Int) < c <;> simp [h1] <;> split <;> omega
def PLw (s : Sc) (sc : Option O) (e : Ws.Env) : Prop := ∃ (k : Nat) (a b c d f g : Option O), e = [sc, some (dr s k), a, b, c, d, f, g]
theorem law_turn (s : Sc) (sc : Option O) (x : D) (e : Ws.Env) (h : PLw s sc e) : ∃ e1, fg2_law (.pu x) e = some e1 ∧ NxP (PLw s sc) (fb2_law e1) := by
  obtain ⟨k, a, b, c, d, f, g, rfl⟩ := h
  refine ⟨_, rfl, ?_⟩
  obtain ⟨t1, k1, ⟨o1, n1⟩, e1⟩ := functions_ok s k 12 8 (by decide) (by decide) (by decide) (by decide)
  obtain ⟨t2, k2, ⟨o2, n2⟩, e2⟩ := functions_ok s k1 3 8 (by decide) (by decide) (by decide) (by decide)
  have e1 : den_l_functions [dr s k, .pu (.int 12), .pu (.int 8)] = _ := e1
  have e2 : den_l_functions [dr s k1, .pu (.int 3), .pu (.int 8)] = _ := e2
  have p1 := program_ok t1 8 3 o1 (by decide) (by decide)
  have p2 := program_ok t2 8 3 o2 (by decide) (by decide)
  have x1 := text_ok 8 3 t1 o1 (by decide) (by decide)
  have x2 := text_ok 8 3 t2 o2 (by decide) (by decide)
  have y1 := ltext_ok t1 o1.f o1.l2
  have y2 := ltext_ok t2 o2.f o2.l2
  have z1 := same_ok t1 o1.f o1.l2
  have z2 := same_ok t2 o2.f o2.l2
  unfold NxP
  simp [fb2_law, e1, e2, p1, p2, rangeD, loopF_nil, loopF_cons, loopC, cYes, x1, x2, y1, y2, z1, z2]
  exact ⟨_, _, _, _, _, _, _, rfl⟩
theorem law_ok (ns : List Int) (hn : ns.length ≤ 63) : ∃ ps, den_law [.pu (.lst (ns.map .int))] = .ok (.pu (.bl true)) ps := by
  let s : Sc := ⟨ns, hn⟩
  have hd0 : O.li [.pu (.lst (ns.map .int)), .pu (.int 0)] = dr s 0 := rfl
  obtain ⟨e, f1, h2⟩ := loop_ex (g := fg2_law) (body := fb2_law) (fun _ => PLw s (some (.pu (.lst (ns.map .int))))) (items := rangeD 0 (max 1 (min 6 ns.length))) (j := 0) (e0 := [some (.pu (.lst (ns.map .int))), some (dr s 0), none, none, none, none, none, none])
    (fun i x e hx p => law_turn s _ x e p) ⟨0, _, _, _, _, _, _, rfl⟩
  obtain ⟨k, a, b, c, d, f, g, rfl⟩ := h2
  have te : (if (1 : Int) < (if (ns.length : Int) < 6 then (ns.length : Int) else 6) then (if (ns.length : Int) < 6 then (ns.length : Int) else 6) else 1) = ((max 1 (min 6 ns.length) : Nat) : Int) := turns_eq ns.length 6
  have tl : ((max 1 (min 6 ns.length) : Nat) : Int) ≤ 100000 := by omega
  simp [den_law, body_law, hd0, te, tl, f1]

end J05

namespace J05
open PySem L2 Ws Gd
theorem all_mk {l : PySem.W.OpenLaw} {w : World} {K : PySem.W.Frag} {h : Heap} {mg : Str → Option Value} {fa : Addr} (X : K.In h) (G : h.Ns mainGlobals mg) (hfa : mg "law" = some (.ref fa))
    {f0 f1 f2 f3 f4 f5 f6 f7 f8 f9 f10 f11 f12 f13 f14 f15 f16 f17 f18 f19 f20 f21 f22 f23 C_Function C_Program kD15 a_mSHAPES a_mSHAPES_0 a_mSHAPES_1 a_mSHAPES_2 a_mSHAPES_3 a_mSHAPES_4 a_mSHAPES_5 a_mSHAPES_6 a_mSHAPES_7 a_mSHAPES_8 a_mSHAPES_9 a_mSHAPES_10 a_mSHAPES_11 a_mSHAPES_12 a_mSHAPES_13 a_mSHAPES_14 a_REGISTERS a_WORDS a_kw15 : Addr} {od0 an0 od1 an1 od2 an2 od3 an3 od4 an4 od5 an5 od6 an6 od7 an7 od8 an8 od9 an9 od10 an10 od11 an11 od12 an12 od13 an13 od14 an14 od15 an15 od16 an16 od17 an17 od18 an18 od19 an19 od20 an20 od21 an21 od22 an22 od23 an23 dd_mSHAPES_0 dd_mSHAPES_1 dd_mSHAPES_2 dd_mSHAPES_3 dd_mSHAPES_4 dd_mSHAPES_5 dd_mSHAPES_6 dd_mSHAPES_7 dd_mSHAPES_8 dd_mSHAPES_9 dd_mSHAPES_10 dd_mSHAPES_11 dd_mSHAPES_12 dd_mSHAPES_13 dd_mSHAPES_14 dd_REGISTERS dd_WORDS dd_kw15 : Option Addr} {its_mSHAPES_0 its_mSHAPES_1 its_mSHAPES_2 its_mSHAPES_3 its_mSHAPES_4 its_mSHAPES_5 its_mSHAPES_6 its_mSHAPES_7 its_mSHAPES_8 its_mSHAPES_9 its_mSHAPES_10 its_mSHAPES_11 its_mSHAPES_12 its_mSHAPES_13 its_mSHAPES_14 its_REGISTERS its_WORDS its_kw15 : Array Value} {n_mSHAPES n_mSHAPES_0 n_mSHAPES_1 n_mSHAPES_2 n_mSHAPES_3 n_mSHAPES_4 n_mSHAPES_5 n_mSHAPES_6 n_mSHAPES_7 n_mSHAPES_8 n_mSHAPES_9 n_mSHAPES_10 n_mSHAPES_11 n_mSHAPES_12 n_mSHAPES_13 n_mSHAPES_14 n_REGISTERS n_WORDS n_kw15 : Nat} {es_mSHAPES : Array DictEntry} {sl0 sl1 sl2 sl3 sl4 sl5 sl6 sl7 sl8 sl9 sl10 sl11 sl12 sl13 sl14 sl15 sl16 sl17 sl18 sl19 sl20 sl21 sl22 sl23 sl_mSHAPES_0 sl_mSHAPES_1 sl_mSHAPES_2 sl_mSHAPES_3 sl_mSHAPES_4 sl_mSHAPES_5 sl_mSHAPES_6 sl_mSHAPES_7 sl_mSHAPES_8 sl_mSHAPES_9 sl_mSHAPES_10 sl_mSHAPES_11 sl_mSHAPES_12 sl_mSHAPES_13 sl_mSHAPES_14 sl_REGISTERS sl_WORDS sl_kw15 : Array (Option Value)} {oc0 dc0 pm0 cd0 ct0 kV0 oc1 dc1 pm1 cd1 ct1 kV1 oc2 dc2 pm2 cd2 ct2 kV2 oc3 dc3 pm3 cd3 ct3 kV3 oc4 dc4 pm4 cd4 ct4 kV4 oc5 dc5 pm5 cd5 ct5 kV5 oc6 dc6 pm6 cd6 ct6 kV6 oc7 dc7 pm7 cd7 ct7 kV7 oc8 dc8 pm8 cd8 ct8 kV8 oc9 dc9 pm9 cd9 ct9 kV9 oc10 dc10 pm10 cd10 ct10 kV10 oc11 dc11 pm11 cd11 ct11 kV11 oc12 dc12 pm12 cd12 ct12 kV12 oc13 dc13 pm13 cd13 ct13 kV13 oc14 dc14 pm14 cd14 ct14 kV14 oc15 dc15 pm15 cd15 ct15 oc16 dc16 pm16 cd16 ct16 kV16 oc17 dc17 pm17 cd17 ct17 kV17 oc18 dc18 pm18 cd18 ct18 kV18 oc19 dc19 pm19 cd19 ct19 kV19 oc20 dc20 pm20 cd20 ct20 kV20 oc21 dc21 pm21 cd21 ct21 kV21 oc22 dc22 pm22 cd22 ct22 kV22 oc23 dc23 pm23 cd23 ct23 kV23 u_LETTERS u_MOST_CODE u_MOST_FUNCTIONS u_MOST_NEAR : Value}
    (aC_Function : PySem.W.nsIn K mainGlobals "Function" = some (some (.ref C_Function)))
    (pg_Function : PySem.W.plainGet K C_Function Str.empty = true)
    (hd_Function : PySem.W.hasDictIn K C_Function = true)
    (po_Function : PySem.W.plainOver K C_Function = true)
    (sa_Function : PySem.W.findIn K (.ref C_Function) "__setattr__" = some (some (.builtin "object.__setattr__")))
    (mk_Function : PySem.W.makesIn K C_Function = true)
    (kc_Function : PySem.W.keepIn K (.ref C_Function) = true)
    (nf_Function_code : PySem.W.findIn K (.ref C_Function) "code" = some none)
    (nf_Function_landings : PySem.W.findIn K (.ref C_Function) "landings" = some none)
    (nf_Function_name : PySem.W.findIn K (.ref C_Function) "name" = some none)
    (aC_Program : PySem.W.nsIn K mainGlobals "Program" = some (some (.ref C_Program)))
    (pg_Program : PySem.W.plainGet K C_Program Str.empty = true)
    (hd_Program : PySem.W.hasDictIn K C_Program = true)
    (po_Program : PySem.W.plainOver K C_Program = true)
    (sa_Program : PySem.W.findIn K (.ref C_Program) "__setattr__" = some (some (.builtin "object.__setattr__")))
    (mk_Program : PySem.W.makesIn K C_Program = true)
    (kc_Program : PySem.W.keepIn K (.ref C_Program) = true)
    (nf_Program_functions : PySem.W.findIn K (.ref C_Program) "functions" = some none)
    (a0 : PySem.W.nsIn K mainGlobals "_law_mixed" = some (some (.ref f0)))
    (l0 : K.lookup f0 = some ⟨oc0, od0, .func (PySem.W.fnOf "_law_mixed" "_law_mixed" (defArgs st_l_mixed) (defBody st_l_mixed) (defScope st_l_mixed) .none kV0 dc0 pm0 an0 cd0 ct0), sl0⟩) (c0 : PySem.W.codeIn K cd0 "_law_mixed" = true) (k0 : PySem.W.keepIn K (.ref f0) = true)
    (a1 : PySem.W.nsIn K mainGlobals "_law_next" = some (some (.ref f1)))
    (l1 : K.lookup f1 = some ⟨oc1, od1, .func (PySem.W.fnOf "_law_next" "_law_next" (defArgs st_l_next) (defBody st_l_next) (defScope st_l_next) .none kV1 dc1 pm1 an1 cd1 ct1), sl1⟩) (c1 : PySem.W.codeIn K cd1 "_law_next" = true) (k1 : PySem.W.keepIn K (.ref f1) = true)
    (a2 : PySem.W.nsIn K mainGlobals "_law_part" = some (some (.ref f2)))
    (l2 : K.lookup f2 = some ⟨oc2, od2, .func (PySem.W.fnOf "_law_part" "_law_part" (defArgs st_l_part) (defBody st_l_part) (defScope st_l_part) .none kV2 dc2 pm2 an2 cd2 ct2), sl2⟩) (c2 : PySem.W.codeIn K cd2 "_law_part" = true) (k2 : PySem.W.keepIn K (.ref f2) = true)
    (a3 : PySem.W.nsIn K mainGlobals "_law_shape" = some (some (.ref f3)))
    (l3 : K.lookup f3 = some ⟨oc3, od3, .func (PySem.W.fnOf "_law_shape" "_law_shape" (defArgs st_l_shape) (defBody st_l_shape) (defScope st_l_shape) .none kV3 dc3 pm3 an3 cd3 ct3), sl3⟩) (c3 : PySem.W.codeIn K cd3 "_law_shape" = true) (k3 : PySem.W.keepIn K (.ref f3) = true)
    (a4 : PySem.W.nsIn K mainGlobals "_law_code" = some (some (.ref f4)))
    (l4 : K.lookup f4 = some ⟨oc4, od4, .func (PySem.W.fnOf "_law_code" "_law_code" (defArgs st_l_code) (defBody st_l_code) (defScope st_l_code) .none kV4 dc4 pm4 an4 cd4 ct4), sl4⟩) (c4 : PySem.W.codeIn K cd4 "_law_code" = true) (k4 : PySem.W.keepIn K (.ref f4) = true)
    (a5 : PySem.W.nsIn K mainGlobals "_law_landings" = some (some (.ref f5)))
    (l5 : K.lookup f5 = some ⟨oc5, od5, .func (PySem.W.fnOf "_law_landings" "_law_landings" (defArgs st_l_landings) (defBody st_l_landings) (defScope st_l_landings) .none kV5 dc5 pm5 an5 cd5 ct5), sl5⟩) (c5 : PySem.W.codeIn K cd5 "_law_landings" = true) (k5 : PySem.W.keepIn K (.ref f5) = true)
    (a6 : PySem.W.nsIn K mainGlobals "_law_word" = some (some (.ref f6)))
    (l6 : K.lookup f6 = some ⟨oc6, od6, .func (PySem.W.fnOf "_law_word" "_law_word" (defArgs st_l_word) (defBody st_l_word) (defScope st_l_word) .none kV6 dc6 pm6 an6 cd6 ct6), sl6⟩) (c6 : PySem.W.codeIn K cd6 "_law_word" = true) (k6 : PySem.W.keepIn K (.ref f6) = true)
    (a7 : PySem.W.nsIn K mainGlobals "_law_words" = some (some (.ref f7)))
    (l7 : K.lookup f7 = some ⟨oc7, od7, .func (PySem.W.fnOf "_law_words" "_law_words" (defArgs st_l_words) (defBody st_l_words) (defScope st_l_words) .none kV7 dc7 pm7 an7 cd7 ct7), sl7⟩) (c7 : PySem.W.codeIn K cd7 "_law_words" = true) (k7 : PySem.W.keepIn K (.ref f7) = true)
    (a8 : PySem.W.nsIn K mainGlobals "_law_functions" = some (some (.ref f8)))
    (l8 : K.lookup f8 = some ⟨oc8, od8, .func (PySem.W.fnOf "_law_functions" "_law_functions" (defArgs st_l_functions) (defBody st_l_functions) (defScope st_l_functions) .none kV8 dc8 pm8 an8 cd8 ct8), sl8⟩) (c8 : PySem.W.codeIn K cd8 "_law_functions" = true) (k8 : PySem.W.keepIn K (.ref f8) = true)
    (a9 : PySem.W.nsIn K mainGlobals "is_name" = some (some (.ref f9)))
    (l9 : K.lookup f9 = some ⟨oc9, od9, .func (PySem.W.fnOf "is_name" "is_name" (defArgs st_is_name) (defBody st_is_name) (defScope st_is_name) .none kV9 dc9 pm9 an9 cd9 ct9), sl9⟩) (c9 : PySem.W.codeIn K cd9 "is_name" = true) (k9 : PySem.W.keepIn K (.ref f9) = true)
    (a10 : PySem.W.nsIn K mainGlobals "is_number" = some (some (.ref f10)))
    (l10 : K.lookup f10 = some ⟨oc10, od10, .func (PySem.W.fnOf "is_number" "is_number" (defArgs st_is_number) (defBody st_is_number) (defScope st_is_number) .none kV10 dc10 pm10 an10 cd10 ct10), sl10⟩) (c10 : PySem.W.codeIn K cd10 "is_number" = true) (k10 : PySem.W.keepIn K (.ref f10) = true)
    (a11 : PySem.W.nsIn K mainGlobals "is_near" = some (some (.ref f11)))
    (l11 : K.lookup f11 = some ⟨oc11, od11, .func (PySem.W.fnOf "is_near" "is_near" (defArgs st_is_near) (defBody st_is_near) (defScope st_is_near) .none kV11 dc11 pm11 an11 cd11 ct11), sl11⟩) (c11 : PySem.W.codeIn K cd11 "is_near" = true) (k11 : PySem.W.keepIn K (.ref f11) = true)
    (a12 : PySem.W.nsIn K mainGlobals "fits" = some (some (.ref f12)))
    (l12 : K.lookup f12 = some ⟨oc12, od12, .func (PySem.W.fnOf "fits" "fits" (defArgs st_fits) (defBody st_fits) (defScope st_fits) .none kV12 dc12 pm12 an12 cd12 ct12), sl12⟩) (c12 : PySem.W.codeIn K cd12 "fits" = true) (k12 : PySem.W.keepIn K (.ref f12) = true)
    (a13 : PySem.W.nsIn K mainGlobals "is_instruction" = some (some (.ref f13)))
    (l13 : K.lookup f13 = some ⟨oc13, od13, .func (PySem.W.fnOf "is_instruction" "is_instruction" (defArgs st_is_instruction) (defBody st_is_instruction) (defScope st_is_instruction) .none kV13 dc13 pm13 an13 cd13 ct13), sl13⟩) (c13 : PySem.W.codeIn K cd13 "is_instruction" = true) (k13 : PySem.W.keepIn K (.ref f13) = true)
    (a14 : PySem.W.nsIn K mainGlobals "is_landing" = some (some (.ref f14)))
    (l14 : K.lookup f14 = some ⟨oc14, od14, .func (PySem.W.fnOf "is_landing" "is_landing" (defArgs st_is_landing) (defBody st_is_landing) (defScope st_is_landing) .none kV14 dc14 pm14 an14 cd14 ct14), sl14⟩) (c14 : PySem.W.codeIn K cd14 "is_landing" = true) (k14 : PySem.W.keepIn K (.ref f14) = true)
    (a15 : PySem.W.findIn K (.ref C_Function) "__init__" = some (some (.ref f15))) (i15 : PySem.W.isFn K (.ref f15) = true)
    (l15 : K.lookup f15 = some ⟨oc15, od15, .func (PySem.W.fnOf "__init__" "Function.__init__" (defArgs st_Function_init) (defBody st_Function_init) (defScope st_Function_init) .none (.ref kD15) dc15 pm15 an15 cd15 ct15), sl15⟩) (c15 : PySem.W.codeIn K cd15 "Function.__init__" = true) (k15 : PySem.W.keepIn K (.ref f15) = true)
    (a16 : PySem.W.findIn K (.ref C_Program) "__init__" = some (some (.ref f16))) (i16 : PySem.W.isFn K (.ref f16) = true)
    (l16 : K.lookup f16 = some ⟨oc16, od16, .func (PySem.W.fnOf "__init__" "Program.__init__" (defArgs st_Program_init) (defBody st_Program_init) (defScope st_Program_init) .none kV16 dc16 pm16 an16 cd16 ct16), sl16⟩) (c16 : PySem.W.codeIn K cd16 "Program.__init__" = true) (k16 : PySem.W.keepIn K (.ref f16) = true)
    (a17 : PySem.W.nsIn K mainGlobals "_law_program" = some (some (.ref f17)))
    (l17 : K.lookup f17 = some ⟨oc17, od17, .func (PySem.W.fnOf "_law_program" "_law_program" (defArgs st_l_program) (defBody st_l_program) (defScope st_l_program) .none kV17 dc17 pm17 an17 cd17 ct17), sl17⟩) (c17 : PySem.W.codeIn K cd17 "_law_program" = true) (k17 : PySem.W.keepIn K (.ref f17) = true)
    (a18 : PySem.W.nsIn K mainGlobals "_law_same" = some (some (.ref f18)))
    (l18 : K.lookup f18 = some ⟨oc18, od18, .func (PySem.W.fnOf "_law_same" "_law_same" (defArgs st_l_same) (defBody st_l_same) (defScope st_l_same) .none kV18 dc18 pm18 an18 cd18 ct18), sl18⟩) (c18 : PySem.W.codeIn K cd18 "_law_same" = true) (k18 : PySem.W.keepIn K (.ref f18) = true)
    (a19 : PySem.W.nsIn K mainGlobals "_law_row" = some (some (.ref f19)))
    (l19 : K.lookup f19 = some ⟨oc19, od19, .func (PySem.W.fnOf "_law_row" "_law_row" (defArgs st_l_row) (defBody st_l_row) (defScope st_l_row) .none kV19 dc19 pm19 an19 cd19 ct19), sl19⟩) (c19 : PySem.W.codeIn K cd19 "_law_row" = true) (k19 : PySem.W.keepIn K (.ref f19) = true)
    (a20 : PySem.W.nsIn K mainGlobals "_law_text" = some (some (.ref f20)))
    (l20 : K.lookup f20 = some ⟨oc20, od20, .func (PySem.W.fnOf "_law_text" "_law_text" (defArgs st_l_text) (defBody st_l_text) (defScope st_l_text) .none kV20 dc20 pm20 an20 cd20 ct20), sl20⟩) (c20 : PySem.W.codeIn K cd20 "_law_text" = true) (k20 : PySem.W.keepIn K (.ref f20) = true)
    (a21 : PySem.W.nsIn K mainGlobals "row_of" = some (some (.ref f21)))
    (l21 : K.lookup f21 = some ⟨oc21, od21, .func (PySem.W.fnOf "row_of" "row_of" (defArgs st_trow_of) (defBody st_trow_of) (defScope st_trow_of) .none kV21 dc21 pm21 an21 cd21 ct21), sl21⟩) (c21 : PySem.W.codeIn K cd21 "row_of" = true) (k21 : PySem.W.keepIn K (.ref f21) = true)
    (a22 : PySem.W.nsIn K mainGlobals "program_text" = some (some (.ref f22)))
    (l22 : K.lookup f22 = some ⟨oc22, od22, .func (PySem.W.fnOf "program_text" "program_text" (defArgs st_program_text) (defBody st_program_text) (defScope st_program_text) .none kV22 dc22 pm22 an22 cd22 ct22), sl22⟩) (c22 : PySem.W.codeIn K cd22 "program_text" = true) (k22 : PySem.W.keepIn K (.ref f22) = true)
    (a23 : PySem.W.nsIn K mainGlobals "law" = some (some (.ref f23)))
    (l23 : K.lookup f23 = some ⟨oc23, od23, .func (PySem.W.fnOf "law" "law" (defArgs st_law) (defBody st_law) (defScope st_law) .none kV23 dc23 pm23 an23 cd23 ct23), sl23⟩) (c23 : PySem.W.codeIn K cd23 "law" = true) (k23 : PySem.W.keepIn K (.ref f23) = true)
    (g_mSHAPES : PySem.W.nsIn K mainGlobals "SHAPES" = some (some (.ref a_mSHAPES)))
    (gl_mSHAPES : K.lookup a_mSHAPES = some ⟨.type "dict", none, .dict es_mSHAPES n_mSHAPES, #[]⟩)
    (gk_mSHAPES : PySem.W.KeysLit w.params es_mSHAPES.toList)
    (gw_mSHAPES : (a_mSHAPES == sysModules) = false)
    (gb_mSHAPES : keyB es_mSHAPES.toList [s_set_w, s_copy, s_mix, s_push, s_pop, s_room, s_store, s_load, s_call, s_ret_w, s_go, s_if_w, s_out, s_throw, s_resume] = true)
    (gv_mSHAPES : es_mSHAPES.toList.map (·.val) = [.ref a_mSHAPES_0, .ref a_mSHAPES_1, .ref a_mSHAPES_2, .ref a_mSHAPES_3, .ref a_mSHAPES_4, .ref a_mSHAPES_5, .ref a_mSHAPES_6, .ref a_mSHAPES_7, .ref a_mSHAPES_8, .ref a_mSHAPES_9, .ref a_mSHAPES_10, .ref a_mSHAPES_11, .ref a_mSHAPES_12, .ref a_mSHAPES_13, .ref a_mSHAPES_14])
    (gl_mSHAPES_0 : K.lookup a_mSHAPES_0 = some ⟨.type "tuple", dd_mSHAPES_0, .seq its_mSHAPES_0 n_mSHAPES_0, sl_mSHAPES_0⟩)
    (gs_mSHAPES_0 : scsB its_mSHAPES_0.toList [.str s_register, .str s_number] = true)
    (gz_mSHAPES_0 : its_mSHAPES_0.size ≤ 1000)
    (gl_mSHAPES_1 : K.lookup a_mSHAPES_1 = some ⟨.type "tuple", dd_mSHAPES_1, .seq its_mSHAPES_1 n_mSHAPES_1, sl_mSHAPES_1⟩)
    (gs_mSHAPES_1 : scsB its_mSHAPES_1.toList [.str s_word, .str s_word] = true)
    (gz_mSHAPES_1 : its_mSHAPES_1.size ≤ 1000)
    (gl_mSHAPES_2 : K.lookup a_mSHAPES_2 = some ⟨.type "tuple", dd_mSHAPES_2, .seq its_mSHAPES_2 n_mSHAPES_2, sl_mSHAPES_2⟩)
    (gs_mSHAPES_2 : scsB its_mSHAPES_2.toList [.str s_register, .str s_register, .str s_register] = true)
    (gz_mSHAPES_2 : its_mSHAPES_2.size ≤ 1000)
    (gl_mSHAPES_3 : K.lookup a_mSHAPES_3 = some ⟨.type "tuple", dd_mSHAPES_3, .seq its_mSHAPES_3 n_mSHAPES_3, sl_mSHAPES_3⟩)
    (gs_mSHAPES_3 : scsB its_mSHAPES_3.toList [.str s_register] = true)
    (gz_mSHAPES_3 : its_mSHAPES_3.size ≤ 1000)
    (gl_mSHAPES_4 : K.lookup a_mSHAPES_4 = some ⟨.type "tuple", dd_mSHAPES_4, .seq its_mSHAPES_4 n_mSHAPES_4, sl_mSHAPES_4⟩)
    (gs_mSHAPES_4 : scsB its_mSHAPES_4.toList [.str s_register] = true)
    (gz_mSHAPES_4 : its_mSHAPES_4.size ≤ 1000)
    (gl_mSHAPES_5 : K.lookup a_mSHAPES_5 = some ⟨.type "tuple", dd_mSHAPES_5, .seq its_mSHAPES_5 n_mSHAPES_5, sl_mSHAPES_5⟩)
    (gs_mSHAPES_5 : scsB its_mSHAPES_5.toList [.str s_near] = true)
    (gz_mSHAPES_5 : its_mSHAPES_5.size ≤ 1000)
    (gl_mSHAPES_6 : K.lookup a_mSHAPES_6 = some ⟨.type "tuple", dd_mSHAPES_6, .seq its_mSHAPES_6 n_mSHAPES_6, sl_mSHAPES_6⟩)
    (gs_mSHAPES_6 : scsB its_mSHAPES_6.toList [.str s_word, .str s_near, .str s_register] = true)
    (gz_mSHAPES_6 : its_mSHAPES_6.size ≤ 1000)
    (gl_mSHAPES_7 : K.lookup a_mSHAPES_7 = some ⟨.type "tuple", dd_mSHAPES_7, .seq its_mSHAPES_7 n_mSHAPES_7, sl_mSHAPES_7⟩)
    (gs_mSHAPES_7 : scsB its_mSHAPES_7.toList [.str s_register, .str s_word, .str s_near] = true)
    (gz_mSHAPES_7 : its_mSHAPES_7.size ≤ 1000)
    (gl_mSHAPES_8 : K.lookup a_mSHAPES_8 = some ⟨.type "tuple", dd_mSHAPES_8, .seq its_mSHAPES_8 n_mSHAPES_8, sl_mSHAPES_8⟩)
    (gs_mSHAPES_8 : scsB its_mSHAPES_8.toList [.str s_name] = true)
    (gz_mSHAPES_8 : its_mSHAPES_8.size ≤ 1000)
    (gl_mSHAPES_9 : K.lookup a_mSHAPES_9 = some ⟨.type "tuple", dd_mSHAPES_9, .seq its_mSHAPES_9 n_mSHAPES_9, sl_mSHAPES_9⟩)
    (gs_mSHAPES_9 : scsB its_mSHAPES_9.toList [] = true)
    (gz_mSHAPES_9 : its_mSHAPES_9.size ≤ 1000)
    (gl_mSHAPES_10 : K.lookup a_mSHAPES_10 = some ⟨.type "tuple", dd_mSHAPES_10, .seq its_mSHAPES_10 n_mSHAPES_10, sl_mSHAPES_10⟩)
    (gs_mSHAPES_10 : scsB its_mSHAPES_10.toList [.str s_to] = true)
    (gz_mSHAPES_10 : its_mSHAPES_10.size ≤ 1000)
    (gl_mSHAPES_11 : K.lookup a_mSHAPES_11 = some ⟨.type "tuple", dd_mSHAPES_11, .seq its_mSHAPES_11 n_mSHAPES_11, sl_mSHAPES_11⟩)
    (gs_mSHAPES_11 : scsB its_mSHAPES_11.toList [.str s_to] = true)
    (gz_mSHAPES_11 : its_mSHAPES_11.size ≤ 1000)
    (gl_mSHAPES_12 : K.lookup a_mSHAPES_12 = some ⟨.type "tuple", dd_mSHAPES_12, .seq its_mSHAPES_12 n_mSHAPES_12, sl_mSHAPES_12⟩)
    (gs_mSHAPES_12 : scsB its_mSHAPES_12.toList [.str s_register] = true)
    (gz_mSHAPES_12 : its_mSHAPES_12.size ≤ 1000)
    (gl_mSHAPES_13 : K.lookup a_mSHAPES_13 = some ⟨.type "tuple", dd_mSHAPES_13, .seq its_mSHAPES_13 n_mSHAPES_13, sl_mSHAPES_13⟩)
    (gs_mSHAPES_13 : scsB its_mSHAPES_13.toList [] = true)
    (gz_mSHAPES_13 : its_mSHAPES_13.size ≤ 1000)
    (gl_mSHAPES_14 : K.lookup a_mSHAPES_14 = some ⟨.type "tuple", dd_mSHAPES_14, .seq its_mSHAPES_14 n_mSHAPES_14, sl_mSHAPES_14⟩)
    (gs_mSHAPES_14 : scsB its_mSHAPES_14.toList [] = true)
    (gz_mSHAPES_14 : its_mSHAPES_14.size ≤ 1000)
    (g_LETTERS : PySem.W.nsIn K mainGlobals "LETTERS" = some (some (u_LETTERS)))
    (gs_LETTERS : scB u_LETTERS (.str s_abcdefghijklmnopqrstuvwxyz) = true)
    (g_MOST_CODE : PySem.W.nsIn K mainGlobals "MOST_CODE" = some (some (u_MOST_CODE)))
    (gs_MOST_CODE : scB u_MOST_CODE (.int 1000) = true)
    (g_MOST_FUNCTIONS : PySem.W.nsIn K mainGlobals "MOST_FUNCTIONS" = some (some (u_MOST_FUNCTIONS)))
    (gs_MOST_FUNCTIONS : scB u_MOST_FUNCTIONS (.int 12) = true)
    (g_MOST_NEAR : PySem.W.nsIn K mainGlobals "MOST_NEAR" = some (some (u_MOST_NEAR)))
    (gs_MOST_NEAR : scB u_MOST_NEAR (.int 99) = true)
    (g_REGISTERS : PySem.W.nsIn K mainGlobals "REGISTERS" = some (some (.ref a_REGISTERS)))
    (gl_REGISTERS : K.lookup a_REGISTERS = some ⟨.type "tuple", dd_REGISTERS, .seq its_REGISTERS n_REGISTERS, sl_REGISTERS⟩)
    (gs_REGISTERS : scsB its_REGISTERS.toList [.str s_a, .str s_b, .str s_c, .str s_d, .str s_e, .str s_f, .str s_g, .str s_h] = true)
    (gz_REGISTERS : its_REGISTERS.size ≤ 1000)
    (g_WORDS : PySem.W.nsIn K mainGlobals "WORDS" = some (some (.ref a_WORDS)))
    (gl_WORDS : K.lookup a_WORDS = some ⟨.type "tuple", dd_WORDS, .seq its_WORDS n_WORDS, sl_WORDS⟩)
    (gs_WORDS : scsB its_WORDS.toList [.str s_a, .str s_b, .str s_c, .str s_d, .str s_e, .str s_f, .str s_g, .str s_h, .str s_sp] = true)
    (gz_WORDS : its_WORDS.size ≤ 1000)
    (z_all : PySem.W.nsIn K mainGlobals "all" = some none)
    (z_bool : PySem.W.nsIn K mainGlobals "bool" = some none)
    (z_enumerate : PySem.W.nsIn K mainGlobals "enumerate" = some none)
    (z_int : PySem.W.nsIn K mainGlobals "int" = some none)
    (z_isinstance : PySem.W.nsIn K mainGlobals "isinstance" = some none)
    (z_len : PySem.W.nsIn K mainGlobals "len" = some none)
    (z_list : PySem.W.nsIn K mainGlobals "list" = some none)
    (z_max : PySem.W.nsIn K mainGlobals "max" = some none)
    (z_min : PySem.W.nsIn K mainGlobals "min" = some none)
    (z_range : PySem.W.nsIn K mainGlobals "range" = some none)
    (z_repr : PySem.W.nsIn K mainGlobals "repr" = some none)
    (z_set : PySem.W.nsIn K mainGlobals "set" = some none)
    (z_str : PySem.W.nsIn K mainGlobals "str" = some none)
    (z_tuple : PySem.W.nsIn K mainGlobals "tuple" = some none)
    (z_zip : PySem.W.nsIn K mainGlobals "zip" = some none)
    (kd15 : PySem.W.nsIn K kD15 "landings" = some (some (.ref a_kw15)))
    (gl_kw15 : K.lookup a_kw15 = some ⟨.type "tuple", dd_kw15, .seq its_kw15 n_kw15, sl_kw15⟩)
    (gs_kw15 : scsB its_kw15.toList [] = true)
    (gz_kw15 : its_kw15.size ≤ 1000)
    : ∃ fd : FuncData, (∀ (s : Shared) (v : Value), BindsTo s fd ⟨[v], []⟩ [("_law_script", v)]) ∧ ∀ base : Heap, K.In base → base.Ns mainGlobals mg → FnG l.prog w K mg base CX0 8 fa fd ["_law_script"] (spV K 1 den_law) := by
  have e := hfa.symm.trans (PySem.W.mg_of X G a23)
  cases e
  have T : Txt K w mg := ⟨trivial, (StOk.of2 (show ClsN K s_Function C_Function from Ss_Function ▸ aC_Function) ⟨pg_Function, hd_Function, po_Function, sa_Function⟩ (show NoAttr K C_Function s_code from Ss_code ▸ nf_Function_code) StOk.nil), (StOk.of2 (show ClsN K s_Program C_Program from Ss_Program ▸ aC_Program) ⟨pg_Program, hd_Program, po_Program, sa_Program⟩ (show NoAttr K C_Program s_functions from Ss_functions ▸ nf_Program_functions) StOk.nil), (StOk.of2 (show ClsN K s_Function C_Function from Ss_Function ▸ aC_Function) ⟨pg_Function, hd_Function, po_Function, sa_Function⟩ (show NoAttr K C_Function s_landings from Ss_landings ▸ nf_Function_landings) StOk.nil), (StOk.of2 (show ClsN K s_Function C_Function from Ss_Function ▸ aC_Function) ⟨pg_Function, hd_Function, po_Function, sa_Function⟩ (show NoAttr K C_Function s_name from Ss_name ▸ nf_Function_name) StOk.nil), glob_m X G g_mSHAPES gl_mSHAPES gk_mSHAPES gw_mSHAPES gb_mSHAPES gv_mSHAPES (.cons (.tups gl_mSHAPES_0 gs_mSHAPES_0 gz_mSHAPES_0) (.cons (.tups gl_mSHAPES_1 gs_mSHAPES_1 gz_mSHAPES_1) (.cons (.tups gl_mSHAPES_2 gs_mSHAPES_2 gz_mSHAPES_2) (.cons (.tups gl_mSHAPES_3 gs_mSHAPES_3 gz_mSHAPES_3) (.cons (.tups gl_mSHAPES_4 gs_mSHAPES_4 gz_mSHAPES_4) (.cons (.tups gl_mSHAPES_5 gs_mSHAPES_5 gz_mSHAPES_5) (.cons (.tups gl_mSHAPES_6 gs_mSHAPES_6 gz_mSHAPES_6) (.cons (.tups gl_mSHAPES_7 gs_mSHAPES_7 gz_mSHAPES_7) (.cons (.tups gl_mSHAPES_8 gs_mSHAPES_8 gz_mSHAPES_8) (.cons (.tups gl_mSHAPES_9 gs_mSHAPES_9 gz_mSHAPES_9) (.cons (.tups gl_mSHAPES_10 gs_mSHAPES_10 gz_mSHAPES_10) (.cons (.tups gl_mSHAPES_11 gs_mSHAPES_11 gz_mSHAPES_11) (.cons (.tups gl_mSHAPES_12 gs_mSHAPES_12 gz_mSHAPES_12) (.cons (.tups gl_mSHAPES_13 gs_mSHAPES_13 gz_mSHAPES_13) (.cons (.tups gl_mSHAPES_14 gs_mSHAPES_14 gz_mSHAPES_14) .nil))))))))))))))) rfl, glob_u X G g_LETTERS (.sc gs_LETTERS), glob_u X G g_MOST_CODE (.sc gs_MOST_CODE), glob_u X G g_MOST_FUNCTIONS (.sc gs_MOST_FUNCTIONS), glob_u X G g_MOST_NEAR (.sc gs_MOST_NEAR), glob_u X G g_REGISTERS (.tups gl_REGISTERS gs_REGISTERS gz_REGISTERS), glob_u X G g_WORDS (.tups gl_WORDS gs_WORDS gz_WORDS), PySem.W.mg_none_of X G z_all, PySem.W.mg_none_of X G z_bool, PySem.W.mg_none_of X G z_enumerate, PySem.W.mg_none_of X G z_int, PySem.W.mg_none_of X G z_isinstance, PySem.W.mg_none_of X G z_len, PySem.W.mg_none_of X G z_list, PySem.W.mg_none_of X G z_max, PySem.W.mg_none_of X G z_min, PySem.W.mg_none_of X G z_range, PySem.W.mg_none_of X G z_repr, PySem.W.mg_none_of X G z_set, PySem.W.mg_none_of X G z_str, PySem.W.mg_none_of X G z_tuple, PySem.W.mg_none_of X G z_zip⟩
  refine ⟨PySem.W.fnOf "law" "law" (defArgs st_law) (defBody st_law) (defScope st_law) .none kV23 dc23 pm23 an23 cd23 ct23, fun s v => .of_eq rfl, fun base _ _ => ?_⟩
  have F0 := fun_mk (st := st_l_mixed) l0 c0 k0
  have B0 := F0.binds (ps := ["_law_cell", "_law_k"]) fun _ _ _ _ _ _ us hl => match us, hl with | [_, _], _ => rfl
  have hD_l_mixed : DefV l.prog w K mg base 1 "_law_mixed" 2 den_l_mixed := ⟨_, _, _, ok_l_mixed (T := T)  (F := F0), PySem.W.mg_of X G a0, k0, B0⟩
  have F1 := fun_mk (st := st_l_next) l1 c1 k1
  have B1 := F1.binds (ps := ["_law_draw", "_law_size"]) fun _ _ _ _ _ _ us hl => match us, hl with | [_, _], _ => rfl
  have hD_l_next : DefV l.prog w K mg base 2 "_law_next" 2 den_l_next := ⟨_, _, _, ok_l_next (T := T) (D_l_mixed := hD_l_mixed) (F := F1), PySem.W.mg_of X G a1, k1, B1⟩
  have F2 := fun_mk (st := st_l_part) l2 c2 k2
  have B2 := F2.binds (ps := ["_law_draw", "_law_kind", "_law_many", "_law_names"]) fun _ _ _ _ _ _ us hl => match us, hl with | [_, _, _, _], _ => rfl
  have hD_l_part : DefV l.prog w K mg base 3 "_law_part" 4 den_l_part := ⟨_, _, _, ok_l_part (T := T) (D_l_next := hD_l_next) (F := F2), PySem.W.mg_of X G a2, k2, B2⟩
  have F3 := fun_mk (st := st_l_shape) l3 c3 k3
  have B3 := F3.binds (ps := ["_law_word_here"]) fun _ _ _ _ _ _ us hl => match us, hl with | [_], _ => rfl
  have hD_l_shape : DefV l.prog w K mg base 1 "_law_shape" 1 den_l_shape := ⟨_, _, _, ok_l_shape (T := T)  (F := F3), PySem.W.mg_of X G a3, k3, B3⟩
  have F4 := fun_mk (st := st_l_code) l4 c4 k4
  have B4 := F4.binds (ps := ["_law_draw", "_law_many", "_law_names"]) fun _ _ _ _ _ _ us hl => match us, hl with | [_, _, _], _ => rfl
  have hD_l_code : DefV l.prog w K mg base 4 "_law_code" 3 den_l_code := ⟨_, _, _, ok_l_code (T := T) (D_l_next := hD_l_next) (D_l_part := hD_l_part) (D_l_shape := hD_l_shape) (F := F4), PySem.W.mg_of X G a4, k4, B4⟩
  have F5 := fun_mk (st := st_l_landings) l5 c5 k5
  have B5 := F5.binds (ps := ["_law_draw", "_law_many", "_law_most"]) fun _ _ _ _ _ _ us hl => match us, hl with | [_, _, _], _ => rfl
  have hD_l_landings : DefV l.prog w K mg base 3 "_law_landings" 3 den_l_landings := ⟨_, _, _, ok_l_landings (T := T) (D_l_next := hD_l_next) (F := F5), PySem.W.mg_of X G a5, k5, B5⟩
  have F6 := fun_mk (st := st_l_word) l6 c6 k6
  have B6 := F6.binds (ps := ["_law_draw"]) fun _ _ _ _ _ _ us hl => match us, hl with | [_], _ => rfl
  have hD_l_word : DefV l.prog w K mg base 3 "_law_word" 1 den_l_word := ⟨_, _, _, ok_l_word (T := T) (D_l_next := hD_l_next) (F := F6), PySem.W.mg_of X G a6, k6, B6⟩
  have F7 := fun_mk (st := st_l_words) l7 c7 k7
  have B7 := F7.binds (ps := ["_law_draw", "_law_many"]) fun _ _ _ _ _ _ us hl => match us, hl with | [_, _], _ => rfl
  have hD_l_words : DefV l.prog w K mg base 4 "_law_words" 2 den_l_words := ⟨_, _, _, ok_l_words (T := T) (D_l_word := hD_l_word) (F := F7), PySem.W.mg_of X G a7, k7, B7⟩
  have F8 := fun_mk (st := st_l_functions) l8 c8 k8
  have B8 := F8.binds (ps := ["_law_draw", "_law_most", "_law_size"]) fun _ _ _ _ _ _ us hl => match us, hl with | [_, _, _], _ => rfl
  have hD_l_functions : DefV l.prog w K mg base 5 "_law_functions" 3 den_l_functions := ⟨_, _, _, ok_l_functions (T := T) (D_l_next := hD_l_next) (D_l_code := hD_l_code) (D_l_landings := hD_l_landings) (D_l_words := hD_l_words) (F := F8), PySem.W.mg_of X G a8, k8, B8⟩
  have F9 := fun_mk (st := st_is_name) l9 c9 k9
  have B9 := F9.binds (ps := ["thing"]) fun _ _ _ _ _ _ us hl => match us, hl with | [_], _ => rfl
  have hD_is_name : DefV l.prog w K mg base 1 "is_name" 1 den_is_name := ⟨_, _, _, ok_is_name (T := T)  (F := F9), PySem.W.mg_of X G a9, k9, B9⟩
  have F10 := fun_mk (st := st_is_number) l10 c10 k10
  have B10 := F10.binds (ps := ["thing"]) fun _ _ _ _ _ _ us hl => match us, hl with | [_], _ => rfl
  have hD_is_number : DefV l.prog w K mg base 1 "is_number" 1 den_is_number := ⟨_, _, _, ok_is_number (T := T)  (F := F10), PySem.W.mg_of X G a10, k10, B10⟩
  have F11 := fun_mk (st := st_is_near) l11 c11 k11
  have B11 := F11.binds (ps := ["thing"]) fun _ _ _ _ _ _ us hl => match us, hl with | [_], _ => rfl
  have hD_is_near : DefV l.prog w K mg base 2 "is_near" 1 den_is_near := ⟨_, _, _, ok_is_near (T := T) (D_is_number := hD_is_number) (F := F11), PySem.W.mg_of X G a11, k11, B11⟩
  have F12 := fun_mk (st := st_fits) l12 c12 k12
  have B12 := F12.binds (ps := ["kind", "thing", "many"]) fun _ _ _ _ _ _ us hl => match us, hl with | [_, _, _], _ => rfl
  have hD_fits : DefV l.prog w K mg base 3 "fits" 3 den_fits := ⟨_, _, _, ok_fits (T := T) (D_is_name := hD_is_name) (D_is_number := hD_is_number) (D_is_near := hD_is_near) (F := F12), PySem.W.mg_of X G a12, k12, B12⟩
  have F13 := fun_mk (st := st_is_instruction) l13 c13 k13
  have B13 := F13.binds (ps := ["thing", "many"]) fun _ _ _ _ _ _ us hl => match us, hl with | [_, _], _ => rfl
  have hD_is_instruction : DefV l.prog w K mg base 4 "is_instruction" 2 den_is_instruction := ⟨_, _, _, ok_is_instruction (T := T) (D_fits := hD_fits) (F := F13), PySem.W.mg_of X G a13, k13, B13⟩
  have F14 := fun_mk (st := st_is_landing) l14 c14 k14
  have B14 := F14.binds (ps := ["thing", "many"]) fun _ _ _ _ _ _ us hl => match us, hl with | [_, _], _ => rfl
  have hD_is_landing : DefV l.prog w K mg base 2 "is_landing" 2 den_is_landing := ⟨_, _, _, ok_is_landing (T := T) (D_is_number := hD_is_number) (F := F14), PySem.W.mg_of X G a14, k14, B14⟩
  have F15 := fun_mk (st := st_Function_init) l15 c15 k15
  have hCD_Function : MakeD l.prog w K mg base 5 "Function" 2 (.tup []) den_Function_init := by
    obtain ⟨v, rv, qv⟩ := (show RepU K (.ref a_kw15) (.tup []) from (.tups gl_kw15 gs_kw15 gz_kw15))
    exact ⟨_, _, _, _, v, _, ok_Function_init (T := T) (D_is_name := hD_is_name) (D_is_instruction := hD_is_instruction) (D_is_landing := hD_is_landing) (F := F15), ⟨mk_Function, a15, i15, kc_Function⟩, PySem.W.mg_of X G aC_Function, aC_Function, bindsD_of (n := 3) kd15 rfl (fun us ks h1 h2 => match us, ks, h1, h2 with | [_, _, _], [_], _, _ => ⟨_, _, _, _, _, _, rfl, rfl, rfl⟩), rv, qv⟩
  have hCW_Function : MakeW l.prog w K mg base 5 "Function" "landings" 2 den_Function_init := ⟨_, _, _, _, ok_Function_init (T := T) (D_is_name := hD_is_name) (D_is_instruction := hD_is_instruction) (D_is_landing := hD_is_landing) (F := F15), ⟨mk_Function, a15, i15, kc_Function⟩, PySem.W.mg_of X G aC_Function, aC_Function, kbn_of (fun us ws h1 h2 => match us, ws, h1, h2 with | [_, _, _], [_], _, _ => rfl)⟩
  have F16 := fun_mk (st := st_Program_init) l16 c16 k16
  have B16 := F16.binds (ps := ["self", "functions"]) fun _ _ _ _ _ _ us hl => match us, hl with | [_, _], _ => rfl
  have hC_Program : MakeV l.prog w K mg base 1 "Program" 1 den_Program_init := ⟨_, _, _, _, ok_Program_init (T := T)  (F := F16), ⟨mk_Program, a16, i16, kc_Program⟩, PySem.W.mg_of X G aC_Program, aC_Program, B16⟩
  have F17 := fun_mk (st := st_l_program) l17 c17 k17
  have B17 := F17.binds (ps := ["_law_rows"]) fun _ _ _ _ _ _ us hl => match us, hl with | [_], _ => rfl
  have hD_l_program : DefV l.prog w K mg base 7 "_law_program" 1 den_l_program := ⟨_, _, _, ok_l_program (T := T) (CD_Function := hCD_Function) (CW_Function := hCW_Function) (C_Program := hC_Program) (F := F17), PySem.W.mg_of X G a17, k17, B17⟩
  have F18 := fun_mk (st := st_l_same) l18 c18 k18
  have B18 := F18.binds (ps := ["_law_program_here", "_law_rows"]) fun _ _ _ _ _ _ us hl => match us, hl with | [_, _], _ => rfl
  have hD_l_same : DefG l.prog w K mg base 1 "_law_same" 2 den_l_same := ⟨_, _, _, ok_l_same (T := T)  (F := F18), PySem.W.mg_of X G a18, k18, B18⟩
  have F19 := fun_mk (st := st_l_row) l19 c19 k19
  have B19 := F19.binds (ps := ["_law_things"]) fun _ _ _ _ _ _ us hl => match us, hl with | [_], _ => rfl
  have hD_l_row : DefV l.prog w K mg base 1 "_law_row" 1 den_l_row := ⟨_, _, _, ok_l_row (T := T)  (F := F19), PySem.W.mg_of X G a19, k19, B19⟩
  have F20 := fun_mk (st := st_l_text) l20 c20 k20
  have B20 := F20.binds (ps := ["_law_rows"]) fun _ _ _ _ _ _ us hl => match us, hl with | [_], _ => rfl
  have hD_l_text : DefV l.prog w K mg base 2 "_law_text" 1 den_l_text := ⟨_, _, _, ok_l_text (T := T) (D_l_row := hD_l_row) (F := F20), PySem.W.mg_of X G a20, k20, B20⟩
  have F21 := fun_mk (st := st_trow_of) l21 c21 k21
  have B21 := F21.binds (ps := ["things"]) fun _ _ _ _ _ _ us hl => match us, hl with | [_], _ => rfl
  have hD_trow_of : DefV l.prog w K mg base 1 "row_of" 1 den_trow_of := ⟨_, _, _, ok_trow_of (T := T)  (F := F21), PySem.W.mg_of X G a21, k21, B21⟩
  have F22 := fun_mk (st := st_program_text) l22 c22 k22
  have B22 := F22.binds (ps := ["program"]) fun _ _ _ _ _ _ us hl => match us, hl with | [_], _ => rfl
  have hD_program_text : DefV l.prog w K mg base 2 "program_text" 1 den_program_text := ⟨_, _, _, ok_program_text (T := T) (D_trow_of := hD_trow_of) (F := F22), PySem.W.mg_of X G a22, k22, B22⟩
  have F23 := fun_mk (st := st_law) l23 c23 k23
  exact ok_law (T := T) (D_l_functions := hD_l_functions) (D_l_program := hD_l_program) (D_l_same := hD_l_same) (D_l_text := hD_l_text) (D_program_text := hD_program_text) (F := F23)
theorem walk {l : PySem.W.OpenLaw} {q : Program} {loose : List Str} {XP : (Str → Option Value) → Heap → Prop} {YP : World → Heap → Prop} {d : DefRec} {K : Params → PySem.W.Frag} (hn : l.most = some 63) (hdf : d.params.defaults = [])
    (hY : ∀ (w : World) (h : Heap), YP w h → (K w.params).In h)
    (F : ∀ (w : World) (mg : Str → Option Value) (fa : Addr) (h : Heap), (K w.params).In h → h.Ns mainGlobals mg → mg d.name = some (.ref fa) →
      ∃ fd : FuncData, (∀ (s : Shared) (u : Value), BindsTo s fd ⟨[u], []⟩ [("_law_script", u)]) ∧ ∀ base : Heap, (K w.params).In base → base.Ns mainGlobals mg → FnG l.prog w (K w.params) mg base CX0 8 fa fd ["_law_script"] (spV (K w.params) 1 den_law)) :
    PySem.W.WalkO q loose XP YP l.row.toRowW d [] (fun f vs => PySem.call f vs) :=
  walkG (n := 63) (k := 8) (x := "_law_script") (sp := fun w => spV (K w.params) 1 den_law) hn (by decide) hdf ⟨rfl, by decide, by decide⟩ hY F fun _ _ a ns hl _ hS => spV_law hS (law_ok ns hl)
end J05

open PySem PySem.W PyProof.Rows in
set_option maxRecDepth 100000 in
set_option maxHeartbeats 0 in
theorem PySem.Challenge.cw_walkback_k05_programs_written_holds : PySem.Challenge.rw_walkback_k05_programs_written.Holds := by
  w_on; o_law; k_head; (case hw => w_witness2)
  k_fill
  refine J05.walk (l := PySem.Challenge.rw_walkback_k05_programs_written) rfl rfl (fun w h Y => PySem.W.kIn_of Y) ?F
  case F =>
    intro w mg fa h KX G hmg
    refine' J05.all_mk KX G hmg ?aC_Function ?pg_Function ?hd_Function ?po_Function ?sa_Function ?mk_Function ?kc_Function ?nf_Function_code ?nf_Function_landings ?nf_Function_name ?aC_Program ?pg_Program ?hd_Program ?po_Program ?sa_Program ?mk_Program ?kc_Program ?nf_Program_functions ?a0 ?l0 ?c0 ?k0 ?a1 ?l1 ?c1 ?k1 ?a2 ?l2 ?c2 ?k2 ?a3 ?l3 ?c3 ?k3 ?a4 ?l4 ?c4 ?k4 ?a5 ?l5 ?c5 ?k5 ?a6 ?l6 ?c6 ?k6 ?a7 ?l7 ?c7 ?k7 ?a8 ?l8 ?c8 ?k8 ?a9 ?l9 ?c9 ?k9 ?a10 ?l10 ?c10 ?k10 ?a11 ?l11 ?c11 ?k11 ?a12 ?l12 ?c12 ?k12 ?a13 ?l13 ?c13 ?k13 ?a14 ?l14 ?c14 ?k14 ?a15 ?i15 ?l15 ?c15 ?k15 ?a16 ?i16 ?l16 ?c16 ?k16 ?a17 ?l17 ?c17 ?k17 ?a18 ?l18 ?c18 ?k18 ?a19 ?l19 ?c19 ?k19 ?a20 ?l20 ?c20 ?k20 ?a21 ?l21 ?c21 ?k21 ?a22 ?l22 ?c22 ?k22 ?a23 ?l23 ?c23 ?k23 ?g_mSHAPES ?gl_mSHAPES ?gk_mSHAPES ?gw_mSHAPES ?gb_mSHAPES ?gv_mSHAPES ?gl_mSHAPES_0 ?gs_mSHAPES_0 ?gz_mSHAPES_0 ?gl_mSHAPES_1 ?gs_mSHAPES_1 ?gz_mSHAPES_1 ?gl_mSHAPES_2 ?gs_mSHAPES_2 ?gz_mSHAPES_2 ?gl_mSHAPES_3 ?gs_mSHAPES_3 ?gz_mSHAPES_3 ?gl_mSHAPES_4 ?gs_mSHAPES_4 ?gz_mSHAPES_4 ?gl_mSHAPES_5 ?gs_mSHAPES_5 ?gz_mSHAPES_5 ?gl_mSHAPES_6 ?gs_mSHAPES_6 ?gz_mSHAPES_6 ?gl_mSHAPES_7 ?gs_mSHAPES_7 ?gz_mSHAPES_7 ?gl_mSHAPES_8 ?gs_mSHAPES_8 ?gz_mSHAPES_8 ?gl_mSHAPES_9 ?gs_mSHAPES_9 ?gz_mSHAPES_9 ?gl_mSHAPES_10 ?gs_mSHAPES_10 ?gz_mSHAPES_10 ?gl_mSHAPES_11 ?gs_mSHAPES_11 ?gz_mSHAPES_11 ?gl_mSHAPES_12 ?gs_mSHAPES_12 ?gz_mSHAPES_12 ?gl_mSHAPES_13 ?gs_mSHAPES_13 ?gz_mSHAPES_13 ?gl_mSHAPES_14 ?gs_mSHAPES_14 ?gz_mSHAPES_14 ?g_LETTERS ?gs_LETTERS ?g_MOST_CODE ?gs_MOST_CODE ?g_MOST_FUNCTIONS ?gs_MOST_FUNCTIONS ?g_MOST_NEAR ?gs_MOST_NEAR ?g_REGISTERS ?gl_REGISTERS ?gs_REGISTERS ?gz_REGISTERS ?g_WORDS ?gl_WORDS ?gs_WORDS ?gz_WORDS ?z_all ?z_bool ?z_enumerate ?z_int ?z_isinstance ?z_len ?z_list ?z_max ?z_min ?z_range ?z_repr ?z_set ?z_str ?z_tuple ?z_zip ?kd15 ?gl_kw15 ?gs_kw15 ?gz_kw15
    (case aC_Function => k_is)
    (case pg_Function => k_is)
    (case hd_Function => k_is)
    (case po_Function => k_is)
    (case sa_Function => k_is)
    (case mk_Function => k_is)
    (case kc_Function => k_is)
    (case nf_Function_code => k_is)
    (case nf_Function_landings => k_is)
    (case nf_Function_name => k_is)
    (case aC_Program => k_is)
    (case pg_Program => k_is)
    (case hd_Program => k_is)
    (case po_Program => k_is)
    (case sa_Program => k_is)
    (case mk_Program => k_is)
    (case kc_Program => k_is)
    (case nf_Program_functions => k_is)
    (case a0 => k_is)
    (case l0 => k_is)
    (case c0 => k_is)
    (case k0 => k_is)
    (case a1 => k_is)
    (case l1 => k_is)
    (case c1 => k_is)
    (case k1 => k_is)
    (case a2 => k_is)
    (case l2 => k_is)
    (case c2 => k_is)
    (case k2 => k_is)
    (case a3 => k_is)
    (case l3 => k_is)
    (case c3 => k_is)
    (case k3 => k_is)
    (case a4 => k_is)
    (case l4 => k_is)
    (case c4 => k_is)
    (case k4 => k_is)
    (case a5 => k_is)
    (case l5 => k_is)
    (case c5 => k_is)
    (case k5 => k_is)
    (case a6 => k_is)
    (case l6 => k_is)
    (case c6 => k_is)
    (case k6 => k_is)
    (case a7 => k_is)
    (case l7 => k_is)
    (case c7 => k_is)
    (case k7 => k_is)
    (case a8 => k_is)
    (case l8 => k_is)
    (case c8 => k_is)
    (case k8 => k_is)
    (case a9 => k_is)
    (case l9 => k_is)
    (case c9 => k_is)
    (case k9 => k_is)
    (case a10 => k_is)
    (case l10 => k_is)
    (case c10 => k_is)
    (case k10 => k_is)
    (case a11 => k_is)
    (case l11 => k_is)
    (case c11 => k_is)
    (case k11 => k_is)
    (case a12 => k_is)
    (case l12 => k_is)
    (case c12 => k_is)
    (case k12 => k_is)
    (case a13 => k_is)
    (case l13 => k_is)
    (case c13 => k_is)
    (case k13 => k_is)
    (case a14 => k_is)
    (case l14 => k_is)
    (case c14 => k_is)
    (case k14 => k_is)
    (case a15 => k_is)
    (case i15 => k_is)
    (case l15 => k_is)
    (case c15 => k_is)
    (case k15 => k_is)
    (case a16 => k_is)
    (case i16 => k_is)
    (case l16 => k_is)
    (case c16 => k_is)
    (case k16 => k_is)
    (case a17 => k_is)
    (case l17 => k_is)
    (case c17 => k_is)
    (case k17 => k_is)
    (case a18 => k_is)
    (case l18 => k_is)
    (case c18 => k_is)
    (case k18 => k_is)
    (case a19 => k_is)
    (case l19 => k_is)
    (case c19 => k_is)
    (case k19 => k_is)
    (case a20 => k_is)
    (case l20 => k_is)
    (case c20 => k_is)
    (case k20 => k_is)
    (case a21 => k_is)
    (case l21 => k_is)
    (case c21 => k_is)
    (case k21 => k_is)
    (case a22 => k_is)
    (case l22 => k_is)
    (case c22 => k_is)
    (case k22 => k_is)
    (case a23 => k_is)
    (case l23 => k_is)
    (case c23 => k_is)
    (case k23 => k_is)
    (case g_mSHAPES => k_is)
    (case gl_mSHAPES => k_is)
    (case gk_mSHAPES => k_keys)
    (case gw_mSHAPES => decide +kernel)
    (case gb_mSHAPES => rfl)
    (case gv_mSHAPES => rfl)
    (case gl_mSHAPES_0 => k_is)
    (case gs_mSHAPES_0 => decide +kernel)
    (case gz_mSHAPES_0 => decide +kernel)
    (case gl_mSHAPES_1 => k_is)
    (case gs_mSHAPES_1 => decide +kernel)
    (case gz_mSHAPES_1 => decide +kernel)
    (case gl_mSHAPES_2 => k_is)
    (case gs_mSHAPES_2 => decide +kernel)
    (case gz_mSHAPES_2 => decide +kernel)
    (case gl_mSHAPES_3 => k_is)
    (case gs_mSHAPES_3 => decide +kernel)
    (case gz_mSHAPES_3 => decide +kernel)
    (case gl_mSHAPES_4 => k_is)
    (case gs_mSHAPES_4 => decide +kernel)
    (case gz_mSHAPES_4 => decide +kernel)
    (case gl_mSHAPES_5 => k_is)
    (case gs_mSHAPES_5 => decide +kernel)
    (case gz_mSHAPES_5 => decide +kernel)
    (case gl_mSHAPES_6 => k_is)
    (case gs_mSHAPES_6 => decide +kernel)
    (case gz_mSHAPES_6 => decide +kernel)
    (case gl_mSHAPES_7 => k_is)
    (case gs_mSHAPES_7 => decide +kernel)
    (case gz_mSHAPES_7 => decide +kernel)
    (case gl_mSHAPES_8 => k_is)
    (case gs_mSHAPES_8 => decide +kernel)
    (case gz_mSHAPES_8 => decide +kernel)
    (case gl_mSHAPES_9 => k_is)
    (case gs_mSHAPES_9 => decide +kernel)
    (case gz_mSHAPES_9 => decide +kernel)
    (case gl_mSHAPES_10 => k_is)
    (case gs_mSHAPES_10 => decide +kernel)
    (case gz_mSHAPES_10 => decide +kernel)
    (case gl_mSHAPES_11 => k_is)
    (case gs_mSHAPES_11 => decide +kernel)
    (case gz_mSHAPES_11 => decide +kernel)
    (case gl_mSHAPES_12 => k_is)
    (case gs_mSHAPES_12 => decide +kernel)
    (case gz_mSHAPES_12 => decide +kernel)
    (case gl_mSHAPES_13 => k_is)
    (case gs_mSHAPES_13 => decide +kernel)
    (case gz_mSHAPES_13 => decide +kernel)
    (case gl_mSHAPES_14 => k_is)
    (case gs_mSHAPES_14 => decide +kernel)
    (case gz_mSHAPES_14 => decide +kernel)
    (case g_LETTERS => k_is)
    (case gs_LETTERS => decide +kernel)
    (case g_MOST_CODE => k_is)
    (case gs_MOST_CODE => decide +kernel)
    (case g_MOST_FUNCTIONS => k_is)
    (case gs_MOST_FUNCTIONS => decide +kernel)
    (case g_MOST_NEAR => k_is)
    (case gs_MOST_NEAR => decide +kernel)
    (case g_REGISTERS => k_is)
    (case gl_REGISTERS => k_is)
    (case gs_REGISTERS => decide +kernel)
    (case gz_REGISTERS => decide +kernel)
    (case g_WORDS => k_is)
    (case gl_WORDS => k_is)
    (case gs_WORDS => decide +kernel)
    (case gz_WORDS => decide +kernel)
    (case z_all => k_is)
    (case z_bool => k_is)
    (case z_enumerate => k_is)
    (case z_int => k_is)
    (case z_isinstance => k_is)
    (case z_len => k_is)
    (case z_list => k_is)
    (case z_max => k_is)
    (case z_min => k_is)
    (case z_range => k_is)
    (case z_repr => k_is)
    (case z_set => k_is)
    (case z_str => k_is)
    (case z_tuple => k_is)
    (case z_zip => k_is)
    (case kd15 => k_is)
    (case gl_kw15 => k_is)
    (case gs_kw15 => decide +kernel)
    (case gz_kw15 => decide +kernel)

