import PyProof.Rows.All
import Wide.All
import OpenK.AllK
import Wide.FinOn
import HandS.ForMost
import HandS.ForExc
import HandS.Flow
import HandS.Deep
import HandS.DictComp
import HandS.IsInst
import HandS.Zip
import HandS.Rev
import HandS.Wide
import HandS.Text
import KE.SortData
import KE.LtData
import HandS.TupAny
import HandS.TupLe
import PyProof.SeqRoads2
import HandS.Small
import HandS.EndBits
import PySem.Challenge.RW_waylands_k02_net_things
set_option Elab.async false
set_option linter.all false
set_option maxRecDepth 100000
namespace Mp
open PySem PySem.Spec PyProof.Rows L2

def TuA (H : Hp) (a : Addr) (vs : List V) : Prop := H a = some (.tup vs)
inductive I where
  | non | bl (b : Bool) | int (i : Int) | str (x : Str) | tup (xs : List I)
inductive D where
  | i (x : I)
  | lst (xs : List D)
  | tup (xs : List D)
  | dk (kvs : List (Key × D))
  | dt (kvs : List (List Key × D))
instance : Inhabited I := ⟨.non⟩
instance : Inhabited D := ⟨.i .non⟩

mutual
inductive RI (H : Hp) : I → V → Prop
  | non : RI H .non .non
  | bl (b : Bool) : RI H (.bl b) (.bl b)
  | int (i : Int) : RI H (.int i) (.int i)
  | str (x : Str) : PyData.strOk x = true → RI H (.str x) (.str x)
  | tup {a : Addr} {vs : List V} {xs : List I} : TuA H a vs → RIs H xs vs → RI H (.tup xs) (.ref a)
inductive RIs (H : Hp) : List I → List V → Prop
  | nil : RIs H [] []
  | cons {x : I} {v : V} {xs : List I} {vs : List V} : RI H x v → RIs H xs vs → RIs H (x :: xs) (v :: vs)
end
mutual
inductive RD (H : Hp) : D → V → List Addr → Prop
  | i {x : I} {v : V} : RI H x v → RD H (.i x) v []
  | lst {a : Addr} {vs : List V} {ds : List D} {S : List Addr} : Rd H a (.lst vs) → RDs H ds vs S → RD H (.lst ds) (.ref a) (a :: S)
  | tup {a : Addr} {vs : List V} {ds : List D} {S : List Addr} : TuA H a vs → RDs H ds vs S → RD H (.tup ds) (.ref a) S
  | dk {a : Addr} {kvs : List (Key × V)} {kds : List (Key × D)} {S : List Addr} : Rd H a (.dK kvs) → RDk H kds kvs S → (kvs.map (·.1)).Nodup → RD H (.dk kds) (.ref a) (a :: S)
  | dt {a : Addr} {kvs : List (List Key × V)} {kds : List (List Key × D)} {S : List Addr} : Rd H a (.dT kvs) → RDt H kds kvs S → (kvs.map (·.1)).Nodup → RD H (.dt kds) (.ref a) (a :: S)
inductive RDs (H : Hp) : List D → List V → List Addr → Prop
  | nil : RDs H [] [] []
  | cons {d : D} {v : V} {ds : List D} {vs : List V} {S T : List Addr} : RD H d v S → RDs H ds vs T → RDs H (d :: ds) (v :: vs) (S ++ T)
inductive RDk (H : Hp) : List (Key × D) → List (Key × V) → List Addr → Prop
  | nil : RDk H [] [] []
  | cons {k : Key} {d : D} {v : V} {ds : List (Key × D)} {vs : List (Key × V)} {S T : List Addr} : RD H d v S → RDk H ds vs T → RDk H ((k, d) :: ds) ((k, v) :: vs) (S ++ T)
inductive RDt (H : Hp) : List (List Key × D) → List (List Key × V) → List Addr → Prop
  | nil : RDt H [] [] []
  | cons {k : List Key} {d : D} {v : V} {ds : List (List Key × D)} {vs : List (List Key × V)} {S T : List Addr} : RD H d v S → RDt H ds vs T → RDt H ((k, d) :: ds) ((k, v) :: vs) (S ++ T)
end

def TupK (H H' : Hp) : Prop := ∀ a vs, TuA H a vs → TuA H' a vs
def On (S : List Addr) (H H' : Hp) : Prop := ∀ a ∈ S, ∀ o, H a = some o → H' a = some o

section
variable {H H' : Hp}
mutual
theorem RI.mono (t : TupK H H') : ∀ {x : I} {v : V}, RI H x v → RI H' x v
  | _, _, .non => .non
  | _, _, .bl b => .bl b
  | _, _, .int i => .int i
  | _, _, .str x h => .str x h
  | _, _, .tup h r => .tup (t _ _ h) (RIs.mono t r)
theorem RIs.mono (t : TupK H H') : ∀ {xs : List I} {vs : List V}, RIs H xs vs → RIs H' xs vs
  | _, _, .nil => .nil
  | _, _, .cons h r => .cons (RI.mono t h) (RIs.mono t r)
end
theorem Rd.on {a : Addr} {u : HO} {S : List Addr} (h : Rd H a u) (hs : On (a :: S) H H') : Rd H' a u := by
  rcases h with h | ⟨o, h⟩
  · exact .inl (hs a List.mem_cons_self _ h)
  · exact .inr ⟨o, hs a List.mem_cons_self _ h⟩
theorem On.tail {a : Addr} {S : List Addr} (h : On (a :: S) H H') : On S H H' := fun b hb => h b (List.mem_cons_of_mem _ hb)
theorem On.left {S T : List Addr} (h : On (S ++ T) H H') : On S H H' := fun b hb => h b (List.mem_append_left _ hb)
theorem On.right {S T : List Addr} (h : On (S ++ T) H H') : On T H H' := fun b hb => h b (List.mem_append_right _ hb)
mutual
theorem RD.mono (t : TupK H H') : ∀ {d : D} {v : V} {S : List Addr}, RD H d v S → On S H H' → RD H' d v S
  | _, _, _, .i h, _ => .i (RI.mono t h)
  | _, _, _, .lst h r, o => .lst (Rd.on h o) (RDs.mono t r o.tail)
  | _, _, _, .tup h r, o => .tup (t _ _ h) (RDs.mono t r o)
  | _, _, _, .dk h r n, o => .dk (Rd.on h o) (RDk.mono t r o.tail) n
  | _, _, _, .dt h r n, o => .dt (Rd.on h o) (RDt.mono t r o.tail) n
theorem RDs.mono (t : TupK H H') : ∀ {d : List D} {v : List V} {S : List Addr}, RDs H d v S → On S H H' → RDs H' d v S
  | _, _, _, .nil, _ => .nil
  | _, _, _, .cons h r, o => .cons (RD.mono t h o.left) (RDs.mono t r o.right)
theorem RDk.mono (t : TupK H H') : ∀ {d : List (Key × D)} {v : List (Key × V)} {S : List Addr}, RDk H d v S → On S H H' → RDk H' d v S
  | _, _, _, .nil, _ => .nil
  | _, _, _, .cons h r, o => .cons (RD.mono t h o.left) (RDk.mono t r o.right)
theorem RDt.mono (t : TupK H H') : ∀ {d : List (List Key × D)} {v : List (List Key × V)} {S : List Addr}, RDt H d v S → On S H H' → RDt H' d v S
  | _, _, _, .nil, _ => .nil
  | _, _, _, .cons h r, o => .cons (RD.mono t h o.left) (RDt.mono t r o.right)
end
theorem Rd.there {a : Addr} {u : HO} (h : Rd H a u) : H a ≠ none := by
  rcases h with h | ⟨o, h⟩ <;> rw [h] <;> exact fun z => by cases z
theorem mem_app {S T : List Addr} {P : Addr → Prop} (h1 : ∀ a ∈ S, P a) (h2 : ∀ a ∈ T, P a) : ∀ a ∈ S ++ T, P a := fun a ha =>
  (List.mem_append.mp ha).elim (h1 a) (h2 a)
theorem mem_con {b : Addr} {T : List Addr} {P : Addr → Prop} (h1 : P b) (h2 : ∀ a ∈ T, P a) : ∀ a ∈ b :: T, P a := fun a ha =>
  (List.mem_cons.mp ha).elim (fun e => e ▸ h1) (h2 a)
mutual
theorem RD.there : ∀ {d : D} {v : V} {S : List Addr}, RD H d v S → ∀ a ∈ S, H a ≠ none
  | _, _, _, .i _ => fun a h => nomatch h
  | _, _, _, .lst h r => mem_con (Rd.there h) (RDs.there r)
  | _, _, _, .tup _ r => RDs.there r
  | _, _, _, .dk h r _ => mem_con (Rd.there h) (RDk.there r)
  | _, _, _, .dt h r _ => mem_con (Rd.there h) (RDt.there r)
theorem RDs.there : ∀ {d : List D} {v : List V} {S : List Addr}, RDs H d v S → ∀ a ∈ S, H a ≠ none
  | _, _, _, .nil => fun a h => nomatch h
  | _, _, _, .cons h r => mem_app (RD.there h) (RDs.there r)
theorem RDk.there : ∀ {d : List (Key × D)} {v : List (Key × V)} {S : List Addr}, RDk H d v S → ∀ a ∈ S, H a ≠ none
  | _, _, _, .nil => fun a h => nomatch h
  | _, _, _, .cons h r => mem_app (RD.there h) (RDk.there r)
theorem RDt.there : ∀ {d : List (List Key × D)} {v : List (List Key × V)} {S : List Addr}, RDt H d v S → ∀ a ∈ S, H a ≠ none
  | _, _, _, .nil => fun a h => nomatch h
  | _, _, _, .cons h r => mem_app (RD.there h) (RDt.there r)
end
end
def NFz (H : Hp) (a : Addr) : Prop := ∀ o u, H a ≠ some (.frz o u)

abbrev Inf := List (List Nat)
def rt (inf : Inf) (i : Nat) : List Nat := inf.getD i []
def own (inf : Inf) (i : Nat) : Prop := rt inf i = [i]
instance (inf : Inf) (i : Nat) : Decidable (own inf i) := by unfold own; infer_instance
abbrev FP := Nat → List Addr
abbrev Env := List (Option D)
def getE (ρ : Env) (i : Nat) : Option D := (ρ[i]?).join

structure Cn (inf : Inf) (B : Addr → Prop) (lk : List Nat) (ρ : Env) (σ : L2.St) (H : Hp) (F : FP) : Prop where
  rep : ∀ i d, getE ρ i = some d → ∃ v, σ[i]? = some (some v) ∧ RD H d v (F i)
  nil : ∀ i, getE ρ i = none → F i = []
  sep : ∀ i j, own inf j → j ∉ rt inf i → ∀ a ∈ F i, a ∉ F j
  nd : ∀ i, own inf i → (F i).Nodup
  ex : ∀ i, own inf i → i ∉ lk → ∀ a ∈ F i, NFz H a
  mine : ∀ i, own inf i → ∀ a ∈ F i, B a
  nb : ∀ a, H a = none → B a
  len : ρ.length = σ.length

structure Fr (inf : Inf) (T : List Nat) (F : FP) (H : Hp) (F' : FP) (H' : Hp) : Prop where
  keep : ∀ a o, H a = some o → (∀ j ∈ T, own inf j → a ∉ F j) → H' a = some o
  there : ∀ a, H a ≠ none → H' a ≠ none
  same : ∀ k, k ∉ T → F' k = F k ∨ F' k = []
  from' : ∀ k ∈ T, own inf k → ∀ a ∈ F' k, H a = none ∨ ∃ j ∈ T, own inf j ∧ a ∈ F j
  tup : TupK H H'

theorem Fr.refl {inf T F H} : Fr inf T F H F H := ⟨fun _ _ h _ => h, fun _ h => h, fun _ _ => .inl rfl, fun k hk ho a ha => .inr ⟨k, hk, ho, ha⟩, fun _ _ h => h⟩
theorem Fr.nn {inf T F H F1 H1} (a : Fr inf T F H F1 H1) {x : Addr} (h : H1 x = none) : H x = none := by
  cases e : H x with
  | none => rfl
  | some o => exact absurd h (a.there x (by rw [e]; exact fun z => by cases z))
theorem Fr.trans {inf T U F H F1 H1 F2 H2} (a : Fr inf T F H F1 H1) (b : Fr inf U F1 H1 F2 H2) : Fr inf (T ++ U) F H F2 H2 where
  keep := fun x o h hn => by
    refine b.keep x o (a.keep x o h fun j hj hjo => hn j (List.mem_append_left _ hj) hjo) fun j hj ho hx => ?_
    by_cases hT : j ∈ T
    · rcases a.from' j hT ho x hx with z | ⟨j', hj', ho', hx'⟩
      · rw [h] at z; cases z
      · exact hn j' (List.mem_append_left _ hj') ho' hx'
    · rcases a.same j hT with z | z
      · rw [z] at hx; exact hn j (List.mem_append_right _ hj) ho hx
      · rw [z] at hx; cases hx
  there := fun x h => b.there x (a.there x h)
  same := fun k hk => by
    have h1 : k ∉ T := fun z => hk (List.mem_append_left _ z)
    have h2 : k ∉ U := fun z => hk (List.mem_append_right _ z)
    rcases b.same k h2 with e | e
    · rcases a.same k h1 with e' | e'
      · exact .inl (e.trans e')
      · exact .inr (e.trans e')
    · exact .inr e
  from' := fun k hk ho x hx => by
    have back : ∀ j, own inf j → j ∈ T ++ U → x ∈ F1 j → H x = none ∨ ∃ j ∈ T ++ U, own inf j ∧ x ∈ F j := fun j hjo hj hx => by
      by_cases hT : j ∈ T
      · rcases a.from' j hT hjo x hx with z | ⟨j', hj', ho', hx'⟩
        · exact .inl z
        · exact .inr ⟨j', List.mem_append_left _ hj', ho', hx'⟩
      · rcases a.same j hT with z | z
        · rw [z] at hx; exact .inr ⟨j, hj, hjo, hx⟩
        · rw [z] at hx; cases hx
    by_cases hU : k ∈ U
    · rcases b.from' k hU ho x hx with z | ⟨j, hj, hjo, hxj⟩
      · refine .inl ?_
        cases e : H x with
        | none => rfl
        | some o => exact absurd z (a.there x (by rw [e]; exact fun z => by cases z))
      · exact back j hjo (List.mem_append_right _ hj) hxj
    · rcases b.same k hU with z | z
      · rw [z] at hx; exact back k ho hk hx
      · rw [z] at hx; cases hx
  tup := fun x vs h => b.tup x vs (a.tup x vs h)
theorem Fr.mono {inf T U F H F1 H1} (a : Fr inf T F H F1 H1) (hs : ∀ j ∈ T, j ∈ U) : Fr inf U F H F1 H1 where
  keep := fun x o h hn => a.keep x o h fun j hj ho => hn j (hs j hj) ho
  there := a.there
  same := fun k hk => a.same k fun z => hk (hs k z)
  from' := fun k hk ho x hx => by
    by_cases hT : k ∈ T
    · rcases a.from' k hT ho x hx with z | ⟨j, hj, h⟩
      · exact .inl z
      · exact .inr ⟨j, hs j hj, h⟩
    · rcases a.same k hT with z | z
      · rw [z] at hx; exact .inr ⟨k, hk, ho, hx⟩
      · rw [z] at hx; cases hx
  tup := a.tup
theorem Fr.trans1 {inf T F H F1 H1 F2 H2} (a : Fr inf T F H F1 H1) (b : Fr inf T F1 H1 F2 H2) : Fr inf T F H F2 H2 :=
  (a.trans b).mono fun j h => (List.mem_append.mp h).elim id id

inductive Kd where
  | fr | bo (R : List Nat)
def KOk (inf : Inf) (B : Addr → Prop) : Kd → FP → Hp → List Addr → Prop
  | .fr, F, H, S => S.Nodup ∧ (∀ a ∈ S, ∀ k, a ∉ F k) ∧ (∀ a ∈ S, NFz H a ∧ B a)
  | .bo R, F, _, S => ∀ a ∈ S, ∀ j, own inf j → j ∉ R → a ∉ F j
def New (inf : Inf) (T : List Nat) (F : FP) (H : Hp) (S : List Addr) : Prop := ∀ a ∈ S, H a = none ∨ ∃ j ∈ T, own inf j ∧ a ∈ F j
def NewK (inf : Inf) (T : List Nat) (F : FP) (H : Hp) (S : List Addr) : Kd → Prop
  | .fr => New inf T F H S
  | .bo _ => True
def Apart (T : List Nat) : Kd → Prop
  | .fr => True
  | .bo R => ∀ j ∈ T, j ∉ R
instance (T : List Nat) (k : Kd) : Decidable (Apart T k) := by cases k <;> (unfold Apart; infer_instance)

theorem KOk.overB {inf B T F H F' H' S R} (h : KOk inf B (.bo R) F H S) (th : ∀ a ∈ S, H a ≠ none) (f : Fr inf T F H F' H') (ap : ∀ j ∈ T, j ∉ R) : On S H H' ∧ KOk inf B (.bo R) F' H' S := by
  have on : On S H H' := fun a ha o e => f.keep a o e fun j hj hjo => h a ha j hjo (ap j hj)
  refine ⟨on, fun a ha j hjo hjR hx => ?_⟩
  by_cases hT : j ∈ T
  · rcases f.from' j hT hjo a hx with z | ⟨j', hj', ho', z⟩
    · exact th a ha z
    · exact h a ha j' ho' (ap j' hj') z
  · rcases f.same j hT with z | z
    · rw [z] at hx; exact h a ha j hjo hjR hx
    · rw [z] at hx; cases hx
theorem KOk.overF {inf B T F H F' H' S} (h : KOk inf B .fr F H S) (th : ∀ a ∈ S, H a ≠ none) (f : Fr inf T F H F' H') (ow : ∀ j ∈ T, own inf j) : On S H H' ∧ KOk inf B .fr F' H' S := by
  obtain ⟨h1, h2, h3⟩ := h
  have on : On S H H' := fun a ha o e => f.keep a o e fun j _ _ => h2 a ha j
  refine ⟨on, h1, fun a ha k hk => ?_, fun a ha => ⟨fun o u e => ?_, (h3 a ha).2⟩⟩
  · by_cases hT : k ∈ T
    · rcases f.from' k hT (ow k hT) a hk with z | ⟨j, _, _, z⟩
      · exact th a ha z
      · exact h2 a ha j z
    · rcases f.same k hT with z | z
      · rw [z] at hk; exact h2 a ha k hk
      · rw [z] at hk; cases hk
  · cases q : H a with
    | none => exact th a ha q
    | some o' =>
      have := on a ha o' q
      rw [e] at this; cases this
      exact (h3 a ha).1 _ _ q
theorem KOk.over {inf B T F H F' H' S} {k : Kd} (h : KOk inf B k F H S) (th : ∀ a ∈ S, H a ≠ none) (f : Fr inf T F H F' H') (ow : ∀ j ∈ T, own inf j) (ap : Apart T k) : On S H H' ∧ KOk inf B k F' H' S := by
  cases k with
  | fr => exact h.overF th f ow
  | bo R => exact h.overB th f ap
theorem KOk.toB {inf B F H S R} (h : KOk inf B .fr F H S) : KOk inf B (.bo R) F H S := fun a ha j _ _ => h.2.1 a ha j
theorem KOk.nil {inf B F H} : ∀ {k : Kd}, KOk inf B k F H []
  | .fr => ⟨List.nodup_nil, fun a h => absurd h (List.not_mem_nil), fun a h => absurd h (List.not_mem_nil)⟩
  | .bo _ => fun a h => absurd h (List.not_mem_nil)
theorem KOk.sub {inf B F H S S'} : ∀ {k : Kd}, KOk inf B k F H S → S'.Sublist S → KOk inf B k F H S'
  | .fr, h, s => ⟨h.1.sublist s, fun a ha => h.2.1 a (s.subset ha), fun a ha => h.2.2 a (s.subset ha)⟩
  | .bo _, h, s => fun a ha => h a (s.subset ha)
theorem NewK.sub {inf T F H S S'} : ∀ {k : Kd}, NewK inf T F H S k → S'.Sublist S → NewK inf T F H S' k
  | .fr, h, s => fun a ha => h a (s.subset ha)
  | .bo _, _, _ => trivial
theorem NewK.nil {inf T F H} : ∀ {k : Kd}, NewK inf T F H [] k
  | .fr => fun a h => absurd h (List.not_mem_nil)
  | .bo _ => trivial
end Mp

namespace Mp
open PySem PySem.Spec PyProof.Rows L2

inductive R (α : Type) where
  | ok (a : α) (ρ : Env)
  | ex (c : Nat) (fs : List (Str × I)) (ρ : Env)
  | no
abbrev M (α : Type) := Env → R α
@[inline] def bnd {α β : Type} (m : M α) (f : α → M β) : M β := fun ρ => match m ρ with
  | .ok a ρ' => f a ρ'
  | .ex c fs ρ' => .ex c fs ρ'
  | .no => .no
@[inline] def ret {α : Type} (a : α) : M α := fun ρ => .ok a ρ
@[inline] def lift {α : Type} (o : Option α) : M α := fun ρ => match o with
  | some a => .ok a ρ
  | none => .no

structure Cc where
  K : PySem.W.Frag
  inf : Inf
  B : Addr → Prop
  lk : List Nat
  exc : Nat → Addr
  W : Value → Option Addr → L2.St → Hp → Prop
  k : Nat

def XAt (C : Cc) (c : Nat) (fs : List (Str × I)) (cls : Value) (d : Option Addr) (H : Hp) : Prop :=
  cls = .ref (C.exc c) ∧ ∃ x vs, d = some x ∧ H x = some (.xd vs) ∧ Paired (fun (p : Str × I) (q : Str × V) => p.1 = q.1 ∧ RI H p.2 q.2) fs vs
def ExP (C : Cc) (T : List Nat) (ρ' : Env) (σ : L2.St) (F : FP) (H : Hp) (c : Nat) (fs : List (Str × I)) : Prop :=
  ∀ cls d H' F', Cn C.inf C.B C.lk ρ' σ H' F' → Fr C.inf T F H F' H' → XAt C c fs cls d H' → C.W cls d σ H'
theorem ExP.mono {C T U ρ σ F H F1 H1 c fs} (h : ExP C (T ++ U) ρ σ F H c fs) (f : Fr C.inf T F H F1 H1) : ExP C U ρ σ F1 H1 c fs :=
  fun cls d H' F' cn f' x => h cls d H' F' cn (f.trans f') x

def Post (C : Cc) (kd : Kd) (T : List Nat) (ρ' : Env) (σ : L2.St) (F : FP) (H : Hp) (d : D) (Q : VK) : Prop :=
  ∀ v H' F' S, Cn C.inf C.B C.lk ρ' σ H' F' → Fr C.inf T F H F' H' → RD H' d v S → KOk C.inf C.B kd F' H' S → NewK C.inf T F H S kd → Q v H'
def tE (C : Cc) (kd : Kd) (T : List Nat) (m : M D) : TE := fun σ H Q => ∃ ρ F, Cn C.inf C.B C.lk ρ σ H F ∧ match m ρ with
  | .ok d ρ' => Post C kd T ρ' σ F H d Q
  | .ex c fs ρ' => ExP C T ρ' σ F H c fs
  | .no => False
def PostA (C : Cc) (kd : Kd) (T : List Nat) (ρ' : Env) (σ : L2.St) (F : FP) (H : Hp) (ds : List D) (Q : List V → Hp → Prop) : Prop :=
  ∀ vs H' F' S, Cn C.inf C.B C.lk ρ' σ H' F' → Fr C.inf T F H F' H' → RDs H' ds vs S → KOk C.inf C.B kd F' H' S → NewK C.inf T F H S kd → Q vs H'
def tA (C : Cc) (kd : Kd) (T : List Nat) (m : M (List D)) : TA := fun σ H Q => ∃ ρ F, Cn C.inf C.B C.lk ρ σ H F ∧ match m ρ with
  | .ok ds ρ' => PostA C kd T ρ' σ F H ds Q
  | .ex c fs ρ' => ExP C T ρ' σ F H c fs
  | .no => False

theorem PE.weak {X : Cx} {e : Expr} {t t' : TE} (h : PE X e t) (w : ∀ σ H Q, t' σ H Q → t σ H Q) : PE X e t' := ⟨fun pins s σ H Q I q => h.run pins s σ H Q I (w σ H Q q)⟩
theorem PT.weak {X : Cx} {e : Expr} {t t' : TT} (h : PT X e t) (w : ∀ σ H Q, t' σ H Q → t σ H Q) : PT X e t' := ⟨fun pins s σ H Q I q => h.run pins s σ H Q I (w σ H Q q)⟩
theorem PW.weak {X : Cx} {e : Expr} {t t' : TT} (h : PW X e t) (w : ∀ σ H Q, t' σ H Q → t σ H Q) : PW X e t' := ⟨fun wh pins s σ H Q I q => h.run wh pins s σ H Q I (w σ H Q q)⟩
theorem PA.weak {X : Cx} {es : List Expr} {t t' : TA} (h : PA X es t) (w : ∀ σ H Q, t' σ H Q → t σ H Q) : PA X es t' := ⟨fun pos pins s σ H Q I q => h.run pos pins s σ H Q I (w σ H Q q)⟩
theorem PS.weak {X : Cx} {st : Stmt} {t t' : TS} (h : PS X st t) (w : ∀ D σ H, t' D σ H → t D σ H) : PS X st t' := ⟨fun pins s σ H D I q => h.run pins s σ H D I (w D σ H q)⟩
theorem PSs.weak {X : Cx} {st : List Stmt} {t t' : TS} (h : PSs X st t) (w : ∀ D σ H, t' D σ H → t D σ H) : PSs X st t' := ⟨fun pins s σ H D I q => h.run pins s σ H D I (w D σ H q)⟩
theorem PE.or {X : Cx} {e : Expr} {t t' : TE} (h : PE X e t) (h' : PE X e t') : PE X e (fun σ H Q => t σ H Q ∨ t' σ H Q) := ⟨fun pins s σ H Q I q => q.elim (h.run pins s σ H Q I) (h'.run pins s σ H Q I)⟩
theorem PI.or {X : Cx} {tg e : Expr} {t t' : TI} (h : PI X tg e t) (h' : PI X tg e t') : PI X tg e (fun σ H Q => t σ H Q ∨ t' σ H Q) := ⟨fun pins s σ H Q I q => q.elim (h.run pins s σ H Q I) (h'.run pins s σ H Q I)⟩
theorem PS.or {X : Cx} {e : Stmt} {t t' : TS} (h : PS X e t) (h' : PS X e t') : PS X e (fun D σ H => t D σ H ∨ t' D σ H) := ⟨fun pins s σ H D I q => q.elim (h.run pins s σ H D I) (h'.run pins s σ H D I)⟩

def Grow (H H' : Hp) : Prop := ∀ a o, H a = some o → H' a = some o
theorem Grow.refl (H : Hp) : Grow H H := fun _ _ h => h
theorem Grow.upd {H : Hp} {a : Addr} {o : HO} (h : H a = none) : Grow H (upd H a o) := fun b x e => by
  rw [upd_ne (ne_of_none e h)]; exact e
theorem Grow.tup {H H' : Hp} (g : Grow H H') : TupK H H' := fun a vs h => g a _ h
theorem Grow.on {H H' : Hp} (g : Grow H H') (S : List Addr) : On S H H' := fun a _ o e => g a o e
theorem Grow.none {H H' : Hp} (g : Grow H H') {a : Addr} (h : H' a = none) : H a = none := by
  cases e : H a with
  | none => rfl
  | some o => rw [g a o e] at h; cases h
theorem Grow.nfz {H H' : Hp} (g : Grow H H') {a : Addr} (h : H a ≠ Option.none) (n : NFz H a) : NFz H' a := fun o u e => by
  cases q : H a with
  | none => exact h q
  | some x =>
    rw [g a x q] at e
    cases e
    exact n o u q
theorem Grow.fr {inf F H H'} (g : Grow H H') : Fr inf [] F H F H' := ⟨fun a o h _ => g a o h, fun a h h' => h (g.none h'), fun _ _ => .inl rfl, fun _ h => absurd h List.not_mem_nil, g.tup⟩
theorem Grow.cn {inf B lk ρ σ H H' F} (g : Grow H H') (c : Cn inf B lk ρ σ H F) : Cn inf B lk ρ σ H' F where
  rep := fun i d h => let ⟨v, e, r⟩ := c.rep i d h; ⟨v, e, r.mono g.tup (g.on _)⟩
  nil := c.nil
  sep := c.sep
  nd := c.nd
  ex := fun i ho hl a ha => g.nfz (by
    cases e : getE ρ i with
    | none => rw [c.nil i e] at ha; exact absurd ha List.not_mem_nil
    | some d => obtain ⟨v, _, r⟩ := c.rep i d e; exact r.there a ha) (c.ex i ho hl a ha)
  mine := c.mine
  nb := fun a h => c.nb a (g.none h)
  len := c.len
theorem Cn.there {inf B lk ρ σ H F} (c : Cn inf B lk ρ σ H F) {i : Nat} {a : Addr} (h : a ∈ F i) : H a ≠ none := by
  cases e : getE ρ i with
  | none => rw [c.nil i e] at h; exact absurd h List.not_mem_nil
  | some d => obtain ⟨v, _, r⟩ := c.rep i d e; exact r.there a h

structure Part (H H' : Hp) (S S' : List Addr) : Prop where
  nd : S.Nodup → S'.Nodup
  of : ∀ a ∈ S', a ∈ S ∨ (H a = none ∧ NFz H' a)
theorem Part.sub {H H' : Hp} {S S' : List Addr} (h : S'.Sublist S) : Part H H' S S' := ⟨fun n => n.sublist h, fun a ha => .inl (h.subset ha)⟩
theorem Part.nil {H H' : Hp} {S : List Addr} : Part H H' S [] := ⟨fun _ => List.nodup_nil, fun a ha => absurd ha List.not_mem_nil⟩
theorem Part.cons {H H' : Hp} {S S' : List Addr} {p : Addr} (hp : H p = none) (hn : NFz H' p) (hs : ∀ a ∈ S', H a ≠ none) (h : S'.Sublist S) : Part H H' S (p :: S') :=
  ⟨fun n => List.nodup_cons.mpr ⟨fun z => hs p z hp, n.sublist h⟩, mem_con (.inr ⟨hp, hn⟩) fun a ha => .inl (h.subset ha)⟩
theorem Part.one {H H' : Hp} {S : List Addr} {p : Addr} (hp : H p = none) (hn : NFz H' p) : Part H H' S [p] := Part.cons hp hn (fun a ha => absurd ha List.not_mem_nil) (List.nil_sublist _)

def Vr (H : Hp) (S : List Addr) (d : D) (Q : VK) : Prop := ∀ v H' S', Grow H H' → RD H' d v S' → Part H H' S S' → Q v H'
def VOp (f : List D → Option D) (r : List V → Hp → VK → Prop) : Prop :=
  ∀ ds vs S H Q d, RDs H ds vs S → f ds = some d → Vr H S d Q → r vs H Q
def VOpN (f : List D → Option D) (r : List V → Hp → VK → Prop) : Prop :=
  ∀ ds vs S H Q d, RDs H ds vs S → f ds = some d → Vr H [] d Q → r vs H Q
def VOpK : Bool → (List D → Option D) → (List V → Hp → VK → Prop) → Prop
  | true => VOpN
  | false => VOp
def opK : Bool → Kd → Kd
  | true, _ => .fr
  | false, k => k

theorem KOk.part {C : Cc} {ρ σ H H' F S S' kd} (c : Cn C.inf C.B C.lk ρ σ H F) (k : KOk C.inf C.B kd F H S) (th : ∀ a ∈ S, H a ≠ none) (g : Grow H H') (p : Part H H' S S') : KOk C.inf C.B kd F H' S' := by
  cases kd with
  | fr =>
    refine ⟨p.nd k.1, fun a ha i hi => ?_, fun a ha => ?_⟩
    · rcases p.of a ha with z | z
      · exact k.2.1 a z i hi
      · exact c.there hi z.1
    · rcases p.of a ha with z | z
      · exact ⟨g.nfz (th a z) (k.2.2 a z).1, (k.2.2 a z).2⟩
      · exact ⟨z.2, c.nb a z.1⟩
  | bo R =>
    intro a ha j hjo hjR hx
    rcases p.of a ha with z | z
    · exact k a z j hjo hjR hx
    · exact c.there hx z.1
theorem NewK.part {C : Cc} {T F H H1 H' F1 S S' kd} (f : Fr C.inf T F H F1 H1) (n : NewK C.inf T F H S kd) (p : Part H1 H' S S') : NewK C.inf T F H S' kd := by
  cases kd with
  | bo R => trivial
  | fr =>
    intro a ha
    rcases p.of a ha with z | z
    · exact n a z
    · refine .inl ?_
      cases e : H a with
      | none => rfl
      | some o => exact absurd z.1 (f.there a (by rw [e]; exact fun z => by cases z))
theorem Post.op {C : Cc} {kd : Kd} {T : List Nat} {ρ' : Env} {σ : L2.St} {F : FP} {H : Hp} {d : D} {Q : VK} {nw : Bool} {f : List D → Option D} {r : List V → Hp → VK → Prop} (hf : VOpK nw f r)
    {ds : List D} {vs : List V} {H1 : Hp} {F1 : FP} {S : List Addr} (hq : Post C (opK nw kd) T ρ' σ F H d Q) (cn : Cn C.inf C.B C.lk ρ' σ H1 F1) (fr : Fr C.inf T F H F1 H1) (rd : RDs H1 ds vs S)
    (k : KOk C.inf C.B kd F1 H1 S) (n : NewK C.inf T F H S kd) (hd : f ds = some d) : r vs H1 Q := by
  cases nw with
  | true =>
    refine hf ds vs S H1 Q d rd hd fun v H' S' g rv p => ?_
    exact hq v H' F1 S' (g.cn cn) ((fr.trans g.fr).mono fun j hj => by simpa using hj) rv
      (KOk.part (S := []) cn (kd := .fr) KOk.nil (fun a ha => absurd ha List.not_mem_nil) g p) (NewK.part (kd := .fr) fr NewK.nil p)
  | false =>
    refine hf ds vs S H1 Q d rd hd fun v H' S' g rv p => ?_
    exact hq v H' F1 S' (g.cn cn) ((fr.trans g.fr).mono fun j hj => by simpa using hj) rv (KOk.part cn k rd.there g p) (NewK.part fr n p)

def jn : Kd → Kd → Kd
  | .fr, k => k
  | .bo R, .fr => .bo R
  | .bo R, .bo U => .bo (R ++ U)
theorem KOk.app {inf B F H S T k l} (h1 : KOk inf B k F H S) (h2 : KOk inf B l F H T) (hd : k = .fr → l = .fr → ∀ a ∈ S, a ∉ T) : KOk inf B (jn k l) F H (S ++ T) := by
  cases k with
  | fr =>
    cases l with
    | fr => exact ⟨List.nodup_append.mpr ⟨h1.1, h2.1, fun a ha b hb e => hd rfl rfl a ha (e ▸ hb)⟩, mem_app h1.2.1 h2.2.1, mem_app h1.2.2 h2.2.2⟩
    | bo U => exact mem_app (h1.toB (R := U)) h2
  | bo R =>
    cases l with
    | fr => exact mem_app h1 (h2.toB (R := R))
    | bo U => exact mem_app (fun a ha j hj hn => h1 a ha j hj fun z => hn (List.mem_append_left _ z)) (fun a ha j hj hn => h2 a ha j hj fun z => hn (List.mem_append_right _ z))
theorem bnd_ok {α β : Type} {m : M α} {f : α → M β} {ρ ρ' : Env} {a : α} (h : m ρ = .ok a ρ') : bnd m f ρ = f a ρ' := by unfold bnd; rw [h]
theorem bnd_ex {α β : Type} {m : M α} {f : α → M β} {ρ ρ' : Env} {c fs} (h : m ρ = .ex c fs ρ') : bnd m f ρ = .ex c fs ρ' := by unfold bnd; rw [h]
theorem bnd_no {α β : Type} {m : M α} {f : α → M β} {ρ : Env} (h : m ρ = .no) : bnd m f ρ = .no := by unfold bnd; rw [h]
theorem New.over {inf T U F H F1 H1 S} (f : Fr inf T F H F1 H1) (n : New inf U F1 H1 S) : New inf (T ++ U) F H S := fun a ha => by
  rcases n a ha with z | ⟨j, hj, ho, hx⟩
  · refine .inl ?_
    cases e : H a with
    | none => rfl
    | some o => exact absurd z (f.there a (by rw [e]; exact fun z => by cases z))
  · by_cases hT : j ∈ T
    · rcases f.from' j hT ho a hx with z | ⟨j', hj', z⟩
      · exact .inl z
      · exact .inr ⟨j', List.mem_append_left _ hj', z⟩
    · rcases f.same j hT with z | z
      · rw [z] at hx; exact .inr ⟨j, List.mem_append_right _ hj, ho, hx⟩
      · rw [z] at hx; exact absurd hx List.not_mem_nil
theorem New.mono {inf T U F H S} (n : New inf T F H S) (h : ∀ j ∈ T, j ∈ U) : New inf U F H S := fun a ha => (n a ha).imp id fun ⟨j, hj, z⟩ => ⟨j, h j hj, z⟩
theorem NewK.both {inf T U F H F1 H1 S S' k l} (f : Fr inf T F H F1 H1) (h1 : NewK inf T F H S k) (h2 : NewK inf U F1 H1 S' l) : NewK inf (T ++ U) F H (S ++ S') (jn k l) := by
  cases k with
  | bo R => cases l <;> trivial
  | fr =>
    cases l with
    | bo _ => trivial
    | fr => exact mem_app (New.mono h1 fun j hj => List.mem_append_left _ hj) (New.over f h2)

theorem cons_ok {C : Cc} {k l : Kd} {T U : List Nat} {m : M D} {ms : M (List D)} (hT : ∀ j ∈ U, own C.inf j) (ap : Apart U k) {σ : L2.St} {H : Hp} {Q : List V → Hp → Prop}
    (h : tA C (jn k l) (T ++ U) (bnd m fun d => bnd ms fun ds => ret (d :: ds)) σ H Q) : tE C k T m σ H fun x H1 => tA C l U ms σ H1 fun xs H2 => Q (x :: xs) H2 := by
  obtain ⟨ρ, F, cn, h⟩ := h
  refine ⟨ρ, F, cn, ?_⟩
  cases e : m ρ with
  | no => rw [bnd_no e] at h; exact h
  | ex c fs ρ' =>
    rw [bnd_ex e] at h
    exact fun cls d H' F' cn' f x => h cls d H' F' cn' (f.mono fun j hj => List.mem_append_left _ hj) x
  | ok d ρ1 =>
    rw [bnd_ok e] at h
    intro v H1 F1 S cn1 f1 r1 k1 n1
    refine ⟨ρ1, F1, cn1, ?_⟩
    cases e2 : ms ρ1 with
    | no => rw [bnd_no e2] at h; exact h
    | ex c fs ρ' => rw [bnd_ex e2] at h; exact h.mono f1
    | ok ds ρ2 =>
      rw [bnd_ok e2] at h
      intro vs H2 F2 S2 cn2 f2 r2 k2 n2
      obtain ⟨on, k1'⟩ := k1.over r1.there f2 hT ap
      refine h (v :: vs) H2 F2 (S ++ S2) cn2 (f1.trans f2) (.cons (r1.mono f2.tup on) r2) (k1'.app k2 fun ek el a ha hb => ?_) (n1.both f1 n2)
      subst ek; subst el
      rcases n2 a hb with z | ⟨j, _, _, z⟩
      · exact r1.there a ha z
      · exact k1.2.1 a ha j z
theorem nil_ok {C : Cc} {σ : L2.St} {H : Hp} {Q : List V → Hp → Prop} (h : tA C .fr [] (ret []) σ H Q) : Q [] H := by
  obtain ⟨ρ, F, cn, h⟩ := h
  exact h [] H F [] cn Fr.refl .nil KOk.nil NewK.nil
end Mp

namespace Mp
open PySem PySem.Spec PyProof.Rows L2

def tyI : I → String
  | .non => "NoneType" | .bl _ => "bool" | .int _ => "int" | .str _ => "str" | .tup _ => "tuple"
def tyD : D → String
  | .i x => tyI x | .lst _ => "list" | .tup _ => "tuple" | .dk _ => "dict" | .dt _ => "dict"
def truth : D → Option Bool
  | .i .non => some false
  | .i (.bl b) => some b
  | .i (.int i) => some (i != 0)
  | .i (.str x) => if x.length ≤ sizeLine then some ((x.length : Int) != 0) else none
  | .i (.tup xs) => some (!xs.isEmpty)
  | .lst xs => some (!xs.isEmpty)
  | .tup xs => some (!xs.isEmpty)
  | .dk kvs => some (!kvs.isEmpty)
  | .dt _ => none
def lenD : D → Option Nat
  | .i (.str x) => if x.length ≤ sizeLine then some x.length else none
  | .i (.tup xs) => some xs.length
  | .lst xs => some xs.length
  | .tup xs => some xs.length
  | .dk kvs => some kvs.length
  | _ => none
def allI : List D → Option (List I)
  | [] => some []
  | .i x :: r => (allI r).map (x :: ·)
  | _ :: _ => none
def mkT (ds : List D) : D := match allI ds with
  | some xs => .i (.tup xs)
  | none => .tup ds
def kidsT : D → Option (List D)
  | .i (.tup xs) => some (xs.map .i)
  | .tup ds => some ds
  | _ => none
def kidsL : D → Option (List D)
  | .lst ds => some ds
  | _ => none
def kids (d : D) : Option (List D) := match kidsT d with
  | some x => some x
  | none => kidsL d

section
variable {K : PySem.W.Frag} {H : Hp}
theorem RIs.toD : ∀ {xs : List I} {vs : List V}, RIs H xs vs → RDs H (xs.map .i) vs []
  | _, _, .nil => .nil
  | _, _, .cons h r => by
    have := RDs.cons (RD.i h) (RIs.toD r)
    simpa using this
theorem RDs.toI : ∀ {ds : List D} {xs : List I} {vs : List V} {S : List Addr}, RDs H ds vs S → allI ds = some xs → RIs H xs vs ∧ S = []
  | [], xs, _, _, .nil, h => by
    have h : some [] = some xs := h
    cases h
    exact ⟨.nil, rfl⟩
  | .i x :: r, xs, _, _, .cons h t, e => by
    have e : (allI r).map (x :: ·) = some xs := e
    cases q : allI r with
    | none => rw [q] at e; cases e
    | some ys =>
      rw [q] at e
      cases e
      cases h with
      | i hx =>
        obtain ⟨h1, h2⟩ := RDs.toI t q
        exact ⟨.cons hx h1, by rw [h2]; rfl⟩
  | .lst _ :: _, _, _, _, _, e => by cases e
  | .tup _ :: _, _, _, _, _, e => by cases e
  | .dk _ :: _, _, _, _, _, e => by cases e
  | .dt _ :: _, _, _, _, _, e => by cases e
theorem allI_map (xs : List I) : allI (xs.map .i) = some xs := by
  induction xs with
  | nil => rfl
  | cons x r ih => show (allI (r.map .i)).map (x :: ·) = _; rw [ih]; rfl
theorem RDs.length : ∀ {ds : List D} {vs : List V} {S : List Addr}, RDs H ds vs S → ds.length = vs.length
  | _, _, _, .nil => rfl
  | _, _, _, .cons _ r => congrArg (· + 1) (RDs.length r)
theorem RIs.length : ∀ {ds : List I} {vs : List V}, RIs H ds vs → ds.length = vs.length
  | _, _, .nil => rfl
  | _, _, .cons _ r => congrArg (· + 1) (RIs.length r)
theorem RDk.length : ∀ {ds : List (Key × D)} {vs : List (Key × V)} {S : List Addr}, RDk H ds vs S → ds.length = vs.length
  | _, _, _, .nil => rfl
  | _, _, _, .cons _ r => congrArg (· + 1) (RDk.length r)
theorem RD.kidsT {d : D} {v : V} {S : List Addr} {ds : List D} (h : RD H d v S) (e : Mp.kidsT d = some ds) : ∃ a vs, v = .ref a ∧ TuA H a vs ∧ RDs H ds vs S := by
  cases h with
  | i hx =>
    cases hx with
    | tup hs hr => cases e; exact ⟨_, _, rfl, hs, hr.toD⟩
    | _ => cases e
  | tup hs hr => cases e; exact ⟨_, _, rfl, hs, hr⟩
  | _ => cases e
theorem RD.kidsL {d : D} {v : V} {S : List Addr} {ds : List D} (h : RD H d v S) (e : Mp.kidsL d = some ds) : ∃ a vs T, v = .ref a ∧ Rd H a (.lst vs) ∧ RDs H ds vs T ∧ S = a :: T := by
  cases h with
  | lst hs hr => cases e; exact ⟨_, _, _, rfl, hs, hr, rfl⟩
  | _ => cases e
theorem RD.kids {d : D} {v : V} {S : List Addr} {ds : List D} (h : RD H d v S) (e : Mp.kids d = some ds) : ∃ a vs T, v = .ref a ∧ (Rd H a (.lst vs) ∨ TuA H a vs) ∧ RDs H ds vs T ∧ T.Sublist S := by
  unfold Mp.kids at e
  cases q : Mp.kidsT d with
  | some x =>
    rw [q] at e
    cases e
    obtain ⟨a, vs, h1, h2, h3⟩ := h.kidsT q
    exact ⟨a, vs, S, h1, .inr h2, h3, List.Sublist.refl _⟩
  | none =>
    rw [q] at e
    obtain ⟨a, vs, T, h1, h2, h3, h4⟩ := h.kidsL e
    exact ⟨a, vs, T, h1, .inl h2, h3, by rw [h4]; exact List.sublist_cons_self _ _⟩
theorem RDs.get : ∀ {ds : List D} {vs : List V} {S : List Addr} {j : Nat} {d : D}, RDs H ds vs S → ds[j]? = some d → ∃ v T, vs[j]? = some v ∧ RD H d v T ∧ T.Sublist S
  | _, _, _, _, _, .nil, h => by simp at h
  | _, _, _, 0, _, .cons h r, e => by simp at e; subst e; exact ⟨_, _, rfl, h, List.sublist_append_left _ _⟩
  | _, _, _, j + 1, _, .cons h r, e => by
    obtain ⟨v, T, h1, h2, h3⟩ := RDs.get (j := j) r (by simpa using e)
    exact ⟨v, T, by simpa using h1, h2, h3.trans (List.sublist_append_right _ _)⟩
theorem RDs.one {d : D} {vs : List V} {S : List Addr} (h : RDs H [d] vs S) : ∃ v, vs = [v] ∧ RD H d v S := by
  cases h with
  | cons h r => cases r; exact ⟨_, rfl, by simpa using h⟩
theorem RDs.two {d e : D} {vs : List V} {S : List Addr} (h : RDs H [d, e] vs S) : ∃ v w T U, vs = [v, w] ∧ RD H d v T ∧ RD H e w U ∧ S = T ++ U := by
  cases h with
  | cons h r =>
    obtain ⟨w, rfl, h2⟩ := r.one
    exact ⟨_, w, _, _, rfl, h, h2, rfl⟩
theorem RD.int_inv {i : Int} {v : V} {S : List Addr} (h : RD H (.i (.int i)) v S) : v = .int i ∧ S = [] := by
  cases h with
  | i h => cases h; exact ⟨rfl, rfl⟩
theorem RD.str_inv {i : Str} {v : V} {S : List Addr} (h : RD H (.i (.str i)) v S) : v = .str i ∧ S = [] ∧ PyData.strOk i = true := by
  cases h with
  | i h => cases h; exact ⟨rfl, rfl, by assumption⟩
theorem RD.bl_inv {i : Bool} {v : V} {S : List Addr} (h : RD H (.i (.bl i)) v S) : v = .bl i ∧ S = [] := by
  cases h with
  | i h => cases h; exact ⟨rfl, rfl⟩
theorem RD.non_inv {v : V} {S : List Addr} (h : RD H (.i .non) v S) : v = .non ∧ S = [] := by
  cases h with
  | i h => cases h; exact ⟨rfl, rfl⟩
theorem RDs.nil_iff {ds : List D} {vs : List V} {S : List Addr} (h : RDs H ds vs S) : ds.isEmpty = vs.isEmpty := by cases h <;> rfl
theorem RDk.nil_iff {ds : List (Key × D)} {vs : List (Key × V)} {S : List Addr} (h : RDk H ds vs S) : ds.isEmpty = vs.isEmpty := by cases h <;> rfl
theorem RIs.nil_iff {ds : List I} {vs : List V} (h : RIs H ds vs) : ds.isEmpty = vs.isEmpty := by cases h <;> rfl

theorem TuA.sq {K : PySem.W.Frag} {a : Addr} {vs : List V} (h : TuA H a vs) : SqT K H a vs := .inl (.inl h)
theorem RD.ty {K : PySem.W.Frag} {d : D} {v : V} {S : List Addr} (h : RD H d v S) (nt : ∀ kvs, d ≠ .dt kvs) : TyX K H v (.type (tyD d)) := by
  have tupT : ∀ {a vs}, TuA H a vs → TyX K H (.ref a) (.type "tuple") := fun {a vs} hs => .base (.tup hs)
  cases h with
  | i hx =>
    cases hx with
    | non => exact .base .non
    | bl b => exact .base (.bl b)
    | int b => exact .base (.int b)
    | str b => exact .base (.str b)
    | tup hs hr => exact tupT hs
  | lst hs hr =>
    rcases hs with hs | ⟨o, hs⟩
    · exact .base (.lst hs)
    · exact .base (.frz hs)
  | tup hs hr => exact tupT hs
  | dk hs hr hn =>
    rcases hs with hs | ⟨o, hs⟩
    · exact .base (.dK hs)
    · exact .fDict hs
  | dt hs hr hn => exact absurd rfl (nt _)
end

section
variable {X : Cx}
def TruD (K : PySem.W.Frag) (x : V) (H : Hp) (k : Bool) : Prop := TruV K x H k ∨ ∃ p kvs, x = .ref p ∧ Rd H p (.dK kvs) ∧ k = !kvs.isEmpty
theorem trd_ok : TruR X (fun x H Q => ∃ k, TruD X.K x H k ∧ Q k H) := by
  intro pins s σ H x v Q I rx h
  obtain ⟨k, e, q⟩ := h
  rcases e with e | ⟨p, kvs, e1, hx, e'⟩
  · exact tru_ok pins s σ H x v Q I rx ⟨k, e, q⟩
  · subst e1; subst e'
    cases rx
    have hs : sizeLine = 16777216 := sizeLine_eq
    obtain ⟨hz, hS, vs, r, m⟩ : kvs.length ≤ sizeLine ∧ (p == sysModules) = false ∧ ∃ vs, KV kvs vs ∧ s.heap.DictOf (mixKind X.prog X.w) p vs := hx.ok I.hok
    have hlen : kvs.length = vs.length := Paired.length r
    exact wpAny_truthy_dict hS m (by omega) ⟨H, I.tok _, by rw [isEmpty_kv r]; exact q⟩
theorem RD.tru {K : PySem.W.Frag} {H : Hp} {d : D} {v : V} {S : List Addr} {k : Bool} (h : RD H d v S) (e : truth d = some k) : TruD K v H k := by
  cases h with
  | i hx =>
    cases hx with
    | non => exact .inl (Option.some.inj e).symm
    | bl b => exact .inl (Option.some.inj e).symm
    | int i => exact .inl (Option.some.inj e).symm
    | str x =>
      have e : (if x.length ≤ sizeLine then some ((x.length : Int) != 0) else none) = some k := e
      split at e
      · exact .inl ⟨by assumption, (Option.some.inj e).symm⟩
      · cases e
    | tup hs hr => exact .inl (.inr (.inl ⟨_, hs.sq, by rw [← hr.nil_iff]; exact (Option.some.inj e).symm⟩))
  | lst hs hr => exact .inl (.inl ⟨_, .inl hs, by rw [← hr.nil_iff]; exact (Option.some.inj e).symm⟩)
  | tup hs hr => exact .inl (.inr (.inl ⟨_, hs.sq, by rw [← hr.nil_iff]; exact (Option.some.inj e).symm⟩))
  | dk hs hr hn => exact .inr ⟨_, _, rfl, hs, by rw [← hr.nil_iff]; exact (Option.some.inj e).symm⟩
  | dt hs hr hn => cases e
end

mutual
def pyI : I → PyData
  | .non => .none | .bl b => .bool b | .int i => .int i | .str x => .str x | .tup xs => .tuple (pyIs xs)
def pyIs : List I → List PyData
  | [] => []
  | x :: xs => pyI x :: pyIs xs
end
mutual
def pyD : D → Option PyData
  | .i x => some (pyI x)
  | .lst ds => (pyDs ds).map .list
  | .tup ds => (pyDs ds).map .tuple
  | .dk _ => none
  | .dt _ => none
def pyDs : List D → Option (List PyData)
  | [] => some []
  | d :: ds => match pyD d, pyDs ds with
    | some x, some xs => some (x :: xs)
    | _, _ => none
end
section
variable {K : PySem.W.Frag} {H : Hp}
mutual
theorem RI.dp : ∀ {x : I} {v : V}, RI H x v → Dp K H v (pyI x) ∧ (pyI x).canLay0 = true
  | _, _, .non => ⟨.non, rfl⟩
  | _, _, .bl b => ⟨.bl b, rfl⟩
  | _, _, .int i => ⟨.int i, rfl⟩
  | _, _, .str x h => ⟨.str x, by simpa [pyI, PyData.canLay0] using h⟩
  | _, _, .tup hs hr => by
    obtain ⟨h1, h2⟩ := RIs.dp hr
    exact ⟨by rw [pyI]; exact .tup (TuA.sq hs) h1, by rw [pyI, PyData.canLay0]; exact h2⟩
theorem RIs.dp : ∀ {x : List I} {v : List V}, RIs H x v → DpAll K H v (pyIs x) ∧ PyData.canLayAll0 (pyIs x) = true
  | _, _, .nil => ⟨.nil, rfl⟩
  | _, _, .cons h r => by
    obtain ⟨h1, h2⟩ := RI.dp h
    obtain ⟨h3, h4⟩ := RIs.dp r
    exact ⟨by rw [pyIs]; exact .cons h1 h3, by rw [pyIs, PyData.canLayAll0, h2, h4]; rfl⟩
end
mutual
theorem RD.dp : ∀ {x : D} {v : V} {S : List Addr} {p : PyData}, RD H x v S → pyD x = some p → Dp K H v p ∧ p.canLay0 = true
  | _, _, _, _, .i h, e => by
    rw [pyD] at e
    cases e
    exact RI.dp h
  | _, _, _, p, .lst (ds := ds) hs hr, e => by
    rw [pyD] at e
    cases q : pyDs ds with
    | none => rw [q] at e; cases e
    | some xs =>
      rw [q] at e
      cases e
      obtain ⟨h1, h2⟩ := RDs.dp hr q
      exact ⟨.lst (.inl hs) h1, by rw [PyData.canLay0]; exact h2⟩
  | _, _, _, p, .tup (ds := ds) hs hr, e => by
    rw [pyD] at e
    cases q : pyDs ds with
    | none => rw [q] at e; cases e
    | some xs =>
      rw [q] at e
      cases e
      obtain ⟨h1, h2⟩ := RDs.dp hr q
      exact ⟨.tup (TuA.sq hs) h1, by rw [PyData.canLay0]; exact h2⟩
  | _, _, _, _, .dk _ _ _, e => by rw [pyD] at e; cases e
  | _, _, _, _, .dt _ _ _, e => by rw [pyD] at e; cases e
theorem RDs.dp : ∀ {x : List D} {v : List V} {S : List Addr} {p : List PyData}, RDs H x v S → pyDs x = some p → DpAll K H v p ∧ PyData.canLayAll0 p = true
  | _, _, _, _, .nil, e => by
    rw [pyDs] at e
    cases e
    exact ⟨.nil, rfl⟩
  | _, _, _, _, .cons (d := d) (ds := ds) h r, e => by
    rw [pyDs] at e
    cases q1 : pyD d with
    | none => rw [q1] at e; cases e
    | some x =>
      cases q2 : pyDs ds with
      | none => rw [q1, q2] at e; cases e
      | some xs =>
        rw [q1, q2] at e
        cases e
        obtain ⟨h1, h2⟩ := RD.dp h q1
        obtain ⟨h3, h4⟩ := RDs.dp r q2
        exact ⟨.cons h1 h3, by rw [PyData.canLayAll0, h2, h4]; rfl⟩
end
end
def eqD (d e : D) : Option Bool := match pyD d, pyD e with
  | some p, some q => if min p.depth q.depth ≤ 60 then some (PyData.eqv p q) else none
  | _, _ => none
def memD (x : D) (y : D) : Option Bool := match pyD x, pyD y with
  | some p, some (.list qs) => if min (PyData.depthAll qs) p.depth ≤ 60 then some (qs.any fun q => PyData.eqv q p) else none
  | some p, some (.tuple qs) => if min (PyData.depthAll qs) p.depth ≤ 60 then some (qs.any fun q => PyData.eqv q p) else none
  | _, _ => none
def ltD (d e : D) : Option Bool := match pyD d, pyD e with
  | some p, some q => if min p.depth q.depth ≤ 60 ∧ PySem.W.alike p q = true ∧ p.canLay0 = true then (match p with | .none => none | _ => some (PySem.W.dataLt p q)) else none
  | _, _ => none
end Mp

namespace Mp
open PySem PySem.Spec PyProof.Rows L2

def r2D (f : D → D → Option D) (nw : Bool) : R2 := fun x y H Q => ∃ d e S T z, RD H d x S ∧ RD H e y T ∧ f d e = some z ∧ Vr H (if nw then [] else S ++ T) z Q
def r1D (f : D → Option D) (nw : Bool) : V → Hp → VK → Prop := fun x H Q => ∃ d S z, RD H d x S ∧ f d = some z ∧ Vr H (if nw then [] else S) z Q
def rnD (f : List D → Option D) (nw : Bool) : List V → Hp → VK → Prop := fun vs H Q => ∃ ds S z, RDs H ds vs S ∧ f ds = some z ∧ Vr H (if nw then [] else S) z Q
theorem rnD_op (f : List D → Option D) : ∀ nw, VOpK nw f (rnD f nw)
  | true => fun ds vs S H Q d h e q => ⟨ds, S, d, h, e, q⟩
  | false => fun ds vs S H Q d h e q => ⟨ds, S, d, h, e, q⟩
def f2 (f : D → D → Option D) : List D → Option D
  | [d, e] => f d e
  | _ => none
def f1 (f : D → Option D) : List D → Option D
  | [d] => f d
  | _ => none
theorem rn2 {f nw x y H Q} (h : rnD (f2 f) nw [x, y] H Q) : r2D f nw x y H Q := by
  obtain ⟨ds, S, z, r, e, q⟩ := h
  have hl := r.length
  match ds, hl, r, e with
  | [d, d'], _, r, e =>
    obtain ⟨v, w, T, U, e1, r1, r2, e2⟩ := r.two
    injection e1 with e3 e4
    injection e4 with e5
    subst e3; subst e5; subst e2
    exact ⟨d, d', T, U, z, r1, r2, e, q⟩
theorem rn1 {f nw x H Q} (h : rnD (f1 f) nw [x] H Q) : r1D f nw x H Q := by
  obtain ⟨ds, S, z, r, e, q⟩ := h
  have hl := r.length
  match ds, hl, r, e with
  | [d], _, r, e =>
    obtain ⟨v, e1, r1⟩ := r.one
    injection e1 with e3
    subst e3
    exact ⟨d, S, z, r1, e, q⟩

section
variable {H : Hp} {S : List Addr} {Q : VK}
theorem Vr.i {x : I} {v : V} (q : Vr H S (.i x) Q) (h : RI H x v) : Q v H := q v H [] (Grow.refl H) (.i h) Part.nil
theorem Vr.int {i : Int} (q : Vr H S (.i (.int i)) Q) : Q (.int i) H := q.i (.int i)
theorem Vr.bl {i : Bool} (q : Vr H S (.i (.bl i)) Q) : Q (.bl i) H := q.i (.bl i)
theorem Vr.str {i : Str} (q : Vr H S (.i (.str i)) Q) (h : PyData.strOk i = true) : Q (.str i) H := q.i (.str i h)
theorem nfz_upd {p : Addr} {o : HO} (h : ∀ o' u, o ≠ .frz o' u) : NFz (upd H p o) p := fun o' u e => by rw [upd_same] at e; exact h o' u (Option.some.inj e)
theorem Vr.tupI {xs : List I} {vs : List V} (q : Vr H S (.i (.tup xs)) Q) (h : RIs H xs vs) {p : Addr} (hp : H p = none) : Q (.ref p) (upd H p (.tup vs)) :=
  q (.ref p) _ [] (Grow.upd hp) (.i (.tup upd_same (h.mono (Grow.upd hp).tup))) Part.nil
theorem Vr.lstI {xs : List I} {vs : List V} (q : Vr H S (.lst (xs.map .i)) Q) (h : RIs H xs vs) {p : Addr} (hp : H p = none) : Q (.ref p) (upd H p (.lst vs)) :=
  q (.ref p) _ [p] (Grow.upd hp) (.lst (.inl upd_same) (h.mono (Grow.upd hp).tup).toD) (Part.one hp (nfz_upd fun _ _ z => by cases z))
theorem RIs.app : ∀ {xs ys : List I} {vs ws : List V}, RIs H xs vs → RIs H ys ws → RIs H (xs ++ ys) (vs ++ ws)
  | _, _, _, _, .nil, h => h
  | _, _, _, _, .cons h r, h2 => .cons h (RIs.app r h2)
theorem RDs.app : ∀ {xs ys : List D} {vs ws : List V} {S T : List Addr}, RDs H xs vs S → RDs H ys ws T → RDs H (xs ++ ys) (vs ++ ws) (S ++ T)
  | _, _, _, _, _, _, .nil, h => h
  | _, _, _, _, _, _, .cons h r, h2 => by
    rw [List.append_assoc]
    exact .cons h (RDs.app r h2)
theorem RDs.mkT {H : Hp} {ds : List D} {vs : List V} {T : List Addr} {p : Addr} (h : RDs H ds vs T) (hp : H p = some (.tup vs)) : RD H (Mp.mkT ds) (.ref p) (if (allI ds).isSome then [] else T) ∧ ((allI ds).isSome = true → T = []) := by
  unfold Mp.mkT
  cases e : allI ds with
  | none => exact ⟨.tup hp h, fun z => by cases z⟩
  | some xs =>
    obtain ⟨h1, h2⟩ := h.toI e
    exact ⟨.i (.tup hp h1), fun _ => h2⟩
theorem Vr.tupD {H : Hp} {S : List Addr} {Q : VK} {ds : List D} {vs : List V} {T : List Addr} (q : Vr H S (mkT ds) Q) (h : RDs H ds vs T) (hs : T.Sublist S) {p : Addr} (hp : H p = none) : Q (.ref p) (upd H p (.tup vs)) := by
  have g := Grow.upd (o := .tup vs) hp
  obtain ⟨r, _⟩ := (h.mono g.tup (g.on _)).mkT (p := p) upd_same
  refine q (.ref p) _ _ g r (Part.sub ?_)
  split
  · exact List.nil_sublist _
  · exact hs
theorem RI.tup_inv {xs : List I} {v : V} (h : RI H (.tup xs) v) : ∃ a vs, v = .ref a ∧ TuA H a vs ∧ RIs H xs vs := by cases h with | tup h1 h2 => exact ⟨_, _, rfl, h1, h2⟩
theorem RD.i_inv {x : I} {v : V} (h : RD H (.i x) v S) : RI H x v ∧ S = [] := by cases h with | i h => exact ⟨h, rfl⟩
theorem RD.lst_inv {xs : List D} {v : V} (h : RD H (.lst xs) v S) : ∃ a vs T, v = .ref a ∧ Rd H a (.lst vs) ∧ RDs H xs vs T ∧ S = a :: T := by cases h with | lst h1 h2 => exact ⟨_, _, _, rfl, h1, h2, rfl⟩
theorem strOk_app {a b : Str} (ha : PyData.strOk a = true) (hb : PyData.strOk b = true) : PyData.strOk (a ++ b) = true := by
  unfold PyData.strOk at *
  have e : (a ++ b).cps = a.cps ++ b.cps := rfl
  rw [e, Array.all_append, ha, hb]; rfl
end

def addF : D → D → Option D
  | .i (.int a), .i (.int b) => some (.i (.int (a + b)))
  | .i (.str a), .i (.str b) => if a.length + b.length ≤ sizeLine then some (.i (.str (a ++ b))) else none
  | .i (.tup a), .i (.tup b) => if a.length + b.length ≤ sizeLine then some (.i (.tup (a ++ b))) else none
  | .lst a, .lst b => match allI a, allI b with
    | some x, some y => if a.length + b.length ≤ sizeLine then some (.lst ((x ++ y).map .i)) else none
    | _, _ => none
  | _, _ => none
def catF (d e : D) : Option D := match kidsT d, kidsT e with
  | some a, some b => if a.length + b.length ≤ sizeLine then (if a.isEmpty then some e else if b.isEmpty then some d else some (mkT (a ++ b))) else none
  | _, _ => none
def subF : D → D → Option D
  | .i (.int a), .i (.int b) => some (.i (.int (a - b)))
  | _, _ => none
def mulF : D → D → Option D
  | .i (.int a), .i (.int b) => if a.natAbs < 2 ^ 64 ∨ b.natAbs < 2 ^ 64 ∨ a.natAbs.log2 + b.natAbs.log2 < 1000000 then some (.i (.int (a * b))) else none
  | _, _ => none
def fdivF : D → D → Option D
  | .i (.int a), .i (.int b) => if 0 < b ∧ b.natAbs.log2 < 9000 then some (.i (.int (a / b))) else none
  | _, _ => none
def modF : D → D → Option D
  | .i (.int a), .i (.int b) => if 0 < b then some (.i (.int (a % b))) else none
  | _, _ => none
def powF : D → D → Option D
  | .i (.int a), .i (.int b) => if 0 ≤ b ∧ b ≤ 1000000 ∧ a.natAbs < 2 ^ 64 then some (.i (.int (a ^ b.toNat))) else none
  | _, _ => none

section
variable {X : Cx}
theorem cat_empty {prog : Program} {w : World} {A : Around} {E : Value → Shared → Prop} {s : Shared} {t b : Addr} {ws : List Value} {Q : Value → Shared → Prop} (ht : IsTup s.heap t ([] : List Value).toArray) (hb : IsTup s.heap b ws.toArray)
    (h : Q (.ref b) s) : wpAny (model prog w) A (binaryOp .Add (.ref t) (.ref b)) Q E s := by
  obtain ⟨⟨c1, d1, dat1, sl1⟩, o1, k1, n1, v1⟩ := id ht
  obtain ⟨⟨c2, d2, dat2, sl2⟩, o2, k2, n2, v2⟩ := id hb
  simp only at k1 v1 k2 v2
  subst k1 v1 k2 v2
  exact concat_meets ⟨_, o1, rfl⟩ ⟨_, o2, rfl⟩ noFill_tuple_add seq_tuple_add PySem.F.slot_tuple_add
    PySem.F.entry_tuple_add (PySem.F.args_tuple_add_2 _ _)
    (tuple_addW0 t b ([] : List Value).toArray ws.toArray n1 n2 d1 d2 sl1 sl2 rfl) ⟨o1, o2, h⟩
theorem lst_obj {pins : List (Addr × Obj)} {σ : L2.St} {H : Hp} {s : Shared} {l : Addr} {xs : List V} (I : Inv X pins σ H s) (h : Rd H l (.lst xs)) :
    xs.length ≤ sizeLine ∧ ∃ (its : List Value) (n : Nat), Vals xs its ∧ s.heap.get? l = some { cls := .type "list", data := .seq its.toArray n } := by
  obtain ⟨z, its, n, r, e⟩ := h.ok I.hok
  exact ⟨z, its, n, r, e⟩
theorem cat_lists {pins : List (Addr × Obj)} {σ : L2.St} {H : Hp} {s : Shared} {l m : Addr} {xs ys : List V} {Q : VK} (I : Inv X pins σ H s) (h1 : Rd H l (.lst xs)) (h2 : Rd H m (.lst ys))
    (hz : xs.length + ys.length ≤ sizeLine) (q : ∀ p, H p = none → Q (.ref p) (upd H p (.lst (xs ++ ys)))) : wpAny (model X.prog X.w) X.A (binaryOp .Add (.ref l) (.ref m)) (EP X pins σ Q) X.xe s := by
  obtain ⟨_, i1, n1, v1, e1⟩ := lst_obj I h1
  obtain ⟨_, i2, n2, v2, e2⟩ := lst_obj I h2
  have l1 := v1.length
  have l2 := v2.length
  refine PySem.P.add_list e1 e2 ?_ (by simp only [List.size_toArray]; omega)
  rw [show i1.toArray ++ i2.toArray = (i1 ++ i2).toArray by simp]
  exact ⟨.ref _, _, I.lnew (t' := s.toks) (v1.append v2) (by simp only [List.length_append]; omega), rfl, q _ I.fresh⟩
theorem s_sub : OpR X (binaryOp .Sub) (r2D subF true) := by
  intro pins s σ H x y v u Q I rx ry h
  obtain ⟨d, e, S, T, z, r1, r2, e1, q⟩ := h
  unfold subF at e1
  split at e1
  · cases e1
    obtain ⟨h1, _⟩ := r1.int_inv
    obtain ⟨h2, _⟩ := r2.int_inv
    subst h1; subst h2
    exact op_sub pins s σ H _ _ v u Q I rx ry ⟨_, _, rfl, rfl, q.int⟩
  · cases e1
theorem op_mulG : OpR X (binaryOp .Mult) (rI IntMulOk fun i j => .int (i * j)) := opI fun _ _ _ _ _ _ _ hc q => mul_int q hc
theorem mul_ok {a b : Int} (h : a.natAbs < 2 ^ 64 ∨ b.natAbs < 2 ^ 64 ∨ a.natAbs.log2 + b.natAbs.log2 < 1000000) : IntMulOk a b := by
  rcases h with h | h | h
  · exact CMul.ok (.inl ⟨by omega, by omega⟩)
  · exact CMul.ok (.inr ⟨by omega, by omega⟩)
  · exact CMulW.ok h
theorem s_mul : OpR X (binaryOp .Mult) (r2D mulF true) := by
  intro pins s σ H x y v u Q I rx ry h
  obtain ⟨d, e, S, T, z, r1, r2, e1, q⟩ := h
  unfold mulF at e1
  split at e1
  · split at e1
    · rename_i hc
      cases e1
      obtain ⟨h1, _⟩ := r1.int_inv
      obtain ⟨h2, _⟩ := r2.int_inv
      subst h1; subst h2
      exact op_mulG pins s σ H _ _ v u Q I rx ry ⟨_, _, rfl, rfl, mul_ok hc, q.int⟩
    · cases e1
  · cases e1
theorem s_fdiv : OpR X (binaryOp .FloorDiv) (r2D fdivF true) := by
  intro pins s σ H x y v u Q I rx ry h
  obtain ⟨d, e, S, T, z, r1, r2, e1, q⟩ := h
  unfold fdivF at e1
  split at e1
  · split at e1
    · rename_i hc
      cases e1
      obtain ⟨h1, _⟩ := r1.int_inv
      obtain ⟨h2, _⟩ := r2.int_inv
      subst h1; subst h2
      exact op_fdivW pins s σ H _ _ v u Q I rx ry ⟨_, _, rfl, rfl, hc, q.int⟩
    · cases e1
  · cases e1
theorem s_mod : OpR X (binaryOp .Mod) (r2D modF true) := by
  intro pins s σ H x y v u Q I rx ry h
  obtain ⟨d, e, S, T, z, r1, r2, e1, q⟩ := h
  unfold modF at e1
  split at e1
  · split at e1
    · rename_i hc
      cases e1
      obtain ⟨h1, _⟩ := r1.int_inv
      obtain ⟨h2, _⟩ := r2.int_inv
      subst h1; subst h2
      exact op_mod pins s σ H _ _ v u Q I rx ry ⟨_, _, rfl, rfl, hc, q.int⟩
    · cases e1
  · cases e1
theorem s_pow : OpR X (binaryOp .Pow) (r2D powF true) := by
  intro pins s σ H x y v u Q I rx ry h
  obtain ⟨d, e, S, T, z, r1, r2, e1, q⟩ := h
  unfold powF at e1
  split at e1
  · split at e1
    · rename_i hc
      cases e1
      obtain ⟨h1, _⟩ := r1.int_inv
      obtain ⟨h2, _⟩ := r2.int_inv
      subst h1; subst h2
      exact op_pow pins s σ H _ _ v u Q I rx ry ⟨_, _, rfl, rfl, hc, q.int⟩
    · cases e1
  · cases e1
theorem s_add : OpR X (binaryOp .Add) (r2D addF true) := by
  intro pins s σ H x y v u Q I rx ry h
  obtain ⟨d, e, S, T, z, r1, r2, e1, q⟩ := h
  unfold addF at e1
  split at e1
  · cases e1
    obtain ⟨h1, _⟩ := r1.int_inv
    obtain ⟨h2, _⟩ := r2.int_inv
    subst h1; subst h2
    exact op_add pins s σ H _ _ v u Q I rx ry ⟨_, _, rfl, rfl, q.int⟩
  · split at e1
    · rename_i hc
      cases e1
      obtain ⟨h1, _, o1⟩ := r1.str_inv
      obtain ⟨h2, _, o2⟩ := r2.str_inv
      subst h1; subst h2
      exact op_add_str pins s σ H _ _ v u Q I rx ry ⟨_, _, rfl, rfl, hc, q.str (strOk_app o1 o2)⟩
    · cases e1
  · split at e1
    · rename_i a b hc
      cases e1
      obtain ⟨ra, _⟩ := r1.i_inv
      obtain ⟨rb, _⟩ := r2.i_inv
      obtain ⟨p, vs, rfl, hs, ri⟩ := ra.tup_inv
      obtain ⟨p', ws, rfl, hs', ri'⟩ := rb.tup_inv
      cases ri with
      | nil =>
        obtain ⟨its, r1', p1, _⟩ := I.tuple hs.sq
        obtain ⟨its2, r2', p2, _⟩ := I.tuple hs'.sq
        cases rx
        cases ry
        cases r1'
        exact cat_empty p1 p2 ⟨.ref p', H, I, rfl, q.i (.tup hs' ri')⟩
      | cons hx hr =>
        refine op_catT pins s σ H _ _ v u Q I rx ry ⟨p, p', _, ws, rfl, rfl, hs.sq, hs'.sq, (by simp), ?_, fun e => ?_, fun e p'' hp => ?_⟩
        · have e1 := (RIs.cons hx hr).length
          have e2 := ri'.length
          omega
        · subst e
          cases ri'
          rw [List.append_nil] at q
          exact q.i (.tup hs (.cons hx hr))
        · exact q.tupI ((RIs.cons hx hr).app ri') hp
    · cases e1
  · rename_i a b
    split at e1
    · rename_i x' y' ea eb
      split at e1
      · rename_i hc
        cases e1
        obtain ⟨p, vs, T1, rfl, hs, ri, _⟩ := r1.lst_inv
        obtain ⟨p', ws, T2, rfl, hs', ri', _⟩ := r2.lst_inv
        have z1 := ri.length
        have z2 := ri'.length
        obtain ⟨g1, _⟩ := ri.toI ea
        obtain ⟨g2, _⟩ := ri'.toI eb
        cases rx
        cases ry
        exact cat_lists I hs hs' (by omega) fun p'' hp => q.lstI (g1.app g2) hp
      · cases e1
    · cases e1
  · cases e1

theorem s_cat : OpR X (binaryOp .Add) (r2D catF false) := by
  intro pins s σ H x y v u Q I rx ry h
  obtain ⟨d, e, S, T, z, r1, r2, e1, q⟩ := h
  unfold catF at e1
  split at e1
  · rename_i a b ea eb
    split at e1
    · rename_i hc
      obtain ⟨p, vs, rfl, hs, ri⟩ := r1.kidsT ea
      obtain ⟨p', ws, rfl, hs', ri'⟩ := r2.kidsT eb
      have l1 := ri.length
      have l2 := ri'.length
      by_cases h0 : a = []
      · subst h0
        cases e1
        have : vs = [] := List.length_eq_zero_iff.mp l1.symm
        exact op_catA pins s σ H _ _ v u Q I rx ry ⟨p, p', vs, ws, rfl, rfl, hs.sq, hs'.sq, by omega, fun _ => q _ H T (Grow.refl H) r2 (Part.sub (List.sublist_append_right S T)), fun n => absurd this n, fun n => absurd this n⟩
      · have n1 : vs ≠ [] := fun z => h0 (List.length_eq_zero_iff.mp (by rw [l1, z]; rfl))
        have b1 : a.isEmpty = false := by simpa using h0
        rw [b1] at e1
        by_cases h1 : b = []
        · subst h1
          cases e1
          have : ws = [] := List.length_eq_zero_iff.mp l2.symm
          exact op_catA pins s σ H _ _ v u Q I rx ry ⟨p, p', vs, ws, rfl, rfl, hs.sq, hs'.sq, by omega, fun z => absurd z n1, fun _ _ => q _ H S (Grow.refl H) r1 (Part.sub (List.sublist_append_left S T)), fun _ n => absurd this n⟩
        · have n2 : ws ≠ [] := fun z => h1 (List.length_eq_zero_iff.mp (by rw [l2, z]; rfl))
          have b2 : b.isEmpty = false := by simpa using h1
          rw [b2] at e1
          cases e1
          exact op_catA pins s σ H _ _ v u Q I rx ry ⟨p, p', vs, ws, rfl, rfl, hs.sq, hs'.sq, by omega, fun z => absurd z n1, fun _ z => absurd z n2, fun _ _ p'' hp => q.tupD (ri.app ri') (List.Sublist.refl _) hp⟩
    · cases e1
  · cases e1

def bF (f : D → D → Option Bool) (d e : D) : Option D := (f d e).map fun k => .i (.bl k)
def flat : D → Option V
  | .i .non => some .non
  | .i (.bl b) => some (.bl b)
  | .i (.int i) => some (.int i)
  | .i (.str x) => some (.str x)
  | _ => none
theorem bF_some {f : D → D → Option Bool} {d e z : D} (h : bF f d e = some z) : ∃ k, f d e = some k ∧ z = .i (.bl k) := by
  unfold bF at h
  cases q : f d e with
  | none => rw [q] at h; cases h
  | some k => rw [q] at h; exact ⟨k, rfl, (Option.some.inj h).symm⟩
theorem eqD_some {d e : D} {k : Bool} (h : eqD d e = some k) : ∃ p q, pyD d = some p ∧ pyD e = some q ∧ min p.depth q.depth ≤ 60 ∧ k = PyData.eqv p q := by
  unfold eqD at h
  split at h
  · split at h
    · exact ⟨_, _, by assumption, by assumption, by assumption, (Option.some.inj h).symm⟩
    · cases h
  · cases h
theorem s_eq {n : Nat} (hr : Room n X.A) : OpR X (compareOp .Eq) (r2D (bF eqD) true) := by
  intro pins s σ H x y v u Q I rx ry h
  obtain ⟨d, e, S, T, z, r1, r2, e1, q⟩ := h
  obtain ⟨k, e2, rfl⟩ := bF_some e1
  obtain ⟨p, q', h1, h2, h3, rfl⟩ := eqD_some e2
  obtain ⟨dp, c1⟩ := r1.dp h1
  obtain ⟨dq, c2⟩ := r2.dp h2
  obtain ⟨as, w1⟩ := Dp.reads I p x v dp rx
  obtain ⟨bs, w2⟩ := Dp.reads I q' y u dq ry
  have hu := hr.units
  exact SeqAt.compareEq_reads w1 w2 c1 c2 (by omega) ⟨.bl _, H, I, rfl, q.bl⟩
theorem s_ne {n : Nat} (hr : Room n X.A) : OpR X (compareOp .NotEq) (r2D (bF fun d e => (eqD d e).map (!·)) true) := by
  intro pins s σ H x y v u Q I rx ry h
  obtain ⟨d, e, S, T, z, r1, r2, e1, q⟩ := h
  obtain ⟨k, e2, rfl⟩ := bF_some e1
  cases e3 : eqD d e with
  | none => rw [e3] at e2; cases e2
  | some k' =>
    rw [e3] at e2
    cases e2
    obtain ⟨p, q', h1, h2, h3, rfl⟩ := eqD_some e3
    obtain ⟨dp, c1⟩ := r1.dp h1
    obtain ⟨dq, c2⟩ := r2.dp h2
    obtain ⟨as, w1⟩ := Dp.reads I p x v dp rx
    obtain ⟨bs, w2⟩ := Dp.reads I q' y u dq ry
    have hu := hr.units
    exact SeqAt.compareNe_reads w1 w2 c1 c2 (by omega) ⟨.bl _, H, I, rfl, q.bl⟩
theorem ltD_some {d e : D} {k : Bool} (h : ltD d e = some k) : ∃ p q, pyD d = some p ∧ pyD e = some q ∧ min p.depth q.depth ≤ 60 ∧ PySem.W.alike p q = true ∧ p ≠ .none ∧ k = PySem.W.dataLt p q := by
  unfold ltD at h
  split at h
  · split at h
    · rename_i hc
      split at h
      · cases h
      · rename_i hn
        exact ⟨_, _, by assumption, by assumption, hc.1, hc.2.1, hn, (Option.some.inj h).symm⟩
    · cases h
  · cases h
theorem s_lt {n : Nat} (hr : Room n X.A) : OpR X (compareOp .Lt) (r2D (bF ltD) true) := by
  intro pins s σ H x y v u Q I rx ry h
  obtain ⟨d, e, S, T, z, r1, r2, e1, q⟩ := h
  obtain ⟨k, e2, rfl⟩ := bF_some e1
  obtain ⟨p, q', h1, h2, h3, h4, h5, rfl⟩ := ltD_some e2
  obtain ⟨dp, c1⟩ := r1.dp h1
  obtain ⟨dq, c2⟩ := r2.dp h2
  obtain ⟨as, w1⟩ := Dp.reads I p x v dp rx
  obtain ⟨bs, w2⟩ := Dp.reads I q' y u dq ry
  have hu := hr.units
  exact PySem.W.rcLt_alike p q' X.A s v u as bs w1 w2 h4 h5 (by omega) X.prog X.w X.xe _ ⟨.bl _, H, I, rfl, q.bl⟩
def ordF (fi : Int → Int → Bool) (fs : List Nat → List Nat → Bool) : D → D → Option Bool
  | .i (.int a), .i (.int b) => some (fi a b)
  | .i (.str a), .i (.str b) => some (fs a.cps.toList b.cps.toList)
  | _, _ => none
def leF := ordF (fun a b => decide (a ≤ b)) fun a b => !decide (b < a)
def gtF := ordF (fun a b => decide (b < a)) fun a b => decide (b < a)
def geF := ordF (fun a b => decide (b ≤ a)) fun a b => !decide (a < b)
theorem ord_some {fi fs d e k} (h : ordF fi fs d e = some k) : (∃ a b, d = .i (.int a) ∧ e = .i (.int b) ∧ k = fi a b) ∨ ∃ a b, d = .i (.str a) ∧ e = .i (.str b) ∧ k = fs a.cps.toList b.cps.toList := by
  unfold ordF at h
  split at h
  · exact .inl ⟨_, _, rfl, rfl, (Option.some.inj h).symm⟩
  · exact .inr ⟨_, _, rfl, rfl, (Option.some.inj h).symm⟩
  · cases h
theorem s_le : OpR X (compareOp .LtE) (r2D (bF leF) true) := by
  intro pins s σ H x y v u Q I rx ry h
  obtain ⟨d, e, S, T, z, r1, r2, e1, q⟩ := h
  obtain ⟨k, e2, rfl⟩ := bF_some e1
  rcases ord_some e2 with ⟨a, b, rfl, rfl, rfl⟩ | ⟨a, b, rfl, rfl, rfl⟩
  · obtain ⟨h1, _⟩ := r1.int_inv
    obtain ⟨h2, _⟩ := r2.int_inv
    subst h1; subst h2
    exact op_le pins s σ H _ _ v u Q I rx ry ⟨_, _, rfl, rfl, q.bl⟩
  · obtain ⟨h1, _⟩ := r1.str_inv
    obtain ⟨h2, _⟩ := r2.str_inv
    subst h1; subst h2
    exact op_le_str pins s σ H _ _ v u Q I rx ry ⟨_, _, rfl, rfl, q.bl⟩
theorem s_gt : OpR X (compareOp .Gt) (r2D (bF gtF) true) := by
  intro pins s σ H x y v u Q I rx ry h
  obtain ⟨d, e, S, T, z, r1, r2, e1, q⟩ := h
  obtain ⟨k, e2, rfl⟩ := bF_some e1
  rcases ord_some e2 with ⟨a, b, rfl, rfl, rfl⟩ | ⟨a, b, rfl, rfl, rfl⟩
  · obtain ⟨h1, _⟩ := r1.int_inv
    obtain ⟨h2, _⟩ := r2.int_inv
    subst h1; subst h2
    exact op_gt pins s σ H _ _ v u Q I rx ry ⟨_, _, rfl, rfl, q.bl⟩
  · obtain ⟨h1, _⟩ := r1.str_inv
    obtain ⟨h2, _⟩ := r2.str_inv
    subst h1; subst h2
    exact op_gt_str pins s σ H _ _ v u Q I rx ry ⟨_, _, rfl, rfl, q.bl⟩
theorem s_ge : OpR X (compareOp .GtE) (r2D (bF geF) true) := by
  intro pins s σ H x y v u Q I rx ry h
  obtain ⟨d, e, S, T, z, r1, r2, e1, q⟩ := h
  obtain ⟨k, e2, rfl⟩ := bF_some e1
  rcases ord_some e2 with ⟨a, b, rfl, rfl, rfl⟩ | ⟨a, b, rfl, rfl, rfl⟩
  · obtain ⟨h1, _⟩ := r1.int_inv
    obtain ⟨h2, _⟩ := r2.int_inv
    subst h1; subst h2
    exact op_ge pins s σ H _ _ v u Q I rx ry ⟨_, _, rfl, rfl, q.bl⟩
  · obtain ⟨h1, _⟩ := r1.str_inv
    obtain ⟨h2, _⟩ := r2.str_inv
    subst h1; subst h2
    exact op_ge_str pins s σ H _ _ v u Q I rx ry ⟨_, _, rfl, rfl, q.bl⟩
def keyD : D → Option Key
  | .i (.int i) => some (.inl i)
  | .i (.str x) => some (.inr x)
  | _ => none
def keyI : I → Option Key
  | .int i => some (.inl i)
  | .str x => some (.inr x)
  | _ => none
def keysI : List I → Option (List Key)
  | [] => some []
  | x :: xs => match keyI x, keysI xs with
    | some k, some ks => some (k :: ks)
    | _, _ => none
def keyT : D → Option (List Key)
  | .i (.tup xs) => keysI xs
  | _ => none
def getK : List (Key × D) → Key → Option D
  | [], _ => none
  | (k, d) :: r, x => if k = x then some d else getK r x
def getT : List (List Key × D) → List Key → Option D
  | [], _ => none
  | (k, d) :: r, x => if k = x then some d else getT r x
end
end Mp

namespace Mp
open PySem PySem.Spec PyProof.Rows L2

theorem RDk.find {H : Hp} {k : Key} : ∀ {kds : List (Key × D)} {kvs : List (Key × V)} {S : List Addr}, RDk H kds kvs S →
    (getK kds k = none ∧ valV kvs k = none) ∨ ∃ d v T, getK kds k = some d ∧ valV kvs k = some v ∧ RD H d v T ∧ T.Sublist S
  | _, _, _, .nil => .inl ⟨rfl, rfl⟩
  | _, _, _, .cons (k := k') (d := d) (v := v) (ds := ds) (vs := vs) (S := S) (T := T) h r => by
    by_cases e : k' = k
    · refine .inr ⟨d, v, S, by unfold getK; rw [if_pos e], valV_pos e, h, List.sublist_append_left _ _⟩
    · have g : getK ((k', d) :: ds) k = getK ds k := by conv => lhs; unfold getK; rw [if_neg e]
      rw [g, valV_neg (p := (k', v)) e]
      rcases RDk.find (k := k) r with q | ⟨d', v', T', q1, q2, q3, q4⟩
      · exact .inl q
      · exact .inr ⟨d', v', T', q1, q2, q3, q4.trans (List.sublist_append_right _ _)⟩
theorem RDt.find {H : Hp} {k : List Key} : ∀ {kds : List (List Key × D)} {kvs : List (List Key × V)} {S : List Addr}, RDt H kds kvs S →
    (getT kds k = none ∧ valV kvs k = none) ∨ ∃ d v T, getT kds k = some d ∧ valV kvs k = some v ∧ RD H d v T ∧ T.Sublist S
  | _, _, _, .nil => .inl ⟨rfl, rfl⟩
  | _, _, _, .cons (k := k') (d := d) (v := v) (ds := ds) (vs := vs) (S := S) (T := T) h r => by
    by_cases e : k' = k
    · refine .inr ⟨d, v, S, by unfold getT; rw [if_pos e], valV_pos e, h, List.sublist_append_left _ _⟩
    · have g : getT ((k', d) :: ds) k = getT ds k := by conv => lhs; unfold getT; rw [if_neg e]
      rw [g, valV_neg (p := (k', v)) e]
      rcases RDt.find (k := k) r with q | ⟨d', v', T', q1, q2, q3, q4⟩
      · exact .inl q
      · exact .inr ⟨d', v', T', q1, q2, q3, q4.trans (List.sublist_append_right _ _)⟩
theorem keyD_inv {H : Hp} {d : D} {v : V} {S : List Addr} {k : Key} (h : RD H d v S) (e : keyD d = some k) : v = kV k ∧ S = [] := by
  unfold keyD at e
  split at e
  · cases e; obtain ⟨h1, h2⟩ := h.int_inv; exact ⟨h1, h2⟩
  · cases e; obtain ⟨h1, h2, _⟩ := h.str_inv; exact ⟨h1, h2⟩
  · cases e
theorem keysI_inv {H : Hp} : ∀ {xs : List I} {vs : List V} {ks : List Key}, RIs H xs vs → keysI xs = some ks → vs = ks.map kV
  | _, _, ks, .nil, e => by
    have e : some [] = some ks := e
    cases e; rfl
  | _, _, ks, .cons (x := x) (xs := xs) h r, e => by
    unfold keysI at e
    split at e
    · rename_i k ks' e1 e2
      cases e
      have h1 := keysI_inv r e2
      rw [h1]
      cases x with
      | int i => cases h; cases e1; rfl
      | str z => cases h; cases e1; rfl
      | _ => cases e1
    · cases e
theorem keyT_inv {H : Hp} {d : D} {v : V} {S : List Addr} {ks : List Key} (h : RD H d v S) (e : keyT d = some ks) : S = [] ∧ ∃ b, v = .ref b ∧ H b = some (.tup (ks.map kV)) := by
  unfold keyT at e
  split at e
  · obtain ⟨h1, h2⟩ := h.i_inv
    obtain ⟨a, vs, rfl, hs, hr⟩ := h1.tup_inv
    have := keysI_inv hr e
    subst this
    exact ⟨h2, a, rfl, hs⟩
  · cases e
def lookD (c k : D) : Option (Option D) := match c with
  | .dk kds => (keyD k).map (getK kds)
  | .dt kds => (keyT k).map (getT kds)
  | _ => none
theorem lookD_inv {H : Hp} {c k : D} {x y : V} {S T : List Addr} {o : Option D} (hc : RD H c x S) (hk : RD H k y T) (e : lookD c k = some o) :
    ∃ a ov, x = .ref a ∧ DGet H a y ov ∧ IsD H a ∧ ((o = none ∧ ov = none) ∨ ∃ d v U, o = some d ∧ ov = some v ∧ RD H d v U ∧ U.Sublist S) := by
  unfold lookD at e
  cases hc with
  | dk hs hr hn =>
    rename_i a kvs kds S'
    cases q : keyD k with
    | none => rw [q] at e; cases e
    | some kk =>
      rw [q] at e
      cases e
      obtain ⟨rfl, _⟩ := keyD_inv hk q
      refine ⟨a, valV kvs kk, rfl, .inl ⟨kvs, kk, hs, rfl, rfl⟩, .inl ⟨kvs, hs⟩, ?_⟩
      rcases hr.find (k := kk) with ⟨q1, q2⟩ | ⟨d, v, U, q1, q2, q3, q4⟩
      · exact .inl ⟨q1, q2⟩
      · exact .inr ⟨d, v, U, q1, q2, q3, q4.trans (List.sublist_cons_self _ _)⟩
  | dt hs hr hn =>
    rename_i a kvs kds S'
    cases q : keyT k with
    | none => rw [q] at e; cases e
    | some kk =>
      rw [q] at e
      cases e
      obtain ⟨_, b, rfl, hb⟩ := keyT_inv hk q
      refine ⟨a, valV kvs kk, rfl, .inr ⟨kvs, kk, b, hs, rfl, hb, rfl⟩, .inr ⟨kvs, hs⟩, ?_⟩
      rcases hr.find (k := kk) with ⟨q1, q2⟩ | ⟨d, v, U, q1, q2, q3, q4⟩
      · exact .inl ⟨q1, q2⟩
      · exact .inr ⟨d, v, U, q1, q2, q3, q4.trans (List.sublist_cons_self _ _)⟩
  | _ => cases e

def inF (x y : D) : Option Bool := match x, y with
  | .i (.str a), .i (.str b) => some (!(Builtin.Str.occurrences b a 0 b.length 1).isEmpty)
  | _, _ => match memD x y with
    | some k => some k
    | none => (lookD y x).map Option.isSome
theorem memD_some {x y : D} {k : Bool} (h : memD x y = some k) : ∃ p qs, pyD x = some p ∧ (pyD y = some (.list qs) ∨ pyD y = some (.tuple qs)) ∧ min (PyData.depthAll qs) p.depth ≤ 60 ∧ k = qs.any fun q => PyData.eqv q p := by
  unfold memD at h
  split at h
  · split at h
    · exact ⟨_, _, by assumption, .inl (by assumption), by assumption, (Option.some.inj h).symm⟩
    · cases h
  · split at h
    · exact ⟨_, _, by assumption, .inr (by assumption), by assumption, (Option.some.inj h).symm⟩
    · cases h
  · cases h
section
variable {X : Cx}
theorem s_in {n : Nat} (hr : Room n X.A) : OpR X (compareOp .In) (r2D (bF inF) true) := by
  intro pins s σ H x y v u Q J rx ry h
  obtain ⟨d, e, S, T, z, r1, r2, e1, q⟩ := h
  obtain ⟨k, e2, rfl⟩ := bF_some e1
  have hu := hr.units
  unfold inF at e2
  split at e2
  · cases e2
    obtain ⟨h1, _⟩ := r1.str_inv
    obtain ⟨h2, _⟩ := r2.str_inv
    subst h1; subst h2
    exact op_in_str pins s σ H _ _ v u Q J rx ry ⟨_, _, rfl, rfl, q.bl⟩
  · split at e2
    · rename_i k' em
      cases e2
      obtain ⟨p, qs, h1, h2, h3, rfl⟩ := memD_some em
      obtain ⟨dp, c1⟩ := r1.dp (K := X.K) h1
      obtain ⟨as, w1⟩ := Dp.reads J p x v dp rx
      rcases h2 with h2 | h2
      · obtain ⟨dq, c2⟩ := r2.dp (K := X.K) h2
        obtain ⟨bs, w2⟩ := Dp.reads J _ y u dq ry
        exact SeqAt.in_list_reads w2 w1 c2 c1 (by omega) ⟨.bl _, H, J, rfl, q.bl⟩
      · obtain ⟨dq, c2⟩ := r2.dp (K := X.K) h2
        obtain ⟨bs, w2⟩ := Dp.reads J _ y u dq ry
        exact SeqAt.in_tuple_reads w2 w1 c2 c1 (by omega) ⟨.bl _, H, J, rfl, q.bl⟩
    · cases el : lookD e d with
      | none => rw [el] at e2; cases e2
      | some o =>
        rw [el] at e2
        cases e2
        obtain ⟨a, ov, rfl, g, _, ho⟩ := lookD_inv r2 r1 el
        cases ry
        refine d_in (by omega) J g rx fun s3 I3 => ⟨.bl ov.isSome, H, I3, rfl, ?_⟩
        have : ov.isSome = o.isSome := by rcases ho with ⟨h1, h2⟩ | ⟨_, _, _, h1, h2, _⟩ <;> rw [h1, h2] <;> rfl
        rw [this]
        exact q.bl
theorem s_notin {n : Nat} (hr : Room n X.A) : OpR X (compareOp .NotIn) (r2D (bF fun d e => (inF d e).map (!·)) true) := by
  intro pins s σ H x y v u Q J rx ry h
  obtain ⟨d, e, S, T, z, r1, r2, e1, q⟩ := h
  obtain ⟨k, e2', rfl⟩ := bF_some e1
  have hu := hr.units
  cases e2 : inF d e with
  | none => rw [e2] at e2'; cases e2'
  | some k' =>
  rw [e2] at e2'
  cases e2'
  unfold inF at e2
  split at e2
  · cases e2
    obtain ⟨h1, _⟩ := r1.str_inv
    obtain ⟨h2, _⟩ := r2.str_inv
    subst h1; subst h2
    exact L2.op_notIn_str pins s σ H _ _ v u Q J rx ry ⟨_, _, rfl, rfl, q.bl⟩
  · split at e2
    · rename_i k'' em
      cases e2
      obtain ⟨p, qs, h1, h2, h3, rfl⟩ := memD_some em
      obtain ⟨dp, c1⟩ := r1.dp (K := X.K) h1
      obtain ⟨as, w1⟩ := Dp.reads J p x v dp rx
      rcases h2 with h2 | h2
      · obtain ⟨dq, c2⟩ := r2.dp (K := X.K) h2
        obtain ⟨bs, w2⟩ := Dp.reads J _ y u dq ry
        exact SeqAt.notIn_list_reads w2 w1 c2 c1 (by omega) ⟨.bl _, H, J, rfl, q.bl⟩
      · obtain ⟨dq, c2⟩ := r2.dp (K := X.K) h2
        obtain ⟨bs, w2⟩ := Dp.reads J _ y u dq ry
        exact SeqAt.notIn_tuple_reads w2 w1 c2 c1 (by omega) ⟨.bl _, H, J, rfl, q.bl⟩
    · cases el : lookD e d with
      | none => rw [el] at e2; cases e2
      | some o =>
        rw [el] at e2
        cases e2
        obtain ⟨a, ov, rfl, g, _, ho⟩ := lookD_inv r2 r1 el
        cases ry
        refine d_notIn (by omega) J g rx fun s3 I3 => ⟨.bl (!ov.isSome), H, I3, rfl, ?_⟩
        have : ov.isSome = o.isSome := by rcases ho with ⟨h1, h2⟩ | ⟨_, _, _, h1, h2, _⟩ <;> rw [h1, h2] <;> rfl
        rw [this]
        exact q.bl
def isN : D → Bool
  | .i .non => true
  | _ => false
def isB (b : Bool) : D → Bool
  | .i (.bl a) => a == b
  | _ => false
def isF (x y : D) : Option Bool := match y with
  | .i .non => some (isN x)
  | .i (.bl b) => some (isB b x)
  | _ => none
theorem RelV.plain {v : V} {u : Value} (h : RelV v u) (b : Bool) : plainIs u (.bool b) = true ∧ plainIs u .none = true := by
  cases v <;> first
    | (cases h; exact ⟨rfl, rfl⟩)
    | (obtain ⟨t, rfl⟩ := h; exact ⟨rfl, rfl⟩)
theorem is_ans {H : Hp} {d : D} {v : V} {S : List Addr} {u : Value} (h : RD H d v S) (r : RelV v u) (b : Bool) : (u == Value.bool b) = isB b d ∧ (u == Value.none) = isN d := by
  have bb : ∀ a : Bool, (Value.bool a == Value.bool b) = (a == b) := fun a => by cases a <;> cases b <;> rfl
  cases h with
  | i hx =>
    cases hx with
    | bl a => cases r; exact ⟨bb a, rfl⟩
    | non => cases r; exact ⟨rfl, rfl⟩
    | int a => obtain ⟨t, rfl⟩ := r; exact ⟨rfl, rfl⟩
    | str a => obtain ⟨t, rfl⟩ := r; exact ⟨rfl, rfl⟩
    | tup _ _ => cases r; exact ⟨rfl, rfl⟩
  | lst _ _ => cases r; exact ⟨rfl, rfl⟩
  | tup _ _ => cases r; exact ⟨rfl, rfl⟩
  | dk _ _ => cases r; exact ⟨rfl, rfl⟩
  | dt _ _ => cases r; exact ⟨rfl, rfl⟩
theorem s_is : OpR X (compareOp .Is) (r2D (bF isF) true) := by
  intro pins s σ H x y v u Q J rx ry h
  obtain ⟨d, e, S, T, z, r1, r2, e1, q⟩ := h
  obtain ⟨k, e2, rfl⟩ := bF_some e1
  unfold isF at e2
  split at e2
  · obtain ⟨rfl, _⟩ := r2.non_inv
    cases ry
    cases e2
    exact wpAny_is_plain (RelV.plain rx true).2 ⟨.bl _, H, J, by rw [(is_ans r1 rx true).2]; rfl, q.bl⟩
  · rename_i b
    obtain ⟨rfl, _⟩ := r2.bl_inv
    cases ry
    cases e2
    exact wpAny_is_plain (RelV.plain rx b).1 ⟨.bl _, H, J, by rw [(is_ans r1 rx b).1]; rfl, q.bl⟩
  · cases e2
theorem s_isnot : OpR X (compareOp .IsNot) (r2D (bF fun d e => (isF d e).map (!·)) true) := by
  intro pins s σ H x y v u Q J rx ry h
  obtain ⟨d, e, S, T, z, r1, r2, e1, q⟩ := h
  obtain ⟨k, e2', rfl⟩ := bF_some e1
  cases e2 : isF d e with
  | none => rw [e2] at e2'; cases e2'
  | some k' =>
  rw [e2] at e2'
  cases e2'
  unfold isF at e2
  split at e2
  · obtain ⟨rfl, _⟩ := r2.non_inv
    cases ry
    cases e2
    exact wpAny_isNot_plain (RelV.plain rx true).2 ⟨.bl _, H, J, by rw [(is_ans r1 rx true).2]; rfl, q.bl⟩
  · rename_i b
    obtain ⟨rfl, _⟩ := r2.bl_inv
    cases ry
    cases e2
    exact wpAny_isNot_plain (RelV.plain rx b).1 ⟨.bl _, H, J, by rw [(is_ans r1 rx b).1]; rfl, q.bl⟩
  · cases e2
def sgn (c : Nat) : Str := ⟨#[c]⟩
def ixS : D → D → Option D
  | .i (.str z), .i (.int i) => if z.length ≤ sizeLine then (atI z.cps.toList i).map fun c => .i (.str (sgn c)) else none
  | x, y => (lookD x y).join
def ixF (x y : D) : Option D := match kids x with
  | some ds => (match y with
    | .i (.int i) => atI ds i
    | _ => none)
  | none => ixS x y
theorem strOk_at {z : Str} {c : Nat} (h : PyData.strOk z = true) (hc : c ∈ z.cps.toList) : PyData.strOk (sgn c) = true := by
  unfold PyData.strOk at *
  rw [← Array.all_toList] at h ⊢
  have h2 := List.all_eq_true.mp h c hc
  show ([c] : List Nat).all _ = true
  simpa using h2
theorem atI_mem {α : Type} {xs : List α} {i : Int} {v : α} (h : atI xs i = some v) : ∃ j, ixN xs.length i = some j ∧ xs[j]? = some v := by
  unfold atI at h
  cases q : ixN xs.length i with
  | none => rw [q] at h; cases h
  | some j => rw [q] at h; exact ⟨j, rfl, h⟩
theorem atI_of {α : Type} {xs : List α} {i : Int} {j : Nat} {v : α} (h1 : ixN xs.length i = some j) (h2 : xs[j]? = some v) : atI xs i = some v := by
  unfold atI; rw [h1]; exact h2
theorem s_ix {n : Nat} (hr : Room n X.A) : IxR X (r2D ixF false) := by
  intro value slice pins s σ H x y v u Q J rx ry h hs
  obtain ⟨d, e, S, T, z, r1, r2, e1, q⟩ := h
  have hu := hr.units
  unfold ixF at e1
  split at e1
  · rename_i ds ek
    split at e1
    case h_2 => cases e1
    rename_i i
    obtain ⟨a, vs, T1, rfl, hsq, rds, hsub⟩ := r1.kids ek
    obtain ⟨rfl, _⟩ := r2.int_inv
    obtain ⟨j, h1, h2⟩ := atI_mem e1
    obtain ⟨w, U, h3, h4, h5⟩ := rds.get h2
    have hw : atI vs i = some w := atI_of (by rw [← rds.length]; exact h1) h3
    have hq : Q w H := q w H U (Grow.refl H) h4 (Part.sub ((h5.trans hsub).trans (List.sublist_append_left _ _)))
    rcases hsq with hsq | hsq
    · exact ix_list value slice pins s σ H _ _ v u Q J rx ry ⟨a, vs, i, w, rfl, rfl, .inl hsq, hw, hq⟩ hs
    · exact ix_tup value slice pins s σ H _ _ v u Q J rx ry ⟨a, vs, i, w, rfl, rfl, TuA.sq hsq, hw, hq⟩ hs
  · unfold ixS at e1
    split at e1
    · rename_i t i _
      split at e1
      · rename_i hz
        cases ec : atI t.cps.toList i with
        | none => rw [ec] at e1; cases e1
        | some c =>
          rw [ec] at e1
          cases e1
          obtain ⟨rfl, _, o1⟩ := r1.str_inv
          obtain ⟨rfl, _⟩ := r2.int_inv
          obtain ⟨j, _, h2⟩ := atI_mem ec
          exact ix_str value slice pins s σ H _ _ v u Q J rx ry ⟨t, i, c, rfl, rfl, hz, ec, q.str (strOk_at o1 (List.mem_of_getElem? h2))⟩ hs
      · cases e1
    · skip
      cases el : lookD d e with
      | none => rw [el] at e1; cases e1
      | some o =>
        rw [el] at e1
        obtain ⟨a, ov, rfl, g, _, ho⟩ := lookD_inv r1 r2 el
        rcases ho with ⟨h1, _⟩ | ⟨d', w, U, h1, h2, h3, h4⟩
        · subst h1; cases e1
        · subst h1; subst h2
          cases e1
          cases rx
          exact tail_any (dict_typeIs J g) PySem.F.slot_dict_getitem.lookup (d_getItem (by omega) J g ry fun w' s3 I3 rw' =>
            ⟨w, H, I3, rw', q w H U (Grow.refl H) h3 (Part.sub (h4.trans (List.sublist_append_left _ _)))⟩) hs
end
end Mp

namespace Mp
open PySem PySem.Spec PyProof.Rows L2
section
variable {X : Cx}
theorem vals_one {x : V} {us : List Value} (r : Vals [x] us) : ∃ u, us = [u] ∧ RelV x u := by
  cases r with
  | cons h t => cases t; exact ⟨_, rfl, h⟩
def lenF (d : D) : Option D := match d with
  | .dt _ => none
  | _ => (lenD d).map fun n : Nat => D.i (.int (n : Int))
theorem s_len : CallR X (.builtin "len") (rnD (f1 lenF) true) := by
  intro pins s σ H xs us Q J r h
  obtain ⟨ds, S, z, rd, e, q⟩ := h
  have hl := rd.length
  match ds, e, hl with
  | [d], e, _ =>
  obtain ⟨v, rfl, r1⟩ := rd.one
  obtain ⟨u, rfl, ru⟩ := vals_one r
  have h63 := line63
  have e : lenF d = some z := e
  unfold lenF at e
  split at e
  · cases e
  · rename_i d' nt
    cases r1 with
    | i hx =>
      cases hx with
      | str x ok =>
        have e : (if x.length ≤ sizeLine then some x.length else none).map (fun n : Nat => D.i (.int n)) = some z := e
        split at e
        · rename_i hz
          cases e
          exact call_len_str pins s σ H _ [u] Q J (.cons ru .nil) ⟨x, rfl, hz, q.int⟩
        · cases e
      | tup hs hr =>
        cases e
        refine call_len_seq pins s σ H _ [u] Q J (.cons ru .nil) ⟨_, _, rfl, .inr hs.sq, ?_⟩
        rw [← hr.length]
        exact q.int
      | _ => cases e
    | lst hs hr =>
      cases e
      refine call_len_seq pins s σ H _ [u] Q J (.cons ru .nil) ⟨_, _, rfl, .inl (.inl hs), ?_⟩
      rw [← hr.length]
      exact q.int
    | tup hs hr =>
      cases e
      refine call_len_seq pins s σ H _ [u] Q J (.cons ru .nil) ⟨_, _, rfl, .inr hs.sq, ?_⟩
      rw [← hr.length]
      exact q.int
    | dk hs hr hn =>
      cases e
      cases ru
      refine d_len J hs fun t s' J' => ⟨.int _, H, J', ⟨t, rfl⟩, ?_⟩
      rw [← hr.length]
      exact q.int
    | dt hs hr hn => exact absurd rfl (nt _)
def tyNames : List String := ["int", "bool", "str", "tuple", "list", "dict"]
def isiB (a b : String) : Bool := a == b || (a == "bool" && b == "int")
def isiF (T : String) (d : D) : Option D := match d with
  | .dt _ => none
  | _ => if tyNames.contains T then some (.i (.bl (isiB (tyD d) T))) else none
theorem kit_all : ∀ a ∈ ["NoneType", "bool", "int", "str", "tuple", "list", "dict"], ∀ b ∈ tyNames, kitB a b = some (isiB a b) := by decide +kernel
theorem tyD_in (d : D) : tyD d ∈ ["NoneType", "bool", "int", "str", "tuple", "list", "dict"] := by
  cases d with
  | i x => cases x <;> simp [tyD, tyI]
  | _ => simp [tyD]
def rIsi (T : String) : List V → Hp → VK → Prop := fun vs H Q => ∃ d S z x, vs = [x, .ty T] ∧ RD H d x S ∧ isiF T d = some z ∧ Vr H [] z Q
theorem s_isi {T : String} : CallR X (.builtin "isinstance") (rIsi T) := by
  intro pins s σ H xs us Q J r h
  obtain ⟨d, S, z, x, rfl, r1, e, q⟩ := h
  unfold isiF at e
  split at e
  · cases e
  · rename_i nt
    split at e
    · rename_i hT
      cases e
      refine call_isi pins s σ H _ us Q J r ⟨x, .ty T, _, .type T, isiB (tyD d) T, rfl, .ty T, r1.ty (fun kvs => nt kvs), kit_ty (kit_all _ (tyD_in d) T (by simpa using hT)), q.bl⟩
    · cases e
def tupF (d : D) : Option D := match kidsT d with
  | some _ => some d
  | none => match kidsL d with
    | some ds => (allI ds).map fun xs => .i (.tup xs)
    | none => none
theorem s_tup : CallR X (.type "tuple") (rnD (f1 tupF) false) := by
  intro pins s σ H xs us Q J r h
  obtain ⟨ds, S, z, rd, e, q⟩ := h
  have hl := rd.length
  match ds, e, hl with
  | [d], e, _ =>
  obtain ⟨v, rfl, r1⟩ := rd.one
  have e : tupF d = some z := e
  unfold tupF at e
  split at e
  · rename_i ds' ek
    cases e
    obtain ⟨a, vs, rfl, hs, hr⟩ := r1.kidsT ek
    exact call_tuple_of pins s σ H _ us Q J r ⟨a, vs, rfl, .inr ⟨hs.sq, q _ H S (Grow.refl H) r1 (Part.sub (List.Sublist.refl _))⟩⟩
  · split at e
    · rename_i ds' ek
      obtain ⟨a, vs, T, rfl, hs, hr, rfl⟩ := r1.kidsL ek
      cases ea : allI ds' with
      | none => rw [ea] at e; cases e
      | some ys =>
        rw [ea] at e
        cases e
        obtain ⟨hi, _⟩ := hr.toI ea
        exact call_tuple_of pins s σ H _ us Q J r ⟨a, vs, rfl, .inl ⟨.inl hs, fun l hl => q.tupI hi hl⟩⟩
    · cases e
def lstF (d : D) : Option D := match kids d with
  | some ds => (allI ds).map fun xs => .lst (xs.map .i)
  | none => none
theorem s_lst : CallR X (.type "list") (rnD (f1 lstF) true) := by
  intro pins s σ H xs us Q J r h
  obtain ⟨ds, S, z, rd, e, q⟩ := h
  have hl := rd.length
  match ds, e, hl with
  | [d], e, _ =>
  obtain ⟨v, rfl, r1⟩ := rd.one
  have e : lstF d = some z := e
  unfold lstF at e
  split at e
  · rename_i ds' ek
    obtain ⟨a, vs, T, rfl, hs, hr, _⟩ := r1.kids ek
    cases ea : allI ds' with
    | none => rw [ea] at e; cases e
    | some ys =>
      rw [ea] at e
      cases e
      obtain ⟨hi, _⟩ := hr.toI ea
      refine call_list_of pins s σ H _ us Q J r ⟨a, vs, rfl, ?_, fun l hl => q.lstI hi hl⟩
      rcases hs with hs | hs
      · exact .inl (.inl hs)
      · exact .inr hs.sq
  · cases e
def intF : D → Option D
  | .i (.int i) => some (.i (.int i))
  | .i (.bl b) => some (.i (.int (if b then 1 else 0)))
  | _ => none
theorem s_int : CallR X (.type "int") (rnD (f1 intF) true) := by
  intro pins s σ H xs us Q J r h
  obtain ⟨ds, S, z, rd, e, q⟩ := h
  have hl := rd.length
  match ds, e, hl with
  | [d], e, _ =>
  obtain ⟨v, rfl, r1⟩ := rd.one
  have e : intF d = some z := e
  unfold intF at e
  split at e
  · cases e
    obtain ⟨rfl, _⟩ := r1.int_inv
    exact call_int1 pins s σ H _ us Q J r (.inl ⟨_, rfl, q.int⟩)
  · cases e
    obtain ⟨rfl, _⟩ := r1.bl_inv
    exact call_int1 pins s σ H _ us Q J r (.inr ⟨_, rfl, q.int⟩)
  · cases e
def strI (i : Int) : Str := Str.ofString (toString i)
def strF : D → Option D
  | .i (.int i) => if i.natAbs.log2 < 1920 then some (.i (.str (strI i))) else none
  | _ => none
theorem strOk_strI (i : Int) : PyData.strOk (strI i) = true := by
  unfold strI PyData.strOk
  rw [← Array.all_toList]
  refine List.all_eq_true.mpr fun c hc => ?_
  rw [Str.ofString_eq_toList] at hc
  have : c ∈ (toString i).toList.map Char.toNat := by simpa using hc
  obtain ⟨ch, h1, rfl⟩ := List.mem_map.mp this
  have := int_ascii i ch h1
  exact decide_eq_true (by omega)
theorem s_str : CallR X (.type "str") (rnD (f1 strF) true) := by
  intro pins s σ H xs us Q J r h
  obtain ⟨ds, S, z, rd, e, q⟩ := h
  have hl := rd.length
  match ds, e, hl with
  | [d], e, _ =>
  obtain ⟨v, rfl, r1⟩ := rd.one
  have e : strF d = some z := e
  unfold strF at e
  split at e
  · split at e
    · rename_i hz
      cases e
      obtain ⟨rfl, _⟩ := r1.int_inv
      exact call_str_int pins s σ H _ us Q J r ⟨_, rfl, hz, q.str (strOk_strI _)⟩
    · cases e
  · cases e
def absF : D → Option D
  | .i (.int i) => some (.i (.int (if i < 0 then -i else i)))
  | _ => none
theorem s_abs : CallR X (.builtin "abs") (rnD (f1 absF) true) := by
  intro pins s σ H xs us Q J r h
  obtain ⟨ds, S, z, rd, e, q⟩ := h
  have hl := rd.length
  match ds, e, hl with
  | [d], e, _ =>
  obtain ⟨v, rfl, r1⟩ := rd.one
  have e : absF d = some z := e
  unfold absF at e
  split at e
  · cases e
    obtain ⟨rfl, _⟩ := r1.int_inv
    exact call_abs pins s σ H _ us Q J r ⟨_, rfl, q.int⟩
  · cases e
def min2F : D → D → Option D
  | .i (.int i), .i (.int j) => some (.i (.int (if j < i then j else i)))
  | _, _ => none
def max2F : D → D → Option D
  | .i (.int i), .i (.int j) => some (.i (.int (if j > i then j else i)))
  | _, _ => none
theorem s_min2 (hc : X.calm = true) : CallR X (.builtin "min") (rnD (f2 min2F) true) := by
  intro pins s σ H xs us Q J r h
  obtain ⟨ds, S, z, rd, e, q⟩ := h
  have hl := rd.length
  match ds, e, hl with
  | [d, d'], e, _ =>
  obtain ⟨v, w, _, _, rfl, r1, r2, _⟩ := rd.two
  have e : min2F d d' = some z := e
  unfold min2F at e
  split at e
  · cases e
    obtain ⟨rfl, _⟩ := r1.int_inv
    obtain ⟨rfl, _⟩ := r2.int_inv
    exact call_min2 hc pins s σ H _ us Q J r ⟨_, _, rfl, q.int⟩
  · cases e
theorem s_max2 (hc : X.calm = true) : CallR X (.builtin "max") (rnD (f2 max2F) true) := by
  intro pins s σ H xs us Q J r h
  obtain ⟨ds, S, z, rd, e, q⟩ := h
  have hl := rd.length
  match ds, e, hl with
  | [d, d'], e, _ =>
  obtain ⟨v, w, _, _, rfl, r1, r2, _⟩ := rd.two
  have e : max2F d d' = some z := e
  unfold max2F at e
  split at e
  · cases e
    obtain ⟨rfl, _⟩ := r1.int_inv
    obtain ⟨rfl, _⟩ := r2.int_inv
    exact call_max2 hc pins s σ H _ us Q J r ⟨_, _, rfl, q.int⟩
  · cases e
def blsI : List I → Option (List Bool)
  | [] => some []
  | .bl b :: r => (blsI r).map (b :: ·)
  | _ :: _ => none
def intsI : List I → Option (List Int)
  | [] => some []
  | .int b :: r => (intsI r).map (b :: ·)
  | _ :: _ => none
def ofL {α : Type} (f : List I → Option α) (d : D) : Option α := match kidsL d with
  | some ds => (match allI ds with
    | some xs => f xs
    | none => none)
  | none => none
theorem blsI_inv {H : Hp} : ∀ {xs : List I} {vs : List V} {bs : List Bool}, RIs H xs vs → blsI xs = some bs → vs = bs.map V.bl
  | [], _, bs, .nil, e => by
    have e : some [] = some bs := e
    cases e; rfl
  | .bl b :: r, _, bs, .cons h t, e => by
    have e : (blsI r).map (b :: ·) = some bs := e
    cases q : blsI r with
    | none => rw [q] at e; cases e
    | some cs =>
      rw [q] at e
      cases e
      cases h
      rw [blsI_inv t q]; rfl
  | .non :: _, _, _, _, e => by cases e
  | .int _ :: _, _, _, _, e => by cases e
  | .str _ :: _, _, _, _, e => by cases e
  | .tup _ :: _, _, _, _, e => by cases e
theorem intsI_inv {H : Hp} : ∀ {xs : List I} {vs : List V} {bs : List Int}, RIs H xs vs → intsI xs = some bs → vs = bs.map V.int
  | [], _, bs, .nil, e => by
    have e : some [] = some bs := e
    cases e; rfl
  | .int b :: r, _, bs, .cons h t, e => by
    have e : (intsI r).map (b :: ·) = some bs := e
    cases q : intsI r with
    | none => rw [q] at e; cases e
    | some cs =>
      rw [q] at e
      cases e
      cases h
      rw [intsI_inv t q]; rfl
  | .non :: _, _, _, _, e => by cases e
  | .bl _ :: _, _, _, _, e => by cases e
  | .str _ :: _, _, _, _, e => by cases e
  | .tup _ :: _, _, _, _, e => by cases e
theorem ofL_inv {α : Type} {f : List I → Option α} {H : Hp} {d : D} {v : V} {S : List Addr} {y : α} (h : RD H d v S) (e : ofL f d = some y) : ∃ a vs xs, v = .ref a ∧ Rd H a (.lst vs) ∧ RIs H xs vs ∧ f xs = some y := by
  unfold ofL at e
  split at e
  · rename_i ds ek
    obtain ⟨a, vs, T, rfl, hs, hr, _⟩ := h.kidsL ek
    split at e
    · rename_i xs ea
      obtain ⟨hi, _⟩ := hr.toI ea
      exact ⟨a, vs, xs, rfl, hs, hi, e⟩
    · cases e
  · cases e
def allF (d : D) : Option D := (ofL blsI d).map fun bs => .i (.bl (bs.all id))
def anyF (d : D) : Option D := (ofL blsI d).map fun bs => .i (.bl (bs.any id))
def sumF (d : D) : Option D := (ofL intsI d).map fun ns => .i (.int ns.sum)
theorem map_some {α β : Type} {o : Option α} {f : α → β} {y : β} (h : o.map f = some y) : ∃ x, o = some x ∧ f x = y := by
  cases o with
  | none => cases h
  | some x => exact ⟨x, rfl, Option.some.inj h⟩
theorem s_all (hc : X.calm = true) : CallR X (.builtin "all") (rnD (f1 allF) true) := by
  intro pins s σ H xs us Q J r h
  obtain ⟨ds, S, z, rd, e, q⟩ := h
  have hl := rd.length
  match ds, e, hl with
  | [d], e, _ =>
  obtain ⟨v, rfl, r1⟩ := rd.one
  obtain ⟨bs, e1, rfl⟩ := map_some (show (ofL blsI d).map _ = some z from e)
  obtain ⟨a, vs, ys, rfl, hs, hi, e2⟩ := ofL_inv r1 e1
  have := blsI_inv hi e2
  subst this
  exact cr_all hc pins s σ H _ us Q J r ⟨a, bs, rfl, .inl hs, q.bl⟩
theorem s_any (hc : X.calm = true) : CallR X (.builtin "any") (rnD (f1 anyF) true) := by
  intro pins s σ H xs us Q J r h
  obtain ⟨ds, S, z, rd, e, q⟩ := h
  have hl := rd.length
  match ds, e, hl with
  | [d], e, _ =>
  obtain ⟨v, rfl, r1⟩ := rd.one
  obtain ⟨bs, e1, rfl⟩ := map_some (show (ofL blsI d).map _ = some z from e)
  obtain ⟨a, vs, ys, rfl, hs, hi, e2⟩ := ofL_inv r1 e1
  have := blsI_inv hi e2
  subst this
  exact cr_any hc pins s σ H _ us Q J r ⟨a, bs, rfl, .inl hs, q.bl⟩
theorem s_sum (hc : X.calm = true) : CallR X (.builtin "sum") (rnD (f1 sumF) true) := by
  intro pins s σ H xs us Q J r h
  obtain ⟨ds, S, z, rd, e, q⟩ := h
  have hl := rd.length
  match ds, e, hl with
  | [d], e, _ =>
  obtain ⟨v, rfl, r1⟩ := rd.one
  obtain ⟨bs, e1, rfl⟩ := map_some (show (ofL intsI d).map _ = some z from e)
  obtain ⟨a, vs, ys, rfl, hs, hi, e2⟩ := ofL_inv r1 e1
  have := intsI_inv hi e2
  subst this
  exact cr_sum hc pins s σ H _ us Q J r ⟨a, bs, rfl, .inl hs, q.int⟩
def leastL : List Int → Int
  | [] => 0
  | [a] => a
  | a :: b :: r => let m := leastL (b :: r); if a ≤ m then a else m
def mostL : List Int → Int
  | [] => 0
  | [a] => a
  | a :: b :: r => let m := mostL (b :: r); if m ≤ a then a else m
theorem leastL_is : ∀ {ns : List Int} {m : Int}, m ∈ ns → (∀ y ∈ ns, m ≤ y) → leastL ns = m
  | [a], m, h, _ => by simp at h; simp [leastL, h]
  | a :: b :: r, m, h, hl => by
    unfold leastL
    have ha := hl a List.mem_cons_self
    have key : leastL (b :: r) ∈ b :: r ∧ ∀ y ∈ b :: r, leastL (b :: r) ≤ y := least_mem (b :: r) (by simp)
    have hm := hl _ (List.mem_cons_of_mem _ key.1)
    rcases List.mem_cons.mp h with e | h2
    · subst e
      simp only [hm, if_true]
    · have := key.2 m h2
      have e : leastL (b :: r) = m := by omega
      simp only [e]
      split <;> omega
where
  least_mem : ∀ (ns : List Int), ns ≠ [] → leastL ns ∈ ns ∧ ∀ y ∈ ns, leastL ns ≤ y
    | [a], _ => by simp [leastL]
    | a :: b :: r, _ => by
      obtain ⟨h1, h2⟩ := least_mem (b :: r) (by simp)
      unfold leastL
      by_cases hc : a ≤ leastL (b :: r)
      · simp only [hc, if_true]
        exact ⟨List.mem_cons_self, fun y hy => (List.mem_cons.mp hy).elim (fun e => by omega) fun hy => by have := h2 y hy; omega⟩
      · simp only [hc, if_false]
        exact ⟨List.mem_cons_of_mem _ h1, fun y hy => (List.mem_cons.mp hy).elim (fun e => by omega) fun hy => h2 y hy⟩
theorem mostL_mem : ∀ (ns : List Int), ns ≠ [] → mostL ns ∈ ns ∧ ∀ y ∈ ns, y ≤ mostL ns
  | [a], _ => by simp [mostL]
  | a :: b :: r, _ => by
    obtain ⟨h1, h2⟩ := mostL_mem (b :: r) (by simp)
    unfold mostL
    by_cases hc : mostL (b :: r) ≤ a
    · simp only [hc, if_true]
      exact ⟨List.mem_cons_self, fun y hy => (List.mem_cons.mp hy).elim (fun e => by omega) fun hy => by have := h2 y hy; omega⟩
    · simp only [hc, if_false]
      exact ⟨List.mem_cons_of_mem _ h1, fun y hy => (List.mem_cons.mp hy).elim (fun e => by omega) fun hy => h2 y hy⟩
theorem mostL_is {ns : List Int} {m : Int} (h : m ∈ ns) (hl : ∀ y ∈ ns, y ≤ m) : mostL ns = m := by
  have hn : ns ≠ [] := fun e => by rw [e] at h; cases h
  obtain ⟨h1, h2⟩ := mostL_mem ns hn
  have := hl _ h1
  have := h2 _ h
  omega
def minF (d : D) : Option D := match ofL intsI d with
  | some (a :: r) => some (.i (.int (leastL (a :: r))))
  | _ => none
def maxF (d : D) : Option D := match ofL intsI d with
  | some (a :: r) => some (.i (.int (mostL (a :: r))))
  | _ => none
theorem s_min (hc : X.calm = true) : CallR X (.builtin "min") (rnD (f1 minF) true) := by
  intro pins s σ H xs us Q J r h
  obtain ⟨ds, S, z, rd, e, q⟩ := h
  have hl := rd.length
  match ds, e, hl with
  | [d], e, _ =>
  obtain ⟨v, rfl, r1⟩ := rd.one
  have e : minF d = some z := e
  unfold minF at e
  split at e
  · rename_i a0 r0 e1
    cases e
    obtain ⟨a, vs, ys, rfl, hs, hi, e2⟩ := ofL_inv r1 e1
    have := intsI_inv hi e2
    subst this
    exact cr_min hc pins s σ H _ us Q J r ⟨a, a0 :: r0, rfl, .inl hs, by simp, fun m h1 h2 => by rw [leastL_is h1 h2] at q; exact q.int⟩
  · cases e
theorem s_max (hc : X.calm = true) : CallR X (.builtin "max") (rnD (f1 maxF) true) := by
  intro pins s σ H xs us Q J r h
  obtain ⟨ds, S, z, rd, e, q⟩ := h
  have hl := rd.length
  match ds, e, hl with
  | [d], e, _ =>
  obtain ⟨v, rfl, r1⟩ := rd.one
  have e : maxF d = some z := e
  unfold maxF at e
  split at e
  · rename_i a0 r0 e1
    cases e
    obtain ⟨a, vs, ys, rfl, hs, hi, e2⟩ := ofL_inv r1 e1
    have := intsI_inv hi e2
    subst this
    exact cr_max hc pins s σ H _ us Q J r ⟨a, a0 :: r0, rfl, .inl hs, by simp, fun m h1 h2 => by rw [mostL_is h1 h2] at q; exact q.int⟩
  · cases e
end
end Mp

namespace Mp
open PySem PySem.Spec PyProof.Rows L2

def cutD {α : Type} (xs : List α) (lo hi : Option Int) : List α := (xs.drop (HT.sIx xs.length 0 lo)).take (HT.sIx xs.length xs.length hi - HT.sIx xs.length 0 lo)
def slF (d : D) (lo hi : Option Int) : Option D := match d with
  | .i (.str z) => if z.length ≤ sizeLine then some (.i (.str (cutS z lo hi))) else none
  | .i (.tup xs) => some (.i (.tup (cutD xs lo hi)))
  | .tup ds => some (mkT (cutD ds lo hi))
  | .lst ds => some (.lst (cutD ds lo hi))
  | _ => none
section
variable {H : Hp}
theorem RDs.drop : ∀ {n : Nat} {ds : List D} {vs : List V} {S : List Addr}, RDs H ds vs S → ∃ T, RDs H (ds.drop n) (vs.drop n) T ∧ T.Sublist S
  | 0, _, _, S, h => ⟨S, h, List.Sublist.refl _⟩
  | _ + 1, _, _, _, .nil => ⟨[], .nil, List.Sublist.refl _⟩
  | n + 1, _, _, _, .cons h r => by
    obtain ⟨T, h1, h2⟩ := RDs.drop (n := n) r
    exact ⟨T, h1, h2.trans (List.sublist_append_right _ _)⟩
theorem RDs.take : ∀ {n : Nat} {ds : List D} {vs : List V} {S : List Addr}, RDs H ds vs S → ∃ T, RDs H (ds.take n) (vs.take n) T ∧ T.Sublist S
  | 0, _, _, S, h => ⟨[], .nil, List.nil_sublist _⟩
  | _ + 1, _, _, _, .nil => ⟨[], .nil, List.Sublist.refl _⟩
  | n + 1, _, _, _, .cons (S := S) h r => by
    obtain ⟨T, h1, h2⟩ := RDs.take (n := n) r
    exact ⟨S ++ T, .cons h h1, h2.append_left _⟩
theorem RIs.drop : ∀ {n : Nat} {ds : List I} {vs : List V}, RIs H ds vs → RIs H (ds.drop n) (vs.drop n)
  | 0, _, _, h => h
  | _ + 1, _, _, .nil => .nil
  | n + 1, _, _, .cons h r => RIs.drop (n := n) r
theorem RIs.take : ∀ {n : Nat} {ds : List I} {vs : List V}, RIs H ds vs → RIs H (ds.take n) (vs.take n)
  | 0, _, _, h => .nil
  | _ + 1, _, _, .nil => .nil
  | n + 1, _, _, .cons h r => .cons h (RIs.take (n := n) r)
theorem RDs.cut {ds : List D} {vs : List V} {S : List Addr} (h : RDs H ds vs S) (lo hi : Option Int) : ∃ T, RDs H (cutD ds lo hi) (cutV vs lo hi) T ∧ T.Sublist S := by
  unfold cutD cutV
  rw [h.length]
  obtain ⟨T, h1, h2⟩ := h.drop (n := HT.sIx vs.length 0 lo)
  obtain ⟨U, h3, h4⟩ := h1.take (n := HT.sIx vs.length vs.length hi - HT.sIx vs.length 0 lo)
  exact ⟨U, h3, h4.trans h2⟩
theorem RIs.cut {ds : List I} {vs : List V} (h : RIs H ds vs) (lo hi : Option Int) : RIs H (cutD ds lo hi) (cutV vs lo hi) := by
  unfold cutD cutV
  rw [h.length]
  exact h.drop.take
theorem cutD_all {α : Type} {xs : List α} {lo hi : Option Int} (h : HT.sIx xs.length 0 lo = 0 ∧ HT.sIx xs.length xs.length hi = xs.length) : cutD xs lo hi = xs := by
  unfold cutD
  rw [h.1, h.2]
  simp
theorem strOk_cut {z : Str} {lo hi : Option Int} (h : PyData.strOk z = true) : PyData.strOk (cutS z lo hi) = true := by
  unfold PyData.strOk at *
  unfold cutS
  rw [← Array.all_toList] at h ⊢
  rw [List.all_eq_true] at h ⊢
  intro c hc
  have hc : c ∈ (z.cps.toList.drop (HT.sIx z.length 0 lo)).take (HT.sIx z.length z.length hi - HT.sIx z.length 0 lo) := by simpa using hc
  exact h c (List.mem_of_mem_drop (List.mem_of_mem_take hc))
end
variable {X : Cx}
def rSlD : V → Option Int → Option Int → Hp → VK → Prop := fun x lo hi H Q => ∃ d S z, RD H d x S ∧ slF d lo hi = some z ∧ Vr H S z Q
theorem s_sl : SlR X rSlD := by
  intro pins s σ H x v vl vu lo hi sl Q I rx hs pl pu h
  obtain ⟨d, S, z, rd, e, q⟩ := h
  unfold slF at e
  split at e
  · rename_i z0
    split at e
    · rename_i hz
      cases e
      obtain ⟨rfl, _, ok⟩ := rd.str_inv
      exact sl_str pins s σ H _ v vl vu lo hi sl Q I rx hs pl pu ⟨_, rfl, hz, q.str (strOk_cut ok)⟩
    · cases e
  · rename_i xs
    cases e
    obtain ⟨ri, rfl⟩ := rd.i_inv
    obtain ⟨a, vs, rfl, ht, hr⟩ := ri.tup_inv
    refine sl_tupA pins s σ H _ v vl vu lo hi sl Q I rx hs pl pu ⟨a, vs, rfl, SqT.of ht, fun hw => ?_, fun hw p hp => q.tupI (hr.cut lo hi) hp⟩
    have : cutD xs lo hi = xs := cutD_all (by rw [hr.length]; exact hw)
    rw [this] at q
    exact q.i (.tup ht hr)
  · rename_i ds
    cases e
    cases rd with
    | @tup a vs _ _ ht hr =>
      obtain ⟨T, h1, h2⟩ := hr.cut lo hi
      refine sl_tupA pins s σ H _ v vl vu lo hi sl Q I rx hs pl pu ⟨a, vs, rfl, SqT.of ht, fun hw => ?_, fun hw p hp => q.tupD h1 h2 hp⟩
      have : cutD ds lo hi = ds := cutD_all (by rw [hr.length]; exact hw)
      rw [this] at q
      have rm : RD H (mkT ds) (.ref a) S := by
        unfold mkT
        cases w : allI ds with
        | none => exact .tup ht hr
        | some xs =>
          obtain ⟨h1, h2⟩ := hr.toI w
          rw [h2]
          exact .i (.tup ht h1)
      exact q _ H S (Grow.refl H) rm (Part.sub (List.Sublist.refl _))
  · rename_i ds
    cases e
    obtain ⟨a, vs, T, rfl, h1, h2, rfl⟩ := rd.lst_inv
    obtain ⟨U, h3, h4⟩ := h2.cut lo hi
    refine sl_list pins s σ H _ v vl vu lo hi sl Q I rx hs pl pu ⟨a, vs, rfl, .inl h1, fun p hp => ?_⟩
    refine q _ _ (p :: U) (Grow.upd hp) (.lst (.inl upd_same) (h3.mono (Grow.upd hp).tup ((Grow.upd hp).on _))) (Part.cons hp (fun o u e => by rw [upd_same] at e; cases e) (fun b hb => h3.there b hb) (h4.trans (List.sublist_cons_self _ _)))
  · cases e
end Mp

namespace Mp
open PySem PySem.Spec PyProof.Rows L2

def tupNe : I → Bool
  | .tup (_ :: _) => true
  | _ => false
def noTup : I → Bool
  | .non => false
  | .tup _ => false
  | _ => true
def sortOk (xs : List I) : Bool := (xs.all fun a => xs.all fun b => PySem.W.alike (pyI a) (pyI b)) && (xs.all tupNe || xs.all noTup) && (xs.all fun a => decide ((pyI a).depth ≤ 60)) && decide (xs.length ≤ sizeLine)
def sortI (xs : List I) : List I := xs.mergeSort (PySem.W.dataLe false pyI)
def strKeys : List (Key × D) → Option (List Str)
  | [] => some []
  | (.inr x, _) :: r => (strKeys r).map (x :: ·)
  | (.inl _, _) :: _ => none
def sortL (d : D) : Option D := match kidsL d with
  | some ds => (match allI ds with
    | some xs => if sortOk xs then some (.lst ((sortI xs).map .i)) else none
    | none => none)
  | none => none
theorem sortOk_is {xs : List I} (h : sortOk xs = true) : PySem.W.AllAlike (xs.map pyI) ∧ PySem.W.Sortable (xs.map pyI) ∧ (∀ a ∈ xs, (pyI a).depth ≤ 60) ∧ xs.length ≤ sizeLine := by
  unfold sortOk at h
  simp only [Bool.and_eq_true, List.all_eq_true, Bool.or_eq_true, decide_eq_true_eq] at h
  obtain ⟨⟨⟨h1, h2⟩, h3⟩, h4⟩ := h
  refine ⟨fun d hd d' hd' => ?_, ?_, h3, h4⟩
  · obtain ⟨a, ha, rfl⟩ := List.mem_map.mp hd
    obtain ⟨b, hb, rfl⟩ := List.mem_map.mp hd'
    exact h1 a ha b hb
  · rcases h2 with h2 | h2
    · refine .inl fun d hd => ?_
      obtain ⟨a, ha, rfl⟩ := List.mem_map.mp hd
      have := h2 a ha
      cases a with
      | tup ys =>
        cases ys with
        | nil => cases this
        | cons y r => exact ⟨pyI y, pyIs r, rfl⟩
      | _ => cases this
    · refine .inr fun d hd => ?_
      obtain ⟨a, ha, rfl⟩ := List.mem_map.mp hd
      have := h2 a ha
      cases a <;> first
        | exact absurd this Bool.false_ne_true
        | exact ⟨(fun z => by cases z), (fun _ z => by cases z)⟩
variable {X : Cx}
theorem each_of {H : Hp} {pins : List (Addr × Obj)} {σ : L2.St} {s : Shared} (J : L2.Inv X pins σ H s) : ∀ {xs : List I} {vs : List V} {us : List Value}, RIs H xs vs → Vals vs us →
    ∃ bs : List (I × V), bs.map (·.1) = xs ∧ PySem.W.EachIs (fun u (b : I × V) => RelV b.2 u ∧ RI H b.1 b.2) us bs ∧ PySem.W.EachIs (fun u (b : I × V) => ∃ as, Reads s.heap u (pyI b.1) as) us bs
  | _, _, _, .nil, .nil => ⟨[], rfl, .nil, .nil⟩
  | _, _, _, .cons (x := x) (v := v) h r, .cons rv rr => by
    obtain ⟨bs, h1, h2, h3⟩ := each_of J r rr
    exact ⟨(x, v) :: bs, by rw [List.map_cons, h1], .cons ⟨rv, h⟩ h2, .cons (Dp.reads J _ _ _ (h.dp (K := X.K)).1 rv) h3⟩
theorem each_back {H : Hp} : ∀ {us : List Value} {bs : List (I × V)}, PySem.W.EachIs (fun u (b : I × V) => RelV b.2 u ∧ RI H b.1 b.2) us bs → RIs H (bs.map (·.1)) (bs.map (·.2)) ∧ Vals (bs.map (·.2)) us
  | _, _, .nil => ⟨.nil, .nil⟩
  | _, _, .cons h r => by
    obtain ⟨h1, h2⟩ := each_back r
    exact ⟨.cons h.2 h1, .cons h.1 h2⟩
theorem s_sortedL {n : Nat} (hr : Room n X.A) : CallR X (.builtin "sorted") (rnD (f1 sortL) true) := by
  intro pins s σ H vs us Q J r h
  obtain ⟨ds, S, z, rd, e, q⟩ := h
  match ds, rd, e with
  | [d], rd, e =>
    obtain ⟨v, rfl, r1⟩ := rd.one
    have e : sortL d = some z := e
    unfold sortL at e
    cases e1 : kidsL d with
    | none => rw [e1] at e; cases e
    | some es =>
      rw [e1] at e
      dsimp only at e
      cases e2 : allI es with
      | none => rw [e2] at e; cases e
      | some xs =>
        rw [e2] at e
        dsimp only at e
        split at e
        · rename_i hok
          cases e
          obtain ⟨k1, k2, k3, k4⟩ := sortOk_is hok
          obtain ⟨a, ws, T, rfl, h1, h2, _⟩ := r1.kidsL e1
          obtain ⟨ri, _⟩ := h2.toI e2
          obtain ⟨its, rv, hl, _⟩ := J.list (.inl h1)
          rw [Vals.ref1 r]
          obtain ⟨bs, b1, b2, b3⟩ := each_of J ri rv
          subst b1
          have hu := hr.units
          have em : bs.map (fun b => pyI b.1) = (bs.map (·.1)).map pyI := by rw [List.map_map]; rfl
          refine PySem.W.sorted_data (enc := fun b : I × V => pyI b.1) hl.isList b2 b3 (by rw [em]; exact k1) (by rw [em]; exact k2) (by simpa using k4) (fun b hb => ?_) fun out ho eo => ?_
          · have := k3 b.1 (List.mem_map.mpr ⟨b, hb, rfl⟩)
            omega
          · obtain ⟨g1, g2⟩ := each_back eo
            obtain ⟨ep, he'⟩ := PyProof.Rows.sortedAll_at s.heap its out.toArray
            have em2 : (bs.mergeSort (PySem.W.dataLe false fun b : I × V => pyI b.1)).map (·.1) = sortI (bs.map (·.1)) := by
              unfold sortI
              exact List.map_mergeSort (fun a _ b _ => rfl)
            rw [em2] at g1
            have hs : (bs.mergeSort (PySem.W.dataLe false fun b : I × V => pyI b.1)).length = bs.length := List.length_mergeSort _
            have hp : H (s.heap.objs.size + 1) = none := J.hok.fresh (Nat.le_succ _)
            exact ⟨.ref (s.heap.objs.size + 1), L2.upd H (s.heap.objs.size + 1) (.lst ((bs.mergeSort (PySem.W.dataLe false fun b : I × V => pyI b.1)).map (·.2))), J.laid (t' := s.toks) (fun _ _ => PyProof.Rows.sortedAll_old) (Nat.le_succ _) ⟨by rw [List.length_map, hs]; simpa using k4, out, ep, g2, he'⟩, rfl, Vr.lstI q g1 hp⟩
        · cases e
section
open PySem.W PySem.Calls
variable {prog : Program} {w : World} {A : Around} {E : Value → Shared → Prop} {s : Shared}
theorem collect_tup {l : Addr} {vs : List Value} {Q : List Value → Shared → Prop} (hl : IsTup s.heap l vs.toArray)
    (h : Q vs { s with heap := (s.heap.push (seqObj "list" #[] 0)).update s.heap.objs.size (Obj.mapSeq (· ++ vs.toArray)) }) (hsz : vs.length ≤ sizeLine) :
    wpAny (model prog w) A (collect (.ref l)) Q E s := by
  obtain ⟨o, ho, hc, n, hd⟩ := id hl
  unfold collect
  refine wpAny_bind (wpAny_runValue (codeAny_builtin entry_proto_collect' ?_))
  show wpAny _ _ (do again (.builtin "list.__iadd__" ⟨[← newList [], .ref l], []⟩)) _ _ s
  refine wpAny_bind (wpAny_newList (wpAny_pure ⟨Code.quiet_builtin _ (by decide +kernel), codeAny_builtin entry_list_iadd' ?_⟩))
  show wpAny _ _ (Builtin.List.listExtendWith (.ref s.heap.objs.size) (.ref l) (.ref s.heap.objs.size)) _ _ { s with heap := s.heap.push (seqObj "list" #[] 0) }
  unfold Builtin.List.listExtendWith
  have ho' : (s.heap.push (seqObj "list" #[] 0)).get? l = some o := Heap.get?_push_of_some _ ho
  refine wpAny_bind (wpAny_typeOf (T := "tuple") ⟨o, ho', hc⟩ ?_)
  have ht : (Value.type "tuple" == Value.type "tuple") = true := by rfl
  rw [if_pos (by rw [ht]; simp)]
  refine wpAny_bind (listItems_at ho' hd ?_)
  refine wpAny_bind (listItems_at (xs := #[]) (n := 0) (Heap.get?_push_size _ rfl) rfl ?_)
  rw [if_neg (by simp)]
  refine wpAny_bind (listUpdate_at (xs := #[]) (n := 0) (Heap.get?_push_size _ rfl) rfl ?_ (Nat.zero_le _) (by show (#[] ++ vs.toArray).size ≤ sizeLine + 1; simp only [Array.size_append, List.size_toArray, List.length_nil]; omega))
  refine wpAny_pure ?_
  show wpAny (model prog w) A (do
      let o ← load s.heap.objs.size
      match o.data with
      | .seq xs _ => pure xs.toList
      | _ => unsupported "internal:collect") Q E { s with heap := (s.heap.push (seqObj "list" #[] 0)).update s.heap.objs.size (Obj.mapSeq (· ++ vs.toArray)) }
  refine wpAny_bind (wpAny_load (get?_update_seq (Heap.get?_push_size _ rfl) _) ?_)
  show wpAny _ _ (pure ((#[] : Array Value) ++ vs.toArray).toList) Q E _
  rw [show ((#[] : Array Value) ++ vs.toArray).toList = vs by simp]
  exact wpAny_pure h
theorem sorted_of_sortT {l : Addr} {vs : List Value} {Q : Value → Shared → Prop} (hl : IsTup s.heap l vs.toArray) (hL : vs.length ≤ sizeLine) (ha1 : argsOk "sorted" ⟨[.ref l], []⟩) (ha2 : ∀ x, argsOk "list.sort" ⟨[.ref x], []⟩)
    (body : ∀ E' : Value → Shared → Prop, wpAny (model prog w) A.in1.in1 (Builtin.«list.sort» ⟨[.ref (s.heap.objs.size + 1)], []⟩) (fun f s' => f = .done (.ret .none) ∧ Q (.ref (s.heap.objs.size + 1)) s') E' { s with heap := copyHeap s.heap vs }) :
    wpAny (model prog w) A (call (.builtin "sorted") [.ref l]) Q E s := by
  refine call_function_entry_kw kind_sorted plain_sorted entry_sorted ha1 ?_
  unfold Builtin.«sorted»
  refine wpAny_bind (m := checkCount "sorted" 1 1 _) (wpAny_pure ?_)
  refine wpAny_bind (collect_tup hl ?_ hL)
  refine wpAny_bind (wpAny_newList ?_ hL)
  have hsz : ((s.heap.push (seqObj "list" #[] 0)).update s.heap.objs.size (Obj.mapSeq (· ++ vs.toArray))).objs.size = s.heap.objs.size + 1 := by
    rw [Heap.size_update, size_push']
  show wpAny _ _ _ _ _ { s with heap := copyHeap s.heap vs }
  rw [hsz]
  refine wpAny_bind (wpAny_holding (wpAny_call_entry_kw slot_list_sort ⟨_, copyHeap_at s.heap vs, rfl⟩ entry_list_sort ?body (ha2 _)))
  case body =>
    show wpAny (model prog w) A.in1.in1 (Builtin.«list.sort» ⟨[.ref (s.heap.objs.size + 1)], []⟩) _ _ _
    refine wpAny_mono (body _) (fun f s' hf => ?_) fun _ _ e => e
    obtain ⟨rfl, hq⟩ := hf
    exact ⟨_, rfl, wpAny_pure ⟨_, rfl, hq⟩⟩
theorem sorted_dataT {β : Type} {vs : List Value} {bs : List β} {enc : β → PyData} {R : Value → β → Prop} {l : Addr} {Q : Value → Shared → Prop} (hl : IsTup s.heap l vs.toArray) (e : EachIs R vs bs) (er : EachIs (fun v b => ∃ as, Reads s.heap v (enc b) as) vs bs) (hal : AllAlike (bs.map enc)) (hk : Sortable (bs.map enc)) (hL : bs.length ≤ sizeLine)
    (hu : ∀ b, b ∈ bs → A.units + 2 + (enc b).depth < cLine) (h : ∀ out, out.length = bs.length → EachIs R out (bs.mergeSort (dataLe false enc)) → Q (.ref (s.heap.objs.size + 1)) { s with heap := sortedAll s.heap vs (List.toArray out) }) :
    wpAny (model prog w) A (call (.builtin "sorted") [.ref l]) Q E s := by
  have er' : EachIs (fun v b => ∃ as, Reads (sortingHeap (copyHeap s.heap vs) (s.heap.objs.size + 1) vs) v (enc b) as) vs bs := er.mono fun _ _ ⟨as, r⟩ => ⟨as, PyProof.Rows.Reads.keeps (fun _ _ => sorting_copy_old) r⟩
  have hL' : vs.length ≤ sizeLine := by rw [e.length]; exact hL
  refine sorted_of_sortT hl hL' (args_sorted1 _) (fun _ => args_list_sort _) fun _ => list_sort_vals (s := { s with heap := copyHeap s.heap vs }) (copyHeap_at s.heap vs) (SortsAt.data (s := { s with heap := sortingHeap (copyHeap s.heap vs) (s.heap.objs.size + 1) vs }) (each_map (R := fun v d => ∃ as, Reads (sortingHeap (copyHeap s.heap vs) (s.heap.objs.size + 1) vs) v d as) enc er') hal hk (bound_map hu)) hL' ⟨rfl, ?_⟩
  exact h _ (by rw [sortVals_length false rfl]; exact e.length) (sortVals_data false e er' hal)
end
def sortT (d : D) : Option D := match d with
  | .i (.tup xs) => if sortOk xs then some (.lst ((sortI xs).map .i)) else none
  | _ => none
theorem s_sortedT {n : Nat} (hr : Room n X.A) : CallR X (.builtin "sorted") (rnD (f1 sortT) true) := by
  intro pins s σ H vs us Q J r h
  obtain ⟨ds, S, z, rd, e, q⟩ := h
  match ds, rd, e with
  | [d], rd, e =>
    obtain ⟨v, rfl, r1⟩ := rd.one
    have e : sortT d = some z := e
    match d, r1, e with
    | .i (.tup xs), r1, e =>
        unfold sortT at e
        dsimp only at e
        split at e
        · rename_i hok
          cases e
          obtain ⟨k1, k2, k3, k4⟩ := sortOk_is hok
          cases r1 with
          | i r2 =>
          cases r2 with
          | @tup a ws _ h1 ri =>
          obtain ⟨its, rv, hl, _⟩ := J.tuple (SqT.of h1)
          rw [Vals.ref1 r]
          obtain ⟨bs, b1, b2, b3⟩ := each_of J ri rv
          subst b1
          have hu := hr.units
          have em : bs.map (fun b => pyI b.1) = (bs.map (·.1)).map pyI := by rw [List.map_map]; rfl
          refine sorted_dataT (enc := fun b : I × V => pyI b.1) hl b2 b3 (by rw [em]; exact k1) (by rw [em]; exact k2) (by simpa using k4) (fun b hb => ?_) fun out ho eo => ?_
          · have := k3 b.1 (List.mem_map.mpr ⟨b, hb, rfl⟩)
            omega
          · obtain ⟨g1, g2⟩ := each_back eo
            obtain ⟨ep, he'⟩ := PyProof.Rows.sortedAll_at s.heap its out.toArray
            have em2 : (bs.mergeSort (PySem.W.dataLe false fun b : I × V => pyI b.1)).map (·.1) = sortI (bs.map (·.1)) := by
              unfold sortI
              exact List.map_mergeSort (fun a _ b _ => rfl)
            rw [em2] at g1
            have hs : (bs.mergeSort (PySem.W.dataLe false fun b : I × V => pyI b.1)).length = bs.length := List.length_mergeSort _
            have hp : H (s.heap.objs.size + 1) = none := J.hok.fresh (Nat.le_succ _)
            exact ⟨.ref (s.heap.objs.size + 1), L2.upd H (s.heap.objs.size + 1) (.lst ((bs.mergeSort (PySem.W.dataLe false fun b : I × V => pyI b.1)).map (·.2))), J.laid (t' := s.toks) (fun _ _ => PyProof.Rows.sortedAll_old) (Nat.le_succ _) ⟨by rw [List.length_map, hs]; simpa using k4, out, ep, g2, he'⟩, rfl, Vr.lstI q g1 hp⟩
        · cases e
def sortD (d : D) : Option D := match d with
  | .dk kvs => (match strKeys kvs with
    | some ks => if ks.length < 64 ∧ ks.all PyData.strOk = true then some (.lst ((sortI (ks.map .str)).map .i)) else none
    | none => none)
  | .i (.tup xs) => sortT (.i (.tup xs))
  | _ => sortL d
def leS (a b : Str) : Bool := !decide (b.cps.toList < a.cps.toList)
theorem leS_trans (a b c : Str) (h1 : leS a b = true) (h2 : leS b c = true) : leS a c = true := by
  unfold leS at *
  simp only [Bool.not_eq_true', decide_eq_false_iff_not, List.not_lt] at *
  exact List.le_trans h1 h2
theorem leS_total (a b : Str) : (leS a b || leS b a) = true := by
  unfold leS
  simp only [Bool.or_eq_true, Bool.not_eq_true', decide_eq_false_iff_not, List.not_lt]
  exact List.le_total _ _
theorem leS_antisymm {a b : Str} (h1 : leS a b = true) (h2 : leS b a = true) : a = b := by
  unfold leS at *
  simp only [Bool.not_eq_true', decide_eq_false_iff_not, List.not_lt] at *
  exact PySem.W.str_of_cps (List.le_antisymm h1 h2)
theorem rising_pw : ∀ (r : List Str) (p : Str), risingS p r = true → (p :: r).Pairwise fun a b => leS a b = true
  | [], p, _ => by simp
  | x :: r, p, h => by
    have h : (!ltCps x.cps.toList p.cps.toList && risingS x r) = true := h
    simp only [Bool.and_eq_true] at h
    have ih := rising_pw r x h.2
    have hx : leS p x = true := by
      unfold leS
      rw [← ltCps_eq]
      exact h.1
    refine List.pairwise_cons.mpr ⟨fun y hy => ?_, ih⟩
    rcases List.mem_cons.mp hy with rfl | hy
    · exact hx
    · exact leS_trans _ _ _ hx ((List.pairwise_cons.mp ih).1 y hy)
theorem sortS_eq {ys ks : List Str} (hp : ys.Perm ks) (hs : sortedS ys = true) : sortI (ks.map .str) = ys.map .str := by
  have e1 : (ks.mergeSort leS).map I.str = sortI (ks.map .str) := by
    unfold sortI
    refine List.map_mergeSort fun a _ b _ => ?_
    show leS a b = _
    rw [PySem.W.dataLe_eq]
    show leS a b = !PySem.W.dataLt (.str b) (.str a)
    rw [PySem.W.dataLt_str]
    rfl
  have hy : ys.Pairwise fun a b => leS a b = true := by
    cases ys with
    | nil => exact .nil
    | cons x r => exact rising_pw r x hs
  have hz : (ks.mergeSort leS).Pairwise fun a b => leS a b = true := List.pairwise_mergeSort leS_trans leS_total ks
  have : ks.mergeSort leS = ys := List.Perm.eq_of_pairwise (fun a b _ _ h1 h2 => leS_antisymm h1 h2) hz hy ((List.mergeSort_perm ks leS).trans hp.symm)
  rw [← e1, this]
theorem RDk.keysS {H : Hp} : ∀ {kds : List (Key × D)} {kvs : List (Key × V)} {S : List Addr} {ks : List Str}, RDk H kds kvs S → strKeys kds = some ks → kvs.map (·.1) = ks.map Sum.inr
  | _, _, _, ks, .nil, e => by
    have e : some [] = some ks := e
    cases e; rfl
  | (.inr x, _) :: r, _, _, ks, .cons h t, e => by
    have e : (strKeys r).map (x :: ·) = some ks := e
    cases q : strKeys r with
    | none => rw [q] at e; cases e
    | some zs => rw [q] at e; cases e; rw [List.map_cons, RDk.keysS t q]; rfl
  | (.inl _, _) :: _, _, _, _, .cons _ _, e => by cases e
theorem strs_ri {H : Hp} : ∀ {ys : List Str}, (∀ y ∈ ys, PyData.strOk y = true) → RIs H (ys.map I.str) (ys.map V.str)
  | [], _ => .nil
  | y :: ys, h => .cons (.str y (h y List.mem_cons_self)) (strs_ri fun z hz => h z (List.mem_cons_of_mem _ hz))
theorem s_sorted {n : Nat} (hr : Room n X.A) (hc : X.calm = true) : CallR X (.builtin "sorted") (rnD (f1 sortD) true) := by
  intro pins s σ H vs us Q J r h
  obtain ⟨ds, S, z, rd, e, q⟩ := h
  match ds, rd, e with
  | [d], rd, e =>
    have e : sortD d = some z := e
    cases d with
    | dk kds =>
      obtain ⟨v, rfl, r1⟩ := rd.one
      unfold sortD at e
      dsimp only at e
      cases e2 : strKeys kds with
      | none => rw [e2] at e; cases e
      | some ks =>
        rw [e2] at e
        dsimp only at e
        split at e
        · rename_i hk
          cases e
          cases r1 with
          | @dk a kvs _ T h1 h2 h3 =>
            refine call_sortedD hc pins s σ H _ us Q J r ⟨a, kvs, ks, rfl, h1, h2.keysS e2, hk.1, fun ys p hp hs hn => ?_⟩
            rw [sortS_eq hp hs] at q
            exact Vr.lstI q (strs_ri fun y hy => List.all_eq_true.mp hk.2 y (hp.mem_iff.mp hy)) hn
        · cases e
    | i x =>
      cases x with
      | tup xs => exact s_sortedT hr pins s σ H vs us Q J r ⟨[.i (.tup xs)], S, z, rd, e, q⟩
      | non => cases e
      | bl b => cases e
      | int b => cases e
      | str b => cases e
    | lst ds => exact s_sortedL hr pins s σ H vs us Q J r ⟨[.lst ds], S, z, rd, e, q⟩
    | tup ds => exact s_sortedL hr pins s σ H vs us Q J r ⟨[.tup ds], S, z, rd, e, q⟩
    | dt ds => exact s_sortedL hr pins s σ H vs us Q J r ⟨[.dt ds], S, z, rd, e, q⟩
end Mp

namespace Mp
open PySem PySem.Spec PyProof.Rows L2

def strsD : List D → Option (List Str)
  | [] => some []
  | .i (.str x) :: r => (strsD r).map (x :: ·)
  | _ :: _ => none
def joinF (sep : Str) (d : D) : Option D := match (kids d).bind strsD with
  | some ys => if (ys.map (·.length)).sum + ys.length * sep.length ≤ 16777216 ∧ PyData.strOk (Txt.join sep ys) = true then some (.i (.str (Txt.join sep ys))) else none
  | none => none
theorem strsD_vals {H : Hp} : ∀ {ds : List D} {ys : List Str} {vs : List V} {S : List Addr}, RDs H ds vs S → strsD ds = some ys → vs = ys.map V.str
  | [], _, _, _, .nil, e => by
    have e : some [] = some _ := e
    cases e; rfl
  | .i (.str x) :: r, ys, _, _, .cons h t, e => by
    have e : (strsD r).map (x :: ·) = some ys := e
    cases q : strsD r with
    | none => rw [q] at e; cases e
    | some zs =>
      rw [q] at e
      cases e
      obtain ⟨rfl, _⟩ := h.str_inv
      rw [strsD_vals t q]; rfl
  | .i .non :: _, _, _, _, _, e => by cases e
  | .i (.bl _) :: _, _, _, _, _, e => by cases e
  | .i (.int _) :: _, _, _, _, _, e => by cases e
  | .i (.tup _) :: _, _, _, _, _, e => by cases e
  | .lst _ :: _, _, _, _, _, e => by cases e
  | .tup _ :: _, _, _, _, _, e => by cases e
  | .dk _ :: _, _, _, _, _, e => by cases e
  | .dt _ :: _, _, _, _, _, e => by cases e
theorem join_of {K : PySem.W.Frag} {H : Hp} {sep : Str} {d z : D} {v : V} {S : List Addr} {Q : VK} (r : RD H d v S) (e : joinF sep d = some z) (q : Vr H [] z Q) :
    ∃ a p, ∃ ys : List Str, V.str sep = .str a ∧ [v] = [V.ref p] ∧ (SqL K H p (ys.map V.str) ∨ SqT K H p (ys.map V.str)) ∧ (ys.map (·.length)).sum + ys.length * a.length ≤ 16777216 ∧ Q (.str (Txt.join a ys)) H := by
  unfold joinF at e
  cases e1 : kids d with
  | none => rw [e1] at e; cases e
  | some ds =>
    rw [e1] at e
    cases e2 : strsD ds with
    | none => rw [show (some ds).bind strsD = none from e2] at e; cases e
    | some ys =>
      rw [show (some ds).bind strsD = some ys from e2] at e
      dsimp only at e
      split at e
      · rename_i hc
        cases e
        obtain ⟨a, vs, T, rfl, hs, hr, _⟩ := r.kids e1
        have := strsD_vals hr e2
        subst this
        exact ⟨sep, a, ys, rfl, rfl, hs.imp (fun h => .inl h) fun h => SqT.of h, hc.1, q.str hc.2⟩
      · cases e
end Mp

namespace Mp
open PySem PySem.Spec PyProof.Rows L2

def addK {κ : Type} [DecidableEq κ] (k : κ) (d : Mp.D) : List (κ × Mp.D) → List (κ × Mp.D)
  | [] => [(k, d)]
  | (k', d') :: r => if k' = k then (k', d) :: r else (k', d') :: addK k d r
def updK (kvs : List (Key × Mp.D)) : List (Key × Mp.D) → List (Key × Mp.D)
  | [] => kvs
  | (k, d) :: r => updK (addK k d kvs) r
section
variable {κ : Type} [DecidableEq κ]
theorem putK_pos {k k' : κ} {v v' : V} {r : List (κ × V)} (e : k' = k) (nd : (((k', v') :: r).map (·.1)).Nodup) : putK ((k', v') :: r) k v = (k', v) :: r := by
  unfold putK
  have h1 : (((k', v') :: r).any fun kv => decide (kv.1 = k)) = true := by simp [e]
  rw [if_pos h1, List.map_cons]
  simp only [e, if_true]
  have : r.map (fun kv => if kv.1 = k then (kv.1, v) else kv) = r := by
    have hn : k ∉ r.map (·.1) := by
      simp only [List.map_cons, List.nodup_cons] at nd
      rw [← e]; exact nd.1
    conv => rhs; rw [← List.map_id r]
    refine List.map_congr_left fun kv hkv => ?_
    have : kv.1 ≠ k := fun z => hn (List.mem_map.mpr ⟨kv, hkv, z⟩)
    simp [this]
  rw [this]
theorem putK_neg {k k' : κ} {v v' : V} {r : List (κ × V)} (e : ¬ k' = k) : putK ((k', v') :: r) k v = (k', v') :: putK r k v := by
  unfold putK
  by_cases h : (r.any fun kv => decide (kv.1 = k)) = true
  · have h1 : (((k', v') :: r).any fun kv => decide (kv.1 = k)) = true := by simp only [List.any_cons, h, Bool.or_true]
    rw [if_pos h1, if_pos h, List.map_cons]
    simp [e]
  · have h1 : ¬ (((k', v') :: r).any fun kv => decide (kv.1 = k)) = true := by simp only [List.any_cons, decide_eq_false e, Bool.false_or]; exact h
    rw [if_neg h1, if_neg h]; rfl
theorem putK_keys {k : κ} {v : V} : ∀ {r : List (κ × V)}, (r.map (·.1)).Nodup → ((putK r k v).map (·.1)).Nodup ∧ ∀ x ∈ (putK r k v).map (·.1), x ∈ r.map (·.1) ∨ x = k
  | [], _ => by simp [putK]
  | (k', v') :: r, nd => by
    by_cases e : k' = k
    · rw [putK_pos e nd]
      exact ⟨by simpa using nd, fun x hx => .inl (by simpa using hx)⟩
    · rw [putK_neg e]
      have nd2 : (r.map (·.1)).Nodup := by simp only [List.map_cons, List.nodup_cons] at nd; exact nd.2
      obtain ⟨h1, h2⟩ := putK_keys (k := k) (v := v) nd2
      refine ⟨?_, fun x hx => ?_⟩
      · simp only [List.map_cons, List.nodup_cons] at nd ⊢
        refine ⟨fun z => ?_, h1⟩
        rcases h2 k' z with w | w
        · exact nd.1 w
        · exact e w
      · simp only [List.map_cons, List.mem_cons] at hx ⊢
        rcases hx with hx | hx
        · exact .inl (.inl hx)
        · exact (h2 x hx).imp .inr id
end
theorem RDk.put {H : Hp} {k : Key} {d : Mp.D} {v : V} {Sv : List Addr} (hv : RD H d v Sv) : ∀ {ds : List (Key × Mp.D)} {vs : List (Key × V)} {S : List Addr}, RDk H ds vs S → (vs.map (·.1)).Nodup → (S ++ Sv).Nodup →
    ∃ S', RDk H (addK k d ds) (putK vs k v) S' ∧ S'.Nodup ∧ ∀ x ∈ S', x ∈ S ∨ x ∈ Sv
  | _, _, _, .nil, _, nd => ⟨Sv ++ [], RDk.cons hv .nil, by simpa using nd, fun x hx => .inr (by simpa using hx)⟩
  | _, _, _, .cons (k := k') (d := d0) (v := v0) (ds := ds) (vs := vs) (S := S) (T := T) h r, nk, nd => by
    by_cases e : k' = k
    · rw [putK_pos e nk]
      unfold addK
      rw [if_pos e]
      have nd2 : (T ++ Sv).Nodup := nd.sublist (by rw [List.append_assoc]; exact List.sublist_append_right _ _)
      exact ⟨Sv ++ T, .cons hv r, (List.perm_append_comm.nodup_iff).mp nd2, fun x hx => (List.mem_append.mp hx).elim .inr fun z => .inl (List.mem_append_right _ z)⟩
    · rw [putK_neg e]
      unfold addK
      rw [if_neg e]
      have nk2 : (vs.map (·.1)).Nodup := by simp only [List.map_cons, List.nodup_cons] at nk; exact nk.2
      have nd' : (S ++ (T ++ Sv)).Nodup := by rw [← List.append_assoc]; exact nd
      obtain ⟨S', h1, h2, h3⟩ := RDk.put hv r nk2 (List.nodup_append.mp nd').2.1
      refine ⟨S ++ S', .cons h h1, List.nodup_append.mpr ⟨(List.nodup_append.mp nd').1, h2, fun x hx y hy ee => (List.nodup_append.mp nd').2.2 x hx y ((h3 y hy).elim (List.mem_append_left _) (List.mem_append_right _)) ee⟩, fun x hx => ?_⟩
      rcases List.mem_append.mp hx with z | z
      · exact .inl (List.mem_append_left _ z)
      · exact (h3 x z).imp (List.mem_append_right _) id
theorem RDt.put {H : Hp} {k : List Key} {d : Mp.D} {v : V} {Sv : List Addr} (hv : RD H d v Sv) : ∀ {ds : List (List Key × Mp.D)} {vs : List (List Key × V)} {S : List Addr}, RDt H ds vs S → (vs.map (·.1)).Nodup → (S ++ Sv).Nodup →
    ∃ S', RDt H (addK k d ds) (putK vs k v) S' ∧ S'.Nodup ∧ ∀ x ∈ S', x ∈ S ∨ x ∈ Sv
  | _, _, _, .nil, _, nd => ⟨Sv ++ [], RDt.cons hv .nil, by simpa using nd, fun x hx => .inr (by simpa using hx)⟩
  | _, _, _, .cons (k := k') (d := d0) (v := v0) (ds := ds) (vs := vs) (S := S) (T := T) h r, nk, nd => by
    by_cases e : k' = k
    · rw [putK_pos e nk]
      unfold addK
      rw [if_pos e]
      have nd2 : (T ++ Sv).Nodup := nd.sublist (by rw [List.append_assoc]; exact List.sublist_append_right _ _)
      exact ⟨Sv ++ T, .cons hv r, (List.perm_append_comm.nodup_iff).mp nd2, fun x hx => (List.mem_append.mp hx).elim .inr fun z => .inl (List.mem_append_right _ z)⟩
    · rw [putK_neg e]
      unfold addK
      rw [if_neg e]
      have nk2 : (vs.map (·.1)).Nodup := by simp only [List.map_cons, List.nodup_cons] at nk; exact nk.2
      have nd' : (S ++ (T ++ Sv)).Nodup := by rw [← List.append_assoc]; exact nd
      obtain ⟨S', h1, h2, h3⟩ := RDt.put hv r nk2 (List.nodup_append.mp nd').2.1
      refine ⟨S ++ S', .cons h h1, List.nodup_append.mpr ⟨(List.nodup_append.mp nd').1, h2, fun x hx y hy ee => (List.nodup_append.mp nd').2.2 x hx y ((h3 y hy).elim (List.mem_append_left _) (List.mem_append_right _)) ee⟩, fun x hx => ?_⟩
      rcases List.mem_append.mp hx with z | z
      · exact .inl (List.mem_append_left _ z)
      · exact (h3 x z).imp (List.mem_append_right _) id
theorem RDs.set {H : Hp} {d : Mp.D} {v : V} {Sv : List Addr} (hv : RD H d v Sv) : ∀ {ds : List Mp.D} {vs : List V} {S : List Addr} (j : Nat), RDs H ds vs S → (S ++ Sv).Nodup → ∃ S', RDs H (ds.set j d) (vs.set j v) S' ∧ S'.Nodup ∧ ∀ x ∈ S', x ∈ S ∨ x ∈ Sv
  | _, _, _, _, .nil, nd => ⟨[], .nil, List.nodup_nil, fun x hx => absurd hx List.not_mem_nil⟩
  | _, _, _, 0, .cons (S := S) (T := T) h r, nd => by
    have nd2 : (T ++ Sv).Nodup := nd.sublist (by rw [List.append_assoc]; exact List.sublist_append_right _ _)
    exact ⟨Sv ++ T, .cons hv r, (List.perm_append_comm.nodup_iff).mp nd2, fun x hx => (List.mem_append.mp hx).elim .inr fun z => .inl (List.mem_append_right _ z)⟩
  | _, _, _, j + 1, .cons (S := S) (T := T) h r, nd => by
    have nd' : (S ++ (T ++ Sv)).Nodup := by rw [← List.append_assoc]; exact nd
    obtain ⟨S', h1, h2, h3⟩ := RDs.set hv j r (List.nodup_append.mp nd').2.1
    refine ⟨S ++ S', .cons h h1, List.nodup_append.mpr ⟨(List.nodup_append.mp nd').1, h2, fun x hx y hy ee => (List.nodup_append.mp nd').2.2 x hx y ((h3 y hy).elim (List.mem_append_left _) (List.mem_append_right _)) ee⟩, fun x hx => ?_⟩
    rcases List.mem_append.mp hx with z | z
    · exact .inl (List.mem_append_left _ z)
    · exact (h3 x z).imp (List.mem_append_right _) id
theorem RDt.length {H : Hp} : ∀ {ds : List (List Key × Mp.D)} {vs : List (List Key × V)} {S : List Addr}, RDt H ds vs S → ds.length = vs.length
  | _, _, _, .nil => rfl
  | _, _, _, .cons _ r => congrArg (· + 1) (RDt.length r)

def pairsI : List I → Option (List (Key × I))
  | [] => some []
  | .tup [k, v] :: r => (match keyI k, pairsI r with
    | some q, some ks => some ((q, v) :: ks)
    | _, _ => none)
  | _ => none
def dictF (d : Mp.D) : Option Mp.D := match kidsL d with
  | some es => (match allI es with
    | some xs => (pairsI xs).map fun kx => .dk (updK [] (kx.map fun x => (x.1, .i x.2)))
    | none => none)
  | none => none
theorem keyI_inv {H : Hp} {x : I} {v : V} {k : Key} (h : RI H x v) (e : keyI x = some k) : v = kV k := by
  cases x with
  | int i => cases h; cases e; rfl
  | str z => cases h; cases e; rfl
  | _ => cases e
theorem pairsI_inv {K : PySem.W.Frag} {H : Hp} : ∀ {xs : List I} {vs : List V} {kx : List (Key × I)}, RIs H xs vs → pairsI xs = some kx → ∃ (ps : List Addr) (kvs : List (Key × V)), vs = ps.map V.ref ∧ Paired (fun p kv => SqT K H p [kV kv.1, kv.2]) ps kvs ∧
    Paired (fun (x : Key × I) (kv : Key × V) => x.1 = kv.1 ∧ RI H x.2 kv.2) kx kvs
  | _, _, kx, .nil, e => by
    have e : some [] = some kx := e
    cases e
    exact ⟨[], [], rfl, .nil, .nil⟩
  | _, _, kx, .cons (x := x) (xs := xs) h r, e => by
    unfold pairsI at e
    split at e
    · rename_i h0; cases h0
    · rename_i k v r' h0
      cases h0
      cases e1 : keyI k with
      | none => rw [e1] at e; cases e
      | some q =>
        cases e2 : pairsI xs with
        | none => rw [e1, e2] at e; cases e
        | some ks =>
          rw [e1, e2] at e
          cases e
          obtain ⟨ps, kvs, rfl, p1, p2⟩ := pairsI_inv (K := K) r e2
          obtain ⟨a, ws, rfl, hs, hr⟩ := h.tup_inv
          cases hr with
          | cons hk hr =>
            cases hr with
            | cons hv hr =>
              cases hr
              cases keyI_inv hk e1
              rename_i w
              exact ⟨a :: ps, (q, w) :: kvs, rfl, .cons hs.sq p1, .cons ⟨rfl, hv⟩ p2⟩
    · cases e
theorem RDk.merge {H : Hp} : ∀ {kx : List (Key × I)} {kvs : List (Key × V)} {ds : List (Key × Mp.D)} {vs : List (Key × V)}, Paired (fun (x : Key × I) (kv : Key × V) => x.1 = kv.1 ∧ RI H x.2 kv.2) kx kvs → RDk H ds vs [] → (vs.map (·.1)).Nodup →
    RDk H (updK ds (kx.map fun x => (x.1, .i x.2))) (mergeK vs kvs) [] ∧ ((mergeK vs kvs).map (·.1)).Nodup
  | _, _, _, _, .nil, h, n => ⟨h, n⟩
  | _, _, ds, vs, .cons (a := x) (b := kv) h r, hd, n => by
    obtain ⟨S', h1, h2, h3⟩ := RDk.put (k := kv.1) (RD.i h.2) hd n (by simp)
    have : S' = [] := List.eq_nil_iff_forall_not_mem.mpr fun a ha => (h3 a ha).elim (by simp) (by simp)
    subst this
    obtain ⟨q, xv⟩ := x
    obtain ⟨rfl, hi⟩ := h
    show RDk H (updK (addK kv.1 (.i xv) ds) _) (mergeK (putK vs kv.1 kv.2) _) [] ∧ _
    exact RDk.merge r h1 (putK_keys n).1
theorem s_dict {X : Cx} (hc : X.calm = true) : CallR X (.type "dict") (rnD (f1 dictF) true) := by
  intro pins s σ H vs us Q J r h
  obtain ⟨ds, S, z, rd, e, q⟩ := h
  match ds, rd, e with
  | [d], rd, e =>
    obtain ⟨v, rfl, r1⟩ := rd.one
    have e : dictF d = some z := e
    unfold dictF at e
    cases e1 : kidsL d with
    | none => rw [e1] at e; cases e
    | some es =>
      rw [e1] at e
      dsimp only at e
      cases e2 : allI es with
      | none => rw [e2] at e; cases e
      | some xs =>
        rw [e2] at e
        dsimp only at e
        cases e3 : pairsI xs with
        | none => rw [e3] at e; cases e
        | some kx =>
          rw [e3] at e
          cases e
          obtain ⟨a, ws, T, rfl, h1, h2, _⟩ := r1.kidsL e1
          obtain ⟨ri, _⟩ := h2.toI e2
          obtain ⟨ps, kvs, rfl, p1, p2⟩ := pairsI_inv (K := X.K) ri e3
          refine call_dictP hc pins s σ H _ us Q J r ⟨a, ps, kvs, rfl, .inl h1, p1, fun p hp => ?_⟩
          have g := Grow.upd (o := .dK (mergeK [] kvs)) hp
          obtain ⟨m1, m2⟩ := RDk.merge p2 (.nil : RDk H [] [] []) List.nodup_nil
          refine q _ _ [p] g (.dk (.inl upd_same) (RDk.mono g.tup m1 (g.on _)) m2) (Part.one hp fun _ _ z => ?_)
          rw [upd_same] at z; cases z
end Mp

namespace Mp
open PySem PySem.Spec PyProof.Rows L2

inductive Op where
  | add | cat | sub | mul | fdiv | mod | pow | neg
  | eq | ne | lt | le | gt | ge | inn | nin | is | isn | ix
  | slf | slt
  | len | isi (T : String) | tup | lst | int | str | abs | min2 | max2 | all | any | sum | min | max | sorted | join (sep : Str) | dict
  deriving DecidableEq
def negF : D → Option D
  | .i (.int i) => some (.i (.int (-i)))
  | _ => none
def plusF (d e : D) : Option D := match addF d e with
  | some z => some z
  | none => catF d e
def withI (g : D → Int → Option D) (d e : D) : Option D := match e with
  | .i (.int i) => g d i
  | _ => none
def slfF : D → D → Option D := withI fun d i => slF d (some i) none
def sltF : D → D → Option D := withI fun d i => slF d none (some i)
def opF : Op → List D → Option D
  | .add => f2 plusF | .slf => f2 slfF | .slt => f2 sltF | .cat => f2 catF | .sub => f2 subF | .mul => f2 mulF | .fdiv => f2 fdivF | .mod => f2 modF | .pow => f2 powF | .neg => f1 negF
  | .eq => f2 (bF eqD) | .ne => f2 (bF fun d e => (eqD d e).map (!·)) | .lt => f2 (bF ltD) | .le => f2 (bF leF) | .gt => f2 (bF gtF) | .ge => f2 (bF geF)
  | .inn => f2 (bF inF) | .nin => f2 (bF fun d e => (inF d e).map (!·)) | .is => f2 (bF isF) | .isn => f2 (bF fun d e => (isF d e).map (!·)) | .ix => f2 ixF
  | .len => f1 lenF | .isi T => f1 (isiF T) | .tup => f1 tupF | .lst => f1 lstF | .int => f1 intF | .str => f1 strF | .abs => f1 absF | .min2 => f2 min2F | .max2 => f2 max2F
  | .dict => f1 dictF | .sorted => f1 sortD | .join sep => f1 (joinF sep) | .all => f1 allF | .any => f1 anyF | .sum => f1 sumF | .min => f1 minF | .max => f1 maxF
def opN : Op → Bool
  | .cat => false | .ix => false | .tup => false | .add => false | .slf => false | .slt => false
  | _ => true

mutual
inductive Tg where
  | n (i : Nat) | t (ts : Tgs)
inductive Tgs where
  | nil | cons (t : Tg) (ts : Tgs)
end
inductive Mt where
  | app | pop | popAt | rem | ext | upd
  deriving DecidableEq
mutual
inductive P where
  | c (x : I)
  | v (i : Nat)
  | mv (i : Nat)
  | g (n : Str) (x : I)
  | op (o : Op) (as : Ps)
  | nt (a : P) | an (a b : P) | or (a b : P) | ite (c a b : P)
  | ch (o o' : Op) (a b c : P)
  | sl (a b c : P)
  | get (a b c : P)
  | im (a : P)
  | tup (as : Ps) | lst (as : Ps)
  | call (f : Nat) (as : Ps)
  | mt (m : Mt) (i : Nat) (ks as : Ps)
  | lc (e : P) (t : Tg) (it : It) (cd : Ps) (vs : List Nat)
  | lc2 (e : P) (t : Tg) (it : It) (cd : Ps) (t2 : Tg) (it2 : It) (cd2 : Ps) (vs : List Nat)
  | dc (k e : P) (t : Tg) (it : It) (cd : Ps) (vs : List Nat)
  | dsp (as : Ps)
inductive Ps where
  | nil | cons (p : P) (ps : Ps)
inductive It where
  | seq (p : P) | rng (as : Ps) | enum (p : P) | zip (as : Ps) | rev (p : P)
end

structure Z0 where
  inf : Inf
  fm : List (List Bool)
inductive FR where
  | ok (d : D) (ms : List D)
  | ex (c : Nat) (fs : List (Str × I)) (ms : List D)
  | no
abbrev GS := Nat → List D → FR
def Z0.modes (Z : Z0) (f : Nat) : List Bool := Z.fm.getD f []
def toB : Kd → Kd
  | .fr => .bo []
  | .bo R => .bo R
def mutR : List Bool → Ps → List (Option Nat)
  | true :: ms, .cons (.v i) ps => some i :: mutR ms ps
  | _ :: ms, .cons _ ps => none :: mutR ms ps
  | [], _ => []
  | _ :: _, .nil => []
def mutS (ms : List Bool) (ps : Ps) : List Nat := (mutR ms ps).filterMap id
mutual
def kd (Z : Z0) : P → Kd
  | .c _ => .fr
  | .v i => .bo (rt Z.inf i)
  | .mv _ => .fr
  | .g _ _ => .fr
  | .op o as => opK (opN o) (kds Z as)
  | .nt _ => .fr
  | .an a b => jn (kd Z a) (kd Z b)
  | .or a b => jn (kd Z a) (kd Z b)
  | .ite _ a b => jn (kd Z a) (kd Z b)
  | .ch _ _ _ _ _ => .fr
  | .sl a _ _ => kd Z a
  | .get a _ _ => kd Z a
  | .im _ => .fr
  | .tup _ => .fr
  | .lst _ => .fr
  | .call _ _ => .fr
  | .mt _ _ _ _ => .fr
  | .lc _ _ _ _ _ => .fr
  | .lc2 _ _ _ _ _ _ _ _ => .fr
  | .dc _ _ _ _ _ _ => .fr
  | .dsp _ => .fr
def kds (Z : Z0) : Ps → Kd
  | .nil => .fr
  | .cons p ps => jn (kd Z p) (kds Z ps)
def kdI (Z : Z0) : It → Kd
  | .seq p => toB (kd Z p)
  | .rng _ => .bo []
  | .enum p => toB (kd Z p)
  | .zip as => toB (kds Z as)
  | .rev p => toB (kd Z p)
end
mutual
def tc (Z : Z0) : P → List Nat
  | .mv i => [i]
  | .op _ as => tcs Z as
  | .nt a => tc Z a
  | .an a b => tc Z a ++ tc Z b
  | .or a b => tc Z a ++ tc Z b
  | .ite c a b => tc Z c ++ (tc Z a ++ tc Z b)
  | .ch _ _ a b c => tc Z a ++ (tc Z b ++ tc Z c)
  | .sl a b c => tc Z a ++ (tc Z b ++ tc Z c)
  | .get a b c => tc Z a ++ (tc Z b ++ tc Z c)
  | .im a => tc Z a
  | .tup as => tcs Z as
  | .lst as => tcs Z as
  | .c _ => []
  | .v _ => []
  | .g _ _ => []
  | .call f as => tcs Z as ++ mutS (Z.modes f) as
  | .mt _ i ks as => tcs Z ks ++ (tcs Z as ++ [i])
  | .lc e _ it cd _ => tcI Z it ++ (tcs Z cd ++ tc Z e)
  | .lc2 e _ it cd _ it2 cd2 _ => tcI Z it ++ (tcs Z cd ++ (tcI Z it2 ++ (tcs Z cd2 ++ tc Z e)))
  | .dc k e _ it cd _ => tcI Z it ++ (tcs Z cd ++ (tc Z k ++ tc Z e))
  | .dsp as => tcs Z as
def tcs (Z : Z0) : Ps → List Nat
  | .nil => []
  | .cons p ps => tc Z p ++ tcs Z ps
def tcI (Z : Z0) : It → List Nat
  | .seq p => tc Z p
  | .rng as => tcs Z as
  | .enum p => tc Z p
  | .zip as => tcs Z as
  | .rev p => tc Z p
end
def killL : Inf → Nat → Env → Env
  | r :: inf, i, o :: ρ => (if i ∈ r then none else o) :: killL inf i ρ
  | [], _, ρ => ρ
  | _ :: _, _, [] => []
def setE (inf : Inf) (i : Nat) (d : D) (ρ : Env) : Env := (killL inf i ρ).set i (some d)
def immK : Kd → D → Bool
  | .fr, _ => true
  | .bo _, .i _ => true
  | .bo _, _ => false
def immM (k : Kd) (m : M D) : M D := bnd m fun d => if immK k d then ret d else fun _ => .no
def intD : D → Option Int
  | .i (.int i) => some i
  | _ => none
def chainZ (z : D) (m : M D) : M D := match z with
  | .i (.bl true) => m
  | .i (.bl false) => ret (.i (.bl false))
  | _ => fun _ => .no
def mayHold (inf : Inf) (k : Kd) (i : Nat) (d : D) : Bool := match d with
  | .i _ => true
  | _ => (match k with
    | .fr => true
    | .bo R => !(rt inf i).contains i && R.all fun j => (rt inf i).contains j)
def setN (inf : Inf) (k : Kd) (i : Nat) (d : D) : M Unit := fun ρ => if mayHold inf k i d && decide (i < ρ.length) then .ok () (setE inf i d ρ) else .no
mutual
def setT (inf : Inf) (k : Kd) : Tg → D → M Unit
  | .n i, d => setN inf k i d
  | .t ts, d => (match kidsT d with
    | some ds => setTs inf k ts ds
    | none => fun _ => .no)
def setTs (inf : Inf) (k : Kd) : Tgs → List D → M Unit
  | .nil, [] => ret ()
  | .cons t ts, d :: ds => bnd (setT inf k t d) fun _ => setTs inf k ts ds
  | _, _ => fun _ => .no
end
mutual
def tgs : Tg → List Nat
  | .n i => [i]
  | .t ts => tgss ts
def tgss : Tgs → List Nat
  | .nil => []
  | .cons t ts => tgs t ++ tgss ts
end
def wipeE (ρ : Env) : List Nat → Env
  | [] => ρ
  | v :: vs => (wipeE ρ vs).set v none
def wipeM (vs : List Nat) : M Unit := fun ρ => .ok () (wipeE ρ vs)
def compL {α β : Type} (vs : List Nat) (step : α → M (List β)) : List α → M (List β)
  | [] => ret []
  | d :: ds => bnd (step d) fun xs => bnd (wipeM vs) fun _ => bnd (compL vs step ds) fun ys => ret (xs ++ ys)
def restE (ρ : Env) (ρ' : Env) : List Nat → Env
  | [] => ρ'
  | v :: vs => (restE ρ ρ' vs).set v (match getE ρ v with
    | some (.i x) => some (.i x)
    | _ => none)
def inBlk {α : Type} (vs : List Nat) (m : M α) : M α := fun ρ => match m (wipeE ρ vs) with
  | .ok a ρ' => .ok a (restE ρ ρ' vs)
  | _ => .no
def putB (inf : Inf) : List (Option Nat) → List D → Env → Env
  | some i :: rs, d :: ds, ρ => putB inf rs ds (setE inf i d ρ)
  | none :: rs, _ :: ds, ρ => putB inf rs ds ρ
  | _, _, ρ => ρ
def fillA : List (Option Nat) → List (Option D) → Env → Option (List D)
  | some i :: rs, _ :: os, ρ => (match getE ρ i, fillA rs os ρ with
    | some d, some ds => some (d :: ds)
    | _, _ => none)
  | none :: rs, some d :: os, ρ => (fillA rs os ρ).map (d :: ·)
  | [], [], _ => some []
  | _, _, _ => none
def callM (inf : Inf) (g : List D → FR) (rs : List (Option Nat)) (os : List (Option D)) : M D := fun ρ => match fillA rs os ρ with
  | none => .no
  | some ds => (match g ds with
    | .ok d ms => .ok d (putB inf rs ms ρ)
    | .ex c fs ms => .ex c fs (putB inf rs ms ρ)
    | .no => .no)
def itemsD (d : D) : Option (List D) := match kids d with
  | some ds => some ds
  | none => (match d with
    | .i (.str x) => some (x.cps.toList.map fun c => .i (.str ⟨#[c]⟩))
    | _ => none)
def rngF : List D → Option (List D)
  | [.i (.int n)] => if -(2 ^ 62) ≤ n ∧ n < 2 ^ 62 then some ((List.range n.toNat).map fun (k : Nat) => .i (.int (k : Int))) else none
  | [.i (.int a), .i (.int b)] => if (-(2 ^ 62) ≤ a ∧ a < 2 ^ 62) ∧ -(2 ^ 62) ≤ b ∧ b < 2 ^ 62 then some ((List.range (b - a).toNat).map fun (k : Nat) => .i (.int (a + (k : Int)))) else none
  | _ => none
def enumF (ds : List D) : List D := ds.zipIdx.map fun x => mkT [.i (.int x.2), x.1]
def zipF (ds es : List D) : List D := (ds.zip es).map fun x => mkT [x.1, x.2]
def zip2 : List D → Option (List D)
  | [d, e] => (match kidsL d with
    | some ds => (kidsL e).map fun es => zipF ds es
    | none => (match kidsT d with
      | some ds => (kidsT e).map fun es => zipF ds es
      | none => none))
  | _ => none
def at1 (k d : D) : Option D := match d with
  | .lst _ => ixF d k
  | .dk _ => ixF d k
  | _ => none
def putA {κ : Type} [DecidableEq κ] (k : κ) (d : D) : List (κ × D) → List (κ × D)
  | [] => []
  | (k', d') :: r => if k' = k then (k', d) :: r else (k', d') :: putA k d r
def put1 (k d d1 : D) : D := match d with
  | .lst ds => (match k with
    | .i (.int i) => (match ixN ds.length i with
      | some j => .lst (ds.set j d1)
      | none => d)
    | _ => d)
  | .dk kvs => (match keyD k with
    | some q => .dk (putA q d1 kvs)
    | none => d)
  | _ => d
def mutAt (f : D → Option (D × D)) : List D → D → Option (D × D)
  | [], d => f d
  | k :: ks, d => (match at1 k d with
    | some d1 => (mutAt f ks d1).map fun x => (put1 k d x.1, x.2)
    | none => none)
def pathD : List D → D → Option D
  | [], d => some d
  | k :: ks, d => (at1 k d).bind (pathD ks)
def appF : List D → D → Option (D × D)
  | [x], .lst ds => if ds.length < sizeLine then some (.lst (ds ++ [x]), .i .non) else none
  | _, _ => none
def popF : List D → D → Option (D × D)
  | [], .lst ds => (match ds.getLast? with
    | some d => some (.lst ds.dropLast, d)
    | none => none)
  | _, _ => none
def popAtF : List D → D → Option (D × D)
  | [.i (.int 0)], .lst (d :: ds) => some (.lst ds, d)
  | _, _ => none
def remvF : List D → D → Option (D × D)
  | [.i (.str k)], .lst ds => (match strsD ds with
    | some ys => if k ∈ ys then some (.lst ((ys.erase k).map fun y => .i (.str y)), .i .non) else none
    | none => none)
  | _, _ => none
def extF : List D → D → Option (D × D)
  | [.lst es], .lst ds => if ds.length + es.length ≤ sizeLine then some (.lst (ds ++ es), .i .non) else none
  | _, _ => none
def updF : List D → D → Option (D × D)
  | [.dk es], .dk ds => if ds.length + es.length ≤ sizeLine then some (.dk (updK ds es), .i .non) else none
  | _, _ => none
def mtF : Mt → List D → D → Option (D × D)
  | .app => appF | .pop => popF | .popAt => popAtF | .rem => remvF | .ext => extF | .upd => updF
def mtT : Mt → String
  | .upd => "dict"
  | _ => "list"
def tyM (m : Mt) (i : Nat) (ks : List D) : M Unit := fun ρ => match (getE ρ i).bind (pathD ks) with
  | some d0 => if tyD d0 = mtT m then .ok () ρ else .no
  | none => .no
def hasN (i : Nat) : M Unit := fun ρ => match getE ρ i with
  | some _ => .ok () ρ
  | none => .no
def mtM (inf : Inf) (m : Mt) (i : Nat) (ks as : List D) : M D := fun ρ => match getE ρ i with
  | some d => (match mutAt (mtF m as) ks d with
    | some (d', r) => .ok r (setE inf i d' ρ)
    | none => .no)
  | none => .no
def isDk : D → Option Unit
  | .dk _ => some ()
  | .dt _ => some ()
  | _ => none
def getF (x y z : D) : Option D := match z with
  | .i z => (lookD x y).map fun o => o.getD (.i z)
  | _ => none
def mkDk : List (D × D) → Option D
  | kvs => ((kvs.mapM fun (x : D × D) => (keyD x.1).map fun k => (k, x.2))).bind fun r => if r.length ≤ sizeLine then some (.dk (updK [] r)) else none
def pairsF : List D → Option (List (D × D))
  | [] => some []
  | k :: v :: r => (pairsF r).map ((k, v) :: ·)
  | _ => none
mutual
def ev (Z : Z0) (G : GS) : P → M D
  | .c x => ret (.i x)
  | .v i => fun ρ => match getE ρ i with
    | some d => .ok d ρ
    | none => .no
  | .mv i => fun ρ => match getE ρ i with
    | some d => .ok d (killL Z.inf i ρ)
    | none => .no
  | .g _ x => ret (.i x)
  | .op o as => bnd (evs Z G as) fun ds => lift (opF o ds)
  | .nt a => bnd (ev Z G a) fun d => bnd (lift (truth d)) fun k => ret (.i (.bl (!k)))
  | .an a b => bnd (ev Z G a) fun d => bnd (lift (truth d)) fun k => if k then ev Z G b else ret d
  | .or a b => bnd (ev Z G a) fun d => bnd (lift (truth d)) fun k => if k then ret d else ev Z G b
  | .ite c a b => bnd (ev Z G c) fun d => bnd (lift (truth d)) fun k => if k then ev Z G a else ev Z G b
  | .ch o o' a b c => bnd (ev Z G a) fun x => bnd (ev Z G b) fun y => bnd (lift (opF o [x, y])) fun z => chainZ z (bnd (ev Z G c) fun w => lift (opF o' [y, w]))
  | .im a => immM (kd Z a) (ev Z G a)
  | .get a b c => bnd (ev Z G a) fun x => bnd (lift (isDk x)) fun _ => bnd (ev Z G b) fun y => bnd (ev Z G c) fun z => lift (getF x y z)
  | .sl a b c => bnd (ev Z G a) fun x => bnd (ev Z G b) fun y => bnd (lift (intD y)) fun i => bnd (ev Z G c) fun z => bnd (lift (intD z)) fun j => lift (slF x (some i) (some j))
  | .tup as => bnd (evd Z G as) fun ds => if ds.length ≤ sizeLine then ret (mkT ds) else fun _ => .no
  | .lst as => bnd (evd Z G as) fun ds => if ds.length ≤ sizeLine then ret (.lst ds) else fun _ => .no
  | .call f as => bnd (evA Z G as (Z.modes f)) fun os => callM Z.inf (G f) (mutR (Z.modes f) as) os
  | .mt m i ks as => bnd (hasN i) fun _ => bnd (evs Z G ks) fun ks' => bnd (tyM m i ks') fun _ => bnd (evd Z G as) fun ds => mtM Z.inf m i ks' ds
  | .lc e t it cd vs => bnd (evI Z G it) fun ds => bnd (inBlk vs (compL vs (fun d => bnd (setT Z.inf (kdI Z it) t d) fun _ => bnd (evC Z G cd) fun b => if b then bnd (immM (kd Z e) (ev Z G e)) fun x => ret [x] else ret []) ds)) fun xs =>
      if xs.length ≤ sizeLine then ret (.lst xs) else fun _ => .no
  | .lc2 e t it cd t2 it2 cd2 vs => bnd (evI Z G it) fun ds => bnd (inBlk vs (compL vs (fun d => bnd (setT Z.inf (kdI Z it) t d) fun _ => bnd (evC Z G cd) fun b => if b then
        bnd (evI Z G it2) (compL (tgs t2) fun d2 => bnd (setT Z.inf (kdI Z it2) t2 d2) fun _ => bnd (evC Z G cd2) fun b => if b then bnd (immM (kd Z e) (ev Z G e)) fun x => ret [x] else ret []) else ret []) ds)) fun xs =>
      if xs.length ≤ sizeLine then ret (.lst xs) else fun _ => .no
  | .dc k e t it cd vs => bnd (evI Z G it) fun ds => bnd (inBlk vs (compL vs (fun d => bnd (setT Z.inf (kdI Z it) t d) fun _ => bnd (evC Z G cd) fun b => if b then bnd (ev Z G k) fun y => bnd (immM (kd Z e) (ev Z G e)) fun x => ret [(y, x)] else ret []) ds)) fun xs =>
      lift (mkDk xs)
  | .dsp as => bnd (evd Z G as) fun ds => lift ((pairsF ds).bind mkDk)
def evs (Z : Z0) (G : GS) : Ps → M (List D)
  | .nil => ret []
  | .cons p ps => bnd (ev Z G p) fun d => bnd (evs Z G ps) fun ds => ret (d :: ds)
def evd (Z : Z0) (G : GS) : Ps → M (List D)
  | .nil => ret []
  | .cons p ps => bnd (immM (kd Z p) (ev Z G p)) fun d => bnd (evd Z G ps) fun ds => ret (d :: ds)
def evI (Z : Z0) (G : GS) : It → M (List D)
  | .seq p => bnd (ev Z G p) fun d => lift (itemsD d)
  | .rng as => bnd (evs Z G as) fun ds => lift (rngF ds)
  | .enum p => bnd (ev Z G p) fun d => lift ((kidsL d).map enumF)
  | .zip as => bnd (evs Z G as) fun ds => lift (zip2 ds)
  | .rev p => bnd (ev Z G p) fun d => lift ((kids d).map List.reverse)
def evA (Z : Z0) (G : GS) : Ps → List Bool → M (List (Option D))
  | .nil, _ => ret []
  | .cons (.v i) ps, true :: ms => fun ρ => match getE ρ i with
    | some _ => bnd (evA Z G ps ms) (fun r => ret (none :: r)) ρ
    | none => .no
  | .cons p ps, ms => bnd (ev Z G p) fun d => bnd (evA Z G ps ms.tail) fun r => ret (some d :: r)
def evC (Z : Z0) (G : GS) : Ps → M Bool
  | .nil => ret true
  | .cons p ps => bnd (ev Z G p) fun d => bnd (lift (truth d)) fun b => if b then evC Z G ps else ret false
end

structure Ck where
  N : List Str
  sc : Scope
  Z : Z0
  lk : List Nat
  blts : List Str
  glb : List (Str × I)
  cells : List Str
  fns : List (Str × List Bool)
def vis (ck : Ck) (x : Str) : Bool := match ck.sc.names.lookup x with
  | some .local => true
  | some .cell => true
  | some .free => true
  | _ => false
def glo (ck : Ck) (x : Str) : Bool := match ck.sc.names.lookup x with
  | some .globalImplicit => true
  | _ => false
def okN (x : Str) : Bool := !(x == ("__debug__" : Str)) && (!(x == ("__classdict__" : Str)) && !(x == ("__name__" : Str)))
def sto (ck : Ck) (x : Str) : Bool := match ck.sc.names.lookup x with
  | some .local => true
  | some .cell => ck.cells.contains x
  | _ => false
def blt (ck : Ck) (x : Str) (y : Str) : Bool := decide (x = y) && glo ck x && ck.blts.contains x
def nst : Expr → Bool
  | .Starred _ _ => false
  | _ => true
def noSet : Expr → Bool
  | .Set _ _ _ => false
  | _ => true
def noSlice : Expr → Bool
  | .Slice _ _ _ _ => false
  | _ => true
def isTyName (ck : Ck) (T : String) : Expr → Bool
  | .Name x _ => decide (x = Str.ofString T) && glo ck x && ck.blts.contains x
  | _ => false
def sameOp : Operator → Operator → Bool
  | .Add, .Add => true | .Sub, .Sub => true | .Mult, .Mult => true | .FloorDiv, .FloorDiv => true | .Mod, .Mod => true | .Pow, .Pow => true
  | _, _ => false
def sameCmp : CmpOp → CmpOp → Bool
  | .Eq, .Eq => true | .NotEq, .NotEq => true | .Lt, .Lt => true | .LtE, .LtE => true | .Gt, .Gt => true | .GtE, .GtE => true
  | .In, .In => true | .NotIn, .NotIn => true | .Is, .Is => true | .IsNot, .IsNot => true
  | _, _ => false
def binA (b : Operator) : Expr → Option (List Expr)
  | .BinOp x o y _ => if sameOp o b then some [x, y] else none
  | _ => none
def cmpA (b : CmpOp) : Expr → Option (List Expr)
  | .Compare x [o] [y] _ => if sameCmp o b && noSet y then some [x, y] else none
  | _ => none
def idxA : Expr → Option (List Expr)
  | .Subscript x y _ => if noSlice y then some [x, y] else none
  | _ => none
def slfA : Expr → Option (List Expr)
  | .Subscript x (.Slice (some a) none none _) _ => some [x, a]
  | _ => none
def sltA : Expr → Option (List Expr)
  | .Subscript x (.Slice none (some a) none _) _ => some [x, a]
  | _ => none
def joinA (sep : Str) : Expr → Option (List Expr)
  | .Call (.Attribute (.Constant (.str s) _ _) n apos) [e] [] cpos => if decide (s = sep) && decide (n = ("join" : Str)) && (apos.endLine == cpos.line) && nst e then some [e] else none
  | _ => none
def negA : Expr → Option (List Expr)
  | .UnaryOp .USub x _ => some [x]
  | _ => none
def callA (ck : Ck) (y : Str) (n : Nat) : Expr → Option (List Expr)
  | .Call (.Name m _) es [] _ => if blt ck m y && es.all nst && decide (es.length = n) then some es else none
  | _ => none
def isiA (ck : Ck) (T : String) : Expr → Option (List Expr)
  | .Call (.Name m _) [a, t] [] _ => if blt ck m "isinstance" && nst a && isTyName ck T t && tyNames.contains T then some [a] else none
  | _ => none
def opArgs (ck : Ck) : Op → Expr → Option (List Expr)
  | .add => binA .Add | .cat => binA .Add | .sub => binA .Sub | .mul => binA .Mult | .fdiv => binA .FloorDiv | .mod => binA .Mod | .pow => binA .Pow | .neg => negA
  | .eq => cmpA .Eq | .ne => cmpA .NotEq | .lt => cmpA .Lt | .le => cmpA .LtE | .gt => cmpA .Gt | .ge => cmpA .GtE
  | .inn => cmpA .In | .nin => cmpA .NotIn | .is => cmpA .Is | .isn => cmpA .IsNot | .ix => idxA
  | .isi T => isiA ck T | .slf => slfA | .slt => sltA
  | .len => callA ck "len" 1 | .tup => callA ck "tuple" 1 | .lst => callA ck "list" 1 | .int => callA ck "int" 1 | .str => callA ck "str" 1 | .abs => callA ck "abs" 1
  | .min2 => callA ck "min" 2 | .max2 => callA ck "max" 2 | .all => callA ck "all" 1 | .any => callA ck "any" 1 | .sum => callA ck "sum" 1 | .min => callA ck "min" 1 | .max => callA ck "max" 1 | .sorted => callA ck "sorted" 1 | .join sep => joinA sep | .dict => callA ck "dict" 1
def cmpOf : Op → Option CmpOp
  | .eq => some .Eq | .ne => some .NotEq | .lt => some .Lt | .le => some .LtE | .gt => some .Gt | .ge => some .GtE
  | _ => none
def ownB (inf : Inf) (i : Nat) : Bool := decide (own inf i)
def constOf : I → Expr → Bool
  | .non, .Constant .none _ _ => true
  | .bl a, .Constant (.bool b) _ _ => decide (a = b)
  | .int a, .Constant (.int b) _ _ => decide (a = b)
  | .str a, .Constant (.str b) _ _ => decide (a = b) && PyData.strOk a
  | _, _ => false
def nmA : Expr → Option Str
  | .Name x _ => some x
  | _ => none
def notA : Expr → Option Expr
  | .UnaryOp .Not x _ => some x
  | _ => none
def andA : Expr → Option (Expr × Expr)
  | .BoolOp .And [x, y] _ => some (x, y)
  | .BoolOp .And (x :: y :: z :: r) pos => some (x, .BoolOp .And (y :: z :: r) pos)
  | _ => none
def orA : Expr → Option (Expr × Expr)
  | .BoolOp .Or [x, y] _ => some (x, y)
  | .BoolOp .Or (x :: y :: z :: r) pos => some (x, .BoolOp .Or (y :: z :: r) pos)
  | _ => none
def iteA : Expr → Option (Expr × Expr × Expr)
  | .IfExp x y z _ => some (x, y, z)
  | _ => none
def chA : Expr → Option (Expr × Expr × Expr × CmpOp × CmpOp)
  | .Compare x [p, q] [y, z] _ => some (x, y, z, p, q)
  | _ => none
def slA : Expr → Option (Expr × Expr × Expr)
  | .Subscript x (.Slice (some a) (some b) none _) _ => some (x, a, b)
  | _ => none
def noSup : Expr → Bool
  | .Call (.Name _ _) [] [] _ => false
  | _ => true
def getA : Expr → Option (Expr × Expr × Option Expr)
  | .Call (.Attribute o n apos) [y] [] cpos => if decide (n = ("get" : Str)) && (apos.endLine == cpos.line) && nst y && noSup o then some (o, y, none) else none
  | .Call (.Attribute o n apos) [y, z] [] cpos => if decide (n = ("get" : Str)) && (apos.endLine == cpos.line) && nst y && nst z && noSup o then some (o, y, some z) else none
  | _ => none
def isNonP : P → Bool
  | .c .non => true
  | _ => false
def tupA : Expr → Option (List Expr)
  | .Tuple es _ _ => some es
  | _ => none
def lstA : Expr → Option (List Expr)
  | .List es _ => some es
  | _ => none
def glbOk (ck : Ck) (n : Str) (x : I) : Bool := ck.glb.any fun y => decide (y.1 = n) && (match y.2, x with
    | .int a, .int b => decide (a = b)
    | .str a, .str b => decide (a = b)
    | _, _ => false)
def oB {α : Type} (o : Option α) (f : α → Bool) : Bool := match o with
  | some x => f x
  | none => false
def mtName : Mt → Str
  | .app => "append" | .pop => "pop" | .popAt => "pop" | .rem => "remove" | .ext => "extend" | .upd => "update"
def mtOn : Mt → Bool
  | _ => true
def mtAr : Mt → Nat
  | .pop => 0
  | _ => 1
def mtA (m : Mt) : Expr → Option (Str × List Expr × List Expr)
  | .Call (.Attribute (.Name x _) n apos) es [] cpos => if decide (n = mtName m) && (apos.endLine == cpos.line) && es.all nst && decide (es.length = mtAr m) then some (x, [], es) else none
  | .Call (.Attribute (.Subscript (.Name x _) k _) n apos) es [] cpos => if decide (n = mtName m) && (apos.endLine == cpos.line) && es.all nst && decide (es.length = mtAr m) && noSlice k then some (x, [k], es) else none
  | _ => none
def blkCk (ck : Ck) (scope : Scope) : Ck := { ck with sc := relS scope ck.sc, cells := scope.names.filterMap fun x => if x.2 = .cell then some x.1 else none }
def ownOf (N : List Str) (scope : Scope) : List (Str × Nat) := scope.names.filterMap fun y => match y.2 with
  | .local => (N.findIdx? (· == y.1)).map fun i => (y.1, i)
  | .cell => (N.findIdx? (· == y.1)).map fun i => (y.1, i)
  | _ => none
def lcA : Expr → Option (Expr × Expr × Expr × List Expr × Scope)
  | .ListComp elt [⟨tg, it, ifs, 0⟩] scope _ => if noSet it then some (elt, tg, it, ifs, scope) else none
  | _ => none
def dcA : Expr → Option (Expr × Expr × Expr × Expr × List Expr × Scope)
  | .DictComp ke elt [⟨tg, it, ifs, 0⟩] scope _ => if noSet it then some (ke, elt, tg, it, ifs, scope) else none
  | _ => none
def dspA : Expr → Option (List Expr)
  | .Dict [] [] _ => some []
  | .Dict [some k] [v] _ => some [k, v]
  | _ => none
def isTup : Expr → Bool
  | .Tuple _ _ _ => true
  | _ => false
def pairI : It → Bool
  | .enum _ => true
  | .zip _ => true
  | _ => false
mutual
def chkT (ck : Ck) : Tg → Expr → Bool
  | .n i, e => oB (nmA e) fun x => decide (ck.N[i]? = some x) && sto ck x
  | .t ts, e => oB (tupA e) fun es => chkTs ck ts es
def chkTs (ck : Ck) : Tgs → List Expr → Bool
  | .nil, [] => true
  | .cons t ts, e :: es => chkT ck t e && chkTs ck ts es
  | _, _ => false
end
def callU (ck : Ck) (f : Nat) : Expr → Option (List Expr)
  | .Call (.Name m _) es [] _ => (match ck.fns[f]? with
    | some (x, ms) => if decide (x = m) && glo ck m && !(m == ("__debug__" : Str)) && es.all nst && !es.isEmpty && decide (ck.Z.fm[f]? = some ms) then some es else none
    | none => none)
  | _ => none
def rngA (ck : Ck) : Expr → Option (List Expr)
  | .Call (.Name m _) es [] _ => if blt ck m "range" && es.all nst && (decide (es.length = 1) || decide (es.length = 2)) then some es else none
  | _ => none
def callA1 (ck : Ck) (y : Str) : Expr → Option Expr
  | .Call (.Name m _) [e] [] _ => if blt ck m y && nst e then some e else none
  | _ => none
def zipA (ck : Ck) : Expr → Option (List Expr)
  | .Call (.Name m _) [e, f] [] _ => if blt ck m "zip" && nst e && nst f then some [e, f] else none
  | _ => none
mutual
def chk (ck : Ck) : P → Expr → Bool
  | .c x, e => constOf x e
  | .v i, e => oB (nmA e) fun x => decide (ck.N[i]? = some x) && vis ck x && okN x
  | .mv i, e => oB (nmA e) fun x => decide (ck.N[i]? = some x) && vis ck x && okN x && ownB ck.Z.inf i && !ck.lk.contains i
  | .g n x, e => oB (nmA e) fun m => decide (n = m) && glo ck m && okN m && glbOk ck n x
  | .op o as, e => oB (opArgs ck o e) fun es => chks ck as es
  | .nt a, e => oB (notA e) fun x => chk ck a x
  | .an a b, e => oB (andA e) fun ⟨x, y⟩ => chk ck a x && chk ck b y
  | .or a b, e => oB (orA e) fun ⟨x, y⟩ => chk ck a x && chk ck b y
  | .ite c a b, e => oB (iteA e) fun ⟨x, y, z⟩ => chk ck c x && chk ck a y && chk ck b z
  | .ch o o' a b c, e => oB (chA e) fun ⟨x, y, z, p, q⟩ => chk ck a x && chk ck b y && chk ck c z && decide (cmpOf o = some p) && decide (cmpOf o' = some q)
      && decide (Apart (tc ck.Z b) (kd ck.Z a)) && decide (Apart (tc ck.Z c) (kd ck.Z b))
  | .im a, e => chk ck a e
  | .get a b c, e => oB (getA e) fun ⟨x, y, zo⟩ => chk ck a x && chk ck b y && (match zo with
      | some z => chk ck c z
      | none => isNonP c) && decide (Apart (tc ck.Z b) (kd ck.Z a)) && decide (Apart (tc ck.Z c) (kd ck.Z a))
  | .sl a b c, e => oB (slA e) fun ⟨x, y, z⟩ => chk ck a x && chk ck b y && chk ck c z && decide (Apart (tc ck.Z b) (kd ck.Z a)) && decide (Apart (tc ck.Z c) (kd ck.Z a))
  | .tup as, e => oB (tupA e) fun es => chks ck as es
  | .lst as, e => oB (lstA e) fun es => chks ck as es
  | .call f as, e => oB (callU ck f e) fun es => decide (mutS (ck.Z.modes f) as).Nodup && chkA ck (mutS (ck.Z.modes f) as) (ck.Z.modes f) as es
  | .mt m i ks as, e => mtOn m && oB (mtA m e) fun ⟨x, kes, es⟩ => decide (ck.N[i]? = some x) && vis ck x && okN x && ownB ck.Z.inf i && !ck.lk.contains i && chks ck ks kes && chks ck as es && !(tcs ck.Z as).contains i
  | .lc e t it cd vs, x => oB (lcA x) fun ⟨elt, tg, iter, ifs, scope⟩ => L2.blkC ck.N ck.sc scope (ownOf ck.N scope) && decide (vs = (ownOf ck.N scope).map (·.2)) && chkT (blkCk ck scope) t tg && (tgs t).all (fun j => vs.contains j) && vs.all (fun v => !ownB ck.Z.inf v) &&
      chkI ck it iter && (!pairI it || isTup tg) && chkC (blkCk ck scope) cd ifs && chk (blkCk ck scope) e elt && decide (Apart (tcs ck.Z cd ++ tc ck.Z e) (kdI ck.Z it))
  | .lc2 _ _ _ _ _ _ _ _, _ => false
  | .dc k e t it cd vs, x => oB (dcA x) fun ⟨ke, elt, tg, iter, ifs, scope⟩ => L2.blkC ck.N ck.sc scope (ownOf ck.N scope) && decide (vs = (ownOf ck.N scope).map (·.2)) && chkT (blkCk ck scope) t tg && (tgs t).all (fun j => vs.contains j) && vs.all (fun v => !ownB ck.Z.inf v) &&
      chkI ck it iter && (!pairI it || isTup tg) && chkC (blkCk ck scope) cd ifs && chk (blkCk ck scope) k ke && chk (blkCk ck scope) e elt && decide (Apart (tcs ck.Z cd ++ (tc ck.Z k ++ tc ck.Z e)) (kdI ck.Z it))
  | .dsp as, e => oB (dspA e) fun es => chks ck as es
def chks (ck : Ck) : Ps → List Expr → Bool
  | .nil, [] => true
  | .cons p ps, e :: es => chk ck p e && chks ck ps es && decide (Apart (tcs ck.Z ps) (kd ck.Z p))
  | _, _ => false
def chkC (ck : Ck) : Ps → List Expr → Bool
  | .nil, [] => true
  | .cons p .nil, [e] => chk ck p e
  | _, _ => false
def chkA (ck : Ck) (M : List Nat) : List Bool → Ps → List Expr → Bool
  | [], .nil, [] => true
  | true :: ms, .cons (.v i) ps, e :: es => chk ck (.v i) e && ownB ck.Z.inf i && !ck.lk.contains i && chkA ck M ms ps es
  | false :: ms, .cons p ps, e :: es => chk ck p e && chkA ck M ms ps es && decide (Apart (tcs ck.Z ps) (kd ck.Z p)) && decide (Apart M (kd ck.Z p))
  | _, _, _ => false
def chkI (ck : Ck) : It → Expr → Bool
  | .seq p, e => chk ck p e
  | .rng as, e => oB (rngA ck e) fun es => chks ck as es
  | .enum p, e => oB (callA1 ck "enumerate" e) fun x => chk ck p x
  | .zip as, e => oB (zipA ck e) fun es => chks ck as es
  | .rev p, e => oB (callA1 ck "reversed" e) fun x => chk ck p x
end
end Mp

namespace Mp
open PySem PySem.Spec PyProof.Rows L2

structure Put (inf : Inf) (M : List Nat) (σ : L2.St) (F : FP) (H : Hp) (Sx : List Addr) (dm : Nat → Mp.D) (Fm : FP) (H' : Hp) : Prop where
  ow : ∀ i ∈ M, own inf i
  tup : TupK H H'
  there : ∀ a, H a ≠ none → H' a ≠ none
  keep : ∀ a o, H a = some o → (∀ i ∈ M, a ∉ F i) → H' a = some o
  rd : ∀ i ∈ M, ∃ v, σ[i]? = some (some v) ∧ RD H' (dm i) v (Fm i)
  nd : ∀ i ∈ M, (Fm i).Nodup
  fz : ∀ i ∈ M, ∀ a ∈ Fm i, NFz H' a
  new : ∀ i ∈ M, ∀ a ∈ Fm i, H a = none ∨ (∃ j ∈ M, a ∈ F j) ∨ a ∈ Sx
  sep : ∀ i ∈ M, ∀ j ∈ M, i ≠ j → ∀ a ∈ Fm i, a ∉ Fm j
def putFp (inf : Inf) (M : List Nat) (Fm F : FP) : FP := fun j => if j ∈ M then Fm j else if ∃ i ∈ M, i ∈ rt inf j then [] else F j
theorem putFp_sub {inf : Inf} {M : List Nat} {Fm F : FP} {j : Nat} (h : j ∉ M) : ∀ a ∈ putFp inf M Fm F j, a ∈ F j ∧ ∀ i ∈ M, i ∉ rt inf j := fun a ha => by
  unfold putFp at ha
  rw [if_neg h] at ha
  split at ha
  · cases ha
  · rename_i hn
    exact ⟨ha, fun i hi hr => hn ⟨i, hi, hr⟩⟩
theorem Put.cn {inf B lk ρ ρ' σ F H M Sx dm Fm H'} (p : Put inf M σ F H Sx dm Fm H') (kx : KOk inf B .fr F H Sx) (cn : Cn inf B lk ρ σ H F) (hl : ρ'.length = ρ.length)
    (hg : ∀ j, getE ρ' j = if j ∈ M then some (dm j) else if ∃ i ∈ M, i ∈ rt inf j then none else getE ρ j) : Cn inf B lk ρ' σ H' (putFp inf M Fm F) where
  rep := fun j d e => by
    rw [hg] at e
    by_cases hj : j ∈ M
    · rw [if_pos hj] at e
      cases e
      obtain ⟨v, ev, rd⟩ := p.rd j hj
      refine ⟨v, ev, ?_⟩
      unfold putFp
      rw [if_pos hj]
      exact rd
    · rw [if_neg hj] at e
      split at e
      · cases e
      · rename_i hn
        obtain ⟨v, ev, rd⟩ := cn.rep j d e
        refine ⟨v, ev, ?_⟩
        unfold putFp
        rw [if_neg hj, if_neg hn]
        exact rd.mono p.tup fun a ha o eo => p.keep a o eo fun i hi => cn.sep j i (p.ow i hi) (fun z => hn ⟨i, hi, z⟩) a ha
  nil := fun j e => by
    rw [hg] at e
    unfold putFp
    by_cases hj : j ∈ M
    · rw [if_pos hj] at e; cases e
    · rw [if_neg hj] at e ⊢
      split
      · rfl
      · rename_i hn
        rw [if_neg hn] at e
        exact cn.nil j e
  sep := fun a b hb hab x hx hx' => by
    have hne : a ≠ b := fun z => hab (by subst z; rw [hb]; exact List.mem_singleton_self _)
    by_cases ha : a ∈ M
    · have hx : x ∈ Fm a := by unfold putFp at hx; rw [if_pos ha] at hx; exact hx
      by_cases hbM : b ∈ M
      · have hx' : x ∈ Fm b := by unfold putFp at hx'; rw [if_pos hbM] at hx'; exact hx'
        exact p.sep a ha b hbM hne x hx hx'
      · obtain ⟨h1, h2⟩ := putFp_sub hbM x hx'
        rcases p.new a ha x hx with z | ⟨j, hj, z⟩ | z
        rotate_right
        · exact kx.2.1 x z b h1
        · exact cn.there h1 z
        · exact cn.sep j b hb (fun w => by rw [p.ow j hj] at w; exact hbM (by rw [List.mem_singleton.mp w]; exact hj)) x z h1
    · obtain ⟨h1, h2⟩ := putFp_sub ha x hx
      by_cases hbM : b ∈ M
      · have hx' : x ∈ Fm b := by unfold putFp at hx'; rw [if_pos hbM] at hx'; exact hx'
        rcases p.new b hbM x hx' with z | ⟨j, hj, z⟩ | z
        rotate_right
        · exact kx.2.1 x z a h1
        · exact cn.there h1 z
        · exact cn.sep a j (p.ow j hj) (h2 j hj) x h1 z
      · exact cn.sep a b hb hab x h1 (putFp_sub hbM x hx').1
  nd := fun j hj => by
    unfold putFp
    split
    · exact p.nd j (by assumption)
    · split
      · exact List.nodup_nil
      · exact cn.nd j hj
  ex := fun j hj hl a ha o u e => by
    by_cases hM : j ∈ M
    · unfold putFp at ha
      rw [if_pos hM] at ha
      exact p.fz j hM a ha o u e
    · obtain ⟨h1, h2⟩ := putFp_sub hM a ha
      cases q : H a with
      | none => exact cn.there h1 q
      | some o' =>
        have := p.keep a o' q fun i hi => cn.sep j i (p.ow i hi) (h2 i hi) a h1
        rw [this] at e
        cases e
        exact cn.ex j hj hl a h1 _ _ q
  mine := fun j hj a ha => by
    by_cases hM : j ∈ M
    · unfold putFp at ha
      rw [if_pos hM] at ha
      rcases p.new j hM a ha with z | ⟨i, hi, z⟩ | z
      rotate_right
      · exact (kx.2.2 a z).2
      · exact cn.nb a z
      · exact cn.mine i (p.ow i hi) a z
    · exact cn.mine j hj a (putFp_sub hM a ha).1
  nb := fun a h => cn.nb a (by
    cases q : H a with
    | none => rfl
    | some o => exact absurd h (p.there a (by rw [q]; exact fun z => by cases z)))
  len := by rw [hl]; exact cn.len
theorem Put.fr {inf B σ F0 H0 T F H M Sx dm Fm H'} (p : Put inf M σ F H Sx dm Fm H') (fr : Fr inf T F0 H0 F H) (nx : New inf T F0 H0 Sx) (kx : KOk inf B .fr F H Sx) (th : ∀ a ∈ Sx, H a ≠ none) : Fr inf (T ++ M) F0 H0 (putFp inf M Fm F) H' where
  keep := fun a o e hn => p.keep a o (fr.keep a o e fun j hj => hn j (List.mem_append_left _ hj)) fun i hi hx => by
    by_cases hT : i ∈ T
    · rcases fr.from' i hT (p.ow i hi) a hx with z | ⟨j, hj, ho, z⟩
      · rw [e] at z; cases z
      · exact hn j (List.mem_append_left _ hj) ho z
    · rcases fr.same i hT with z | z
      · rw [z] at hx; exact hn i (List.mem_append_right _ hi) (p.ow i hi) hx
      · rw [z] at hx; cases hx
  there := fun a h => p.there a (fr.there a h)
  same := fun k hk => by
    have h1 : k ∉ T := fun z => hk (List.mem_append_left _ z)
    have h2 : k ∉ M := fun z => hk (List.mem_append_right _ z)
    unfold putFp
    rw [if_neg h2]
    split
    · exact .inr rfl
    · exact fr.same k h1
  from' := fun k hk ho a ha => by
    have back : ∀ j, own inf j → j ∈ T ++ M → a ∈ F j → H0 a = none ∨ ∃ j ∈ T ++ M, own inf j ∧ a ∈ F0 j := fun j hjo hj hx => by
      by_cases hT : j ∈ T
      · rcases fr.from' j hT hjo a hx with z | ⟨j', hj', ho', hx'⟩
        · exact .inl z
        · exact .inr ⟨j', List.mem_append_left _ hj', ho', hx'⟩
      · rcases fr.same j hT with z | z
        · rw [z] at hx; exact .inr ⟨j, hj, hjo, hx⟩
        · rw [z] at hx; cases hx
    by_cases hM : k ∈ M
    · unfold putFp at ha
      rw [if_pos hM] at ha
      rcases p.new k hM a ha with z | ⟨j, hj, z⟩ | z
      · exact .inl (fr.nn z)
      · exact back j (p.ow j hj) (List.mem_append_right _ hj) z
      · exact (nx a z).imp id fun ⟨j, h1, h2⟩ => ⟨j, List.mem_append_left _ h1, h2⟩
    · exact back k ho hk (putFp_sub hM a ha).1
  tup := fun a vs h => p.tup a vs (fr.tup a vs h)
theorem Put.val {inf B lk ρ σ F0 H0 T F H M Sx dm Fm H' S} (p : Put inf M σ F H Sx dm Fm H') (cn : Cn inf B lk ρ σ H F) (fr : Fr inf T F0 H0 F H) (nx : New inf T F0 H0 Sx) (kx : KOk inf B .fr F H Sx) (nd : S.Nodup)
    (h : ∀ a ∈ S, NFz H' a ∧ (H a = none ∨ (∃ j ∈ M, a ∈ F j) ∨ a ∈ Sx) ∧ ∀ k ∈ M, a ∉ Fm k) : KOk inf B .fr (putFp inf M Fm F) H' S ∧ New inf (T ++ M) F0 H0 S := by
  refine ⟨⟨nd, fun a ha k hk => ?_, fun a ha => ⟨(h a ha).1, ?_⟩⟩, fun a ha => ?_⟩
  · obtain ⟨_, h2, h3⟩ := h a ha
    by_cases hM : k ∈ M
    · unfold putFp at hk
      rw [if_pos hM] at hk
      exact h3 k hM hk
    · obtain ⟨h4, h5⟩ := putFp_sub hM a hk
      rcases h2 with z | ⟨j, hj, z⟩ | z
      · exact cn.there h4 z
      · exact cn.sep k j (p.ow j hj) (h5 j hj) a h4 z
      · exact kx.2.1 a z k h4
  · rcases (h a ha).2.1 with z | ⟨j, hj, z⟩ | z
    · exact cn.nb a z
    · exact cn.mine j (p.ow j hj) a z
    · exact (kx.2.2 a z).2
  · rcases (h a ha).2.1 with z | ⟨j, hj, z⟩ | z
    · exact .inl (fr.nn z)
    · by_cases hT : j ∈ T
      · rcases fr.from' j hT (p.ow j hj) a z with z | ⟨j', hj', ho', hx'⟩
        · exact .inl z
        · exact .inr ⟨j', List.mem_append_left _ hj', ho', hx'⟩
      · rcases fr.same j hT with w | w
        · rw [w] at z; exact .inr ⟨j, List.mem_append_right _ hj, p.ow j hj, z⟩
        · rw [w] at z; cases z
    · exact (nx a z).imp id fun ⟨j, h1, h2⟩ => ⟨j, List.mem_append_left _ h1, h2⟩

structure InF (modes : List Bool) (H : Hp) (ds : List Mp.D) (vs : List V) (F : FP) : Prop where
  l1 : ds.length = modes.length
  l2 : vs.length = modes.length
  rd : ∀ k d, ds[k]? = some d → ∃ v, vs[k]? = some v ∧ RD H d v (F k)
  out : ∀ k, ds.length ≤ k → F k = []
  nd : ∀ k, modes[k]? = some true → (F k).Nodup
  fz : ∀ k, modes[k]? = some true → ∀ a ∈ F k, NFz H a
  sep : ∀ i j, modes[j]? = some true → i ≠ j → ∀ a ∈ F i, a ∉ F j
structure OutF (modes : List Bool) (H : Hp) (F : FP) (vs : List V) (H' : Hp) (ms : List Mp.D) (Fm : FP) : Prop where
  tup : TupK H H'
  there : ∀ a, H a ≠ none → H' a ≠ none
  keep : ∀ a o, H a = some o → (∀ k, modes[k]? = some true → a ∉ F k) → H' a = some o
  rd : ∀ k, modes[k]? = some true → ∃ d v, ms[k]? = some d ∧ vs[k]? = some v ∧ RD H' d v (Fm k)
  nd : ∀ k, modes[k]? = some true → (Fm k).Nodup
  fz : ∀ k, modes[k]? = some true → ∀ a ∈ Fm k, NFz H' a
  new : ∀ k, modes[k]? = some true → ∀ a ∈ Fm k, H a = none ∨ ∃ j, modes[j]? = some true ∧ a ∈ F j
  sep : ∀ i j, modes[i]? = some true → modes[j]? = some true → i ≠ j → ∀ a ∈ Fm i, a ∉ Fm j
def XAtE (exc : Nat → Addr) (c : Nat) (fs : List (Str × I)) (cls : Value) (d : Option Addr) (H : Hp) : Prop :=
  cls = .ref (exc c) ∧ ∃ x vs, d = some x ∧ H x = some (.xd vs) ∧ Paired (fun (p : Str × I) (q : Str × V) => p.1 = q.1 ∧ RI H p.2 q.2) fs vs
def SpF (exc : Nat → Addr) (modes : List Bool) (run : List Mp.D → FR) : Sp := fun vs H Q E => ∃ ds F, InF modes H ds vs F ∧ match run ds with
  | .ok d ms => ∀ v H' S Fm, OutF modes H F vs H' ms Fm → RD H' d v S → S.Nodup →
      (∀ a ∈ S, NFz H' a ∧ (H a = none ∨ ∃ j, modes[j]? = some true ∧ a ∈ F j) ∧ ∀ k, modes[k]? = some true → a ∉ Fm k) → Q v H'
  | .ex c fs ms => ∀ cls d H' Fm, OutF modes H F vs H' ms Fm → XAtE exc c fs cls d H' → E cls d H'
  | .no => False
end Mp

namespace Mp
open PySem PySem.Spec PyProof.Rows L2

structure XOk (ck : Ck) (X : Cx) (C : Cc) (G : GS) : Prop where
  N : X.N = ck.N
  nd : X.N.Nodup
  sc : X.env.scope = ck.sc
  knd : ck.sc.kind = .function
  inf : C.inf = ck.Z.inf
  lk : C.lk = ck.lk
  K : C.K = X.K
  calm : X.calm = true
  blts : ∀ x ∈ ck.blts, X.mg x = none
  glb : ∀ y ∈ ck.glb, ∃ v u, X.mg y.1 = some u ∧ RelV v u ∧ ∀ H, RI H y.2 v
  fnc : ∀ x, ck.sc.names.lookup x = some .cell → x ∈ ck.cells → X.fn x = true
  room : Room C.k X.A
  tk : Takes X C.W
  fns : ∀ f x ms, ck.fns[f]? = some (x, ms) → ∃ fa fd ps, X.mg x = some (.ref fa) ∧ PySem.W.keepIn X.K (.ref fa) = true ∧ Binds X.K fd ps [] ∧ FnOk X.prog X.w X.K X.mg X.base (L2.CX X.prog X.w) C.k fa fd ps (SpF C.exc ms (G f))

theorem vis_of {ck : Ck} {X : Cx} {C : Cc} {G : GS} (h : XOk ck X C G) {x : Str} (hv : vis ck x = true) : Vis X.env.scope x := by
  rw [h.sc]
  unfold vis at hv
  split at hv <;> first
    | exact .inl (by assumption)
    | exact .inr (.inl (by assumption))
    | exact .inr (.inr (by assumption))
    | cases hv
theorem glo_of {ck : Ck} {X : Cx} {C : Cc} {G : GS} (h : XOk ck X C G) {x : Str} (hv : glo ck x = true) : Gl X x := by
  show X.env.scope.names.lookup x = _
  rw [h.sc]
  unfold glo at hv
  split at hv
  · assumption
  · cases hv
theorem okN_of {x : Str} (h : okN x = true) : (x == ("__debug__" : Str)) = false ∧ (x == ("__classdict__" : Str)) = false ∧ x ≠ ("__name__" : Str) := by
  unfold okN at h
  simp only [Bool.and_eq_true, Bool.not_eq_true'] at h
  exact ⟨h.1, h.2.1, fun e => by rw [e] at h; simp at h⟩
theorem blt_of {ck : Ck} {X : Cx} {C : Cc} {G : GS} (h : XOk ck X C G) {x y : Str} (hb : blt ck x y = true) : x = y ∧ Gl X y ∧ X.mg y = none := by
  unfold blt at hb
  simp only [Bool.and_eq_true, decide_eq_true_eq] at hb
  obtain ⟨⟨e, h1⟩, h2⟩ := hb
  subst e
  exact ⟨rfl, glo_of h h1, h.blts x (by simpa using h2)⟩
theorem ty_of {ck : Ck} {X : Cx} {C : Cc} {G : GS} (h : XOk ck X C G) {T : String} {t : Expr} (ht : isTyName ck T t = true) : ∃ p, t = .Name (Str.ofString T) p ∧ Gl X (Str.ofString T) ∧ X.mg (Str.ofString T) = none := by
  unfold isTyName at ht
  split at ht
  · rename_i x p
    simp only [Bool.and_eq_true, decide_eq_true_eq] at ht
    obtain ⟨⟨e, h1⟩, h2⟩ := ht
    subst e
    exact ⟨p, rfl, glo_of h h1, h.blts _ (by simpa using h2)⟩
  · cases ht

theorem star_of {e : Expr} {es : List Expr} {env : PySem.Env} (h : nst e = true) : starEach (e :: es) env = (false, eval e env) :: starEach es env := by
  cases e <;> first
    | rfl
    | cases h
theorem plain_of {pos : Pos} {env : PySem.Env} : ∀ {es : List Expr}, es.all nst = true → (backTo pos (starEach es env)).any (·.1) = false
  | [], _ => rfl
  | e :: es, h => by
    simp only [List.all_cons, Bool.and_eq_true] at h
    rw [star_of h.1]
    show (false || (backTo pos (starEach es env)).any (·.1)) = false
    rw [plain_of h.2]; rfl
inductive PEs (X : Cx) : List Expr → List TE → Prop
  | nil : PEs X [] []
  | cons {e : Expr} {t : TE} {es : List Expr} {ts : List TE} : PE X e t → PEs X es ts → PEs X (e :: es) (t :: ts)
def tNest : List TE → TA
  | [] => tNil
  | t :: ts => tCons t (tNest ts)
theorem PEs.pa {X : Cx} : ∀ {es : List Expr} {ts : List TE}, PEs X es ts → es.all nst = true → PA X es (tNest ts)
  | _, _, .nil, _ => pa_nil
  | _, _, .cons h r, hs => by
    simp only [List.all_cons, Bool.and_eq_true] at hs
    exact pa_cons h (r.pa hs.2) (star_of hs.1)
theorem PEs.one {X : Cx} {a : Expr} {ts : List TE} (h : PEs X [a] ts) : ∃ ta, ts = [ta] ∧ PE X a ta := by
  cases h with | cons h r => cases r; exact ⟨_, rfl, h⟩
theorem PEs.two {X : Cx} {a b : Expr} {ts : List TE} (h : PEs X [a, b] ts) : ∃ ta tb, ts = [ta, tb] ∧ PE X a ta ∧ PE X b tb := by
  cases h with | cons h r => obtain ⟨tb, rfl, hb⟩ := r.one; exact ⟨_, tb, rfl, h, hb⟩
theorem noSet_mark {op : CmpOp} {b : Expr} (h : noSet b = true) : behindInMarks op b = false := by
  cases b <;> first
    | rfl
    | cases h
theorem noSlice_plain {b : Expr} (h : noSlice b = true) : PlainIx b := by
  intro o i
  cases b <;> first
    | rfl
    | cases h

def r2L (r : R2) : List V → Hp → VK → Prop
  | [x, y], H, Q => r x y H Q
  | _, _, _ => False
def r1L (r : V → Hp → VK → Prop) : List V → Hp → VK → Prop
  | [x], H, Q => r x H Q
  | _, _, _ => False
theorem r2L_op (f : D → D → Option D) : ∀ nw, VOpK nw (f2 f) (r2L (r2D f nw)) := by
  have key : ∀ ds vs S H d, RDs H ds vs S → f2 f ds = some d → ∃ a b x y T U, ds = [a, b] ∧ vs = [x, y] ∧ RD H a x T ∧ RD H b y U ∧ S = T ++ U ∧ f a b = some d := fun ds vs S H d h e => by
    match ds, h, e with
    | [a, b], h, e =>
      obtain ⟨x, y, T, U, e1, r1, r2, e2⟩ := h.two
      exact ⟨a, b, x, y, T, U, rfl, e1, r1, r2, e2, e⟩
  intro nw
  cases nw with
  | true =>
    intro ds vs S H Q d h e q
    obtain ⟨a, b, x, y, T, U, rfl, rfl, r1, r2, rfl, e⟩ := key ds vs S H d h e
    exact ⟨a, b, T, U, d, r1, r2, e, q⟩
  | false =>
    intro ds vs S H Q d h e q
    obtain ⟨a, b, x, y, T, U, rfl, rfl, r1, r2, rfl, e⟩ := key ds vs S H d h e
    exact ⟨a, b, T, U, d, r1, r2, e, q⟩
theorem r1L_op (f : D → Option D) : ∀ nw, VOpK nw (f1 f) (r1L (r1D f nw)) := by
  have key : ∀ ds vs S H d, RDs H ds vs S → f1 f ds = some d → ∃ a x, ds = [a] ∧ vs = [x] ∧ RD H a x S ∧ f a = some d := fun ds vs S H d h e => by
    match ds, h, e with
    | [a], h, e =>
      obtain ⟨x, e1, r1⟩ := h.one
      exact ⟨a, x, rfl, e1, r1, e⟩
  intro nw
  cases nw with
  | true =>
    intro ds vs S H Q d h e q
    obtain ⟨a, x, rfl, rfl, r1, e⟩ := key ds vs S H d h e
    exact ⟨a, S, d, r1, e, q⟩
  | false =>
    intro ds vs S H Q d h e q
    obtain ⟨a, x, rfl, rfl, r1, e⟩ := key ds vs S H d h e
    exact ⟨a, S, d, r1, e, q⟩

def OpPE (X : Cx) (e : Expr) (ts : List TE) (f : List D → Option D) (nw : Bool) : Prop :=
  ∃ r, VOpK nw f r ∧ PE X e fun σ H Q => tNest ts σ H fun vs H' => r vs H' Q
section
variable {ck : Ck} {X : Cx} {C : Cc} {G : GS}
theorem bin_pe {o : Operator} {f : D → D → Option D} {nw : Bool} {a b : Expr} {pos : Pos} (ho : OpR X (binaryOp o) (r2D f nw)) {ts : List TE} (h : PEs X [a, b] ts) : OpPE X (.BinOp a o b pos) ts (f2 f) nw := by
  obtain ⟨ta, tb, rfl, ha, hb⟩ := h.two
  exact ⟨_, r2L_op f nw, pe_op ho ha hb⟩
theorem cmp_pe {o : CmpOp} {f : D → D → Option D} {nw : Bool} {a b : Expr} {pos : Pos} (ho : OpR X (compareOp o) (r2D f nw)) (hm : behindInMarks o b = false) {ts : List TE} (h : PEs X [a, b] ts) : OpPE X (.Compare a [o] [b] pos) ts (f2 f) nw := by
  obtain ⟨ta, tb, rfl, ha, hb⟩ := h.two
  exact ⟨_, r2L_op f nw, pe_cmpR ho ha hb hm⟩
theorem ix_pe {f : D → D → Option D} {nw : Bool} {a b : Expr} {pos : Pos} (ho : IxR X (r2D f nw)) (hm : PlainIx b) {ts : List TE} (h : PEs X [a, b] ts) : OpPE X (.Subscript a b pos) ts (f2 f) nw := by
  obtain ⟨ta, tb, rfl, ha, hb⟩ := h.two
  exact ⟨_, r2L_op f nw, pe_ix ho ha hb hm⟩
theorem s_neg : UnR X (unaryOp .USub) (r1D negF true) := by
  intro pins s σ H x v Q J rx h
  obtain ⟨d, S, z, r1, e, q⟩ := h
  unfold negF at e
  split at e
  · cases e
    obtain ⟨rfl, _⟩ := r1.int_inv
    exact un_neg pins s σ H _ v Q J rx ⟨_, rfl, q.int⟩
  · cases e
theorem neg_pe {a : Expr} {pos : Pos} {ts : List TE} (h : PEs X [a] ts) : OpPE X (.UnaryOp .USub a pos) ts (f1 negF) true := by
  obtain ⟨ta, rfl, ha⟩ := h.one
  exact ⟨_, r1L_op negF true, pe_un s_neg ha⟩
theorem blt_pe (hX : XOk ck X C G) {f : List D → Option D} {nw : Bool} {n y : Str} {id : String} {p pos : Pos} {es : List Expr} (hc : CallR X (.builtin id) (rnD f nw)) (hb : blt ck n y = true) (hv : bootBuiltins y = some (.builtin id)) (hn : es.all nst = true) (he : es ≠ [])
    (h1 : y ≠ ("__name__" : Str)) (h2 : (y == ("__debug__" : Str)) = false) {ts : List TE} (h : PEs X es ts) : OpPE X (.Call (.Name n p) es [] pos) ts f nw := by
  obtain ⟨rfl, hg, hm⟩ := blt_of hX hb
  cases es with
  | nil => exact absurd rfl he
  | cons e r =>
    simp only [List.all_cons, Bool.and_eq_true] at hn
    exact ⟨_, rnD_op f nw, pe_callB hc hg hm hv (h.pa (by simp [hn.1, hn.2])) h1 h2 (star_of hn.1) (plain_of hn.2)⟩
theorem bty_pe (hX : XOk ck X C G) {f : List D → Option D} {nw : Bool} {n y : Str} {T : String} {p pos : Pos} {es : List Expr} (hc : CallR X (.type T) (rnD f nw)) (hb : blt ck n y = true) (hv : bootBuiltins y = some (.type T)) (hn : es.all nst = true) (he : es ≠ [])
    (h1 : y ≠ ("__name__" : Str)) (h2 : (y == ("__debug__" : Str)) = false) {ts : List TE} (h : PEs X es ts) : OpPE X (.Call (.Name n p) es [] pos) ts f nw := by
  obtain ⟨rfl, hg, hm⟩ := blt_of hX hb
  cases es with
  | nil => exact absurd rfl he
  | cons e r =>
    simp only [List.all_cons, Bool.and_eq_true] at hn
    exact ⟨_, rnD_op f nw, pe_callTy hc hg hm hv (h.pa (by simp [hn.1, hn.2])) h1 h2 (star_of hn.1) (plain_of hn.2)⟩
def rIsiL (T : String) : List V → Hp → VK → Prop
  | [x], H, Q => rIsi T [x, .ty T] H Q
  | _, _, _ => False
theorem boot_tys : ∀ T ∈ tyNames, bootBuiltins (Str.ofString T) = some (.type T) ∧ Str.ofString T ≠ ("__name__" : Str) ∧ (Str.ofString T == ("__debug__" : Str)) = false := by decide +kernel
theorem isi_pe (hX : XOk ck X C G) {n : Str} {T : String} {p pos : Pos} {a t : Expr} (hb : blt ck n "isinstance" = true) (hn : nst a = true) (ht : isTyName ck T t = true) (hT : T ∈ tyNames) {ts : List TE} (h : PEs X [a] ts) :
    OpPE X (.Call (.Name n p) [a, t] [] pos) ts (f1 (isiF T)) true := by
  obtain ⟨rfl, hg, hm⟩ := blt_of hX hb
  obtain ⟨p2, rfl, g2, m2⟩ := ty_of hX ht
  obtain ⟨ta, rfl, ha⟩ := h.one
  obtain ⟨b1, b2, b3⟩ := boot_tys T hT
  have pt : PE X (.Name (Str.ofString T) p2) (tC (.ty T)) := pe_bltn g2 m2 b1 rfl b2 b3
  refine ⟨rIsiL T, fun ds vs S H Q d h e q => ?_, pe_callB (r := rIsi T) s_isi hg hm (by decide +kernel) (pa_cons ha (pa_cons pt pa_nil (star_of rfl)) (star_of hn)) (by decide) (by decide) (star_of hn) (plain_of (es := [.Name (Str.ofString T) p2]) rfl)⟩
  match ds, h, e with
  | [d'], h, e =>
    obtain ⟨x, rfl, r1⟩ := h.one
    exact ⟨d', S, d, x, rfl, r1, e, q⟩
theorem sameOp_eq {a b : Operator} (h : sameOp a b = true) : a = b := by
  unfold sameOp at h
  split at h <;> first
    | rfl
    | cases h
theorem sameCmp_eq {a b : CmpOp} (h : sameCmp a b = true) : a = b := by
  unfold sameCmp at h
  split at h <;> first
    | rfl
    | cases h
theorem binA_pe {b : Operator} {f : D → D → Option D} {nw : Bool} {e : Expr} {es : List Expr} (ho : OpR X (binaryOp b) (r2D f nw)) (h : binA b e = some es) {ts : List TE} (hs : PEs X es ts) : OpPE X e ts (f2 f) nw := by
  unfold binA at h
  split at h
  · split at h
    · rename_i hb
      cases sameOp_eq hb
      cases h
      exact bin_pe ho hs
    · cases h
  · cases h
theorem cmpA_pe {b : CmpOp} {f : D → D → Option D} {nw : Bool} {e : Expr} {es : List Expr} (ho : OpR X (compareOp b) (r2D f nw)) (h : cmpA b e = some es) {ts : List TE} (hs : PEs X es ts) : OpPE X e ts (f2 f) nw := by
  unfold cmpA at h
  split at h
  · split at h
    · rename_i hb
      simp only [Bool.and_eq_true] at hb
      cases sameCmp_eq hb.1
      cases h
      exact cmp_pe ho (noSet_mark hb.2) hs
    · cases h
  · cases h
theorem idxA_pe {f : D → D → Option D} {nw : Bool} {e : Expr} {es : List Expr} (ho : IxR X (r2D f nw)) (h : idxA e = some es) {ts : List TE} (hs : PEs X es ts) : OpPE X e ts (f2 f) nw := by
  unfold idxA at h
  split at h
  · split at h
    · rename_i hb
      cases h
      exact ix_pe ho (noSlice_plain hb) hs
    · cases h
  · cases h
theorem negA_pe {e : Expr} {es : List Expr} (h : negA e = some es) {ts : List TE} (hs : PEs X es ts) : OpPE X e ts (f1 negF) true := by
  unfold negA at h
  split at h
  · cases h
    exact neg_pe hs
  · cases h
theorem callA_pe (hX : XOk ck X C G) {f : List D → Option D} {nw : Bool} {y : Str} {id : String} {k : Nat} {e : Expr} {es : List Expr} (hc : CallR X (.builtin id) (rnD f nw)) (hv : bootBuiltins y = some (.builtin id)) (h1 : y ≠ ("__name__" : Str)) (h2 : (y == ("__debug__" : Str)) = false)
    (h : callA ck y (k + 1) e = some es) {ts : List TE} (hs : PEs X es ts) : OpPE X e ts f nw := by
  unfold callA at h
  split at h
  · split at h
    · rename_i hb
      simp only [Bool.and_eq_true, decide_eq_true_eq] at hb
      cases h
      exact blt_pe hX hc hb.1.1 hv hb.1.2 (fun z => by rw [z] at hb; simp at hb) h1 h2 hs
    · cases h
  · cases h
theorem callT_pe (hX : XOk ck X C G) {f : List D → Option D} {nw : Bool} {y : Str} {T : String} {k : Nat} {e : Expr} {es : List Expr} (hc : CallR X (.type T) (rnD f nw)) (hv : bootBuiltins y = some (.type T)) (h1 : y ≠ ("__name__" : Str)) (h2 : (y == ("__debug__" : Str)) = false)
    (h : callA ck y (k + 1) e = some es) {ts : List TE} (hs : PEs X es ts) : OpPE X e ts f nw := by
  unfold callA at h
  split at h
  · split at h
    · rename_i hb
      simp only [Bool.and_eq_true, decide_eq_true_eq] at hb
      cases h
      exact bty_pe hX hc hb.1.1 hv hb.1.2 (fun z => by rw [z] at hb; simp at hb) h1 h2 hs
    · cases h
  · cases h
theorem isiA_pe (hX : XOk ck X C G) {T : String} {e : Expr} {es : List Expr} (h : isiA ck T e = some es) {ts : List TE} (hs : PEs X es ts) : OpPE X e ts (f1 (isiF T)) true := by
  unfold isiA at h
  split at h
  · split at h
    · rename_i hb
      simp only [Bool.and_eq_true] at hb
      cases h
      exact isi_pe hX hb.1.1.1 hb.1.1.2 hb.1.2 (by simpa using hb.2) hs
    · cases h
  · cases h
theorem s_plus : OpR X (binaryOp .Add) (r2D plusF false) := by
  intro pins s σ H x y v u Q J rx ry h
  obtain ⟨d, e, S, T, z, r1, r2, e1, q⟩ := h
  unfold plusF at e1
  cases q1 : addF d e with
  | some z' =>
    rw [q1] at e1
    cases e1
    refine s_add pins s σ H x y v u Q J rx ry ⟨d, e, S, T, z, r1, r2, q1, fun v H' S' g rv p => q v H' S' g rv ⟨fun n => p.nd List.nodup_nil, fun a ha => (p.of a ha).elim (fun z => absurd z List.not_mem_nil) .inr⟩⟩
  | none =>
    rw [q1] at e1
    exact s_cat pins s σ H x y v u Q J rx ry ⟨d, e, S, T, z, r1, r2, e1, q⟩
theorem sl_op {g : D → Int → Option D} {lo hi : Int → Option Int} (hg : ∀ d i, g d i = slF d (lo i) (hi i)) : VOpK false (f2 (withI g)) fun vs H Q => match vs with
    | [x, y] => ∃ i : Int, y = .int i ∧ rSlD x (lo i) (hi i) H Q
    | _ => False := fun ds vs S H Q d h e q => by
  match ds, h, e with
  | [a, b], h, e =>
    obtain ⟨x, y, T, U, rfl, r1, r2, rfl⟩ := h.two
    have e : withI g a b = some d := e
    unfold withI at e
    split at e
    · obtain ⟨rfl, rfl⟩ := r2.int_inv
      rw [hg] at e
      rw [List.append_nil] at q
      exact ⟨_, rfl, a, T, d, r1, e, q⟩
    · cases e
theorem slfA_pe {e : Expr} {es : List Expr} (h : slfA e = some es) {ts : List TE} (hs : PEs X es ts) : OpPE X e ts (f2 slfF) false := by
  unfold slfA at h
  split at h
  · cases h
    obtain ⟨ta, tb, rfl, ha, hb⟩ := hs.two
    refine ⟨_, sl_op (g := fun d i => slF d (some i) none) (lo := some) (hi := fun _ => none) (fun _ _ => rfl), PE.weak (pe_slice s_sl ha (po_some hb) po_none) fun σ H Q z => ?_⟩
    exact z
  · cases h
theorem sltA_pe {e : Expr} {es : List Expr} (h : sltA e = some es) {ts : List TE} (hs : PEs X es ts) : OpPE X e ts (f2 sltF) false := by
  unfold sltA at h
  split at h
  · cases h
    obtain ⟨ta, tb, rfl, ha, hb⟩ := hs.two
    refine ⟨_, sl_op (g := fun d i => slF d none (some i)) (lo := fun _ => none) (hi := some) (fun _ _ => rfl), PE.weak (pe_slice s_sl ha po_none (po_some hb)) fun σ H Q z => ?_⟩
    exact z
  · cases h
theorem joinA_pe {sep : Str} {e : Expr} {es : List Expr} (h : joinA sep e = some es) {ts : List TE} (hs : PEs X es ts) : OpPE X e ts (f1 (joinF sep)) true := by
  unfold joinA at h
  split at h
  · split at h
    · rename_i hb
      simp only [Bool.and_eq_true, decide_eq_true_eq] at hb
      obtain ⟨⟨⟨h1, h2⟩, h3⟩, h4⟩ := hb
      subst h2
      cases h
      obtain ⟨ta, rfl, ha⟩ := hs.one
      rw [h1]
      refine ⟨fun vs H Q => match vs with
        | [v] => ∃ a p, ∃ ys : List Str, V.str sep = .str a ∧ [v] = [V.ref p] ∧ (SqL X.K H p (ys.map V.str) ∨ SqT X.K H p (ys.map V.str)) ∧ (ys.map (·.length)).sum + ys.length * a.length ≤ 16777216 ∧ Q (.str (Txt.join a ys)) H
        | _ => False,
        fun ds vs S H Q d h e q => ?_, PE.weak (pe_join pe_str ha (star_of h4) rfl h3) fun σ H Q z => ⟨⟨_, rfl⟩, z⟩⟩
      match ds, h, e with
      | [d0], h, e =>
        obtain ⟨v, rfl, r1⟩ := h.one
        exact join_of r1 e q
    · cases h
  · cases h
theorem op_sound (hX : XOk ck X C G) {o : Op} {e : Expr} {es : List Expr} (h : opArgs ck o e = some es) {ts : List TE} (hs : PEs X es ts) : OpPE X e ts (opF o) (opN o) := by
  have hr := hX.room
  have hc := hX.calm
  cases o with
  | add => exact binA_pe s_plus h hs
  | slf => exact slfA_pe h hs
  | slt => exact sltA_pe h hs
  | cat => exact binA_pe s_cat h hs
  | sub => exact binA_pe s_sub h hs
  | mul => exact binA_pe s_mul h hs
  | fdiv => exact binA_pe s_fdiv h hs
  | mod => exact binA_pe s_mod h hs
  | pow => exact binA_pe s_pow h hs
  | neg => exact negA_pe h hs
  | eq => exact cmpA_pe (s_eq hr) h hs
  | ne => exact cmpA_pe (s_ne hr) h hs
  | lt => exact cmpA_pe (s_lt hr) h hs
  | le => exact cmpA_pe s_le h hs
  | gt => exact cmpA_pe s_gt h hs
  | ge => exact cmpA_pe s_ge h hs
  | inn => exact cmpA_pe (s_in hr) h hs
  | nin => exact cmpA_pe (s_notin hr) h hs
  | is => exact cmpA_pe s_is h hs
  | isn => exact cmpA_pe s_isnot h hs
  | ix => exact idxA_pe (s_ix hr) h hs
  | isi T => exact isiA_pe hX h hs
  | len => exact callA_pe hX s_len (by decide +kernel) (by decide) (by decide) h hs
  | tup => exact callT_pe hX s_tup (by decide +kernel) (by decide) (by decide) h hs
  | lst => exact callT_pe hX s_lst (by decide +kernel) (by decide) (by decide) h hs
  | int => exact callT_pe hX s_int (by decide +kernel) (by decide) (by decide) h hs
  | str => exact callT_pe hX s_str (by decide +kernel) (by decide) (by decide) h hs
  | abs => exact callA_pe hX s_abs (by decide +kernel) (by decide) (by decide) h hs
  | min2 => exact callA_pe hX (s_min2 hc) (by decide +kernel) (by decide) (by decide) h hs
  | max2 => exact callA_pe hX (s_max2 hc) (by decide +kernel) (by decide) (by decide) h hs
  | join sep => exact joinA_pe h hs
  | dict => exact callT_pe hX (s_dict hc) (by decide +kernel) (by decide) (by decide) h hs
  | sorted => exact callA_pe hX (s_sorted hr hc) (by decide +kernel) (by decide) (by decide) h hs
  | all => exact callA_pe hX (s_all hc) (by decide +kernel) (by decide) (by decide) h hs
  | any => exact callA_pe hX (s_any hc) (by decide +kernel) (by decide) (by decide) h hs
  | sum => exact callA_pe hX (s_sum hc) (by decide +kernel) (by decide) (by decide) h hs
  | min => exact callA_pe hX (s_min hc) (by decide +kernel) (by decide) (by decide) h hs
  | max => exact callA_pe hX (s_max hc) (by decide +kernel) (by decide) (by decide) h hs
end
end Mp

namespace Mp
open PySem PySem.Spec PyProof.Rows L2

theorem getE_kill {i k : Nat} : ∀ {inf : Inf} {ρ : Env}, getE (killL inf i ρ) k = if i ∈ rt inf k then none else getE ρ k := by
  intro inf
  induction inf generalizing k with
  | nil => intro ρ; unfold killL rt; simp
  | cons r inf ih =>
    intro ρ
    cases ρ with
    | nil => unfold killL getE; simp
    | cons o ρ =>
      cases k with
      | zero =>
        show getE ((if i ∈ r then none else o) :: killL inf i ρ) 0 = _
        unfold getE rt
        simp only [List.getElem?_cons_zero, List.getD_cons_zero]
        split <;> rfl
      | succ k =>
        show getE (killL inf i ρ) k = _
        rw [ih]
        rfl
theorem len_kill {i : Nat} : ∀ {inf : Inf} {ρ : Env}, (killL inf i ρ).length = ρ.length
  | [], _ => rfl
  | _ :: _, [] => rfl
  | _ :: inf, _ :: ρ => congrArg (· + 1) (len_kill (inf := inf) (ρ := ρ))
theorem getE_set {ρ : Env} {i j : Nat} {d : D} (h : i < ρ.length) : getE (ρ.set i (some d)) j = if j = i then some d else getE ρ j := by
  unfold getE
  by_cases e : j = i
  · subst e
    rw [List.getElem?_set_self h, if_pos rfl]; rfl
  · rw [List.getElem?_set_ne (Ne.symm e), if_neg e]
theorem getE_setE {inf : Inf} {ρ : Env} {i j : Nat} {d : D} (h : i < ρ.length) : getE (setE inf i d ρ) j = if j = i then some d else if i ∈ rt inf j then none else getE ρ j := by
  unfold setE
  rw [getE_set (by rw [len_kill]; exact h), getE_kill]
theorem len_setE {inf : Inf} {ρ : Env} {i : Nat} {d : D} : (setE inf i d ρ).length = ρ.length := by
  unfold setE
  rw [List.length_set, len_kill]
def killF (inf : Inf) (i : Nat) (F : FP) : FP := fun k => if i ∈ rt inf k then [] else F k
theorem Cn.kill {inf B lk ρ σ H F} (c : Cn inf B lk ρ σ H F) (i : Nat) : Cn inf B lk (killL inf i ρ) σ H (killF inf i F) where
  rep := fun k d h => by
    rw [getE_kill] at h
    unfold killF
    split at h
    · cases h
    · rename_i hn
      rw [if_neg hn]
      exact c.rep k d h
  nil := fun k h => by
    rw [getE_kill] at h
    unfold killF
    split
    · rfl
    · rename_i hn
      rw [if_neg hn] at h
      exact c.nil k h
  sep := fun k j hj hn a ha hx => by
    unfold killF at ha hx
    split at ha
    · cases ha
    · split at hx
      · cases hx
      · exact c.sep k j hj hn a ha hx
  nd := fun k hk => by
    unfold killF
    split
    · exact List.nodup_nil
    · exact c.nd k hk
  ex := fun k hk hl a ha => by
    unfold killF at ha
    split at ha
    · cases ha
    · exact c.ex k hk hl a ha
  mine := fun k hk a ha => by
    unfold killF at ha
    split at ha
    · cases ha
    · exact c.mine k hk a ha
  nb := c.nb
  len := by rw [len_kill]; exact c.len
theorem Fr.kill {inf H F} {i : Nat} (hi : own inf i) : Fr inf [i] F H (killF inf i F) H where
  keep := fun _ _ h _ => h
  there := fun _ h => h
  same := fun k _ => by
    unfold killF
    split
    · exact .inr rfl
    · exact .inl rfl
  from' := fun k hk _ a ha => by
    have e : k = i := by simpa using hk
    subst e
    unfold killF at ha
    rw [if_pos (by rw [hi]; exact List.mem_singleton_self _)] at ha
    cases ha
  tup := fun _ _ h => h

theorem own_sub {inf : Inf} {T U : List Nat} (h : ∀ j ∈ T ++ U, own inf j) : (∀ j ∈ T, own inf j) ∧ ∀ j ∈ U, own inf j :=
  ⟨fun j hj => h j (List.mem_append_left _ hj), fun j hj => h j (List.mem_append_right _ hj)⟩
theorem KOk.jl {inf B F H S} : ∀ {k l : Kd}, KOk inf B k F H S → KOk inf B (jn k l) F H S
  | .fr, .fr, h => h
  | .fr, .bo _, h => h.toB
  | .bo _, .fr, h => h
  | .bo _, .bo _, h => fun a ha j hj hn => h a ha j hj fun z => hn (List.mem_append_left _ z)
theorem KOk.jr {inf B F H S} : ∀ {k l : Kd}, KOk inf B l F H S → KOk inf B (jn k l) F H S
  | .fr, .fr, h => h
  | .fr, .bo _, h => h
  | .bo _, .fr, h => h.toB
  | .bo _, .bo _, h => fun a ha j hj hn => h a ha j hj fun z => hn (List.mem_append_right _ z)
theorem NewK.jl {inf T F H S} : ∀ {k l : Kd}, NewK inf T F H S k → NewK inf T F H S (jn k l)
  | .fr, .fr, h => h
  | .fr, .bo _, _ => trivial
  | .bo _, .fr, _ => trivial
  | .bo _, .bo _, _ => trivial
theorem NewK.jr {inf T F H S} : ∀ {k l : Kd}, NewK inf T F H S l → NewK inf T F H S (jn k l)
  | .fr, .fr, h => h
  | .fr, .bo _, _ => trivial
  | .bo _, .fr, _ => trivial
  | .bo _, .bo _, _ => trivial
theorem NewK.mono {inf T U F H S} : ∀ {k : Kd}, NewK inf T F H S k → (∀ j ∈ T, j ∈ U) → NewK inf U F H S k
  | .fr, h, m => New.mono h m
  | .bo _, _, _ => trivial
theorem NewK.over {inf T U F H F1 H1 S} (f : Fr inf T F H F1 H1) : ∀ {k : Kd}, NewK inf U F1 H1 S k → NewK inf (T ++ U) F H S k
  | .fr, h => New.over f h
  | .bo _, _ => trivial
theorem Post.after {C : Cc} {k l : Kd} {T U : List Nat} {ρ' σ F H F1 H1 d Q} (h : Post C (jn k l) (T ++ U) ρ' σ F H d Q) (f : Fr C.inf T F H F1 H1) : Post C l U ρ' σ F1 H1 d Q :=
  fun v H' F' S cn fr rd ko n => h v H' F' S cn (f.trans fr) rd ko.jr (n.over f).jr
theorem Post.after' {C : Cc} {l : Kd} {T U : List Nat} {ρ' σ F H F1 H1 d Q} (h : Post C l (T ++ U) ρ' σ F H d Q) (f : Fr C.inf T F H F1 H1) : Post C l U ρ' σ F1 H1 d Q :=
  fun v H' F' S cn fr rd ko n => h v H' F' S cn (f.trans fr) rd ko (n.over f)
theorem Post.grow {C : Cc} {k l : Kd} {T U : List Nat} {ρ' σ F H d Q} (h : Post C (jn k l) (T ++ U) ρ' σ F H d Q) : Post C k T ρ' σ F H d Q :=
  fun v H' F' S cn fr rd ko n => h v H' F' S cn (fr.mono fun j hj => List.mem_append_left _ hj) rd ko.jl ((n.mono fun j hj => List.mem_append_left _ hj).jl)
theorem Post.widen {C : Cc} {k : Kd} {T U : List Nat} {ρ' σ F H d Q} (h : Post C k U ρ' σ F H d Q) (m : ∀ j ∈ T, j ∈ U) : Post C k T ρ' σ F H d Q :=
  fun v H' F' S cn fr rd ko n => h v H' F' S cn (fr.mono m) rd ko (n.mono m)
theorem Post.right {C : Cc} {k l : Kd} {T : List Nat} {ρ' σ F H d Q} (h : Post C (jn k l) T ρ' σ F H d Q) : Post C l T ρ' σ F H d Q :=
  fun v H' F' S cn fr rd ko n => h v H' F' S cn fr rd ko.jr n.jr
theorem Post.left {C : Cc} {k l : Kd} {T : List Nat} {ρ' σ F H d Q} (h : Post C (jn k l) T ρ' σ F H d Q) : Post C k T ρ' σ F H d Q :=
  fun v H' F' S cn fr rd ko n => h v H' F' S cn fr rd ko.jl n.jl
theorem ExP.widen {C : Cc} {T U : List Nat} {ρ σ F H c fs} (h : ExP C U ρ σ F H c fs) (m : ∀ j ∈ T, j ∈ U) : ExP C T ρ σ F H c fs :=
  fun cls d H' F' cn f x => h cls d H' F' cn (f.mono m) x

section
variable {ck : Ck} {X : Cx} {C : Cc} {G : GS}
theorem tE_i {x : I} {v : V} {σ : L2.St} {H : Hp} {Q : VK} {T : List Nat} {k : Kd} (h : tE C k T (ret (.i x)) σ H Q) (r : RI H x v) : Q v H := by
  obtain ⟨ρ, F, cn, h⟩ := h
  exact h v H F [] cn (Fr.refl.mono fun _ z => z) (.i r) KOk.nil NewK.nil
theorem c_sound {x : I} {e : Expr} (h : constOf x e = true) : PE X e (tE C .fr [] (ret (.i x))) := by
  unfold constOf at h
  split at h
  · exact PE.weak pe_non fun σ H Q q => tE_i q .non
  · cases of_decide_eq_true h
    exact PE.weak pe_bl fun σ H Q q => tE_i q (.bl _)
  · cases of_decide_eq_true h
    exact PE.weak pe_int fun σ H Q q => tE_i q (.int _)
  · simp only [Bool.and_eq_true, decide_eq_true_eq] at h
    obtain ⟨h1, h2⟩ := h
    subst h1
    exact PE.weak pe_str fun σ H Q q => tE_i q (.str _ h2)
  · cases h
theorem v_sound (hX : XOk ck X C G) {i : Nat} {x : Str} {pos : Pos} (h1 : ck.N[i]? = some x) (h2 : vis ck x = true) (h3 : okN x = true) : PE X (.Name x pos) (tE C (kd ck.Z (.v i)) [] (ev ck.Z G (.v i))) := by
  obtain ⟨n1, n2, _⟩ := okN_of h3
  refine PE.weak (pe_var (i := i) (by rw [hX.N]; exact h1) (vis_of hX h2) n1 n2) fun σ H Q q => ?_
  obtain ⟨ρ, F, cn, h⟩ := q
  cases e : getE ρ i with
  | none => simp only [ev, e] at h
  | some d =>
    simp only [ev, e] at h
    obtain ⟨v, hv, rd⟩ := cn.rep i d e
    refine ⟨v, hv, h v H F (F i) cn Fr.refl rd ?_ ?_⟩
    · rw [kd]
      intro a ha j hj hn
      rw [hX.inf] at hj
      refine cn.sep i j (by rw [hX.inf]; exact hj) (by rw [hX.inf]; exact hn) a ha
    · rw [kd]; trivial
theorem mv_sound (hX : XOk ck X C G) {i : Nat} {x : Str} {pos : Pos} (h1 : ck.N[i]? = some x) (h2 : vis ck x = true) (h3 : okN x = true) (h4 : own ck.Z.inf i) (h5 : i ∉ ck.lk) : PE X (.Name x pos) (tE C .fr [i] (ev ck.Z G (.mv i))) := by
  obtain ⟨n1, n2, _⟩ := okN_of h3
  refine PE.weak (pe_var (i := i) (by rw [hX.N]; exact h1) (vis_of hX h2) n1 n2) fun σ H Q q => ?_
  obtain ⟨ρ, F, cn, h⟩ := q
  rw [← hX.inf] at h4
  rw [← hX.lk] at h5
  cases e : getE ρ i with
  | none => simp only [ev, e] at h
  | some d =>
    simp only [ev, e, ← hX.inf] at h
    obtain ⟨v, hv, rd⟩ := cn.rep i d e
    refine ⟨v, hv, h v H _ (F i) (cn.kill i) (Fr.kill h4) rd ⟨cn.nd i h4, fun a ha k hk => ?_, fun a ha => ⟨cn.ex i h4 h5 a ha, cn.mine i h4 a ha⟩⟩ fun a ha => .inr ⟨i, List.mem_singleton_self _, h4, ha⟩⟩
    unfold killF at hk
    split at hk
    · cases hk
    · rename_i hn
      exact cn.sep k i h4 hn a hk ha
theorem g_sound (hX : XOk ck X C G) {n : Str} {x : I} {pos : Pos} (h2 : glo ck n = true) (h3 : okN n = true) (h : ∃ y ∈ ck.glb, y.1 = n ∧ y.2 = x) : PE X (.Name n pos) (tE C .fr [] (ret (.i x))) := by
  obtain ⟨n1, _, _⟩ := okN_of h3
  obtain ⟨y, hy, rfl, rfl⟩ := h
  obtain ⟨v, u, hm, r, ri⟩ := hX.glb y hy
  exact PE.weak (pe_glob (glo_of hX h2) hm r n1) fun σ H Q q => tE_i q (ri H)
theorem op_read {o : Op} {as : M (List D)} {k : Kd} {T : List Nat} {r : List V → Hp → VK → Prop} (hr : VOpK (opN o) (opF o) r) {σ : L2.St} {H : Hp} {Q : VK} (h : tE C (opK (opN o) k) T (bnd as fun ds => lift (opF o ds)) σ H Q) : tA C k T as σ H fun vs H' => r vs H' Q := by
  obtain ⟨ρ, F, cn, h⟩ := h
  refine ⟨ρ, F, cn, ?_⟩
  cases e : as ρ with
  | no => rw [bnd_no e] at h; exact h
  | ex c fs ρ' => rw [bnd_ex e] at h; exact h
  | ok ds ρ' =>
    rw [bnd_ok e] at h
    unfold lift at h
    cases e2 : opF o ds with
    | none => rw [e2] at h; exact h.elim
    | some d =>
      rw [e2] at h
      intro vs H1 F1 S cn1 f1 rd ko n
      exact Post.op hr h cn1 f1 rd ko n e2
theorem truth_read {α : Type} {m : M D} {k : Kd} {T : List Nat} {σ : L2.St} {H : Hp} {f : Bool → D → M α} {G : R α → FP → Hp → Prop} {Z : V → Hp → Bool → Prop}
    (h : ∃ ρ F, Cn C.inf C.B C.lk ρ σ H F ∧ G (bnd m (fun d => bnd (lift (truth d)) fun b => f b d) ρ) F H)
    (g1 : ∀ F H c fs ρ', G (.ex c fs ρ') F H → ExP C T ρ' σ F H c fs) (g2 : ∀ F H, ¬ G .no F H)
    (hz : ∀ F0 H0 v H1 F1 S ρ1 d b, G (f b d ρ1) F0 H0 → Cn C.inf C.B C.lk ρ1 σ H1 F1 → Fr C.inf T F0 H0 F1 H1 → RD H1 d v S → KOk C.inf C.B k F1 H1 S → NewK C.inf T F0 H0 S k → Z v H1 b) :
    tE C k T m σ H fun x H1 => ∃ b, TruD X.K x H1 b ∧ Z x H1 b := by
  obtain ⟨ρ, F, cn, h⟩ := h
  refine ⟨ρ, F, cn, ?_⟩
  cases e : m ρ with
  | no => rw [bnd_no e] at h; exact (g2 _ _ h).elim
  | ex c fs ρ' => rw [bnd_ex e] at h; exact g1 _ _ _ _ _ h
  | ok d ρ1 =>
    rw [bnd_ok e] at h
    intro v H1 F1 S cn1 f1 rd ko n
    cases e2 : truth d with
    | none =>
      rw [e2] at h
      exact (g2 _ _ h).elim
    | some b =>
      rw [e2] at h
      exact ⟨b, rd.tru e2, hz F H v H1 F1 S ρ1 d b h cn1 f1 rd ko n⟩

theorem and_d {a b : Expr} {rest : List Expr} {pos : Pos} {ta tb : TE} (ha : PE X a ta) (hb : PE X (.BoolOp .And (b :: rest) pos) tb) :
    PE X (.BoolOp .And (a :: b :: rest) pos) fun σ H Q => ta σ H fun x H1 => ∃ k, TruD X.K x H1 k ∧ if k = true then tb σ H1 Q else Q x H1 := by
  refine ⟨fun pins s σ H Q J h => BoolOp_and (thn (ha.run pins s σ H _ J h) fun v s1 ⟨x, H1, J1, r1, k, e, q1⟩ => ?_)⟩
  refine thn (trd_ok pins s1 σ H1 x v (fun c H2 => c = k ∧ H2 = H1) J1 r1 ⟨k, e, rfl, rfl⟩) fun c s2 ⟨H2, J2, e1, e2⟩ => ?_
  subst e1; subst e2
  cases c with
  | true => exact hb.run pins s2 σ _ Q J2 q1
  | false => exact ⟨x, _, J2, r1, q1⟩
theorem or_d {a b : Expr} {rest : List Expr} {pos : Pos} {ta tb : TE} (ha : PE X a ta) (hb : PE X (.BoolOp .Or (b :: rest) pos) tb) :
    PE X (.BoolOp .Or (a :: b :: rest) pos) fun σ H Q => ta σ H fun x H1 => ∃ k, TruD X.K x H1 k ∧ if k = true then Q x H1 else tb σ H1 Q := by
  refine ⟨fun pins s σ H Q J h => BoolOp_or (thn (ha.run pins s σ H _ J h) fun v s1 ⟨x, H1, J1, r1, k, e, q1⟩ => ?_)⟩
  refine thn (trd_ok pins s1 σ H1 x v (fun c H2 => c = k ∧ H2 = H1) J1 r1 ⟨k, e, rfl, rfl⟩) fun c s2 ⟨H2, J2, e1, e2⟩ => ?_
  subst e1; subst e2
  cases c with
  | true => exact ⟨x, _, J2, r1, q1⟩
  | false => exact hb.run pins s2 σ _ Q J2 q1
theorem not_d {a : Expr} {pos : Pos} {ta : TE} (ha : PE X a ta) : PE X (.UnaryOp .Not a pos) fun σ H Q => ta σ H fun x H1 => ∃ k, TruD X.K x H1 k ∧ Q (.bl (!k)) H1 := by
  refine ⟨fun pins s σ H Q J h => UnaryOp_ (thn (ha.run pins s σ H _ J h) fun v s1 ⟨x, H1, J1, r1, k, e, q1⟩ => ?_)⟩
  exact not_of (thn (trd_ok pins s1 σ H1 x v (fun c H2 => Q (.bl (!c)) H2) J1 r1 ⟨k, e, q1⟩) fun c s2 ⟨H2, J2, q2⟩ => ⟨.bl (!c), H2, J2, rfl, q2⟩)
def tTr (K : PySem.W.Frag) (t : TE) : TT := fun σ H Q => t σ H fun x H1 => ∃ k, TruD K x H1 k ∧ Q k H1
theorem test_plain {a : Expr} {ta : TE} (ha : PE X a ta) (he : ∀ whole, isTrue a X.env whole = (do let v ← whole; standAt a.pos; holding [v] (truthy v))) : PT X a (tTr X.K ta) :=
  ⟨fun pins s σ H Q J h => isTrue_plain (thn (ha.run pins s σ H _ J h) fun v s1 ⟨x, H1, J1, r1, q1⟩ => trd_ok pins s1 σ H1 x v Q J1 r1 q1) (he _)⟩
end
end Mp

namespace Mp
open PySem PySem.Spec PyProof.Rows L2

theorem opt_of {α : Type} {o : Option α} {f : α → Bool} (h : oB o f = true) : ∃ x, o = some x ∧ f x = true := by
  cases o with
  | none => cases h
  | some x => exact ⟨x, rfl, h⟩
theorem opArgs_nst {ck : Ck} {o : Op} {e : Expr} {es : List Expr} (h : opArgs ck o e = some es) : nst e = true := by
  cases e <;> first
    | rfl
    | (cases o <;> simp [opArgs, binA, cmpA, idxA, negA, callA, isiA, slfA, sltA, joinA] at h)
theorem chk_nst {ck : Ck} {p : P} {e : Expr} (h : chk ck p e = true) : nst e = true := by
  cases p with
  | im a => exact chk_nst (p := a) (by simpa only [chk] using h)
  | c x => simp only [chk] at h; unfold constOf at h; split at h <;> first | rfl | cases h
  | mt m i ks as =>
    simp only [chk, Bool.and_eq_true] at h
    obtain ⟨x, h1, _⟩ := opt_of h.2
    cases e <;> first
      | rfl
      | simp [mtA] at h1
  | op o as => simp only [chk] at h; obtain ⟨x, h1, _⟩ := opt_of h; exact opArgs_nst h1
  | lc2 => simp only [chk] at h; exact absurd h Bool.false_ne_true
  | _ =>
    simp only [chk] at h
    obtain ⟨x, h1, _⟩ := opt_of h
    cases e <;> first
      | rfl
      | simp [nmA, notA, andA, orA, iteA, chA, slA, tupA, lstA, callU, lcA, dcA, getA, dspA] at h1
theorem chks_nst {ck : Ck} : ∀ {ps : Ps} {es : List Expr}, chks ck ps es = true → es.all nst = true
  | .nil, [], _ => rfl
  | .cons p ps, e :: es, h => by
    simp only [chks, Bool.and_eq_true] at h
    simp only [List.all_cons, Bool.and_eq_true]
    exact ⟨chk_nst h.1.1, chks_nst h.1.2⟩
  | .nil, _ :: _, h => by cases h
  | .cons _ _, [], h => by cases h

mutual
theorem tc_own {ck : Ck} : ∀ {p : P} {e : Expr}, chk ck p e = true → ∀ j ∈ tc ck.Z p, own ck.Z.inf j
  | .c _, _, _, j, hj => absurd hj List.not_mem_nil
  | .v _, _, _, j, hj => absurd hj List.not_mem_nil
  | .g _ _, _, _, j, hj => absurd hj List.not_mem_nil
  | .mv i, e, h, j, hj => by
    simp only [chk] at h
    obtain ⟨x, h1, h2⟩ := opt_of h
    simp only [Bool.and_eq_true] at h2
    have e : j = i := by simpa [tc] using hj
    subst e
    exact of_decide_eq_true h2.1.2
  | .op o as, e, h, j, hj => by
    simp only [chk] at h
    obtain ⟨x, h1, h2⟩ := opt_of h
    exact tcs_own h2 j (by simpa [tc] using hj)
  | .nt a, e, h, j, hj => by
    simp only [chk] at h
    obtain ⟨x, h1, h2⟩ := opt_of h
    exact tc_own h2 j (by simpa [tc] using hj)
  | .an a b, e, h, j, hj => by
    simp only [chk] at h
    obtain ⟨⟨x, y⟩, h1, h2⟩ := opt_of h
    simp only [Bool.and_eq_true] at h2
    simp only [tc] at hj
    exact (List.mem_append.mp hj).elim (tc_own h2.1 j) (tc_own h2.2 j)
  | .or a b, e, h, j, hj => by
    simp only [chk] at h
    obtain ⟨⟨x, y⟩, h1, h2⟩ := opt_of h
    simp only [Bool.and_eq_true] at h2
    simp only [tc] at hj
    exact (List.mem_append.mp hj).elim (tc_own h2.1 j) (tc_own h2.2 j)
  | .ite c a b, e, h, j, hj => by
    simp only [chk] at h
    obtain ⟨⟨x, y, z⟩, h1, h2⟩ := opt_of h
    simp only [Bool.and_eq_true] at h2
    simp only [tc] at hj
    exact (List.mem_append.mp hj).elim (tc_own h2.1.1 j) fun hj => (List.mem_append.mp hj).elim (tc_own h2.1.2 j) (tc_own h2.2 j)
  | .ch _ _ a b c, e, h, j, hj => by
    simp only [chk] at h
    obtain ⟨⟨x, y, z, p, q⟩, h1, h2⟩ := opt_of h
    simp only [Bool.and_eq_true] at h2
    obtain ⟨⟨⟨⟨⟨⟨h1, h2⟩, h3⟩, _⟩, _⟩, _⟩, _⟩ := h2
    simp only [tc] at hj
    exact (List.mem_append.mp hj).elim (tc_own h1 j) fun hj => (List.mem_append.mp hj).elim (tc_own h2 j) (tc_own h3 j)
  | .sl a b c, e, h, j, hj => by
    simp only [chk] at h
    obtain ⟨⟨x, y, z⟩, h1, h2⟩ := opt_of h
    simp only [Bool.and_eq_true] at h2
    simp only [tc] at hj
    exact (List.mem_append.mp hj).elim (tc_own h2.1.1.1.1 j) fun hj => (List.mem_append.mp hj).elim (tc_own h2.1.1.1.2 j) (tc_own h2.1.1.2 j)
  | .im a, e, h, j, hj => tc_own (p := a) (by simpa only [chk] using h) j (by simpa only [tc] using hj)
  | .get a b c, e, h, j, hj => by
    simp only [chk] at h
    obtain ⟨⟨x, y, zo⟩, h1, h2⟩ := opt_of h
    simp only [Bool.and_eq_true] at h2
    simp only [tc] at hj
    refine (List.mem_append.mp hj).elim (tc_own h2.1.1.1.1 j) fun hj => (List.mem_append.mp hj).elim (tc_own h2.1.1.1.2 j) fun hj => ?_
    have h3 := h2.1.1.2
    cases zo with
    | some z => exact tc_own h3 j hj
    | none =>
      cases c <;> try cases h3
      exact absurd hj List.not_mem_nil
  | .tup as, e, h, j, hj => by
    simp only [chk] at h
    obtain ⟨x, h1, h2⟩ := opt_of h
    exact tcs_own h2 j (by simpa [tc] using hj)
  | .lst as, e, h, j, hj => by
    simp only [chk] at h
    obtain ⟨x, h1, h2⟩ := opt_of h
    exact tcs_own h2 j (by simpa [tc] using hj)
  | .call f as, e, h, j, hj => by
    simp only [chk] at h
    obtain ⟨x, h1, h2⟩ := opt_of h
    simp only [Bool.and_eq_true] at h2
    simp only [tc] at hj
    obtain ⟨h3, h4⟩ := tcA_own h2.2
    exact (List.mem_append.mp hj).elim (h3 j) (h4 j)
  | .mt m i ks as, e, h, j, hj => by
    simp only [chk, Bool.and_eq_true] at h
    obtain ⟨⟨x, kes, es⟩, h1, h2⟩ := opt_of h.2
    simp only [Bool.and_eq_true] at h2
    obtain ⟨⟨⟨⟨⟨⟨⟨_, _⟩, _⟩, h3⟩, _⟩, h4⟩, h5⟩, _⟩ := h2
    simp only [tc] at hj
    rcases List.mem_append.mp hj with z | z
    · exact tcs_own h4 j z
    · rcases List.mem_append.mp z with z | z
      · exact tcs_own h5 j z
      · rw [List.mem_singleton.mp z]
        exact of_decide_eq_true h3
  | .lc e t it cd vs, x, h, j, hj => by
    simp only [chk] at h
    obtain ⟨⟨elt, tg, iter, ifs, scope⟩, h1, h2⟩ := opt_of h
    simp only [Bool.and_eq_true] at h2
    obtain ⟨⟨⟨⟨⟨⟨⟨⟨⟨_, _⟩, _⟩, _⟩, _⟩, h3⟩, _⟩, h4⟩, h5⟩, _⟩ := h2
    simp only [tc] at hj
    rcases List.mem_append.mp hj with z | z
    · exact tcI_own h3 j z
    · rcases List.mem_append.mp z with z | z
      · exact tcC_own (ck := blkCk ck scope) h4 j z
      · exact tc_own (ck := blkCk ck scope) h5 j z
  | .lc2 _ _ _ _ _ _ _ _, _, h, _, _ => by simp only [chk] at h; exact absurd h Bool.false_ne_true
  | .dc k e t it cd vs, x, h, j, hj => by
    simp only [chk] at h
    obtain ⟨⟨ke, elt, tg, iter, ifs, scope⟩, h1, h2⟩ := opt_of h
    simp only [Bool.and_eq_true] at h2
    obtain ⟨⟨⟨⟨⟨⟨⟨⟨⟨⟨_, _⟩, _⟩, _⟩, _⟩, h3⟩, _⟩, h4⟩, h6⟩, h5⟩, _⟩ := h2
    simp only [tc] at hj
    rcases List.mem_append.mp hj with z | z
    · exact tcI_own h3 j z
    · rcases List.mem_append.mp z with z | z
      · exact tcC_own (ck := blkCk ck scope) h4 j z
      · rcases List.mem_append.mp z with z | z
        · exact tc_own (ck := blkCk ck scope) h6 j z
        · exact tc_own (ck := blkCk ck scope) h5 j z
  | .dsp as, e, h, j, hj => by
    simp only [chk] at h
    obtain ⟨x, h1, h2⟩ := opt_of h
    exact tcs_own h2 j (by simpa [tc] using hj)
theorem tcs_own {ck : Ck} : ∀ {ps : Ps} {es : List Expr}, chks ck ps es = true → ∀ j ∈ tcs ck.Z ps, own ck.Z.inf j
  | .nil, _, _, j, hj => absurd hj List.not_mem_nil
  | .cons p ps, e :: es, h, j, hj => by
    simp only [chks, Bool.and_eq_true] at h
    simp only [tcs] at hj
    exact (List.mem_append.mp hj).elim (tc_own h.1.1 j) (tcs_own h.1.2 j)
  | .cons _ _, [], h, _, _ => by cases h
theorem tcA_own {ck : Ck} {M : List Nat} : ∀ {ps : Ps} {ms : List Bool} {es : List Expr}, chkA ck M ms ps es = true → (∀ j ∈ tcs ck.Z ps, own ck.Z.inf j) ∧ ∀ j ∈ mutS ms ps, own ck.Z.inf j
  | .nil, ms, es, h => by
    refine ⟨fun j hj => absurd hj List.not_mem_nil, fun j hj => ?_⟩
    cases ms with
    | nil => simp [mutS, mutR] at hj
    | cons b ms => cases b <;> simp [mutS, mutR] at hj
  | .cons p ps, [], es, h => by cases es <;> cases h
  | .cons p ps, b :: ms, [], h => by cases b <;> cases p <;> cases h
  | .cons p ps, false :: ms, e :: es, h => by
    simp only [chkA, Bool.and_eq_true] at h
    obtain ⟨h1, h2⟩ := tcA_own h.1.1.2
    refine ⟨fun j hj => ?_, fun j hj => h2 j ?_⟩
    · simp only [tcs] at hj
      exact (List.mem_append.mp hj).elim (tc_own h.1.1.1 j) (h1 j)
    · have em : mutR (false :: ms) (.cons p ps) = none :: mutR ms ps := by cases p <;> rfl
      unfold mutS at hj ⊢
      rw [em] at hj
      simpa using hj
  | .cons (.v i) ps, true :: ms, e :: es, h => by
    simp only [chkA, Bool.and_eq_true] at h
    obtain ⟨h1, h2⟩ := tcA_own h.2
    refine ⟨fun j hj => ?_, fun j hj => ?_⟩
    · simp only [tcs, tc, List.nil_append] at hj
      exact h1 j hj
    · have em : mutR (true :: ms) (.cons (.v i) ps) = some i :: mutR ms ps := rfl
      unfold mutS at hj h2
      rw [em] at hj
      simp only [List.filterMap_cons, id_eq, List.mem_cons] at hj
      rcases hj with rfl | hj
      · exact of_decide_eq_true h.1.1.2
      · exact h2 j hj
  | .cons (.c _) ps, true :: ms, e :: es, h => by simp [chkA] at h
  | .cons (.mv _) ps, true :: ms, e :: es, h => by simp [chkA] at h
  | .cons (.g _ _) ps, true :: ms, e :: es, h => by simp [chkA] at h
  | .cons (.op _ _) ps, true :: ms, e :: es, h => by simp [chkA] at h
  | .cons (.nt _) ps, true :: ms, e :: es, h => by simp [chkA] at h
  | .cons (.an _ _) ps, true :: ms, e :: es, h => by simp [chkA] at h
  | .cons (.or _ _) ps, true :: ms, e :: es, h => by simp [chkA] at h
  | .cons (.ite _ _ _) ps, true :: ms, e :: es, h => by simp [chkA] at h
  | .cons (.ch _ _ _ _ _) ps, true :: ms, e :: es, h => by simp [chkA] at h
  | .cons (.sl _ _ _) ps, true :: ms, e :: es, h => by simp [chkA] at h
  | .cons (.get _ _ _) ps, true :: ms, e :: es, h => by simp [chkA] at h
  | .cons (.im _) ps, true :: ms, e :: es, h => by simp [chkA] at h
  | .cons (.tup _) ps, true :: ms, e :: es, h => by simp [chkA] at h
  | .cons (.lst _) ps, true :: ms, e :: es, h => by simp [chkA] at h
  | .cons (.call _ _) ps, true :: ms, e :: es, h => by simp [chkA] at h
  | .cons (.mt _ _ _ _) ps, true :: ms, e :: es, h => by simp [chkA] at h
  | .cons (.lc _ _ _ _ _) ps, true :: ms, e :: es, h => by simp [chkA] at h
  | .cons (.lc2 _ _ _ _ _ _ _ _) ps, true :: ms, e :: es, h => by simp [chkA] at h
  | .cons (.dc _ _ _ _ _ _) ps, true :: ms, e :: es, h => by simp [chkA] at h
  | .cons (.dsp _) ps, true :: ms, e :: es, h => by simp [chkA] at h
theorem tcC_own {ck : Ck} : ∀ {ps : Ps} {es : List Expr}, chkC ck ps es = true → ∀ j ∈ tcs ck.Z ps, own ck.Z.inf j
  | .nil, _, _, j, hj => absurd hj List.not_mem_nil
  | .cons p .nil, [e], h, j, hj => by
    simp only [chkC] at h
    simp only [tcs, List.append_nil] at hj
    exact tc_own h j hj
  | .cons _ .nil, [], h, _, _ => by simp [chkC] at h
  | .cons _ .nil, _ :: _ :: _, h, _, _ => by simp [chkC] at h
  | .cons _ (.cons _ _), _, h, _, _ => by simp [chkC] at h
theorem tcI_own {ck : Ck} : ∀ {it : It} {e : Expr}, chkI ck it e = true → ∀ j ∈ tcI ck.Z it, own ck.Z.inf j
  | .seq p, e, h, j, hj => by
    simp only [chkI] at h
    exact tc_own h j (by simpa [tcI] using hj)
  | .rng as, e, h, j, hj => by
    simp only [chkI] at h
    obtain ⟨es, _, h2⟩ := opt_of h
    exact tcs_own h2 j (by simpa [tcI] using hj)
  | .enum p, e, h, j, hj => by
    simp only [chkI] at h
    obtain ⟨es, _, h2⟩ := opt_of h
    exact tc_own h2 j (by simpa [tcI] using hj)
  | .zip as, e, h, j, hj => by
    simp only [chkI] at h
    obtain ⟨es, _, h2⟩ := opt_of h
    exact tcs_own h2 j (by simpa [tcI] using hj)
  | .rev p, e, h, j, hj => by
    simp only [chkI] at h
    obtain ⟨es, _, h2⟩ := opt_of h
    exact tc_own h2 j (by simpa [tcI] using hj)
end
end Mp

namespace Mp
open PySem PySem.Spec PyProof.Rows L2

def Res (C : Cc) (kd : Kd) (T : List Nat) (σ : L2.St) (Q : VK) (r : R D) (F : FP) (H : Hp) : Prop := match r with
  | .ok d ρ' => Post C kd T ρ' σ F H d Q
  | .ex c fs ρ' => ExP C T ρ' σ F H c fs
  | .no => False
theorem tE_res {C : Cc} {k T m σ H Q} : tE C k T m σ H Q = ∃ ρ F, Cn C.inf C.B C.lk ρ σ H F ∧ Res C k T σ Q (m ρ) F H := rfl
theorem Res.after {C : Cc} {k l : Kd} {T U σ Q r F H F1 H1} (h : Res C (jn k l) (T ++ U) σ Q r F H) (f : Fr C.inf T F H F1 H1) : Res C l U σ Q r F1 H1 := by
  cases r with
  | ok d ρ => exact Post.after h f
  | ex c fs ρ => exact ExP.mono h f
  | no => exact h
theorem Res.after' {C : Cc} {l : Kd} {T U σ Q r F H F1 H1} (h : Res C l (T ++ U) σ Q r F H) (f : Fr C.inf T F H F1 H1) : Res C l U σ Q r F1 H1 := by
  cases r with
  | ok d ρ => exact Post.after' h f
  | ex c fs ρ => exact ExP.mono h f
  | no => exact h
theorem Res.right {C : Cc} {k l : Kd} {T σ Q r F H} (h : Res C (jn k l) T σ Q r F H) : Res C l T σ Q r F H := by
  cases r with
  | ok d ρ => exact Post.right h
  | ex c fs ρ => exact h
  | no => exact h
theorem Res.left {C : Cc} {k l : Kd} {T σ Q r F H} (h : Res C (jn k l) T σ Q r F H) : Res C k T σ Q r F H := by
  cases r with
  | ok d ρ => exact Post.left h
  | ex c fs ρ => exact h
  | no => exact h
theorem Res.widen {C : Cc} {k : Kd} {T U σ Q r F H} (h : Res C k U σ Q r F H) (m : ∀ j ∈ T, j ∈ U) : Res C k T σ Q r F H := by
  cases r with
  | ok d ρ => exact Post.widen h m
  | ex c fs ρ => exact ExP.widen h m
  | no => exact h

def ResT (C : Cc) (T : List Nat) (σ : L2.St) (Q : Bool → Hp → Prop) (r : R D) (F : FP) (H : Hp) : Prop := match r with
  | .ok d ρ' => ∃ b, truth d = some b ∧ ∀ H' F', Cn C.inf C.B C.lk ρ' σ H' F' → Fr C.inf T F H F' H' → Q b H'
  | .ex c fs ρ' => ExP C T ρ' σ F H c fs
  | .no => False
def tT (C : Cc) (T : List Nat) (m : M D) : TT := fun σ H Q => ∃ ρ F, Cn C.inf C.B C.lk ρ σ H F ∧ ResT C T σ Q (m ρ) F H
theorem ResT.after {C : Cc} {T U σ Q r F H F1 H1} (h : ResT C (T ++ U) σ Q r F H) (f : Fr C.inf T F H F1 H1) : ResT C U σ Q r F1 H1 := by
  cases r with
  | ok d ρ =>
    obtain ⟨b, e, q⟩ := h
    exact ⟨b, e, fun H' F' cn fr => q H' F' cn (f.trans fr)⟩
  | ex c fs ρ => exact ExP.mono h f
  | no => exact h
theorem ResT.widen {C : Cc} {T U σ Q r F H} (h : ResT C U σ Q r F H) (m : ∀ j ∈ T, j ∈ U) : ResT C T σ Q r F H := by
  cases r with
  | ok d ρ =>
    obtain ⟨b, e, q⟩ := h
    exact ⟨b, e, fun H' F' cn fr => q H' F' cn (fr.mono m)⟩
  | ex c fs ρ => exact ExP.widen h m
  | no => exact h

section
variable {ck : Ck} {X : Cx} {C : Cc} {G : GS} {σ : L2.St} {H : Hp}
theorem tT_of {k : Kd} {T : List Nat} {m : M D} {Q : Bool → Hp → Prop} (h : tT C T m σ H Q) : tTr X.K (tE C k T m) σ H Q := by
  obtain ⟨ρ, F, cn, h⟩ := h
  refine ⟨ρ, F, cn, ?_⟩
  cases e : m ρ with
  | no => rw [e] at h; exact h
  | ex c fs ρ' => rw [e] at h; exact h
  | ok d ρ' =>
    rw [e] at h
    obtain ⟨b, e2, q⟩ := h
    exact fun v H1 F1 S cn1 f1 rd ko n => ⟨b, rd.tru e2, q H1 F1 cn1 f1⟩
theorem nt_read {k : Kd} {T : List Nat} {m : M D} {Q : VK} (h : tE C .fr T (bnd m fun d => bnd (lift (truth d)) fun k => ret (.i (.bl (!k)))) σ H Q) :
    tE C k T m σ H fun x H1 => ∃ b, TruD X.K x H1 b ∧ Q (.bl (!b)) H1 :=
  truth_read (α := D) (f := fun b _ => ret (.i (.bl (!b)))) (G := Res C .fr T σ Q) (Z := fun x H1 b => Q (.bl (!b)) H1) h (fun _ _ _ _ _ h => h) (fun _ _ h => h)
    fun F0 H0 v H1 F1 S ρ1 d b g cn f rd ko n => g (.bl !b) H1 F1 [] cn f (.i (.bl _)) KOk.nil NewK.nil
theorem an_read {k l : Kd} {T U : List Nat} {m m' : M D} {Q : VK} (h : tE C (jn k l) (T ++ U) (bnd m fun d => bnd (lift (truth d)) fun b => if b then m' else ret d) σ H Q) :
    tE C k T m σ H fun x H1 => ∃ b, TruD X.K x H1 b ∧ if b = true then tE C l U m' σ H1 Q else Q x H1 :=
  truth_read (f := fun b d => if b then m' else ret d) (G := Res C (jn k l) (T ++ U) σ Q) (Z := fun x H1 b => if b = true then tE C l U m' σ H1 Q else Q x H1) h
    (fun _ _ _ _ _ h => ExP.widen h fun j hj => List.mem_append_left _ hj) (fun _ _ h => h)
    fun F0 H0 v H1 F1 S ρ1 d b g cn f rd ko n => by
      cases b with
      | true => exact ⟨ρ1, F1, cn, Res.after g f⟩
      | false => exact Post.grow g v H1 F1 S cn f rd ko n
theorem or_read {k l : Kd} {T U : List Nat} {m m' : M D} {Q : VK} (h : tE C (jn k l) (T ++ U) (bnd m fun d => bnd (lift (truth d)) fun b => if b then ret d else m') σ H Q) :
    tE C k T m σ H fun x H1 => ∃ b, TruD X.K x H1 b ∧ if b = true then Q x H1 else tE C l U m' σ H1 Q :=
  truth_read (f := fun b d => if b then ret d else m') (G := Res C (jn k l) (T ++ U) σ Q) (Z := fun x H1 b => if b = true then Q x H1 else tE C l U m' σ H1 Q) h
    (fun _ _ _ _ _ h => ExP.widen h fun j hj => List.mem_append_left _ hj) (fun _ _ h => h)
    fun F0 H0 v H1 F1 S ρ1 d b g cn f rd ko n => by
      cases b with
      | false => exact ⟨ρ1, F1, cn, Res.after g f⟩
      | true => exact Post.grow g v H1 F1 S cn f rd ko n
theorem tt_read {α : Type} {T : List Nat} {m : M D} {f : Bool → D → M α} {Gf : R α → FP → Hp → Prop} {Z : Bool → Hp → Prop}
    (h : ∃ ρ F, Cn C.inf C.B C.lk ρ σ H F ∧ Gf (bnd m (fun d => bnd (lift (truth d)) fun b => f b d) ρ) F H)
    (g1 : ∀ F H c fs ρ', Gf (.ex c fs ρ') F H → ExP C T ρ' σ F H c fs) (g2 : ∀ F H, ¬ Gf .no F H)
    (hz : ∀ F0 H0 H1 F1 ρ1 d b, Gf (f b d ρ1) F0 H0 → truth d = some b → Cn C.inf C.B C.lk ρ1 σ H1 F1 → Fr C.inf T F0 H0 F1 H1 → Z b H1) :
    tT C T m σ H Z := by
  obtain ⟨ρ, F, cn, h⟩ := h
  refine ⟨ρ, F, cn, ?_⟩
  cases e : m ρ with
  | no => rw [bnd_no e] at h; exact (g2 _ _ h).elim
  | ex c fs ρ' => rw [bnd_ex e] at h; exact g1 _ _ _ _ _ h
  | ok d ρ1 =>
    rw [bnd_ok e] at h
    cases e2 : truth d with
    | none =>
      rw [e2] at h
      exact (g2 _ _ h).elim
    | some b =>
      rw [e2] at h
      exact ⟨b, e2, fun H1 F1 cn1 f1 => hz F H H1 F1 ρ1 d b h e2 cn1 f1⟩
theorem ite_read {k l : Kd} {T U V : List Nat} {m m' m2 : M D} {Q : VK} (h : tE C (jn k l) (T ++ (U ++ V)) (bnd m fun d => bnd (lift (truth d)) fun b => if b then m' else m2) σ H Q) :
    tT C T m σ H fun b H1 => if b = true then tE C k U m' σ H1 Q else tE C l V m2 σ H1 Q :=
  tt_read (f := fun b _ => if b then m' else m2) (Gf := Res C (jn k l) (T ++ (U ++ V)) σ Q) h (fun _ _ _ _ _ h => ExP.widen h fun j hj => List.mem_append_left _ hj) (fun _ _ h => h)
    fun F0 H0 H1 F1 ρ1 d b g e cn f => by
      cases b with
      | true => exact ⟨ρ1, F1, cn, ((Res.after' g f).left).widen fun j hj => List.mem_append_left _ hj⟩
      | false => exact ⟨ρ1, F1, cn, ((Res.after' g f).right).widen fun j hj => List.mem_append_right _ hj⟩
theorem nt_readT {T : List Nat} {m : M D} {Q : Bool → Hp → Prop} (h : tT C T (bnd m fun d => bnd (lift (truth d)) fun k => ret (.i (.bl (!k)))) σ H Q) : tT C T m σ H fun b H1 => Q (!b) H1 :=
  tt_read (α := D) (f := fun b _ => ret (.i (.bl (!b)))) (Gf := ResT C T σ Q) h (fun _ _ _ _ _ h => h) (fun _ _ h => h)
    fun F0 H0 H1 F1 ρ1 d b g e cn f => by
      obtain ⟨b', e', q⟩ := g
      cases e'
      exact q H1 F1 cn f
theorem an_readT {T U : List Nat} {m m' : M D} {Q : Bool → Hp → Prop} (h : tT C (T ++ U) (bnd m fun d => bnd (lift (truth d)) fun b => if b then m' else ret d) σ H Q) :
    tT C T m σ H fun b H1 => if b = true then tT C U m' σ H1 Q else Q false H1 :=
  tt_read (f := fun b d => if b then m' else ret d) (Gf := ResT C (T ++ U) σ Q) h (fun _ _ _ _ _ h => ExP.widen h fun j hj => List.mem_append_left _ hj) (fun _ _ h => h)
    fun F0 H0 H1 F1 ρ1 d b g e cn f => by
      cases b with
      | true => exact ⟨ρ1, F1, cn, ResT.after g f⟩
      | false =>
        obtain ⟨b', e', q⟩ := g
        rw [e] at e'
        cases e'
        exact q H1 F1 cn (f.mono fun j hj => List.mem_append_left _ hj)
theorem or_readT {T U : List Nat} {m m' : M D} {Q : Bool → Hp → Prop} (h : tT C (T ++ U) (bnd m fun d => bnd (lift (truth d)) fun b => if b then ret d else m') σ H Q) :
    tT C T m σ H fun b H1 => if b = true then Q true H1 else tT C U m' σ H1 Q :=
  tt_read (f := fun b d => if b then ret d else m') (Gf := ResT C (T ++ U) σ Q) h (fun _ _ _ _ _ h => ExP.widen h fun j hj => List.mem_append_left _ hj) (fun _ _ h => h)
    fun F0 H0 H1 F1 ρ1 d b g e cn f => by
      cases b with
      | false => exact ⟨ρ1, F1, cn, ResT.after g f⟩
      | true =>
        obtain ⟨b', e', q⟩ := g
        rw [e] at e'
        cases e'
        exact q H1 F1 cn (f.mono fun j hj => List.mem_append_left _ hj)
theorem ite_readT {T U V : List Nat} {m m' m2 : M D} {Q : Bool → Hp → Prop} (h : tT C (T ++ (U ++ V)) (bnd m fun d => bnd (lift (truth d)) fun b => if b then m' else m2) σ H Q) :
    tT C T m σ H fun b H1 => if b = true then tT C U m' σ H1 Q else tT C V m2 σ H1 Q :=
  tt_read (f := fun b _ => if b then m' else m2) (Gf := ResT C (T ++ (U ++ V)) σ Q) h (fun _ _ _ _ _ h => ExP.widen h fun j hj => List.mem_append_left _ hj) (fun _ _ h => h)
    fun F0 H0 H1 F1 ρ1 d b g e cn f => by
      cases b with
      | true => exact ⟨ρ1, F1, cn, (ResT.after g f).widen fun j hj => List.mem_append_left _ hj⟩
      | false => exact ⟨ρ1, F1, cn, (ResT.after g f).widen fun j hj => List.mem_append_right _ hj⟩
def tIfT (t ta tb : TT) : TT := fun σ H Q => t σ H fun c H1 => if c = true then ta σ H1 Q else tb σ H1 Q
theorem pt_ifExp {c a b : Expr} {pos : Pos} {tc ta tb : TT} (hc : PT X c tc) (ha : PT X a ta) (hb : PT X b tb) : PT X (.IfExp c a b pos) (tIfT tc ta tb) := by
  refine ⟨fun pins s σ H Q I h => ?_⟩
  refine isTrue_IfExp (thn (hc.run pins s σ H _ I h) fun d s1 ⟨H1, I1, q1⟩ => ?_)
  cases d with
  | true => exact ha.run pins s1 σ H1 Q I1 q1
  | false => exact hb.run pins s1 σ H1 Q I1 q1
theorem fn_read {f : List D → Option D} {nw : Bool} {as : M (List D)} {k : Kd} {T : List Nat} {r : List V → Hp → VK → Prop} (hr : VOpK nw f r) {Q : VK} (h : tE C (opK nw k) T (bnd as fun ds => lift (f ds)) σ H Q) :
    tA C k T as σ H fun vs H' => r vs H' Q := by
  obtain ⟨ρ, F, cn, h⟩ := h
  refine ⟨ρ, F, cn, ?_⟩
  cases e : as ρ with
  | no => rw [bnd_no e] at h; exact h
  | ex c fs ρ' => rw [bnd_ex e] at h; exact h
  | ok ds ρ' =>
    rw [bnd_ok e] at h
    unfold lift at h
    cases e2 : f ds with
    | none => rw [e2] at h; exact h.elim
    | some d =>
      rw [e2] at h
      intro vs H1 F1 S cn1 f1 rd ko n
      exact Post.op hr h cn1 f1 rd ko n e2
theorem cmp_or (hX : XOk ck X C G) {o : Op} {p : CmpOp} (h : cmpOf o = some p) : ∃ f, opF o = f2 (bF f) ∧ OpR X (compareOp p) (r2D (bF f) true) := by
  have hr := hX.room
  cases o <;> simp only [cmpOf, Option.some.injEq, reduceCtorEq] at h <;> subst h
  · exact ⟨_, rfl, s_eq hr⟩
  · exact ⟨_, rfl, s_ne hr⟩
  · exact ⟨_, rfl, s_lt hr⟩
  · exact ⟨_, rfl, s_le⟩
  · exact ⟨_, rfl, s_gt⟩
  · exact ⟨_, rfl, s_ge⟩
theorem chain_read {f f' : D → D → Option Bool} {o o' : Op} (eo : opF o = f2 (bF f)) (eo' : opF o' = f2 (bF f')) {k l n : Kd} {T U V : List Nat} {m m' m2 : M D} {Q : VK} (w1 : ∀ j ∈ U, own C.inf j) (w2 : ∀ j ∈ V, own C.inf j) (a1 : Apart U k) (a2 : Apart V l)
    (h : tE C .fr (T ++ (U ++ V)) (bnd m fun x => bnd m' fun y => bnd (lift (opF o [x, y])) fun z => chainZ z (bnd m2 fun w => lift (opF o' [y, w]))) σ H Q) :
    tChain (r2D (bF f) true) (r2D (bF f') true) (tE C k T m) (tE C l U m') (tE C n V m2) σ H Q := by
  obtain ⟨ρ, F, cn, h⟩ := h
  refine ⟨ρ, F, cn, ?_⟩
  cases e : m ρ with
  | no => rw [bnd_no e] at h; exact h
  | ex c fs ρ' => rw [bnd_ex e] at h; exact ExP.widen h fun j hj => List.mem_append_left _ hj
  | ok d ρ1 =>
    rw [bnd_ok e] at h
    intro v H1 F1 S cn1 f1 r1 k1 n1
    refine ⟨ρ1, F1, cn1, ?_⟩
    have h := Res.after' (C := C) (l := .fr) (σ := σ) (Q := Q) h f1
    cases e2 : m' ρ1 with
    | no => rw [bnd_no e2] at h; exact h
    | ex c fs ρ' => rw [bnd_ex e2] at h; exact ExP.widen h fun j hj => List.mem_append_left _ hj
    | ok d2 ρ2 =>
      rw [bnd_ok e2] at h
      intro u H2 F2 S2 cn2 f2 r2 k2 n2
      have h := Res.after' (C := C) (l := .fr) (σ := σ) (Q := Q) h f2
      obtain ⟨on, _⟩ := k1.over r1.there f2 w1 a1
      have eb : opF o [d, d2] = bF f d d2 := by rw [eo]; rfl
      cases e3 : f d d2 with
      | none =>
        have : opF o [d, d2] = none := by rw [eb]; unfold bF; rw [e3]; rfl
        rw [this] at h
        exact h.elim
      | some b =>
        have e4 : opF o [d, d2] = some (.i (.bl b)) := by rw [eb]; unfold bF; rw [e3]; rfl
        rw [e4] at h
        have h : Res C .fr V σ Q (chainZ (.i (.bl b)) (bnd m2 fun w => lift (opF o' [d2, w])) ρ2) F2 H2 := h
        refine ⟨d, d2, S, S2, _, r1.mono f2.tup on, r2, by unfold bF; rw [e3]; rfl, fun z' H3 S3 g rz pz => ?_⟩
        obtain ⟨rfl, _⟩ := rz.bl_inv
        refine ⟨b, rfl, ?_⟩
        cases b with
        | false => exact h _ H3 F2 [] (g.cn cn2) (g.fr.mono fun j hj => absurd hj List.not_mem_nil) (.i (.bl _)) KOk.nil NewK.nil
        | true =>
          show tE C n V m2 σ H3 _
          refine ⟨ρ2, F2, g.cn cn2, ?_⟩
          have h : Res C .fr V σ Q (bnd m2 (fun w => lift (opF o' [d2, w])) ρ2) F2 H2 := h
          have g0 : Fr C.inf [] F2 H2 F2 H3 := g.fr
          have h := Res.after' (T := []) (C := C) (l := .fr) (σ := σ) (Q := Q) h g0
          cases e5 : m2 ρ2 with
          | no => rw [bnd_no e5] at h; exact h
          | ex c fs ρ' => rw [bnd_ex e5] at h; exact h
          | ok d3 ρ3 =>
            rw [bnd_ok e5] at h
            intro w H4 F3 S4 cn3 f3 r3 k3 n3
            obtain ⟨on2, _⟩ := k2.over r2.there (g0.trans f3) (fun j hj => w2 j (by simpa using hj)) a2
            have e6 : opF o' [d2, d3] = bF f' d2 d3 := by rw [eo']; rfl
            rw [e6] at h
            cases e7 : bF f' d2 d3 with
            | none => rw [e7] at h; exact h.elim
            | some z =>
              rw [e7] at h
              have eS : ∃ b, z = .i (.bl b) := by
                unfold bF at e7
                cases e8 : f' d2 d3 with
                | none => rw [e8] at e7; cases e7
                | some b => rw [e8] at e7; cases e7; exact ⟨b, rfl⟩
              obtain ⟨b, rfl⟩ := eS
              refine ⟨d2, d3, S2, S4, _, r2.mono (g0.trans f3).tup on2, r3, e7, fun z' H5 S5 g2 rz2 pz2 => ?_⟩
              obtain ⟨rfl, hS⟩ := rz2.bl_inv
              have g3 : Fr C.inf [] F3 H4 F3 H5 := g2.fr
              exact h _ H5 F3 [] (g2.cn cn3) ((f3.trans g3).mono fun j hj => by simpa using hj) (.i (.bl _)) KOk.nil NewK.nil
theorem intD_inv {d : Mp.D} {i : Int} (h : intD d = some i) : d = .i (.int i) := by
  unfold intD at h
  split at h
  · cases h; rfl
  · cases h
theorem sl_read {k l n : Kd} {T U V : List Nat} {m m' m2 : M Mp.D} {Q : VK} (w1 : ∀ j ∈ U, own C.inf j) (w2 : ∀ j ∈ V, own C.inf j) (a1 : Apart U k) (a2 : Apart V k)
    (h : tE C k (T ++ (U ++ V)) (bnd m fun x => bnd m' fun y => bnd (lift (intD y)) fun i => bnd m2 fun z => bnd (lift (intD z)) fun j => lift (slF x (some i) (some j))) σ H Q) :
    tSl rSlD (tE C k T m) (tPart (tE C l U m')) (tPart (tE C n V m2)) σ H Q := by
  obtain ⟨ρ, F, cn, h⟩ := h
  refine ⟨ρ, F, cn, ?_⟩
  cases e : m ρ with
  | no => rw [bnd_no e] at h; exact h
  | ex c fs ρ' => rw [bnd_ex e] at h; exact ExP.widen h fun j hj => List.mem_append_left _ hj
  | ok d ρ1 =>
    rw [bnd_ok e] at h
    intro v H1 F1 S cn1 f1 r1 k1 n1
    refine ⟨ρ1, F1, cn1, ?_⟩
    cases e2 : m' ρ1 with
    | no => rw [bnd_no e2] at h; exact h
    | ex c fs ρ' =>
      rw [bnd_ex e2] at h
      exact ExP.mono (T := T) (U := U) (ExP.widen h fun j hj => by
        rcases List.mem_append.mp hj with z | z
        · exact List.mem_append_left _ z
        · exact List.mem_append_right _ (List.mem_append_left _ z)) f1
    | ok d2 ρ2 =>
      rw [bnd_ok e2] at h
      intro u H2 F2 S2 cn2 f2 r2 k2 n2
      obtain ⟨on, k1'⟩ := k1.over r1.there f2 w1 a1
      cases e3 : intD d2 with
      | none => rw [e3] at h; exact h.elim
      | some i =>
        rw [e3] at h
        have h : Res C k (T ++ (U ++ V)) σ Q (bnd m2 (fun z => bnd (lift (intD z)) fun j => lift (slF d (some i) (some j))) ρ2) F H := h
        have := intD_inv e3
        subst this
        obtain ⟨rfl, _⟩ := r2.int_inv
        refine ⟨i, rfl, ρ2, F2, cn2, ?_⟩
        cases e4 : m2 ρ2 with
        | no => rw [bnd_no e4] at h; exact h
        | ex c fs ρ' =>
          rw [bnd_ex e4] at h
          refine ExP.mono (T := T ++ U) (U := V) (ExP.widen h fun j hj => by simpa [List.append_assoc] using hj) (f1.trans f2)
        | ok d3 ρ3 =>
          rw [bnd_ok e4] at h
          intro w H3 F3 S3 cn3 f3 r3 k3 n3
          obtain ⟨on2, k1''⟩ := k1'.over (r1.mono f2.tup on).there f3 w2 a2
          cases e5 : intD d3 with
          | none => rw [e5] at h; exact h.elim
          | some j =>
            rw [e5] at h
            have := intD_inv e5
            subst this
            obtain ⟨rfl, _⟩ := r3.int_inv
            refine ⟨j, rfl, ?_⟩
            cases e6 : slF d (some i) (some j) with
            | none =>
              have h : Res C k (T ++ (U ++ V)) σ Q (lift (slF d (some i) (some j)) ρ3) F H := h
              rw [e6] at h; exact h.elim
            | some z =>
              have h : Res C k (T ++ (U ++ V)) σ Q (lift (slF d (some i) (some j)) ρ3) F H := h
              rw [e6] at h
              refine ⟨d, S, z, (r1.mono f2.tup on).mono f3.tup on2, e6, fun v' H' S' g rv p => ?_⟩
              have fr : Fr C.inf (T ++ (U ++ V)) F H F3 H3 := (f1.trans (f2.trans f3))
              refine h v' H' F3 S' (g.cn cn3) ((fr.trans g.fr).mono fun j hj => by simpa using hj) rv (KOk.part cn3 k1'' ((r1.mono f2.tup on).mono f3.tup on2).there g p) (NewK.part fr (n1.mono fun j hj => List.mem_append_left _ hj) p)
theorem isDk_inv {H : Hp} {d : Mp.D} {v : V} {S : List Addr} (h : RD H d v S) {u : Unit} (e : isDk d = some u) : ∃ a, v = .ref a ∧ IsD H a := by
  cases h with
  | dk hs hr hn => exact ⟨_, rfl, .inl ⟨_, hs⟩⟩
  | dt hs hr hn => exact ⟨_, rfl, .inr ⟨_, hs⟩⟩
  | _ => cases e
theorem lookD_key {c k : Mp.D} {o : Option Mp.D} (e : lookD c k = some o) : ∃ x, k = .i x := by
  cases k with
  | i x => exact ⟨x, rfl⟩
  | _ => cases c <;> cases e
theorem get_read {k l n : Kd} {T U V : List Nat} {m m' m2 : M Mp.D} {Q : VK} (w1 : ∀ j ∈ U, own C.inf j) (w2 : ∀ j ∈ V, own C.inf j) (a1 : Apart U k) (a2 : Apart V k)
    (h : tE C k (T ++ (U ++ V)) (bnd m fun x => bnd (lift (isDk x)) fun _ => bnd m' fun y => bnd m2 fun z => lift (getF x y z)) σ H Q) :
    tDGet2 (tE C k T m) (tE C l U m') (tE C n V m2) σ H Q := by
  obtain ⟨ρ, F, cn, h⟩ := h
  refine ⟨ρ, F, cn, ?_⟩
  cases e : m ρ with
  | no => rw [bnd_no e] at h; exact h
  | ex c fs ρ' => rw [bnd_ex e] at h; exact ExP.widen h fun j hj => List.mem_append_left _ hj
  | ok d ρ1 =>
    rw [bnd_ok e] at h
    intro v H1 F1 S cn1 f1 r1 k1 n1
    cases e0 : isDk d with
    | none => rw [e0] at h; exact h.elim
    | some u0 =>
    rw [e0] at h
    have h : Res C k (T ++ (U ++ V)) σ Q (bnd m' (fun y => bnd m2 fun z => lift (getF d y z)) ρ1) F H := h
    obtain ⟨a, rfl, hd⟩ := isDk_inv r1 e0
    refine ⟨a, rfl, hd, ρ1, F1, cn1, ?_⟩
    cases e2 : m' ρ1 with
    | no => rw [bnd_no e2] at h; exact h
    | ex c fs ρ' =>
      rw [bnd_ex e2] at h
      exact ExP.mono (T := T) (U := U) (ExP.widen h fun j hj => by
        rcases List.mem_append.mp hj with z | z
        · exact List.mem_append_left _ z
        · exact List.mem_append_right _ (List.mem_append_left _ z)) f1
    | ok d2 ρ2 =>
      rw [bnd_ok e2] at h
      intro u H2 F2 S2 cn2 f2 r2 k2 n2
      obtain ⟨on, k1'⟩ := k1.over r1.there f2 w1 a1
      refine ⟨ρ2, F2, cn2, ?_⟩
      cases e4 : m2 ρ2 with
      | no => rw [bnd_no e4] at h; exact h
      | ex c fs ρ' =>
        rw [bnd_ex e4] at h
        refine ExP.mono (T := T ++ U) (U := V) (ExP.widen h fun j hj => by simpa [List.append_assoc] using hj) (f1.trans f2)
      | ok d3 ρ3 =>
        rw [bnd_ok e4] at h
        intro w H3 F3 S3 cn3 f3 r3 k3 n3
        obtain ⟨on2, k1''⟩ := k1'.over (r1.mono f2.tup on).there f3 w2 a2
        have h : Res C k (T ++ (U ++ V)) σ Q (lift (getF d d2 d3) ρ3) F H := h
        cases e6 : getF d d2 d3 with
        | none => rw [e6] at h; exact h.elim
        | some z =>
          rw [e6] at h
          have h : Post C k (T ++ (U ++ V)) ρ3 σ F H z Q := h
          unfold getF at e6
          split at e6
          · rename_i z0
            cases e7 : lookD d d2 with
            | none => rw [e7] at e6; cases e6
            | some o =>
              rw [e7] at e6
              cases e6
              obtain ⟨x2, rfl⟩ := lookD_key e7
              obtain ⟨i2, rfl⟩ := r2.i_inv
              obtain ⟨i3, rfl⟩ := r3.i_inv
              have rr := (r1.mono f2.tup on).mono f3.tup on2
              obtain ⟨a', ov, ea, hg, _, hv⟩ := lookD_inv rr (RD.i (i2.mono f3.tup)) e7
              cases ea
              have fr : Fr C.inf (T ++ (U ++ V)) F H F3 H3 := (f1.trans (f2.trans f3))
              refine ⟨ov, hg, ?_⟩
              rcases hv with ⟨rfl, rfl⟩ | ⟨d', v', U', rfl, rfl, hr, hs⟩
              · exact h w H3 F3 [] cn3 fr (.i i3) (KOk.part cn3 k1'' rr.there (Grow.refl _) Part.nil) (NewK.part fr (n1.mono fun j hj => List.mem_append_left _ hj) (Part.nil (H := H3) (H' := H3) (S := S)))
              · exact h v' H3 F3 U' cn3 fr hr (KOk.part cn3 k1'' rr.there (Grow.refl _) (Part.sub hs)) (NewK.part fr (n1.mono fun j hj => List.mem_append_left _ hj) (Part.sub (H := H3) (H' := H3) hs))
          · cases e6
end
end Mp

namespace Mp
open PySem PySem.Spec PyProof.Rows L2

inductive AR (Z : Z0) (C : Cc) (M : List Nat) (σ : L2.St) (F : FP) (H : Hp) : List Bool → Ps → List (Option Mp.D) → List V → Prop
  | nil : AR Z C M σ F H [] .nil [] []
  | var {i : Nat} {v : V} {ms ps os vs} : σ[i]? = some (some v) → own C.inf i → i ∉ C.lk → AR Z C M σ F H ms ps os vs → AR Z C M σ F H (true :: ms) (.cons (.v i) ps) (none :: os) (v :: vs)
  | ro {p : P} {d : Mp.D} {v : V} {S : List Addr} {ms ps os vs} : RD H d v S → KOk C.inf C.B (kd Z p) F H S → Apart M (kd Z p) → AR Z C M σ F H ms ps os vs → AR Z C M σ F H (false :: ms) (.cons p ps) (some d :: os) (v :: vs)
def tAC (Z : Z0) (C : Cc) (M : List Nat) (ms : List Bool) (ps : Ps) (T : List Nat) (m : Mp.M (List (Option Mp.D))) : TA := fun σ H Q => ∃ ρ F, Cn C.inf C.B C.lk ρ σ H F ∧ match m ρ with
  | .ok os ρ' => ∀ vs H' F', Cn C.inf C.B C.lk ρ' σ H' F' → Fr C.inf T F H F' H' → AR Z C M σ F' H' ms ps os vs → Q vs H'
  | .ex c fs ρ' => ExP C T ρ' σ F H c fs
  | .no => False
def shF (S : List Addr) (F : FP) : FP
  | 0 => S
  | k + 1 => F k
section
variable {C : Cc} {σ : L2.St} {H : Hp}
structure ArF (C : Cc) (M : List Nat) (ms : List Bool) (rs : List (Option Nat)) (ds : List Mp.D) (vs : List V) (σ : L2.St) (F : FP) (H : Hp) (ρ : Env) (Fi : FP) : Prop where
  l1 : ds.length = ms.length
  l2 : vs.length = ms.length
  ou : ∀ k, ds.length ≤ k → Fi k = []
  rd : ∀ k d, ds[k]? = some d → ∃ v, vs[k]? = some v ∧ RD H d v (Fi k)
  mu : ∀ k, ms[k]? = some true → ∃ i v d, rs[k]? = some (some i) ∧ Fi k = F i ∧ own C.inf i ∧ σ[i]? = some (some v) ∧ vs[k]? = some v ∧ getE ρ i = some d ∧ i ∉ C.lk
  ap : ∀ k, ms[k]? ≠ some true → ∀ j ∈ M, own C.inf j → ∀ a ∈ Fi k, a ∉ F j
  bk : ∀ (k i : Nat), rs[k]? = some (some i) → ms[k]? = some true
theorem AR.fill {Z : Z0} {M : List Nat} {F : FP} {ρ : Env} (cn : Cn C.inf C.B C.lk ρ σ H F) {ms : List Bool} {ps : Ps} {os : List (Option Mp.D)} {vs : List V} (ar : AR Z C M σ F H ms ps os vs) :
    ∀ {ds : List Mp.D}, fillA (mutR ms ps) os ρ = some ds → ∃ Fi : FP, ArF C M ms (mutR ms ps) ds vs σ F H ρ Fi := by
  induction ar with
  | nil =>
    intro ds e
    have e : some [] = some ds := e
    cases e
    exact ⟨fun _ => [], rfl, rfl, fun _ _ => rfl, fun k d h => by simp at h, fun k h => by simp at h, fun k _ j _ _ a ha => absurd ha List.not_mem_nil, fun k i h => by simp [mutR] at h⟩
  | @var i v ms ps os vs hv ho hlk r ih =>
    intro ds e
    have em : mutR (true :: ms) (.cons (.v i) ps) = some i :: mutR ms ps := rfl
    rw [em] at e ⊢
    simp only [fillA] at e
    cases e1 : getE ρ i with
    | none => rw [e1] at e; cases e
    | some d =>
      rw [e1] at e
      cases e2 : fillA (mutR ms ps) os ρ with
      | none => rw [e2] at e; cases e
      | some ds' =>
        rw [e2] at e
        cases e
        obtain ⟨Fi, l1, l2, ou, rd, mu, ap, bk⟩ := ih e2
        refine ⟨shF (F i) Fi, by simp [l1], by simp [l2], fun k hk => ?_, fun k d' hk => ?_, fun k hk => ?_, fun k hk => ?_, fun k j hk => ?_⟩
        · cases k with
          | zero => simp at hk
          | succ k => exact ou k (by simpa using hk)
        · cases k with
          | zero =>
            simp at hk
            subst hk
            obtain ⟨v', e3, rd'⟩ := cn.rep i d e1
            rw [hv] at e3
            cases e3
            exact ⟨v, rfl, rd'⟩
          | succ k => exact rd k d' (by simpa using hk)
        · cases k with
          | zero => exact ⟨i, v, d, rfl, rfl, ho, hv, rfl, e1, hlk⟩
          | succ k => exact mu k (by simpa using hk)
        · cases k with
          | zero => exact absurd rfl hk
          | succ k => exact ap k (by simpa using hk)
        · cases k with
          | zero => rfl
          | succ k => exact bk k j (by simpa using hk)
  | @ro p d v S ms ps os vs rd0 ko hap r ih =>
    intro ds e
    have em : mutR (false :: ms) (.cons p ps) = none :: mutR ms ps := by cases p <;> rfl
    rw [em] at e ⊢
    simp only [fillA] at e
    cases e2 : fillA (mutR ms ps) os ρ with
    | none => rw [e2] at e; cases e
    | some ds' =>
      rw [e2] at e
      cases e
      obtain ⟨Fi, l1, l2, ou, rd, mu, ap, bk⟩ := ih e2
      refine ⟨shF S Fi, by simp [l1], by simp [l2], fun k hk => ?_, fun k d' hk => ?_, fun k hk => ?_, fun k hk => ?_, fun k j hk => ?_⟩
      · cases k with
        | zero => simp at hk
        | succ k => exact ou k (by simpa using hk)
      · cases k with
        | zero =>
          simp at hk
          subst hk
          exact ⟨v, rfl, rd0⟩
        | succ k => exact rd k d' (by simpa using hk)
      · cases k with
        | zero => simp at hk
        | succ k => exact mu k (by simpa using hk)
      · cases k with
        | zero =>
          intro j hj ho a ha
          have ha : a ∈ S := ha
          revert ko hap
          generalize kd Z p = kk
          intro ko hap
          cases kk with
          | fr => exact ko.2.1 a ha j
          | bo R => exact ko a ha j ho (hap j hj)
        | succ k => exact ap k (by simpa using hk)
      · cases k with
        | zero => simp at hk
        | succ k => exact bk k j (by simpa using hk)
theorem at_inj {α : Type} [DecidableEq α] : ∀ {l : List (Option α)} {i j : Nat} {a : α}, (l.filterMap id).Nodup → l[i]? = some (some a) → l[j]? = some (some a) → i = j
  | [], i, _, _, _, h, _ => by simp at h
  | o :: l, 0, 0, a, _, _, _ => rfl
  | o :: l, 0, j + 1, a, nd, h1, h2 => by
    simp at h1 h2
    subst h1
    simp only [List.filterMap_cons, id_eq, List.nodup_cons] at nd
    exact absurd (List.mem_filterMap (f := id).mpr ⟨some a, List.mem_of_getElem? h2, rfl⟩) nd.1
  | o :: l, i + 1, 0, a, nd, h1, h2 => by
    simp at h1 h2
    subst h2
    simp only [List.filterMap_cons, id_eq, List.nodup_cons] at nd
    exact absurd (List.mem_filterMap (f := id).mpr ⟨some a, List.mem_of_getElem? h1, rfl⟩) nd.1
  | o :: l, i + 1, j + 1, a, nd, h1, h2 => by
    simp at h1 h2
    have nd' : (l.filterMap id).Nodup := by
      cases o with
      | none => simpa using nd
      | some b => simp only [List.filterMap_cons, id_eq, List.nodup_cons] at nd; exact nd.2
    rw [at_inj nd' h1 h2]
theorem mem_at {α : Type} {l : List (Option α)} {a : α} (h : a ∈ l.filterMap id) : ∃ k : Nat, l[k]? = some (some a) := by
  obtain ⟨o, ho, e⟩ := List.mem_filterMap.mp h
  simp only [id_eq] at e
  subst e
  exact List.getElem?_of_mem ho
theorem putB_get {inf : Inf} : ∀ {rs : List (Option Nat)} {ms : List Mp.D} {ρ : Env}, (rs.filterMap id).Nodup → (∀ i ∈ rs.filterMap id, own inf i ∧ i < ρ.length) → (∀ (k i : Nat), rs[k]? = some (some i) → k < ms.length) →
    (putB inf rs ms ρ).length = ρ.length ∧ (∀ (k i : Nat), rs[k]? = some (some i) → getE (putB inf rs ms ρ) i = ms[k]?) ∧
      ∀ j, j ∉ rs.filterMap id → getE (putB inf rs ms ρ) j = if ∃ i ∈ rs.filterMap id, i ∈ rt inf j then none else getE ρ j
  | [], ms, ρ, _, _, _ => ⟨rfl, fun k i h => by simp at h, fun j _ => by simp [putB]⟩
  | none :: rs, [], ρ, nd, ow, lt => by
    have em : rs.filterMap id = [] := by
      cases q : rs.filterMap id with
      | nil => rfl
      | cons i r =>
        obtain ⟨k, hk⟩ := mem_at (l := rs) (a := i) (by rw [q]; exact List.mem_cons_self)
        exact absurd (lt (k + 1) i (by simpa using hk)) (by simp)
    refine ⟨by simp [putB], fun k i h => absurd (lt k i h) (by simp), fun j _ => ?_⟩
    have : (none :: rs).filterMap id = [] := by simpa using em
    rw [this]
    simp [putB]
  | none :: rs, m :: ms, ρ, nd, ow, lt => by
    have ef : (none :: rs).filterMap id = rs.filterMap id := by simp
    rw [ef] at nd ow ⊢
    obtain ⟨h1, h2, h3⟩ := putB_get (inf := inf) (rs := rs) (ms := ms) (ρ := ρ) nd ow fun k i h => by simpa using lt (k + 1) i (by simpa using h)
    refine ⟨by simpa [putB] using h1, fun k i h => ?_, fun j hj => by simpa [putB] using h3 j hj⟩
    cases k with
    | zero => simp at h
    | succ k => simpa [putB] using h2 k i (by simpa using h)
  | some i :: rs, [], ρ, _, _, lt => absurd (lt 0 i rfl) (by simp)
  | some i :: rs, m :: ms, ρ, nd, ow, lt => by
    have ef : (some i :: rs).filterMap id = i :: rs.filterMap id := by simp
    rw [ef] at nd ow ⊢
    obtain ⟨n1, n2⟩ := List.nodup_cons.mp nd
    obtain ⟨oi, li⟩ := ow i List.mem_cons_self
    obtain ⟨h1, h2, h3⟩ := putB_get (inf := inf) (rs := rs) (ms := ms) (ρ := setE inf i m ρ) n2 (fun j hj => ⟨(ow j (List.mem_cons_of_mem _ hj)).1, by rw [len_setE]; exact (ow j (List.mem_cons_of_mem _ hj)).2⟩) fun k i h => by simpa using lt (k + 1) i (by simpa using h)
    refine ⟨by simp only [putB]; rw [h1, len_setE], fun k j h => ?_, fun j hj => ?_⟩
    · cases k with
      | zero =>
        simp at h
        subst h
        simp only [putB]
        rw [h3 i n1, getE_setE li, if_pos rfl]
        rw [if_neg]
        · rfl
        · rintro ⟨j, hj, hr⟩
          rw [oi] at hr
          rw [List.mem_singleton.mp hr] at hj
          exact n1 hj
      | succ k => simp only [putB]; exact h2 k j (by simpa using h)
    · simp only [List.mem_cons, not_or] at hj
      simp only [putB]
      rw [h3 j hj.2, getE_setE li, if_neg hj.1]
      by_cases hr : i ∈ rt inf j
      · have hx : ∃ l ∈ i :: rs.filterMap id, l ∈ rt inf j := ⟨i, List.mem_cons_self, hr⟩
        rw [if_pos hr, if_pos hx]
        split <;> rfl
      · rw [if_neg hr]
        by_cases hx : ∃ i ∈ rs.filterMap id, i ∈ rt inf j
        · obtain ⟨l, hl, hlr⟩ := hx
          rw [if_pos ⟨l, hl, hlr⟩, if_pos ⟨l, List.mem_cons_of_mem _ hl, hlr⟩]
        · rw [if_neg hx, if_neg]
          rintro ⟨l, hl, hlr⟩
          rcases List.mem_cons.mp hl with rfl | hl
          · exact hr hlr
          · exact hx ⟨l, hl, hlr⟩
theorem call_read {Z : Z0} {M : List Nat} {ms : List Bool} {ps : Ps} {T : List Nat} {g : List Mp.D → FR} {m : Mp.M (List (Option Mp.D))} {Q : VK} (hM : M = mutS ms ps) (nd : M.Nodup)
    (h : tE C .fr (T ++ M) (bnd m fun os => callM C.inf g (mutR ms ps) os) σ H Q) : tAC Z C M ms ps T m σ H fun vs H1 => SpF C.exc ms g vs H1 Q (WE C.W σ) := by
  obtain ⟨ρ, F, cn, h⟩ := h
  refine ⟨ρ, F, cn, ?_⟩
  cases e : m ρ with
  | no => rw [bnd_no e] at h; exact h
  | ex c fs ρ' => rw [bnd_ex e] at h; exact ExP.widen h fun j hj => List.mem_append_left _ hj
  | ok os ρ1 =>
    rw [bnd_ok e] at h
    intro vs H1 F1 cn1 f1 ar
    unfold callM at h
    cases e1 : fillA (mutR ms ps) os ρ1 with
    | none => rw [e1] at h; exact h.elim
    | some ds =>
      rw [e1] at h
      dsimp only at h
      obtain ⟨Fi, l1, l2, ou, rd, mu, ap, bk⟩ := ar.fill cn1 e1
      have nd' : ((mutR ms ps).filterMap id).Nodup := by rw [hM] at nd; exact nd
      have inM : ∀ {k i}, (mutR ms ps)[k]? = some (some i) → i ∈ M := fun {k i} hk => by
        rw [hM]
        exact List.mem_filterMap (f := id).mpr ⟨some i, List.mem_of_getElem? hk, rfl⟩
      have hin : InF ms H1 ds vs Fi := by
        refine ⟨l1, l2, rd, ou, fun k hk => ?_, fun k hk a ha => ?_, fun i j hj hij a ha hx => ?_⟩
        · obtain ⟨i, v, d, hi, hF, ho, _⟩ := mu k hk
          rw [hF]; exact cn1.nd i ho
        · obtain ⟨i, v, d, hi, hF, ho, _, _, _, hlk⟩ := mu k hk
          rw [hF] at ha
          exact cn1.ex i ho hlk a ha
        · obtain ⟨m1, v, d, h1, hF, ho, _⟩ := mu j hj
          rw [hF] at hx
          by_cases hi : ms[i]? = some true
          · obtain ⟨m2, v2, d2, h2, hF2, ho2, _⟩ := mu i hi
            rw [hF2] at ha
            refine cn1.sep m2 m1 ho (fun z => ?_) a ha hx
            rw [ho2] at z
            have z := List.mem_singleton.mp z
            subst z
            exact hij (at_inj nd' h2 h1)
          · exact ap i hi m1 (inM h1) ho a ha hx
      refine ⟨ds, Fi, hin, ?_⟩
      -- behind the call
      have put : ∀ {H' : Hp} {mm : List Mp.D} {Fm : FP}, OutF ms H1 Fi vs H' mm Fm → ∃ Fm' : FP, ∃ dm, Put C.inf M σ F1 H1 [] dm Fm' H' ∧ (∀ j, getE (putB C.inf (mutR ms ps) mm ρ1) j = if j ∈ M then some (dm j) else if ∃ i ∈ M, i ∈ rt C.inf j then none else getE ρ1 j) ∧
          (putB C.inf (mutR ms ps) mm ρ1).length = ρ1.length ∧ (∀ (k i : Nat), (mutR ms ps)[k]? = some (some i) → Fm' i = Fm k) ∧ ∀ i ∈ M, ∃ k : Nat, (mutR ms ps)[k]? = some (some i) ∧ ms[k]? = some true ∧ Fi k = F1 i := by
        intro H' mm Fm o
        have bkM : ∀ i ∈ M, ∃ k : Nat, (mutR ms ps)[k]? = some (some i) ∧ ms[k]? = some true ∧ Fi k = F1 i ∧ own C.inf i ∧ (∃ v, σ[i]? = some (some v) ∧ vs[k]? = some v) ∧ i < ρ1.length := fun i hi => by
          obtain ⟨k, hk⟩ := mem_at (l := mutR ms ps) (a := i) (by rw [hM] at hi; exact hi)
          obtain ⟨i', v, d, h1, h2, h3, h4, h5, h6, _⟩ := mu k (bk k i hk)
          rw [hk] at h1
          cases h1
          refine ⟨k, hk, bk k i hk, h2, h3, ⟨v, h4, h5⟩, ?_⟩
          rcases Nat.lt_or_ge i ρ1.length with z | z
          · exact z
          · unfold getE at h6; rw [List.getElem?_eq_none z] at h6; cases h6
        have pg := putB_get (inf := C.inf) (rs := mutR ms ps) (ms := mm) (ρ := ρ1) nd' (fun i hi => by
          obtain ⟨k, _, _, _, h1, _, h2⟩ := bkM i (by rw [hM]; exact hi)
          exact ⟨h1, h2⟩) fun k i hk => by
            obtain ⟨d, v, h1, _⟩ := o.rd k (bk k i hk)
            rcases Nat.lt_or_ge k mm.length with z | z
            · exact z
            · rw [List.getElem?_eq_none z] at h1; cases h1
        let ix : Nat → Nat := fun i => (mutR ms ps).findIdx (· == some i)
        have hix : ∀ {k i}, (mutR ms ps)[k]? = some (some i) → ix i = k := fun {k i} hk => by
          have hlt : ix i < (mutR ms ps).length := List.findIdx_lt_length_of_exists ⟨some i, List.mem_of_getElem? hk, by simp⟩
          have h2 : (mutR ms ps)[ix i]? = some (some i) := by
            rw [List.getElem?_eq_getElem hlt]
            have := List.findIdx_getElem (w := hlt)
            simpa using this
          exact at_inj nd' h2 hk
        refine ⟨fun i => Fm (ix i), fun i => (mm[ix i]?).getD default, ⟨fun i hi => ?_, o.tup, o.there, fun a b e hn => o.keep a b e fun k hk => ?_, fun i hi => ?_, fun i hi => ?_, fun i hi => ?_, fun i hi a ha => ?_, fun i hi j hj hij => ?_⟩, fun j => ?_, pg.1, fun k i hk => by show Fm (ix i) = Fm k; rw [hix hk], fun i hi => ?_⟩
        · obtain ⟨k, _, _, _, h1, _⟩ := bkM i hi; exact h1
        · obtain ⟨i, v, d, h1, h2, _⟩ := mu k hk
          rw [h2]; exact hn i (inM h1)
        · obtain ⟨k, h1, h2, h3, h4, ⟨v, h5, h6⟩, _⟩ := bkM i hi
          obtain ⟨d, v', h7, h8, h9⟩ := o.rd k h2
          rw [h6] at h8
          cases h8
          refine ⟨v, h5, ?_⟩
          rw [hix h1, h7]
          exact h9
        · obtain ⟨k, h1, h2, _⟩ := bkM i hi
          rw [hix h1]; exact o.nd k h2
        · obtain ⟨k, h1, h2, _⟩ := bkM i hi
          rw [hix h1]; exact o.fz k h2
        · obtain ⟨k, h1, h2, h3, _⟩ := bkM i hi
          rw [hix h1] at ha
          rcases o.new k h2 a ha with z | ⟨j, hj, z⟩
          · exact .inl z
          · obtain ⟨i2, v, d, h4, h5, _⟩ := mu j hj
            rw [h5] at z
            exact .inr (.inl ⟨i2, inM h4, z⟩)
        · obtain ⟨k, h1, h2, _⟩ := bkM i hi
          obtain ⟨l, h3, h4, _⟩ := bkM j hj
          rw [hix h1, hix h3]
          exact o.sep k l h2 h4 fun z => hij (by subst z; rw [h1] at h3; cases h3; rfl)
        · by_cases hj : j ∈ M
          · obtain ⟨k, h1, h2, _⟩ := bkM j hj
            obtain ⟨d, v', h7, h8, h9⟩ := o.rd k h2
            rw [if_pos hj, pg.2.1 k j h1]; show mm[k]? = some ((mm[ix j]?).getD default); rw [hix h1, h7]; rfl
          · rw [if_neg hj, pg.2.2 j (by rw [hM] at hj; exact hj)]
            have : (∃ i ∈ List.filterMap id (mutR ms ps), i ∈ rt C.inf j) ↔ ∃ i ∈ M, i ∈ rt C.inf j := by rw [hM]; rfl
            simp only [this]
        · obtain ⟨k, h1, h2, h3, _⟩ := bkM i hi
          exact ⟨k, h1, h2, h3⟩
      cases e2 : g ds with
      | no => rw [e2] at h; exact h.elim
      | ok d mm =>
        rw [e2] at h
        intro v H' S Fm o rdv ndS hS
        obtain ⟨Fm', dm, p, hg, hl, hF, hb⟩ := put o
        obtain ⟨k1, k2⟩ := p.val cn1 f1 (fun a ha => absurd ha List.not_mem_nil) KOk.nil ndS fun a ha => by
          obtain ⟨h1, h2, h3⟩ := hS a ha
          have h2' : H1 a = none ∨ (∃ j ∈ M, a ∈ F1 j) ∨ a ∈ ([] : List Addr) := by
            rcases h2 with z | ⟨j, hj, z⟩
            · exact .inl z
            · obtain ⟨i2, v, d, h4, h5, _⟩ := mu j hj
              rw [h5] at z
              exact .inr (.inl ⟨i2, inM h4, z⟩)
          have h3' : ∀ i ∈ M, a ∉ Fm' i := fun i hi => by
            obtain ⟨k, h4, h5, _⟩ := hb i hi
            rw [hF k i h4]; exact h3 k h5
          exact ⟨h1, h2', h3'⟩
        exact h v H' _ S (p.cn KOk.nil cn1 hl hg) (p.fr f1 (fun a ha => absurd ha List.not_mem_nil) (B := C.B) KOk.nil fun a ha => absurd ha List.not_mem_nil) rdv k1 k2
      | ex c fs mm =>
        rw [e2] at h
        intro cls d H' Fm o x
        obtain ⟨Fm', dm, p, hg, hl, hF, hb⟩ := put o
        exact h cls d H' _ (p.cn KOk.nil cn1 hl hg) (p.fr f1 (fun a ha => absurd ha List.not_mem_nil) (B := C.B) KOk.nil fun a ha => absurd ha List.not_mem_nil) x
end
end Mp

namespace Mp
open PySem PySem.Spec PyProof.Rows L2

def VPost (H : Hp) (a : Addr) (S0 Sa : List Addr) (d0' res : Mp.D) (Q : VK) : Prop := ∀ H' rv S0' Sr, (∀ b o, b ≠ a → H b = some o → H' b = some o) → H' a ≠ none → RD H' d0' (.ref a) S0' → RD H' res rv Sr →
  (S0' ++ Sr).Nodup → (∀ x ∈ S0' ++ Sr, NFz H' x ∧ (x ∈ S0 ∨ x ∈ Sa ∨ H x = none)) → Q rv H'
def VMt (f : List Mp.D → Mp.D → Option (Mp.D × Mp.D)) (r : V → List V → Hp → VK → Prop) : Prop := ∀ ads avs Sa d0 a S0 H Q d0' res, RD H d0 (.ref a) S0 → (S0 ++ Sa).Nodup → (∀ x ∈ S0, NFz H x) → (∀ x ∈ Sa, NFz H x) →
  RDs H ads avs Sa → f ads d0 = some (d0', res) → VPost H a S0 Sa d0' res Q → r (.ref a) avs H Q
theorem Rd.plain {H : Hp} {a : Addr} {u : HO} (h : L2.Rd H a u) (n : NFz H a) : H a = some u := by
  rcases h with h | ⟨o, h⟩
  · exact h
  · exact absurd h (n o u)
theorem RDs.append {H : Hp} : ∀ {ds es : List Mp.D} {vs ws : List V} {S T : List Addr}, RDs H ds vs S → RDs H es ws T → RDs H (ds ++ es) (vs ++ ws) (S ++ T)
  | _, _, _, _, _, _, .nil, h => h
  | _, _, _, _, _, _, .cons h r, h2 => by
    rw [List.append_assoc]
    exact .cons h (RDs.append r h2)
theorem upd_on {H : Hp} {a : Addr} {o : HO} {S : List Addr} (h : a ∉ S) : On S H (upd H a o) := fun b hb x e => by
  rw [upd_ne (fun z => h (by rw [← z]; exact hb))]; exact e
theorem upd_tupK {H : Hp} {a : Addr} {o u : HO} (h : H a = some u) (hn : ∀ vs, u ≠ .tup vs) : TupK H (upd H a o) := fun b vs e => by
  have hb : b ≠ a := fun z => by
    subst z
    have e : H b = some (.tup vs) := e
    rw [h] at e
    cases e
    exact hn vs rfl
  show upd H a o b = _
  rw [upd_ne hb]; exact e
theorem upd_nfz {H : Hp} {a x : Addr} {o : HO} (h : NFz H x) (ho : ∀ p q, o ≠ .frz p q) : NFz (upd H a o) x := fun p q e => by
  by_cases z : x = a
  · subst z
    rw [upd_same] at e
    cases e
    exact ho p q rfl
  · rw [upd_ne z] at e; exact h p q e
theorem list_post {H : Hp} {a : Addr} {vs vs' : List V} {S0 Sa T S1 Sr : List Addr} {ds' : List Mp.D} {res : Mp.D} {rv : V} {Q : VK} (hp : VPost H a S0 Sa (.lst ds') res Q) (hH : H a = some (.lst vs)) (hS : S0 = a :: T) (nd : (S0 ++ Sa).Nodup)
    (n0 : ∀ x ∈ S0, NFz H x) (na : ∀ x ∈ Sa, NFz H x) (r1 : RDs H ds' vs' S1) (r2 : RD H res rv Sr) (nd1 : (S1 ++ Sr).Nodup) (sub : ∀ x ∈ S1 ++ Sr, x ∈ T ∨ x ∈ Sa) : Q rv (upd H a (.lst vs')) := by
  have ha : a ∉ S1 ++ Sr := fun z => by
    subst hS
    have nd := (List.nodup_cons.mp nd).1
    rcases sub a z with z | z
    · exact nd (List.mem_append_left _ z)
    · exact nd (List.mem_append_right _ z)
  have tk := upd_tupK (o := .lst vs') hH (fun _ z => by cases z)
  refine hp (upd H a (.lst vs')) rv (a :: S1) Sr (fun b o hb e => by rw [upd_ne hb]; exact e) (by rw [upd_same]; exact fun z => by cases z) (.lst (.inl upd_same) (r1.mono tk (upd_on fun z => ha (List.mem_append_left _ z))))
    (r2.mono tk (upd_on fun z => ha (List.mem_append_right _ z))) (List.nodup_cons.mpr ⟨ha, nd1⟩) fun x hx => ?_
  rcases List.mem_cons.mp hx with rfl | hx
  · exact ⟨fun p q e => (by rw [upd_same] at e; cases e), .inl (by rw [hS]; exact List.mem_cons_self)⟩
  · rcases sub x hx with z | z
    · have : x ∈ S0 := by rw [hS]; exact List.mem_cons_of_mem _ z
      exact ⟨upd_nfz (n0 x this) (fun _ _ z => by cases z), .inl this⟩
    · exact ⟨upd_nfz (na x z) (fun _ _ z => by cases z), .inr (.inl z)⟩
theorem RD.lst_inv' {H : Hp} {xs : List Mp.D} {a : Addr} {S : List Addr} (h : RD H (.lst xs) (.ref a) S) : ∃ vs T, L2.Rd H a (.lst vs) ∧ RDs H xs vs T ∧ S = a :: T := by
  obtain ⟨b, vs, T, e, h1, h2, h3⟩ := h.lst_inv
  cases e
  exact ⟨vs, T, h1, h2, h3⟩
theorem v_append : VMt appF rAppend := by
  intro ads avs Sa d0 a S0 H Q d0' res h0 nd n0 na ra e hp
  unfold appF at e
  split at e <;> try cases e
  split at e <;> cases e
  rename_i x _ ds hl
  obtain ⟨vs, T, h1, h2, hS⟩ := h0.lst_inv'
  obtain ⟨v, rfl, rx⟩ := ra.one
  have hH := Rd.plain h1 (n0 a (by rw [hS]; exact List.mem_cons_self))
  refine ⟨a, vs, v, rfl, rfl, hH, by rw [← h2.length]; exact hl, ?_⟩
  have nd' : (T ++ Sa).Nodup := by rw [hS] at nd; exact (List.nodup_cons.mp nd).2
  refine list_post hp hH hS nd n0 na (S1 := T ++ Sa) (Sr := []) ?_ (.i .non) (by simpa using nd') (fun x hx => by simpa using hx)
  have := RDs.append h2 (RDs.cons rx .nil)
  simpa using this
theorem RDs.last {H : Hp} : ∀ {ds : List Mp.D} {vs : List V} {S : List Addr} {d : Mp.D}, RDs H ds vs S → ds.getLast? = some d → ∃ v S1 S2, vs[vs.length - 1]? = some v ∧ RD H d v S2 ∧ RDs H ds.dropLast vs.dropLast S1 ∧ S = S1 ++ S2
  | _, _, _, _, .nil, e => by cases e
  | _, _, _, _, .cons (v := v0) (S := S0) h0 .nil, e => by
    cases e
    exact ⟨v0, [], S0, rfl, h0, .nil, by simp⟩
  | d0 :: d1 :: ds, v0 :: v1 :: vs, _, d, .cons (S := S0) h0 (.cons h1 r1), e => by
    rw [List.getLast?_cons_cons] at e
    obtain ⟨v, U1, U2, e1, e2, e3, e4⟩ := RDs.last (.cons h1 r1) e
    refine ⟨v, S0 ++ U1, U2, by simpa using e1, e2, ?_, by rw [e4, List.append_assoc]⟩
    rw [List.dropLast_cons_cons, List.dropLast_cons_cons]
    exact .cons h0 e3
theorem v_pop : VMt popF rPop := by
  intro ads avs Sa d0 a S0 H Q d0' res h0 nd n0 na ra e hp
  unfold popF at e
  split at e <;> try cases e
  split at e <;> cases e
  rename_i d el
  obtain ⟨vs, T, h1, h2, hS⟩ := h0.lst_inv'
  cases ra
  have hH := Rd.plain h1 (n0 a (by rw [hS]; exact List.mem_cons_self))
  obtain ⟨v, T1, T2, e1, e2, e3, e4⟩ := h2.last el
  have nd' : (T1 ++ T2).Nodup := by rw [hS, e4] at nd; simpa using (List.nodup_cons.mp nd).2
  refine ⟨a, vs, v, rfl, rfl, hH, e1, list_post hp hH hS nd n0 na e3 e2 nd' fun x hx => .inl (by rw [e4]; exact hx)⟩
theorem v_popAt : VMt popAtF rPopAt := by
  intro ads avs Sa d0 a S0 H Q d0' res h0 nd n0 na ra e hp
  unfold popAtF at e
  split at e <;> try cases e
  rename_i ds
  obtain ⟨vs, T, h1, h2, hS⟩ := h0.lst_inv'
  obtain ⟨v, rfl, rx⟩ := ra.one
  obtain ⟨rfl, rfl⟩ := rx.int_inv
  have hH := Rd.plain h1 (n0 a (by rw [hS]; exact List.mem_cons_self))
  cases h2 with
  | @cons _ v0 _ vs S1 T1 h3 h4 =>
    have nd' : (T1 ++ S1).Nodup := by
      rw [hS] at nd
      have this : (S1 ++ T1).Nodup := by simpa using (List.nodup_cons.mp nd).2
      exact (List.perm_append_comm.nodup_iff).mp this
    refine ⟨a, v0 :: vs, 0, 0, v0, rfl, rfl, hH, by decide, by decide, by simp [seqIndex?], rfl, ?_⟩
    exact list_post hp hH hS nd n0 na h4 h3 nd' fun x hx => .inl (by
      rcases List.mem_append.mp hx with z | z
      · exact List.mem_append_right _ z
      · exact List.mem_append_left _ z)
theorem v_extend : VMt extF rExtend := by
  intro ads avs Sa d0 a S0 H Q d0' res h0 nd n0 na ra e hp
  unfold extF at e
  split at e <;> try cases e
  split at e <;> cases e
  rename_i es _ ds hl
  obtain ⟨vs, T, h1, h2, hS⟩ := h0.lst_inv'
  obtain ⟨v, rfl, rx⟩ := ra.one
  obtain ⟨b, ws, U, rfl, h3, h4, hU⟩ := rx.lst_inv
  have hH := Rd.plain h1 (n0 a (by rw [hS]; exact List.mem_cons_self))
  have hB := Rd.plain h3 (na b (by rw [hU]; exact List.mem_cons_self))
  refine ⟨a, b, vs, ws, rfl, rfl, hH, hB, by rw [← h2.length, ← h4.length]; exact hl, ?_⟩
  have nd' : (T ++ U).Nodup := by
    rw [hS, hU] at nd
    have := (List.nodup_cons.mp nd).2
    exact this.sublist (List.Sublist.append (List.Sublist.refl _) (List.sublist_cons_self _ _))
  refine list_post hp hH hS nd n0 na (S1 := T ++ U) (Sr := []) (RDs.append h2 h4) (.i .non) (by simpa using nd') fun x hx => ?_
  rw [List.append_nil] at hx
  rcases List.mem_append.mp hx with z | z
  · exact .inl z
  · exact .inr (by rw [hU]; exact List.mem_cons_of_mem _ z)
end Mp

namespace Mp
open PySem PySem.Spec PyProof.Rows L2

theorem RDs.at {H : Hp} : ∀ {ds : List Mp.D} {vs : List V} {S : List Addr} {j : Nat} {d : Mp.D}, RDs H ds vs S → ds[j]? = some d → ∃ v S1 S2 Sj, vs[j]? = some v ∧ RD H d v Sj ∧ S = S1 ++ Sj ++ S2 ∧
    ∀ H' d' Sj', TupK H H' → On (S1 ++ S2) H H' → RD H' d' v Sj' → RDs H' (ds.set j d') vs (S1 ++ Sj' ++ S2)
  | _, _, _, _, _, .nil, e => by simp at e
  | _, _, _, 0, _, .cons (v := v) (S := S) (T := T) h r, e => by
    simp at e
    subst e
    exact ⟨v, [], T, S, rfl, h, by simp, fun H' d' Sj' t o r' => by simpa using RDs.cons r' (r.mono t (by simpa using o))⟩
  | _, _, _, j + 1, _, .cons (S := S) h r, e => by
    obtain ⟨v, S1, S2, Sj, e1, e2, e3, e4⟩ := RDs.at (j := j) r (by simpa using e)
    refine ⟨v, S ++ S1, S2, Sj, by simpa using e1, e2, by rw [e3]; simp [List.append_assoc], fun H' d' Sj' t o r' => ?_⟩
    have o' : On (S ++ (S1 ++ S2)) H H' := by simpa [List.append_assoc] using o
    have := RDs.cons (h.mono t o'.left) (e4 H' d' Sj' t o'.right r')
    simpa [List.append_assoc] using this
theorem RDk.at {H : Hp} {k : Key} : ∀ {ds : List (Key × Mp.D)} {vs : List (Key × V)} {S : List Addr} {d : Mp.D}, RDk H ds vs S → getK ds k = some d → ∃ v S1 S2 Sj, valV vs k = some v ∧ RD H d v Sj ∧ S = S1 ++ Sj ++ S2 ∧
    ∀ H' d' Sj', TupK H H' → On (S1 ++ S2) H H' → RD H' d' v Sj' → RDk H' (putA k d' ds) vs (S1 ++ Sj' ++ S2)
  | _, _, _, _, .nil, e => by cases e
  | _, _, _, d, .cons (k := k') (d := d0) (v := v) (ds := ds) (vs := vs) (S := S) (T := T) h r, e => by
    by_cases ek : k' = k
    · unfold getK at e
      rw [if_pos ek] at e
      cases e
      refine ⟨v, [], T, S, valV_pos ek, h, by simp, fun H' d' Sj' t o r' => ?_⟩
      unfold putA
      rw [if_pos ek]
      simpa using RDk.cons r' (r.mono t (by simpa using o))
    · unfold getK at e
      rw [if_neg ek] at e
      obtain ⟨v', S1, S2, Sj, e1, e2, e3, e4⟩ := RDk.at r e
      refine ⟨v', S ++ S1, S2, Sj, by rw [valV_neg (p := (k', v)) ek]; exact e1, e2, by rw [e3]; simp [List.append_assoc], fun H' d' Sj' t o r' => ?_⟩
      have o' : On (S ++ (S1 ++ S2)) H H' := by simpa [List.append_assoc] using o
      unfold putA
      rw [if_neg ek]
      have := RDk.cons (k := k') (h.mono t o'.left) (e4 H' d' Sj' t o'.right r')
      simpa [List.append_assoc] using this
def At1 (H : Hp) (x y v : V) : Prop := ∃ a, x = .ref a ∧ ((∃ vs i, L2.Rd H a (.lst vs) ∧ y = .int i ∧ atI vs i = some v) ∨ ∃ kvs k, L2.Rd H a (.dK kvs) ∧ y = kV k ∧ valV kvs k = some v)
theorem Rd.fun {H : Hp} {a : Addr} {u w : HO} (h1 : L2.Rd H a u) (h2 : L2.Rd H a w) (n1 : ∀ p q, u ≠ .frz p q) (n2 : ∀ p q, w ≠ .frz p q) : u = w := by
  rcases h1 with h1 | ⟨o, h1⟩ <;> rcases h2 with h2 | ⟨p, h2⟩ <;> rw [h1] at h2 <;> cases h2
  · rfl
  · exact absurd rfl (n1 _ _)
  · exact absurd rfl (n2 _ _)
  · rfl
theorem At1.fun {H : Hp} {x y v w : V} (h1 : At1 H x y v) (h2 : At1 H x y w) : v = w := by
  obtain ⟨a, rfl, h1⟩ := h1
  obtain ⟨b, e, h2⟩ := h2
  cases e
  rcases h1 with ⟨vs, i, e1, e2, e3⟩ | ⟨vs, i, e1, e2, e3⟩ <;> rcases h2 with ⟨vs', i', e1', e2', e3'⟩ | ⟨vs', i', e1', e2', e3'⟩
  · have := Rd.fun e1 e1' (fun _ _ z => by cases z) (fun _ _ z => by cases z)
    cases this
    rw [e2] at e2'
    cases e2'
    rw [e3] at e3'
    cases e3'
    rfl
  · have := Rd.fun e1 e1' (fun _ _ z => by cases z) (fun _ _ z => by cases z)
    cases this
  · have := Rd.fun e1 e1' (fun _ _ z => by cases z) (fun _ _ z => by cases z)
    cases this
  · have := Rd.fun e1 e1' (fun _ _ z => by cases z) (fun _ _ z => by cases z)
    cases this
    rw [e2] at e2'
    rw [kV_inj e2', e3'] at e3
    cases e3
    rfl
theorem At1.on {H H' : Hp} {a : Addr} {y v : V} (h : At1 H (.ref a) y v) (o : On [a] H H') : At1 H' (.ref a) y v := by
  obtain ⟨b, e, h⟩ := h
  cases e
  refine ⟨a, rfl, h.imp (fun ⟨vs, i, e1, e2⟩ => ⟨vs, i, Rd.on e1 o, e2⟩) fun ⟨vs, i, e1, e2⟩ => ⟨vs, i, Rd.on e1 o, e2⟩⟩
theorem s_at1 {X : Cx} (hu : X.A.units + 1 < cLine) : IxR X fun x y H Q => ∃ v, At1 H x y v ∧ Q v H := by
  intro value slice pins s σ H x y v u Q J rx ry h hs
  obtain ⟨w, ⟨a, rfl, h⟩, q⟩ := h
  rcases h with ⟨vs, i, e1, rfl, e3⟩ | ⟨kvs, k, e1, rfl, e3⟩
  · exact ix_list value slice pins s σ H _ _ v u Q J rx ry ⟨a, vs, i, w, rfl, rfl, .inl e1, e3, q⟩ hs
  · have g : DGet H a (kV k) (some w) := .inl ⟨kvs, k, e1, rfl, e3.symm⟩
    cases rx
    exact tail_any (dict_typeIs J g) PySem.F.slot_dict_getitem.lookup (d_getItem (by omega) J g ry fun w' s3 I3 rw' => ⟨w, H, I3, rw', q⟩) hs
theorem at1_ctx {H : Hp} {d k d1 : Mp.D} {x y : V} {S T : List Addr} (h : RD H d x S) (hk : RD H k y T) (e : at1 k d = some d1) : ∃ v a, x = .ref a ∧ At1 H x y v ∧ ∃ S1 S2 Sj, RD H d1 v Sj ∧ S = a :: (S1 ++ Sj ++ S2) ∧
    ∀ H' d1' Sj', TupK H H' → On (a :: (S1 ++ S2)) H H' → RD H' d1' v Sj' → RD H' (put1 k d d1') x (a :: (S1 ++ Sj' ++ S2)) := by
  cases h with
  | @lst a vs ds S h1 h2 =>
    have e : ixF (.lst ds) k = some d1 := e
    unfold ixF at e
    have ek : kids (.lst ds) = some ds := rfl
    rw [ek] at e
    dsimp only at e
    split at e
    · rename_i i _
      obtain ⟨rfl, _⟩ := hk.int_inv
      obtain ⟨j, e1, e2⟩ := atI_mem e
      obtain ⟨v, S1, S2, Sj, q1, q2, q3, q4⟩ := h2.at e2
      refine ⟨v, a, rfl, ⟨a, rfl, .inl ⟨vs, i, h1, rfl, atI_of (by rw [← h2.length]; exact e1) q1⟩⟩, S1, S2, Sj, q2, by rw [q3], fun H' d1' Sj' t o r => ?_⟩
      have ep : put1 (.i (.int i)) (.lst ds) d1' = .lst (ds.set j d1') := by
        unfold put1
        simp only [e1]
      rw [ep]
      exact .lst (Rd.on h1 o) (q4 H' d1' Sj' t o.tail r)
    · cases e
  | @dk a kvs kds S h1 h2 hn =>
    have e : ixF (.dk kds) k = some d1 := e
    unfold ixF at e
    have ek : kids (.dk kds) = none := rfl
    rw [ek] at e
    dsimp only at e
    have e : (lookD (.dk kds) k).join = some d1 := by
      unfold ixS at e
      exact e
    unfold lookD at e
    dsimp only at e
    cases q : keyD k with
    | none => rw [q] at e; cases e
    | some kk =>
      rw [q] at e
      have e : getK kds kk = some d1 := e
      obtain ⟨rfl, _⟩ := keyD_inv hk q
      obtain ⟨v, S1, S2, Sj, q1, q2, q3, q4⟩ := h2.at e
      refine ⟨v, a, rfl, ⟨a, rfl, .inr ⟨kvs, kk, h1, rfl, q1⟩⟩, S1, S2, Sj, q2, by rw [q3], fun H' d1' Sj' t o r => ?_⟩
      have ep : put1 k (.dk kds) d1' = .dk (putA kk d1' kds) := by
        unfold put1
        simp only [q]
      rw [ep]
      exact .dk (Rd.on h1 o) (q4 H' d1' Sj' t o.tail r) hn
  | _ => cases e

section
variable {C : Cc} {σ : L2.St} {H : Hp}
theorem mut_core {T : List Nat} {ρ1 : Env} {i : Nat} {d d' d0' res : Mp.D} {v : V} {a : Addr} {F F1 : FP} {H1 : Hp} {S0 Sa : List Addr} {Q : VK} (cn : Cn C.inf C.B C.lk ρ1 σ H1 F1) (fr : Fr C.inf T F H F1 H1) (ho : own C.inf i) (hl : i ∉ C.lk)
    (hd : getE ρ1 i = some d) (hv : σ[i]? = some (some v)) (hs : ∀ x ∈ S0, x ∈ F1 i) (ha : a ∈ S0) (hnt : ∀ vs, ¬ TuA H1 a vs) (ka : KOk C.inf C.B .fr F1 H1 Sa) (na : New C.inf T F H Sa) (tha : ∀ x ∈ Sa, H1 x ≠ none)
    (ctx : ∀ H' S0', TupK H1 H' → (∀ b o, b ≠ a → H1 b = some o → H' b = some o) → RD H' d0' (.ref a) S0' → S0'.Nodup → (∀ x ∈ S0', x ∈ S0 ∨ x ∉ F1 i) → ∃ S', RD H' d' v S' ∧ S'.Nodup ∧ (∀ x ∈ S', x ∈ S0' ∨ (x ∈ F1 i ∧ x ∉ S0)))
    (h : Post C .fr (T ++ [i]) (setE C.inf i d' ρ1) σ F H res Q) : VPost H1 a S0 Sa d0' res Q := by
  intro H' rv S0' Sr chg hna r0 rr nd sub
  have tk : TupK H1 H' := fun b vs e => by
    by_cases z : b = a
    · subst z; exact absurd e (hnt vs)
    · exact chg b _ z e
  have th : ∀ b, H1 b ≠ none → H' b ≠ none := fun b hb => by
    by_cases z : b = a
    · subst z; exact hna
    · cases q : H1 b with
      | none => exact absurd q hb
      | some o => rw [chg b o z q]; exact fun w => by cases w
  have far : ∀ x, (x ∈ S0 ∨ x ∈ Sa ∨ H1 x = none) → x ∈ S0 ∨ x ∉ F1 i := fun x hx => by
    rcases hx with z | z | z
    · exact .inl z
    · exact .inr (ka.2.1 x z i)
    · exact .inr fun w => cn.there w z
  obtain ⟨S', rS, ndS, subS⟩ := ctx H' S0' tk chg r0 (List.nodup_append.mp nd).1 fun x hx => far x (sub x (List.mem_append_left _ hx)).2
  have fz : ∀ x, x ∈ F1 i → x ∉ S0 → NFz H' x := fun x hx hn => by
    have hxa : x ≠ a := fun z => hn (by rw [z]; exact ha)
    intro p q e
    cases w : H1 x with
    | none => exact cn.there hx w
    | some o =>
      rw [chg x o hxa w] at e
      cases e
      exact cn.ex i ho hl x hx _ _ w
  have hli : i < ρ1.length := by
    rcases Nat.lt_or_ge i ρ1.length with z | z
    · exact z
    · unfold getE at hd; rw [List.getElem?_eq_none z] at hd; cases hd
  have one : ∀ {j}, j ∈ [i] ↔ j = i := fun {j} => List.mem_singleton
  have put : Put C.inf [i] σ F1 H1 Sa (fun _ => d') (fun _ => S') H' := by
    refine ⟨fun j hj => by rw [one.mp hj]; exact ho, tk, th, fun b o e hn => chg b o (fun z => hn i (one.mpr rfl) (by rw [z]; exact hs a ha)) e, fun j hj => ⟨v, by rw [one.mp hj]; exact hv, rS⟩, fun _ _ => ndS, fun _ _ x hx => ?_, fun _ _ x hx => ?_, fun j hj k hk hjk => absurd ((one.mp hj).trans (one.mp hk).symm) hjk⟩
    · rcases subS x hx with z | ⟨z1, z2⟩
      · exact (sub x (List.mem_append_left _ z)).1
      · exact fz x z1 z2
    · rcases subS x hx with z | ⟨z1, _⟩
      · rcases (sub x (List.mem_append_left _ z)).2 with w | w | w
        · exact .inr (.inl ⟨i, one.mpr rfl, hs x w⟩)
        · exact .inr (.inr w)
        · exact .inl w
      · exact .inr (.inl ⟨i, one.mpr rfl, z1⟩)
  obtain ⟨k1, k2⟩ := put.val cn fr na ka (List.nodup_append.mp nd).2.1 fun x hx => by
    obtain ⟨h1, h2⟩ := sub x (List.mem_append_right _ hx)
    refine ⟨h1, ?_, fun k hk hx' => ?_⟩
    · rcases h2 with w | w | w
      · exact .inr (.inl ⟨i, one.mpr rfl, hs x w⟩)
      · exact .inr (.inr w)
      · exact .inl w
    · rcases subS x hx' with z | ⟨z1, z2⟩
      · exact (List.nodup_append.mp nd).2.2 x z x hx rfl
      · rcases far x h2 with w | w
        · exact z2 w
        · exact w z1
  refine h rv H' _ Sr (put.cn ka cn len_setE fun j => ?_) (put.fr fr na ka tha) rr k1 k2
  rw [getE_setE hli]
  by_cases hj : j = i
  · rw [if_pos hj, if_pos (one.mpr hj)]
  · rw [if_neg hj, if_neg (fun z => hj (one.mp z))]
    by_cases hr : i ∈ rt C.inf j
    · rw [if_pos hr, if_pos ⟨i, one.mpr rfl, hr⟩]
    · rw [if_neg hr, if_neg (fun ⟨k, hk, hkr⟩ => hr (by rw [← one.mp hk]; exact hkr))]
end
end Mp

namespace Mp
open PySem PySem.Spec PyProof.Rows L2

def eqs (k : Str) : Value → Bool
  | .str x _ => x.cps.toList == k.cps.toList
  | _ => false
theorem eqs_gives {k : Str} {t : Tok} : ∀ {us : List Value} {ns : List Str}, StrsAre us ns → ∀ y ∈ us, MeetsSeq.EqGives y (.str k t) (eqs k y)
  | _, _, .nil => fun y hy => by cases hy
  | _, _, .cons n t' h => fun y hy => by
    rcases List.mem_cons.mp hy with e | e
    · rw [e]
      exact SeqRoads2.EqGives.str n k t' t
    · exact eqs_gives h y e
theorem erase_mapS : ∀ (l : List Str) (j : Nat), (l.map V.str).eraseIdx j = (l.eraseIdx j).map V.str
  | [], j => by simp
  | a :: r, 0 => by simp
  | a :: r, j + 1 => by
    have ih := erase_mapS r j
    simp [ih]
theorem strs_get : ∀ {us : List Value} {ns : List Str}, StrsAre us ns → ∀ (j : Nat) (x : Str), ns[j]? = some x → ∃ t, us[j]? = some (.str x t)
  | _, _, .nil, j, x, e => by simp at e
  | _, _, .cons n t h, 0, x, e => by
    simp at e
    subst e
    exact ⟨t, rfl⟩
  | _, _, .cons n t h, j + 1, x, e => by
    obtain ⟨t', e'⟩ := strs_get h j x (by simpa using e)
    exact ⟨t', by simpa using e'⟩
section
variable {X : Cx}
def rRemS : V → List V → Hp → VK → Prop := fun x xs H Q => ∃ (l : Addr) (ns : List Str) (k : Str) (j : Nat), x = .ref l ∧ xs = [.str k] ∧ H l = some (.lst (ns.map V.str)) ∧ ns[j]? = some k ∧ (∀ m : Nat, m < j → ns[m]? ≠ some k) ∧ Q .non (upd H l (.lst ((ns.eraseIdx j).map V.str)))
theorem mt_removeS : MtM X "list.remove" rRemS := by
  intro pins s σ H x xs v us Q I rx rxs h
  obtain ⟨l, ns, k, j, rfl, rfl, hH, hj, hno, q⟩ := h
  cases rx
  obtain ⟨u, rfl, ru⟩ := rxs.one
  obtain ⟨t, rfl⟩ := ru
  obtain ⟨z, its, n, r, hl, e⟩ := I.lstM hH
  have hi := Vals.strs r
  rw [List.length_map] at hl z
  have hjn : j < ns.length := (List.getElem?_eq_some_iff.mp hj).1
  have hjl : j < its.toArray.size := by rw [List.size_toArray]; omega
  refine call_meets PySem.F.slot_list_remove ⟨_, e, rfl⟩ PySem.F.entry_list_remove (PySem.F.args_list_remove_2 _ _)
    (MeetsSeq.list_remove l its.toArray n (.str k t) (eqs k) (fun y hy => eqs_gives hi y (by simpa using hy)) j hjl ?_ ?_ (by rw [List.size_toArray]; omega)) ⟨e, ?_⟩
  · obtain ⟨tj, hjt⟩ := strs_get hi j k hj
    obtain ⟨h1, h2⟩ := List.getElem?_eq_some_iff.mp hjt
    have e1 : its.toArray[j] = .str k tj := by simpa using h2
    rw [e1]
    exact beq_self_eq_true k.cps.toList
  · intro m hm hmj
    have hmn : m < ns.length := by omega
    obtain ⟨tm, hmt⟩ := strs_get hi m _ (List.getElem?_eq_getElem hmn)
    obtain ⟨h1, h2⟩ := List.getElem?_eq_some_iff.mp hmt
    have e1 : its.toArray[m] = .str ns[m] tm := by simpa using h2
    rw [e1]
    refine beq_eq_false_iff_ne.mpr fun e2 => hno m hmj ?_
    rw [List.getElem?_eq_getElem hmn, PySem.W.str_of_cps e2]
  · have rr := r.eraseIdx j
    rw [erase_mapS] at rr
    refine ⟨.non, _, I.lset (its' := its.eraseIdx j) (t' := s.toks) hH e ?_ rr ?_, rfl, q⟩
    · show its.toArray.eraseIdxIfInBounds j = (its.eraseIdx j).toArray
      rw [List.eraseIdxIfInBounds_toArray]
    · have z2 : (ns.eraseIdx j).length ≤ ns.length := List.length_eraseIdx_le ns j
      rw [List.length_map]
      omega
def rUpd : V → List V → Hp → VK → Prop := fun x xs H Q => ∃ (a b : Addr) (kvs more : List (Key × V)), x = .ref a ∧ xs = [.ref b] ∧ a ≠ b ∧ H a = some (.dK kvs) ∧ H b = some (.dK more) ∧ kvs.length + more.length ≤ sizeLine ∧ Q .non (upd H a (.dK (mergeK kvs more)))
theorem mt_upd : MtM X "dict.update" rUpd := by
  intro pins s σ H x xs v us Q I rx rxs h
  obtain ⟨a, b, kvs, more, rfl, rfl, hab, ha, hb, hl, q⟩ := h
  cases rx
  obtain ⟨u, rfl, ru⟩ := rxs.one
  cases ru
  obtain ⟨z1, hd1, vs1, rel1, dd1⟩ := dk_of I.hok ha
  obtain ⟨z2, hd2, vs2, rel2, dd2⟩ := dk_of I.hok hb
  refine call_meetsIn PySem.F.slot_dict_update dd1.typeIs PySem.F.entry_dict_update (PySem.F.args_dict_update_2 _ _) (meets_dict_update (mixKind X.prog X.w) a b hab hd2)
    ⟨vs1, vs2, dd1, dd2, by rw [← rel1.length, ← rel2.length]; exact hl, fun h' dd' _ hs => ?_⟩
  have hl2 : (mergeK kvs more).length ≤ sizeLine := by
    have := length_mergeK more kvs
    omega
  have he : ∃ q, h'.get? a = some q := let ⟨q, _, _, hq, _⟩ := dd'; ⟨q, hq⟩
  exact ⟨.non, _, d_write (t' := s.toks) I (by rw [ha]; exact True.intro) hs he (dk_new hl2 hd1 (KV.merge rel2 rel1) dd'), rfl, q⟩
end
theorem strsD_ok {H : Hp} : ∀ {ds : List Mp.D} {ys : List Str} {vs : List V} {S : List Addr}, RDs H ds vs S → strsD ds = some ys → S = [] ∧ ds = ys.map (fun y => .i (.str y)) ∧ ∀ y ∈ ys, PyData.strOk y = true
  | [], _, _, _, .nil, e => by
    have e : some [] = some _ := e
    cases e; exact ⟨rfl, rfl, fun y hy => by cases hy⟩
  | .i (.str x) :: r, ys, _, _, .cons h t, e => by
    have e : (strsD r).map (x :: ·) = some ys := e
    cases q : strsD r with
    | none => rw [q] at e; cases e
    | some zs =>
      rw [q] at e
      cases e
      obtain ⟨rfl, e2, h3⟩ := strsD_ok t q
      obtain ⟨rfl, rfl, hx⟩ := h.str_inv
      exact ⟨rfl, by rw [e2]; rfl, fun y hy => (List.mem_cons.mp hy).elim (fun z => z ▸ hx) (h3 y)⟩
  | .i .non :: _, _, _, _, .cons _ _, e => by cases e
  | .i (.bl _) :: _, _, _, _, .cons _ _, e => by cases e
  | .i (.int _) :: _, _, _, _, .cons _ _, e => by cases e
  | .i (.tup _) :: _, _, _, _, .cons _ _, e => by cases e
  | .lst _ :: _, _, _, _, .cons _ _, e => by cases e
  | .tup _ :: _, _, _, _, .cons _ _, e => by cases e
  | .dk _ :: _, _, _, _, .cons _ _, e => by cases e
  | .dt _ :: _, _, _, _, .cons _ _, e => by cases e
theorem strs_rd {H : Hp} : ∀ {ys : List Str}, (∀ y ∈ ys, PyData.strOk y = true) → RDs H (ys.map fun y => Mp.D.i (.str y)) (ys.map V.str) []
  | [], _ => .nil
  | y :: ys, h => by
    have := RDs.cons (RD.i (RI.str (H := H) y (h y List.mem_cons_self))) (strs_rd (H := H) fun z hz => h z (List.mem_cons_of_mem _ hz))
    simpa using this
theorem erase_at {ys : List Str} {a : Str} (h : a ∈ ys) : ∃ j, ys[j]? = some a ∧ (∀ m, m < j → ys[m]? ≠ some a) ∧ ys.erase a = ys.eraseIdx j := by
  induction ys with
  | nil => cases h
  | cons y ys ih =>
    by_cases e : y = a
    · subst e
      exact ⟨0, rfl, fun m hm => by omega, by simp⟩
    · obtain ⟨j, h1, h2, h3⟩ := ih ((List.mem_cons.mp h).resolve_left (Ne.symm e))
      refine ⟨j + 1, by simpa using h1, fun m hm => ?_, ?_⟩
      · cases m with
        | zero => simpa using e
        | succ m => simpa using h2 m (by omega)
      · rw [List.erase_cons_tail (by simpa using e), h3]
        rfl
theorem v_remove : VMt remvF rRemS := by
  intro ads avs Sa d0 a S0 H Q d0' res h0 nd n0 na ra e hp
  unfold remvF at e
  split at e <;> try cases e
  rename_i k ds
  split at e
  · rename_i ys ey
    split at e
    · rename_i hk
      cases e
      obtain ⟨vs, T, h1, h2, hS⟩ := h0.lst_inv'
      obtain ⟨v, rfl, rx⟩ := ra.one
      obtain ⟨rfl, _, _⟩ := rx.str_inv
      obtain ⟨rfl, _, hok⟩ := strsD_ok h2 ey
      have ev := strsD_vals h2 ey
      have hH := Rd.plain h1 (n0 a (by rw [hS]; exact List.mem_cons_self))
      obtain ⟨j, j1, j2, j3⟩ := erase_at hk
      rw [ev] at hH
      refine ⟨a, ys, k, j, rfl, rfl, hH, j1, j2, ?_⟩
      rw [← j3]
      exact list_post hp hH hS nd n0 na (S1 := []) (Sr := []) (strs_rd fun y hy => hok y (List.mem_of_mem_erase hy)) (.i .non) List.nodup_nil fun x hx => by cases hx
    · cases e
  · cases e
theorem RDk.mergeD {H : Hp} : ∀ {es : List (Key × Mp.D)} {ws : List (Key × V)} {U : List Addr} {ds : List (Key × Mp.D)} {vs : List (Key × V)} {S : List Addr}, RDk H es ws U → RDk H ds vs S → (vs.map (·.1)).Nodup → (S ++ U).Nodup →
    ∃ S', RDk H (updK ds es) (mergeK vs ws) S' ∧ S'.Nodup ∧ (∀ x ∈ S', x ∈ S ∨ x ∈ U) ∧ ((mergeK vs ws).map (·.1)).Nodup
  | _, _, _, ds, vs, S, .nil, h, n, nd => ⟨S, h, by simpa using nd, fun x hx => .inl hx, n⟩
  | _, _, _, ds, vs, S, .cons (k := k) (d := d) (v := v) (ds := es) (vs := ws) (S := Sv) (T := U) hv r, h, n, nd => by
    have nd' : (S ++ Sv).Nodup := nd.sublist (List.Sublist.append (List.Sublist.refl _) (List.sublist_append_left _ _))
    obtain ⟨S1, h1, h2, h3⟩ := RDk.put (k := k) hv h n nd'
    have nd2 : (S1 ++ U).Nodup := by
      rw [← List.append_assoc] at nd
      obtain ⟨a1, a2, a3⟩ := List.nodup_append.mp nd
      exact List.nodup_append.mpr ⟨h2, a2, fun x hx y hy => a3 x (List.mem_append.mpr (h3 x hx)) y hy⟩
    obtain ⟨S', q1, q2, q3, q4⟩ := RDk.mergeD r h1 (putK_keys n).1 nd2
    refine ⟨S', q1, q2, fun x hx => ?_, q4⟩
    rcases q3 x hx with z | z
    · exact (h3 x z).imp id (List.mem_append_left _)
    · exact .inr (List.mem_append_right _ z)
theorem v_update : VMt updF rUpd := by
  intro ads avs Sa d0 a S0 H Q d0' res h0 nd n0 na ra e hp
  unfold updF at e
  split at e <;> try cases e
  rename_i es ds
  split at e
  · rename_i hl
    cases e
    obtain ⟨v, rfl, rx⟩ := ra.one
    cases h0 with
    | @dk _ kvs kds T h1 h2 hn =>
      cases rx with
      | @dk b more mds U h3 h4 hm =>
        have hH := Rd.plain h1 (n0 a List.mem_cons_self)
        have hB := Rd.plain h3 (na b List.mem_cons_self)
        have hab : a ≠ b := fun z => by
          subst z
          exact (List.nodup_cons.mp nd).1 (List.mem_append_right _ List.mem_cons_self)
        have nd2 : (T ++ U).Nodup := ((List.nodup_cons.mp nd).2).sublist (List.Sublist.append (List.Sublist.refl _) (List.sublist_cons_self _ _))
        obtain ⟨S1, q1, q2, q3, q4⟩ := RDk.mergeD h4 h2 hn nd2
        refine ⟨a, b, kvs, more, rfl, rfl, hab, hH, hB, by rw [← h2.length, ← h4.length]; exact hl, ?_⟩
        have haS : a ∉ S1 := fun z => (List.nodup_cons.mp nd).1 ((q3 a z).elim (List.mem_append_left _) fun w => List.mem_append_right _ (List.mem_cons_of_mem _ w))
        have nf : ∀ p q, HO.dK (mergeK kvs more) ≠ .frz p q := fun _ _ z => by cases z
        refine hp (upd H a (.dK (mergeK kvs more))) .non (a :: S1) [] (fun c u hc e => by rw [upd_ne hc]; exact e) (by rw [upd_same]; exact fun z => by cases z)
          (.dk (.inl upd_same) (q1.mono (upd_tupK hH fun _ z => by cases z) (upd_on haS)) q4) (.i .non) (by simpa using List.nodup_cons.mpr ⟨haS, q2⟩) fun x hx => ?_
        rw [List.append_nil] at hx
        rcases List.mem_cons.mp hx with rfl | hx
        · exact ⟨fun p q e => (by rw [upd_same] at e; cases e), .inl List.mem_cons_self⟩
        · rcases q3 x hx with z | z
          · exact ⟨upd_nfz (n0 x (List.mem_cons_of_mem _ z)) nf, .inl (List.mem_cons_of_mem _ z)⟩
          · exact ⟨upd_nfz (na x (List.mem_cons_of_mem _ z)) nf, .inr (.inl (List.mem_cons_of_mem _ z))⟩
  · cases e
end Mp

namespace Mp
open PySem PySem.Spec PyProof.Rows L2

theorem keyD_imm {k : Mp.D} {q : Key} (h : keyD k = some q) : ∃ x, k = .i x := by
  cases k with
  | i x => exact ⟨x, rfl⟩
  | _ => cases h
theorem at1_imm {k d d1 : Mp.D} (h : at1 k d = some d1) : ∃ x, k = .i x := by
  cases d with
  | lst ds =>
    have h : ixF (.lst ds) k = some d1 := h
    unfold ixF at h
    have ek : kids (.lst ds) = some ds := rfl
    rw [ek] at h
    dsimp only at h
    split at h
    · exact ⟨_, rfl⟩
    · cases h
  | dk ds =>
    have h : ixF (.dk ds) k = some d1 := h
    unfold ixF at h
    have ek : kids (.dk ds) = none := rfl
    rw [ek] at h
    dsimp only at h
    have h : (lookD (.dk ds) k).join = some d1 := by
      unfold ixS at h
      exact h
    unfold lookD at h
    dsimp only at h
    cases q : keyD k with
    | none => rw [q] at h; cases h
    | some _ => exact keyD_imm q
  | _ => cases h
section
variable {C : Cc} {σ : L2.St} {H : Hp} {G : GS} {Z : Z0}
theorem ty_list {K : PySem.W.Frag} {d : Mp.D} {v : V} {S : List Addr} (h : RD H d v S) (e : tyD d = "list") : tyV K "list" v H ∧ ∃ a ds, v = .ref a ∧ d = .lst ds ∧ (∀ vs, ¬ TuA H a vs) ∧ a ∈ S := by
  cases h with
  | i h => cases h <;> simp [tyD, tyI] at e
  | @lst a vs ds S h1 h2 =>
    refine ⟨.inl ⟨rfl, vs, .inl h1⟩, a, ds, rfl, rfl, fun ws w => ?_, List.mem_cons_self⟩
    have w : H a = some (.tup ws) := w
    rcases h1 with h1 | ⟨o, h1⟩ <;> rw [h1] at w <;> cases w
  | tup h1 h2 => simp [tyD] at e
  | dk h1 h2 h3 => simp [tyD] at e
  | dt h1 h2 h3 => simp [tyD] at e
theorem ty_dict {K : PySem.W.Frag} {d : Mp.D} {v : V} {S : List Addr} (h : RD H d v S) (hn : ∀ x ∈ S, NFz H x) (e : tyD d = "dict") : tyV K "dict" v H ∧ ∃ a, v = .ref a ∧ (∀ vs, ¬ TuA H a vs) ∧ a ∈ S := by
  cases h with
  | i h => cases h <;> simp [tyD, tyI] at e
  | lst h1 h2 => simp [tyD] at e
  | tup h1 h2 => simp [tyD] at e
  | @dk a kvs kds S h1 h2 hn =>
    have h1 := Rd.plain h1 (hn a List.mem_cons_self)
    refine ⟨.inr (.inr (.inl ⟨rfl, .inl ⟨kvs, h1⟩⟩)), a, rfl, fun ws w => ?_, List.mem_cons_self⟩
    have w : H a = some (.tup ws) := w
    rw [h1] at w; cases w
  | @dt a kvs kds S h1 h2 hn =>
    have h1 := Rd.plain h1 (hn a List.mem_cons_self)
    refine ⟨.inr (.inr (.inl ⟨rfl, .inr ⟨kvs, h1⟩⟩)), a, rfl, fun ws w => ?_, List.mem_cons_self⟩
    have w : H a = some (.tup ws) := w
    rw [h1] at w; cases w
theorem ty_mt {K : PySem.W.Frag} {m : Mt} {d : Mp.D} {v : V} {S : List Addr} (h : RD H d v S) (hn : ∀ x ∈ S, NFz H x) (e : tyD d = mtT m) : tyV K (mtT m) v H ∧ ∃ a, v = .ref a ∧ (∀ vs, ¬ TuA H a vs) ∧ a ∈ S := by
  have hl : mtT m = "list" ∨ mtT m = "dict" := by cases m <;> first | exact .inl rfl | exact .inr rfl
  rcases hl with z | z
  · rw [z] at e ⊢
    obtain ⟨h1, a, ds, h2, _, h3⟩ := ty_list (K := K) h e
    exact ⟨h1, a, h2, h3⟩
  · rw [z] at e ⊢
    exact ty_dict h hn e
theorem hasN_ok {i : Nat} {ρ : Env} {d : Mp.D} (h : getE ρ i = some d) : hasN i ρ = .ok () ρ := by unfold hasN; rw [h]
theorem hasN_no {i : Nat} {ρ : Env} (h : getE ρ i = none) : hasN i ρ = .no := by unfold hasN; rw [h]
theorem tyM_ok {m : Mt} {i : Nat} {ks : List Mp.D} {ρ : Env} {d0 : Mp.D} (h : (getE ρ i).bind (pathD ks) = some d0) (e : tyD d0 = mtT m) : tyM m i ks ρ = .ok () ρ := by
  unfold tyM; rw [h]; dsimp only; rw [if_pos e]
theorem tyM_inv {m : Mt} {i : Nat} {ks : List Mp.D} {ρ : Env} : tyM m i ks ρ = .no ∨ ∃ d d0, getE ρ i = some d ∧ pathD ks d = some d0 ∧ tyD d0 = mtT m ∧ tyM m i ks ρ = .ok () ρ := by
  cases h : getE ρ i with
  | none => left; unfold tyM; rw [h]; rfl
  | some d =>
    cases h2 : pathD ks d with
    | none => left; unfold tyM; rw [h]; dsimp only [Option.bind_some]; rw [h2]
    | some d0 =>
      by_cases e : tyD d0 = mtT m
      · exact .inr ⟨d, d0, rfl, h2, e, tyM_ok (by rw [h]; exact h2) e⟩
      · left; unfold tyM; rw [h]; dsimp only [Option.bind_some]; rw [h2]; dsimp only; rw [if_neg e]
theorem mtM_inv {inf : Inf} {m : Mt} {i : Nat} {ks as : List Mp.D} {ρ : Env} : mtM inf m i ks as ρ = .no ∨ ∃ d d' res, getE ρ i = some d ∧ mutAt (mtF m as) ks d = some (d', res) ∧ mtM inf m i ks as ρ = .ok res (setE inf i d' ρ) := by
  cases h : getE ρ i with
  | none => left; unfold mtM; rw [h]
  | some d =>
    cases h2 : mutAt (mtF m as) ks d with
    | none => left; unfold mtM; rw [h]; dsimp only; rw [h2]
    | some x => exact .inr ⟨d, x.1, x.2, rfl, h2, by unfold mtM; rw [h]; dsimp only; rw [h2]⟩
theorem mt_read0 {K : PySem.W.Frag} {m : Mt} {i : Nat} {T : List Nat} {as : Mp.M (List Mp.D)} {Q : VK} {r : V → List V → Hp → VK → Prop} (hr : VMt (mtF m) r) (ho : own C.inf i) (hl : i ∉ C.lk)
    (ty : ∀ ads d0 x, mtF m ads d0 = some x → tyD d0 = mtT m)
    (h : tE C .fr (T ++ [i]) (bnd (hasN i) fun _ => bnd (ret []) fun ks => bnd (tyM m i ks) fun _ => bnd as fun ds => mtM C.inf m i ks ds) σ H Q) :
    tVar i σ H fun x H1 => tyV K (mtT m) x H1 ∧ tA C .fr T as σ H1 fun xs H2 => r x xs H2 Q := by
  obtain ⟨ρ, F, cn, h⟩ := h
  cases e0 : getE ρ i with
  | none => rw [bnd_no (hasN_no e0)] at h; exact h.elim
  | some d0 =>
    rw [bnd_ok (hasN_ok e0)] at h
    have h : Res C .fr (T ++ [i]) σ Q (bnd (tyM m i []) (fun _ => bnd as fun ds => mtM C.inf m i [] ds) ρ) F H := h
    rcases tyM_inv (m := m) (i := i) (ks := []) (ρ := ρ) with z | ⟨d, d0', g1, g2, g3, g4⟩
    · rw [bnd_no z] at h; exact h.elim
    · rw [bnd_ok g4] at h
      cases g2
      obtain ⟨v, hv, rd⟩ := cn.rep i d g1
      obtain ⟨t1, _⟩ := ty_mt (K := K) rd (cn.ex i ho hl) g3
      refine ⟨v, hv, t1, ρ, F, cn, ?_⟩
      cases e1 : as ρ with
      | no => rw [bnd_no e1] at h; exact h
      | ex c fs ρ' => rw [bnd_ex e1] at h; exact ExP.widen h fun j hj => List.mem_append_left _ hj
      | ok ads ρ1 =>
        rw [bnd_ok e1] at h
        intro avs H1 F1 Sa cn1 f1 rda ka na
        rcases mtM_inv (inf := C.inf) (m := m) (i := i) (ks := []) (as := ads) (ρ := ρ1) with z | ⟨d1, d1', res, g1, g2, g4⟩
        · rw [z] at h; exact h.elim
        · rw [g4] at h
          have g2 : mtF m ads d1 = some (d1', res) := g2
          obtain ⟨v', hv', rd1⟩ := cn1.rep i d1 g1
          rw [hv] at hv'
          cases hv'
          obtain ⟨_, a, rfl, nt, ha⟩ := ty_mt (K := K) rd1 (cn1.ex i ho hl) (ty _ _ _ g2)
          refine hr ads avs Sa d1 a (F1 i) H1 Q d1' res rd1 (List.nodup_append.mpr ⟨cn1.nd i ho, ka.1, fun x hx y hy e => ka.2.1 y hy i (e ▸ hx)⟩) (cn1.ex i ho hl) (fun x hx => (ka.2.2 x hx).1) rda g2 ?_
          exact mut_core cn1 f1 ho hl g1 hv (fun _ h => h) ha nt ka na rda.there (fun H' S0' _ _ r0 nd _ => ⟨S0', r0, nd, fun x hx => .inl hx⟩) h
theorem mt_read1 {K : PySem.W.Frag} {m : Mt} {i : Nat} {kk : Kd} {Tk T : List Nat} {key : Mp.M Mp.D} {as : Mp.M (List Mp.D)} {Q : VK} {r : V → List V → Hp → VK → Prop} (hr : VMt (mtF m) r) (ho : own C.inf i) (hl : i ∉ C.lk) (hT : i ∉ T)
    (oT : ∀ j ∈ T, own C.inf j) (ty : ∀ ads d0 x, mtF m ads d0 = some x → tyD d0 = mtT m)
    (h : tE C .fr (Tk ++ (T ++ [i])) (bnd (hasN i) fun _ => bnd (bnd key fun d => bnd (ret []) fun ds => ret (d :: ds)) fun ks => bnd (tyM m i ks) fun _ => bnd as fun ds => mtM C.inf m i ks ds) σ H Q) :
    tVar i σ H fun x H1 => tE C kk Tk key σ H1 fun y H2 => ∃ w, At1 H2 x y w ∧ tyV K (mtT m) w H2 ∧ tA C .fr T as σ H2 fun xs H3 => r w xs H3 Q := by
  obtain ⟨ρ, F, cn, h⟩ := h
  cases e0 : getE ρ i with
  | none => rw [bnd_no (hasN_no e0)] at h; exact h.elim
  | some d0 =>
    rw [bnd_ok (hasN_ok e0)] at h
    have h : Res C .fr (Tk ++ (T ++ [i])) σ Q (bnd (bnd key fun d => bnd (ret []) fun ds => ret (d :: ds)) (fun ks => bnd (tyM m i ks) fun _ => bnd as fun ds => mtM C.inf m i ks ds) ρ) F H := h
    obtain ⟨v, hv, _⟩ := cn.rep i d0 e0
    refine ⟨v, hv, ρ, F, cn, ?_⟩
    cases e : key ρ with
    | no => rw [bnd_no (by rw [bnd_no e])] at h; exact h
    | ex c fs ρ' => rw [bnd_ex (by rw [bnd_ex e])] at h; exact ExP.widen h fun j hj => List.mem_append_left _ hj
    | ok k ρ1 =>
      rw [bnd_ok (a := [k]) (ρ' := ρ1) (by rw [bnd_ok e]; rfl)] at h
      intro y H1 F1 Sk cn1 f1 rk kok nk
      have h := Res.after' (C := C) (l := .fr) (σ := σ) (Q := Q) h f1
      rcases tyM_inv (m := m) (i := i) (ks := [k]) (ρ := ρ1) with z | ⟨d, d1, g1, g2, g3, g4⟩
      · rw [bnd_no z] at h; exact h.elim
      · rw [bnd_ok g4] at h
        have g2 : at1 k d = some d1 := by
          have g2 : (at1 k d).bind (fun d => some d) = some d1 := g2
          simpa using g2
        obtain ⟨v', hv', rd⟩ := cn1.rep i d g1
        rw [hv] at hv'
        cases hv'
        obtain ⟨w, a, rfl, hat, S1, S2, Sj, rw1, eS, _⟩ := at1_ctx rd rk g2
        have inS : ∀ x ∈ Sj, x ∈ F1 i := fun x hx => by rw [eS]; simp [hx]
        obtain ⟨t1, _⟩ := ty_mt (K := K) rw1 (fun x hx => cn1.ex i ho hl x (inS x hx)) g3
        refine ⟨w, hat, t1, ρ1, F1, cn1, ?_⟩
        cases e1 : as ρ1 with
        | no => rw [bnd_no e1] at h; exact h
        | ex c fs ρ' => rw [bnd_ex e1] at h; exact ExP.widen h fun j hj => List.mem_append_left _ hj
        | ok ads ρ2 =>
          rw [bnd_ok e1] at h
          intro avs H2 F2 Sa cn2 f2 rda ka na
          rcases mtM_inv (inf := C.inf) (m := m) (i := i) (ks := [k]) (as := ads) (ρ := ρ2) with z | ⟨d2, d2', res, q1, q2, q4⟩
          · rw [z] at h; exact h.elim
          · rw [q4] at h
            unfold mutAt at q2
            cases q5 : at1 k d2 with
            | none => rw [q5] at q2; cases q2
            | some d3 =>
              rw [q5] at q2
              dsimp only [mutAt] at q2
              cases q6 : mtF m ads d3 with
              | none => rw [q6] at q2; cases q2
              | some x =>
                obtain ⟨d3', res'⟩ := x
                rw [q6] at q2
                cases q2
                obtain ⟨v', hv', rd2⟩ := cn2.rep i d2 q1
                rw [hv] at hv'
                cases hv'
                -- the key's data is immutable
                have rk2 : ∃ U, RD H2 k y U := by
                  have imm := at1_imm q5
                  obtain ⟨x, rfl⟩ := imm
                  cases rk with
                  | i r => exact ⟨[], .i (r.mono f2.tup)⟩
                obtain ⟨U, rk2⟩ := rk2
                obtain ⟨w', a', ea, hat', T1, T2, Tj, rw2, eT, ctx⟩ := at1_ctx rd2 rk2 q5
                cases ea
                have aF : a ∈ F1 i := by rw [eS]; exact List.mem_cons_self
                have hat2 : At1 H2 (.ref a) y w := hat.on fun b hb o eo => f2.keep b o eo fun j hj hjo => by
                  have eb : b = a := by simpa using hb
                  rw [eb]
                  refine cn1.sep i j hjo (fun z => ?_) a aF
                  rw [ho] at z
                  have : j = i := List.mem_singleton.mp z
                  exact hT (this ▸ hj)
                have ew := hat2.fun hat'
                subst ew
                have inT : ∀ x ∈ Tj, x ∈ F2 i := fun x hx => by rw [eT]; simp [hx]
                obtain ⟨_, b, rfl, nt, hb⟩ := ty_mt (K := K) rw2 (fun x hx => cn2.ex i ho hl x (inT x hx)) (ty _ _ _ q6)
                have ndF := cn2.nd i ho
                have ndT : Tj.Nodup := by
                  rw [eT] at ndF
                  exact ((List.nodup_append.mp (List.nodup_append.mp (List.nodup_cons.mp ndF).2).1).2.1)
                refine hr ads avs Sa d3 b Tj H2 Q d3' res' rw2 (List.nodup_append.mpr ⟨ndT, ka.1, fun x hx y hy e => ka.2.1 y hy i (e ▸ inT x hx)⟩) (fun x hx => cn2.ex i ho hl x (inT x hx)) (fun x hx => (ka.2.2 x hx).1) rda q6 ?_
                refine mut_core cn2 f2 ho hl q1 hv inT hb nt ka na rda.there (fun H' S0' tk chg r0 nd0 far => ?_) h
                have offT : ∀ x ∈ a :: (T1 ++ T2), x ∉ Tj := by
                  rw [eT] at ndF
                  obtain ⟨n1, n2⟩ := List.nodup_cons.mp ndF
                  intro x hx hxT
                  rcases List.mem_cons.mp hx with rfl | hx
                  · exact n1 (by simp [hxT])
                  · rcases List.mem_append.mp hx with z | z
                    · exact (List.nodup_append.mp (List.nodup_append.mp n2).1).2.2 x z x hxT rfl
                    · exact (List.nodup_append.mp n2).2.2 x (by simp [hxT]) x z rfl
                have inF : ∀ x ∈ a :: (T1 ++ T2), x ∈ F2 i := fun x hx => by
                  rw [eT]
                  rcases List.mem_cons.mp hx with rfl | hx
                  · exact List.mem_cons_self
                  · rcases List.mem_append.mp hx with z | z <;> simp [z]
                refine ⟨_, ctx H' d3' S0' tk (fun x hx o eo => chg x o (fun z => offT x hx (z ▸ hb)) eo) r0, ?_, fun x hx => ?_⟩
                · have key : ∀ x ∈ a :: (T1 ++ T2), x ∉ S0' := fun x hx hxS => (far x hxS).elim (offT x hx) fun z => z (inF x hx)
                  rw [eT] at ndF
                  obtain ⟨n1, n2⟩ := List.nodup_cons.mp ndF
                  obtain ⟨n3, n4, n5⟩ := List.nodup_append.mp n2
                  obtain ⟨n6, n7, n8⟩ := List.nodup_append.mp n3
                  refine List.nodup_cons.mpr ⟨fun z => ?_, List.nodup_append.mpr ⟨List.nodup_append.mpr ⟨n6, nd0, fun x hx y hy e => key x (by simp [hx]) (e ▸ hy)⟩, n4, fun x hx y hy e => ?_⟩⟩
                  · rcases List.mem_append.mp z with z | z
                    · rcases List.mem_append.mp z with z | z
                      · exact n1 (by simp [z])
                      · exact key a List.mem_cons_self z
                    · exact n1 (by simp [z])
                  · subst e
                    rcases List.mem_append.mp hx with z | z
                    · exact n5 x (by simp [z]) x hy rfl
                    · exact key x (by simp [hy]) z
                · rcases List.mem_cons.mp hx with rfl | hx
                  · exact .inr ⟨inF _ List.mem_cons_self, offT _ List.mem_cons_self⟩
                  · rcases List.mem_append.mp hx with z | z
                    · rcases List.mem_append.mp z with z | z
                      · exact .inr ⟨inF x (by simp [z]), offT x (by simp [z])⟩
                      · exact .inl z
                    · exact .inr ⟨inF x (by simp [z]), offT x (by simp [z])⟩
end
structure MtOk (X : Cx) (m : Mt) (id : String) (r : V → List V → Hp → VK → Prop) : Prop where
  pa : PlainAttrs (mtT m)
  slot : Slot (mtT m) (mtName m) id
  ty : typeOf (.builtin id) = pure (.type "method_descriptor")
  mt : MtR X id r
  v : VMt (mtF m) r
  tyD : ∀ ads d0 x, mtF m ads d0 = some x → tyD d0 = mtT m
theorem mt_rule {X : Cx} {m : Mt} (h : mtOn m = true) : ∃ id r, MtOk X m id r := by
  cases m with
  | app => exact ⟨_, _, PySem.F.plainAttrs_list, PySem.F.slot_list_append, PySem.F.type_list_append, mt_append, v_append, fun ads d0 x e => by
      have e : appF ads d0 = some x := e
      unfold appF at e
      split at e
      · rfl
      · cases e⟩
  | pop => exact ⟨_, _, PySem.F.plainAttrs_list, PySem.F.slot_list_pop, PySem.F.type_list_pop, mt_pop, v_pop, fun ads d0 x e => by
      have e : popF ads d0 = some x := e
      unfold popF at e
      split at e
      · rfl
      · cases e⟩
  | popAt => exact ⟨_, _, PySem.F.plainAttrs_list, PySem.F.slot_list_pop, PySem.F.type_list_pop, mt_popAt, v_popAt, fun ads d0 x e => by
      have e : popAtF ads d0 = some x := e
      unfold popAtF at e
      split at e
      · rfl
      · cases e⟩
  | rem => exact ⟨_, _, PySem.F.plainAttrs_list, PySem.F.slot_list_remove, PySem.F.type_list_remove, mt_removeS, v_remove, fun ads d0 x e => by
      have e : remvF ads d0 = some x := e
      unfold remvF at e
      split at e
      · rfl
      · cases e⟩
  | upd => exact ⟨_, _, PySem.F.plainAttrs_dict, PySem.F.slot_dict_update, PySem.F.type_dict_update, mt_upd, v_update, fun ads d0 x e => by
      have e : updF ads d0 = some x := e
      unfold updF at e
      split at e
      · rfl
      · cases e⟩
  | ext => exact ⟨_, _, PySem.F.plainAttrs_list, PySem.F.slot_list_extend, PySem.F.type_list_extend, mt_extend, v_extend, fun ads d0 x e => by
      have e : extF ads d0 = some x := e
      unfold extF at e
      split at e
      · rfl
      · cases e⟩
theorem mtA_inv {m : Mt} {e : Expr} {x : Str} {ks es : List Expr} (h : mtA m e = some (x, ks, es)) : ∃ o apos cpos, e = .Call (.Attribute o (mtName m) apos) es [] cpos ∧ (apos.endLine == cpos.line) = true ∧ es.all nst = true ∧ es.length = mtAr m ∧
    ((∃ p, o = .Name x p ∧ ks = []) ∨ ∃ k p pos, o = .Subscript (.Name x p) k pos ∧ ks = [k] ∧ noSlice k = true) := by
  unfold mtA at h
  split at h
  · split at h
    · rename_i hb
      simp only [Bool.and_eq_true, decide_eq_true_eq] at hb
      obtain ⟨⟨⟨h1, h2⟩, h3⟩, h4⟩ := hb
      subst h1
      cases h
      exact ⟨_, _, _, rfl, h2, h3, h4, .inl ⟨_, rfl, rfl⟩⟩
    · cases h
  · split at h
    · rename_i hb
      simp only [Bool.and_eq_true, decide_eq_true_eq] at hb
      obtain ⟨⟨⟨⟨h1, h2⟩, h3⟩, h4⟩, h5⟩ := hb
      subst h1
      cases h
      exact ⟨_, _, _, rfl, h2, h3, h4, .inr ⟨_, _, _, rfl, rfl, h5⟩⟩
    · cases h
  · cases h
theorem pe_mt {X : Cx} {m : Mt} {id : String} {r : V → List V → Hp → VK → Prop} (R : MtOk X m id r) {o : Expr} {to : TE} {apos cpos : Pos} {es : List Expr} {ts : List TE} (ho : PE X o to) (hs : PEs X es ts) (hn : es.all nst = true) (hl : es.length = mtAr m)
    (hline : (apos.endLine == cpos.line) = true) (hbase : attributeBase o (mtName m) X.env (eval o X.env) = eval o X.env) : PE X (.Call (.Attribute o (mtName m) apos) es [] cpos) fun σ H Q => to σ H fun x H1 => tyV X.K (mtT m) x H1 ∧ tNest ts σ H1 fun xs H2 => r x xs H2 Q := by
  cases hs with
  | nil => exact pe_bm0 R.pa R.slot R.ty R.mt ho hbase hline
  | @cons e t es ts h hr =>
    have h0 : es = [] := by
      cases es with
      | nil => rfl
      | cons a b => exfalso; cases m <;> simp [mtAr] at hl
    subst h0
    cases hr
    have hn1 : nst e = true := by simpa using hn
    refine pe_bm R.pa R.slot R.ty R.mt ho (pa_cons h pa_nil (star_of hn1)) hbase ?_ hline (star_of hn1) rfl
    rw [star_of hn1]; rfl
end Mp

namespace Mp
open PySem PySem.Spec PyProof.Rows L2

def rTup : List V → Hp → VK → Prop := fun vs H Q => vs.length ≤ sizeLine ∧ ∀ p, H p = none → Q (.ref p) (upd H p (.tup vs))
def rLst : List V → Hp → VK → Prop := fun vs H Q => vs.length ≤ sizeLine ∧ ∀ p, H p = none → Q (.ref p) (upd H p (.lst vs))
theorem tup_op : VOpK false (fun ds => if ds.length ≤ sizeLine then some (mkT ds) else none) rTup := fun ds vs S H Q d h e q => by
  dsimp only at e
  split at e
  · rename_i hl
    cases e
    exact ⟨by rw [← h.length]; exact hl, fun p hp => q.tupD h (List.Sublist.refl _) hp⟩
  · cases e
theorem lst_op : VOpK false (fun ds => if ds.length ≤ sizeLine then some (.lst ds) else none) rLst := fun ds vs S H Q d h e q => by
  dsimp only at e
  split at e
  · rename_i hl
    cases e
    refine ⟨by rw [← h.length]; exact hl, fun p hp => q (.ref p) _ (p :: S) (Grow.upd hp) (.lst (.inl (upd_same)) (h.mono (Grow.upd hp).tup ((Grow.upd hp).on _))) (Part.cons hp (fun o u e => by rw [upd_same] at e; cases e) (RDs.there h) (List.Sublist.refl _))⟩
  · cases e
theorem disp_eq {l : Nat} {d : D} : (if l ≤ sizeLine then (ret d : M D) else fun _ => .no) = lift (if l ≤ sizeLine then some d else none) := by
  split <;> rfl

section
variable {ck : Ck} {X : Cx} {C : Cc} {G : GS}
theorem immM_read {k : Kd} {T : List Nat} {m : M D} {σ : L2.St} {H : Hp} {Q : VK} (h : tE C .fr T (immM k m) σ H Q) : tE C k T m σ H Q := by
  obtain ⟨ρ, F, cn, h⟩ := h
  refine ⟨ρ, F, cn, ?_⟩
  unfold immM at h
  cases e : m ρ with
  | no => rw [bnd_no e] at h; exact h
  | ex c fs ρ' => rw [bnd_ex e] at h; exact h
  | ok d ρ' =>
    rw [bnd_ok e] at h
    cases e2 : immK k d with
    | false => rw [e2] at h; exact h.elim
    | true =>
      rw [e2] at h
      intro v H1 F1 S cn1 f1 rd ko n
      cases k with
      | fr => exact h v H1 F1 S cn1 f1 rd ko n
      | bo R =>
        cases d with
        | i x =>
          cases rd with
          | i r => exact h v H1 F1 [] cn1 f1 (.i r) KOk.nil NewK.nil
        | _ => cases e2
theorem immM_readT {k : Kd} {T : List Nat} {m : M D} {σ : L2.St} {H : Hp} {Q : Bool → Hp → Prop} (h : tT C T (immM k m) σ H Q) : tT C T m σ H Q := by
  obtain ⟨ρ, F, cn, h⟩ := h
  refine ⟨ρ, F, cn, ?_⟩
  unfold immM at h
  cases e : m ρ with
  | no => rw [bnd_no e] at h; exact h
  | ex c fs ρ' => rw [bnd_ex e] at h; exact h
  | ok d ρ' =>
    rw [bnd_ok e] at h
    cases e2 : immK k d with
    | false => rw [e2] at h; exact h.elim
    | true => rw [e2] at h; exact h
theorem callU_inv {f : Nat} {e : Expr} {es : List Expr} (h : callU ck f e = some es) : ∃ x p pos ms, e = .Call (.Name x p) es [] pos ∧ ck.fns[f]? = some (x, ms) ∧ glo ck x = true ∧ (x == ("__debug__" : Str)) = false ∧ es.all nst = true ∧ es ≠ [] ∧ ck.Z.fm[f]? = some ms := by
  unfold callU at h
  split at h
  · split at h
    · rename_i heq
      split at h
      · rename_i hb
        simp only [Bool.and_eq_true, decide_eq_true_eq, Bool.not_eq_true'] at hb
        obtain ⟨⟨⟨⟨⟨h1, h2⟩, h3⟩, h4⟩, h5⟩, h6⟩ := hb
        subst h1
        cases h
        exact ⟨_, _, _, _, rfl, heq, h2, h3, h4, fun z => by rw [z] at h5; simp at h5, h6⟩
      · cases h
    · cases h
  · cases h
theorem tE_mono {k : Kd} {T : List Nat} {m : M D} {σ : L2.St} {H : Hp} {Q Q' : VK} (h : tE C k T m σ H Q) (w : ∀ v H', Q v H' → Q' v H') : tE C k T m σ H Q' := by
  obtain ⟨ρ, F, cn, h⟩ := h
  refine ⟨ρ, F, cn, ?_⟩
  cases e : m ρ with
  | no => rw [e] at h; exact h
  | ex c fs ρ' => rw [e] at h; exact h
  | ok d ρ' => rw [e] at h; exact fun v H1 F1 S cn1 f1 rd ko n => w _ _ (h v H1 F1 S cn1 f1 rd ko n)
theorem plain_true {e : Expr} (he : ∀ env whole, isTrue e env whole = (do let v ← whole; standAt e.pos; holding [v] (truthy v))) {k : Kd} {T : List Nat} {m : M D} (h : PE X e (tE C k T m)) : PT X e (tT C T m) :=
  PT.weak (test_plain h fun w => he X.env w) fun σ H Q q => tT_of q
theorem pt_pw {e : Expr} {t : TT} (he : ∀ env w w', isTrue e env w = isTrue e env w') (h : PT X e t) : PW X e t :=
  ⟨fun wh pins s σ H Q I q => by rw [he X.env wh (eval e X.env)]; exact h.run pins s σ H Q I q⟩

theorem andA_inv {e x y : Expr} (h : andA e = some (x, y)) : (∃ pos, e = .BoolOp .And [x, y] pos) ∨ ∃ a b r pos, e = .BoolOp .And (x :: a :: b :: r) pos ∧ y = .BoolOp .And (a :: b :: r) pos := by
  unfold andA at h
  split at h
  · cases h; exact .inl ⟨_, rfl⟩
  · cases h; exact .inr ⟨_, _, _, _, rfl, rfl⟩
  · cases h
theorem orA_inv {e x y : Expr} (h : orA e = some (x, y)) : (∃ pos, e = .BoolOp .Or [x, y] pos) ∨ ∃ a b r pos, e = .BoolOp .Or (x :: a :: b :: r) pos ∧ y = .BoolOp .Or (a :: b :: r) pos := by
  unfold orA at h
  split at h
  · cases h; exact .inl ⟨_, rfl⟩
  · cases h; exact .inr ⟨_, _, _, _, rfl, rfl⟩
  · cases h
theorem nmA_inv {e : Expr} {x : Str} (h : nmA e = some x) : ∃ p, e = .Name x p := by
  unfold nmA at h
  split at h
  · cases h; exact ⟨_, rfl⟩
  · cases h
theorem notA_inv {e x : Expr} (h : notA e = some x) : ∃ p, e = .UnaryOp .Not x p := by
  unfold notA at h
  split at h
  · cases h; exact ⟨_, rfl⟩
  · cases h
theorem iteA_inv {e x y z : Expr} (h : iteA e = some (x, y, z)) : ∃ p, e = .IfExp x y z p := by
  unfold iteA at h
  split at h
  · cases h; exact ⟨_, rfl⟩
  · cases h
theorem chA_inv {e x y z : Expr} {p q : CmpOp} (h : chA e = some (x, y, z, p, q)) : ∃ pos, e = .Compare x [p, q] [y, z] pos := by
  unfold chA at h
  split at h
  · cases h; exact ⟨_, rfl⟩
  · cases h
theorem slA_inv {e x y z : Expr} (h : slA e = some (x, y, z)) : ∃ p2 pos, e = .Subscript x (.Slice (some y) (some z) none p2) pos := by
  unfold slA at h
  split at h
  · cases h; exact ⟨_, _, rfl⟩
  · cases h
theorem tupA_inv {e : Expr} {es : List Expr} (h : tupA e = some es) : ∃ k p, e = .Tuple es k p := by
  unfold tupA at h
  split at h
  · cases h; exact ⟨_, _, rfl⟩
  · cases h
theorem lstA_inv {e : Expr} {es : List Expr} (h : lstA e = some es) : ∃ p, e = .List es p := by
  unfold lstA at h
  split at h
  · cases h; exact ⟨_, rfl⟩
  · cases h
theorem opArgs_true {o : Op} {e : Expr} {es : List Expr} (h : opArgs ck o e = some es) : (∀ env whole, isTrue e env whole = (do let v ← whole; standAt e.pos; holding [v] (truthy v))) ∨ ∃ a b p pos, e = .Compare a [p] [b] pos ∧ es = [a, b] ∧ noSet b = true := by
  cases e <;> first
    | exact .inl fun _ _ => rfl
    | (exfalso; cases o <;> simp [opArgs, binA, cmpA, idxA, negA, callA, isiA, slfA, sltA, joinA] at h; done)
    | skip
  · rename_i u x p
    cases u <;> first
      | exact .inl fun _ _ => rfl
      | (exfalso; cases o <;> simp [opArgs, binA, cmpA, idxA, negA, callA, isiA, slfA, sltA, joinA] at h; done)
  · rename_i a ps bs pos
    refine .inr ?_
    have key : ∀ b, cmpA b (.Compare a ps bs pos) = some es → ∃ a' b' p pos', Expr.Compare a ps bs pos = .Compare a' [p] [b'] pos' ∧ es = [a', b'] ∧ noSet b' = true := fun b h => by
      unfold cmpA at h
      split at h
      · rename_i heq
        split at h
        · rename_i hb
          simp only [Bool.and_eq_true] at hb
          cases h
          exact ⟨_, _, _, _, heq, rfl, hb.2⟩
        · cases h
      · cases h
    cases o <;> first
      | exact key _ h
      | (exfalso; simp [opArgs, binA, idxA, negA, callA, isiA, slfA, sltA, joinA] at h)
theorem cmp_op (hX : XOk ck X C G) {o : Op} {a b : Expr} {p : CmpOp} {pos : Pos} {es : List Expr} (h : opArgs ck o (.Compare a [p] [b] pos) = some es) : opN o = true ∧ ∃ f, opF o = f2 (bF f) ∧ OpR X (compareOp p) (r2D (bF f) true) := by
  have hr := hX.room
  have key : ∀ c, cmpA c (.Compare a [p] [b] pos) = some es → c = p := fun c h => by
    unfold cmpA at h
    simp only at h
    split at h
    · rename_i hb
      simp only [Bool.and_eq_true] at hb
      exact (sameCmp_eq hb.1).symm
    · cases h
  cases o <;> first
    | (exfalso; simp [opArgs, binA, idxA, negA, callA, isiA, slfA, sltA, joinA] at h; done)
    | skip
  · cases key _ h; exact ⟨rfl, _, rfl, s_eq hr⟩
  · cases key _ h; exact ⟨rfl, _, rfl, s_ne hr⟩
  · cases key _ h; exact ⟨rfl, _, rfl, s_lt hr⟩
  · cases key _ h; exact ⟨rfl, _, rfl, s_le⟩
  · cases key _ h; exact ⟨rfl, _, rfl, s_gt⟩
  · cases key _ h; exact ⟨rfl, _, rfl, s_ge⟩
  · cases key _ h; exact ⟨rfl, _, rfl, s_in hr⟩
  · cases key _ h; exact ⟨rfl, _, rfl, s_notin hr⟩
  · cases key _ h; exact ⟨rfl, _, rfl, s_is⟩
  · cases key _ h; exact ⟨rfl, _, rfl, s_isnot⟩
theorem cmp_readT {T : List Nat} {k : Kd} {as : M (List D)} {o : Op} {f : D → D → Option Bool} (eo : opF o = f2 (bF f)) {σ : L2.St} {H : Hp} {Q : Bool → Hp → Prop}
    (h : tT C T (bnd as fun ds => lift (opF o ds)) σ H Q) : tA C k T as σ H fun vs H' => r2L (r2D (bF f) true) vs H' fun z H2 => ∃ b, z = .bl b ∧ Q b H2 := by
  obtain ⟨ρ, F, cn, h⟩ := h
  refine ⟨ρ, F, cn, ?_⟩
  cases e : as ρ with
  | no => rw [bnd_no e] at h; exact h
  | ex c fs ρ' => rw [bnd_ex e] at h; exact h
  | ok ds ρ' =>
    rw [bnd_ok e, eo] at h
    unfold lift at h
    cases e2 : f2 (bF f) ds with
    | none => rw [e2] at h; exact h.elim
    | some d =>
      rw [e2] at h
      obtain ⟨b, eb, q⟩ := h
      intro vs H1 F1 S cn1 f1 rd ko n
      refine r2L_op (bF f) true ds vs S H1 _ d rd e2 fun v H2 S2 g rv p => ?_
      have ed : ∃ b, d = .i (.bl b) := by
        match ds, e2 with
        | [d1, d2], e2 =>
          have e2 : bF f d1 d2 = some d := e2
          unfold bF at e2
          cases e3 : f d1 d2 with
          | none => rw [e3] at e2; cases e2
          | some b => rw [e3] at e2; cases e2; exact ⟨b, rfl⟩
      obtain ⟨b', rfl⟩ := ed
      cases eb
      obtain ⟨rfl, _⟩ := rv.bl_inv
      exact ⟨_, rfl, q H2 F1 (g.cn cn1) ((f1.trans g.fr).mono fun j hj => by simpa using hj)⟩

end
end Mp

namespace Mp
open PySem PySem.Spec PyProof.Rows L2

def ItOk (J : L2.It) (ds : List D) (S : List Addr) (H0 : Hp) : Prop := ∀ H, TupK H0 H → On S H0 H → (∀ i, ds.length ≤ i → J.stop i H) ∧
  ∀ i d, ds[i]? = some d → J.go i H ∧ ∀ x H', J.yld i H x H' → Grow H H' ∧ ∃ T, RD H' d x T ∧ ∀ a ∈ T, a ∈ S
def PostI (C : Cc) (k : Kd) (T : List Nat) (ρ' : Env) (σ : L2.St) (F : FP) (H : Hp) (ds : List D) (Q : L2.It → Hp → Prop) : Prop :=
  ∀ J H' F' S, Cn C.inf C.B C.lk ρ' σ H' F' → Fr C.inf T F H F' H' → (∀ a ∈ S, H' a ≠ none) → KOk C.inf C.B (toB k) F' H' S → ItOk J ds S H' → Q J H'
def tI (C : Cc) (k : Kd) (T : List Nat) (m : M (List D)) : TI := fun σ H Q => ∃ ρ F, Cn C.inf C.B C.lk ρ σ H F ∧ match m ρ with
  | .ok ds ρ' => PostI C k T ρ' σ F H ds Q
  | .ex c fs ρ' => ExP C T ρ' σ F H c fs
  | .no => False
theorem PI.weak {X : Cx} {tg e : Expr} {t t' : TI} (h : PI X tg e t) (w : ∀ σ H Q, t' σ H Q → t σ H Q) : PI X tg e t' := ⟨fun pins s σ H Q I q => h.run pins s σ H Q I (w σ H Q q)⟩
theorem KOk.bo {inf B F H S k} (h : KOk inf B k F H S) : KOk inf B (Mp.toB k) F H S := by
  cases k with
  | fr => exact h.toB
  | bo R => exact h
section
variable {H0 : Hp} {K : PySem.W.Frag}
theorem Rd.sq {H : Hp} {a : Addr} {vs : List V} (h : Rd H a (.lst vs)) : SqL K H a vs := .inl h
theorem it_list {a : Addr} {vs : List V} {ds : List D} {T : List Addr} (h : Rd H0 a (.lst vs)) (r : RDs H0 ds vs T) : ItOk (Itl K a) ds (a :: T) H0 := by
  intro H t o
  have hq : SqL K H a vs := .inl (Rd.on h o)
  have r' := r.mono t o.tail
  refine ⟨fun i hi => ⟨vs, hq, by rw [← r.length]; exact hi⟩, fun i d e => ?_⟩
  obtain ⟨v, U, ev, rv, su⟩ := r'.get e
  refine ⟨⟨vs, v, hq, ev⟩, fun x H' hy => ?_⟩
  obtain ⟨rfl, hy⟩ := hy
  have := hy vs hq
  rw [ev] at this
  cases this
  exact ⟨Grow.refl _, U, rv, fun b hb => List.mem_cons_of_mem _ (su.subset hb)⟩
theorem it_tup {a : Addr} {vs : List V} {ds : List D} {T : List Addr} (h : TuA H0 a vs) (r : RDs H0 ds vs T) : ItOk (Itt K a) ds T H0 := by
  intro H t o
  have hq : SqT K H a vs := SqT.of (t a vs h)
  have r' := r.mono t o
  refine ⟨fun i hi => ⟨vs, hq, by rw [← r.length]; exact hi⟩, fun i d e => ?_⟩
  obtain ⟨v, U, ev, rv, su⟩ := r'.get e
  refine ⟨⟨vs, v, hq, ev⟩, fun x H' hy => ?_⟩
  obtain ⟨rfl, hy⟩ := hy
  have := hy vs hq
  rw [ev] at this
  cases this
  exact ⟨Grow.refl _, U, rv, fun b hb => su.subset hb⟩
theorem it_str {x : Str} (h : PyData.strOk x = true) : ItOk (Its x) (x.cps.toList.map fun c => .i (.str ⟨#[c]⟩)) [] H0 := by
  intro H t o
  refine ⟨fun i hi => by show x.cps.size ≤ i; simpa using hi, fun i d e => ?_⟩
  rw [List.getElem?_map] at e
  cases q : x.cps.toList[i]? with
  | none => rw [q] at e; cases e
  | some c =>
    rw [q] at e
    cases e
    have q' : x.cps[i]? = some c := by simpa using q
    have lt : i < x.cps.size := by
      rcases Nat.lt_or_ge i x.cps.size with z | z
      · exact z
      · rw [Array.getElem?_eq_none z] at q'; cases q'
    refine ⟨lt, fun v H' hy => ?_⟩
    obtain ⟨rfl, c', e1, rfl⟩ := hy
    rw [q'] at e1
    cases e1
    refine ⟨Grow.refl _, [], .i (.str _ ?_), fun a ha => absurd ha List.not_mem_nil⟩
    unfold PyData.strOk at h ⊢
    rw [Array.all_eq_true] at h
    have := h i lt
    rw [Array.getElem?_eq_getElem lt] at q'
    cases q'
    simpa using this
theorem it_rng {lo : Int} {n : Nat} : ItOk (Itr lo n) ((List.range n).map fun (k : Nat) => .i (.int (lo + (k : Int)))) [] H0 := by
  intro H t o
  refine ⟨fun i hi => by show n ≤ i; simpa using hi, fun i d e => ?_⟩
  have hi : i < n := by
    rcases Nat.lt_or_ge i n with z | z
    · exact z
    · rw [List.getElem?_eq_none (by simpa using z)] at e; cases e
  have ed : d = .i (.int (lo + (i : Int))) := by
    rw [List.getElem?_map, List.getElem?_range hi] at e
    cases e; rfl
  refine ⟨hi, fun v H' hy => ?_⟩
  obtain ⟨rfl, rfl⟩ := hy
  exact ⟨Grow.refl _, [], by rw [ed]; exact .i (.int _), fun a ha => absurd ha List.not_mem_nil⟩
theorem mkT_rd {H : Hp} {ds : List D} {vs : List V} {T : List Addr} {p : Addr} (h : RDs H ds vs T) (e : TuA H p vs) : RD H (mkT ds) (.ref p) T := by
  unfold mkT
  cases q : allI ds with
  | none => exact .tup e h
  | some xs =>
    obtain ⟨h1, rfl⟩ := h.toI q
    exact .i (.tup e h1)
theorem it_enum {a : Addr} {vs : List V} {ds : List D} {T : List Addr} (h : Rd H0 a (.lst vs)) (r : RDs H0 ds vs T) : ItOk (Ite K a) (enumF ds) (a :: T) H0 := by
  intro H t o
  have hq : SqL K H a vs := .inl (Rd.on h o)
  have r' := r.mono t o.tail
  refine ⟨fun i hi => ⟨vs, hq, by rw [← r.length]; simpa [enumF] using hi⟩, fun i d e => ?_⟩
  unfold enumF at e
  rw [List.getElem?_map, List.getElem?_zipIdx] at e
  cases q : ds[i]? with
  | none => rw [q] at e; cases e
  | some d0 =>
    rw [q] at e
    cases e
    obtain ⟨v, U, ev, rv, su⟩ := r'.get q
    refine ⟨⟨vs, v, hq, ev⟩, fun x H' hy => ?_⟩
    obtain ⟨p, y, rfl, hp, rfl, hy⟩ := hy
    have := hy vs hq
    rw [ev] at this
    cases this
    have g : Grow H (upd H p (.tup [.int (i : Nat), v])) := Grow.upd hp
    refine ⟨g, U, ?_, fun b hb => List.mem_cons_of_mem _ (su.subset hb)⟩
    refine mkT_rd (T := U) ?_ upd_same
    have := RDs.cons (RD.i (RI.int (H := upd H p (.tup [.int (i : Nat), v])) (i : Nat))) (RDs.cons (rv.mono g.tup (g.on _)) .nil)
    simpa using this
theorem RDs.zipAt {H : Hp} {ds es : List D} {vs ws : List V} {T U : List Addr} (h1 : RDs H ds vs T) (h2 : RDs H es ws U) {i : Nat} {d : D} (e : (zipF ds es)[i]? = some d) :
    ∃ v w S, vs[i]? = some v ∧ ws[i]? = some w ∧ (∀ a ∈ S, a ∈ T ++ U) ∧ ∀ H' p, Grow H H' → TuA H' p [v, w] → RD H' d (.ref p) S := by
  unfold zipF at e
  rw [List.getElem?_map] at e
  cases q : (ds.zip es)[i]? with
  | none => rw [q] at e; cases e
  | some z =>
    rw [q] at e
    cases e
    rw [List.getElem?_zip_eq_some] at q
    obtain ⟨v, S1, e1, r1, s1⟩ := h1.get q.1
    obtain ⟨w, S2, e2, r2, s2⟩ := h2.get q.2
    refine ⟨v, w, S1 ++ S2, e1, e2, mem_app (fun a ha => List.mem_append_left _ (s1.subset ha)) (fun a ha => List.mem_append_right _ (s2.subset ha)), fun H' p g e => mkT_rd ?_ e⟩
    have := RDs.cons (r1.mono g.tup (g.on _)) (RDs.cons (r2.mono g.tup (g.on _)) .nil)
    simpa using this
theorem zip_len {ds es : List D} {i : Nat} (h : (zipF ds es).length ≤ i) : ds.length ≤ i ∨ es.length ≤ i := by
  unfold zipF at h
  rw [List.length_map, List.length_zip] at h
  omega
theorem it_zipL {a b : Addr} {vs ws : List V} {ds es : List D} {T U : List Addr} (h : Rd H0 a (.lst vs)) (r : RDs H0 ds vs T) (h2 : Rd H0 b (.lst ws)) (r2 : RDs H0 es ws U) : ItOk (Itz K a b) (zipF ds es) ((a :: T) ++ (b :: U)) H0 := by
  intro H t o
  have hq : SqL K H a vs := .inl (Rd.on h o.left)
  have hq2 : SqL K H b ws := .inl (Rd.on h2 o.right)
  have r' := r.mono t o.left.tail
  have r2' := r2.mono t o.right.tail
  refine ⟨fun i hi => ⟨vs, ws, hq, hq2, by rw [← r.length, ← r2.length]; exact zip_len hi⟩, fun i d e => ?_⟩
  obtain ⟨v, w, S, e1, e2, hs, rd⟩ := r'.zipAt r2' e
  refine ⟨⟨vs, ws, v, w, hq, hq2, e1, e2⟩, fun x H' hy => ?_⟩
  obtain ⟨p, y, z, rfl, hp, rfl, hy, hz⟩ := hy
  have q1 := hy vs hq
  have q2 := hz ws hq2
  rw [e1] at q1
  rw [e2] at q2
  cases q1; cases q2
  exact ⟨Grow.upd hp, S, rd _ p (Grow.upd hp) upd_same, fun c hc => by
    rcases List.mem_append.mp (hs c hc) with z | z
    · exact List.mem_append_left _ (List.mem_cons_of_mem _ z)
    · exact List.mem_append_right _ (List.mem_cons_of_mem _ z)⟩
theorem it_zipT {a b : Addr} {vs ws : List V} {ds es : List D} {T U : List Addr} (h : TuA H0 a vs) (r : RDs H0 ds vs T) (h2 : TuA H0 b ws) (r2 : RDs H0 es ws U) : ItOk (RZ.ItzT K a b) (zipF ds es) (T ++ U) H0 := by
  intro H t o
  have hq : SqT K H a vs := SqT.of (t _ _ h)
  have hq2 : SqT K H b ws := SqT.of (t _ _ h2)
  have r' := r.mono t o.left
  have r2' := r2.mono t o.right
  refine ⟨fun i hi => ⟨vs, ws, hq, hq2, by rw [← r.length, ← r2.length]; exact zip_len hi⟩, fun i d e => ?_⟩
  obtain ⟨v, w, S, e1, e2, hs, rd⟩ := r'.zipAt r2' e
  refine ⟨⟨vs, ws, v, w, hq, hq2, e1, e2⟩, fun x H' hy => ?_⟩
  obtain ⟨p, y, z, rfl, hp, rfl, hy, hz⟩ := hy
  have q1 := hy vs hq
  have q2 := hz ws hq2
  rw [e1] at q1
  rw [e2] at q2
  cases q1; cases q2
  exact ⟨Grow.upd hp, S, rd _ p (Grow.upd hp) upd_same, hs⟩
theorem rev_at {α : Type} {ds : List α} {i : Nat} {d : α} (e : ds.reverse[i]? = some d) : i < ds.length ∧ ds[ds.length - 1 - i]? = some d := by
  have hi : i < ds.length := by
    rcases Nat.lt_or_ge i ds.length with z | z
    · exact z
    · rw [List.getElem?_eq_none (by simpa using z)] at e; cases e
  rw [List.getElem?_reverse hi] at e
  exact ⟨hi, e⟩
theorem it_revL {a : Addr} {vs : List V} {ds : List D} {T : List Addr} (h : Rd H0 a (.lst vs)) (r : RDs H0 ds vs T) : ItOk (Itv K a vs.length) ds.reverse (a :: T) H0 := by
  intro H t o
  have hq : SqL K H a vs := .inl (Rd.on h o)
  have r' := r.mono t o.tail
  refine ⟨fun i hi => by show vs.length ≤ i; rw [← r.length]; simpa using hi, fun i d e => ?_⟩
  obtain ⟨hi, e⟩ := rev_at e
  obtain ⟨v, U, ev, rv, su⟩ := r'.get e
  rw [r.length] at ev hi
  refine ⟨⟨hi, vs, v, hq, ev⟩, fun x H' hy => ?_⟩
  obtain ⟨rfl, hy⟩ := hy
  have := hy vs hq
  rw [ev] at this
  cases this
  exact ⟨Grow.refl _, U, rv, fun b hb => List.mem_cons_of_mem _ (su.subset hb)⟩
theorem it_revT {a : Addr} {vs : List V} {ds : List D} {T : List Addr} (h : TuA H0 a vs) (r : RDs H0 ds vs T) : ItOk (RT.ItvT K a vs.length) ds.reverse T H0 := by
  intro H t o
  have hq : SqT K H a vs := SqT.of (t _ _ h)
  have r' := r.mono t o
  refine ⟨fun i hi => by show vs.length ≤ i; rw [← r.length]; simpa using hi, fun i d e => ?_⟩
  obtain ⟨hi, e⟩ := rev_at e
  obtain ⟨v, U, ev, rv, su⟩ := r'.get e
  rw [r.length] at ev hi
  refine ⟨⟨hi, vs, v, hq, ev⟩, fun x H' hy => ?_⟩
  obtain ⟨rfl, hy⟩ := hy
  have := hy vs hq
  rw [ev] at this
  cases this
  exact ⟨Grow.refl _, U, rv, fun b hb => su.subset hb⟩
end

section
variable {ck : Ck} {X : Cx} {C : Cc} {G : GS}
theorem walk_read {k : Kd} {T : List Nat} {m : M D} {f : D → Option (List D)} {σ : L2.St} {H : Hp} {Q : L2.It → Hp → Prop} {Z : V → Hp → Prop} (h : tI C k T (bnd m fun d => lift (f d)) σ H Q)
    (hz : ∀ d ds v H1 S, RD H1 d v S → f d = some ds → (∀ J S', (∀ a ∈ S', a ∈ S) → ItOk J ds S' H1 → Q J H1) → Z v H1) : tE C k T m σ H Z := by
  obtain ⟨ρ, F, cn, h⟩ := h
  refine ⟨ρ, F, cn, ?_⟩
  cases e : m ρ with
  | no => rw [bnd_no e] at h; exact h
  | ex c fs ρ' => rw [bnd_ex e] at h; exact h
  | ok d ρ1 =>
    rw [bnd_ok e] at h
    unfold lift at h
    cases e2 : f d with
    | none => rw [e2] at h; exact h.elim
    | some ds =>
      rw [e2] at h
      intro v H1 F1 S cn1 f1 rd ko n
      refine hz d ds v H1 S rd e2 fun J S' hs io => h J H1 F1 S' cn1 f1 (fun a ha => rd.there a (hs a ha)) ?_ io
      cases k with
      | fr => exact fun a ha j _ _ => ko.2.1 a (hs a ha) j
      | bo R => exact fun a ha => ko a (hs a ha)
theorem nst_star1 {e : Expr} {env : PySem.Env} (h : nst e = true) : starEach [e] env = [(false, eval e env)] := star_of h
theorem callA1_inv {y : Str} {e x : Expr} (h : callA1 ck y e = some x) : ∃ n p pos, e = .Call (.Name n p) [x] [] pos ∧ blt ck n y = true ∧ nst x = true := by
  unfold callA1 at h
  split at h
  · split at h
    · rename_i hb
      simp only [Bool.and_eq_true] at hb
      cases h
      exact ⟨_, _, _, rfl, hb.1, hb.2⟩
    · cases h
  · cases h
theorem zipA_inv {e : Expr} {es : List Expr} (h : zipA ck e = some es) : ∃ n p pos x y, e = .Call (.Name n p) [x, y] [] pos ∧ es = [x, y] ∧ blt ck n "zip" = true ∧ nst x = true ∧ nst y = true := by
  unfold zipA at h
  split at h
  · split at h
    · rename_i hb
      simp only [Bool.and_eq_true] at hb
      cases h
      exact ⟨_, _, _, _, _, rfl, rfl, hb.1.1, hb.1.2, hb.2⟩
    · cases h
  · cases h
theorem rngA_inv {e : Expr} {es : List Expr} (h : rngA ck e = some es) : ∃ n p pos, e = .Call (.Name n p) es [] pos ∧ blt ck n "range" = true ∧ es.all nst = true ∧ (es.length = 1 ∨ es.length = 2) := by
  unfold rngA at h
  split at h
  · split at h
    · rename_i hb
      simp only [Bool.and_eq_true, Bool.or_eq_true, decide_eq_true_eq] at hb
      cases h
      exact ⟨_, _, _, rfl, hb.1.1, hb.1.2, hb.2⟩
    · cases h
  · cases h
theorem seq_read {k : Kd} {T : List Nat} {m : M D} {σ : L2.St} {H : Hp} {Q : L2.It → Hp → Prop} (h : tI C k T (bnd m fun d => lift (itemsD d)) σ H Q) :
    (iList X.K (tE C k T m) σ H Q ∨ iTup X.K (tE C k T m) σ H Q) ∨ iStr (tE C k T m) σ H Q := by
  obtain ⟨ρ, F, cn, h0⟩ := id h
  cases e : m ρ with
  | no => rw [bnd_no e] at h0; exact h0.elim
  | ex c fs ρ' => rw [bnd_ex e] at h0; exact .inl (.inl ⟨ρ, F, cn, by rw [e]; exact h0⟩)
  | ok d ρ1 =>
    rw [bnd_ok e] at h0
    unfold lift at h0
    cases e2 : itemsD d with
    | none => rw [e2] at h0; exact h0.elim
    | some ds =>
      rw [e2] at h0
      have fin : ∀ {Z : VK}, (∀ v H1 S, RD H1 d v S → (∀ J S', (∀ a ∈ S', a ∈ S) → ItOk J ds S' H1 → Q J H1) → Z v H1) → tE C k T m σ H Z := fun {Z} hz => by
        refine ⟨ρ, F, cn, ?_⟩
        rw [e]
        intro v H1 F1 S cn1 f1 rd ko n
        refine hz v H1 S rd fun J S' hs io => h0 J H1 F1 S' cn1 f1 (fun a ha => rd.there a (hs a ha)) ?_ io
        cases k with
        | fr => exact fun a ha j _ _ => ko.2.1 a (hs a ha) j
        | bo R => exact fun a ha => ko a (hs a ha)
      unfold itemsD kids at e2
      cases q : kidsT d with
      | some xs =>
        rw [q] at e2
        cases e2
        refine .inl (.inr (fin fun v H1 S rd z => ?_))
        obtain ⟨a, vs, rfl, h1, h2⟩ := rd.kidsT q
        exact ⟨a, rfl, ⟨vs, SqT.of h1⟩, z _ S (fun _ h => h) (it_tup h1 h2)⟩
      | none =>
        rw [q] at e2
        cases q2 : kidsL d with
        | some xs =>
          rw [q2] at e2
          cases e2
          refine .inl (.inl (fin fun v H1 S rd z => ?_))
          obtain ⟨a, vs, U, rfl, h1, h2, rfl⟩ := rd.kidsL q2
          exact ⟨a, rfl, ⟨vs, .inl h1⟩, z _ _ (fun _ h => h) (it_list h1 h2)⟩
        | none =>
          rw [q2] at e2
          simp only at e2
          split at e2
          · cases e2
            refine .inr (fin fun v H1 S rd z => ?_)
            obtain ⟨rfl, rfl, ok⟩ := rd.str_inv
            exact ⟨_, rfl, z _ [] (fun _ h => h) (it_str ok)⟩
          · cases e2
theorem tA_mono {k : Kd} {T : List Nat} {m : M (List D)} {σ : L2.St} {H : Hp} {Q Q' : List V → Hp → Prop} (h : tA C k T m σ H Q) (w : ∀ v H', Q v H' → Q' v H') : tA C k T m σ H Q' := by
  obtain ⟨ρ, F, cn, h⟩ := h
  refine ⟨ρ, F, cn, ?_⟩
  cases e : m ρ with
  | no => rw [e] at h; exact h
  | ex c fs ρ' => rw [e] at h; exact h
  | ok d ρ' => rw [e] at h; exact fun v H1 F1 S cn1 f1 rd ko n => w _ _ (h v H1 F1 S cn1 f1 rd ko n)
theorem args_read {k k' : Kd} {T : List Nat} {m : M (List D)} {f : List D → Option (List D)} {σ : L2.St} {H : Hp} {Q : L2.It → Hp → Prop} {Z : List V → Hp → Prop} (h : tI C k' T (bnd m fun d => lift (f d)) σ H Q)
    (hz : ∀ d ds v H1 S, RDs H1 d v S → f d = some ds → (∀ J, ItOk J ds [] H1 → Q J H1) → Z v H1) : tA C k T m σ H Z := by
  obtain ⟨ρ, F, cn, h⟩ := h
  refine ⟨ρ, F, cn, ?_⟩
  cases e : m ρ with
  | no => rw [bnd_no e] at h; exact h
  | ex c fs ρ' => rw [bnd_ex e] at h; exact h
  | ok d ρ1 =>
    rw [bnd_ok e] at h
    unfold lift at h
    cases e2 : f d with
    | none => rw [e2] at h; exact h.elim
    | some ds =>
      rw [e2] at h
      intro v H1 F1 S cn1 f1 rd ko n
      exact hz d ds v H1 S rd e2 fun J io => h J H1 F1 [] cn1 f1 (fun a ha => absurd ha List.not_mem_nil) KOk.nil io
theorem args_readS {k : Kd} {T : List Nat} {m : M (List D)} {f : List D → Option (List D)} {σ : L2.St} {H : Hp} {Q : L2.It → Hp → Prop} {Z : List V → Hp → Prop} (h : tI C (toB k) T (bnd m fun d => lift (f d)) σ H Q)
    (hz : ∀ d ds v H1 S, RDs H1 d v S → f d = some ds → (∀ J S', (∀ a ∈ S', a ∈ S) → ItOk J ds S' H1 → Q J H1) → Z v H1) : tA C k T m σ H Z := by
  obtain ⟨ρ, F, cn, h⟩ := h
  refine ⟨ρ, F, cn, ?_⟩
  cases e : m ρ with
  | no => rw [bnd_no e] at h; exact h
  | ex c fs ρ' => rw [bnd_ex e] at h; exact h
  | ok d ρ1 =>
    rw [bnd_ok e] at h
    unfold lift at h
    cases e2 : f d with
    | none => rw [e2] at h; exact h.elim
    | some ds =>
      rw [e2] at h
      intro v H1 F1 S cn1 f1 rd ko n
      refine hz d ds v H1 S rd e2 fun J S' hs io => h J H1 F1 S' cn1 f1 (fun a ha => rd.there a (hs a ha)) ?_ io
      cases k with
      | fr => exact fun a ha j _ _ => ko.2.1 a (hs a ha) j
      | bo R => exact fun a ha => ko a (hs a ha)
theorem rng_add {n : Nat} : (List.range n).map (fun (k : Nat) => D.i (.int (k : Int))) = (List.range n).map fun (k : Nat) => D.i (.int (0 + (k : Int))) := by simp
theorem rngF1 {d : D} {ds : List D} (h : rngF [d] = some ds) : ∃ n : Int, d = .i (.int n) ∧ (-(2 ^ 62) ≤ n ∧ n < 2 ^ 62) ∧ ds = (List.range n.toNat).map fun (k : Nat) => D.i (.int (0 + (k : Int))) := by
  unfold rngF at h
  split at h
  · rename_i heq
    cases heq
    split at h
    · rename_i hb
      cases h
      exact ⟨_, rfl, hb, rng_add⟩
    · cases h
  · rename_i heq; cases heq
  · cases h
theorem rngF2 {d d' : D} {ds : List D} (h : rngF [d, d'] = some ds) : ∃ a b : Int, d = .i (.int a) ∧ d' = .i (.int b) ∧ ((-(2 ^ 62) ≤ a ∧ a < 2 ^ 62) ∧ -(2 ^ 62) ≤ b ∧ b < 2 ^ 62) ∧ ds = (List.range (b - a).toNat).map fun (k : Nat) => D.i (.int (a + (k : Int))) := by
  unfold rngF at h
  split at h
  · rename_i heq; cases heq
  · rename_i heq
    cases heq
    split at h
    · rename_i hb
      cases h
      exact ⟨_, _, rfl, rfl, hb, rfl⟩
    · cases h
  · cases h
theorem rng1_read {k k' : Kd} {T : List Nat} {m : M (List D)} {σ : L2.St} {H : Hp} {Q : L2.It → Hp → Prop} (h : tI C k' T (bnd m fun d => lift (rngF d)) σ H Q) (hl : ∀ ds ρ ρ', m ρ = .ok ds ρ' → ds.length = 1) : iRng1 (tA C k T m) σ H Q := by
  obtain ⟨ρ, F, cn, h⟩ := h
  refine ⟨ρ, F, cn, ?_⟩
  cases e : m ρ with
  | no => rw [bnd_no e] at h; exact h
  | ex c fs ρ' => rw [bnd_ex e] at h; exact h
  | ok d ρ1 =>
    rw [bnd_ok e] at h
    have := hl d ρ ρ1 e
    match d, this with
    | [d], _ =>
      unfold lift at h
      intro v H1 F1 S cn1 f1 rd ko n
      cases e2 : rngF [d] with
      | none => rw [e2] at h; exact False.elim h
      | some ds =>
        rw [e2] at h
        obtain ⟨n', rfl, hb, rfl⟩ := rngF1 e2
        obtain ⟨v, rfl, r1⟩ := rd.one
        obtain ⟨rfl, rfl⟩ := r1.int_inv
        exact ⟨_, rfl, hb.1, hb.2, h _ H1 F1 [] cn1 f1 (fun a ha => absurd ha List.not_mem_nil) KOk.nil it_rng⟩
theorem rng2_read {k k' : Kd} {T : List Nat} {m : M (List D)} {σ : L2.St} {H : Hp} {Q : L2.It → Hp → Prop} (h : tI C k' T (bnd m fun d => lift (rngF d)) σ H Q) (hl : ∀ ds ρ ρ', m ρ = .ok ds ρ' → ds.length = 2) : iRng2 (tA C k T m) σ H Q := by
  obtain ⟨ρ, F, cn, h⟩ := h
  refine ⟨ρ, F, cn, ?_⟩
  cases e : m ρ with
  | no => rw [bnd_no e] at h; exact h
  | ex c fs ρ' => rw [bnd_ex e] at h; exact h
  | ok d ρ1 =>
    rw [bnd_ok e] at h
    have := hl d ρ ρ1 e
    match d, this with
    | [d, d'], _ =>
      unfold lift at h
      intro v H1 F1 S cn1 f1 rd ko n
      cases e2 : rngF [d, d'] with
      | none => rw [e2] at h; exact False.elim h
      | some ds =>
        rw [e2] at h
        obtain ⟨a, b, rfl, rfl, hb, rfl⟩ := rngF2 e2
        obtain ⟨v, w, T1, U1, rfl, r1, r2, rfl⟩ := rd.two
        obtain ⟨rfl, rfl⟩ := r1.int_inv
        obtain ⟨rfl, rfl⟩ := r2.int_inv
        exact ⟨_, _, rfl, ⟨hb.1.1, hb.1.2, hb.2.1, hb.2.2⟩, h _ H1 F1 [] cn1 f1 (fun a ha => absurd ha List.not_mem_nil) KOk.nil it_rng⟩
theorem evs_len {Z : Z0} : ∀ {ps : Ps} {ds : List D} {ρ ρ' : Env}, evs Z G ps ρ = .ok ds ρ' → ∀ {ck : Ck} {es : List Expr}, chks ck ps es = true → ds.length = es.length
  | .nil, ds, ρ, ρ', h, ck, es, hc => by
    cases es with
    | nil => simp only [evs, ret] at h; cases h; rfl
    | cons _ _ => cases hc
  | .cons p ps, ds, ρ, ρ', h, ck, es, hc => by
    cases es with
    | nil => cases hc
    | cons e es =>
      simp only [chks, Bool.and_eq_true] at hc
      simp only [evs] at h
      cases e1 : ev Z G p ρ with
      | no => rw [bnd_no e1] at h; cases h
      | ex c fs ρ' => rw [bnd_ex e1] at h; cases h
      | ok d ρ1 =>
        rw [bnd_ok e1] at h
        cases e2 : evs Z G ps ρ1 with
        | no => rw [bnd_no e2] at h; cases h
        | ex c fs ρ' => rw [bnd_ex e2] at h; cases h
        | ok r ρ2 =>
          rw [bnd_ok e2] at h
          cases h
          rw [List.length_cons, List.length_cons, evs_len e2 hc.1.2]
end
end Mp

namespace Mp
open PySem PySem.Spec PyProof.Rows L2

def Ag (A : List Nat) (σ σ' : L2.St) : Prop := ∀ k, k ∉ A → σ'[k]? = σ[k]?
theorem Ag.refl {A σ} : Ag A σ σ := fun _ _ => rfl
theorem Ag.trans {A B σ σ' σ2} (h : Ag A σ σ') (h2 : Ag B σ' σ2) : Ag (A ++ B) σ σ2 := fun k hk =>
  (h2 k fun z => hk (List.mem_append_right _ z)).trans (h k fun z => hk (List.mem_append_left _ z))
theorem Ag.mono {A B σ σ'} (h : Ag A σ σ') (m : ∀ j ∈ A, j ∈ B) : Ag B σ σ' := fun k hk => h k fun z => hk (m k z)
def setFp (inf : Inf) (i : Nat) (S : List Addr) (F : FP) : FP := fun j => if j = i then S else if i ∈ rt inf j then [] else F j
theorem setFp_sub {inf : Inf} {i j : Nat} {S : List Addr} {F : FP} (h : j ≠ i) : ∀ a ∈ setFp inf i S F j, a ∈ F j := fun a ha => by
  unfold setFp at ha
  rw [if_neg h] at ha
  split at ha
  · cases ha
  · exact ha
theorem mayHold_own {inf : Inf} {k : Kd} {i : Nat} {d : D} {H : Hp} {v : V} {S : List Addr} (h : mayHold inf k i d = true) (rd : RD H d v S) : S = [] ∨ k = .fr ∨ ∃ R, k = .bo R ∧ i ∉ rt inf i ∧ ∀ j ∈ R, j ∈ rt inf i := by
  cases rd with
  | i _ => exact .inl rfl
  | _ =>
    cases k with
    | fr => exact .inr (.inl rfl)
    | bo R =>
      simp only [mayHold, Bool.and_eq_true, Bool.not_eq_true', List.all_eq_true] at h
      exact .inr (.inr ⟨R, rfl, by simpa using h.1, fun j hj => by simpa using h.2 j hj⟩)
theorem setN_ok {inf : Inf} {B : Addr → Prop} {lk : List Nat} {ρ ρ' : Env} {σ : L2.St} {H H0 : Hp} {F F0 : FP} {d : D} {v : V} {S : List Addr} {k : Kd} {T : List Nat} {i : Nat} (cn : Cn inf B lk ρ σ H F) (fr : Fr inf T F0 H0 F H)
    (rd : RD H d v S) (ko : KOk inf B k F H S) (nw : NewK inf T F0 H0 S k) (h : setN inf k i d ρ = .ok () ρ') :
    Cn inf B lk ρ' (σ.set i (some v)) H (setFp inf i S F) ∧ Fr inf (T ++ [i]) F0 H0 (setFp inf i S F) H ∧ (∀ S2, (k = .fr → ∀ a ∈ S2, a ∉ S) → KOk inf B k F H S2 → KOk inf B k (setFp inf i S F) H S2) ∧ ∀ S2, (∀ a ∈ S2, a ∉ S) → KOk inf B .fr F H S2 → KOk inf B .fr (setFp inf i S F) H S2 := by
  unfold setN at h
  split at h
  · rename_i hb
    simp only [Bool.and_eq_true, decide_eq_true_eq] at hb
    obtain ⟨hm, hi⟩ := hb
    cases h
    have hs : i < σ.length := by rw [← cn.len]; exact hi
    have hS := mayHold_own hm rd
    have at_i : setFp inf i S F i = S := by unfold setFp; rw [if_pos rfl]
    refine ⟨?_, ?_, ?_, fun S2 hd k2 => ⟨k2.1, fun x hx j hj => ?_, k2.2.2⟩⟩
    rotate_right
    · by_cases hji : j = i
      · subst hji
        rw [at_i] at hj
        exact hd x hx hj
      · exact k2.2.1 x hx j (setFp_sub hji x hj)
    · refine ⟨fun j d' e => ?_, fun j e => ?_, fun a b hb hab x hx hx' => ?_, fun b hb => ?_, fun b hb hl x hx => ?_, fun b hb x hx => ?_, cn.nb, ?_⟩
      · rw [getE_setE hi] at e
        by_cases hj : j = i
        · subst hj
          rw [if_pos rfl] at e
          cases e
          exact ⟨v, List.getElem?_set_self hs, by rw [at_i]; exact rd⟩
        · rw [if_neg hj] at e
          split at e
          · cases e
          · rename_i hr
            obtain ⟨u, eu, ru⟩ := cn.rep j d' e
            refine ⟨u, by rw [List.getElem?_set_ne (Ne.symm hj)]; exact eu, ?_⟩
            unfold setFp
            rw [if_neg hj, if_neg hr]
            exact ru
      · rw [getE_setE hi] at e
        by_cases hj : j = i
        · subst hj
          rw [if_pos rfl] at e
          cases e
        · rw [if_neg hj] at e
          unfold setFp
          rw [if_neg hj]
          split
          · rfl
          · rename_i hr
            rw [if_neg hr] at e
            exact cn.nil j e
      · by_cases ha : a = i
        · subst ha
          have hbi : b ≠ a := fun z => hab (by subst z; rw [hb]; exact List.mem_singleton_self _)
          rw [at_i] at hx
          have hx' := setFp_sub hbi x hx'
          rcases hS with z | z | ⟨R, z, _, hR⟩
          · rw [z] at hx; cases hx
          · subst z; exact ko.2.1 x hx b hx'
          · subst z; exact ko x hx b hb (fun z => hab (hR b z)) hx'
        · have hx1 := setFp_sub ha x hx
          by_cases hbi : b = i
          · subst hbi
            rw [at_i] at hx'
            rcases hS with z | z | ⟨R, z, hn, _⟩
            · rw [z] at hx'; cases hx'
            · subst z; exact ko.2.1 x hx' a hx1
            · exact hn (by rw [hb]; exact List.mem_singleton_self _)
          · exact cn.sep a b hb hab x hx1 (setFp_sub hbi x hx')
      · by_cases hbi : b = i
        · subst hbi
          rw [at_i]
          rcases hS with z | z | ⟨R, z, hn, _⟩
          · rw [z]; exact List.nodup_nil
          · subst z; exact ko.1
          · exact absurd (by rw [hb]; exact List.mem_singleton_self _) hn
        · unfold setFp
          rw [if_neg hbi]
          split
          · exact List.nodup_nil
          · exact cn.nd b hb
      · by_cases hbi : b = i
        · subst hbi
          rw [at_i] at hx
          rcases hS with z | z | ⟨R, z, hn, _⟩
          · rw [z] at hx; cases hx
          · subst z; exact (ko.2.2 x hx).1
          · exact absurd (by rw [hb]; exact List.mem_singleton_self _) hn
        · exact cn.ex b hb hl x (setFp_sub hbi x hx)
      · by_cases hbi : b = i
        · subst hbi
          rw [at_i] at hx
          rcases hS with z | z | ⟨R, z, hn, _⟩
          · rw [z] at hx; cases hx
          · subst z; exact (ko.2.2 x hx).2
          · exact absurd (by rw [hb]; exact List.mem_singleton_self _) hn
        · exact cn.mine b hb x (setFp_sub hbi x hx)
      · rw [len_setE, List.length_set]; exact cn.len
    · refine ⟨fun a o e hn => fr.keep a o e fun j hj => hn j (List.mem_append_left _ hj), fr.there, fun j hj => ?_, fun j hj ho x hx => ?_, fr.tup⟩
      · have h1 : j ∉ T := fun z => hj (List.mem_append_left _ z)
        have h2 : j ≠ i := fun z => hj (List.mem_append_right _ (by rw [z]; exact List.mem_singleton_self _))
        unfold setFp
        rw [if_neg h2]
        split
        · exact .inr rfl
        · exact fr.same j h1
      · have sub : (H0 x = none ∨ ∃ j ∈ T, own inf j ∧ x ∈ F0 j) → H0 x = none ∨ ∃ j ∈ T ++ [i], own inf j ∧ x ∈ F0 j := fun z => z.imp id fun ⟨j, h1, h2⟩ => ⟨j, List.mem_append_left _ h1, h2⟩
        by_cases hji : j = i
        · subst hji
          rw [at_i] at hx
          rcases hS with z | z | ⟨R, z, hn, _⟩
          · rw [z] at hx; cases hx
          · subst z; exact sub (nw x hx)
          · exact absurd (by rw [ho]; exact List.mem_singleton_self _) hn
        · have hx := setFp_sub hji x hx
          have hj : j ∈ T := (List.mem_append.mp hj).elim id fun z => absurd (by simpa using z) hji
          exact sub (fr.from' j hj ho x hx)
    · intro S2 hd k2
      cases k with
      | fr =>
        refine ⟨k2.1, fun x hx j hj => ?_, k2.2.2⟩
        by_cases hji : j = i
        · subst hji
          rw [at_i] at hj
          exact hd rfl x hx hj
        · exact k2.2.1 x hx j (setFp_sub hji x hj)
      | bo R =>
        intro x hx j hjo hjR hj
        by_cases hji : j = i
        · subst hji
          rw [at_i] at hj
          rcases hS with z | z | ⟨R, z, hn, _⟩
          · rw [z] at hj; cases hj
          · cases z
          · exact absurd (by rw [hjo]; exact List.mem_singleton_self _) hn
        · exact k2 x hx j hjo hjR (setFp_sub hji x hj)
  · cases h

def PostG (C : Cc) (k : Kd) (T A : List Nat) (ρ' : Env) (σ : L2.St) (F0 F : FP) (H0 H : Hp) (S : List Addr) (Q : L2.St → Hp → Prop) : Prop :=
  ∀ σ' F', Ag A σ σ' → Cn C.inf C.B C.lk ρ' σ' H F' → Fr C.inf (T ++ A) F0 H0 F' H → (∀ S2, (k = .fr → ∀ a ∈ S2, a ∉ S) → KOk C.inf C.B k F H S2 → KOk C.inf C.B k F' H S2) → (∀ S2, (∀ a ∈ S2, a ∉ S) → KOk C.inf C.B .fr F H S2 → KOk C.inf C.B .fr F' H S2) → Q σ' H
def tG (C : Cc) (k : Kd) (t : Tg) : TG := fun v σ H Q => ∃ ρ F F0 H0 d S T, Cn C.inf C.B C.lk ρ σ H F ∧ Fr C.inf T F0 H0 F H ∧ RD H d v S ∧ KOk C.inf C.B k F H S ∧ NewK C.inf T F0 H0 S k ∧
  match setT C.inf k t d ρ with
  | .ok _ ρ' => PostG C k T (tgs t) ρ' σ F0 F H0 H S Q
  | _ => False
def tGs (C : Cc) (k : Kd) (t : Tgs) : TGs := fun vs σ H Q => ∃ ρ F F0 H0 ds S T, Cn C.inf C.B C.lk ρ σ H F ∧ Fr C.inf T F0 H0 F H ∧ RDs H ds vs S ∧ KOk C.inf C.B k F H S ∧ NewK C.inf T F0 H0 S k ∧
  match setTs C.inf k t ds ρ with
  | .ok _ ρ' => PostG C k T (tgss t) ρ' σ F0 F H0 H S Q
  | _ => False
theorem PG.weak {X : Cx} {e : Expr} {t t' : TG} (h : PG X e t) (w : ∀ v σ H Q, t' v σ H Q → t v σ H Q) : PG X e t' := ⟨fun pins s σ H v u Q I r q => h.run pins s σ H v u Q I r (w v σ H Q q)⟩
theorem PGs.weak {X : Cx} {e : List Expr} {t t' : TGs} (h : PGs X e t) (w : ∀ v σ H Q, t' v σ H Q → t v σ H Q) : PGs X e t' := ⟨fun pins s σ H v u Q I r q => h.run pins s σ H v u Q I r (w v σ H Q q)⟩
theorem assign_nst {env : PySem.Env} : ∀ {es : List Expr}, es.all nst = true → assignEach es env = es.map fun e => (false, assign e env)
  | [], _ => rfl
  | e :: es, h => by
    simp only [List.all_cons, Bool.and_eq_true] at h
    cases e <;> first
      | exact congrArg (_ :: ·) (assign_nst h.2)
      | exact absurd h.1 Bool.false_ne_true
section
variable {ck : Ck} {X : Cx} {C : Cc} {G : GS}
theorem chkT_nst {t : Tg} {e : Expr} (h : chkT ck t e = true) : nst e = true := by
  cases t with
  | n i =>
    simp only [chkT] at h
    obtain ⟨x, h1, _⟩ := opt_of h
    obtain ⟨p, rfl⟩ := nmA_inv h1
    rfl
  | t ts =>
    simp only [chkT] at h
    obtain ⟨x, h1, _⟩ := opt_of h
    obtain ⟨k, p, rfl⟩ := tupA_inv h1
    rfl
theorem chkTs_nst : ∀ {ts : Tgs} {es : List Expr}, chkTs ck ts es = true → es.all nst = true
  | .nil, [], _ => rfl
  | .cons t ts, e :: es, h => by
    simp only [chkTs, Bool.and_eq_true] at h
    simp only [List.all_cons, Bool.and_eq_true]
    exact ⟨chkT_nst h.1, chkTs_nst h.2⟩
  | .nil, _ :: _, h => by cases h
  | .cons _ _, [], h => by cases h
theorem sto_of (hX : XOk ck X C G) {x : Str} (h : sto ck x = true) : Loc X.env.scope x ∧ (X.fn x = true ∨ X.env.scope.names.lookup x = some .local) := by
  rw [hX.sc]
  unfold sto at h
  split at h
  · rename_i e; exact ⟨.inl e, .inr e⟩
  · rename_i e; exact ⟨.inr e, .inl (hX.fnc x e (by simpa using h))⟩
  · cases h
mutual
theorem setT_pg (hX : XOk ck X C G) (k : Kd) : ∀ {t : Tg} {e : Expr}, chkT ck t e = true → PG X e (tG C k t)
  | .n i, e, h => by
    simp only [chkT] at h
    obtain ⟨x, h1, h2⟩ := opt_of h
    obtain ⟨p, rfl⟩ := nmA_inv h1
    simp only [Bool.and_eq_true, decide_eq_true_eq] at h2
    obtain ⟨hl, hf⟩ := sto_of hX h2.2
    refine PG.weak (pg_name hX.nd (by rw [hX.N]; exact h2.1) hl hf) fun v σ H Q z => ?_
    obtain ⟨ρ, F, F0, H0, d, S, T, cn, fr, rd, ko, nw, z⟩ := z
    simp only [setT] at z
    cases e : setN C.inf k i d ρ with
    | no => rw [e] at z; exact z.elim
    | ex c fs ρ' => rw [e] at z; exact z.elim
    | ok u ρ' =>
      rw [e] at z
      obtain ⟨a1, a2, a3, a4⟩ := setN_ok cn fr rd ko nw e
      exact z _ _ (fun j hj => List.getElem?_set_ne (fun w => hj (by rw [w]; exact List.mem_singleton_self _))) a1 a2 a3 a4
  | .t ts, e, h => by
    simp only [chkT] at h
    obtain ⟨es, h1, h2⟩ := opt_of h
    obtain ⟨kk, p, rfl⟩ := tupA_inv h1
    have hn := chkTs_nst h2
    have ha := assign_nst (env := X.env) hn
    refine PG.weak (pg_tup (n := es.length) hX.calm (setTs_pg hX k h2) (by rw [ha, List.length_map]) (by rw [ha, List.findIdx?_eq_none_iff]; simp)) fun v σ H Q z => ?_
    obtain ⟨ρ, F, F0, H0, d, S, T, cn, fr, rd, ko, nw, z⟩ := z
    simp only [setT] at z
    cases e1 : kidsT d with
    | none => rw [e1] at z; exact z.elim
    | some ds =>
      rw [e1] at z
      simp only at z
      obtain ⟨a, vs, rfl, hv, hr⟩ := rd.kidsT e1
      refine ⟨a, vs, rfl, SqT.of hv, ?_, ρ, F, F0, H0, ds, S, T, cn, fr, hr, ko, nw, z⟩
      have len : ∀ {ts : Tgs} {es : List Expr} {ds : List D} {ρ ρ' : Env}, chkTs ck ts es = true → setTs C.inf k ts ds ρ = .ok () ρ' → ds.length = es.length := by
        intro ts
        induction ts using Tgs.rec (motive_1 := fun _ => True) with
        | n => trivial
        | t => trivial
        | nil =>
          intro es ds ρ ρ' hc hs
          cases es with
          | cons _ _ => cases hc
          | nil =>
            cases ds with
            | nil => rfl
            | cons _ _ => simp only [setTs] at hs; cases hs
        | cons t ts _ ih =>
          intro es ds ρ ρ' hc hs
          cases es with
          | nil => cases hc
          | cons e es =>
            simp only [chkTs, Bool.and_eq_true] at hc
            cases ds with
            | nil => simp only [setTs] at hs; cases hs
            | cons d ds =>
              simp only [setTs] at hs
              cases e2 : setT C.inf k t d ρ with
              | no => rw [bnd_no e2] at hs; cases hs
              | ex c fs ρ' => rw [bnd_ex e2] at hs; cases hs
              | ok u ρ1 =>
                rw [bnd_ok e2] at hs
                rw [List.length_cons, List.length_cons, ih hc.2 hs]
      rw [← hr.length]
      cases e3 : setTs C.inf k ts ds ρ with
      | no => rw [e3] at z; exact z.elim
      | ex c fs ρ' => rw [e3] at z; exact z.elim
      | ok u ρ' => exact len h2 e3
theorem setTs_pg (hX : XOk ck X C G) (k : Kd) : ∀ {ts : Tgs} {es : List Expr}, chkTs ck ts es = true → PGs X es (tGs C k ts)
  | .nil, [], _ => PGs.weak pgs_nil fun v σ H Q z => by
    obtain ⟨ρ, F, F0, H0, ds, S, T, cn, fr, rd, ko, nw, z⟩ := z
    cases rd with
    | nil => exact ⟨rfl, z σ F Ag.refl cn (fr.mono fun j hj => List.mem_append_left _ hj) (fun _ _ h => h) fun _ _ h => h⟩
    | cons _ _ => simp only [setTs] at z
  | .cons t ts, e :: es, h => by
    simp only [chkTs, Bool.and_eq_true] at h
    have hn := chkT_nst h.1
    refine PGs.weak (pgs_cons (setT_pg hX k h.1) (setTs_pg hX k h.2) (by cases e <;> first | rfl | cases hn)) fun v σ H Q z => ?_
    obtain ⟨ρ, F, F0, H0, ds, S, T, cn, fr, rd, ko, nw, z⟩ := z
    cases rd with
    | nil => simp only [setTs] at z
    | cons r1 r2 =>
      rename_i d v ds vs S1 S2
      simp only [setTs] at z
      refine ⟨v, vs, rfl, ρ, F, F0, H0, d, S1, T, cn, fr, r1, ko.sub (List.sublist_append_left _ _), nw.sub (List.sublist_append_left _ _), ?_⟩
      cases e1 : setT C.inf k t d ρ with
      | no => rw [bnd_no e1] at z; exact z
      | ex c fs ρ' => rw [bnd_ex e1] at z; exact z
      | ok u ρ1 =>
        rw [bnd_ok e1] at z
        intro σ1 F1 ag1 cn1 fr1 hold1 hold1'
        have dj : k = .fr → ∀ a ∈ S2, a ∉ S1 := fun ek a ha hb => by
          subst ek
          exact (List.nodup_append.mp ko.1).2.2 a hb a ha rfl
        refine ⟨ρ1, F1, F0, H0, ds, S2, T ++ tgs t, cn1, fr1, r2, hold1 S2 dj (ko.sub (List.sublist_append_right _ _)), (nw.sub (List.sublist_append_right _ _)).mono fun j hj => List.mem_append_left _ hj, ?_⟩
        cases e2 : setTs C.inf k ts ds ρ1 with
        | no => rw [e2] at z; exact z
        | ex c fs ρ' => rw [e2] at z; exact z
        | ok u2 ρ2 =>
          rw [e2] at z
          intro σ2 F2 ag2 cn2 fr2 hold2 hold2'
          refine z σ2 F2 (ag1.trans ag2) cn2 (fr2.mono fun j hj => by simpa [tgss, List.append_assoc] using hj) (fun S3 hd k3 => ?_) fun S3 hd k3 => hold2' S3 (fun a ha hb => hd a ha (List.mem_append_right _ hb)) (hold1' S3 (fun a ha hb => hd a ha (List.mem_append_left _ hb)) k3)
          exact hold2 S3 (fun ek a ha hb => hd ek a ha (List.mem_append_right _ hb)) (hold1 S3 (fun ek a ha hb => hd ek a ha (List.mem_append_left _ hb)) k3)
  | .nil, _ :: _, h => by cases h
  | .cons _ _, [], h => by cases h
end
end
end Mp

namespace Mp
open PySem PySem.Spec PyProof.Rows L2

theorem getE_wipe {ρ : Env} {j : Nat} : ∀ {vs : List Nat}, getE (wipeE ρ vs) j = if j ∈ vs then none else getE ρ j
  | [] => by simp [wipeE]
  | v :: vs => by
    have ih := getE_wipe (ρ := ρ) (j := j) (vs := vs)
    unfold wipeE getE
    by_cases e : j = v
    · subst e
      rw [if_pos List.mem_cons_self]
      by_cases h : j < (wipeE ρ vs).length
      · rw [List.getElem?_set_self h]; rfl
      · rw [List.getElem?_eq_none (by simpa using h)]; rfl
    · rw [List.getElem?_set_ne (Ne.symm e)]
      have ih : (wipeE ρ vs)[j]?.join = if j ∈ vs then none else getE ρ j := ih
      rw [ih]
      by_cases h : j ∈ vs
      · rw [if_pos h, if_pos (List.mem_cons_of_mem _ h)]
      · rw [if_neg h, if_neg (fun z => (List.mem_cons.mp z).elim e h)]; rfl
theorem len_wipe {ρ : Env} : ∀ {vs : List Nat}, (wipeE ρ vs).length = ρ.length
  | [] => rfl
  | v :: vs => by unfold wipeE; rw [List.length_set, len_wipe]
theorem wipe_off {σ : L2.St} {j : Nat} : ∀ {vs : List Nat}, j ∉ vs → (wipe σ vs)[j]? = σ[j]?
  | [], _ => rfl
  | v :: vs, h => by
    simp only [List.mem_cons, not_or] at h
    unfold wipe
    rw [List.getElem?_set_ne (Ne.symm h.1), wipe_off h.2]
theorem wipe_on {σ : L2.St} {j : Nat} : ∀ {vs : List Nat}, j ∈ vs → (wipe σ vs)[j]? = if j < σ.length then some none else none
  | v :: vs, h => by
    unfold wipe
    by_cases e : v = j
    · subst e
      by_cases hl : v < σ.length
      · rw [if_pos hl, List.getElem?_set_self (by rw [wipe_length]; exact hl)]
      · rw [if_neg hl, List.getElem?_eq_none (by rw [List.length_set, wipe_length]; omega)]
    · rw [List.getElem?_set_ne e]
      exact wipe_on ((List.mem_cons.mp h).resolve_left (Ne.symm e))
theorem wipe_ag {σ σ' : L2.St} {vs : List Nat} (h : Ag vs σ σ') (hl : σ'.length = σ.length) : wipe σ' vs = wipe σ vs := by
  apply List.ext_getElem?
  intro j
  by_cases hj : j ∈ vs
  · rw [wipe_on hj, wipe_on hj, hl]
  · rw [wipe_off hj, wipe_off hj, h j hj]
theorem wipe_wipe {σ : L2.St} {vs : List Nat} : wipe (wipe σ vs) vs = wipe σ vs := wipe_ag (fun j hj => wipe_off hj) (wipe_length σ vs)
def wipeF (F : FP) (vs : List Nat) : FP := fun j => if j ∈ vs then [] else F j
theorem Cn.wipe {inf B lk ρ σ H F} (c : Cn inf B lk ρ σ H F) (vs : List Nat) : Cn inf B lk (wipeE ρ vs) (L2.wipe σ vs) H (wipeF F vs) where
  rep := fun j d e => by
    rw [getE_wipe] at e
    unfold wipeF
    split at e
    · cases e
    · rename_i hj
      rw [if_neg hj]
      obtain ⟨v, e1, r⟩ := c.rep j d e
      exact ⟨v, by rw [wipe_off hj]; exact e1, r⟩
  nil := fun j e => by
    rw [getE_wipe] at e
    unfold wipeF
    split
    · rfl
    · rename_i hj
      rw [if_neg hj] at e
      exact c.nil j e
  sep := fun a b hb hab x hx hx' => by
    unfold wipeF at hx hx'
    split at hx
    · cases hx
    · split at hx'
      · cases hx'
      · exact c.sep a b hb hab x hx hx'
  nd := fun j hj => by
    unfold wipeF
    split
    · exact List.nodup_nil
    · exact c.nd j hj
  ex := fun j hj hl a ha => by
    unfold wipeF at ha
    split at ha
    · cases ha
    · exact c.ex j hj hl a ha
  mine := fun j hj a ha => by
    unfold wipeF at ha
    split at ha
    · cases ha
    · exact c.mine j hj a ha
  nb := c.nb
  len := by rw [len_wipe, wipe_length]; exact c.len
theorem getE_rest {ρ ρ' : Env} {j : Nat} (hl : ρ'.length = ρ.length) : ∀ {vs : List Nat}, getE (restE ρ ρ' vs) j = if j ∈ vs then (match getE ρ j with
    | some (.i x) => some (.i x)
    | _ => none) else getE ρ' j
  | [] => by simp [restE]
  | v :: vs => by
    have ih := getE_rest (ρ := ρ) (ρ' := ρ') (j := j) hl (vs := vs)
    have ll : ∀ vs, (restE ρ ρ' vs).length = ρ'.length := fun vs => by
      induction vs with
      | nil => rfl
      | cons v vs ih => unfold restE; rw [List.length_set, ih]
    unfold restE getE
    by_cases e : j = v
    · subst e
      rw [if_pos List.mem_cons_self]
      by_cases h : j < ρ.length
      · rw [List.getElem?_set_self (by rw [ll, hl]; exact h)]; rfl
      · rw [List.getElem?_eq_none (by rw [List.length_set, ll, hl]; omega), List.getElem?_eq_none (by omega)]; rfl
    · rw [List.getElem?_set_ne (Ne.symm e)]
      have ih : (restE ρ ρ' vs)[j]?.join = _ := ih
      rw [ih]
      by_cases h : j ∈ vs
      · rw [if_pos h, if_pos (List.mem_cons_of_mem _ h)]; rfl
      · rw [if_neg h, if_neg (fun z => (List.mem_cons.mp z).elim e h)]; rfl
theorem len_rest {ρ ρ' : Env} : ∀ {vs : List Nat}, (restE ρ ρ' vs).length = ρ'.length
  | [] => rfl
  | v :: vs => by unfold restE; rw [List.length_set, len_rest]
theorem Cn.rest {inf B lk ρ ρ' σ H1 H F1 F} {vs : List Nat} (c1 : Cn inf B lk ρ σ H1 F1) (c : Cn inf B lk ρ' (L2.wipe σ vs) H F) (t : TupK H1 H) (hv : ∀ v ∈ vs, F v = []) : Cn inf B lk (restE ρ ρ' vs) σ H F where
  rep := fun j d e => by
    have hl : ρ'.length = ρ.length := by rw [c.len, c1.len, wipe_length]
    rw [getE_rest hl] at e
    by_cases hj : j ∈ vs
    · rw [if_pos hj] at e
      split at e
      · rename_i x hx
        cases e
        obtain ⟨v, e1, r⟩ := c1.rep j _ hx
        exact ⟨v, e1, by rw [hv j hj]; exact .i (r.i_inv.1.mono t)⟩
      · cases e
    · rw [if_neg hj] at e
      obtain ⟨v, e1, r⟩ := c.rep j d e
      exact ⟨v, by rw [wipe_off hj] at e1; exact e1, r⟩
  nil := fun j e => by
    have hl : ρ'.length = ρ.length := by rw [c.len, c1.len, wipe_length]
    rw [getE_rest hl] at e
    by_cases hj : j ∈ vs
    · exact hv j hj
    · rw [if_neg hj] at e; exact c.nil j e
  sep := c.sep
  nd := c.nd
  ex := c.ex
  mine := c.mine
  nb := c.nb
  len := by rw [len_rest, c.len, wipe_length]
theorem Cn.upd {inf B lk ρ σ H F} {D : Addr} {o o' : HO} (c : Cn inf B lk ρ σ H F) (hD : H D = some o) (hn : ∀ vs, o ≠ .tup vs) (hf : ∀ p q, o' ≠ .frz p q) (hF : ∀ k, D ∉ F k) : Cn inf B lk ρ σ (L2.upd H D o') F where
  rep := fun j d e => by
    obtain ⟨v, e1, r⟩ := c.rep j d e
    exact ⟨v, e1, r.mono (upd_tupK hD hn) (upd_on (hF j))⟩
  nil := c.nil
  sep := c.sep
  nd := c.nd
  ex := fun j hj hl a ha => upd_nfz (c.ex j hj hl a ha) hf
  mine := c.mine
  nb := fun a h => c.nb a (by
    by_cases e : a = D
    · subst e; rw [upd_same] at h; cases h
    · rw [upd_ne e] at h; exact h)
  len := c.len
theorem KOk.upd {inf B F H S} {D : Addr} {o' : HO} (hf : ∀ p q, o' ≠ .frz p q) : ∀ {k : Kd}, KOk inf B k F H S → KOk inf B k F (L2.upd H D o') S
  | .fr, h => ⟨h.1, h.2.1, fun a ha => ⟨upd_nfz (h.2.2 a ha).1 hf, (h.2.2 a ha).2⟩⟩
  | .bo _, h => h
theorem KOk.wipeF {inf B F H S vs} : ∀ {k : Kd}, KOk inf B k F H S → KOk inf B k (Mp.wipeF F vs) H S
  | .fr, h => ⟨h.1, fun a ha k hk => by
      unfold Mp.wipeF at hk
      split at hk
      · cases hk
      · exact h.2.1 a ha k hk, h.2.2⟩
  | .bo _, h => fun a ha j hj hn hx => by
      unfold Mp.wipeF at hx
      split at hx
      · cases hx
      · exact h a ha j hj hn hx
theorem Fr.out {inf T F H F1 H1 vs} {U : List Nat} {D : Addr} {o o' : HO} (f : Fr inf U F H F1 H1) (hU : ∀ j ∈ U, own inf j → j ∈ T) (hU2 : ∀ j ∈ U, j ∈ T ∨ j ∈ vs) (hv : ∀ v ∈ vs, ¬ own inf v) (hD : H D = none) (hD1 : H1 D = some o) (hn : ∀ vs, o ≠ .tup vs) : Fr inf T F H (wipeF F1 vs) (L2.upd H1 D o') where
  keep := fun a b e hx => by
    have hne : a ≠ D := fun z => by subst z; rw [hD] at e; cases e
    rw [upd_ne hne]
    exact f.keep a b e fun j hj ho => hx j (hU j hj ho) ho
  there := fun a h => by
    by_cases e : a = D
    · subst e; rw [upd_same]; exact fun z => by cases z
    · rw [upd_ne e]; exact f.there a h
  same := fun k hk => by
    unfold wipeF
    split
    · exact .inr rfl
    · rename_i hkv
      exact f.same k fun z => (hU2 k z).elim hk hkv
  from' := fun k hk ho a ha => by
    unfold wipeF at ha
    split at ha
    · cases ha
    · have sub : (H a = none ∨ ∃ j ∈ U, own inf j ∧ a ∈ F j) → H a = none ∨ ∃ j ∈ T, own inf j ∧ a ∈ F j := fun z => z.imp id fun ⟨j, h1, h2, h3⟩ => ⟨j, hU j h1 h2, h2, h3⟩
      by_cases hkU : k ∈ U
      · exact sub (f.from' k hkU ho a ha)
      · rcases f.same k hkU with z | z
        · rw [z] at ha; exact .inr ⟨k, hk, ho, ha⟩
        · rw [z] at ha; cases ha
  tup := fun a vs' h => upd_tupK hD1 hn a vs' (f.tup a vs' h)
def blkW (C : Cc) : Cc := { C with W := fun _ _ _ _ => False }
def tB (C : Cc) (T : List Nat) (m : M Bool) : TT := fun σ H Q => ∃ ρ F, Cn C.inf C.B C.lk ρ σ H F ∧ match m ρ with
  | .ok b ρ' => ∀ H' F', Cn C.inf C.B C.lk ρ' σ H' F' → Fr C.inf T F H F' H' → Q b H'
  | .ex c fs ρ' => ExP C T ρ' σ F H c fs
  | .no => False
mutual
theorem setT_len {inf : Inf} {k : Kd} : ∀ {t : Tg} {d : Mp.D} {ρ ρ' : Env} {u : Unit}, setT inf k t d ρ = .ok u ρ' → ρ'.length = ρ.length
  | .n i, d, ρ, ρ', u, e => by
    simp only [setT, setN] at e
    split at e
    · cases e; exact len_setE
    · cases e
  | .t ts, d, ρ, ρ', u, e => by
    simp only [setT] at e
    cases q : kidsT d with
    | none => rw [q] at e; cases e
    | some ds => rw [q] at e; exact setTs_len e
theorem setTs_len {inf : Inf} {k : Kd} : ∀ {t : Tgs} {d : List Mp.D} {ρ ρ' : Env} {u : Unit}, setTs inf k t d ρ = .ok u ρ' → ρ'.length = ρ.length
  | .nil, [], ρ, ρ', u, e => by simp only [setTs, ret] at e; cases e; rfl
  | .nil, _ :: _, ρ, ρ', u, e => by simp only [setTs] at e; cases e
  | .cons _ _, [], ρ, ρ', u, e => by simp only [setTs] at e; cases e
  | .cons t ts, d :: ds, ρ, ρ', u, e => by
    simp only [setTs] at e
    cases q : setT inf k t d ρ with
    | no => rw [bnd_no q] at e; cases e
    | ex c fs ρ' => rw [bnd_ex q] at e; cases e
    | ok u ρ1 =>
      rw [bnd_ok q] at e
      rw [setTs_len e, setT_len q]
end
section
variable {C : Cc} {σ : L2.St} {H : Hp}
def lcStep (inf : Inf) (R : List Nat) (t : Tg) (cond : M Bool) (ke : Kd) (el : M Mp.D) : Mp.D → M (List Mp.D) := fun d => bnd (setT inf (.bo R) t d) fun _ => bnd cond fun b => if b then bnd (immM ke el) fun x => ret [x] else ret []
theorem compL_cons {α β : Type} {vs : List Nat} {step : α → M (List β)} {d : α} {ds : List α} {ρ : Env} : compL vs step (d :: ds) ρ = bnd (step d) (fun xs => bnd (wipeM vs) fun _ => bnd (compL vs step ds) fun ys => ret (xs ++ ys)) ρ := rfl
theorem lc_read {vs : List Nat} {R : List Nat} {t : Tg} {TI TC TE : List Nat} {ke : Kd} {it : M (List Mp.D)} {cond : M Bool} {el : M Mp.D} {tt : TT} {Q : VK} (hvs : ∀ v ∈ vs, ¬ own C.inf v) (htg : ∀ j ∈ tgs t, j ∈ vs) (oC : ∀ j ∈ TC, own C.inf j) (oE : ∀ j ∈ TE, own C.inf j)
    (ap : Apart (TC ++ TE) (.bo R)) (htt : ∀ σ H Q, tB (blkW C) TC cond σ H Q → tt σ H Q)
    (h : tE C .fr (TI ++ (TC ++ TE)) (bnd it fun ds => bnd (inBlk vs (compL vs (lcStep C.inf R t cond ke el) ds)) fun xs => if xs.length ≤ sizeLine then ret (.lst xs) else fun _ => .no) σ H Q) :
    tLc (tI C (.bo R) TI it) (tG (blkW C) (.bo R) t) tt (tE (blkW C) ke TE el) vs σ H Q := by
  obtain ⟨ρ, F, cn, h⟩ := h
  refine ⟨ρ, F, cn, ?_⟩
  cases e : it ρ with
  | no => rw [bnd_no e] at h; exact h
  | ex c fs ρ' => rw [bnd_ex e] at h; exact ExP.widen h fun j hj => List.mem_append_left _ hj
  | ok ds ρ1 =>
    rw [bnd_ok e] at h
    intro J H1 F1 S cn1 f1 th ko io D hD
    have ko : KOk C.inf C.B (.bo R) F1 H1 S := ko
    -- the end of it all
    let Fin : List Mp.D → Mp.R (List Mp.D) → Prop := fun acc r => match r with
      | .ok xs ρ' => (acc ++ xs).length ≤ sizeLine ∧ Post C .fr (TI ++ (TC ++ TE)) (restE ρ1 ρ' vs) σ F H (.lst (acc ++ xs)) Q
      | _ => False
    have hfin : Fin [] (compL vs (lcStep C.inf R t cond ke el) ds (wipeE ρ1 vs)) := by
      cases e2 : compL vs (lcStep C.inf R t cond ke el) ds (wipeE ρ1 vs) with
      | no => rw [bnd_no (by unfold inBlk; rw [e2])] at h; exact h
      | ex c fs ρ' => rw [bnd_no (by unfold inBlk; rw [e2])] at h; exact h.elim
      | ok xs ρ' =>
        rw [bnd_ok (a := xs) (ρ' := restE ρ1 ρ' vs) (by unfold inBlk; rw [e2])] at h
        by_cases hz : xs.length ≤ sizeLine
        · rw [if_pos hz] at h
          exact ⟨by simpa using hz, by rw [List.nil_append]; exact h⟩
        · rw [if_neg hz] at h
          exact h.elim
    have thF : ∀ k, ∀ a ∈ F1 k, a ≠ D := fun k a ha z => cn1.there ha (z ▸ hD)
    have D0 : H D = none := f1.nn hD
    have g0 : Grow H1 (L2.upd H1 D (.lst [])) := Grow.upd hD
    refine ⟨fun i m Hh => ∃ ρi Fi acc avs Sa, i + m = ds.length ∧ Cn C.inf C.B C.lk ρi (L2.wipe σ vs) Hh Fi ∧ Fr C.inf (TI ++ (TC ++ TE)) F H Fi Hh ∧ (∀ v ∈ vs, Fi v = []) ∧ Hh D = some (.lst avs) ∧ RDs Hh acc avs Sa ∧ KOk C.inf C.B .fr Fi Hh (D :: Sa) ∧
      New C.inf (TI ++ (TC ++ TE)) F H (D :: Sa) ∧ KOk C.inf C.B (.bo R) Fi Hh S ∧ On S H1 Hh ∧ TupK H1 Hh ∧ (∀ a ∈ S, Hh a ≠ none) ∧ (∀ a ∈ D :: Sa, a ∉ S) ∧ Fin acc (compL vs (lcStep C.inf R t cond ke el) (ds.drop i) ρi), ⟨ds.length, wipeE ρ1 vs, wipeF F1 vs, [], [], [], by omega, ?_⟩, ?_⟩
    · refine ⟨g0.cn (cn1.wipe vs), ?_, fun v hv => by unfold wipeF; rw [if_pos hv], upd_same, .nil, ⟨by simp, fun a ha k hk => ?_, fun a ha => ?_⟩, fun a ha => ?_, KOk.wipeF ko, g0.on _, g0.tup, fun a ha z => th a ha (g0.none z), fun a ha hS => ?_, hfin⟩
      · have : Fr C.inf TI F H F1 (L2.upd H1 D (.lst [])) := (f1.trans g0.fr).mono fun j hj => by simpa using hj
        have q := Fr.out (T := TI ++ (TC ++ TE)) (vs := vs) (D := D) (o := .lst []) (o' := .lst []) this (fun j hj _ => List.mem_append_left _ hj) (fun j hj => .inl (List.mem_append_left _ hj)) hvs D0 upd_same (fun _ z => by cases z)
        rwa [upd_upd] at q
      · have ea : a = D := by simpa using ha
        subst ea
        unfold wipeF at hk
        split at hk
        · cases hk
        · exact thF k a hk rfl
      · have ea : a = D := by simpa using ha
        subst ea
        exact ⟨fun p q z => (by rw [upd_same] at z; cases z), cn1.nb a hD⟩
      · have ea : a = D := by simpa using ha
        subst ea
        exact .inl D0
      · have ea : a = D := by simpa using ha
        subst ea
        exact th a hS hD
    · rintro i m Hh ⟨ρi, Fi, acc, avs, Sa, hm, cni, fri, hvi, hDi, ra, ka, na, koi, oni, tki, thi, apS, hf⟩
      obtain ⟨stop, item⟩ := io Hh tki oni
      cases m with
      | zero =>
        refine .inl ⟨stop i (by omega), ?_⟩
        rw [List.drop_eq_nil_of_le (by omega)] at hf
        obtain ⟨hz, hp⟩ := hf
        rw [List.append_nil] at hp
        exact hp (.ref D) Hh Fi (D :: Sa) (cn1.rest cni tki hvi) fri (.lst (.inl hDi) ra) ka na
      | succ m =>
        have hi : i < ds.length := by omega
        obtain ⟨go, yld⟩ := item i ds[i] (List.getElem?_eq_getElem hi)
        refine .inr ⟨go, fun Hh => ∃ ρi Fi acc avs Sa, (i + 1) + m = ds.length ∧ Cn C.inf C.B C.lk ρi (L2.wipe σ vs) Hh Fi ∧ Fr C.inf (TI ++ (TC ++ TE)) F H Fi Hh ∧ (∀ v ∈ vs, Fi v = []) ∧ Hh D = some (.lst avs) ∧ RDs Hh acc avs Sa ∧ KOk C.inf C.B .fr Fi Hh (D :: Sa) ∧
          New C.inf (TI ++ (TC ++ TE)) F H (D :: Sa) ∧ KOk C.inf C.B (.bo R) Fi Hh S ∧ On S H1 Hh ∧ TupK H1 Hh ∧ (∀ a ∈ S, Hh a ≠ none) ∧ (∀ a ∈ D :: Sa, a ∉ S) ∧ Fin acc (compL vs (lcStep C.inf R t cond ke el) (ds.drop (i + 1)) ρi), fun H' z => ⟨m, Nat.lt_succ_self m, z⟩, fun x H2 hy => ?_⟩
        obtain ⟨g, S2, rd, sub⟩ := yld x H2 hy
        rw [List.drop_eq_getElem_cons hi, compL_cons] at hf
        refine ⟨ρi, Fi, Fi, Hh, ds[i], S2, [], g.cn cni, g.fr, rd, fun a ha => koi a (sub a ha), trivial, ?_⟩
        show match setT C.inf (.bo R) t ds[i] ρi with
          | .ok _ ρ' => _
          | _ => False
        cases e2 : setT C.inf (.bo R) t ds[i] ρi with
        | no => rw [bnd_no (by unfold lcStep; rw [bnd_no e2])] at hf; exact hf
        | ex c fs ρ2 => rw [bnd_ex (by unfold lcStep; rw [bnd_ex e2])] at hf; exact hf
        | ok u ρ2 =>
          intro σ2 F2 ag2 cn2 f2 hold hold'
          have cn2 : Cn C.inf C.B C.lk ρ2 σ2 H2 F2 := cn2
          have f2 : Fr C.inf ([] ++ tgs t) Fi Hh F2 H2 := f2
          have ew : L2.wipe σ2 vs = L2.wipe σ vs := by
            rw [← wipe_wipe (σ := σ)]
            refine wipe_ag (ag2.mono htg) ?_
            rw [← cn2.len, setT_len e2, cni.len]
          refine ⟨ew, htt σ2 H2 _ ⟨ρ2, F2, cn2, ?_⟩⟩
          have k2 : KOk C.inf C.B .fr F2 H2 (D :: Sa) := by
            have thA : ∀ a ∈ D :: Sa, Hh a ≠ none := (RD.lst (.inl hDi) ra : RD Hh (.lst acc) (.ref D) (D :: Sa)).there
            exact hold' (D :: Sa) (fun a ha hb => apS a ha (sub a hb)) (ka.overF thA g.fr (fun j hj => absurd hj List.not_mem_nil)).2
          have r2 : RD H2 (.lst acc) (.ref D) (D :: Sa) := (RD.lst (.inl hDi) ra : RD Hh (.lst acc) (.ref D) (D :: Sa)).mono g.tup (g.on _)
          have d2 : H2 D = some (.lst avs) := g D _ hDi
          have ki2 : KOk C.inf C.B (.bo R) F2 H2 S := hold S (fun z => nomatch z) koi
          have th2 : ∀ a ∈ S, H2 a ≠ none := fun a ha z => thi a ha (g.none z)
          have apC : Apart TC (.bo R) := fun j hj => ap j (List.mem_append_left _ hj)
          have apE : Apart TE (.bo R) := fun j hj => ap j (List.mem_append_right _ hj)
          have stepEq : ∀ {r}, lcStep C.inf R t cond ke el ds[i] ρi = r → r = bnd cond (fun b => if b then bnd (immM ke el) fun x => ret [x] else ret []) ρ2 := fun {r} z => by
            rw [← z]; unfold lcStep; rw [bnd_ok e2]
          cases e3 : cond ρ2 with
          | no => rw [bnd_no (by unfold lcStep; rw [bnd_ok e2, bnd_no e3])] at hf; exact hf
          | ex c fs ρ3 => rw [bnd_ex (by unfold lcStep; rw [bnd_ok e2, bnd_ex e3])] at hf; exact hf.elim
          | ok b ρ3 =>
            intro H3 F3 cn3 f3
            have cn3 : Cn C.inf C.B C.lk ρ3 σ2 H3 F3 := cn3
            have f3 : Fr C.inf TC F2 H2 F3 H3 := f3
            obtain ⟨on3, k3⟩ := k2.overF r2.there f3 oC
            obtain ⟨onS3, ki3⟩ := ki2.overB th2 f3 apC
            have r3 := r2.mono f3.tup on3
            have d3 : H3 D = some (.lst avs) := on3 D List.mem_cons_self _ d2
            have th3 : ∀ a ∈ S, H3 a ≠ none := fun a ha => f3.there a (th2 a ha)
            have fr3 : Fr C.inf ((TI ++ (TC ++ TE)) ++ (tgs t ++ TC)) F H F3 H3 := (fri.trans ((f2.mono fun j hj => by simpa using hj).trans f3))
            have hU : ∀ j ∈ (TI ++ (TC ++ TE)) ++ (tgs t ++ TC), own C.inf j → j ∈ TI ++ (TC ++ TE) := fun j hj ho => by
              rcases List.mem_append.mp hj with z | z
              · exact z
              · rcases List.mem_append.mp z with z | z
                · exact absurd ho (hvs j (htg j z))
                · exact List.mem_append_right _ (List.mem_append_left _ z)
            have hU2 : ∀ j ∈ (TI ++ (TC ++ TE)) ++ (tgs t ++ TC), j ∈ TI ++ (TC ++ TE) ∨ j ∈ vs := fun j hj => by
              rcases List.mem_append.mp hj with z | z
              · exact .inl z
              · rcases List.mem_append.mp z with z | z
                · exact .inr (htg j z)
                · exact .inl (List.mem_append_right _ (List.mem_append_left _ z))
            have close : ∀ {ρ4 : Env} {F4 : FP} {H4 : Hp} {acc' : List Mp.D} {avs' : List V} {Sa' U4 : List Addr} {W : List Nat}, Cn C.inf C.B C.lk ρ4 σ2 H4 F4 → Fr C.inf W F H F4 H4 → (∀ j ∈ W, own C.inf j → j ∈ TI ++ (TC ++ TE)) → (∀ j ∈ W, j ∈ TI ++ (TC ++ TE) ∨ j ∈ vs) → H4 D = some (.lst avs) →
                RDs H4 acc' avs' Sa' → KOk C.inf C.B .fr F4 H4 (D :: Sa') → New C.inf (TI ++ (TC ++ TE)) F H (D :: Sa') → KOk C.inf C.B (.bo R) F4 H4 S → On S H1 H4 → TupK H1 H4 → (∀ a ∈ S, H4 a ≠ none) → (∀ a ∈ D :: Sa', a ∉ S) → Fin acc' (compL vs (lcStep C.inf R t cond ke el) (ds.drop (i + 1)) (wipeE ρ4 vs)) →
                ∃ ρi Fi acc avs Sa, (i + 1) + m = ds.length ∧ Cn C.inf C.B C.lk ρi (L2.wipe σ vs) (L2.upd H4 D (.lst avs')) Fi ∧ Fr C.inf (TI ++ (TC ++ TE)) F H Fi (L2.upd H4 D (.lst avs')) ∧ (∀ v ∈ vs, Fi v = []) ∧ (L2.upd H4 D (.lst avs')) D = some (.lst avs) ∧ RDs (L2.upd H4 D (.lst avs')) acc avs Sa ∧ KOk C.inf C.B .fr Fi (L2.upd H4 D (.lst avs')) (D :: Sa) ∧
                  New C.inf (TI ++ (TC ++ TE)) F H (D :: Sa) ∧ KOk C.inf C.B (.bo R) Fi (L2.upd H4 D (.lst avs')) S ∧ On S H1 (L2.upd H4 D (.lst avs')) ∧ TupK H1 (L2.upd H4 D (.lst avs')) ∧ (∀ a ∈ S, (L2.upd H4 D (.lst avs')) a ≠ none) ∧ (∀ a ∈ D :: Sa, a ∉ S) ∧ Fin acc (compL vs (lcStep C.inf R t cond ke el) (ds.drop (i + 1)) ρi) := by
              intro ρ4 F4 H4 acc' avs' Sa' U4 W cn4 fr4 hW hW2 d4 r4 k4 n4 ki4 onS4 tk4 th4 ap4 fin4
              have nf : ∀ p q, HO.lst avs' ≠ .frz p q := fun _ _ z => by cases z
              have kw : KOk C.inf C.B .fr (wipeF F4 vs) H4 (D :: Sa') := KOk.wipeF k4
              have cw : Cn C.inf C.B C.lk (wipeE ρ4 vs) (L2.wipe σ vs) H4 (wipeF F4 vs) := by rw [← ew]; exact cn4.wipe vs
              have tkD := upd_tupK (o := .lst avs') d4 (fun _ z => by cases z)
              have nD : D ∉ Sa' := (List.nodup_cons.mp k4.1).1
              have nS : D ∉ S := ap4 D List.mem_cons_self
              refine ⟨wipeE ρ4 vs, wipeF F4 vs, acc', avs', Sa', by omega, cw.upd d4 (fun _ z => by cases z) nf (fun k => kw.2.1 D List.mem_cons_self k), Fr.out fr4 hW hW2 hvs D0 d4 (fun _ z => by cases z), fun v hv => by unfold wipeF; rw [if_pos hv], upd_same,
                r4.mono tkD (upd_on nD), KOk.upd nf kw, n4, KOk.upd nf (KOk.wipeF ki4), fun a ha o eo => upd_on nS a ha o (onS4 a ha o eo), fun a ws z => tkD a ws (tk4 a ws z), fun a ha => ?_, ap4, fin4⟩
              by_cases z : a = D
              · exact absurd ha (z ▸ nS)
              · rw [upd_ne z]; exact th4 a ha
            have on13 : On S H1 H3 := fun a ha o eo => onS3 a ha o (g a o (oni a ha o eo))
            have tk13 : TupK H1 H3 := fun a ws z => f3.tup a ws (g.tup a ws (tki a ws z))
            have ra3 : RDs H3 acc avs Sa := by
              have := ra.mono g.tup (g.on _)
              exact this.mono f3.tup fun a ha => on3 a (List.mem_cons_of_mem _ ha)
            cases b with
            | false =>
              rw [bnd_ok (a := []) (ρ' := ρ3) (by unfold lcStep; rw [bnd_ok e2, bnd_ok e3]; rfl)] at hf
              have eq3 : L2.upd H3 D (.lst avs) = H3 := by
                funext a
                by_cases z : a = D
                · subst z; rw [upd_same, d3]
                · rw [upd_ne z]
              have fin3 : Fin acc (compL vs (lcStep C.inf R t cond ke el) (ds.drop (i + 1)) (wipeE ρ3 vs)) := by
                cases q : compL vs (lcStep C.inf R t cond ke el) (ds.drop (i + 1)) (wipeE ρ3 vs) with
                | no => rw [bnd_ok (m := wipeM vs) (a := ()) (ρ' := wipeE ρ3 vs) rfl, bnd_no q] at hf; exact hf
                | ex c fs ρ' => rw [bnd_ok (m := wipeM vs) (a := ()) (ρ' := wipeE ρ3 vs) rfl, bnd_ex q] at hf; exact hf
                | ok ys ρ' => rw [bnd_ok (m := wipeM vs) (a := ()) (ρ' := wipeE ρ3 vs) rfl, bnd_ok q] at hf; exact hf
              have fin := close (U4 := []) cn3 fr3 hU hU2 d3 ra3 k3 na ki3 on13 tk13 th3 apS fin3
              rw [eq3] at fin
              exact fin
            | true =>
              refine immM_read (C := blkW C) (k := ke) ⟨ρ3, F3, cn3, ?_⟩
              cases e4 : immM ke el ρ3 with
              | no => rw [bnd_no (by unfold lcStep; rw [bnd_ok e2, bnd_ok e3]; show bnd (immM ke el) _ ρ3 = _; rw [bnd_no e4])] at hf; exact hf
              | ex c fs ρ4 => rw [bnd_ex (by unfold lcStep; rw [bnd_ok e2, bnd_ok e3]; show bnd (immM ke el) _ ρ3 = _; rw [bnd_ex e4])] at hf; exact hf.elim
              | ok x4 ρ4 =>
                rw [bnd_ok (a := [x4]) (ρ' := ρ4) (by unfold lcStep; rw [bnd_ok e2, bnd_ok e3]; show bnd (immM ke el) _ ρ3 = _; rw [bnd_ok e4]; rfl)] at hf
                intro y H4 F4 Se cn4 f4 ry key ny
                have cn4 : Cn C.inf C.B C.lk ρ4 σ2 H4 F4 := cn4
                have f4 : Fr C.inf TE F3 H3 F4 H4 := f4
                have key : KOk C.inf C.B .fr F4 H4 Se := key
                have ny : New C.inf TE F3 H3 Se := ny
                obtain ⟨on4, k4⟩ := k3.overF r3.there f4 oE
                obtain ⟨onS4, ki4⟩ := ki3.overB th3 f4 apE
                have d4 : H4 D = some (.lst avs) := on4 D List.mem_cons_self _ d3
                have ra4 : RDs H4 acc avs Sa := ra3.mono f4.tup fun a ha => on4 a (List.mem_cons_of_mem _ ha)
                have fin4 : Fin (acc ++ [x4]) (compL vs (lcStep C.inf R t cond ke el) (ds.drop (i + 1)) (wipeE ρ4 vs)) := by
                  cases q : compL vs (lcStep C.inf R t cond ke el) (ds.drop (i + 1)) (wipeE ρ4 vs) with
                  | no => rw [bnd_ok (m := wipeM vs) (a := ()) (ρ' := wipeE ρ4 vs) rfl, bnd_no q] at hf; exact hf
                  | ex c fs ρ' => rw [bnd_ok (m := wipeM vs) (a := ()) (ρ' := wipeE ρ4 vs) rfl, bnd_ex q] at hf; exact hf
                  | ok ys ρ' =>
                    rw [bnd_ok (m := wipeM vs) (a := ()) (ρ' := wipeE ρ4 vs) rfl, bnd_ok q] at hf
                    show (acc ++ [x4] ++ ys).length ≤ sizeLine ∧ Post C .fr (TI ++ (TC ++ TE)) (restE ρ1 ρ' vs) σ F H (.lst (acc ++ [x4] ++ ys)) Q
                    rw [List.append_assoc]
                    exact hf
                have hz : avs.length < sizeLine := by
                  rw [← ra4.length]
                  have : ∀ r, Fin (acc ++ [x4]) r → acc.length < sizeLine := fun r hr => by
                    cases r with
                    | ok ys ρ' =>
                      have := hr.1
                      simp only [List.length_append, List.length_cons, List.length_nil] at this
                      omega
                    | ex c fs ρ' => exact hr.elim
                    | no => exact hr.elim
                  exact this _ fin4
                refine ⟨avs, d4, hz, ?_⟩
                have dj : ∀ a ∈ D :: Sa, a ∉ Se := fun a ha hs => by
                  rcases ny a hs with z | ⟨j, _, _, z⟩
                  · exact r3.there a ha z
                  · exact k3.2.1 a ha j z
                have kk : KOk C.inf C.B .fr F4 H4 (D :: (Sa ++ Se)) := k4.app (l := .fr) key fun _ _ => dj
                have fr4 : Fr C.inf (((TI ++ (TC ++ TE)) ++ (tgs t ++ TC)) ++ TE) F H F4 H4 := fr3.trans f4
                have nn : New C.inf (TI ++ (TC ++ TE)) F H (D :: (Sa ++ Se)) := by
                  intro a ha
                  rcases List.mem_append.mp (show a ∈ (D :: Sa) ++ Se from ha) with z | z
                  · exact na a z
                  · rcases New.over fr3 ny a z with w | ⟨j, hj, ho, w⟩
                    · exact .inl w
                    · refine .inr ⟨j, ?_, ho, w⟩
                      rcases List.mem_append.mp hj with q | q
                      · exact hU j q ho
                      · exact List.mem_append_right _ (List.mem_append_right _ q)
                have ap4 : ∀ a ∈ D :: (Sa ++ Se), a ∉ S := by
                  intro a ha hs
                  rcases List.mem_append.mp (show a ∈ (D :: Sa) ++ Se from ha) with z | z
                  · exact apS a z hs
                  · rcases ny a z with w | ⟨j, hj, ho, w⟩
                    · exact th3 a hs w
                    · exact ki3 a hs j ho (apE j hj) w
                have rr : RDs H4 (acc ++ [x4]) (avs ++ [y]) (Sa ++ Se) := by
                  have := RDs.append ra4 (RDs.cons ry .nil)
                  simpa using this
                exact close (U4 := []) cn4 fr4 (fun j hj ho => (List.mem_append.mp hj).elim (fun z => hU j z ho) fun z => List.mem_append_right _ (List.mem_append_right _ z))
                  (fun j hj => (List.mem_append.mp hj).elim (hU2 j) fun z => .inl (List.mem_append_right _ (List.mem_append_right _ z))) d4 rr kk nn ki4 (fun a ha o eo => onS4 a ha o (on13 a ha o eo)) (fun a ws z => f4.tup a ws (tk13 a ws z)) (fun a ha => f4.there a (th3 a ha)) ap4 fin4
end
theorem lcA_inv {x elt tg it : Expr} {ifs : List Expr} {scope : Scope} (h : lcA x = some (elt, tg, it, ifs, scope)) : ∃ pos, x = .ListComp elt [⟨tg, it, ifs, 0⟩] scope pos ∧ noSet it = true := by
  unfold lcA at h
  split at h
  · split at h
    · cases h; exact ⟨_, rfl, by assumption⟩
    · cases h
  · cases h
theorem noSet_fold {e : Expr} (h : noSet e = true) {env : PySem.Env} : ∀ x, foldedSetIterable e env x = pure x := by
  intro x
  cases e <;> first
    | rfl
    | cases h
theorem blk_ok {ck : Ck} {X : Cx} {C : Cc} {G : GS} (hX : XOk ck X C G) {scope : Scope} {own : List (Str × Nat)} (ok : BlkOk X.N X.env.scope scope own) (s : Shared) (H : Hp) (D : Addr) (cl : List (Str × Addr)) (fp : List Addr) :
    XOk (blkCk ck scope) (X.blk s H scope (compEnvC scope cl D X.env) fp) (blkW C) G where
  N := hX.N
  nd := hX.nd
  sc := by
    show relS scope X.env.scope = relS scope ck.sc
    rw [hX.sc]
  knd := ok.kind
  inf := hX.inf
  lk := hX.lk
  K := hX.K
  calm := hX.calm
  blts := hX.blts
  glb := hX.glb
  fnc := fun x _ hx => by
    obtain ⟨y, hy, e⟩ := List.mem_filterMap.mp hx
    split at e
    · rename_i hc
      cases e
      have := ok.uniq y hy
      show (scope.names.lookup y.1 == some .cell) = true
      rw [this, hc]; rfl
    · cases e
  room := hX.room
  tk := takes0
  fns := hX.fns
theorem tt_of {C : Cc} {T : List Nat} {m : M Mp.D} {σ : L2.St} {H : Hp} {Q : Bool → Hp → Prop} (h : tB C T (bnd m fun d => bnd (lift (truth d)) fun b => if b then ret true else ret false) σ H Q) : tT C T m σ H Q := by
  obtain ⟨ρ, F, cn, h⟩ := h
  refine ⟨ρ, F, cn, ?_⟩
  cases e : m ρ with
  | no => rw [bnd_no e] at h; exact h
  | ex c fs ρ' => rw [bnd_ex e] at h; exact h
  | ok d ρ1 =>
    rw [bnd_ok e] at h
    cases e2 : truth d with
    | none => rw [e2] at h; exact h.elim
    | some b =>
      rw [e2] at h
      refine ⟨b, e2, ?_⟩
      cases b <;> exact h
theorem kdI_bo {Z : Z0} {it : It} : ∃ R, kdI Z it = .bo R := by
  have : ∀ k : Kd, ∃ R, toB k = .bo R := fun k => by cases k with
    | fr => exact ⟨_, rfl⟩
    | bo R => exact ⟨R, rfl⟩
  cases it <;> simp only [kdI] <;> first
    | exact this _
    | exact ⟨_, rfl⟩
end Mp

namespace Mp
open PySem PySem.Spec PyProof.Rows L2

def keysOf (xs : List (Mp.D × Mp.D)) : Option (List (Key × Mp.D)) := xs.mapM fun (x : Mp.D × Mp.D) => (keyD x.1).map fun k => (k, x.2)
theorem mkDk_eq {xs : List (Mp.D × Mp.D)} : mkDk xs = match keysOf xs with
    | some kx => if kx.length ≤ sizeLine then some (.dk (updK [] kx)) else none
    | none => none := by
  unfold mkDk
  show (keysOf xs).bind _ = _
  cases keysOf xs <;> rfl
theorem keysOf_cons {y x : Mp.D} {ys : List (Mp.D × Mp.D)} {kx : List (Key × Mp.D)} (h : keysOf ((y, x) :: ys) = some kx) : ∃ k ks, keyD y = some k ∧ keysOf ys = some ks ∧ kx = (k, x) :: ks := by
  unfold keysOf at h
  rw [List.mapM_cons] at h
  cases e : keyD y with
  | none => rw [e] at h; cases h
  | some k =>
    rw [e] at h
    cases e2 : (ys.mapM fun (x : Mp.D × Mp.D) => (keyD x.1).map fun k => (k, x.2)) with
    | none => rw [e2] at h; cases h
    | some ks => rw [e2] at h; cases h; exact ⟨k, ks, rfl, e2, rfl⟩
theorem updK_append {xs : List (Key × Mp.D)} : ∀ {ys zs : List (Key × Mp.D)}, updK xs (ys ++ zs) = updK (updK xs ys) zs
  | [], _ => rfl
  | (k, d) :: ys, zs => by
    show updK (addK k d xs) (ys ++ zs) = updK (updK (addK k d xs) ys) zs
    exact updK_append
theorem length_addK {κ : Type} [DecidableEq κ] {k : κ} {d : Mp.D} : ∀ (r : List (κ × Mp.D)), (addK k d r).length ≤ r.length + 1
  | [] => Nat.le_refl _
  | (k', d') :: r => by
    unfold addK
    split
    · simp
    · simp only [List.length_cons]
      have := length_addK (k := k) (d := d) r
      omega
theorem length_updK : ∀ (ys xs : List (Key × Mp.D)), (updK xs ys).length ≤ xs.length + ys.length
  | [], xs => Nat.le_refl _
  | (k, d) :: ys, xs => by
    show (updK (addK k d xs) ys).length ≤ _
    have h1 := length_updK ys (addK k d xs)
    have h2 := length_addK (k := k) (d := d) xs
    simp only [List.length_cons]
    omega
theorem length_updK0 (ys : List (Key × Mp.D)) : (updK [] ys).length ≤ ys.length := by
  have := length_updK ys []
  simpa using this
def AccR (H : Hp) (pre : List (Key × Mp.D)) (avs : List (Key × V)) (S : List Addr) : Prop := RDk H (updK [] pre) avs S ∧ (avs.map (·.1)).Nodup
theorem AccR.mono {H H' : Hp} {pre avs S} (h : AccR H pre avs S) (t : TupK H H') (o : On S H H') : AccR H' pre avs S := ⟨RDk.mono t h.1 o, h.2⟩
section
variable {C : Cc} {σ : L2.St} {H : Hp}
def dcStep (inf : Inf) (R : List Nat) (t : Tg) (cond : M Bool) (mk : M Mp.D) (ke : Kd) (el : M Mp.D) : Mp.D → M (List (Mp.D × Mp.D)) := fun d => bnd (setT inf (.bo R) t d) fun _ => bnd cond fun b => if b then bnd mk fun y => bnd (immM ke el) fun x => ret [(y, x)] else ret []
theorem dc_read {vs : List Nat} {R : List Nat} {t : Tg} {TI TC TK TE : List Nat} {ke kk : Kd} {it : M (List Mp.D)} {cond : M Bool} {mk el : M Mp.D} {tt : TT} {Q : VK} (hvs : ∀ v ∈ vs, ¬ own C.inf v) (htg : ∀ j ∈ tgs t, j ∈ vs) (oC : ∀ j ∈ TC, own C.inf j) (oK : ∀ j ∈ TK, own C.inf j) (oE : ∀ j ∈ TE, own C.inf j)
    (ap : Apart (TC ++ (TK ++ TE)) (.bo R)) (htt : ∀ σ H Q, tB (blkW C) TC cond σ H Q → tt σ H Q)
    (h : tE C .fr (TI ++ (TC ++ (TK ++ TE))) (bnd it fun ds => bnd (inBlk vs (compL vs (dcStep C.inf R t cond mk ke el) ds)) fun xs => lift (mkDk xs)) σ H Q) :
    tDc (tI C (.bo R) TI it) (tG (blkW C) (.bo R) t) tt (tE (blkW C) kk TK mk) (tE (blkW C) ke TE el) vs σ H Q := by
  obtain ⟨ρ, F, cn, h⟩ := h
  refine ⟨ρ, F, cn, ?_⟩
  cases e : it ρ with
  | no => rw [bnd_no e] at h; exact h
  | ex c fs ρ' => rw [bnd_ex e] at h; exact ExP.widen h fun j hj => List.mem_append_left _ hj
  | ok ds ρ1 =>
    rw [bnd_ok e] at h
    intro J H1 F1 S cn1 f1 th ko io D hD
    have ko : KOk C.inf C.B (.bo R) F1 H1 S := ko
    -- the end of it all
    let Fin : List (Key × Mp.D) → Mp.R (List (Mp.D × Mp.D)) → Prop := fun pre r => match r with
      | .ok xs ρ' => ∃ kx, keysOf xs = some kx ∧ (pre ++ kx).length ≤ sizeLine ∧ Post C .fr (TI ++ (TC ++ (TK ++ TE))) (restE ρ1 ρ' vs) σ F H (.dk (updK [] (pre ++ kx))) Q
      | _ => False
    have hfin : Fin [] (compL vs (dcStep C.inf R t cond mk ke el) ds (wipeE ρ1 vs)) := by
      cases e2 : compL vs (dcStep C.inf R t cond mk ke el) ds (wipeE ρ1 vs) with
      | no => rw [bnd_no (by unfold inBlk; rw [e2])] at h; exact h
      | ex c fs ρ' => rw [bnd_no (by unfold inBlk; rw [e2])] at h; exact h.elim
      | ok xs ρ' =>
        rw [bnd_ok (a := xs) (ρ' := restE ρ1 ρ' vs) (by unfold inBlk; rw [e2])] at h
        rw [mkDk_eq] at h
        cases ek : keysOf xs with
        | none => rw [ek] at h; exact h.elim
        | some kx =>
          rw [ek] at h
          dsimp only at h
          by_cases hz : kx.length ≤ sizeLine
          · rw [if_pos hz] at h
            exact ⟨kx, ek, by simpa using hz, by rw [List.nil_append]; exact h⟩
          · rw [if_neg hz] at h
            exact h.elim
    have thF : ∀ k, ∀ a ∈ F1 k, a ≠ D := fun k a ha z => cn1.there ha (z ▸ hD)
    have D0 : H D = none := f1.nn hD
    have g0 : Grow H1 (L2.upd H1 D (.dK [])) := Grow.upd hD
    refine ⟨fun i m Hh => ∃ ρi Fi acc avs Sa, i + m = ds.length ∧ Cn C.inf C.B C.lk ρi (L2.wipe σ vs) Hh Fi ∧ Fr C.inf (TI ++ (TC ++ (TK ++ TE))) F H Fi Hh ∧ (∀ v ∈ vs, Fi v = []) ∧ Hh D = some (.dK avs) ∧ AccR Hh acc avs Sa ∧ KOk C.inf C.B .fr Fi Hh (D :: Sa) ∧
      New C.inf (TI ++ (TC ++ (TK ++ TE))) F H (D :: Sa) ∧ KOk C.inf C.B (.bo R) Fi Hh S ∧ On S H1 Hh ∧ TupK H1 Hh ∧ (∀ a ∈ S, Hh a ≠ none) ∧ (∀ a ∈ D :: Sa, a ∉ S) ∧ Fin acc (compL vs (dcStep C.inf R t cond mk ke el) (ds.drop i) ρi), ⟨ds.length, wipeE ρ1 vs, wipeF F1 vs, [], [], [], by omega, ?_⟩, ?_⟩
    · refine ⟨g0.cn (cn1.wipe vs), ?_, fun v hv => by unfold wipeF; rw [if_pos hv], upd_same, ⟨.nil, List.nodup_nil⟩, ⟨by simp, fun a ha k hk => ?_, fun a ha => ?_⟩, fun a ha => ?_, KOk.wipeF ko, g0.on _, g0.tup, fun a ha z => th a ha (g0.none z), fun a ha hS => ?_, hfin⟩
      · have : Fr C.inf TI F H F1 (L2.upd H1 D (.dK [])) := (f1.trans g0.fr).mono fun j hj => by simpa using hj
        have q := Fr.out (T := TI ++ (TC ++ (TK ++ TE))) (vs := vs) (D := D) (o := .dK []) (o' := .dK []) this (fun j hj _ => List.mem_append_left _ hj) (fun j hj => .inl (List.mem_append_left _ hj)) hvs D0 upd_same (fun _ z => by cases z)
        rwa [upd_upd] at q
      · have ea : a = D := by simpa using ha
        subst ea
        unfold wipeF at hk
        split at hk
        · cases hk
        · exact thF k a hk rfl
      · have ea : a = D := by simpa using ha
        subst ea
        exact ⟨fun p q z => (by rw [upd_same] at z; cases z), cn1.nb a hD⟩
      · have ea : a = D := by simpa using ha
        subst ea
        exact .inl D0
      · have ea : a = D := by simpa using ha
        subst ea
        exact th a hS hD
    · rintro i m Hh ⟨ρi, Fi, acc, avs, Sa, hm, cni, fri, hvi, hDi, ra, ka, na, koi, oni, tki, thi, apS, hf⟩
      obtain ⟨stop, item⟩ := io Hh tki oni
      cases m with
      | zero =>
        refine .inl ⟨stop i (by omega), ?_⟩
        rw [List.drop_eq_nil_of_le (by omega)] at hf
        obtain ⟨kx, ekx, hz, hp⟩ := hf
        have ekx : some [] = some kx := ekx
        cases ekx
        simp only [List.append_nil] at hp
        exact hp (.ref D) Hh Fi (D :: Sa) (cn1.rest cni tki hvi) fri (.dk (.inl hDi) ra.1 ra.2) ka na
      | succ m =>
        have hi : i < ds.length := by omega
        obtain ⟨go, yld⟩ := item i ds[i] (List.getElem?_eq_getElem hi)
        refine .inr ⟨go, fun Hh => ∃ ρi Fi acc avs Sa, (i + 1) + m = ds.length ∧ Cn C.inf C.B C.lk ρi (L2.wipe σ vs) Hh Fi ∧ Fr C.inf (TI ++ (TC ++ (TK ++ TE))) F H Fi Hh ∧ (∀ v ∈ vs, Fi v = []) ∧ Hh D = some (.dK avs) ∧ AccR Hh acc avs Sa ∧ KOk C.inf C.B .fr Fi Hh (D :: Sa) ∧
          New C.inf (TI ++ (TC ++ (TK ++ TE))) F H (D :: Sa) ∧ KOk C.inf C.B (.bo R) Fi Hh S ∧ On S H1 Hh ∧ TupK H1 Hh ∧ (∀ a ∈ S, Hh a ≠ none) ∧ (∀ a ∈ D :: Sa, a ∉ S) ∧ Fin acc (compL vs (dcStep C.inf R t cond mk ke el) (ds.drop (i + 1)) ρi), fun H' z => ⟨m, Nat.lt_succ_self m, z⟩, fun x H2 hy => ?_⟩
        obtain ⟨g, S2, rd, sub⟩ := yld x H2 hy
        rw [List.drop_eq_getElem_cons hi, compL_cons] at hf
        refine ⟨ρi, Fi, Fi, Hh, ds[i], S2, [], g.cn cni, g.fr, rd, fun a ha => koi a (sub a ha), trivial, ?_⟩
        show match setT C.inf (.bo R) t ds[i] ρi with
          | .ok _ ρ' => _
          | _ => False
        cases e2 : setT C.inf (.bo R) t ds[i] ρi with
        | no => rw [bnd_no (by unfold dcStep; rw [bnd_no e2])] at hf; exact hf
        | ex c fs ρ2 => rw [bnd_ex (by unfold dcStep; rw [bnd_ex e2])] at hf; exact hf
        | ok u ρ2 =>
          intro σ2 F2 ag2 cn2 f2 hold hold'
          have cn2 : Cn C.inf C.B C.lk ρ2 σ2 H2 F2 := cn2
          have f2 : Fr C.inf ([] ++ tgs t) Fi Hh F2 H2 := f2
          have ew : L2.wipe σ2 vs = L2.wipe σ vs := by
            rw [← wipe_wipe (σ := σ)]
            refine wipe_ag (ag2.mono htg) ?_
            rw [← cn2.len, setT_len e2, cni.len]
          refine ⟨ew, htt σ2 H2 _ ⟨ρ2, F2, cn2, ?_⟩⟩
          have k2 : KOk C.inf C.B .fr F2 H2 (D :: Sa) := by
            have thA : ∀ a ∈ D :: Sa, Hh a ≠ none := (RD.dk (.inl hDi) ra.1 ra.2 : RD Hh (.dk (updK [] acc)) (.ref D) (D :: Sa)).there
            exact hold' (D :: Sa) (fun a ha hb => apS a ha (sub a hb)) (ka.overF thA g.fr (fun j hj => absurd hj List.not_mem_nil)).2
          have r2 : RD H2 (.dk (updK [] acc)) (.ref D) (D :: Sa) := (RD.dk (.inl hDi) ra.1 ra.2 : RD Hh (.dk (updK [] acc)) (.ref D) (D :: Sa)).mono g.tup (g.on _)
          have d2 : H2 D = some (.dK avs) := g D _ hDi
          have ki2 : KOk C.inf C.B (.bo R) F2 H2 S := hold S (fun z => nomatch z) koi
          have th2 : ∀ a ∈ S, H2 a ≠ none := fun a ha z => thi a ha (g.none z)
          have apC : Apart TC (.bo R) := fun j hj => ap j (List.mem_append_left _ hj)
          have apK : Apart TK (.bo R) := fun j hj => ap j (List.mem_append_right _ (List.mem_append_left _ hj))
          have apE : Apart TE (.bo R) := fun j hj => ap j (List.mem_append_right _ (List.mem_append_right _ hj))
          cases e3 : cond ρ2 with
          | no => rw [bnd_no (by unfold dcStep; rw [bnd_ok e2, bnd_no e3])] at hf; exact hf
          | ex c fs ρ3 => rw [bnd_ex (by unfold dcStep; rw [bnd_ok e2, bnd_ex e3])] at hf; exact hf.elim
          | ok b ρ3 =>
            intro H3 F3 cn3 f3
            have cn3 : Cn C.inf C.B C.lk ρ3 σ2 H3 F3 := cn3
            have f3 : Fr C.inf TC F2 H2 F3 H3 := f3
            obtain ⟨on3, k3⟩ := k2.overF r2.there f3 oC
            obtain ⟨onS3, ki3⟩ := ki2.overB th2 f3 apC
            have r3 := r2.mono f3.tup on3
            have d3 : H3 D = some (.dK avs) := on3 D List.mem_cons_self _ d2
            have th3 : ∀ a ∈ S, H3 a ≠ none := fun a ha => f3.there a (th2 a ha)
            have fr3 : Fr C.inf ((TI ++ (TC ++ (TK ++ TE))) ++ (tgs t ++ TC)) F H F3 H3 := (fri.trans ((f2.mono fun j hj => by simpa using hj).trans f3))
            have hU : ∀ j ∈ (TI ++ (TC ++ (TK ++ TE))) ++ (tgs t ++ TC), own C.inf j → j ∈ TI ++ (TC ++ (TK ++ TE)) := fun j hj ho => by
              rcases List.mem_append.mp hj with z | z
              · exact z
              · rcases List.mem_append.mp z with z | z
                · exact absurd ho (hvs j (htg j z))
                · exact List.mem_append_right _ (List.mem_append_left _ z)
            have hU2 : ∀ j ∈ (TI ++ (TC ++ (TK ++ TE))) ++ (tgs t ++ TC), j ∈ TI ++ (TC ++ (TK ++ TE)) ∨ j ∈ vs := fun j hj => by
              rcases List.mem_append.mp hj with z | z
              · exact .inl z
              · rcases List.mem_append.mp z with z | z
                · exact .inr (htg j z)
                · exact .inl (List.mem_append_right _ (List.mem_append_left _ z))
            have close : ∀ {ρ4 : Env} {F4 : FP} {H4 : Hp} {acc' : List (Key × Mp.D)} {avs' : List (Key × V)} {Sa' U4 : List Addr} {W : List Nat}, Cn C.inf C.B C.lk ρ4 σ2 H4 F4 → Fr C.inf W F H F4 H4 → (∀ j ∈ W, own C.inf j → j ∈ TI ++ (TC ++ (TK ++ TE))) → (∀ j ∈ W, j ∈ TI ++ (TC ++ (TK ++ TE)) ∨ j ∈ vs) → H4 D = some (.dK avs) →
                AccR H4 acc' avs' Sa' → KOk C.inf C.B .fr F4 H4 (D :: Sa') → New C.inf (TI ++ (TC ++ (TK ++ TE))) F H (D :: Sa') → KOk C.inf C.B (.bo R) F4 H4 S → On S H1 H4 → TupK H1 H4 → (∀ a ∈ S, H4 a ≠ none) → (∀ a ∈ D :: Sa', a ∉ S) → Fin acc' (compL vs (dcStep C.inf R t cond mk ke el) (ds.drop (i + 1)) (wipeE ρ4 vs)) →
                ∃ ρi Fi acc avs Sa, (i + 1) + m = ds.length ∧ Cn C.inf C.B C.lk ρi (L2.wipe σ vs) (L2.upd H4 D (.dK avs')) Fi ∧ Fr C.inf (TI ++ (TC ++ (TK ++ TE))) F H Fi (L2.upd H4 D (.dK avs')) ∧ (∀ v ∈ vs, Fi v = []) ∧ (L2.upd H4 D (.dK avs')) D = some (.dK avs) ∧ AccR (L2.upd H4 D (.dK avs')) acc avs Sa ∧ KOk C.inf C.B .fr Fi (L2.upd H4 D (.dK avs')) (D :: Sa) ∧
                  New C.inf (TI ++ (TC ++ (TK ++ TE))) F H (D :: Sa) ∧ KOk C.inf C.B (.bo R) Fi (L2.upd H4 D (.dK avs')) S ∧ On S H1 (L2.upd H4 D (.dK avs')) ∧ TupK H1 (L2.upd H4 D (.dK avs')) ∧ (∀ a ∈ S, (L2.upd H4 D (.dK avs')) a ≠ none) ∧ (∀ a ∈ D :: Sa, a ∉ S) ∧ Fin acc (compL vs (dcStep C.inf R t cond mk ke el) (ds.drop (i + 1)) ρi) := by
              intro ρ4 F4 H4 acc' avs' Sa' U4 W cn4 fr4 hW hW2 d4 r4 k4 n4 ki4 onS4 tk4 th4 ap4 fin4
              have nf : ∀ p q, HO.dK avs' ≠ .frz p q := fun _ _ z => by cases z
              have kw : KOk C.inf C.B .fr (wipeF F4 vs) H4 (D :: Sa') := KOk.wipeF k4
              have cw : Cn C.inf C.B C.lk (wipeE ρ4 vs) (L2.wipe σ vs) H4 (wipeF F4 vs) := by rw [← ew]; exact cn4.wipe vs
              have tkD := upd_tupK (o := .dK avs') d4 (fun _ z => by cases z)
              have nD : D ∉ Sa' := (List.nodup_cons.mp k4.1).1
              have nS : D ∉ S := ap4 D List.mem_cons_self
              refine ⟨wipeE ρ4 vs, wipeF F4 vs, acc', avs', Sa', by omega, cw.upd d4 (fun _ z => by cases z) nf (fun k => kw.2.1 D List.mem_cons_self k), Fr.out fr4 hW hW2 hvs D0 d4 (fun _ z => by cases z), fun v hv => by unfold wipeF; rw [if_pos hv], upd_same,
                r4.mono tkD (upd_on nD), KOk.upd nf kw, n4, KOk.upd nf (KOk.wipeF ki4), fun a ha o eo => upd_on nS a ha o (onS4 a ha o eo), fun a ws z => tkD a ws (tk4 a ws z), fun a ha => ?_, ap4, fin4⟩
              by_cases z : a = D
              · exact absurd ha (z ▸ nS)
              · rw [upd_ne z]; exact th4 a ha
            have on13 : On S H1 H3 := fun a ha o eo => onS3 a ha o (g a o (oni a ha o eo))
            have tk13 : TupK H1 H3 := fun a ws z => f3.tup a ws (g.tup a ws (tki a ws z))
            have ra3 : AccR H3 acc avs Sa := (ra.mono g.tup (g.on _)).mono f3.tup fun a ha => on3 a (List.mem_cons_of_mem _ ha)
            cases b with
            | false =>
              rw [bnd_ok (a := []) (ρ' := ρ3) (by unfold dcStep; rw [bnd_ok e2, bnd_ok e3]; rfl)] at hf
              have eq3 : L2.upd H3 D (.dK avs) = H3 := by
                funext a
                by_cases z : a = D
                · subst z; rw [upd_same, d3]
                · rw [upd_ne z]
              have fin3 : Fin acc (compL vs (dcStep C.inf R t cond mk ke el) (ds.drop (i + 1)) (wipeE ρ3 vs)) := by
                cases q : compL vs (dcStep C.inf R t cond mk ke el) (ds.drop (i + 1)) (wipeE ρ3 vs) with
                | no => rw [bnd_ok (m := wipeM vs) (a := ()) (ρ' := wipeE ρ3 vs) rfl, bnd_no q] at hf; exact hf
                | ex c fs ρ' => rw [bnd_ok (m := wipeM vs) (a := ()) (ρ' := wipeE ρ3 vs) rfl, bnd_ex q] at hf; exact hf
                | ok ys ρ' => rw [bnd_ok (m := wipeM vs) (a := ()) (ρ' := wipeE ρ3 vs) rfl, bnd_ok q] at hf; exact hf
              have fin := close (U4 := []) cn3 fr3 hU hU2 d3 ra3 k3 na ki3 on13 tk13 th3 apS fin3
              rw [eq3] at fin
              exact fin
            | true =>
              have hs3 : dcStep C.inf R t cond mk ke el ds[i] ρi = bnd mk (fun y => bnd (immM ke el) fun x => ret [(y, x)]) ρ3 := by
                unfold dcStep; rw [bnd_ok e2, bnd_ok e3]; rfl
              refine ⟨ρ3, F3, cn3, ?_⟩
              cases e4 : mk ρ3 with
              | no => rw [bnd_no (by rw [hs3, bnd_no e4])] at hf; exact hf
              | ex c fs ρ4 => rw [bnd_ex (by rw [hs3, bnd_ex e4])] at hf; exact hf.elim
              | ok y4 ρ4 =>
                intro y H4 F4 Sk cn4 f4 ry _ _
                have cn4 : Cn C.inf C.B C.lk ρ4 σ2 H4 F4 := cn4
                have f4 : Fr C.inf TK F3 H3 F4 H4 := f4
                obtain ⟨on4, k4⟩ := k3.overF r3.there f4 oK
                obtain ⟨onS4, ki4⟩ := ki3.overB th3 f4 apK
                have r4 := r3.mono f4.tup on4
                have d4 : H4 D = some (.dK avs) := on4 D List.mem_cons_self _ d3
                have th4 : ∀ a ∈ S, H4 a ≠ none := fun a ha => f4.there a (th3 a ha)
                have ra4 : AccR H4 acc avs Sa := ra3.mono f4.tup fun a ha => on4 a (List.mem_cons_of_mem _ ha)
                refine immM_read (C := blkW C) (k := ke) ⟨ρ4, F4, cn4, ?_⟩
                cases e5 : immM ke el ρ4 with
                | no => rw [bnd_no (by rw [hs3, bnd_ok e4, bnd_no e5])] at hf; exact hf
                | ex c fs ρ5 => rw [bnd_ex (by rw [hs3, bnd_ok e4, bnd_ex e5])] at hf; exact hf.elim
                | ok x5 ρ5 =>
                  rw [bnd_ok (a := [(y4, x5)]) (ρ' := ρ5) (by rw [hs3, bnd_ok e4, bnd_ok e5]; rfl)] at hf
                  intro z H5 F5 Se cn5 f5 rz key nz
                  have cn5 : Cn C.inf C.B C.lk ρ5 σ2 H5 F5 := cn5
                  have f5 : Fr C.inf TE F4 H4 F5 H5 := f5
                  have key : KOk C.inf C.B .fr F5 H5 Se := key
                  have nz : New C.inf TE F4 H4 Se := nz
                  obtain ⟨on5, k5⟩ := k4.overF r4.there f5 oE
                  obtain ⟨onS5, ki5⟩ := ki4.overB th4 f5 apE
                  have d5 : H5 D = some (.dK avs) := on5 D List.mem_cons_self _ d4
                  have ra5 : AccR H5 acc avs Sa := ra4.mono f5.tup fun a ha => on5 a (List.mem_cons_of_mem _ ha)
                  obtain ⟨kk4, ek4, fin5⟩ : ∃ k, keyD y4 = some k ∧ Fin (acc ++ [(k, x5)]) (compL vs (dcStep C.inf R t cond mk ke el) (ds.drop (i + 1)) (wipeE ρ5 vs)) := by
                    cases q : compL vs (dcStep C.inf R t cond mk ke el) (ds.drop (i + 1)) (wipeE ρ5 vs) with
                    | no => rw [bnd_ok (m := wipeM vs) (a := ()) (ρ' := wipeE ρ5 vs) rfl, bnd_no q] at hf; exact hf.elim
                    | ex c fs ρ' => rw [bnd_ok (m := wipeM vs) (a := ()) (ρ' := wipeE ρ5 vs) rfl, bnd_ex q] at hf; exact hf.elim
                    | ok ys ρ' =>
                      rw [bnd_ok (m := wipeM vs) (a := ()) (ρ' := wipeE ρ5 vs) rfl, bnd_ok q] at hf
                      obtain ⟨kx, ekx, hz, hp⟩ := hf
                      obtain ⟨k, ks, a1, a2, rfl⟩ := keysOf_cons ekx
                      exact ⟨k, a1, ks, a2, by simpa using hz, by rw [List.append_assoc]; exact hp⟩
                  obtain ⟨rfl, rfl⟩ := keyD_inv ry ek4
                  have hz : avs.length < sizeLine := by
                    rw [← ra5.1.length]
                    have : ∀ r, Fin (acc ++ [(kk4, x5)]) r → acc.length < sizeLine := fun r hr => by
                      cases r with
                      | ok ys ρ' =>
                        obtain ⟨kx, _, this, _⟩ := hr
                        simp only [List.length_append, List.length_cons, List.length_nil] at this
                        omega
                      | ex c fs ρ' => exact hr.elim
                      | no => exact hr.elim
                    exact Nat.lt_of_le_of_lt (length_updK0 acc) (this _ fin5)
                  refine ⟨avs, kk4, rfl, d5, hz, ?_⟩
                  have dj : ∀ a ∈ D :: Sa, a ∉ Se := fun a ha hs => by
                    rcases nz a hs with z | ⟨j, _, _, z⟩
                    · exact r4.there a ha z
                    · exact k4.2.1 a ha j z
                  have kk : KOk C.inf C.B .fr F5 H5 (D :: (Sa ++ Se)) := k5.app (l := .fr) key fun _ _ => dj
                  have fr5 : Fr C.inf (((TI ++ (TC ++ (TK ++ TE))) ++ (tgs t ++ TC)) ++ (TK ++ TE)) F H F5 H5 := fr3.trans (f4.trans f5)
                  have nn : New C.inf (TI ++ (TC ++ (TK ++ TE))) F H (D :: (Sa ++ Se)) := by
                    intro a ha
                    rcases List.mem_append.mp (show a ∈ (D :: Sa) ++ Se from ha) with z | z
                    · exact na a z
                    · rcases New.over (fr3.trans f4) nz a z with w | ⟨j, hj, ho, w⟩
                      · exact .inl w
                      · refine .inr ⟨j, ?_, ho, w⟩
                        rcases List.mem_append.mp hj with q | q
                        · rcases List.mem_append.mp q with q | q
                          · exact hU j q ho
                          · exact List.mem_append_right _ (List.mem_append_right _ (List.mem_append_left _ q))
                        · exact List.mem_append_right _ (List.mem_append_right _ (List.mem_append_right _ q))
                  have ap5 : ∀ a ∈ D :: (Sa ++ Se), a ∉ S := by
                    intro a ha hs
                    rcases List.mem_append.mp (show a ∈ (D :: Sa) ++ Se from ha) with z | z
                    · exact apS a z hs
                    · rcases nz a z with w | ⟨j, hj, ho, w⟩
                      · exact th4 a hs w
                      · exact ki4 a hs j ho (apE j hj) w
                  obtain ⟨S', p1, p2, p3⟩ := RDk.put (k := kk4) rz ra5.1 ra5.2 (List.nodup_cons.mp kk.1).2
                  have nD : D ∉ Sa ++ Se := (List.nodup_cons.mp kk.1).1
                  have sub' : ∀ a ∈ D :: S', a ∈ D :: (Sa ++ Se) := fun a ha => by
                    rcases List.mem_cons.mp ha with rfl | ha
                    · exact List.mem_cons_self
                    · exact List.mem_cons_of_mem _ (List.mem_append.mpr (p3 a ha))
                  have rr : AccR H5 (acc ++ [(kk4, x5)]) (putK avs kk4 z) S' := by
                    refine ⟨?_, (putK_keys ra5.2).1⟩
                    rw [updK_append]
                    exact p1
                  exact close (U4 := []) cn5 fr5 (fun j hj ho => (List.mem_append.mp hj).elim (fun z => hU j z ho) fun z => List.mem_append_right _ (List.mem_append_right _ z))
                    (fun j hj => (List.mem_append.mp hj).elim (hU2 j) fun z => .inl (List.mem_append_right _ (List.mem_append_right _ z))) d5 rr
                    ⟨List.nodup_cons.mpr ⟨fun q => nD (List.mem_append.mpr (p3 D q)), p2⟩, fun a ha => kk.2.1 a (sub' a ha), fun a ha => kk.2.2 a (sub' a ha)⟩ (fun a ha => nn a (sub' a ha)) ki5 (fun a ha o eo => onS5 a ha o (onS4 a ha o (on13 a ha o eo))) (fun a ws z => f5.tup a ws (f4.tup a ws (tk13 a ws z))) (fun a ha => f5.there a (th4 a ha)) (fun a ha => ap5 a (sub' a ha)) fin5
end
theorem dcA_inv {x ke elt tg it : Expr} {ifs : List Expr} {scope : Scope} (h : dcA x = some (ke, elt, tg, it, ifs, scope)) : ∃ pos, x = .DictComp ke elt [⟨tg, it, ifs, 0⟩] scope pos ∧ noSet it = true := by
  unfold dcA at h
  split at h
  · split at h
    · cases h; exact ⟨_, rfl, by assumption⟩
    · cases h
  · cases h
theorem getA_inv {e x y : Expr} {zo : Option Expr} (h : getA e = some (x, y, zo)) : ∃ apos cpos, (apos.endLine == cpos.line) = true ∧ nst y = true ∧ noSup x = true ∧
    ((zo = none ∧ e = .Call (.Attribute x "get" apos) [y] [] cpos) ∨ ∃ z, zo = some z ∧ nst z = true ∧ e = .Call (.Attribute x "get" apos) [y, z] [] cpos) := by
  unfold getA at h
  split at h
  · split at h
    · rename_i hb
      simp only [Bool.and_eq_true, decide_eq_true_eq] at hb
      cases h
      obtain ⟨⟨⟨rfl, h2⟩, h3⟩, h4⟩ := hb
      exact ⟨_, _, h2, h3, h4, .inl ⟨rfl, rfl⟩⟩
    · cases h
  · split at h
    · rename_i hb
      simp only [Bool.and_eq_true, decide_eq_true_eq] at hb
      cases h
      obtain ⟨⟨⟨⟨rfl, h2⟩, h3⟩, h5⟩, h4⟩ := hb
      exact ⟨_, _, h2, h3, h4, .inr ⟨_, rfl, h5, rfl⟩⟩
    · cases h
  · cases h
theorem noSup_base {o : Expr} {m : Str} {env : PySem.Env} (h : noSup o = true) : attributeBase o m env (eval o env) = eval o env := by
  unfold attributeBase
  split
  · cases h
  · rfl
theorem get_read1 {C : Cc} {σ : L2.St} {H : Hp} {k l : Kd} {T U : List Nat} {m m' : M Mp.D} {Q : VK} (w1 : ∀ j ∈ U, own C.inf j) (a1 : Apart U k)
    (h : tE C k (T ++ (U ++ [])) (bnd m fun x => bnd (lift (isDk x)) fun _ => bnd m' fun y => bnd (ret (.i .non)) fun z => lift (getF x y z)) σ H Q) :
    tDGet1 (tE C k T m) (tE C l U m') σ H Q := by
  have h2 := get_read (l := l) (n := .fr) w1 (fun j hj => absurd hj List.not_mem_nil) a1 (by cases k <;> first | trivial | exact fun j hj => absurd hj List.not_mem_nil) h
  unfold tDGet2 at h2
  unfold tDGet1
  refine tE_mono h2 fun x H1 ⟨a, e, d, q⟩ => ⟨a, e, d, tE_mono q fun y H2 q => ?_⟩
  obtain ⟨ρ, F, cn, q⟩ := q
  exact q .non H2 F [] cn Fr.refl (.i .non) KOk.nil NewK.nil
theorem bnd_assoc {α β γ : Type} {m : M α} {f : α → M β} {g : β → M γ} : bnd (bnd m f) g = bnd m fun a => bnd (f a) g := by
  funext ρ
  unfold Mp.bnd
  cases m ρ <;> rfl
theorem dsp_read {C : Cc} {σ : L2.St} {H : Hp} {TK TE : List Nat} {kk ke : Kd} {mk el : M Mp.D} {Q : VK} (oK : ∀ j ∈ TK, own C.inf j) (oE : ∀ j ∈ TE, own C.inf j)
    (h : tE C .fr (TK ++ TE) (bnd (immM kk mk) fun y => bnd (immM ke el) fun x => lift ((pairsF [y, x]).bind mkDk)) σ H Q) : tDisp [(tE C kk TK mk, tE C ke TE el)] σ H Q := by
  intro p hp
  obtain ⟨ρ, F, cn, h⟩ := h
  have g : Grow H (L2.upd H p (.dK [])) := Grow.upd hp
  have hpF : ∀ k, p ∉ F k := fun k hx => cn.there hx hp
  have k0 : KOk C.inf C.B .fr F (L2.upd H p (.dK [])) [p] := ⟨by simp, fun a ha k hk => by
      rw [List.mem_singleton.mp ha] at hk; exact hpF k hk, fun a ha => by
      rw [List.mem_singleton.mp ha]
      exact ⟨fun x y z => (by rw [upd_same] at z; cases z), cn.nb p hp⟩⟩
  have r0 : RD (L2.upd H p (.dK [])) (.dk []) (.ref p) [p] := .dk (.inl upd_same) .nil List.nodup_nil
  refine immM_read ⟨ρ, F, g.cn cn, ?_⟩
  cases e1 : immM kk mk ρ with
  | no => rw [bnd_no e1] at h; exact h
  | ex c fs ρ' =>
    rw [bnd_ex e1] at h
    exact ExP.mono (T := []) (U := TK) (ExP.widen h fun j hj => by simpa using List.mem_append_left TE (by simpa using hj)) g.fr
  | ok y ρ1 =>
    rw [bnd_ok e1] at h
    intro v H1 F1 Sk cn1 f1 ry ky ny
    obtain ⟨on1, k1⟩ := k0.overF r0.there f1 oK
    have r1 := r0.mono f1.tup on1
    refine immM_read ⟨ρ1, F1, cn1, ?_⟩
    cases e2 : immM ke el ρ1 with
    | no => rw [bnd_no e2] at h; exact h
    | ex c fs ρ' =>
      rw [bnd_ex e2] at h
      exact ExP.mono (T := [] ++ TK) (U := TE) (ExP.widen h fun j hj => by simpa using hj) (g.fr.trans f1)
    | ok x ρ2 =>
      rw [bnd_ok e2] at h
      intro z H2 F2 Se cn2 f2 rz kz nz
      obtain ⟨on2, k2⟩ := k1.overF r1.there f2 oE
      have hp1 : H1 p = some (.dK []) := on1 p (by simp) _ upd_same
      have hp2 : H2 p = some (.dK []) := on2 p (by simp) _ hp1
      cases ek : keyD y with
      | none =>
        have e3 : (pairsF [y, x]).bind mkDk = none := by
          show mkDk [(y, x)] = none
          rw [mkDk_eq]
          have : keysOf [(y, x)] = none := by
            unfold keysOf
            rw [List.mapM_cons, ek]; rfl
          rw [this]
        rw [e3] at h
        exact h.elim
      | some k =>
        have e3 : (pairsF [y, x]).bind mkDk = some (.dk [(k, x)]) := by
          show mkDk [(y, x)] = _
          rw [mkDk_eq]
          have : keysOf [(y, x)] = some [(k, x)] := by
            unfold keysOf
            rw [List.mapM_cons, ek]; rfl
          rw [this]
          dsimp only
          rw [if_pos (by show 1 ≤ sizeLine; decide)]
          rfl
        rw [e3] at h
        obtain ⟨rfl, rfl⟩ := keyD_inv ry ek
        refine ⟨hp2, [(k, z)], rfl, by simp, ?_⟩
        show Q (.ref p) (L2.upd H2 p (.dK [(k, z)]))
        have nz : New C.inf TE F1 H1 Se := nz
        have dj : p ∉ Se := fun hs => by
          rcases nz p hs with w | ⟨j, _, _, w⟩
          · rw [hp1] at w; cases w
          · exact k1.2.1 p (by simp) j w
        have kk2 : KOk C.inf C.B .fr F2 H2 ([p] ++ Se) := k2.app (l := .fr) kz fun _ _ a ha hs => by
          rw [List.mem_singleton.mp ha] at hs; exact dj hs
        have nf : ∀ a b, HO.dK [(k, z)] ≠ .frz a b := fun _ _ w => by cases w
        have fr2 : Fr C.inf (TK ++ TE) F H F2 H2 := (g.fr.trans (f1.trans f2)).mono fun j hj => by simpa using hj
        have fo := Fr.out (T := TK ++ TE) (vs := []) (D := p) (o := .dK []) (o' := .dK [(k, z)]) fr2 (fun j hj _ => hj) (fun j hj => .inl hj) (fun v hv => absurd hv List.not_mem_nil) hp hp2 (fun _ w => by cases w)
        have ew : wipeF F2 [] = F2 := by funext j; unfold wipeF; rw [if_neg List.not_mem_nil]
        rw [ew] at fo
        refine h (.ref p) _ F2 ([p] ++ Se) (cn2.upd hp2 (fun _ w => by cases w) nf fun j => k2.2.1 p (by simp) j) fo ?_ (KOk.upd nf kk2) ?_
        · have := RD.dk (H := L2.upd H2 p (.dK [(k, z)])) (.inl upd_same) (RDk.cons (k := k) (rz.mono (upd_tupK hp2 fun _ w => by cases w) (upd_on dj)) .nil) (by simp)
          simpa using this
        · intro a ha
          rcases List.mem_append.mp ha with w | w
          · rw [List.mem_singleton.mp w]; exact .inl hp
          · rcases New.over (g.fr.trans f1) nz a w with q | ⟨j, hj, ho, q⟩
            · exact .inl q
            · exact .inr ⟨j, by simpa using hj, ho, q⟩
theorem dsp0_read {C : Cc} {σ : L2.St} {H : Hp} {Q : VK} (h : tE C .fr [] (ret (.dk [])) σ H Q) : tDNewK σ H Q := by
  intro p hp
  obtain ⟨ρ, F, cn, h⟩ := h
  have g : Grow H (L2.upd H p (.dK [])) := Grow.upd hp
  refine h (.ref p) _ F [p] (g.cn cn) g.fr (.dk (.inl upd_same) .nil List.nodup_nil) ⟨by simp, fun a ha k hk => ?_, fun a ha => ?_⟩ fun a ha => ?_
  · rw [List.mem_singleton.mp ha] at hk
    exact cn.there hk hp
  · rw [List.mem_singleton.mp ha]
    exact ⟨fun x y z => (by rw [upd_same] at z; cases z), cn.nb p hp⟩
  · rw [List.mem_singleton.mp ha]
    exact .inl hp
end Mp

namespace Mp
open PySem PySem.Spec PyProof.Rows L2

section
mutual
theorem sound {ck : Ck} {X : Cx} {C : Cc} {G : GS} (hX : XOk ck X C G) : ∀ {p : P} {e : Expr}, chk ck p e = true → PE X e (tE C (kd ck.Z p) (tc ck.Z p) (ev ck.Z G p)) ∧ PT X e (tT C (tc ck.Z p) (ev ck.Z G p))
  | .c x, e, h => by
    simp only [chk] at h
    have q : PE X e (tE C (kd ck.Z (.c x)) (tc ck.Z (.c x)) (ev ck.Z G (.c x))) := by
      simp only [kd, tc, ev]
      exact c_sound h
    refine ⟨q, plain_true (k := kd ck.Z (.c x)) ?_ q⟩
    unfold constOf at h
    split at h <;> first
      | exact fun _ _ => rfl
      | cases h
  | .v i, e, h => by
    simp only [chk] at h
    obtain ⟨x, h1, h2⟩ := opt_of h
    obtain ⟨p, rfl⟩ := nmA_inv h1
    simp only [Bool.and_eq_true, decide_eq_true_eq] at h2
    have q := v_sound hX (pos := p) h2.1.1 h2.1.2 h2.2
    have q : PE X (.Name x p) (tE C (kd ck.Z (.v i)) (tc ck.Z (.v i)) (ev ck.Z G (.v i))) := by
      simp only [tc]
      exact q
    exact ⟨q, plain_true (fun _ _ => rfl) q⟩
  | .mv i, e, h => by
    simp only [chk] at h
    obtain ⟨x, h1, h2⟩ := opt_of h
    obtain ⟨p, rfl⟩ := nmA_inv h1
    simp only [Bool.and_eq_true, decide_eq_true_eq, Bool.not_eq_true'] at h2
    obtain ⟨⟨⟨⟨a1, a2⟩, a3⟩, a4⟩, a5⟩ := h2
    have q := mv_sound hX (pos := p) a1 a2 a3 (of_decide_eq_true a4) (by simpa using a5)
    have q : PE X (.Name x p) (tE C (kd ck.Z (.mv i)) (tc ck.Z (.mv i)) (ev ck.Z G (.mv i))) := by
      simp only [kd, tc]
      exact q
    exact ⟨q, plain_true (fun _ _ => rfl) q⟩
  | .g n x, e, h => by
    simp only [chk] at h
    obtain ⟨m, h1, h2⟩ := opt_of h
    obtain ⟨p, rfl⟩ := nmA_inv h1
    simp only [Bool.and_eq_true, decide_eq_true_eq] at h2
    obtain ⟨⟨⟨a1, a2⟩, a3⟩, a4⟩ := h2
    subst a1
    have q : PE X (.Name n p) (tE C (kd ck.Z (.g n x)) (tc ck.Z (.g n x)) (ev ck.Z G (.g n x))) := by
      simp only [kd, tc, ev]
      refine g_sound hX a2 a3 ?_
      unfold glbOk at a4
      rw [List.any_eq_true] at a4
      obtain ⟨y, hy, a5⟩ := a4
      simp only [Bool.and_eq_true, decide_eq_true_eq] at a5
      refine ⟨y, hy, a5.1, ?_⟩
      have a6 := a5.2
      split at a6
      · rename_i e1; rw [e1, of_decide_eq_true a6]
      · rename_i e1; rw [e1, of_decide_eq_true a6]
      · cases a6
    exact ⟨q, plain_true (fun _ _ => rfl) q⟩
  | .op o as, e, h => by
    simp only [chk] at h
    obtain ⟨es, h1, h2⟩ := opt_of h
    obtain ⟨ts, hs, _, hr⟩ := sounds hX h2
    obtain ⟨r, hf, hp⟩ := op_sound hX h1 hs
    have q : PE X e (tE C (kd ck.Z (.op o as)) (tc ck.Z (.op o as)) (ev ck.Z G (.op o as))) := by
      simp only [kd, tc, ev]
      exact PE.weak hp fun σ H Q z => hr σ H _ (fn_read hf z)
    refine ⟨q, ?_⟩
    rcases opArgs_true h1 with z | ⟨a, b, p, pos, rfl, rfl, hb⟩
    · exact plain_true z q
    · obtain ⟨eN, f, ef, ho⟩ := cmp_op hX h1
      obtain ⟨ta, tb, rfl, ha, hb'⟩ := hs.two
      simp only [tc, ev]
      refine PT.weak (pt_cmpR ho ha hb' (noSet_mark hb)) fun σ H Q z => ?_
      exact hr σ H _ (cmp_readT (k := kds ck.Z as) ef z)
  | .nt a, e, h => by
    simp only [chk] at h
    obtain ⟨x, h1, h2⟩ := opt_of h
    obtain ⟨p, rfl⟩ := notA_inv h1
    obtain ⟨q, qt⟩ := sound hX h2
    simp only [kd, tc, ev]
    exact ⟨PE.weak (not_d q) fun σ H Q z => nt_read z, PT.weak (pt_not qt) fun σ H Q z => nt_readT z⟩
  | .an a b, e, h => by
    simp only [chk] at h
    obtain ⟨⟨x, y⟩, h1, h2⟩ := opt_of h
    simp only [Bool.and_eq_true] at h2
    obtain ⟨q, qt⟩ := sound hX h2.1
    obtain ⟨q', qt'⟩ := sound hX h2.2
    simp only [kd, tc, ev]
    rcases andA_inv h1 with ⟨pos, rfl⟩ | ⟨c, d, r, pos, rfl, rfl⟩
    · exact ⟨PE.weak (and_d q (pe_one q')) fun σ H Q z => an_read z, PT.weak (pw_and qt (pw_and1 qt')).pt fun σ H Q z => an_readT z⟩
    · exact ⟨PE.weak (and_d q q') fun σ H Q z => an_read z, PT.weak (pw_and qt (pt_pw (fun _ _ _ => rfl) qt')).pt fun σ H Q z => an_readT z⟩
  | .or a b, e, h => by
    simp only [chk] at h
    obtain ⟨⟨x, y⟩, h1, h2⟩ := opt_of h
    simp only [Bool.and_eq_true] at h2
    obtain ⟨q, qt⟩ := sound hX h2.1
    obtain ⟨q', qt'⟩ := sound hX h2.2
    simp only [kd, tc, ev]
    rcases orA_inv h1 with ⟨pos, rfl⟩ | ⟨c, d, r, pos, rfl, rfl⟩
    · exact ⟨PE.weak (or_d q (pe_one q')) fun σ H Q z => or_read z, PT.weak (pw_or qt (pw_or1 qt')).pt fun σ H Q z => or_readT z⟩
    · exact ⟨PE.weak (or_d q q') fun σ H Q z => or_read z, PT.weak (pw_or qt (pt_pw (fun _ _ _ => rfl) qt')).pt fun σ H Q z => or_readT z⟩
  | .ite c a b, e, h => by
    simp only [chk] at h
    obtain ⟨⟨x, y, z⟩, h1, h2⟩ := opt_of h
    obtain ⟨p, rfl⟩ := iteA_inv h1
    simp only [Bool.and_eq_true] at h2
    obtain ⟨_, qt⟩ := sound hX h2.1.1
    obtain ⟨q', qt'⟩ := sound hX h2.1.2
    obtain ⟨q2, qt2⟩ := sound hX h2.2
    simp only [kd, tc, ev]
    exact ⟨PE.weak (pe_ifExp qt q' q2) fun σ H Q z => ite_read z, PT.weak (pt_ifExp qt qt' qt2) fun σ H Q z => ite_readT z⟩
  | .ch o o' a b c, e, h => by
    simp only [chk] at h
    obtain ⟨⟨x, y, z, p, p'⟩, h1, h2⟩ := opt_of h
    obtain ⟨pos, rfl⟩ := chA_inv h1
    simp only [Bool.and_eq_true, decide_eq_true_eq] at h2
    obtain ⟨⟨⟨⟨⟨⟨h3, h4⟩, h5⟩, h6⟩, h7⟩, h8⟩, h9⟩ := h2
    obtain ⟨q, _⟩ := sound hX h3
    obtain ⟨q', _⟩ := sound hX h4
    obtain ⟨q2, _⟩ := sound hX h5
    obtain ⟨f, ef, ho⟩ := cmp_or hX h6
    obtain ⟨f', ef', ho'⟩ := cmp_or hX h7
    have hm : lastMarks [p, p'] [y, z] = false := by
      have : ∀ {o : Op} {p : CmpOp}, cmpOf o = some p → p ≠ .In ∧ p ≠ .NotIn := fun {o p} e => by
        cases o <;> simp only [cmpOf, Option.some.injEq, reduceCtorEq] at e <;> subst e <;> exact ⟨by decide, by decide⟩
      exact nomark z (this h7).1 (this h7).2
    simp only [kd, tc, ev]
    refine ⟨PE.weak (pe_chain ho ho' q q' q2 hm) fun σ H Q z => chain_read ef ef' (by rw [hX.inf]; exact tc_own h4) (by rw [hX.inf]; exact tc_own h5) h8 h9 z, PT.weak (pt_chain ho ho' q q' q2 hm) fun σ H Q w => ?_⟩
    refine chain_read ef ef' (by rw [hX.inf]; exact tc_own h4) (by rw [hX.inf]; exact tc_own h5) h8 h9 ?_
    obtain ⟨ρ, F, cn, w⟩ := w
    refine ⟨ρ, F, cn, ?_⟩
    revert w
    generalize hr : (bnd (ev ck.Z G a) fun x => bnd (ev ck.Z G b) fun y => bnd (lift (opF o [x, y])) fun z => chainZ z (bnd (ev ck.Z G c) fun w => lift (opF o' [y, w]))) ρ = r
    intro w
    cases r with
    | no => exact w
    | ex c fs ρ' => exact w
    | ok d ρ' =>
      obtain ⟨bb, eb, w⟩ := w
      intro v H1 F1 S cn1 f1 rd ko n
      have hd : ∃ b, d = .i (.bl b) := by
        have lk : ∀ {o : Op} {f : D → D → Option Bool} {x y d : D} {ρ ρ' : Env}, opF o = f2 (bF f) → lift (opF o [x, y]) ρ = .ok d ρ' → ∃ b, d = .i (.bl b) := fun {o f x y d ρ ρ'} eo e => by
          rw [eo] at e
          have e : lift (bF f x y) ρ = .ok d ρ' := e
          unfold lift bF at e
          cases e8 : f x y with
          | none => rw [e8] at e; cases e
          | some b => rw [e8] at e; cases e; exact ⟨b, rfl⟩
        cases e1 : ev ck.Z G a ρ with
        | no => rw [bnd_no e1] at hr; cases hr
        | ex c fs ρ' => rw [bnd_ex e1] at hr; cases hr
        | ok d1 ρ1 =>
          rw [bnd_ok e1] at hr
          cases e2 : ev ck.Z G b ρ1 with
          | no => rw [bnd_no e2] at hr; cases hr
          | ex c fs ρ' => rw [bnd_ex e2] at hr; cases hr
          | ok d2 ρ2 =>
            rw [bnd_ok e2] at hr
            cases e3 : lift (opF o [d1, d2]) ρ2 with
            | no => rw [bnd_no e3] at hr; cases hr
            | ex c fs ρ' => rw [bnd_ex e3] at hr; cases hr
            | ok d3 ρ3 =>
              rw [bnd_ok e3] at hr
              obtain ⟨b3, rfl⟩ := lk ef e3
              cases b3 with
              | false => cases hr; exact ⟨_, rfl⟩
              | true =>
                have hr : bnd (ev ck.Z G c) (fun w => lift (opF o' [d2, w])) ρ3 = .ok d ρ' := hr
                cases e4 : ev ck.Z G c ρ3 with
                | no => rw [bnd_no e4] at hr; cases hr
                | ex c fs ρ' => rw [bnd_ex e4] at hr; cases hr
                | ok d4 ρ4 => rw [bnd_ok e4] at hr; exact lk ef' hr
      obtain ⟨b', rfl⟩ := hd
      cases eb
      obtain ⟨rfl, _⟩ := rd.bl_inv
      exact ⟨_, rfl, w H1 F1 cn1 f1⟩
  | .sl a b c, e, h => by
    simp only [chk] at h
    obtain ⟨⟨x, y, z⟩, h1, h2⟩ := opt_of h
    obtain ⟨p2, pos, rfl⟩ := slA_inv h1
    simp only [Bool.and_eq_true, decide_eq_true_eq] at h2
    obtain ⟨⟨⟨⟨h3, h4⟩, h5⟩, h6⟩, h7⟩ := h2
    have q : PE X (.Subscript x (.Slice (some y) (some z) none p2) pos) (tE C (kd ck.Z (.sl a b c)) (tc ck.Z (.sl a b c)) (ev ck.Z G (.sl a b c))) := by
      simp only [kd, tc, ev]
      exact PE.weak (pe_slice s_sl (sound hX h3).1 (po_some (sound hX h4).1) (po_some (sound hX h5).1)) fun σ H Q z => sl_read (by rw [hX.inf]; exact tc_own h4) (by rw [hX.inf]; exact tc_own h5) h6 h7 z
    exact ⟨q, plain_true (fun _ _ => rfl) q⟩
  | .im a, e, h => by
    simp only [chk] at h
    obtain ⟨q, qt⟩ := sound hX h
    simp only [kd, tc, ev]
    exact ⟨PE.weak q fun σ H Q z => immM_read z, PT.weak qt fun σ H Q z => immM_readT z⟩
  | .get a b c, e, h => by
    simp only [chk] at h
    obtain ⟨⟨x, y, zo⟩, h1, h2⟩ := opt_of h
    simp only [Bool.and_eq_true, decide_eq_true_eq] at h2
    obtain ⟨⟨⟨⟨h3, h4⟩, h5⟩, h6⟩, h7⟩ := h2
    have hu : X.A.units + 1 < cLine := by have := hX.room.units; omega
    have q : PE X e (tE C (kd ck.Z (.get a b c)) (tc ck.Z (.get a b c)) (ev ck.Z G (.get a b c))) := by
      simp only [kd, tc, ev]
      obtain ⟨apos, cpos, hline, hn, hb, ⟨rfl, rfl⟩ | ⟨z, rfl, hz, rfl⟩⟩ := getA_inv h1
      · cases c <;> try cases h5
        rename_i x0
        cases x0 <;> try cases h5
        refine PE.weak (pe_dget1 hu (sound hX h3).1 (sound hX h4).1 ⟨noSup_base hb, by rw [star_of hn]; rfl, hline, by rw [star_of hn]; rfl⟩) fun σ H Q z => get_read1 (by rw [hX.inf]; exact tc_own h4) h6 ?_
        simpa only [tc, ev] using z
      · exact PE.weak (pe_dget2 hu (sound hX h3).1 (sound hX h4).1 (sound hX h5).1 ⟨noSup_base hb, by rw [star_of hn, star_of hz]; rfl, hline, by rw [star_of hn, star_of hz]; rfl⟩) fun σ H Q z => get_read (by rw [hX.inf]; exact tc_own h4) (by rw [hX.inf]; exact tc_own h5) h6 h7 z
    refine ⟨q, ?_⟩
    obtain ⟨apos, cpos, _, _, _, ⟨rfl, rfl⟩ | ⟨z, rfl, _, rfl⟩⟩ := getA_inv h1
    · exact plain_true (fun _ _ => rfl) q
    · exact plain_true (fun _ _ => rfl) q
  | .tup as, e, h => by
    simp only [chk] at h
    obtain ⟨es, h1, h2⟩ := opt_of h
    obtain ⟨k, pos, rfl⟩ := tupA_inv h1
    obtain ⟨ts, hs, hr, _⟩ := sounds hX h2
    have q : PE X (.Tuple es k pos) (tE C (kd ck.Z (.tup as)) (tc ck.Z (.tup as)) (ev ck.Z G (.tup as))) := by
      simp only [kd, tc, ev, disp_eq]
      exact PE.weak (pe_tup (hs.pa (chks_nst h2))) fun σ H Q z => hr σ H _ (fn_read (k := .fr) tup_op z)
    exact ⟨q, plain_true (fun _ _ => rfl) q⟩
  | .lst as, e, h => by
    simp only [chk] at h
    obtain ⟨es, h1, h2⟩ := opt_of h
    obtain ⟨pos, rfl⟩ := lstA_inv h1
    obtain ⟨ts, hs, hr, _⟩ := sounds hX h2
    have q : PE X (.List es pos) (tE C (kd ck.Z (.lst as)) (tc ck.Z (.lst as)) (ev ck.Z G (.lst as))) := by
      simp only [kd, tc, ev, disp_eq]
      exact PE.weak (pe_lst (hs.pa (chks_nst h2))) fun σ H Q z => hr σ H _ (fn_read (k := .fr) lst_op z)
    exact ⟨q, plain_true (fun _ _ => rfl) q⟩
  | .call f as, e, h => by
    simp only [chk] at h
    obtain ⟨es, h1, h2⟩ := opt_of h
    simp only [Bool.and_eq_true, decide_eq_true_eq] at h2
    obtain ⟨x, p, pos, ms, rfl, hx, hg, hd, hn, he, hm⟩ := callU_inv h1
    obtain ⟨fa, fd, fps, m1, m2, m3, m4⟩ := hX.fns f x ms hx
    obtain ⟨ts, hs, hr⟩ := soundA hX h2.2
    have em : ck.Z.modes f = ms := by unfold Z0.modes; rw [List.getD_eq_getElem?_getD, hm]; rfl
    rw [em] at hr h2
    cases es with
    | nil => exact absurd rfl he
    | cons e es =>
      simp only [List.all_cons, Bool.and_eq_true] at hn
      have q : PE X (.Call (.Name x p) (e :: es) [] pos) (tE C (kd ck.Z (.call f as)) (tc ck.Z (.call f as)) (ev ck.Z G (.call f as))) := by
        simp only [kd, tc, ev]
        rw [em]
        refine PE.weak (pe_callS m4 hX.room (glo_of hX hg) m1 m2 m3 (passAt hX.tk) (PA.weak (hs.pa (by simp [hn.1, hn.2])) hr) hd (star_of hn.1) (plain_of hn.2)) fun σ H Q z => ?_
        exact call_read (Z := ck.Z) (M := mutS ms as) (T := tcs ck.Z as) (m := evA ck.Z G as ms) (g := G f) rfl h2.1 (by rw [hX.inf]; exact z)
      exact ⟨q, plain_true (fun _ _ => rfl) q⟩
  | .mt m i ks as, e, h => by
    simp only [chk, Bool.and_eq_true] at h
    obtain ⟨hon, h⟩ := h
    obtain ⟨⟨x, kes, es⟩, h1, h2⟩ := opt_of h
    simp only [Bool.and_eq_true, decide_eq_true_eq, Bool.not_eq_true'] at h2
    obtain ⟨⟨⟨⟨⟨⟨⟨a1, a2⟩, a3⟩, a4⟩, a5⟩, a6⟩, a7⟩, a8⟩ := h2
    have ho : own C.inf i := by rw [hX.inf]; exact of_decide_eq_true a4
    have hl : i ∉ C.lk := by rw [hX.lk]; simpa using a5
    have hT : i ∉ tcs ck.Z as := by simpa using a8
    obtain ⟨o, apos, cpos, rfl, hline, hn, har, ho'⟩ := mtA_inv h1
    obtain ⟨id, r, R⟩ := mt_rule (X := X) hon
    obtain ⟨n1, n2, _⟩ := okN_of a3
    obtain ⟨ts, hs, hd, _⟩ := sounds hX a7
    have pv : ∀ p, PE X (.Name x p) (tVar i) := fun p => pe_var (i := i) (by rw [hX.N]; exact a1) (vis_of hX a2) n1 n2
    have q : PE X (.Call (.Attribute o (mtName m) apos) es [] cpos) (tE C (kd ck.Z (.mt m i ks as)) (tc ck.Z (.mt m i ks as)) (ev ck.Z G (.mt m i ks as))) := by
      simp only [kd, tc, ev]
      rcases ho' with ⟨p, rfl, rfl⟩ | ⟨k, p, pos, rfl, rfl, hsl⟩
      · cases ks with
        | cons _ _ => cases a6
        | nil =>
          refine PE.weak (pe_mt R (pv p) hs hn har hline rfl) fun σ H Q z => ?_
          rw [← hX.inf] at z
          simp only [tcs, List.nil_append, evs] at z
          obtain ⟨v, hv, t1, t2⟩ := mt_read0 (K := X.K) R.v ho hl R.tyD z
          exact ⟨v, hv, t1, hd σ H _ t2⟩
      · cases ks with
        | nil => cases a6
        | cons kp ks =>
          simp only [chks, Bool.and_eq_true] at a6
          obtain ⟨⟨b1, b2⟩, _⟩ := a6
          cases ks with
          | cons _ _ => cases b2
          | nil =>
            obtain ⟨qk, _⟩ := sound hX b1
            have hu := hX.room.units
            refine PE.weak (pe_mt R (pe_ix (s_at1 (by omega)) (pv p) qk (noSlice_plain hsl)) hs hn har hline rfl) fun σ H Q z => ?_
            rw [← hX.inf] at z
            simp only [tcs, List.append_nil, evs] at z
            obtain ⟨v, hv, t1⟩ := mt_read1 (K := X.K) (kk := kd ck.Z kp) R.v ho hl hT (by rw [hX.inf]; exact tcs_own a7) R.tyD z
            refine ⟨v, hv, tE_mono t1 fun y H2 ⟨w, g1, g2, g3⟩ => ⟨w, g1, g2, hd σ H2 _ g3⟩⟩
    exact ⟨q, plain_true (fun _ _ => rfl) q⟩
  | .lc e t it cd vs, x, h => by
    simp only [chk] at h
    obtain ⟨⟨elt, tg, iter, ifs, scope⟩, h1, h2⟩ := opt_of h
    obtain ⟨pos, rfl, hs⟩ := lcA_inv h1
    simp only [Bool.and_eq_true, decide_eq_true_eq, List.all_eq_true, Bool.or_eq_true, Bool.not_eq_true'] at h2
    obtain ⟨⟨⟨⟨⟨⟨⟨⟨⟨b1, b2⟩, b3⟩, b4⟩, b5⟩, b6⟩, b7⟩, b8⟩, b9⟩, b0⟩ := h2
    have ok : BlkOk X.N X.env.scope scope (ownOf ck.N scope) := by rw [hX.N, hX.sc]; exact blkOk_by b1
    have hpair : pairI it = true → isTup tg = true := fun z => by
      rcases b7 with b7 | b7
      · rw [z] at b7; cases b7
      · exact b7
    obtain ⟨R, hR⟩ := kdI_bo (Z := ck.Z) (it := it)
    have q : PE X (.ListComp elt [⟨tg, iter, ifs, 0⟩] scope pos) (tE C (kd ck.Z (.lc e t it cd vs)) (tc ck.Z (.lc e t it cd vs)) (ev ck.Z G (.lc e t it cd vs))) := by
      obtain ⟨tt, ht1, ht2⟩ : ∃ tt, (∀ s H D cl fp, PTs (X.blk s H scope (compEnvC scope cl D X.env) fp) ifs tt) ∧ ∀ σ H Q, tB (blkW C) (tcs ck.Z cd) (evC ck.Z G cd) σ H Q → tt σ H Q := by
        match cd, ifs, b8 with
        | .nil, [], _ =>
          refine ⟨tYes, fun s H D cl fp => pts_nil, fun σ H Q z => ?_⟩
          obtain ⟨ρ, F, cn, z⟩ := z
          simp only [evC] at z
          exact z H F cn Fr.refl
        | .cons p .nil, [c], b8 =>
          simp only [chkC] at b8
          refine ⟨_, fun s H D cl fp => pts_one (sound (blk_ok hX ok s H D cl fp) b8).2, fun σ H Q z => ?_⟩
          simp only [evC, tcs, List.append_nil] at z
          exact tt_of z
        | .nil, _ :: _, b8 => simp [chkC] at b8
        | .cons _ .nil, [], b8 => simp [chkC] at b8
        | .cons _ .nil, _ :: _ :: _, b8 => simp [chkC] at b8
        | .cons _ (.cons _ _), _, b8 => simp [chkC] at b8
      refine PE.weak (pe_lc hX.calm hX.nd (soundI hX b6 hpair) ok (fun s H D cl fp => setT_pg (blk_ok hX ok s H D cl fp) (kdI ck.Z it) b3) ht1 (fun s H D cl fp => (sound (blk_ok hX ok s H D cl fp) b9).1) (noSet_fold hs)) fun σ H Q z => ?_
      simp only [kd, tc, ev] at z
      rw [hR] at z ⊢
      rw [← b2]
      rw [← hX.inf] at z
      exact lc_read (vs := vs) (fun v hv => by rw [hX.inf]; exact of_decide_eq_false (b5 v hv)) (fun j hj => by simpa using b4 j hj) (by rw [hX.inf]; exact tcC_own (ck := blkCk ck scope) b8) (by rw [hX.inf]; exact tc_own (ck := blkCk ck scope) b9) (by rw [← hR]; exact b0) ht2 z
    exact ⟨q, plain_true (fun _ _ => rfl) q⟩
  | .lc2 _ _ _ _ _ _ _ _, _, h => by simp only [chk] at h; exact absurd h Bool.false_ne_true
  | .dc k e t it cd vs, x, h => by
    simp only [chk] at h
    obtain ⟨⟨ke, elt, tg, iter, ifs, scope⟩, h1, h2⟩ := opt_of h
    obtain ⟨pos, rfl, hs⟩ := dcA_inv h1
    simp only [Bool.and_eq_true, decide_eq_true_eq, List.all_eq_true, Bool.or_eq_true, Bool.not_eq_true'] at h2
    obtain ⟨⟨⟨⟨⟨⟨⟨⟨⟨⟨b1, b2⟩, b3⟩, b4⟩, b5⟩, b6⟩, b7⟩, b8⟩, b10⟩, b9⟩, b0⟩ := h2
    have ok : BlkOk X.N X.env.scope scope (ownOf ck.N scope) := by rw [hX.N, hX.sc]; exact blkOk_by b1
    have hpair : pairI it = true → isTup tg = true := fun z => by
      rcases b7 with b7 | b7
      · rw [z] at b7; cases b7
      · exact b7
    obtain ⟨R, hR⟩ := kdI_bo (Z := ck.Z) (it := it)
    have q : PE X (.DictComp ke elt [⟨tg, iter, ifs, 0⟩] scope pos) (tE C (kd ck.Z (.dc k e t it cd vs)) (tc ck.Z (.dc k e t it cd vs)) (ev ck.Z G (.dc k e t it cd vs))) := by
      obtain ⟨tt, ht1, ht2⟩ : ∃ tt, (∀ s H D cl fp, PTs (X.blk s H scope (compEnvC scope cl D X.env) fp) ifs tt) ∧ ∀ σ H Q, tB (blkW C) (tcs ck.Z cd) (evC ck.Z G cd) σ H Q → tt σ H Q := by
        match cd, ifs, b8 with
        | .nil, [], _ =>
          refine ⟨tYes, fun s H D cl fp => pts_nil, fun σ H Q z => ?_⟩
          obtain ⟨ρ, F, cn, z⟩ := z
          simp only [evC] at z
          exact z H F cn Fr.refl
        | .cons p .nil, [c], b8 =>
          simp only [chkC] at b8
          refine ⟨_, fun s H D cl fp => pts_one (sound (blk_ok hX ok s H D cl fp) b8).2, fun σ H Q z => ?_⟩
          simp only [evC, tcs, List.append_nil] at z
          exact tt_of z
        | .nil, _ :: _, b8 => simp [chkC] at b8
        | .cons _ .nil, [], b8 => simp [chkC] at b8
        | .cons _ .nil, _ :: _ :: _, b8 => simp [chkC] at b8
        | .cons _ (.cons _ _), _, b8 => simp [chkC] at b8
      refine PE.weak (pe_dc hX.calm hX.nd (soundI hX b6 hpair) ok (fun s H D cl fp => setT_pg (blk_ok hX ok s H D cl fp) (kdI ck.Z it) b3) ht1 (fun s H D cl fp => (sound (blk_ok hX ok s H D cl fp) b10).1) (fun s H D cl fp => (sound (blk_ok hX ok s H D cl fp) b9).1) (noSet_fold hs)) fun σ H Q z => ?_
      simp only [kd, tc, ev] at z
      rw [hR] at z ⊢
      rw [← b2]
      rw [← hX.inf] at z
      exact dc_read (vs := vs) (fun v hv => by rw [hX.inf]; exact of_decide_eq_false (b5 v hv)) (fun j hj => by simpa using b4 j hj) (by rw [hX.inf]; exact tcC_own (ck := blkCk ck scope) b8) (by rw [hX.inf]; exact tc_own (ck := blkCk ck scope) b10) (by rw [hX.inf]; exact tc_own (ck := blkCk ck scope) b9) (by rw [← hR]; exact b0) ht2 z
    exact ⟨q, plain_true (fun _ _ => rfl) q⟩
  | .dsp as, e, h => by
    simp only [chk] at h
    obtain ⟨es, h1, h2⟩ := opt_of h
    unfold dspA at h1
    split at h1
    · cases h1
      cases as with
      | cons _ _ => simp [chks] at h2
      | nil =>
        have q : ∀ pos, PE X (.Dict [] [] pos) (tE C (kd ck.Z (.dsp .nil)) (tc ck.Z (.dsp .nil)) (ev ck.Z G (.dsp .nil))) := fun pos => PE.weak pe_dnewK fun σ H Q z => dsp0_read (by
          simp only [kd, tc, tcs, ev, evd] at z
          exact z)
        exact ⟨q _, plain_true (fun _ _ => rfl) (q _)⟩
    · cases h1
      match as, h2 with
      | .cons pk (.cons pv .nil), h2 =>
        simp only [chks, Bool.and_eq_true] at h2
        obtain ⟨⟨c1, c2⟩, _⟩ := h2
        obtain ⟨⟨c3, c4⟩, _⟩ := c2
        have q : ∀ pos, PE X (.Dict [some _] [_] pos) (tE C (kd ck.Z (.dsp (.cons pk (.cons pv .nil)))) (tc ck.Z (.dsp (.cons pk (.cons pv .nil)))) (ev ck.Z G (.dsp (.cons pk (.cons pv .nil))))) :=
          fun pos => PE.weak (pe_disp (pps_cons (sound hX c1).1 (sound hX c3).1 pps_nil) rfl rfl (by simp) (by simp)) fun σ H Q z => dsp_read (by rw [hX.inf]; exact tc_own c1) (by rw [hX.inf]; exact tc_own c3) (by
            simp only [kd, tc, tcs, ev, evd, bnd_assoc, List.append_nil] at z
            exact z)
        exact ⟨q _, plain_true (fun _ _ => rfl) (q _)⟩
      | .nil, h2 => simp [chks] at h2
      | .cons _ .nil, h2 => simp [chks] at h2
      | .cons _ (.cons _ (.cons _ _)), h2 => simp [chks] at h2
    · cases h1
theorem sounds {ck : Ck} {X : Cx} {C : Cc} {G : GS} (hX : XOk ck X C G) : ∀ {ps : Ps} {es : List Expr}, chks ck ps es = true → ∃ ts, PEs X es ts ∧ (∀ σ H Q, tA C .fr (tcs ck.Z ps) (evd ck.Z G ps) σ H Q → tNest ts σ H Q) ∧
    ∀ σ H Q, tA C (kds ck.Z ps) (tcs ck.Z ps) (evs ck.Z G ps) σ H Q → tNest ts σ H Q
  | .nil, [], _ => ⟨[], .nil, fun σ H Q h => nil_ok (by simpa only [tcs, evd] using h), fun σ H Q h => nil_ok (by simpa only [kds, tcs, evs] using h)⟩
  | .cons p ps, e :: es, h => by
    simp only [chks, Bool.and_eq_true, decide_eq_true_eq] at h
    obtain ⟨⟨h1, h2⟩, h3⟩ := h
    obtain ⟨q, _⟩ := sound hX h1
    obtain ⟨ts, hs, hd, hr⟩ := sounds hX h2
    refine ⟨_, .cons q hs, fun σ H Q z => ?_, fun σ H Q z => ?_⟩
    · simp only [tcs, evd] at z
      exact tE_mono (immM_read (cons_ok (C := C) (k := .fr) (l := .fr) (T := tc ck.Z p) (U := tcs ck.Z ps) (by rw [hX.inf]; exact tcs_own h2) trivial z)) fun x H1 w => hd σ H1 _ w
    · simp only [kds, tcs, evs] at z
      exact tE_mono (cons_ok (C := C) (by rw [hX.inf]; exact tcs_own h2) h3 z) fun x H1 w => hr σ H1 _ w
  | .nil, _ :: _, h => by cases h
  | .cons _ _, [], h => by cases h
theorem soundA {ck : Ck} {X : Cx} {C : Cc} {G : GS} (hX : XOk ck X C G) {M : List Nat} : ∀ {ps : Ps} {ms : List Bool} {es : List Expr}, chkA ck M ms ps es = true → ∃ ts, PEs X es ts ∧
    ∀ σ H Q, tAC ck.Z C M ms ps (tcs ck.Z ps) (evA ck.Z G ps ms) σ H Q → tNest ts σ H Q
  | .nil, [], [], _ => ⟨[], .nil, fun σ H Q h => by
    obtain ⟨ρ, F, cn, h⟩ := h
    simp only [evA] at h
    exact h [] H F cn Fr.refl .nil⟩
  | .nil, [], _ :: _, h => by simp [chkA] at h
  | .nil, b :: _, _, h => by cases b <;> simp [chkA] at h
  | .cons _ _, [], _, h => by simp [chkA] at h
  | .cons p _, b :: _, [], h => by cases b <;> cases p <;> simp [chkA] at h
  | .cons p ps, false :: ms, e :: es, h => by
    simp only [chkA, Bool.and_eq_true, decide_eq_true_eq] at h
    obtain ⟨⟨⟨h1, h2⟩, h3⟩, h4⟩ := h
    obtain ⟨q, _⟩ := sound hX h1
    obtain ⟨ts, hs, hr⟩ := soundA hX h2
    refine ⟨_, .cons q hs, fun σ H Q z => ?_⟩
    have ee : evA ck.Z G (.cons p ps) (false :: ms) = bnd (ev ck.Z G p) fun d => bnd (evA ck.Z G ps ms) fun r => ret (some d :: r) := by
      cases p <;> simp only [evA, List.tail_cons]
    rw [ee] at z
    obtain ⟨ρ, F, cn, z⟩ := z
    simp only [tcs] at z
    refine ⟨ρ, F, cn, ?_⟩
    cases e1 : ev ck.Z G p ρ with
    | no => rw [bnd_no e1] at z; exact z
    | ex c fs ρ' => rw [bnd_ex e1] at z; exact ExP.widen z fun j hj => List.mem_append_left _ hj
    | ok d ρ1 =>
      rw [bnd_ok e1] at z
      intro v H1 F1 S cn1 f1 rd ko n
      refine hr σ H1 _ ⟨ρ1, F1, cn1, ?_⟩
      cases e2 : evA ck.Z G ps ms ρ1 with
      | no => rw [bnd_no e2] at z; exact z
      | ex c fs ρ' => rw [bnd_ex e2] at z; exact ExP.mono z f1
      | ok os ρ2 =>
        rw [bnd_ok e2] at z
        intro vs H2 F2 cn2 f2 ar
        obtain ⟨on, ko'⟩ := ko.over rd.there f2 (by rw [hX.inf]; exact (tcA_own h2).1) h3
        exact z (v :: vs) H2 F2 cn2 (f1.trans f2) (.ro (rd.mono f2.tup on) ko' h4 ar)
  | .cons (.v i) ps, true :: ms, e :: es, h => by
    simp only [chkA, Bool.and_eq_true, Bool.not_eq_true'] at h
    obtain ⟨⟨⟨h1, h2⟩, h3⟩, h4⟩ := h
    simp only [chk] at h1
    obtain ⟨x, h5, h6⟩ := opt_of h1
    obtain ⟨p, rfl⟩ := nmA_inv h5
    simp only [Bool.and_eq_true, decide_eq_true_eq] at h6
    obtain ⟨n1, n2, _⟩ := okN_of h6.2
    obtain ⟨ts, hs, hr⟩ := soundA hX h4
    refine ⟨_, .cons (pe_var (i := i) (by rw [hX.N]; exact h6.1.1) (vis_of hX h6.1.2) n1 n2) hs, fun σ H Q z => ?_⟩
    obtain ⟨ρ, F, cn, z⟩ := z
    simp only [evA, tcs, tc, List.nil_append] at z
    cases e1 : getE ρ i with
    | none => rw [e1] at z; exact z.elim
    | some d =>
      rw [e1] at z
      obtain ⟨v, hv, _⟩ := cn.rep i d e1
      refine ⟨v, hv, hr σ H _ ⟨ρ, F, cn, ?_⟩⟩
      dsimp only at z
      cases e2 : evA ck.Z G ps ms ρ with
      | no => rw [bnd_no e2] at z; exact z
      | ex c fs ρ' => rw [bnd_ex e2] at z; exact z
      | ok os ρ2 =>
        rw [bnd_ok e2] at z
        intro vs H2 F2 cn2 f2 ar
        exact z (v :: vs) H2 F2 cn2 f2 (.var hv (by rw [hX.inf]; exact of_decide_eq_true h2) (by rw [hX.lk]; simpa using h3) ar)
  | .cons (.c _) ps, true :: ms, e :: es, h => by simp [chkA] at h
  | .cons (.mv _) ps, true :: ms, e :: es, h => by simp [chkA] at h
  | .cons (.g _ _) ps, true :: ms, e :: es, h => by simp [chkA] at h
  | .cons (.op _ _) ps, true :: ms, e :: es, h => by simp [chkA] at h
  | .cons (.nt _) ps, true :: ms, e :: es, h => by simp [chkA] at h
  | .cons (.an _ _) ps, true :: ms, e :: es, h => by simp [chkA] at h
  | .cons (.or _ _) ps, true :: ms, e :: es, h => by simp [chkA] at h
  | .cons (.ite _ _ _) ps, true :: ms, e :: es, h => by simp [chkA] at h
  | .cons (.ch _ _ _ _ _) ps, true :: ms, e :: es, h => by simp [chkA] at h
  | .cons (.sl _ _ _) ps, true :: ms, e :: es, h => by simp [chkA] at h
  | .cons (.get _ _ _) ps, true :: ms, e :: es, h => by simp [chkA] at h
  | .cons (.im _) ps, true :: ms, e :: es, h => by simp [chkA] at h
  | .cons (.tup _) ps, true :: ms, e :: es, h => by simp [chkA] at h
  | .cons (.lst _) ps, true :: ms, e :: es, h => by simp [chkA] at h
  | .cons (.call _ _) ps, true :: ms, e :: es, h => by simp [chkA] at h
  | .cons (.mt _ _ _ _) ps, true :: ms, e :: es, h => by simp [chkA] at h
  | .cons (.lc _ _ _ _ _) ps, true :: ms, e :: es, h => by simp [chkA] at h
  | .cons (.lc2 _ _ _ _ _ _ _ _) ps, true :: ms, e :: es, h => by simp [chkA] at h
  | .cons (.dc _ _ _ _ _ _) ps, true :: ms, e :: es, h => by simp [chkA] at h
  | .cons (.dsp _) ps, true :: ms, e :: es, h => by simp [chkA] at h
theorem soundI {ck : Ck} {X : Cx} {C : Cc} {G : GS} (hX : XOk ck X C G) {tg : Expr} : ∀ {it : It} {e : Expr}, chkI ck it e = true → (pairI it = true → isTup tg = true) → PI X tg e (tI C (kdI ck.Z it) (tcI ck.Z it) (evI ck.Z G it))
  | .seq p, e, h, ht => by
    simp only [chkI] at h
    obtain ⟨q, _⟩ := sound hX h
    simp only [kdI, tcI, evI]
    refine PI.weak ((PI.or (PI.or (pi_list q) (pi_tup q)) (pi_str q))) fun σ H Q z => seq_read ?_
    exact (by cases hk : kd ck.Z p <;> rw [hk] at z <;> exact z)
  | .rng as, e, h, ht => by
    simp only [chkI] at h
    obtain ⟨es, h1, h2⟩ := opt_of h
    obtain ⟨n, p, pos, rfl, hb, hn, hl⟩ := rngA_inv h1
    obtain ⟨rfl, hg, hm⟩ := blt_of hX hb
    obtain ⟨ts, hs, _, hr⟩ := sounds hX h2
    simp only [kdI, tcI, evI]
    have pa := hs.pa hn
    rcases hl with hl | hl
    · match es, hl with
      | [e1], _ =>
        refine PI.weak (pi_range1 hg hm (PA.weak pa hr) (nst_star1 (by simpa using hn))) fun σ H Q z => rng1_read z fun ds ρ ρ' e => by rw [evs_len e h2]; rfl
    · match es, hl with
      | [e1, e2], _ =>
        simp only [List.all_cons, List.all_nil, Bool.and_true, Bool.and_eq_true] at hn
        refine PI.weak (pi_range2 hg hm (PA.weak pa hr) (by rw [star_of hn.1, star_of hn.2]; rfl) (nst_star1 hn.2)) fun σ H Q z => rng2_read z fun ds ρ ρ' e => by rw [evs_len e h2]; rfl
  | .enum p, e, h, ht => by
    simp only [chkI] at h
    obtain ⟨x, h1, h2⟩ := opt_of h
    obtain ⟨n, pp, pos, rfl, hb, hn⟩ := callA1_inv h1
    obtain ⟨rfl, hg, hm⟩ := blt_of hX hb
    obtain ⟨q, _⟩ := sound hX h2
    have ht := ht rfl
    cases tg <;> try cases ht
    simp only [kdI, tcI, evI]
    refine PI.weak (pi_enum hg hm (pa_cons q pa_nil (star_of hn)) (nst_star1 hn)) fun σ H Q z => ?_
    refine walk_read (k := kd ck.Z p) (Q := Q) (f := fun d => (kidsL d).map enumF) (by cases hk : kd ck.Z p <;> rw [hk] at z <;> exact z) fun d ds v H1 S rd e w => ?_
    cases e2 : kidsL d with
    | none => rw [e2] at e; cases e
    | some xs =>
      rw [e2] at e
      cases e
      obtain ⟨a, vs, U, rfl, h1, h2, rfl⟩ := rd.kidsL e2
      exact ⟨a, vs, rfl, .inl h1, w _ _ (fun _ h => h) (it_enum h1 h2)⟩
  | .rev p, e, h, ht => by
    simp only [chkI] at h
    obtain ⟨x, h1, h2⟩ := opt_of h
    obtain ⟨n, pp, pos, rfl, hb, hn⟩ := callA1_inv h1
    obtain ⟨rfl, hg, hm⟩ := blt_of hX hb
    obtain ⟨q, _⟩ := sound hX h2
    simp only [kdI, tcI, evI]
    refine PI.weak (RT.pi_revA hg hm q (star_of hn)) fun σ H Q z => ?_
    refine walk_read (k := kd ck.Z p) (Q := Q) (f := fun d => (kids d).map List.reverse) (by cases hk : kd ck.Z p <;> rw [hk] at z <;> exact z) fun d ds v H1 S rd e w => ?_
    unfold kids at e
    cases e2 : kidsT d with
    | some xs =>
      rw [e2] at e
      cases e
      obtain ⟨a, vs, rfl, h1, h2⟩ := rd.kidsT e2
      exact ⟨a, vs, rfl, .inr ⟨SqT.of h1, w _ _ (fun _ h => h) (it_revT h1 h2)⟩⟩
    | none =>
      rw [e2] at e
      cases e3 : kidsL d with
      | none => rw [e3] at e; cases e
      | some xs =>
        rw [e3] at e
        cases e
        obtain ⟨a, vs, U, rfl, h1, h2, rfl⟩ := rd.kidsL e3
        exact ⟨a, vs, rfl, .inl ⟨.inl h1, w _ _ (fun _ h => h) (it_revL h1 h2)⟩⟩
  | .zip as, e, h, ht => by
    simp only [chkI] at h
    obtain ⟨es, h1, h2⟩ := opt_of h
    obtain ⟨n, pp, pos, x, y, rfl, rfl, hb, hn, hn2⟩ := zipA_inv h1
    obtain ⟨rfl, hg, hm⟩ := blt_of hX hb
    obtain ⟨ts, hs, _, hr⟩ := sounds hX h2
    have ht := ht rfl
    cases tg <;> try cases ht
    simp only [kdI, tcI, evI]
    refine PI.weak (RZ.pi_zipA hg hm (PA.weak (hs.pa (by simp [hn, hn2])) hr) (star_of hn) (plain_of (es := [y]) (by simp [hn2]))) fun σ H Q z => ?_
    refine args_readS (k := kds ck.Z as) (Q := Q) (f := zip2) z fun d ds v H1 S rd e w => ?_
    match d, e with
    | [d, d'], e =>
      obtain ⟨v, u, T1, U1, rfl, r1, r2, rfl⟩ := rd.two
      simp only [zip2] at e
      cases e2 : kidsL d with
      | some xs =>
        rw [e2] at e
        cases e3 : kidsL d' with
        | none => rw [e3] at e; cases e
        | some ys =>
          rw [e3] at e
          cases e
          obtain ⟨a, vs, U, rfl, h1, h2, rfl⟩ := r1.kidsL e2
          obtain ⟨b, ws, U', rfl, h3, h4, rfl⟩ := r2.kidsL e3
          exact ⟨a, b, vs, ws, rfl, .inl ⟨.inl h1, .inl h3, w _ _ (fun _ h => h) (it_zipL h1 h2 h3 h4)⟩⟩
      | none =>
        rw [e2] at e
        cases e4 : kidsT d with
        | none => rw [e4] at e; cases e
        | some xs =>
          rw [e4] at e
          cases e3 : kidsT d' with
          | none => rw [e3] at e; cases e
          | some ys =>
            rw [e3] at e
            cases e
            obtain ⟨a, vs, rfl, h1, h2⟩ := r1.kidsT e4
            obtain ⟨b, ws, rfl, h3, h4⟩ := r2.kidsT e3
            exact ⟨a, b, vs, ws, rfl, .inr ⟨SqT.of h1, SqT.of h3, w _ _ (fun _ h => h) (it_zipT h1 h2 h3 h4)⟩⟩
end
end
end Mp

namespace Mp
open PySem PySem.Spec PyProof.Rows L2

section
variable {ck : Ck} {X : Cx} {C : Cc} {G : GS}
theorem lc_parts (hX : XOk ck X C G) {e : P} {t : Tg} {it : It} {cd : Ps} {vs : List Nat} {x : Expr} (h : chk ck (.lc e t it cd vs) x = true) : ∃ elt tg iter ifs scope pos own tt wi g te, x = .ListComp elt [⟨tg, iter, ifs, 0⟩] scope pos ∧ PI X tg iter wi ∧ BlkOk X.N X.env.scope scope own ∧
    (∀ (s : Shared) (H : Hp) (D : Addr) (cl : List (Str × Addr)) (fp : List Addr), PG (X.blk s H scope (compEnvC scope cl D X.env) fp) tg g) ∧ (∀ (s : Shared) (H : Hp) (D : Addr) (cl : List (Str × Addr)) (fp : List Addr), PTs (X.blk s H scope (compEnvC scope cl D X.env) fp) ifs tt) ∧
    (∀ (s : Shared) (H : Hp) (D : Addr) (cl : List (Str × Addr)) (fp : List Addr), PE (X.blk s H scope (compEnvC scope cl D X.env) fp) elt te) ∧ (∀ z, foldedSetIterable iter X.env z = pure z) ∧
    ∀ σ H Q, tE C (kd ck.Z (.lc e t it cd vs)) (tc ck.Z (.lc e t it cd vs)) (ev ck.Z G (.lc e t it cd vs)) σ H Q → tLc wi g tt te (own.map (·.2)) σ H Q := by
  simp only [chk] at h
  obtain ⟨⟨elt, tg, iter, ifs, scope⟩, h1, h2⟩ := opt_of h
  obtain ⟨pos, rfl, hs⟩ := lcA_inv h1
  simp only [Bool.and_eq_true, decide_eq_true_eq, List.all_eq_true, Bool.or_eq_true, Bool.not_eq_true'] at h2
  obtain ⟨⟨⟨⟨⟨⟨⟨⟨⟨b1, b2⟩, b3⟩, b4⟩, b5⟩, b6⟩, b7⟩, b8⟩, b9⟩, b0⟩ := h2
  have ok : BlkOk X.N X.env.scope scope (ownOf ck.N scope) := by rw [hX.N, hX.sc]; exact blkOk_by b1
  have hpair : pairI it = true → isTup tg = true := fun z => by
    rcases b7 with b7 | b7
    · rw [z] at b7; cases b7
    · exact b7
  obtain ⟨R, hR⟩ := kdI_bo (Z := ck.Z) (it := it)
  obtain ⟨tt, ht1, ht2⟩ : ∃ tt, (∀ s H D cl fp, PTs (X.blk s H scope (compEnvC scope cl D X.env) fp) ifs tt) ∧ ∀ σ H Q, tB (blkW C) (tcs ck.Z cd) (evC ck.Z G cd) σ H Q → tt σ H Q := by
    match cd, ifs, b8 with
    | .nil, [], _ =>
      refine ⟨tYes, fun s H D cl fp => pts_nil, fun σ H Q z => ?_⟩
      obtain ⟨ρ, F, cn, z⟩ := z
      simp only [evC] at z
      exact z H F cn Fr.refl
    | .cons p .nil, [c], b8 =>
      simp only [chkC] at b8
      refine ⟨_, fun s H D cl fp => pts_one (sound (blk_ok hX ok s H D cl fp) b8).2, fun σ H Q z => ?_⟩
      simp only [evC, tcs, List.append_nil] at z
      exact tt_of z
    | .nil, _ :: _, b8 => simp [chkC] at b8
    | .cons _ .nil, [], b8 => simp [chkC] at b8
    | .cons _ .nil, _ :: _ :: _, b8 => simp [chkC] at b8
    | .cons _ (.cons _ _), _, b8 => simp [chkC] at b8
  refine ⟨elt, tg, iter, ifs, scope, pos, _, tt, _, _, _, rfl, soundI hX b6 hpair, ok, fun s H D cl fp => setT_pg (blk_ok hX ok s H D cl fp) (kdI ck.Z it) b3, ht1, fun s H D cl fp => (sound (blk_ok hX ok s H D cl fp) b9).1, noSet_fold hs, fun σ H Q z => ?_⟩
  simp only [kd, tc, ev] at z
  rw [hR] at z ⊢
  rw [← b2]
  rw [← hX.inf] at z
  exact lc_read (vs := vs) (fun v hv => by rw [hX.inf]; exact of_decide_eq_false (b5 v hv)) (fun j hj => by simpa using b4 j hj) (by rw [hX.inf]; exact tcC_own (ck := blkCk ck scope) b8) (by rw [hX.inf]; exact tc_own (ck := blkCk ck scope) b9) (by rw [← hR]; exact b0) ht2 z
theorem dc_parts (hX : XOk ck X C G) {k e : P} {t : Tg} {it : It} {cd : Ps} {vs : List Nat} {x : Expr} (h : chk ck (.dc k e t it cd vs) x = true) : ∃ ke elt tg iter ifs scope pos own tt wi g tk te, x = .DictComp ke elt [⟨tg, iter, ifs, 0⟩] scope pos ∧ PI X tg iter wi ∧ BlkOk X.N X.env.scope scope own ∧
    (∀ (s : Shared) (H : Hp) (D : Addr) (cl : List (Str × Addr)) (fp : List Addr), PG (X.blk s H scope (compEnvC scope cl D X.env) fp) tg g) ∧ (∀ (s : Shared) (H : Hp) (D : Addr) (cl : List (Str × Addr)) (fp : List Addr), PTs (X.blk s H scope (compEnvC scope cl D X.env) fp) ifs tt) ∧
    (∀ (s : Shared) (H : Hp) (D : Addr) (cl : List (Str × Addr)) (fp : List Addr), PE (X.blk s H scope (compEnvC scope cl D X.env) fp) ke tk) ∧ (∀ (s : Shared) (H : Hp) (D : Addr) (cl : List (Str × Addr)) (fp : List Addr), PE (X.blk s H scope (compEnvC scope cl D X.env) fp) elt te) ∧ (∀ z, foldedSetIterable iter X.env z = pure z) ∧
    ∀ σ H Q, tE C (kd ck.Z (.dc k e t it cd vs)) (tc ck.Z (.dc k e t it cd vs)) (ev ck.Z G (.dc k e t it cd vs)) σ H Q → tDc wi g tt tk te (own.map (·.2)) σ H Q := by
  simp only [chk] at h
  obtain ⟨⟨ke, elt, tg, iter, ifs, scope⟩, h1, h2⟩ := opt_of h
  obtain ⟨pos, rfl, hs⟩ := dcA_inv h1
  simp only [Bool.and_eq_true, decide_eq_true_eq, List.all_eq_true, Bool.or_eq_true, Bool.not_eq_true'] at h2
  obtain ⟨⟨⟨⟨⟨⟨⟨⟨⟨⟨b1, b2⟩, b3⟩, b4⟩, b5⟩, b6⟩, b7⟩, b8⟩, b10⟩, b9⟩, b0⟩ := h2
  have ok : BlkOk X.N X.env.scope scope (ownOf ck.N scope) := by rw [hX.N, hX.sc]; exact blkOk_by b1
  have hpair : pairI it = true → isTup tg = true := fun z => by
    rcases b7 with b7 | b7
    · rw [z] at b7; cases b7
    · exact b7
  obtain ⟨R, hR⟩ := kdI_bo (Z := ck.Z) (it := it)
  obtain ⟨tt, ht1, ht2⟩ : ∃ tt, (∀ s H D cl fp, PTs (X.blk s H scope (compEnvC scope cl D X.env) fp) ifs tt) ∧ ∀ σ H Q, tB (blkW C) (tcs ck.Z cd) (evC ck.Z G cd) σ H Q → tt σ H Q := by
    match cd, ifs, b8 with
    | .nil, [], _ =>
      refine ⟨tYes, fun s H D cl fp => pts_nil, fun σ H Q z => ?_⟩
      obtain ⟨ρ, F, cn, z⟩ := z
      simp only [evC] at z
      exact z H F cn Fr.refl
    | .cons p .nil, [c], b8 =>
      simp only [chkC] at b8
      refine ⟨_, fun s H D cl fp => pts_one (sound (blk_ok hX ok s H D cl fp) b8).2, fun σ H Q z => ?_⟩
      simp only [evC, tcs, List.append_nil] at z
      exact tt_of z
    | .nil, _ :: _, b8 => simp [chkC] at b8
    | .cons _ .nil, [], b8 => simp [chkC] at b8
    | .cons _ .nil, _ :: _ :: _, b8 => simp [chkC] at b8
    | .cons _ (.cons _ _), _, b8 => simp [chkC] at b8
  refine ⟨ke, elt, tg, iter, ifs, scope, pos, _, tt, _, _, _, _, rfl, soundI hX b6 hpair, ok, fun s H D cl fp => setT_pg (blk_ok hX ok s H D cl fp) (kdI ck.Z it) b3, ht1, fun s H D cl fp => (sound (blk_ok hX ok s H D cl fp) b10).1, fun s H D cl fp => (sound (blk_ok hX ok s H D cl fp) b9).1, noSet_fold hs, fun σ H Q z => ?_⟩
  simp only [kd, tc, ev] at z
  rw [hR] at z ⊢
  rw [← b2]
  rw [← hX.inf] at z
  exact dc_read (vs := vs) (fun v hv => by rw [hX.inf]; exact of_decide_eq_false (b5 v hv)) (fun j hj => by simpa using b4 j hj) (by rw [hX.inf]; exact tcC_own (ck := blkCk ck scope) b8) (by rw [hX.inf]; exact tc_own (ck := blkCk ck scope) b10) (by rw [hX.inf]; exact tc_own (ck := blkCk ck scope) b9) (by rw [← hR]; exact b0) ht2 z
theorem tG_name {i : Nat} {k : Kd} {v : V} {σ : L2.St} {H : Hp} {Q : L2.St → Hp → Prop} (z : tG C k (.n i) v σ H Q) : gName i v σ H Q := by
  obtain ⟨ρ, F, F0, H0, d, S, T, cn, fr, rd, ko, nw, z⟩ := z
  simp only [setT] at z
  cases e : setN C.inf k i d ρ with
  | no => rw [e] at z; exact z.elim
  | ex c fs ρ' => rw [e] at z; exact z.elim
  | ok u ρ' =>
    rw [e] at z
    obtain ⟨a1, a2, a3, a4⟩ := setN_ok cn fr rd ko nw e
    exact z _ _ (fun j hj => List.getElem?_set_ne (fun w => hj (by rw [w]; exact List.mem_singleton_self _))) a1 a2 a3 a4
def swB (sc scope : Scope) (x : Str) (l l' : Nat) : Bool := decide (sc.names.lookup x = some .local) && (l == l') && !(scope.names.any fun y => y.1 == x && (y.2 == .local || y.2 == .cell))
theorem swB_is {sc scope : Scope} {x : Str} {px pos : Pos} {elt : Expr} {gs : List Comprehension} {env : PySem.Env} {ln : Nat} (hs : env.scope = sc) (hk : env.scope.kind = .function) :
    swapsWith (.ListComp elt gs scope pos) (some (.Name x px)) ln env = pure (swB sc scope x px.line pos.line) := by
  have e : (env.kindOf x == some .local) = decide (sc.names.lookup x = some .local) := by
    show (env.scope.names.lookup x == some .local) = _
    rw [hs]
    by_cases h : List.lookup x sc.names = some NameKind.local
    · rw [h]; rfl
    · rw [decide_eq_false h]
      simpa using h
  show (pure (env.blockKind == .function && env.kindOf x == some .local && px.line == (Expr.ListComp elt gs scope pos).pos.line && !(scope.names.any fun (n, k) => n == x && (k == .local || k == .cell))) : Sem Bool) = _
  rw [show (env.blockKind == ScopeKind.function) = true from (by unfold Env.blockKind; rw [hk]; rfl), e, Bool.true_and]
  rfl
theorem swB_isD {sc scope : Scope} {x : Str} {px pos : Pos} {ke elt : Expr} {gs : List Comprehension} {env : PySem.Env} {ln : Nat} (hs : env.scope = sc) (hk : env.scope.kind = .function) :
    swapsWith (.DictComp ke elt gs scope pos) (some (.Name x px)) ln env = pure (swB sc scope x px.line pos.line) := by
  have e : (env.kindOf x == some .local) = decide (sc.names.lookup x = some .local) := by
    show (env.scope.names.lookup x == some .local) = _
    rw [hs]
    by_cases h : List.lookup x sc.names = some NameKind.local
    · rw [h]; rfl
    · rw [decide_eq_false h]
      simpa using h
  show (pure (env.blockKind == .function && env.kindOf x == some .local && px.line == (Expr.DictComp ke elt gs scope pos).pos.line && !(scope.names.any fun (n, k) => n == x && (k == .local || k == .cell))) : Sem Bool) = _
  rw [show (env.blockKind == ScopeKind.function) = true from (by unfold Env.blockKind; rw [hk]; rfl), e, Bool.true_and]
  rfl
theorem ps_setDc {X : Cx} {i : Nat} {y : Str} {py : Pos} {kx elt tg iter : Expr} {ifs : List Expr} {scope : Scope} {own : List (Str × Nat)} {pos spos : Pos} {wi : TI} {g : TG} {tt : TT} {tk te : TE} (hc : X.calm = true) (hN : X.N.Nodup) (hy : X.N[i]? = some y) (hyl : X.env.scope.names.lookup y = some .local)
    (hsw : swapsWith (.DictComp kx elt [⟨tg, iter, ifs, 0⟩] scope pos) (some (.Name y py)) spos.line X.env = pure true) (hi : PI X tg iter wi) (ok : BlkOk X.N X.env.scope scope own)
    (hg : ∀ (s : Shared) (H : Hp) (C : Addr) (cl : List (Str × Addr)) (fp : List Addr), PG (X.blk s H scope (compEnvC scope cl C X.env) fp) tg g) (ht : ∀ (s : Shared) (H : Hp) (C : Addr) (cl : List (Str × Addr)) (fp : List Addr), PTs (X.blk s H scope (compEnvC scope cl C X.env) fp) ifs tt)
    (hk : ∀ (s : Shared) (H : Hp) (C : Addr) (cl : List (Str × Addr)) (fp : List Addr), PE (X.blk s H scope (compEnvC scope cl C X.env) fp) kx tk)
    (he : ∀ (s : Shared) (H : Hp) (C : Addr) (cl : List (Str × Addr)) (fp : List Addr), PE (X.blk s H scope (compEnvC scope cl C X.env) fp) elt te) (hs : ∀ x, foldedSetIterable iter X.env x = pure x) :
    PS X (.Assign [.Name y py] (.DictComp kx elt [⟨tg, iter, ifs, 0⟩] scope pos) spos) (tAsg (tDc wi g tt tk te (own.map (·.2))) (gName i)) := by
  refine ⟨fun pins s σ H D I h => ?_⟩
  rw [exec_Assign_Name_used _ _ _ _ hsw]
  refine wpAny_bind (wpAny_standAt (wpAny_bind ?_))
  show wpAny _ X.A (do let _ ← comprehension (.DictComp kx elt [⟨tg, iter, ifs, 0⟩] scope pos) scope X.env (firstIterPos [⟨tg, iter, ifs, 0⟩] pos) newDict false (eval iter X.env) (some (assign (.Name y py) X.env))) _ _ s
  have h : tDc wi g tt tk te (own.map (·.2)) σ H (fun x H1 => gName i x σ H1 D.nx) := h
  refine wpAny_bind (thn (dc_core (Qf := fun _ s' => SP X pins D .next s') hc hN I hi ok hg ht hk he hs h fun L C s' m H' I' q hn f => ?_) fun _ s' hq => wpAny_pure (wpAny_pure hq))
  show wpAny _ _ (assign (.Name y py) X.env (.ref L)) _ _ _
  refine wpAny_assign_Name (store_ok2 (v := V.ref L) I' hN hy (.inl hyl) rfl (fun s2 I2 ⟨a, sb, ha⟩ => ?_) (.inr hyl))
  obtain ⟨f0, f1, f2, f3, f4, f5⟩ := f
  have haC : C ≠ a := by
    rcases ha with z | z
    · rw [z]; exact f1
    · exact fun e => f4 y a z e.symm
  refine ⟨m, hn.sameBut sb haC, fun h3 sb3 => ?_⟩
  exact ⟨_, H', I2.turned (t' := s2.toks) (fun b o hb e => (sb3.2 b hb).trans e) f0 f1 f3 f4 f5, q⟩
end
end Mp

namespace Mp
open PySem PySem.Spec PyProof.Rows L2

inductive Fl where
  | next (ρ : Env) | brk (ρ : Env) | cont (ρ : Env) | ret (d : D) (ρ : Env)
  | ex (c : Nat) (fs : List (Str × I)) (ρ : Env) | no
mutual
inductive S where
  | asg (t : Tg) (p : P)
  | par (is : List Nat) (ps : Ps)
  | sub (i : Nat) (ks : Ps) (p : P)
  | aug (o : Op) (i : Nat) (p : P)
  | augS (o : Op) (i : Nat) (ks : Ps) (p : P)
  | exp (p : P)
  | iff (c : P) (a b : Ss)
  | loop (t : Tg) (it : It) (b : Ss)
  | whl (c : P) (b : Ss)
  | ret (p : P) | retN | brk | cont | pass
inductive Ss where
  | nil | cons (s : S) (ss : Ss)
end
def runM {α : Type} (m : M α) (f : α → Env → Fl) : Env → Fl := fun ρ => match m ρ with
  | .ok a ρ' => f a ρ'
  | .ex c fs ρ' => .ex c fs ρ'
  | .no => .no
def seqF (a b : Env → Fl) : Env → Fl := fun ρ => match a ρ with
  | .next ρ' => b ρ'
  | r => r
def turnF (r : Fl) (k : Env → Fl) : Fl := match r with
  | .next ρ => k ρ
  | .cont ρ => k ρ
  | .brk ρ => .next ρ
  | .ret d ρ => .ret d ρ
  | .ex c fs ρ => .ex c fs ρ
  | .no => .no
def forL (set : D → M Unit) (body : Env → Fl) : List D → Env → Fl
  | [], ρ => .next ρ
  | d :: ds, ρ => runM (set d) (fun _ ρ' => turnF (body ρ') (forL set body ds)) ρ
def whL (test : M Bool) (body : Env → Fl) : Nat → Env → Fl
  | 0, _ => .no
  | n + 1, ρ => runM test (fun b ρ' => if b then turnF (body ρ') (whL test body n) else .next ρ') ρ
def setPar (inf : Inf) : List Nat → List D → M Unit
  | [], [] => ret ()
  | i :: is, d :: ds => bnd (setPar inf is ds) fun _ => setN inf .fr i d
  | _, _ => fun _ => .no
def setF (k d : D) : D → Option (D × D)
  | .lst ds => (match k with
    | .i (.int i) => (ixN ds.length i).map fun j => (.lst (ds.set j d), .i .non)
    | _ => none)
  | .dk kvs => (match keyD k with
    | some q => if kvs.length < sizeLine then some (.dk (addK q d kvs), .i .non) else none
    | none => none)
  | .dt kvs => (match keyT k with
    | some q => if kvs.length < sizeLine then some (.dt (addK q d kvs), .i .non) else none
    | none => none)
  | _ => none
def subM (inf : Inf) (i : Nat) (ks : List D) (d : D) : M Unit := fun ρ => match ks.getLast?, getE ρ i with
  | some k, some x => (match mutAt (setF k d) ks.dropLast x with
    | some (x', _) => .ok () (setE inf i x' ρ)
    | none => .no)
  | _, _ => .no
def augF : Op → D → D → Option D
  | .add, .i (.int a), .i (.int b) => some (.i (.int (a + b)))
  | .add, .i (.str a), .i (.str b) => if a.length + b.length ≤ sizeLine ∧ PyData.strOk (a ++ b) then some (.i (.str (a ++ b))) else none
  | .sub, .i (.int a), .i (.int b) => some (.i (.int (a - b)))
  | _, _, _ => none
def augM (inf : Inf) (o : Op) (i : Nat) (m : M D) : M Unit := fun ρ => match getE ρ i with
  | some (.i x) => bnd m (fun d => bnd (lift (augF o (.i x) d)) fun z => setN inf .fr i z) ρ
  | _ => .no
def augSM (inf : Inf) (o : Op) (i : Nat) (ks : List D) (m : M D) : M Unit := fun ρ => match ks.getLast?, getE ρ i with
  | some k, some x => (match mutAt (fun d => (at1 k d).map fun y => (d, y)) ks.dropLast x with
    | some (_, old) => bnd m (fun d => bnd (lift (augF o old d)) fun z => subM inf i ks z) ρ
    | none => .no)
  | _, _ => .no
def noX {α : Type} (m : M α) : M α := fun ρ => match m ρ with
  | .ok a ρ' => .ok a ρ'
  | _ => .no
def testM (m : M D) : M Bool := bnd m fun d => lift (truth d)
mutual
def exS (Z : Z0) (G : GS) (n : Nat) : S → Env → Fl
  | .asg t p => runM (bnd (ev Z G p) fun d => setT Z.inf (kd Z p) t d) fun _ ρ => .next ρ
  | .par is ps => runM (bnd (evd Z G ps) fun ds => setPar Z.inf is ds) fun _ ρ => .next ρ
  | .sub i ks p => runM (bnd (immM (kd Z p) (ev Z G p)) fun d => bnd (hasN i) fun _ => bnd (noX (evs Z G ks)) fun ks' => subM Z.inf i ks' d) fun _ ρ => .next ρ
  | .aug o i p => runM (augM Z.inf o i (ev Z G p)) fun _ ρ => .next ρ
  | .augS o i ks p => runM (bnd (hasN i) fun _ => bnd (evs Z G ks) fun ks' => augSM Z.inf o i ks' (ev Z G p)) fun _ ρ => .next ρ
  | .exp p => runM (ev Z G p) fun _ ρ => .next ρ
  | .iff c a b => runM (testM (ev Z G c)) fun t ρ => if t then exs Z G n a ρ else exs Z G n b ρ
  | .loop t it b => runM (evI Z G it) fun ds ρ => forL (setT Z.inf (kdI Z it) t) (exs Z G n b) ds ρ
  | .whl c b => whL (testM (ev Z G c)) (exs Z G n b) n
  | .ret p => runM (immM (kd Z p) (ev Z G p)) fun d ρ => .ret d ρ
  | .retN => fun ρ => .ret (.i .non) ρ
  | .brk => fun ρ => .brk ρ
  | .cont => fun ρ => .cont ρ
  | .pass => fun ρ => .next ρ
def exs (Z : Z0) (G : GS) (n : Nat) : Ss → Env → Fl
  | .nil => fun ρ => .next ρ
  | .cons s ss => seqF (exS Z G n s) (exs Z G n ss)
end
mutual
def tS' (Z : Z0) : S → List Nat
  | .asg t p => tc Z p ++ tgs t
  | .par is ps => tcs Z ps ++ is
  | .sub i ks p => tc Z p ++ (tcs Z ks ++ [i])
  | .aug _ i p => tc Z p ++ [i]
  | .augS _ i ks p => tcs Z ks ++ (tc Z p ++ [i])
  | .exp p => tc Z p
  | .iff c a b => tc Z c ++ (tSs' Z a ++ tSs' Z b)
  | .loop t it b => tcI Z it ++ (tgs t ++ tSs' Z b)
  | .whl c b => tc Z c ++ tSs' Z b
  | .ret p => tc Z p
  | .retN => []
  | .brk => []
  | .cont => []
  | .pass => []
def tSs' (Z : Z0) : Ss → List Nat
  | .nil => []
  | .cons s ss => tS' Z s ++ tSs' Z ss
end
mutual
def aS' : S → List Nat
  | .asg t _ => tgs t
  | .par is _ => is
  | .aug _ i _ => [i]
  | .iff _ a b => aSs' a ++ aSs' b
  | .loop t _ b => tgs t ++ aSs' b
  | .whl _ b => aSs' b
  | .sub _ _ _ => []
  | .augS _ _ _ _ => []
  | .exp _ => []
  | .ret _ => []
  | .retN => []
  | .brk => []
  | .cont => []
  | .pass => []
def aSs' : Ss → List Nat
  | .nil => []
  | .cons s ss => aS' s ++ aSs' ss
end

def isComp : Expr → Bool
  | .ListComp _ _ _ _ => true
  | .SetComp _ _ _ _ => true
  | .DictComp _ _ _ _ _ => true
  | _ => false
def asgA : Stmt → Option (Expr × Expr)
  | .Assign [t] e _ => if !isComp e && !(isTup t && isTup e) then some (t, e) else none
  | _ => none
def asgL : Stmt → Option (Str × Pos × Expr)
  | .Assign [.Name x p] (.ListComp a b c d) _ => some (x, p, .ListComp a b c d)
  | _ => none
def asgD : Stmt → Option (Str × Pos × Expr)
  | .Assign [.Name x p] (.DictComp k a b c d) _ => some (x, p, .DictComp k a b c d)
  | _ => none
def isDc : P → Bool
  | .dc _ _ _ _ _ _ => true
  | _ => false
def isLc : P → Bool
  | .lc _ _ _ _ _ => true
  | _ => false
def expA : Stmt → Option Expr
  | .Expr e _ => if !isComp e then some e else none
  | _ => none
def ifA : Stmt → Option (Expr × List Stmt × List Stmt)
  | .If c a b _ => some (c, a, b)
  | _ => none
def forA : Stmt → Option (Expr × Expr × List Stmt)
  | .For t it b [] _ => if noSet it then some (t, it, b) else none
  | _ => none
def whA : Stmt → Option (Expr × List Stmt)
  | .While c b [] _ => some (c, b)
  | _ => none
def retA : Stmt → Option Expr
  | .Return (some e) _ => some e
  | _ => none
def augOp : Op → Option Operator
  | .add => some .Add
  | .sub => some .Sub
  | _ => none
def augA : Stmt → Option (Str × Operator × Expr)
  | .AugAssign (.Name x _) o e _ => some (x, o, e)
  | _ => none
def augSA : Stmt → Option (Str × Expr × Operator × Expr)
  | .AugAssign (.Subscript (.Name x _) k _) o e _ => if noSlice k then some (x, k, o, e) else none
  | _ => none
def parA (ck : Ck) : Stmt → Option (List Str × List Expr)
  | .Assign [.Tuple [.Name x px, .Name y py] _ _] (.Tuple [a, b] _ _) _ =>
    if decide (ck.sc.names.lookup x = some .local) && decide (ck.sc.names.lookup y = some .local) && decide (x ≠ y) && (px.line == py.line) && nst a && nst b && !([a, b].all (foldedForSure 8)) && !([a, b].all (constantsAlone 8)) then some ([x, y], [a, b]) else none
  | .Assign [.Tuple [.Name x px, .Name y py, .Name z pz] _ _] (.Tuple [a, b, c] _ _) _ =>
    if decide (ck.sc.names.lookup x = some .local) && decide (ck.sc.names.lookup y = some .local) && decide (ck.sc.names.lookup z = some .local) && decide (x ≠ y) && decide (x ≠ z) && decide (y ≠ z) && (px.line == py.line) && (px.line == pz.line) && nst a && nst b && nst c &&
      !([a, b, c].all (foldedForSure 8)) && !([a, b, c].all (constantsAlone 8)) then some ([x, y, z], [a, b, c]) else none
  | _ => none
def subA : Stmt → Option (Str × List Expr × Expr)
  | .Assign [.Subscript (.Name x _) k _] e _ => if noSlice k then some (x, [k], e) else none
  | _ => none
mutual
def chkS (ck : Ck) : S → Stmt → Bool
  | .asg t p, s => (oB (asgA s) fun ⟨tg, e⟩ => chkT ck t tg && nst tg && chk ck p e) || ((isLc p && oB (asgL s) fun ⟨x, q, e⟩ => chkT ck t (.Name x q) && chk ck p e) || (isDc p && oB (asgD s) fun ⟨x, q, e⟩ => chkT ck t (.Name x q) && chk ck p e))
  | .exp p, s => oB (expA s) fun e => chk ck p e
  | .iff c a b, s => oB (ifA s) fun ⟨x, y, z⟩ => chk ck c x && chkSs ck a y && chkSs ck b z
  | .loop t it b, s => oB (forA s) fun ⟨tg, e, y⟩ => chkT ck t tg && nst tg && chkI ck it e && (!pairI it || isTup tg) && chkSs ck b y && decide (Apart (tgs t ++ tSs' ck.Z b) (kdI ck.Z it))
  | .whl c b, s => oB (whA s) fun ⟨x, y⟩ => chk ck c x && chkSs ck b y
  | .ret p, s => oB (retA s) fun e => chk ck p e
  | .sub i ks p, s => oB (subA s) fun ⟨x, kes, e⟩ => decide (ck.N[i]? = some x) && vis ck x && okN x && ownB ck.Z.inf i && !ck.lk.contains i && chks ck ks kes && chk ck p e && !(tcs ck.Z ks).contains i
  | .aug o i p, s => oB (augA s) fun ⟨x, op, e⟩ => decide (augOp o = some op) && decide (ck.N[i]? = some x) && sto ck x && chk ck p e
  | .augS o i ks p, s => oB (augSA s) fun ⟨x, k, op, e⟩ => decide (augOp o = some op) && decide (ck.N[i]? = some x) && vis ck x && okN x && ownB ck.Z.inf i && !ck.lk.contains i && chks ck ks [k] && chk ck p e
  | .par is ps, s => oB (parA ck s) fun ⟨xs, es⟩ => decide (is.map (fun i => ck.N[i]?) = xs.map some) && chks ck ps es
  | .retN, .Return none _ => true
  | .brk, .Break _ => true
  | .cont, .Continue _ => true
  | .pass, .Pass _ => true
  | _, _ => false
def chkSs (ck : Ck) : Ss → List Stmt → Bool
  | .nil, [] => true
  | .cons s ss, e :: es => chkS ck s e && chkSs ck ss es
  | _, _ => false
end
end Mp

namespace Mp
open PySem PySem.Spec PyProof.Rows L2

def rSet : TSet := fun o i v H Q => rSetL o i v H Q ∨ rSetD o i v H Q
theorem set_any {X : Cx} (hu : X.A.units + 1 < cLine) : PSet X rSet := by
  intro pins s σ H o i v ov iv u Q I ro ri rv h
  rcases h with h | h
  · exact set_list pins s σ H o i v ov iv u Q I ro ri rv h
  · exact set_dict hu pins s σ H o i v ov iv u Q I ro ri rv h
theorem obj_post {H : Hp} {a : Addr} {o o' : HO} {T Sa S1 : List Addr} {d' : Mp.D} {Q : VK} (hp : VPost H a (a :: T) Sa d' (.i .non) Q) (hH : H a = some o) (hn : ∀ vs, o ≠ .tup vs) (hf : ∀ p q, o' ≠ .frz p q) (nd : (a :: T ++ Sa).Nodup)
    (n0 : ∀ x ∈ a :: T, NFz H x) (na : ∀ x ∈ Sa, NFz H x) (r : a ∉ S1 → RD (upd H a o') d' (.ref a) (a :: S1)) (nd1 : S1.Nodup) (sub : ∀ x ∈ S1, x ∈ T ∨ x ∈ Sa) : Q .non (upd H a o') := by
  have ha : a ∉ S1 := fun z => by
    have nd := (List.nodup_cons.mp nd).1
    rcases sub a z with z | z
    · exact nd (List.mem_append_left _ z)
    · exact nd (List.mem_append_right _ z)
  refine hp (upd H a o') .non (a :: S1) [] (fun b u hb e => by rw [upd_ne hb]; exact e) (by rw [upd_same]; exact fun z => by cases z) (r ha) (.i .non) (by simpa using List.nodup_cons.mpr ⟨ha, nd1⟩) fun x hx => ?_
  rw [List.append_nil] at hx
  rcases List.mem_cons.mp hx with rfl | hx
  · exact ⟨fun p q e => (by rw [upd_same] at e; cases e; exact hf _ _ rfl), .inl List.mem_cons_self⟩
  · rcases sub x hx with z | z
    · exact ⟨upd_nfz (n0 x (List.mem_cons_of_mem _ z)) hf, .inl (List.mem_cons_of_mem _ z)⟩
    · exact ⟨upd_nfz (na x z) hf, .inr (.inl z)⟩
theorem v_set {H : Hp} {a : Addr} {S0 Sv Sk : List Addr} {k d d0 d0' res : Mp.D} {y v : V} {Q : VK} (h0 : RD H d0 (.ref a) S0) (nd : (S0 ++ Sv).Nodup) (n0 : ∀ x ∈ S0, NFz H x) (na : ∀ x ∈ Sv, NFz H x) (hk : RD H k y Sk) (hv : RD H d v Sv)
    (e : setF k d d0 = some (d0', res)) (hp : VPost H a S0 Sv d0' res Q) : rSet (.ref a) y v H fun H' => Q .non H' := by
  unfold setF at e
  cases h0 with
  | @lst _ vs ds T h1 h2 =>
    dsimp only at e
    split at e
    · rename_i i
      cases ej : ixN ds.length i with
      | none => rw [ej] at e; cases e
      | some j =>
        rw [ej] at e
        cases e
        obtain ⟨rfl, _⟩ := hk.int_inv
        have hH := Rd.plain h1 (n0 a List.mem_cons_self)
        have nd2 : (T ++ Sv).Nodup := (List.nodup_cons.mp nd).2
        obtain ⟨S1, r1, n1, s1⟩ := RDs.set hv j h2 nd2
        refine .inl ⟨a, vs, i, j, rfl, rfl, hH, by rw [← h2.length]; exact ej, ?_⟩
        exact obj_post hp hH (fun _ z => by cases z) (fun _ _ z => by cases z) nd n0 na (fun ha => .lst (.inl upd_same) (r1.mono (upd_tupK hH fun _ z => by cases z) (upd_on ha))) n1 s1
    · cases e
  | @dk _ kvs kds T h1 h2 hn =>
    dsimp only at e
    cases q : keyD k with
    | none => rw [q] at e; cases e
    | some kk =>
      rw [q] at e
      dsimp only at e
      split at e
      · rename_i hl
        cases e
        obtain ⟨rfl, _⟩ := keyD_inv hk q
        have hH := Rd.plain h1 (n0 a List.mem_cons_self)
        have nd2 : (T ++ Sv).Nodup := (List.nodup_cons.mp nd).2
        obtain ⟨S1, r1, n1, s1⟩ := RDk.put (k := kk) hv h2 hn nd2
        refine .inr ⟨a, _, rfl, .inl ⟨kvs, kk, hH, rfl, by rw [← h2.length]; exact hl, rfl⟩, ?_⟩
        exact obj_post hp hH (fun _ z => by cases z) (fun _ _ z => by cases z) nd n0 na (fun ha => .dk (.inl upd_same) (r1.mono (upd_tupK hH fun _ z => by cases z) (upd_on ha)) (putK_keys hn).1) n1 s1
      · cases e
  | @dt _ kvs kds T h1 h2 hn =>
    dsimp only at e
    cases q : keyT k with
    | none => rw [q] at e; cases e
    | some kk =>
      rw [q] at e
      dsimp only at e
      split at e
      · rename_i hl
        cases e
        obtain ⟨_, b, rfl, hb⟩ := keyT_inv hk q
        have hH := Rd.plain h1 (n0 a List.mem_cons_self)
        have nd2 : (T ++ Sv).Nodup := (List.nodup_cons.mp nd).2
        obtain ⟨S1, r1, n1, s1⟩ := RDt.put (k := kk) hv h2 hn nd2
        have hlen : kds.length = kvs.length := h2.length
        refine .inr ⟨a, _, rfl, .inr ⟨kvs, kk, b, hH, rfl, hb, by rw [← hlen]; exact hl, rfl⟩, ?_⟩
        exact obj_post hp hH (fun _ z => by cases z) (fun _ _ z => by cases z) nd n0 na (fun ha => .dt (.inl upd_same) (r1.mono (upd_tupK hH fun _ z => by cases z) (upd_on ha)) (putK_keys hn).1) n1 s1
      · cases e
  | _ => cases e
end Mp

namespace Mp
open PySem PySem.Spec PyProof.Rows L2

theorem setF_ref {H : Hp} {k d x x' res : Mp.D} {v : V} {S : List Addr} (h : RD H x v S) (n : ∀ a ∈ S, NFz H a) (e : setF k d x = some (x', res)) : res = .i .non ∧ ∃ a, v = .ref a ∧ (∀ vs, ¬ TuA H a vs) ∧ a ∈ S := by
  unfold setF at e
  cases h with
  | @lst a vs ds T h1 h2 =>
    have h1 := Rd.plain h1 (n a List.mem_cons_self)
    refine ⟨?_, a, rfl, fun ws w => ?_, List.mem_cons_self⟩
    · dsimp only at e
      split at e
      · rename_i i
        cases q : ixN ds.length i with
        | none => rw [q] at e; cases e
        | some j => rw [q] at e; cases e; rfl
      · cases e
    · have w : H a = some (.tup ws) := w
      rw [h1] at w; cases w
  | @dk a kvs kds T h1 h2 h3 =>
    have h1 := Rd.plain h1 (n a List.mem_cons_self)
    refine ⟨?_, a, rfl, fun ws w => ?_, List.mem_cons_self⟩
    · dsimp only at e
      split at e
      · split at e <;> cases e; rfl
      · cases e
    · have w : H a = some (.tup ws) := w
      rw [h1] at w; cases w
  | @dt a kvs kds T h1 h2 h3 =>
    have h1 := Rd.plain h1 (n a List.mem_cons_self)
    refine ⟨?_, a, rfl, fun ws w => ?_, List.mem_cons_self⟩
    · dsimp only at e
      split at e
      · split at e <;> cases e; rfl
      · cases e
    · have w : H a = some (.tup ws) := w
      rw [h1] at w; cases w
  | _ => cases e
section
variable {C : Cc} {σ : L2.St} {H : Hp}
theorem ctx_one {ρ1 : Env} {i : Nat} {F1 : FP} {H1 : Hp} {a b : Addr} {S1 S2 Sj : List Addr} {k d d0' : Mp.D} (cn : Cn C.inf C.B C.lk ρ1 σ H1 F1) (ho : own C.inf i) (eS : F1 i = a :: (S1 ++ Sj ++ S2)) (hb : b ∈ Sj)
    (ctx : ∀ H' d1' Sj', TupK H1 H' → On (a :: (S1 ++ S2)) H1 H' → RD H' d1' (.ref b) Sj' → RD H' (put1 k d d1') (.ref a) (a :: (S1 ++ Sj' ++ S2))) :
    (∀ x ∈ Sj, x ∈ F1 i) ∧ Sj.Nodup ∧ ∀ H' S0', TupK H1 H' → (∀ c o, c ≠ b → H1 c = some o → H' c = some o) → RD H' d0' (.ref b) S0' → S0'.Nodup → (∀ x ∈ S0', x ∈ Sj ∨ x ∉ F1 i) →
      ∃ S', RD H' (put1 k d d0') (.ref a) S' ∧ S'.Nodup ∧ (∀ x ∈ S', x ∈ S0' ∨ (x ∈ F1 i ∧ x ∉ Sj)) := by
  have ndF := cn.nd i ho
  have inT : ∀ x ∈ Sj, x ∈ F1 i := fun x hx => by rw [eS]; simp [hx]
  have offT : ∀ x ∈ a :: (S1 ++ S2), x ∉ Sj := by
    rw [eS] at ndF
    obtain ⟨n1, n2⟩ := List.nodup_cons.mp ndF
    intro x hx hxT
    rcases List.mem_cons.mp hx with rfl | hx
    · exact n1 (by simp [hxT])
    · rcases List.mem_append.mp hx with z | z
      · exact (List.nodup_append.mp (List.nodup_append.mp n2).1).2.2 x z x hxT rfl
      · exact (List.nodup_append.mp n2).2.2 x (by simp [hxT]) x z rfl
  have inF : ∀ x ∈ a :: (S1 ++ S2), x ∈ F1 i := fun x hx => by
    rw [eS]
    rcases List.mem_cons.mp hx with rfl | hx
    · exact List.mem_cons_self
    · rcases List.mem_append.mp hx with z | z <;> simp [z]
  refine ⟨inT, ?_, fun H' S0' tk chg r0 nd0 far => ?_⟩
  · rw [eS] at ndF
    exact ((List.nodup_append.mp (List.nodup_append.mp (List.nodup_cons.mp ndF).2).1).2.1)
  · refine ⟨_, ctx H' d0' S0' tk (fun x hx o eo => chg x o (fun z => offT x hx (z ▸ hb)) eo) r0, ?_, fun x hx => ?_⟩
    · have key : ∀ x ∈ a :: (S1 ++ S2), x ∉ S0' := fun x hx hxS => (far x hxS).elim (offT x hx) fun z => z (inF x hx)
      rw [eS] at ndF
      obtain ⟨n1, n2⟩ := List.nodup_cons.mp ndF
      obtain ⟨n3, n4, n5⟩ := List.nodup_append.mp n2
      obtain ⟨n6, n7, n8⟩ := List.nodup_append.mp n3
      refine List.nodup_cons.mpr ⟨fun z => ?_, List.nodup_append.mpr ⟨List.nodup_append.mpr ⟨n6, nd0, fun x hx y hy e => key x (by simp [hx]) (e ▸ hy)⟩, n4, fun x hx y hy e => ?_⟩⟩
      · rcases List.mem_append.mp z with z | z
        · rcases List.mem_append.mp z with z | z
          · exact n1 (by simp [z])
          · exact key a List.mem_cons_self z
        · exact n1 (by simp [z])
      · subst e
        rcases List.mem_append.mp hx with z | z
        · exact n5 x (by simp [z]) x hy rfl
        · exact key x (by simp [hy]) z
    · rcases List.mem_cons.mp hx with rfl | hx
      · exact .inr ⟨inF _ List.mem_cons_self, offT _ List.mem_cons_self⟩
      · rcases List.mem_append.mp hx with z | z
        · rcases List.mem_append.mp z with z | z
          · exact .inr ⟨inF x (by simp [z]), offT x (by simp [z])⟩
          · exact .inl z
        · exact .inr ⟨inF x (by simp [z]), offT x (by simp [z])⟩
theorem subM_inv {inf : Inf} {i : Nat} {ks : List Mp.D} {k d : Mp.D} {ρ : Env} : subM inf i (ks ++ [k]) d ρ = .no ∨ ∃ x x' r, getE ρ i = some x ∧ mutAt (setF k d) ks x = some (x', r) ∧ subM inf i (ks ++ [k]) d ρ = .ok () (setE inf i x' ρ) := by
  have e1 : (ks ++ [k]).getLast? = some k := by simp
  have e2 : (ks ++ [k]).dropLast = ks := by simp
  cases h : getE ρ i with
  | none => left; unfold subM; rw [e1, h]
  | some x =>
    cases h2 : mutAt (setF k d) ks x with
    | none => left; unfold subM; rw [e1, h, e2]; dsimp only; rw [h2]
    | some y => exact .inr ⟨x, y.1, y.2, rfl, h2, by unfold subM; rw [e1, h, e2]; dsimp only; rw [h2]⟩
theorem sub_fin0 {T : List Nat} {ρ1 : Env} {i : Nat} {F F1 : FP} {H1 : Hp} {k d : Mp.D} {y v vx : V} {Sv Sk : List Addr} {Q : Hp → Prop} (cn : Cn C.inf C.B C.lk ρ1 σ H1 F1) (fr : Fr C.inf T F H F1 H1) (ho : own C.inf i) (hl : i ∉ C.lk)
    (hv : σ[i]? = some (some vx)) (rk : RD H1 k y Sk) (rv : RD H1 d v Sv) (kv : KOk C.inf C.B .fr F1 H1 Sv) (nv : New C.inf T F H Sv)
    (h : match subM C.inf i [k] d ρ1 with
      | .ok _ ρ' => ∀ H' F', Cn C.inf C.B C.lk ρ' σ H' F' → Fr C.inf (T ++ [i]) F H F' H' → Q H'
      | _ => False) : rSet vx y v H1 Q := by
  rcases subM_inv (inf := C.inf) (i := i) (ks := []) (k := k) (d := d) (ρ := ρ1) with z | ⟨x, x', r, g1, g2, g3⟩
  · have z : subM C.inf i [k] d ρ1 = .no := z
    rw [z] at h; exact h.elim
  · have g3 : subM C.inf i [k] d ρ1 = .ok () (setE C.inf i x' ρ1) := g3
    rw [g3] at h
    have g2 : setF k d x = some (x', r) := g2
    obtain ⟨vx', hv', rx⟩ := cn.rep i x g1
    rw [hv] at hv'
    cases hv'
    obtain ⟨rfl, a, rfl, nt, ha⟩ := setF_ref rx (cn.ex i ho hl) g2
    refine v_set (Q := fun _ H' => Q H') rx (List.nodup_append.mpr ⟨cn.nd i ho, kv.1, fun x hx y hy e => kv.2.1 y hy i (e ▸ hx)⟩) (cn.ex i ho hl) (fun x hx => (kv.2.2 x hx).1) rk rv g2 ?_
    refine mut_core cn fr ho hl g1 hv (fun _ h => h) ha nt kv nv rv.there (fun H' S0' _ _ r0 nd _ => ⟨S0', r0, nd, fun x hx => .inl hx⟩) ?_
    exact fun w H' F' S cn' fr' _ _ _ => h H' F' cn' fr'
theorem sub_fin1 {T : List Nat} {ρ1 : Env} {i : Nat} {F F1 : FP} {H1 : Hp} {k1 k d : Mp.D} {y1 y v vx w : V} {Sv Sk U : List Addr} {Q : Hp → Prop} (cn : Cn C.inf C.B C.lk ρ1 σ H1 F1) (fr : Fr C.inf T F H F1 H1) (ho : own C.inf i) (hl : i ∉ C.lk)
    (hv : σ[i]? = some (some vx)) (rk1 : RD H1 k1 y1 U) (hat : At1 H1 vx y1 w) (rk : RD H1 k y Sk) (rv : RD H1 d v Sv) (kv : KOk C.inf C.B .fr F1 H1 Sv) (nv : New C.inf T F H Sv)
    (h : match subM C.inf i [k1, k] d ρ1 with
      | .ok _ ρ' => ∀ H' F', Cn C.inf C.B C.lk ρ' σ H' F' → Fr C.inf (T ++ [i]) F H F' H' → Q H'
      | _ => False) : rSet w y v H1 Q := by
  rcases subM_inv (inf := C.inf) (i := i) (ks := [k1]) (k := k) (d := d) (ρ := ρ1) with z | ⟨x, x', r, g1, g2, g3⟩
  · have z : subM C.inf i [k1, k] d ρ1 = .no := z
    rw [z] at h; exact h.elim
  · have g3 : subM C.inf i [k1, k] d ρ1 = .ok () (setE C.inf i x' ρ1) := g3
    rw [g3] at h
    unfold mutAt at g2
    cases q5 : at1 k1 x with
    | none => rw [q5] at g2; cases g2
    | some x1 =>
      rw [q5] at g2
      dsimp only [mutAt] at g2
      cases q6 : setF k d x1 with
      | none => rw [q6] at g2; cases g2
      | some z =>
        obtain ⟨x1', res⟩ := z
        rw [q6] at g2
        cases g2
        obtain ⟨vx', hv', rx⟩ := cn.rep i x g1
        rw [hv] at hv'
        cases hv'
        obtain ⟨w', a, rfl, hat', T1, T2, Tj, rw1, eT, ctx⟩ := at1_ctx rx rk1 q5
        have ew := hat.fun hat'
        subst ew
        obtain ⟨hres, b, rfl, nt, hb⟩ := setF_ref rw1 (fun x hx => cn.ex i ho hl x (by rw [eT]; simp [hx])) q6
        obtain ⟨inT, ndT, hc⟩ := ctx_one (d0' := x1') cn ho eT hb ctx
        rw [hres] at q6
        refine v_set (Q := fun _ H' => Q H') rw1 (List.nodup_append.mpr ⟨ndT, kv.1, fun x hx y hy e => kv.2.1 y hy i (e ▸ inT x hx)⟩) (fun x hx => cn.ex i ho hl x (inT x hx)) (fun x hx => (kv.2.2 x hx).1) rk rv q6 ?_
        refine mut_core cn fr ho hl g1 hv inT hb nt kv nv rv.there hc ?_
        exact fun w H' F' S cn' fr' _ _ _ => h H' F' cn' fr'
end
end Mp

namespace Mp
open PySem PySem.Spec PyProof.Rows L2

def rAug (o : Op) : TIp := fun x y H Q => (o = .add ∧ ∃ i j : Int, x = .int i ∧ y = .int j ∧ Q (.int (i + j)) H) ∨ (o = .add ∧ ∃ i j, x = .str i ∧ y = .str j ∧ i.length + j.length ≤ sizeLine ∧ Q (.str (i ++ j)) H) ∨ (o = .sub ∧ ∃ i j : Int, x = .int i ∧ y = .int j ∧ Q (.int (i - j)) H)
theorem ip_aug {X : Cx} {o : Op} {op : Operator} (h : augOp o = some op) : PIp X op (rAug o) := by
  intro pins s σ H x y v u Q I r1 r2 h0
  rcases h0 with ⟨rfl, h0⟩ | ⟨rfl, h0⟩ | ⟨rfl, h0⟩
  · cases h; exact ip_add pins s σ H x y v u Q I r1 r2 h0
  · cases h; exact iop_add_str pins s σ H x y v u Q I r1 r2 h0
  · cases h; exact ip_sub pins s σ H x y v u Q I r1 r2 h0
theorem augF_of {o : Op} {x : I} {d z : Mp.D} {H : Hp} {v y : V} {S : List Addr} {Q : VK} (e : augF o (.i x) d = some z) (rx : RI H x v) (rd : RD H d y S) (q : ∀ w, RD H z w [] → Q w H) : rAug o v y H Q := by
  unfold augF at e
  split at e
  · rename_i heq
    cases heq
    cases e
    cases rx
    obtain ⟨rfl, _⟩ := rd.int_inv
    exact .inl ⟨rfl, _, _, rfl, rfl, q _ (.i (.int _))⟩
  · rename_i heq
    cases heq
    split at e
    · rename_i hz
      cases e
      cases rx
      obtain ⟨rfl, _⟩ := rd.str_inv
      exact .inr (.inl ⟨rfl, _, _, rfl, rfl, hz.1, q _ (.i (.str _ hz.2))⟩)
    · cases e
  · rename_i heq
    cases heq
    cases e
    cases rx
    obtain ⟨rfl, _⟩ := rd.int_inv
    exact .inr (.inr ⟨rfl, _, _, rfl, rfl, q _ (.i (.int _))⟩)
  · cases e
section
variable {X : Cx} {pos : Pos}
theorem bk_fun {X : Cx} (h : X.env.scope.kind = .function) : X.env.blockKind = .function := by
  unfold Env.blockKind
  rw [h]; rfl
theorem swp2 {x y : Str} {px py pt pt2 : Pos} {kt k2 : Nat} {a b : Expr} (hk : X.env.scope.kind = .function) (hx : X.env.scope.names.lookup x = some .local) (hy : X.env.scope.names.lookup y = some .local) (hne : x ≠ y) (hl : (px.line == py.line) = true)
    (na : nst a = true) (nb : nst b = true) (h1 : [a, b].all (foldedForSure 8) = false) (h2 : [a, b].all (constantsAlone 8) = false) :
    swappedStores [.Tuple [.Name x px, .Name y py] kt pt] (.Tuple [a, b] k2 pt2) X.env = pure (some [x, y]) := by
  unfold swappedStores
  have e1 : X.env.kindOf x = some .local := hx
  have e2 : X.env.kindOf y = some .local := hy
  have l1 : (px.line == (Expr.Name x px).pos.line) = true := beq_self_eq_true px.line
  have l2 : (py.line == (Expr.Name x px).pos.line) = true := by
    have : px.line = py.line := by simpa using hl
    show (py.line == px.line) = true
    rw [this]; exact beq_self_eq_true _
  have k0 : (some NameKind.local == some NameKind.local) = true := by decide
  simp only [List.length_cons, List.length_nil, bk_fun hk, List.any_cons, List.any_nil, List.head?_cons, Option.map_some, Option.getD_some, List.filterMap_cons, List.filterMap_nil, e1, e2, l1, l2, k0, Bool.and_self, if_true]
  refine Eq.trans (if_neg (by decide)) (Eq.trans (if_neg ?_) ?_)
  · intro h
    simp only [Bool.or_eq_true] at h
    rcases h with h | h | h
    · cases a <;> first | exact absurd h Bool.false_ne_true | exact absurd na Bool.false_ne_true
    · cases b <;> first | exact absurd h Bool.false_ne_true | exact absurd nb Bool.false_ne_true
    · exact absurd h Bool.false_ne_true
  · have e5 : ([x, y] : List Str).eraseDups = [x, y] := by
      have : (y == x) = false := by simpa using (Ne.symm hne)
      simp [List.eraseDups_cons, this]
    rw [e5, h1, h2]
    rfl
theorem swp3 {x y z : Str} {px py pz pt pt2 : Pos} {kt k2 : Nat} {a b c : Expr} (hk : X.env.scope.kind = .function) (hx : X.env.scope.names.lookup x = some .local) (hy : X.env.scope.names.lookup y = some .local) (hz : X.env.scope.names.lookup z = some .local)
    (n1 : x ≠ y) (n2 : x ≠ z) (n3 : y ≠ z) (hl : (px.line == py.line) = true) (hl' : (px.line == pz.line) = true)
    (na : nst a = true) (nb : nst b = true) (nc : nst c = true) (h1 : [a, b, c].all (foldedForSure 8) = false) (h2 : [a, b, c].all (constantsAlone 8) = false) :
    swappedStores [.Tuple [.Name x px, .Name y py, .Name z pz] kt pt] (.Tuple [a, b, c] k2 pt2) X.env = pure (some [x, y, z]) := by
  unfold swappedStores
  have e1 : X.env.kindOf x = some .local := hx
  have e2 : X.env.kindOf y = some .local := hy
  have e3 : X.env.kindOf z = some .local := hz
  have l1 : (px.line == (Expr.Name x px).pos.line) = true := beq_self_eq_true px.line
  have l2 : (py.line == (Expr.Name x px).pos.line) = true := by
    have : px.line = py.line := by simpa using hl
    show (py.line == px.line) = true
    rw [this]; exact beq_self_eq_true _
  have l3 : (pz.line == (Expr.Name x px).pos.line) = true := by
    have : px.line = pz.line := by simpa using hl'
    show (pz.line == px.line) = true
    rw [this]; exact beq_self_eq_true _
  have k0 : (some NameKind.local == some NameKind.local) = true := by decide
  simp only [List.length_cons, List.length_nil, bk_fun hk, List.any_cons, List.any_nil, List.head?_cons, Option.map_some, Option.getD_some, List.filterMap_cons, List.filterMap_nil, e1, e2, e3, l1, l2, l3, k0, Bool.and_self, if_true]
  refine Eq.trans (if_neg (by decide)) (Eq.trans (if_neg ?_) ?_)
  · intro h
    simp only [Bool.or_eq_true] at h
    rcases h with h | h | h | h
    · cases a <;> first | exact absurd h Bool.false_ne_true | exact absurd na Bool.false_ne_true
    · cases b <;> first | exact absurd h Bool.false_ne_true | exact absurd nb Bool.false_ne_true
    · cases c <;> first | exact absurd h Bool.false_ne_true | exact absurd nc Bool.false_ne_true
    · exact absurd h Bool.false_ne_true
  · have e5 : ([x, y, z] : List Str).eraseDups = [x, y, z] := by
      have q1 : (y == x) = false := by simpa using (Ne.symm n1)
      have q2 : (z == x) = false := by simpa using (Ne.symm n2)
      have q3 : (z == y) = false := by simpa using (Ne.symm n3)
      simp [List.eraseDups_cons, q1, q2, q3]
    rw [e5, h1, h2]
    rfl
def setAll : L2.St → List Nat → List V → L2.St
  | σ, i :: is, v :: vs => setAll (σ.set i (some v)) is vs
  | σ, _, _ => σ
theorem names_order {pins : List (Addr × Obj)} {H : Hp} {E : Value → Shared → Prop} {Q : Shared → Prop} (hN : X.N.Nodup) : ∀ {xs : List Str} {is : List Nat} {vs : List V} {us : List Value} {σ : L2.St} {s : Shared}, is.map (fun i => X.N[i]?) = xs.map some →
    (∀ x ∈ xs, X.env.scope.names.lookup x = some .local) → vs.length = is.length → Vals vs us → Inv X pins σ H s → (∀ s', Inv X pins (setAll σ is vs) H s' → Q s') →
    wpAny (model X.prog X.w) X.A (assignInOrder (xs.map fun n v => bindName X.env n v) us) (fun _ => Q) E s
  | [], [], [], _, σ, s, _, _, _, .nil, I, h => assignInOrder_nil (h s I)
  | x :: xs, i :: is, v :: vs, _, σ, s, e, hl, hn, .cons r rr, I, h => by
    simp only [List.map_cons, List.cons.injEq] at e
    refine assignInOrder_cons (wpAny_bindName (store_ok I hN e.1 (.inl (hl x List.mem_cons_self)) r (fun s2 I2 => ?_) (.inr (hl x List.mem_cons_self))))
    exact names_order hN e.2 (fun y hy => hl y (List.mem_cons_of_mem _ hy)) (by simpa using hn) rr I2 h
  | [], _ :: _, _, _, _, _, e, _, _, _, _, _ => by simp at e
  | _ :: _, [], _, _, _, _, e, _, _, _, _, _ => by simp at e
  | _ :: _, _ :: _, [], _, _, _, _, _, hn, _, _, _ => by simp at hn
  | [], [], _ :: _, _, _, _, _, _, hn, _, _, _ => by simp at hn
def tParN (is : List Nat) (ta : TA) : TS := fun D σ H => ta σ H fun vs H1 => vs.length = is.length ∧ D.nx (setAll σ is.reverse vs.reverse) H1
theorem Vals.rev {vs : List V} {us : List Value} (h : Vals vs us) : Vals vs.reverse us.reverse := L2.Vals.reverse h
theorem ps_parN {ts es : List Expr} {xs : List Str} {is : List Nat} {ta : TA} {pt pt2 : Pos} {kt k2 : Nat} (hc : X.calm = true) (hN : X.N.Nodup) (hi : is.map (fun i => X.N[i]?) = xs.map some) (hl : ∀ x ∈ xs, X.env.scope.names.lookup x = some .local)
    (ha : PA X es ta) (hz : xs.length ≤ sizeLine) (hw : swappedStores [.Tuple ts kt pt] (.Tuple es k2 pt2) X.env = pure (some xs)) : PS X (.Assign [.Tuple ts kt pt] (.Tuple es k2 pt2) pos) (tParN is ta) := by
  refine ⟨fun pins s σ H D I h => ?_⟩
  have il : is.length = xs.length := by simpa using congrArg List.length hi
  rw [exec_Assign_arm]
  refine wpAny_bind (wpAny_standAt ?_)
  have hs : swapsWithSole [.Tuple ts kt pt] (.Tuple es k2 pt2) pos.line X.env = pure false := rfl
  rw [hs]
  refine wpAny_bind (wpAny_pure ?_)
  rw [if_neg (by decide)]
  refine wpAny_bind (Tuple_ (thn (ha.run _ pins s σ H _ I h) fun us s1 ⟨vs, H1, I1, r1, hn, q1⟩ => ?_))
  have lu : us.length = xs.length := by rw [← r1.length, hn, il]
  refine wpAny_newObj_type ?_ (by show us.toArray.size ≤ sizeLine; rw [List.size_toArray, lu]; exact hz)
  have I2 : Inv X pins σ H1 { s1 with heap := s1.heap.push { cls := .type "tuple", data := .seq us.toArray } } := I1.kept (t' := s1.toks) fun b o e => Heap.get?_push_of_some _ e
  rw [hw]
  refine wpAny_bind (wpAny_pure ?_)
  show wpAny (model X.prog X.w) X.A (do rule "assign.swapped-stores"; let items ← unpackItems (.ref s1.heap.objs.size) xs.length none; assignInOrder (xs.reverse.map fun n => bindName X.env n) items.reverse; pure Flow.next) _ _ _
  refine wpAny_bind (wpAny_rule (wpAny_bind ?_))
  rw [← lu]
  refine unpackItems_tuple (items := us.toArray) (I.ok.hd hc) (IsTup.new s1.heap _) fun h' hx' => ?_
  have I3 := I2.kept (h' := h') (t' := s1.toks) fun b o e => hx' b o (Nat.ne_of_lt (Heap.lt_size e)) e
  refine wpAny_bind ?_
  have hi' : is.reverse.map (fun i => X.N[i]?) = xs.reverse.map some := by rw [List.map_reverse, hi, List.map_reverse]
  refine names_order hN hi' (fun x hx => hl x (by simpa using hx)) (by simp [hn]) (Vals.rev r1) I3 fun s' I4 => ?_
  exact wpAny_pure ⟨_, H1, I4, q1⟩
end
theorem setAll_app : ∀ {is : List Nat} {vs : List V} {σ : L2.St} {i : Nat} {v : V}, vs.length = is.length → setAll σ (is ++ [i]) (vs ++ [v]) = (setAll σ is vs).set i (some v)
  | [], [], σ, i, v, _ => rfl
  | j :: is, w :: vs, σ, i, v, h => setAll_app (is := is) (vs := vs) (by simpa using h)
  | [], _ :: _, _, _, _, h => by simp at h
  | _ :: _, [], _, _, _, h => by simp at h
theorem setPar_ok {inf : Inf} {B : Addr → Prop} {lk : List Nat} {H H0 : Hp} {F0 : FP} {T : List Nat} {σ : L2.St} : ∀ {is : List Nat} {ds : List Mp.D} {vs : List V} {S : List Addr} {ρ ρ' : Env} {F : FP}, Cn inf B lk ρ σ H F → Fr inf T F0 H0 F H → RDs H ds vs S → KOk inf B .fr F H S → New inf T F0 H0 S →
    setPar inf is ds ρ = .ok () ρ' → ∃ F', Cn inf B lk ρ' (setAll σ is.reverse vs.reverse) H F' ∧ Fr inf (T ++ is) F0 H0 F' H ∧ vs.length = is.length ∧ Ag is σ (setAll σ is.reverse vs.reverse) ∧ ∀ S2, (∀ a ∈ S2, a ∉ S) → KOk inf B .fr F H S2 → KOk inf B .fr F' H S2
  | [], [], _, _, ρ, ρ', F, cn, fr, .nil, ko, nw, e => by
    cases e
    exact ⟨F, cn, fr.mono fun j hj => List.mem_append_left _ hj, rfl, Ag.refl, fun _ _ h => h⟩
  | i :: is, d :: ds, _, _, ρ, ρ', F, cn, fr, .cons (v := v) (vs := vs) (S := S1) (T := S2) h1 h2, ko, nw, e => by
    simp only [setPar] at e
    cases e1 : setPar inf is ds ρ with
    | no => rw [bnd_no e1] at e; cases e
    | ex c fs ρ' => rw [bnd_ex e1] at e; cases e
    | ok u ρ1 =>
      rw [bnd_ok e1] at e
      obtain ⟨n1, n2, n3⟩ := List.nodup_append.mp ko.1
      obtain ⟨F1, cn1, fr1, hl, ag, hold⟩ := setPar_ok cn fr h2 (ko.sub (List.sublist_append_right _ _)) (fun a ha => nw a (List.mem_append_right _ ha)) e1
      have ko1 := hold S1 (fun a ha hb => n3 a ha a hb rfl) (ko.sub (List.sublist_append_left _ _))
      obtain ⟨a1, a2, a3, _⟩ := setN_ok (T := T ++ is) cn1 fr1 h1 ko1 (fun a ha => (nw a (List.mem_append_left _ ha)).imp id fun ⟨j, q1, q2⟩ => ⟨j, List.mem_append_left _ q1, q2⟩) e
      have es : setAll σ (i :: is).reverse (v :: vs).reverse = (setAll σ is.reverse vs.reverse).set i (some v) := by
        rw [List.reverse_cons, List.reverse_cons]
        exact setAll_app (by simp [hl])
      refine ⟨_, by rw [es]; exact a1, a2.mono fun j hj => ?_, by simp [hl], ?_, fun S3 hd k3 => a3 S3 (fun _ a ha hb => hd a ha (List.mem_append_left _ hb)) (hold S3 (fun a ha hb => hd a ha (List.mem_append_right _ hb)) k3)⟩
      · simp only [List.mem_append, List.mem_cons, List.not_mem_nil, or_false] at hj ⊢
        rcases hj with (h | h) | h
        · exact .inl h
        · exact .inr (.inr h)
        · exact .inr (.inl h)
      · rw [es]
        intro k hk
        simp only [List.mem_cons, not_or] at hk
        rw [List.getElem?_set_ne (Ne.symm hk.1)]
        exact ag k hk.2
  | [], _ :: _, _, _, _, _, _, _, _, _, _, _, e => by cases e
  | _ :: _, [], _, _, _, _, _, _, _, _, _, _, e => by cases e
theorem setPar_noex {inf : Inf} : ∀ {is : List Nat} {ds : List Mp.D} {ρ : Env} {c fs ρ'}, setPar inf is ds ρ ≠ .ex c fs ρ'
  | [], [], ρ, c, fs, ρ', e => by cases e
  | i :: is, d :: ds, ρ, c, fs, ρ', e => by
    simp only [setPar] at e
    cases e1 : setPar inf is ds ρ with
    | no => rw [bnd_no e1] at e; cases e
    | ex c fs ρ' => exact setPar_noex e1
    | ok u ρ1 =>
      rw [bnd_ok e1] at e
      unfold setN at e
      split at e <;> cases e
  | [], _ :: _, _, _, _, _, e => by cases e
  | _ :: _, [], _, _, _, _, e => by cases e
theorem parA_inv {ck : Ck} {s : Stmt} {xs : List Str} {es : List Expr} (h : parA ck s = some (xs, es)) : ∃ ts kt pt k2 pt2 pos, s = .Assign [.Tuple ts kt pt] (.Tuple es k2 pt2) pos ∧ (∀ x ∈ xs, ck.sc.names.lookup x = some .local) ∧ xs.length ≤ 3 ∧
    ∀ X : Cx, X.env.scope = ck.sc → X.env.scope.kind = .function → swappedStores [.Tuple ts kt pt] (.Tuple es k2 pt2) X.env = pure (some xs) := by
  unfold parA at h
  split at h
  · split at h
    · rename_i hb
      simp only [Bool.and_eq_true, decide_eq_true_eq, Bool.not_eq_true'] at hb
      obtain ⟨⟨⟨⟨⟨⟨⟨h1, h2⟩, h3⟩, h4⟩, h5⟩, h6⟩, h7⟩, h8⟩ := hb
      cases h
      refine ⟨_, _, _, _, _, _, rfl, fun x hx => ?_, by simp, fun X hs hk => swp2 hk (by rw [hs]; exact h1) (by rw [hs]; exact h2) h3 h4 h5 h6 h7 h8⟩
      simp only [List.mem_cons, List.not_mem_nil, or_false] at hx
      rcases hx with rfl | rfl
      · exact h1
      · exact h2
    · cases h
  · split at h
    · rename_i hb
      simp only [Bool.and_eq_true, decide_eq_true_eq, Bool.not_eq_true'] at hb
      obtain ⟨⟨⟨⟨⟨⟨⟨⟨⟨⟨⟨⟨h1, h2⟩, h3⟩, h4⟩, h5⟩, h6⟩, h7⟩, h8⟩, h9⟩, g1⟩, g2⟩, g3⟩, g4⟩ := hb
      cases h
      refine ⟨_, _, _, _, _, _, rfl, fun x hx => ?_, by simp, fun X hs hk => swp3 hk (by rw [hs]; exact h1) (by rw [hs]; exact h2) (by rw [hs]; exact h3) h4 h5 h6 h7 h8 h9 g1 g2 g3 g4⟩
      simp only [List.mem_cons, List.not_mem_nil, or_false] at hx
      rcases hx with rfl | rfl | rfl
      · exact h1
      · exact h2
      · exact h3
    · cases h
  · cases h
end Mp

namespace Mp
open PySem PySem.Spec PyProof.Rows L2

theorem get_at1 {X : Cx} (hu : X.A.units + 1 < cLine) : PGet X fun x y H Q => ∃ v, At1 H x y v ∧ Q v H := by
  intro pins s σ H x y v u Q J rx ry h
  obtain ⟨w, ⟨a, rfl, h⟩, q⟩ := h
  rcases h with ⟨vs, i, e1, rfl, e3⟩ | ⟨kvs, k, e1, rfl, e3⟩
  · cases rx
    obtain ⟨t, rfl⟩ := ry
    obtain ⟨its, r, pl, hz⟩ := J.list (.inl e1)
    obtain ⟨j, h1, h2, h3, h4, h5⟩ := atI_get e3
    obtain ⟨z, ez, rz⟩ := r.get h2
    have hl := r.length
    have hn := line63
    have fin : EP X pins σ Q z s := ⟨w, H, J, rz, q⟩
    by_cases h0 : 0 ≤ i
    · have hj : i.toNat = j := by
        rw [seqIndex_of h0 h5] at h1
        exact Option.some.inj h1
      exact wpAny_getItem_list pl.isList h0 (by omega) (by rw [hj]; simpa using ez) fin
    · have hj : (i + (its.toArray.size : Int)).toNat = j := by
        rw [seqIndex_neg (by omega) h4] at h1
        rw [List.size_toArray, ← hl]
        exact Option.some.inj h1
      exact wpAny_getItem_list_neg pl.isList (by omega) (by rw [List.size_toArray] <;> omega) (by omega) (by rw [hj]; simpa using ez) fin
  · have g : DGet H a (kV k) (some w) := .inl ⟨kvs, k, e1, rfl, e3.symm⟩
    cases rx
    exact d_getItem (by omega) J g ry fun w' s3 I3 rw' => ⟨w, H, I3, rw', q⟩
end Mp

namespace Mp
open PySem PySem.Spec PyProof.Rows L2

def PostN (C : Cc) (T A : List Nat) (ρ' : Env) (σ : L2.St) (F : FP) (H : Hp) (nx : L2.St → Hp → Prop) : Prop :=
  ∀ σ' H' F', Ag A σ σ' → Cn C.inf C.B C.lk ρ' σ' H' F' → Fr C.inf T F H F' H' → nx σ' H'
def PostR (C : Cc) (T A : List Nat) (ρ' : Env) (σ : L2.St) (F : FP) (H : Hp) (d : D) (Q : VK) : Prop :=
  ∀ v σ' H' F' S, Ag A σ σ' → Cn C.inf C.B C.lk ρ' σ' H' F' → Fr C.inf T F H F' H' → RD H' d v S → KOk C.inf C.B .fr F' H' S → New C.inf T F H S → Q v H'
def PostX (C : Cc) (T A : List Nat) (ρ' : Env) (σ : L2.St) (F : FP) (H : Hp) (c : Nat) (fs : List (Str × I)) : Prop :=
  ∀ cls d σ' H' F', Ag A σ σ' → Cn C.inf C.B C.lk ρ' σ' H' F' → Fr C.inf T F H F' H' → XAt C c fs cls d H' → C.W cls d σ' H'
def ResS (C : Cc) (T A : List Nat) (σ : L2.St) (D : Ends) (r : Fl) (F : FP) (H : Hp) : Prop := match r with
  | .next ρ' => PostN C T A ρ' σ F H D.nx
  | .brk ρ' => PostN C T A ρ' σ F H D.bk
  | .cont ρ' => PostN C T A ρ' σ F H D.ct
  | .ret d ρ' => PostR C T A ρ' σ F H d D.rt
  | .ex c fs ρ' => PostX C T A ρ' σ F H c fs
  | .no => False
def tS (C : Cc) (T A : List Nat) (m : Env → Fl) : TS := fun D σ H => ∃ ρ F, Cn C.inf C.B C.lk ρ σ H F ∧ ResS C T A σ D (m ρ) F H
theorem ResS.after {C : Cc} {T U A B σ D r F H σ1 F1 H1} (h : ResS C (T ++ U) (A ++ B) σ D r F H) (ag : Ag A σ σ1) (f : Fr C.inf T F H F1 H1) : ResS C U B σ1 D r F1 H1 := by
  cases r with
  | next ρ => exact fun σ' H' F' ag' cn fr => h σ' H' F' (ag.trans ag') cn (f.trans fr)
  | brk ρ => exact fun σ' H' F' ag' cn fr => h σ' H' F' (ag.trans ag') cn (f.trans fr)
  | cont ρ => exact fun σ' H' F' ag' cn fr => h σ' H' F' (ag.trans ag') cn (f.trans fr)
  | ret d ρ => exact fun v σ' H' F' S ag' cn fr rd ko n => h v σ' H' F' S (ag.trans ag') cn (f.trans fr) rd ko (New.over f n)
  | ex c fs ρ => exact fun cls d σ' H' F' ag' cn fr x => h cls d σ' H' F' (ag.trans ag') cn (f.trans fr) x
  | no => exact h
theorem ResS.widen {C : Cc} {T U A B σ D r F H} (h : ResS C U B σ D r F H) (m : ∀ j ∈ T, j ∈ U) (m' : ∀ j ∈ A, j ∈ B) : ResS C T A σ D r F H := by
  cases r with
  | next ρ => exact fun σ' H' F' ag cn fr => h σ' H' F' (ag.mono m') cn (fr.mono m)
  | brk ρ => exact fun σ' H' F' ag cn fr => h σ' H' F' (ag.mono m') cn (fr.mono m)
  | cont ρ => exact fun σ' H' F' ag cn fr => h σ' H' F' (ag.mono m') cn (fr.mono m)
  | ret d ρ => exact fun v σ' H' F' S ag cn fr rd ko n => h v σ' H' F' S (ag.mono m') cn (fr.mono m) rd ko (New.mono n m)
  | ex c fs ρ => exact fun cls d σ' H' F' ag cn fr x => h cls d σ' H' F' (ag.mono m') cn (fr.mono m) x
  | no => exact h
theorem ResS.exp {C : Cc} {T A σ D c fs ρ F H} (h : ResS C T A σ D (.ex c fs ρ) F H) : ExP C T ρ σ F H c fs := fun cls d H' F' cn fr x => h cls d σ H' F' Ag.refl cn fr x
theorem ResS.again {C : Cc} {T A σ D r F H σ1 F1 H1} (h : ResS C T A σ D r F H) (ag : Ag A σ σ1) (f : Fr C.inf T F H F1 H1) : ResS C T A σ1 D r F1 H1 :=
  ResS.after (T := T) (A := A) (h.widen (fun j hj => (List.mem_append.mp hj).elim id id) fun j hj => (List.mem_append.mp hj).elim id id) ag f

section
variable {ck : Ck} {X : Cx} {C : Cc} {G : GS} {n : Nat} {D : Ends} {σ : L2.St} {H : Hp}
theorem runM_read {k : Kd} {T A : List Nat} {m : M Mp.D} {f : Mp.D → Env → Fl} {Z : VK} (h : tS C T A (runM m f) D σ H)
    (hz : ∀ F H v H1 F1 S d ρ1, ResS C T A σ D (f d ρ1) F H → Cn C.inf C.B C.lk ρ1 σ H1 F1 → ∀ U, (∀ j ∈ U, j ∈ T) → Fr C.inf U F H F1 H1 → RD H1 d v S → KOk C.inf C.B k F1 H1 S → NewK C.inf U F H S k → Z v H1) {U : List Nat} (hU : ∀ j ∈ U, j ∈ T) : tE C k U m σ H Z := by
  obtain ⟨ρ, F, cn, h⟩ := h
  refine ⟨ρ, F, cn, ?_⟩
  unfold runM at h
  cases e : m ρ with
  | no => rw [e] at h; exact h
  | ex c fs ρ' => rw [e] at h; exact h.exp.widen hU
  | ok d ρ1 =>
    rw [e] at h
    exact fun v H1 F1 S cn1 f1 rd ko nw => hz F H v H1 F1 S d ρ1 h cn1 U hU f1 rd ko nw
theorem runM_bnd {α β : Type} {m : M α} {g : α → M β} {f : β → Env → Fl} : runM (bnd m g) f = runM m fun a => runM (g a) f := by
  funext ρ
  unfold runM bnd
  cases m ρ <;> rfl
theorem runM_lift {α : Type} {o : Option α} {f : α → Env → Fl} {ρ : Env} : runM (lift o) f ρ = match o with
    | some a => f a ρ
    | none => .no := by
  unfold runM lift
  cases o <;> rfl
mutual
theorem setT_noex {inf : Inf} {k : Kd} : ∀ (t : Tg) (d : Mp.D) (ρ : Env) (c : Nat) (fs : List (Str × I)) (ρ' : Env), setT inf k t d ρ ≠ .ex c fs ρ'
  | .n i, d, ρ, c, fs, ρ', e => by
    simp only [setT, setN] at e
    split at e <;> cases e
  | .t ts, d, ρ, c, fs, ρ', e => by
    simp only [setT] at e
    cases q : kidsT d with
    | none => rw [q] at e; cases e
    | some ds => rw [q] at e; exact setTs_noex ts ds ρ c fs ρ' e
theorem setTs_noex {inf : Inf} {k : Kd} : ∀ (t : Tgs) (d : List Mp.D) (ρ : Env) (c : Nat) (fs : List (Str × I)) (ρ' : Env), setTs inf k t d ρ ≠ .ex c fs ρ'
  | .nil, [], ρ, c, fs, ρ', e => by simp only [setTs, ret] at e; cases e
  | .nil, _ :: _, ρ, c, fs, ρ', e => by simp only [setTs] at e; cases e
  | .cons _ _, [], ρ, c, fs, ρ', e => by simp only [setTs] at e; cases e
  | .cons t ts, d :: ds, ρ, c, fs, ρ', e => by
    simp only [setTs] at e
    cases q : setT inf k t d ρ with
    | no => rw [bnd_no q] at e; cases e
    | ex c fs ρ' => exact setT_noex t d ρ _ _ _ q
    | ok u ρ1 => rw [bnd_ok q] at e; exact setTs_noex ts ds ρ1 _ _ _ e
end
theorem asg_read {t : Tg} {p : P} (h : tS C (tc ck.Z p ++ tgs t) (tgs t) (exS ck.Z G n (.asg t p)) D σ H) (hi : C.inf = ck.Z.inf) : tAsg (tE C (kd ck.Z p) (tc ck.Z p) (ev ck.Z G p)) (tG C (kd ck.Z p) t) D σ H := by
  simp only [exS, runM_bnd] at h
  obtain ⟨ρ, F, cn, h⟩ := h
  refine ⟨ρ, F, cn, ?_⟩
  unfold runM at h
  cases e : ev ck.Z G p ρ with
  | no => rw [e] at h; exact h
  | ex c fs ρ' => rw [e] at h; exact h.exp.widen fun j hj => List.mem_append_left _ hj
  | ok d ρ1 =>
    rw [e] at h
    intro v H1 F1 S cn1 f1 rd ko nw
    refine ⟨ρ1, F1, F, H, d, S, _, cn1, f1, rd, ko, nw, ?_⟩
    rw [hi]
    simp only at h
    cases e2 : setT ck.Z.inf (kd ck.Z p) t d ρ1 with
    | no => rw [e2] at h; exact h
    | ex c fs ρ' =>
      exact absurd e2 (setT_noex t d ρ1 c fs ρ')
    | ok u ρ2 =>
      rw [e2] at h
      exact fun σ' F' ag cn' fr' _ _ => h σ' H1 F' ag cn' fr'
theorem exp_read {p : P} (h : tS C (tc ck.Z p) [] (exS ck.Z G n (.exp p)) D σ H) : tDrop (tE C (kd ck.Z p) (tc ck.Z p) (ev ck.Z G p)) D σ H := by
  simp only [exS] at h
  exact runM_read h (fun F H v H1 F1 S d ρ1 h cn1 U hU f1 rd ko nw => h σ H1 F1 Ag.refl cn1 (f1.mono hU)) fun j hj => hj
theorem ret_read {p : P} (h : tS C (tc ck.Z p) [] (exS ck.Z G n (.ret p)) D σ H) : tRet (tE C (kd ck.Z p) (tc ck.Z p) (ev ck.Z G p)) D σ H := by
  simp only [exS] at h
  exact immM_read (runM_read (k := .fr) h (fun F H v H1 F1 S d ρ1 h cn1 U hU f1 rd ko nw => h v σ H1 F1 S Ag.refl cn1 (f1.mono hU) rd ko (New.mono nw hU)) fun j hj => hj)
theorem test_read {T A U : List Nat} {m : M Mp.D} {f : Bool → Env → Fl} {Z : Bool → Hp → Prop} (h : tS C T A (runM (testM m) f) D σ H) (hU : ∀ j ∈ U, j ∈ T)
    (hz : ∀ F H H1 F1 b ρ1, ResS C T A σ D (f b ρ1) F H → Cn C.inf C.B C.lk ρ1 σ H1 F1 → Fr C.inf U F H F1 H1 → Z b H1) : tT C U m σ H Z := by
  unfold testM at h
  simp only [runM_bnd] at h
  obtain ⟨ρ, F, cn, h⟩ := h
  refine ⟨ρ, F, cn, ?_⟩
  unfold runM at h
  cases e : m ρ with
  | no => rw [e] at h; exact h
  | ex c fs ρ' => rw [e] at h; exact h.exp.widen hU
  | ok d ρ1 =>
    rw [e] at h
    change ResS C T A σ D (runM (lift (truth d)) f ρ1) F H at h
    rw [runM_lift] at h
    cases e2 : truth d with
    | none => rw [e2] at h; exact h.elim
    | some b =>
      rw [e2] at h
      exact ⟨b, e2, fun H1 F1 cn1 f1 => hz F H H1 F1 b ρ1 h cn1 f1⟩
theorem iff_read {c : P} {a b : Ss} (h : tS C (tc ck.Z c ++ (tSs' ck.Z a ++ tSs' ck.Z b)) (aSs' a ++ aSs' b) (exS ck.Z G n (.iff c a b)) D σ H) :
    tIfS (tT C (tc ck.Z c) (ev ck.Z G c)) (tS C (tSs' ck.Z a) (aSs' a) (exs ck.Z G n a)) (tS C (tSs' ck.Z b) (aSs' b) (exs ck.Z G n b)) D σ H := by
  simp only [exS] at h
  refine test_read h (fun j hj => List.mem_append_left _ hj) fun F H H1 F1 k ρ1 h cn1 f1 => ?_
  have h2 := ResS.after (A := []) (T := tc ck.Z c) h Ag.refl f1
  cases k with
  | true => exact ⟨ρ1, F1, cn1, h2.widen (fun j hj => List.mem_append_left _ hj) fun j hj => List.mem_append_left _ hj⟩
  | false => exact ⟨ρ1, F1, cn1, h2.widen (fun j hj => List.mem_append_right _ hj) fun j hj => List.mem_append_right _ hj⟩
theorem seq_readS {T U A B : List Nat} {m m' : Env → Fl} (h : tS C (T ++ U) (A ++ B) (seqF m m') D σ H) : tSeq (tS C T A m) (tS C U B m') D σ H := by
  obtain ⟨ρ, F, cn, h⟩ := h
  refine ⟨ρ, F, cn, ?_⟩
  unfold seqF at h
  have wd : ∀ {r}, ResS C (T ++ U) (A ++ B) σ D r F H → ResS C T A σ D r F H := fun h => h.widen (fun j hj => List.mem_append_left _ hj) fun j hj => List.mem_append_left _ hj
  cases e : m ρ with
  | next ρ1 =>
    rw [e] at h
    exact fun σ1 H1 F1 ag cn1 f1 => ⟨ρ1, F1, cn1, ResS.after h ag f1⟩
  | brk ρ1 => rw [e] at h; exact wd h
  | cont ρ1 => rw [e] at h; exact wd h
  | ret d ρ1 => rw [e] at h; exact wd h
  | ex c fs ρ1 => rw [e] at h; exact wd h
  | no => rw [e] at h; exact h
theorem turn_read {T A : List Nat} {r : Fl} {k : Env → Fl} {F : FP} {N : L2.St → Hp → Prop} (h : ResS C T A σ D (turnF r k) F H)
    (hN : ∀ ρ' σ' H' F', Ag A σ σ' → Cn C.inf C.B C.lk ρ' σ' H' F' → Fr C.inf T F H F' H' → ResS C T A σ' D (k ρ') F' H' → N σ' H') :
    ResS C T A σ { D with nx := N, ct := N, bk := D.nx } r F H := by
  cases r with
  | next ρ => exact fun σ' H' F' ag cn fr => hN ρ σ' H' F' ag cn fr (ResS.again h ag fr)
  | cont ρ => exact fun σ' H' F' ag cn fr => hN ρ σ' H' F' ag cn fr (ResS.again h ag fr)
  | brk ρ => exact h
  | ret d ρ => exact h
  | ex c fs ρ => exact h
  | no => exact h
theorem whl_read {T U A : List Nat} {c : M Mp.D} {body : Env → Fl} (h : tS C (T ++ U) A (whL (testM c) body n) D σ H) : tWhile (tT C T c) (tS C U A body) D σ H := by
  refine ⟨fun m σ' H' => ∃ ρ' F', Cn C.inf C.B C.lk ρ' σ' H' F' ∧ ResS C (T ++ U) A σ' D (whL (testM c) body m ρ') F' H', ⟨n, h⟩, fun m σ1 H1 h => ?_⟩
  cases m with
  | zero =>
    obtain ⟨_, _, _, h⟩ := h
    exact h.elim
  | succ m =>
    refine test_read (T := T ++ U) (A := A) h (fun j hj => List.mem_append_left _ hj) fun F H H1 F1 b ρ1 h cn1 f1 => ?_
    cases b with
    | false =>
      show D.nx σ1 H1
      exact h σ1 H1 F1 Ag.refl cn1 (f1.mono fun j hj => List.mem_append_left _ hj)
    | true =>
      refine ⟨fun σ' H' => ∃ ρ' F', Cn C.inf C.B C.lk ρ' σ' H' F' ∧ ResS C (T ++ U) A σ' D (whL (testM c) body m ρ') F' H', fun σ' H' z => ⟨m, Nat.lt_succ_self m, z⟩, ρ1, F1, cn1, ?_⟩
      have h2 : ResS C (T ++ U) A σ1 D (turnF (body ρ1) (whL (testM c) body m)) F1 H1 := ResS.again h Ag.refl (f1.mono fun j hj => List.mem_append_left _ hj)
      have h3 := turn_read (N := fun σ' H' => ∃ ρ' F', Cn C.inf C.B C.lk ρ' σ' H' F' ∧ ResS C (T ++ U) A σ' D (whL (testM c) body m ρ') F' H') h2 fun ρ' σ' H' F' ag cn fr z => ⟨ρ', F', cn, z⟩
      exact h3.widen (fun j hj => List.mem_append_right _ hj) fun j hj => hj
theorem loop_read {t : Tg} {k : Kd} {V U B : List Nat} {w : M (List Mp.D)} {body : Env → Fl} (hk : ∃ R, k = .bo R) (ap : Apart (tgs t ++ U) k)
    (h : tS C (V ++ (tgs t ++ U)) (tgs t ++ B) (runM w fun ds => forL (setT C.inf k t) body ds) D σ H) : tFor (tI C k V w) (tG C k t) (tS C U B body) D σ H := by
  obtain ⟨ρ, F, cn, h⟩ := h
  refine ⟨ρ, F, cn, ?_⟩
  unfold runM at h
  cases e : w ρ with
  | no => rw [e] at h; exact h
  | ex c fs ρ' => rw [e] at h; exact h.exp.widen fun j hj => List.mem_append_left _ hj
  | ok ds ρ1 =>
    rw [e] at h
    intro J H1 F1 S cn1 f1 th ko io
    obtain ⟨R, rfl⟩ := hk
    have h : ResS C (tgs t ++ U) (tgs t ++ B) σ D (forL (setT C.inf (.bo R) t) body ds ρ1) F1 H1 := ResS.after (A := []) (T := V) h Ag.refl f1
    -- the walk's state
    refine ⟨fun i m σ' H' => ∃ ρ' F', i + m = ds.length ∧ Cn C.inf C.B C.lk ρ' σ' H' F' ∧ KOk C.inf C.B (.bo R) F' H' S ∧ On S H1 H' ∧ TupK H1 H' ∧ (∀ a ∈ S, H' a ≠ none) ∧
      ResS C (tgs t ++ U) (tgs t ++ B) σ' D (forL (setT C.inf (.bo R) t) body (ds.drop i) ρ') F' H', ⟨ds.length, ρ1, F1, by omega, cn1, ko, fun _ _ _ e => e, fun _ _ e => e, th, h⟩, ?_⟩
    rintro i m σ' H' ⟨ρ', F', hm, cn', ko', on', tk', th', h'⟩
    obtain ⟨stop, item⟩ := io H' tk' on'
    cases m with
    | zero =>
      refine .inl ⟨stop i (by omega), ?_⟩
      rw [List.drop_eq_nil_of_le (by omega)] at h'
      exact h' σ' H' F' Ag.refl cn' (Fr.refl.mono fun j hj => hj)
    | succ m =>
      have hi : i < ds.length := by omega
      obtain ⟨go, yld⟩ := item i ds[i] (List.getElem?_eq_getElem hi)
      refine .inr ⟨go, fun σ' H' => ∃ ρ' F', (i + 1) + m = ds.length ∧ Cn C.inf C.B C.lk ρ' σ' H' F' ∧ KOk C.inf C.B (.bo R) F' H' S ∧ On S H1 H' ∧ TupK H1 H' ∧ (∀ a ∈ S, H' a ≠ none) ∧
        ResS C (tgs t ++ U) (tgs t ++ B) σ' D (forL (setT C.inf (.bo R) t) body (ds.drop (i + 1)) ρ') F' H', fun σ2 H2 z => ⟨m, Nat.lt_succ_self m, z⟩, fun x H2 hy => ?_⟩
      obtain ⟨g, S2, rd, sub⟩ := yld x H2 hy
      rw [List.drop_eq_getElem_cons hi] at h'
      unfold forL runM at h'
      refine ⟨ρ', F', F', H', ds[i], S2, [], g.cn cn', g.fr, rd, fun a ha => ko' a (sub a ha), trivial, ?_⟩
      cases e2 : setT C.inf (.bo R) t ds[i] ρ' with
      | no => rw [e2] at h'; exact h'
      | ex c fs ρ2 =>
        rw [e2] at h'
        -- a store tells no exception: but the wish is there in any case
        exfalso
        exact setT_noex t _ _ _ _ _ e2
      | ok u ρ2 =>
        rw [e2] at h'
        intro σ3 F3 ag3 cn3 f3 hold _
        have f3' : Fr C.inf (tgs t) F' H' F3 H2 := f3.mono fun j hj => by simpa using hj
        have h2 : ResS C (tgs t ++ U) (tgs t ++ B) σ3 D (turnF (body ρ2) (forL (setT C.inf (.bo R) t) body (ds.drop (i + 1)))) F3 H2 :=
          ResS.again h' (ag3.mono fun j hj => List.mem_append_left _ hj) (f3'.mono fun j hj => List.mem_append_left _ hj)
        have on2 : On S H1 H2 := fun a ha o e => g a o (on' a ha o e)
        have th2 : ∀ a ∈ S, H2 a ≠ none := fun a ha z => th' a ha (g.none z)
        have ko2 : KOk C.inf C.B (.bo R) F3 H2 S := hold S (fun z => nomatch z) ko'
        refine ⟨ρ2, F3, cn3, ?_⟩
        have h3 := turn_read (N := fun σ' H' => ∃ ρ' F', (i + 1) + m = ds.length ∧ Cn C.inf C.B C.lk ρ' σ' H' F' ∧ KOk C.inf C.B (.bo R) F' H' S ∧ On S H1 H' ∧ TupK H1 H' ∧ (∀ a ∈ S, H' a ≠ none) ∧
          ResS C (tgs t ++ U) (tgs t ++ B) σ' D (forL (setT C.inf (.bo R) t) body (ds.drop (i + 1)) ρ') F' H') h2 fun ρ4 σ4 H4 F4 ag4 cn4 f4 z => by
            obtain ⟨on4, ko4⟩ := ko2.overB th2 f4 ap
            exact ⟨ρ4, F4, by omega, cn4, ko4, fun a ha o e => on4 a ha o (on2 a ha o e), fun a vs e => f4.tup a vs (g.tup a vs (tk' a vs e)), fun a ha => f4.there a (th2 a ha), z⟩
        exact h3.widen (fun j hj => List.mem_append_right _ hj) fun j hj => List.mem_append_right _ hj

theorem runM_ok {α : Type} {m : M α} {f : α → Env → Fl} {ρ ρ' : Env} {a : α} (h : m ρ = .ok a ρ') : runM m f ρ = f a ρ' := by unfold runM; rw [h]
theorem runM_ex {α : Type} {m : M α} {f : α → Env → Fl} {ρ ρ' : Env} {c fs} (h : m ρ = .ex c fs ρ') : runM m f ρ = .ex c fs ρ' := by unfold runM; rw [h]
theorem runM_no {α : Type} {m : M α} {f : α → Env → Fl} {ρ : Env} (h : m ρ = .no) : runM m f ρ = .no := by unfold runM; rw [h]
theorem noX_ok {α : Type} {m : M α} {ρ ρ' : Env} {a : α} (h : m ρ = .ok a ρ') : noX m ρ = .ok a ρ' := by unfold noX; rw [h]
theorem noX_ex {α : Type} {m : M α} {ρ ρ' : Env} {c fs} (h : m ρ = .ex c fs ρ') : noX m ρ = .no := by unfold noX; rw [h]
theorem noX_no {α : Type} {m : M α} {ρ : Env} (h : m ρ = .no) : noX m ρ = .no := by unfold noX; rw [h]
theorem sub_read0 {i : Nat} {Tp Tk T : List Nat} {kp kk : Kd} {mp mk : M Mp.D} (ho : own C.inf i) (hl : i ∉ C.lk) (oT : ∀ j ∈ Tk, own C.inf j) (hT : ∀ j, (j ∈ Tp ∨ j ∈ Tk ∨ j = i) → j ∈ T)
    (h : tS C T [] (runM (bnd (immM kp mp) fun d => bnd (hasN i) fun _ => bnd (noX (bnd mk fun d => bnd (ret []) fun ds => ret (d :: ds))) fun ks' => subM C.inf i ks' d) fun _ ρ => .next ρ) D σ H) :
    tAsg (tE C kp Tp mp) (gSub (tVar i) (tE C kk Tk mk) rSet) D σ H := by
  obtain ⟨ρ, F, cn, h⟩ := h
  refine immM_read (k := kp) ⟨ρ, F, cn, ?_⟩
  cases e : immM kp mp ρ with
  | no => rw [runM_no (by rw [bnd_no e])] at h; exact h
  | ex c fs ρ' => rw [runM_ex (by rw [bnd_ex e])] at h; exact h.exp.widen fun j hj => hT j (.inl hj)
  | ok d ρ1 =>
    intro v H1 F1 Sv cn1 f1 rv kv nv
    cases e0 : getE ρ1 i with
    | none =>
      rw [runM_no (by rw [bnd_ok e, bnd_no (hasN_no e0)])] at h
      exact h.elim
    | some x0 =>
      obtain ⟨vx, hv, _⟩ := cn1.rep i x0 e0
      refine ⟨vx, hv, ρ1, F1, cn1, ?_⟩
      have h : ResS C T [] σ D (runM (bnd (noX (bnd mk fun d => bnd (ret []) fun ds => ret (d :: ds))) fun ks' => subM C.inf i ks' d) (fun _ ρ => .next ρ) ρ1) F H := by
        unfold runM at h ⊢
        rw [bnd_ok e, bnd_ok (hasN_ok e0)] at h
        exact h
      cases e1 : mk ρ1 with
      | no => rw [runM_no (by rw [bnd_no (noX_no (by rw [bnd_no e1]))])] at h; exact h
      | ex c fs ρ' =>
        rw [runM_no (by rw [bnd_no (noX_ex (by rw [bnd_ex e1]))])] at h
        exact h.elim
      | ok k ρ2 =>
        intro y H2 F2 Sk cn2 f2 rk kk2 nk
        obtain ⟨on, kv2⟩ := kv.overF rv.there f2 oT
        refine sub_fin0 cn2 (f1.trans f2) ho hl hv rk (rv.mono f2.tup on) kv2 (New.mono nv fun j hj => List.mem_append_left _ hj) ?_
        have h : ResS C T [] σ D (runM (subM C.inf i [k] d) (fun _ ρ => .next ρ) ρ2) F H := by
          unfold runM at h ⊢
          rw [bnd_ok (a := [k]) (ρ' := ρ2) (noX_ok (by rw [bnd_ok e1]; rfl))] at h
          exact h
        cases e2 : subM C.inf i [k] d ρ2 with
        | no => rw [runM_no e2] at h; exact h
        | ex c fs ρ' => exact absurd e2 (by unfold subM; split <;> (try split) <;> exact fun z => by cases z)
        | ok u ρ3 =>
          rw [runM_ok e2] at h
          refine fun H' F' cn' fr' => h σ H' F' Ag.refl cn' (fr'.mono fun j hj => ?_)
          rcases List.mem_append.mp hj with z | z
          · rcases List.mem_append.mp z with z | z
            · exact hT j (.inl z)
            · exact hT j (.inr (.inl z))
          · exact hT j (.inr (.inr (List.mem_singleton.mp z)))
theorem par_read {is : List Nat} {T : List Nat} {m : M (List Mp.D)} (h : tS C (T ++ is) is (runM (bnd m fun ds => setPar C.inf is ds) fun _ ρ => .next ρ) D σ H) : tParN is (tA C .fr T m) D σ H := by
  obtain ⟨ρ, F, cn, h⟩ := h
  refine ⟨ρ, F, cn, ?_⟩
  cases e : m ρ with
  | no => rw [runM_no (by rw [bnd_no e])] at h; exact h
  | ex c fs ρ' => rw [runM_ex (by rw [bnd_ex e])] at h; exact h.exp.widen fun j hj => List.mem_append_left _ hj
  | ok ds ρ1 =>
    intro vs H1 F1 S cn1 f1 rd ko nw
    cases e2 : setPar C.inf is ds ρ1 with
    | no => rw [runM_no (by rw [bnd_ok e, e2])] at h; exact h.elim
    | ex c fs ρ' => exact absurd e2 setPar_noex
    | ok u ρ2 =>
      rw [runM_ok (a := u) (ρ' := ρ2) (by rw [bnd_ok e, e2])] at h
      obtain ⟨F', a1, a2, a3, a4, _⟩ := setPar_ok cn1 f1 rd ko nw e2
      exact ⟨a3, h _ H1 F' a4 a1 a2⟩
theorem aug_read {o : Op} {i : Nat} {T : List Nat} {k : Kd} {m : M Mp.D} (h : tS C (T ++ [i]) [i] (runM (augM C.inf o i m) fun _ ρ => .next ρ) D σ H) : tAug i (tE C k T m) (rAug o) D σ H := by
  obtain ⟨ρ, F, cn, h⟩ := h
  cases e0 : getE ρ i with
  | none => rw [runM_no (by unfold augM; rw [e0])] at h; exact h.elim
  | some d0 =>
    cases d0 with
    | i x =>
      obtain ⟨v, hv, rd⟩ := cn.rep i _ e0
      have rx : RI H x v := rd.i_inv.1
      have eA : augM C.inf o i m ρ = bnd m (fun d => bnd (lift (augF o (.i x) d)) fun z => setN C.inf .fr i z) ρ := by unfold augM; rw [e0]
      refine ⟨v, hv, ρ, F, cn, ?_⟩
      cases e : m ρ with
      | no => rw [runM_no (by rw [eA, bnd_no e])] at h; exact h
      | ex c fs ρ' => rw [runM_ex (by rw [eA, bnd_ex e])] at h; exact h.exp.widen fun j hj => List.mem_append_left _ hj
      | ok d ρ1 =>
        intro y H1 F1 S cn1 f1 rd1 ko nw
        cases e1 : augF o (.i x) d with
        | none => rw [runM_no (by rw [eA, bnd_ok e, bnd_no (by rw [e1]; rfl)])] at h; exact h.elim
        | some z =>
          have eB : augM C.inf o i m ρ = setN C.inf .fr i z ρ1 := by rw [eA, bnd_ok e, bnd_ok (a := z) (ρ' := ρ1) (by rw [e1]; rfl)]
          refine augF_of e1 (rx.mono f1.tup) rd1 fun w rw => ?_
          cases e2 : setN C.inf .fr i z ρ1 with
          | no => rw [runM_no (by rw [eB, e2])] at h; exact h.elim
          | ex c fs ρ' => exact absurd e2 (by unfold setN; split <;> exact fun z => by cases z)
          | ok u ρ2 =>
            rw [runM_ok (a := u) (ρ' := ρ2) (by rw [eB, e2])] at h
            obtain ⟨a1, a2, _⟩ := setN_ok cn1 f1 rw KOk.nil NewK.nil e2
            exact h _ H1 _ (fun j hj => List.getElem?_set_ne (fun w => hj (by rw [w]; exact List.mem_singleton_self _))) a1 a2
    | _ => rw [runM_no (by unfold augM; rw [e0])] at h; exact h.elim
theorem augF_imm {o : Op} {a b z : Mp.D} (h : augF o a b = some z) : ∃ x, a = .i x := by
  unfold augF at h
  split at h <;> first
    | exact ⟨_, rfl⟩
    | cases h
theorem augSA_inv {s : Stmt} {x : Str} {k : Expr} {op : Operator} {e : Expr} (h : augSA s = some (x, k, op, e)) : ∃ q1 q2 q3, s = .AugAssign (.Subscript (.Name x q1) k q2) op e q3 ∧ noSlice k = true := by
  unfold augSA at h
  split at h
  · split at h
    · cases h; exact ⟨_, _, _, rfl, by assumption⟩
    · cases h
  · cases h
theorem augS_read {o : Op} {i : Nat} {Tk Tp T : List Nat} {kk kp : Kd} {mk mp : M Mp.D} (ho : own C.inf i) (hl : i ∉ C.lk) (hT : ∀ j, (j ∈ Tk ∨ j ∈ Tp ∨ j = i) → j ∈ T)
    (h : tS C T [] (runM (bnd (hasN i) fun _ => bnd (bnd mk fun d => bnd (ret []) fun ds => ret (d :: ds)) fun ks' => augSM C.inf o i ks' mp) fun _ ρ => .next ρ) D σ H) :
    tAugS (tVar i) (tE C kk Tk mk) (tE C kp Tp mp) (fun x y H Q => ∃ v, At1 H x y v ∧ Q v H) (rAug o) rSet D σ H := by
  obtain ⟨ρ, F, cn, h⟩ := h
  cases e0 : getE ρ i with
  | none =>
    rw [runM_no (by rw [bnd_no (hasN_no e0)])] at h
    exact h.elim
  | some x0 =>
    obtain ⟨vx, hv, _⟩ := cn.rep i x0 e0
    refine ⟨vx, hv, ρ, F, cn, ?_⟩
    have h : ResS C T [] σ D (runM (bnd (bnd mk fun d => bnd (ret []) fun ds => ret (d :: ds)) fun ks' => augSM C.inf o i ks' mp) (fun _ ρ => .next ρ) ρ) F H := by
      unfold runM at h ⊢
      rw [bnd_ok (hasN_ok e0)] at h
      exact h
    cases e1 : mk ρ with
    | no => rw [runM_no (by rw [bnd_no (by rw [bnd_no e1])])] at h; exact h
    | ex c fs ρ' =>
      rw [runM_ex (by rw [bnd_ex (by rw [bnd_ex e1])])] at h
      exact h.exp.widen fun j hj => hT j (.inl hj)
    | ok k ρ1 =>
      intro y H1 F1 Sk cn1 f1 rk kk1 nk
      have h : ResS C T [] σ D (runM (augSM C.inf o i [k] mp) (fun _ ρ => .next ρ) ρ1) F H := by
        unfold runM at h ⊢
        rw [bnd_ok (a := [k]) (ρ' := ρ1) (by rw [bnd_ok e1]; rfl)] at h
        exact h
      cases e2 : getE ρ1 i with
      | none => rw [runM_no (by unfold augSM; rw [e2]; rfl)] at h; exact h.elim
      | some x =>
        cases e3 : at1 k x with
        | none =>
          rw [runM_no (by unfold augSM; rw [e2]; dsimp only [List.getLast?, List.getLast, List.dropLast, mutAt]; rw [e3]; rfl)] at h
          exact h.elim
        | some old =>
          have eA : augSM C.inf o i [k] mp ρ1 = bnd mp (fun d => bnd (lift (augF o old d)) fun z => subM C.inf i [k] z) ρ1 := by
            unfold augSM
            rw [e2]
            dsimp only [List.getLast?, List.getLast, List.dropLast, mutAt]
            rw [e3]; rfl
          obtain ⟨vx', hv', rx⟩ := cn1.rep i x e2
          rw [hv] at hv'
          cases hv'
          obtain ⟨xk, rfl⟩ := at1_imm e3
          obtain ⟨w, a, _, hat, S1, S2, Sj, rw1, _, _⟩ := at1_ctx rx rk e3
          refine ⟨w, hat, ρ1, F1, cn1, ?_⟩
          cases e4 : mp ρ1 with
          | no => rw [runM_no (by rw [eA, bnd_no e4])] at h; exact h
          | ex c fs ρ' =>
            rw [runM_ex (by rw [eA, bnd_ex e4])] at h
            exact ExP.mono (T := Tk) (U := Tp) (h.exp.widen fun j hj => (List.mem_append.mp hj).elim (fun z => hT j (.inl z)) fun z => hT j (.inr (.inl z))) f1
          | ok d ρ2 =>
            intro y2 H2 F2 Sd cn2 f2 rd kd2 nd
            cases e5 : augF o old d with
            | none => rw [runM_no (by rw [eA, bnd_ok e4, bnd_no (by rw [e5]; rfl)])] at h; exact h.elim
            | some z =>
              have eB : augSM C.inf o i [.i xk] mp ρ1 = subM C.inf i [.i xk] z ρ2 := by rw [eA, bnd_ok e4, bnd_ok (a := z) (ρ' := ρ2) (by rw [e5]; rfl)]
              obtain ⟨xo, rfl⟩ := augF_imm e5
              refine augF_of e5 (rw1.i_inv.1.mono f2.tup) rd fun w' rw' => ?_
              refine sub_fin0 cn2 (f1.trans f2) ho hl hv (.i (rk.i_inv.1.mono f2.tup)) rw' KOk.nil (fun a ha => absurd ha List.not_mem_nil) ?_
              cases e6 : subM C.inf i [.i xk] z ρ2 with
              | no => rw [runM_no (by rw [eB, e6])] at h; exact h.elim
              | ex c fs ρ' => exact absurd e6 (by unfold subM; split <;> (try split) <;> exact fun z => by cases z)
              | ok u ρ3 =>
                rw [runM_ok (a := u) (ρ' := ρ3) (by rw [eB, e6])] at h
                refine fun H' F' cn' fr' => h σ H' F' Ag.refl cn' (fr'.mono fun j hj => ?_)
                rcases List.mem_append.mp hj with z | z
                · rcases List.mem_append.mp z with z | z
                  · exact hT j (.inl z)
                  · exact hT j (.inr (.inl z))
                · exact hT j (.inr (.inr (List.mem_singleton.mp z)))
theorem augA_inv {s : Stmt} {x : Str} {op : Operator} {e : Expr} (h : augA s = some (x, op, e)) : ∃ q1 q2, s = .AugAssign (.Name x q1) op e q2 := by
  unfold augA at h
  split at h
  · cases h; exact ⟨_, _, rfl⟩
  · cases h
theorem asgA_inv {s : Stmt} {t e : Expr} (h : asgA s = some (t, e)) : ∃ pos, s = .Assign [t] e pos ∧ isComp e = false ∧ (isTup t && isTup e) = false := by
  unfold asgA at h
  split at h
  · split at h
    · rename_i hb
      simp only [Bool.and_eq_true, Bool.not_eq_true'] at hb
      cases h
      exact ⟨_, rfl, hb.1, hb.2⟩
    · cases h
  · cases h
theorem expA_inv {s : Stmt} {e : Expr} (h : expA s = some e) : ∃ pos, s = .Expr e pos ∧ isComp e = false := by
  unfold expA at h
  split at h
  · split at h
    · rename_i hb
      simp only [Bool.not_eq_true'] at hb
      cases h
      exact ⟨_, rfl, hb⟩
    · cases h
  · cases h
theorem ifA_inv {s : Stmt} {c : Expr} {a b : List Stmt} (h : ifA s = some (c, a, b)) : ∃ pos, s = .If c a b pos := by
  unfold ifA at h
  split at h
  · cases h; exact ⟨_, rfl⟩
  · cases h
theorem forA_inv {s : Stmt} {t it : Expr} {b : List Stmt} (h : forA s = some (t, it, b)) : ∃ pos, s = .For t it b [] pos ∧ noSet it = true := by
  unfold forA at h
  split at h
  · split at h
    · rename_i hb
      cases h
      exact ⟨_, rfl, hb⟩
    · cases h
  · cases h
theorem whA_inv {s : Stmt} {c : Expr} {b : List Stmt} (h : whA s = some (c, b)) : ∃ pos, s = .While c b [] pos := by
  unfold whA at h
  split at h
  · cases h; exact ⟨_, rfl⟩
  · cases h
theorem retA_inv {s : Stmt} {e : Expr} (h : retA s = some e) : ∃ pos, s = .Return (some e) pos := by
  unfold retA at h
  split at h
  · cases h; exact ⟨_, rfl⟩
  · cases h
theorem subA_inv {s : Stmt} {x : Str} {ks : List Expr} {e : Expr} (h : subA s = some (x, ks, e)) : ∃ k q1 q2 q3, s = .Assign [.Subscript (.Name x q1) k q2] e q3 ∧ ks = [k] ∧ noSlice k = true := by
  unfold subA at h
  split at h
  · split at h
    · cases h; exact ⟨_, _, _, _, rfl, rfl, by assumption⟩
    · cases h
  · cases h
theorem noComp_swap {e : Expr} (h : isComp e = false) {t : Option Expr} {l : Nat} {env : PySem.Env} : swapsWith e t l env = pure false := by
  cases e <;> first
    | rfl
    | cases h
theorem asgL_inv {s : Stmt} {x : Str} {q : Pos} {e : Expr} (h : asgL s = some (x, q, e)) : ∃ pos, s = .Assign [.Name x q] e pos := by
  unfold asgL at h
  split at h
  · cases h; exact ⟨_, rfl⟩
  · cases h
theorem asgL_sound (hX : XOk ck X C G) {t : Tg} {p : P} {st : Stmt} {x : Str} {q : Pos} {e : Expr} (hl : isLc p = true) (h1 : asgL st = some (x, q, e)) (h2 : chkT ck t (.Name x q) = true) (h3 : chk ck p e = true) :
    PS X st (tS C (tS' ck.Z (.asg t p)) (aS' (.asg t p)) (exS ck.Z G n (.asg t p))) := by
  obtain ⟨pos, rfl⟩ := asgL_inv h1
  cases t with
  | t ts => simp [chkT, tupA, oB] at h2
  | n i =>
    cases p <;> try cases hl
    obtain ⟨elt, tg, iter, ifs, scope, lpos, own, tt, wi, g, te, rfl, hi, ok, hg, ht, he, hs, hz⟩ := lc_parts hX h3
    have hk : X.env.scope.kind = .function := by rw [hX.sc]; exact hX.knd
    have hsw := swB_is (elt := elt) (gs := [⟨tg, iter, ifs, 0⟩]) (pos := lpos) (scope := scope) (x := x) (px := q) (ln := pos.line) hX.sc hk
    cases hb : swB ck.sc scope x q.line lpos.line with
    | true =>
      rw [hb] at hsw
      have hx : ck.sc.names.lookup x = some .local := by
        unfold swB at hb
        simp only [Bool.and_eq_true, decide_eq_true_eq] at hb
        exact hb.1.1
      have hN : X.N[i]? = some x := by
        simp only [chkT] at h2
        obtain ⟨y, h4, h5⟩ := opt_of h2
        cases h4
        simp only [Bool.and_eq_true, decide_eq_true_eq] at h5
        rw [hX.N]; exact h5.1
      refine PS.weak (ps_setLc hX.calm hX.nd hN (by rw [hX.sc]; exact hx) hsw hi ok hg ht he hs) fun D σ H z => ?_
      exact hz σ H _ (tE_mono (asg_read z hX.inf) fun v H1 w => tG_name w)
    | false =>
      rw [hb] at hsw
      have hn := chkT_nst h2
      refine PS.weak (ps_asg (sound hX h3).1 (setT_pg hX _ h2) hsw rfl (by rw [assign_nst (by simp [hn])]; rfl)) fun D σ H z => asg_read z hX.inf
theorem asgD_inv {s : Stmt} {x : Str} {q : Pos} {e : Expr} (h : asgD s = some (x, q, e)) : ∃ pos, s = .Assign [.Name x q] e pos := by
  unfold asgD at h
  split at h
  · cases h; exact ⟨_, rfl⟩
  · cases h
theorem asgD_sound (hX : XOk ck X C G) {t : Tg} {p : P} {st : Stmt} {x : Str} {q : Pos} {e : Expr} (hl : isDc p = true) (h1 : asgD st = some (x, q, e)) (h2 : chkT ck t (.Name x q) = true) (h3 : chk ck p e = true) :
    PS X st (tS C (tS' ck.Z (.asg t p)) (aS' (.asg t p)) (exS ck.Z G n (.asg t p))) := by
  obtain ⟨pos, rfl⟩ := asgD_inv h1
  cases t with
  | t ts => simp [chkT, tupA, oB] at h2
  | n i =>
    cases p <;> try cases hl
    obtain ⟨ke, elt, tg, iter, ifs, scope, lpos, own, tt, wi, g, tk, te, rfl, hi, ok, hg, ht, hke, he, hs, hz⟩ := dc_parts hX h3
    have hk : X.env.scope.kind = .function := by rw [hX.sc]; exact hX.knd
    have hsw := swB_isD (ke := ke) (elt := elt) (gs := [⟨tg, iter, ifs, 0⟩]) (pos := lpos) (scope := scope) (x := x) (px := q) (ln := pos.line) hX.sc hk
    cases hb : swB ck.sc scope x q.line lpos.line with
    | true =>
      rw [hb] at hsw
      have hx : ck.sc.names.lookup x = some .local := by
        unfold swB at hb
        simp only [Bool.and_eq_true, decide_eq_true_eq] at hb
        exact hb.1.1
      have hN : X.N[i]? = some x := by
        simp only [chkT] at h2
        obtain ⟨y, h4, h5⟩ := opt_of h2
        cases h4
        simp only [Bool.and_eq_true, decide_eq_true_eq] at h5
        rw [hX.N]; exact h5.1
      refine PS.weak (ps_setDc hX.calm hX.nd hN (by rw [hX.sc]; exact hx) hsw hi ok hg ht hke he hs) fun D σ H z => ?_
      exact hz σ H _ (tE_mono (asg_read z hX.inf) fun v H1 w => tG_name w)
    | false =>
      rw [hb] at hsw
      have hn := chkT_nst h2
      refine PS.weak (ps_asg (sound hX h3).1 (setT_pg hX _ h2) hsw rfl (by rw [assign_nst (by simp [hn])]; rfl)) fun D σ H z => asg_read z hX.inf
mutual
theorem soundS (hX : XOk ck X C G) (hp : PassesOwn (model X.prog X.w) X.A X.env X.xe) : ∀ {s : S} {st : Stmt}, chkS ck s st = true → PS X st (tS C (tS' ck.Z s) (aS' s) (exS ck.Z G n s))
  | .asg t p, st, h => by
    simp only [chkS, Bool.or_eq_true] at h
    rcases h with h | h
    rotate_left
    · rcases h with h | h
      · simp only [Bool.and_eq_true] at h
        obtain ⟨hl, h⟩ := h
        obtain ⟨⟨x, q, e⟩, h1, h2⟩ := opt_of h
        simp only [Bool.and_eq_true] at h2
        exact asgL_sound hX hl h1 h2.1 h2.2
      · simp only [Bool.and_eq_true] at h
        obtain ⟨hl, h⟩ := h
        obtain ⟨⟨x, q, e⟩, h1, h2⟩ := opt_of h
        simp only [Bool.and_eq_true] at h2
        exact asgD_sound hX hl h1 h2.1 h2.2
    obtain ⟨⟨tg, e⟩, h1, h2⟩ := opt_of h
    obtain ⟨pos, rfl, hc, ht⟩ := asgA_inv h1
    simp only [Bool.and_eq_true] at h2
    obtain ⟨⟨h3, h4⟩, h5⟩ := h2
    have hn := chkT_nst h3
    refine PS.weak (ps_asg (sound hX h5).1 (setT_pg hX (kd ck.Z p) h3) (noComp_swap hc) ?_ ?_) fun D σ H z => asg_read z hX.inf
    · cases t with
      | n i =>
        simp only [chkT] at h3
        obtain ⟨x, h6, _⟩ := opt_of h3
        obtain ⟨p, rfl⟩ := nmA_inv h6
        rfl
      | t ts =>
        simp only [chkT] at h3
        obtain ⟨x, h6, _⟩ := opt_of h3
        obtain ⟨k, p, rfl⟩ := tupA_inv h6
        cases e <;> first
          | rfl
          | cases ht
    · rw [assign_nst (by simp [hn])]; rfl
  | .exp p, st, h => by
    simp only [chkS] at h
    obtain ⟨e, h1, h2⟩ := opt_of h
    obtain ⟨pos, rfl, hc⟩ := expA_inv h1
    exact PS.weak (ps_expr (sound hX h2).1 (noComp_swap hc)) fun D σ H z => exp_read z
  | .iff c a b, st, h => by
    simp only [chkS] at h
    obtain ⟨⟨x, y, z⟩, h1, h2⟩ := opt_of h
    obtain ⟨pos, rfl⟩ := ifA_inv h1
    simp only [Bool.and_eq_true] at h2
    exact PS.weak (ps_if (sound hX h2.1.1).2 (soundSs hX hp h2.1.2) (soundSs hX hp h2.2)) fun D σ H z => iff_read z
  | .loop t it b, st, h => by
    simp only [chkS] at h
    obtain ⟨⟨tg, e, y⟩, h1, h2⟩ := opt_of h
    obtain ⟨pos, rfl, hs⟩ := forA_inv h1
    simp only [Bool.and_eq_true, decide_eq_true_eq, Bool.or_eq_true, Bool.not_eq_true'] at h2
    obtain ⟨⟨⟨⟨⟨h3, h4⟩, h5⟩, h6⟩, h7⟩, h8⟩ := h2
    have hpair : pairI it = true → isTup tg = true := fun z => by
      rcases h6 with h6 | h6
      · rw [z] at h6; cases h6
      · exact h6
    refine PS.weak (ps_for hp hX.calm (soundI hX h5 hpair) (setT_pg hX (kdI ck.Z it) h3) (soundSs hX hp h7) (noSet_fold hs)) fun D σ H z => ?_
    refine loop_read kdI_bo h8 ?_
    rw [hX.inf]
    simpa only [exS, tS', aS'] using z
  | .whl c b, st, h => by
    simp only [chkS] at h
    obtain ⟨⟨x, y⟩, h1, h2⟩ := opt_of h
    obtain ⟨pos, rfl⟩ := whA_inv h1
    simp only [Bool.and_eq_true] at h2
    exact PS.weak (ps_while hp (sound hX h2.1).2 (soundSs hX hp h2.2)) fun D σ H z => whl_read z
  | .ret p, st, h => by
    simp only [chkS] at h
    obtain ⟨e, h1, h2⟩ := opt_of h
    obtain ⟨pos, rfl⟩ := retA_inv h1
    exact PS.weak (ps_ret (sound hX h2).1) fun D σ H z => ret_read z
  | .retN, st, h => by
    cases st <;> first
      | (rename_i v _; cases v with
        | some _ => cases h
        | none =>
          refine PS.weak ps_retN fun D σ H z => ?_
          obtain ⟨ρ, F, cn, z⟩ := z
          exact z .non σ H F [] Ag.refl cn Fr.refl (.i .non) KOk.nil fun a ha => absurd ha List.not_mem_nil)
      | cases h
  | .brk, st, h => by
    cases st <;> first
      | (refine PS.weak ps_break fun D σ H z => ?_
         obtain ⟨ρ, F, cn, z⟩ := z
         exact z σ H F Ag.refl cn Fr.refl)
      | cases h
  | .cont, st, h => by
    cases st <;> first
      | (refine PS.weak ps_continue fun D σ H z => ?_
         obtain ⟨ρ, F, cn, z⟩ := z
         exact z σ H F Ag.refl cn Fr.refl)
      | cases h
  | .pass, st, h => by
    cases st <;> first
      | (refine PS.weak ps_pass fun D σ H z => ?_
         obtain ⟨ρ, F, cn, z⟩ := z
         exact z σ H F Ag.refl cn Fr.refl)
      | cases h
  | .par is ps, st, h => by
    simp only [chkS] at h
    obtain ⟨⟨xs, es⟩, h1, h2⟩ := opt_of h
    simp only [Bool.and_eq_true, decide_eq_true_eq] at h2
    obtain ⟨ts, kt, pt, k2, pt2, pos, rfl, hl, hz, hw⟩ := parA_inv h1
    obtain ⟨tt, hs, hd, _⟩ := sounds hX h2.2
    refine PS.weak (ps_parN hX.calm hX.nd (by rw [hX.N]; exact h2.1) (by rw [hX.sc]; exact hl) (PA.weak (hs.pa (chks_nst h2.2)) hd) (by have : 3 ≤ sizeLine := by decide
                                                                                                                                        omega) (hw X hX.sc (by rw [hX.sc]; exact hX.knd))) fun D σ H z => ?_
    simp only [exS, tS', aS'] at z
    rw [← hX.inf] at z
    exact par_read z
  | .sub i ks p, st, h => by
    simp only [chkS] at h
    obtain ⟨⟨x, kes, e⟩, h1, h2⟩ := opt_of h
    simp only [Bool.and_eq_true, decide_eq_true_eq, Bool.not_eq_true'] at h2
    obtain ⟨⟨⟨⟨⟨⟨⟨a1, a2⟩, a3⟩, a4⟩, a5⟩, a6⟩, a7⟩, _⟩ := h2
    have ho : own C.inf i := by rw [hX.inf]; exact of_decide_eq_true a4
    have hl : i ∉ C.lk := by rw [hX.lk]; simpa using a5
    obtain ⟨n1, n2, _⟩ := okN_of a3
    have hu := hX.room.units
    have pv : ∀ p, PE X (.Name x p) (tVar i) := fun p => pe_var (i := i) (by rw [hX.N]; exact a1) (vis_of hX a2) n1 n2
    obtain ⟨k, q1, q2, q3, rfl, rfl, hs⟩ := subA_inv h1
    match ks, a6 with
    | .cons kp .nil, a6 =>
      simp only [chks, Bool.and_eq_true] at a6
      refine PS.weak (ps_asg (sound hX a7).1 (pg_sub (pv _) (sound hX a6.1.1).1 (set_any (by omega)) (by cases k <;> first | exact fun _ => rfl | cases hs)) (by cases e <;> rfl) rfl rfl) fun D σ H z => ?_
      simp only [exS, tS', aS', evs] at z
      rw [← hX.inf] at z
      refine sub_read0 (T := tc ck.Z p ++ (tcs ck.Z (.cons kp .nil) ++ [i])) ho hl (by rw [hX.inf]; exact tc_own a6.1.1) (fun j hj => ?_) z
      simp only [tcs, List.append_nil, List.mem_append, List.mem_singleton]
      exact hj
    | .cons _ (.cons _ _), a6 => simp [chks] at a6
    | .nil, a6 => simp [chks] at a6
  | .aug o i p, st, h => by
    simp only [chkS] at h
    obtain ⟨⟨x, op, e⟩, h1, h2⟩ := opt_of h
    simp only [Bool.and_eq_true, decide_eq_true_eq] at h2
    obtain ⟨⟨⟨a1, a2⟩, a3⟩, a4⟩ := h2
    obtain ⟨q1, q2, rfl⟩ := augA_inv h1
    obtain ⟨hl, hf⟩ := sto_of hX a3
    refine PS.weak (ps_aug (i := i) hX.nd (by rw [hX.N]; exact a2) hl (sound hX a4).1 (ip_aug a1) hf) fun D σ H z => ?_
    simp only [exS, tS', aS'] at z
    rw [← hX.inf] at z
    exact aug_read z
  | .augS o i ks p, st, h => by
    simp only [chkS] at h
    obtain ⟨⟨x, k, op, e⟩, h1, h2⟩ := opt_of h
    simp only [Bool.and_eq_true, decide_eq_true_eq, Bool.not_eq_true'] at h2
    obtain ⟨⟨⟨⟨⟨⟨⟨a0, a1⟩, a2⟩, a3⟩, a4⟩, a5⟩, a6⟩, a7⟩ := h2
    have ho : own C.inf i := by rw [hX.inf]; exact of_decide_eq_true a4
    have hl : i ∉ C.lk := by rw [hX.lk]; simpa using a5
    obtain ⟨n1, n2, _⟩ := okN_of a3
    have hu := hX.room.units
    obtain ⟨q1, q2, q3, rfl, hs⟩ := augSA_inv h1
    match ks, a6 with
    | .cons kp .nil, a6 =>
      simp only [chks, Bool.and_eq_true] at a6
      refine PS.weak (ps_augS (pe_var (i := i) (by rw [hX.N]; exact a1) (vis_of hX a2) n1 n2) (sound hX a6.1.1).1 (get_at1 (by omega)) (sound hX a7).1 (ip_aug a0) (set_any (by omega)) (by cases k <;> first | (intros; rfl) | cases hs)) fun D σ H z => ?_
      simp only [exS, tS', aS', evs] at z
      rw [← hX.inf] at z
      refine augS_read (T := tcs ck.Z (.cons kp .nil) ++ (tc ck.Z p ++ [i])) ho hl (fun j hj => ?_) z
      simp only [tcs, List.append_nil, List.mem_append, List.mem_singleton]
      exact hj
    | .cons _ (.cons _ _), a6 => simp [chks] at a6
    | .nil, a6 => simp [chks] at a6
theorem soundSs (hX : XOk ck X C G) (hp : PassesOwn (model X.prog X.w) X.A X.env X.xe) : ∀ {ss : Ss} {sts : List Stmt}, chkSs ck ss sts = true → PSs X sts (tS C (tSs' ck.Z ss) (aSs' ss) (exs ck.Z G n ss))
  | .nil, [], _ => PSs.weak pss_nil fun D σ H z => by
    obtain ⟨ρ, F, cn, z⟩ := z
    simp only [exs] at z
    exact z σ H F Ag.refl cn Fr.refl
  | .cons s ss, st :: sts, h => by
    simp only [chkSs, Bool.and_eq_true] at h
    refine PSs.weak (pss_cons (soundS hX hp h.1) (soundSs hX hp h.2)) fun D σ H z => ?_
    simp only [tSs', aSs', exs] at z
    exact seq_readS z
  | .nil, _ :: _, h => by cases h
  | .cons _ _, [], h => by cases h
end
end
end Mp

namespace Mp
open PySem PySem.Spec PyProof.Rows L2

structure Fd where
  name : Str
  st : Stmt
  N : List Str
  ps : List Str
  modes : List Bool
  inf : Inf
  body : Ss
def fin : List Bool → Env → Option (List Mp.D)
  | [], _ => some []
  | false :: ms, _ :: ρ => (fin ms ρ).map (.i .non :: ·)
  | true :: ms, some d :: ρ => (fin ms ρ).map (d :: ·)
  | _ :: _, _ => none
def endF (modes : List Bool) : Fl → FR
  | .ret d ρ => (match fin modes ρ with
    | some ms => .ok d ms
    | none => .no)
  | .next ρ => (match fin modes ρ with
    | some ms => .ok (.i .non) ms
    | none => .no)
  | .ex c fs ρ => (match fin modes ρ with
    | some ms => .ex c fs ms
    | none => .no)
  | _ => .no
def runB (Z : Z0) (G : GS) (n N : Nat) (modes : List Bool) (body : Ss) (ds : List Mp.D) : FR :=
  if ds.length = modes.length then endF modes (exs Z G n body (ds.map some ++ List.replicate (N - ds.length) none)) else .no
def GF (fds : List Fd) (n : Nat) : Nat → GS
  | 0 => fun _ _ => .no
  | k + 1 => fun f ds => match fds[f]? with
    | some fd => runB ⟨fd.inf, fds.map (·.modes)⟩ (GF fds n k) n fd.N.length fd.modes fd.body ds
    | none => .no
def ckOf (fds : List Fd) (blts : List Str) (glb : List (Str × I)) (fd : Fd) : Ck where
  N := fd.N
  sc := defScope fd.st
  Z := ⟨fd.inf, fds.map (·.modes)⟩
  lk := []
  blts := blts
  glb := glb
  cells := (defScope fd.st).names.filterMap fun x => if x.2 = .cell then some x.1 else none
  fns := fds.map fun f => (f.name, f.modes)
def okFd (fds : List Fd) (blts : List Str) (glb : List (Str × I)) (fd : Fd) : Bool :=
  chkSs (ckOf fds blts glb fd) fd.body (defBody fd.st) && decide (fd.modes.length = fd.ps.length) && decide (fd.ps.length ≤ fd.N.length) &&
    (List.range fd.modes.length).all fun k => if fd.modes.getD k false then ownB fd.inf k && !(aSs' fd.body).contains k else !ownB fd.inf k
structure Mod0 (fds : List Fd) (blts : List Str) (glb : List (Str × I)) (K : PySem.W.Frag) (mg : Str → Option Value) : Prop where
  fn : ∀ (f : Nat) fd, fds[f]? = some fd → ∃ fa fdta, Fun K fd.name fd.name fd.st fa fdta ∧ mg fd.name = some (.ref fa) ∧ Binds K fdta fd.ps []
  sc : ∀ (f : Nat) fd, fds[f]? = some fd → FnScope fd.N fd.ps (defScope fd.st)
  ok : ∀ (f : Nat) fd, fds[f]? = some fd → okFd fds blts glb fd = true
  blt : ∀ x ∈ blts, mg x = none
  glb : ∀ y ∈ glb, ∃ v u, mg y.1 = some u ∧ RelV v u ∧ ∀ H, RI H y.2 v

theorem fin_get : ∀ {modes : List Bool} {ρ : Env} {ms : List Mp.D}, fin modes ρ = some ms → ∀ k, modes[k]? = some true → ∃ d, ms[k]? = some d ∧ getE ρ k = some d
  | [], _, _, _, k, h => by simp at h
  | false :: ms, [], _, e, k, h => by cases e
  | true :: ms, [], _, e, k, h => by cases e
  | true :: ms, none :: _, _, e, k, h => by cases e
  | false :: ms, o :: ρ, r, e, k, h => by
    simp only [fin] at e
    cases q : fin ms ρ with
    | none => rw [q] at e; cases e
    | some r' =>
      rw [q] at e
      cases e
      cases k with
      | zero => simp at h
      | succ k =>
        obtain ⟨d, h1, h2⟩ := fin_get q k (by simpa using h)
        exact ⟨d, by simpa using h1, by simpa [getE] using h2⟩
  | true :: ms, some d :: ρ, r, e, k, h => by
    simp only [fin] at e
    cases q : fin ms ρ with
    | none => rw [q] at e; cases e
    | some r' =>
      rw [q] at e
      cases e
      cases k with
      | zero => exact ⟨d, rfl, rfl⟩
      | succ k =>
        obtain ⟨d, h1, h2⟩ := fin_get q k (by simpa using h)
        exact ⟨d, by simpa using h1, by simpa [getE] using h2⟩
section
variable {P : Program} {w : World} {K : PySem.W.Frag} {mg : Str → Option Value} {base : Heap} {fds : List Fd} {blts : List Str} {glb : List (Str × I)} {exc : Nat → Addr} {n : Nat}
theorem getE_start {ds : List Mp.D} {m i : Nat} : getE (ds.map some ++ List.replicate m none) i = ds[i]? := by
  unfold getE
  rcases Nat.lt_or_ge i ds.length with h | h
  · rw [List.getElem?_append_left (by simpa using h), List.getElem?_map, List.getElem?_eq_getElem h]; rfl
  · rw [List.getElem?_append_right (by simpa using h), List.getElem?_eq_none h, List.getElem?_replicate]
    split <;> rfl
theorem fd_ok (md : Mod0 fds blts glb K mg) : ∀ (k f : Nat) (fd : Fd) (fa : Addr) (fdta : FuncData), fds[f]? = some fd → Fun K fd.name fd.name fd.st fa fdta → FnOk P w K mg base (L2.CX P w) k fa fdta fd.ps (SpF exc fd.modes (GF fds n k f)) := by
  intro k
  induction k with
  | zero =>
    intro f fd fa fdta hf F
    have hk := md.ok f fd hf
    unfold okFd at hk
    simp only [Bool.and_eq_true, decide_eq_true_eq] at hk
    refine ⟨fun vs H Q E h => ?_, fun A outer s H args us vs Q E hr e0 hb r h => ?_⟩
    · obtain ⟨ds, F, hin, _⟩ := h
      rw [hin.l2, hk.1.1.2]
    · obtain ⟨ds, F, hin, h⟩ := h
      exact h.elim
  | succ k ih =>
    intro f fd fa fdta hf F
    have hk := md.ok f fd hf
    unfold okFd at hk
    simp only [Bool.and_eq_true, decide_eq_true_eq, List.all_eq_true, List.mem_range] at hk
    obtain ⟨⟨⟨hck, hml⟩, hpl⟩, hst⟩ := hk
    have st1 : ∀ j, fd.modes[j]? = some true → own fd.inf j ∧ j ∉ aSs' fd.body := fun j hj => by
      have hl : j < fd.modes.length := by
        rcases Nat.lt_or_ge j fd.modes.length with z | z
        · exact z
        · rw [List.getElem?_eq_none z] at hj; cases hj
      have := hst j hl
      rw [List.getD_eq_getElem?_getD, hj] at this
      simp only [Option.getD_some, if_true, Bool.and_eq_true, Bool.not_eq_true'] at this
      exact ⟨of_decide_eq_true this.1, by simpa using this.2⟩
    have st2 : ∀ j, j < fd.modes.length → own fd.inf j → fd.modes[j]? = some true := fun j hl ho => by
      have := hst j hl
      cases q : fd.modes[j]? with
      | none => rw [List.getElem?_eq_getElem hl] at q; cases q
      | some b =>
        cases b with
        | true => rfl
        | false =>
          rw [List.getD_eq_getElem?_getD, q] at this
          simp only [Option.getD_some, Bool.false_eq_true, if_false, Bool.not_eq_true'] at this
          exact absurd ho (of_decide_eq_false this)
    refine F.okX (md.sc f fd hf) (fun vs H Q E h => ?_) (fun cdv A outer s H vs Q E hr h => ?_)
    · obtain ⟨ds, Fi, hin, _⟩ := h
      rw [hin.l2, hml]
    · obtain ⟨ds, Fi, hin, hm⟩ := h
      simp only [GF, hf] at hm
      unfold runB at hm
      rw [if_pos hin.l1] at hm
      let C : Cc := ⟨K, fd.inf, fun a => H a = none ∨ ∃ j, fd.modes[j]? = some true ∧ a ∈ Fi j, [], exc, fun cls d _ H' => E cls d H', k⟩
      have hX : XOk (ckOf fds blts glb fd) (cxOf (L2.CX P w) P w K mg base fd.N fd.name (defScope fd.st) fa cdv A outer s H E) C (GF fds n k) := by
        refine ⟨rfl, (md.sc f fd hf).nd, rfl, (md.sc f fd hf).kind, rfl, rfl, rfl, rfl, md.blt, md.glb, fun _ _ _ => rfl, hr, takes_of rfl rfl rfl rfl, fun g x ms hg => ?_⟩
        have hg : (fds.map fun f => (f.name, f.modes))[g]? = some (x, ms) := hg
        rw [List.getElem?_map] at hg
        cases q : fds[g]? with
        | none => rw [q] at hg; cases hg
        | some fd' =>
          rw [q] at hg
          cases hg
          obtain ⟨fa', fdta', F', m1, m2⟩ := md.fn g fd' q
          exact ⟨fa', fdta', fd'.ps, m1, F'.kp, m2, ih g fd' fa' fdta' q F'⟩
      refine ⟨_, soundSs (n := n) hX (passes_of rfl) hck, ds.map some ++ List.replicate (fd.N.length - ds.length) none, Fi, ?_, ?_⟩
      · have pm : ∀ j a, own fd.inf j → a ∈ Fi j → fd.modes[j]? = some true := fun j a ho ha => by
          rcases Nat.lt_or_ge j fd.modes.length with z | z
          · exact st2 j z ho
          · rw [hin.out j (by rw [hin.l1]; exact z)] at ha; cases ha
        refine ⟨fun i d e => ?_, fun i e => ?_, fun i j ho hij a ha hx => ?_, fun i ho => ?_, fun i ho _ a ha => ?_, fun i ho a ha => .inr ⟨i, pm i a ho ha, ha⟩, fun a h => .inl h, ?_⟩
        · rw [getE_start] at e
          obtain ⟨v, hv, rd⟩ := hin.rd i d e
          refine ⟨v, ?_, rd⟩
          unfold L2.start
          have hl : i < vs.length := by
            rcases Nat.lt_or_ge i vs.length with z | z
            · exact z
            · rw [List.getElem?_eq_none z] at hv; cases hv
          rw [List.getElem?_append_left (by simpa using hl), List.getElem?_map, hv]; rfl
        · rw [getE_start] at e
          exact hin.out i (by simpa using e)
        · refine hin.sep i j (pm j a ho hx) (fun z => hij (by subst z; rw [ho]; exact List.mem_singleton_self _)) a ha hx
        · cases q : Fi i with
          | nil => exact List.nodup_nil
          | cons a r => rw [← q]; exact hin.nd i (pm i a ho (by rw [q]; exact List.mem_cons_self))
        · exact hin.fz i (pm i a ho ha) a ha
        · unfold L2.start
          rw [List.length_append, List.length_append, List.length_map, List.length_map, List.length_replicate, List.length_replicate, hin.l1, hin.l2]
      · -- the end
        have hl2 : ∀ j, fd.modes[j]? = some true → ∃ v, vs[j]? = some v ∧ (L2.start fd.N vs)[j]? = some (some v) := fun j hj => by
          have hl : j < vs.length := by
            rw [hin.l2]
            rcases Nat.lt_or_ge j fd.modes.length with z | z
            · exact z
            · rw [List.getElem?_eq_none z] at hj; cases hj
          refine ⟨vs[j], List.getElem?_eq_getElem hl, ?_⟩
          unfold L2.start
          rw [List.getElem?_append_left (by simpa using hl), List.getElem?_map, List.getElem?_eq_getElem hl]; rfl
        have pm : ∀ j a, own fd.inf j → a ∈ Fi j → fd.modes[j]? = some true := fun j a ho ha => by
          rcases Nat.lt_or_ge j fd.modes.length with z | z
          · exact st2 j z ho
          · rw [hin.out j (by rw [hin.l1]; exact z)] at ha; cases ha
        have out : ∀ {ρ' : Env} {ms : List Mp.D} {σ' : L2.St} {H' : Hp} {F' : FP}, fin fd.modes ρ' = some ms → Ag (aSs' fd.body) (L2.start fd.N vs) σ' → Cn C.inf C.B C.lk ρ' σ' H' F' → Fr C.inf (tSs' (ckOf fds blts glb fd).Z fd.body) Fi H F' H' → OutF fd.modes H Fi vs H' ms F' := by
          intro ρ' ms σ' H' F' hfin ag cn fr
          refine ⟨fr.tup, fr.there, fun a o e hn => fr.keep a o e fun j hj ho hx => hn j (pm j a ho hx) hx, fun j hj => ?_, fun j hj => cn.nd j (st1 j hj).1, fun j hj => cn.ex j (st1 j hj).1 (fun z => by cases z), fun j hj a ha => ?_, fun i j hi hj hij a ha hx => ?_⟩
          · obtain ⟨d, h1, h2⟩ := fin_get hfin j hj
            obtain ⟨v, h3, h4⟩ := hl2 j hj
            obtain ⟨v', h5, rd⟩ := cn.rep j d h2
            rw [ag j (st1 j hj).2, h4] at h5
            cases h5
            exact ⟨d, v, h1, h3, rd⟩
          · by_cases hT : j ∈ tSs' (ckOf fds blts glb fd).Z fd.body
            · rcases fr.from' j hT (st1 j hj).1 a ha with z | ⟨i, _, ho, z⟩
              · exact .inl z
              · exact .inr ⟨i, pm i a ho z, z⟩
            · rcases fr.same j hT with z | z
              · rw [z] at ha; exact .inr ⟨j, hj, ha⟩
              · rw [z] at ha; cases ha
          · refine cn.sep i j (st1 j hj).1 (fun z => ?_) a ha hx
            have : rt C.inf i = [i] := (st1 i hi).1
            rw [this] at z
            exact hij (List.mem_singleton.mp z).symm
        have hm : match endF fd.modes (exs (ckOf fds blts glb fd).Z (GF fds n k) n fd.body (ds.map some ++ List.replicate (fd.N.length - ds.length) none)) with
          | .ok d ms => ∀ v H' S Fm, OutF fd.modes H Fi vs H' ms Fm → RD H' d v S → S.Nodup →
              (∀ a ∈ S, NFz H' a ∧ (H a = none ∨ ∃ j, fd.modes[j]? = some true ∧ a ∈ Fi j) ∧ ∀ k, fd.modes[k]? = some true → a ∉ Fm k) → Q v H'
          | .ex c fs ms => ∀ cls d H' Fm, OutF fd.modes H Fi vs H' ms Fm → XAtE exc c fs cls d H' → E cls d H'
          | .no => False := hm
        cases q : exs (ckOf fds blts glb fd).Z (GF fds n k) n fd.body (ds.map some ++ List.replicate (fd.N.length - ds.length) none) with
        | no => rw [q] at hm; exact hm.elim
        | brk ρ' => rw [q] at hm; exact hm.elim
        | cont ρ' => rw [q] at hm; exact hm.elim
        | next ρ' =>
          rw [q] at hm
          simp only [endF] at hm
          intro σ' H' F' ag cn fr
          cases q2 : fin fd.modes ρ' with
          | none => rw [q2] at hm; exact hm.elim
          | some ms =>
            rw [q2] at hm
            exact hm .non H' [] F' (out q2 ag cn fr) (.i .non) List.nodup_nil fun a ha => absurd ha List.not_mem_nil
        | ret d ρ' =>
          rw [q] at hm
          simp only [endF] at hm
          intro v σ' H' F' S ag cn fr rd ko nw
          cases q2 : fin fd.modes ρ' with
          | none => rw [q2] at hm; exact hm.elim
          | some ms =>
            rw [q2] at hm
            refine hm v H' S F' (out q2 ag cn fr) rd ko.1 fun a ha => ⟨(ko.2.2 a ha).1, ?_, fun j _ => ko.2.1 a ha j⟩
            rcases nw a ha with z | ⟨j, _, ho, z⟩
            · exact .inl z
            · exact .inr ⟨j, pm j a ho z, z⟩
        | ex c fs ρ' =>
          rw [q] at hm
          simp only [endF] at hm
          intro cls d σ' H' F' ag cn fr x
          cases q2 : fin fd.modes ρ' with
          | none => rw [q2] at hm; exact hm.elim
          | some ms =>
            rw [q2] at hm
            exact hm cls d H' F' (out q2 ag cn fr) x
end
end Mp

namespace Mp
open PySem PySem.Spec PyProof.Rows L2

section
variable {P : Program} {w : World} {K : PySem.W.Frag} {mg : Str → Option Value} {base : Heap} {fds : List Fd} {blts : List Str} {glb : List (Str × I)} {exc : Nat → Addr}
def SpAll (exc : Nat → Addr) (fds : List Fd) (modes : List Bool) (k li : Nat) : Sp := fun vs H Q E => ∃ n, SpF exc modes (GF fds n k li) vs H Q E
theorem law_fn (md : Mod0 fds blts glb K mg) {k li : Nat} {fd : Fd} {fa : Addr} {fdta : FuncData} (hf : fds[li]? = some fd) (F : Fun K fd.name fd.name fd.st fa fdta) :
    FnOk P w K mg base (L2.CX P w) k fa fdta fd.ps (SpAll exc fds fd.modes k li) :=
  ⟨fun vs H Q E ⟨n, h⟩ => (fd_ok (n := n) (exc := exc) (P := P) (w := w) (base := base) md k li fd fa fdta hf F).len vs H Q E h,
    fun A outer s H args us vs Q E hr e0 hb r ⟨n, h⟩ => (fd_ok (n := n) (exc := exc) md k li fd fa fdta hf F).run A outer s H args us vs Q E hr e0 hb r h⟩
theorem ints_rd {H : Hp} : ∀ (ns : List Int), RDs H (ns.map fun i => Mp.D.i (.int i)) (ns.map V.int) []
  | [] => .nil
  | n :: ns => by
    have := RDs.cons (RD.i (RI.int (H := H) n)) (ints_rd (H := H) ns)
    simpa using this
theorem law_sp (noList : ∀ a o, K.lookup a = some o → o.cls ≠ .type "list") {k li : Nat} {ns : List Int} (hv : ∃ n ms, GF fds n k li [.lst (ns.map fun i => .i (.int i))] = .ok (.i (.bl true)) ms) {H : Hp} {a : Addr}
    (hS : SqL K H a (ns.map V.int)) : SpAll exc fds [false] k li [.ref a] H (fun v _ => v = .bl true) fun _ _ _ => False := by
  obtain ⟨n, ms, e⟩ := hv
  rcases hS with hS | ⟨o, _, _, h1, h2, _⟩
  · refine ⟨n, [.lst (ns.map fun i => .i (.int i))], fun j => if j = 0 then [a] else [], ⟨rfl, rfl, fun j d h => ?_, fun j h => ?_, fun j h => ?_, fun j h => ?_, fun i j h => ?_⟩, ?_⟩
    · cases j with
      | zero =>
        cases h
        exact ⟨.ref a, rfl, .lst hS (ints_rd ns)⟩
      | succ j => simp at h
    · have : j ≠ 0 := by simp at h; omega
      simp [this]
    · cases j <;> simp at h
    · cases j <;> simp at h
    · cases j <;> simp at h
    · rw [e]
      intro v H' S Fm o rv _ _
      exact rv.bl_inv.1
  · exact absurd h2 (noList a o h1)
end
end Mp

namespace Mp
open PySem

def WE {α : Type} (r : R α) (Q : α → Env → Prop) : Prop := match r with
  | .ok a ρ => Q a ρ
  | _ => False
structure WF (r : FR) (Q : D → List D → Prop) : Prop where
  out : ∃ d ms, r = .ok d ms ∧ Q d ms
def WS (r : Fl) (N : Env → Prop) (T : D → Env → Prop) (B C : Env → Prop) : Prop := match r with
  | .next ρ => N ρ
  | .ret d ρ => T d ρ
  | .brk ρ => B ρ
  | .cont ρ => C ρ
  | _ => False
theorem WE.mono {α : Type} {r : R α} {Q Q' : α → Env → Prop} (h : WE r Q) (q : ∀ a ρ, Q a ρ → Q' a ρ) : WE r Q' := by
  cases r <;> first | exact q _ _ h | exact h
theorem WF.mono {r : FR} {Q Q' : D → List D → Prop} (h : WF r Q) (q : ∀ a ρ, Q a ρ → Q' a ρ) : WF r Q' := let ⟨d, ms, e, z⟩ := h.out; ⟨d, ms, e, q _ _ z⟩
theorem WF.ok {r : FR} {d : D} {ms : List D} {Q : D → List D → Prop} (h : r = .ok d ms) (q : Q d ms) : WF r Q := ⟨d, ms, h, q⟩
theorem WF.inv {r : FR} {Q : D → List D → Prop} (h : WF r Q) : ∃ d ms, r = .ok d ms ∧ Q d ms := h.out
theorem WS.mono {r : Fl} {N N' : Env → Prop} {T T' : D → Env → Prop} {B B' C C' : Env → Prop} (h : WS r N T B C) (n : ∀ ρ, N ρ → N' ρ) (t : ∀ d ρ, T d ρ → T' d ρ) (b : ∀ ρ, B ρ → B' ρ) (c : ∀ ρ, C ρ → C' ρ) : WS r N' T' B' C' := by
  cases r <;> first | exact n _ h | exact t _ _ h | exact b _ h | exact c _ h | exact h

section
variable {α β : Type} {ρ : Env}
theorem WE.bnd {m : M α} {f : α → M β} {Q : β → Env → Prop} (h : WE (m ρ) fun a ρ' => WE (f a ρ') Q) : WE (bnd m f ρ) Q := by
  unfold Mp.bnd
  cases e : m ρ with
  | ok a ρ' => rw [e] at h; exact h
  | ex c fs ρ' => rw [e] at h; exact h
  | no => rw [e] at h; exact h
theorem WE.ret {a : α} {Q : α → Env → Prop} (h : Q a ρ) : WE (ret a ρ) Q := h
theorem WE.lift {o : Option α} {a : α} {Q : α → Env → Prop} (e : o = some a) (h : Q a ρ) : WE (lift o ρ) Q := by subst e; exact h
theorem WE.ite {c : Bool} {m m' : M α} {Q : α → Env → Prop} (h : c = true → WE (m ρ) Q) (h' : c = false → WE (m' ρ) Q) : WE ((if c then m else m') ρ) Q := by
  cases c
  · exact h' rfl
  · exact h rfl
end

section
variable {Z : Z0} {G : GS} {n : Nat} {ρ : Env} {Q : D → Env → Prop}
theorem w_c {x : I} (h : Q (.i x) ρ) : WE (ev Z G (.c x) ρ) Q := by simp only [ev]; exact h
theorem w_g {s : Str} {x : I} (h : Q (.i x) ρ) : WE (ev Z G (.g s x) ρ) Q := by simp only [ev]; exact h
theorem w_v {i : Nat} {d : D} (e : getE ρ i = some d) (h : Q d ρ) : WE (ev Z G (.v i) ρ) Q := by simp only [ev, e]; exact h
theorem w_mv {i : Nat} {d : D} (e : getE ρ i = some d) (h : Q d (killL Z.inf i ρ)) : WE (ev Z G (.mv i) ρ) Q := by simp only [ev, e]; exact h
theorem w_op {o : Op} {as : Ps} (h : WE (evs Z G as ρ) fun ds ρ' => ∃ d, opF o ds = some d ∧ Q d ρ') : WE (ev Z G (.op o as) ρ) Q := by
  simp only [ev]
  exact WE.bnd (h.mono fun ds ρ' ⟨d, e, q⟩ => WE.lift e q)
theorem w_nil {Q : List D → Env → Prop} (h : Q [] ρ) : WE (evs Z G .nil ρ) Q := by simp only [evs]; exact h
theorem w_cons {p : P} {ps : Ps} {Q : List D → Env → Prop} (h : WE (ev Z G p ρ) fun d ρ' => WE (evs Z G ps ρ') fun ds ρ2 => Q (d :: ds) ρ2) : WE (evs Z G (.cons p ps) ρ) Q := by
  simp only [evs]
  exact WE.bnd (h.mono fun d ρ' h => WE.bnd (h.mono fun ds ρ2 q => q))
theorem w_im {p : P} (h : WE (ev Z G p ρ) fun d ρ' => immK (kd Z p) d = true ∧ Q d ρ') : WE (ev Z G (.im p) ρ) Q := by
  simp only [ev]
  unfold immM
  exact WE.bnd (h.mono fun d ρ' ⟨e, q⟩ => by rw [e]; exact q)
theorem w_immM {k : Kd} {m : M D} (h : WE (m ρ) fun d ρ' => immK k d = true ∧ Q d ρ') : WE (immM k m ρ) Q := by
  unfold immM
  exact WE.bnd (h.mono fun d ρ' ⟨e, q⟩ => by rw [e]; exact q)
theorem w_nt {p : P} (h : WE (ev Z G p ρ) fun d ρ' => ∃ b, truth d = some b ∧ Q (.i (.bl (!b))) ρ') : WE (ev Z G (.nt p) ρ) Q := by
  simp only [ev]
  exact WE.bnd (h.mono fun d ρ' ⟨b, e, q⟩ => WE.bnd (WE.lift e q))
theorem w_an {p q : P} (h : WE (ev Z G p ρ) fun d ρ' => ∃ b, truth d = some b ∧ (b = true → WE (ev Z G q ρ') Q) ∧ (b = false → Q d ρ')) : WE (ev Z G (.an p q) ρ) Q := by
  simp only [ev]
  exact WE.bnd (h.mono fun d ρ' ⟨b, e, q1, q2⟩ => WE.bnd (WE.lift e (WE.ite q1 q2)))
theorem w_or {p q : P} (h : WE (ev Z G p ρ) fun d ρ' => ∃ b, truth d = some b ∧ (b = true → Q d ρ') ∧ (b = false → WE (ev Z G q ρ') Q)) : WE (ev Z G (.or p q) ρ) Q := by
  simp only [ev]
  exact WE.bnd (h.mono fun d ρ' ⟨b, e, q1, q2⟩ => WE.bnd (WE.lift e (WE.ite q1 q2)))
theorem w_ite {c p q : P} (h : WE (ev Z G c ρ) fun d ρ' => ∃ b, truth d = some b ∧ (b = true → WE (ev Z G p ρ') Q) ∧ (b = false → WE (ev Z G q ρ') Q)) : WE (ev Z G (.ite c p q) ρ) Q := by
  simp only [ev]
  exact WE.bnd (h.mono fun d ρ' ⟨b, e, q1, q2⟩ => WE.bnd (WE.lift e (WE.ite q1 q2)))
theorem w_ch {o o' : Op} {a b c : P} (h : WE (ev Z G a ρ) fun x ρ1 => WE (ev Z G b ρ1) fun y ρ2 => ∃ k, opF o [x, y] = some (.i (.bl k)) ∧ (k = true → WE (ev Z G c ρ2) fun w ρ3 => ∃ d, opF o' [y, w] = some d ∧ Q d ρ3) ∧ (k = false → Q (.i (.bl false)) ρ2)) :
    WE (ev Z G (.ch o o' a b c) ρ) Q := by
  simp only [ev]
  refine WE.bnd (h.mono fun x ρ1 h => WE.bnd (h.mono fun y ρ2 ⟨k, e, q1, q2⟩ => WE.bnd (WE.lift e ?_)))
  cases k with
  | true => exact WE.bnd ((q1 rfl).mono fun w ρ3 ⟨d, e, q⟩ => WE.lift e q)
  | false => exact q2 rfl
theorem w_sl {a b c : P} (h : WE (ev Z G a ρ) fun x ρ1 => WE (ev Z G b ρ1) fun y ρ2 => ∃ i, intD y = some i ∧ WE (ev Z G c ρ2) fun z ρ3 => ∃ j, intD z = some j ∧ ∃ d, slF x (some i) (some j) = some d ∧ Q d ρ3) : WE (ev Z G (.sl a b c) ρ) Q := by
  simp only [ev]
  exact WE.bnd (h.mono fun x ρ1 h => WE.bnd (h.mono fun y ρ2 ⟨i, e, h⟩ => WE.bnd (WE.lift e (WE.bnd (h.mono fun z ρ3 ⟨j, e2, d, e3, q⟩ => WE.bnd (WE.lift e2 (WE.lift e3 q)))))))
theorem w_get {a b c : P} (h : WE (ev Z G a ρ) fun x ρ1 => isDk x = some () ∧ WE (ev Z G b ρ1) fun y ρ2 => WE (ev Z G c ρ2) fun z ρ3 => ∃ d, getF x y z = some d ∧ Q d ρ3) : WE (ev Z G (.get a b c) ρ) Q := by
  simp only [ev]
  exact WE.bnd (h.mono fun x ρ1 ⟨e, h⟩ => WE.bnd (WE.lift e (WE.bnd (h.mono fun y ρ2 h => WE.bnd (h.mono fun z ρ3 ⟨d, e3, q⟩ => WE.lift e3 q)))))
theorem w_dnil {Q : List D → Env → Prop} (h : Q [] ρ) : WE (evd Z G .nil ρ) Q := by simp only [evd]; exact h
theorem w_dcons {p : P} {ps : Ps} {Q : List D → Env → Prop} (h : WE (ev Z G p ρ) fun d ρ' => immK (kd Z p) d = true ∧ WE (evd Z G ps ρ') fun ds ρ2 => Q (d :: ds) ρ2) : WE (evd Z G (.cons p ps) ρ) Q := by
  simp only [evd]
  exact WE.bnd (w_immM (h.mono fun d ρ' ⟨e, h⟩ => ⟨e, WE.bnd (h.mono fun ds ρ2 q => q)⟩))
theorem w_tup {as : Ps} (h : WE (evd Z G as ρ) fun ds ρ' => ds.length ≤ sizeLine ∧ Q (mkT ds) ρ') : WE (ev Z G (.tup as) ρ) Q := by
  simp only [ev]
  exact WE.bnd (h.mono fun ds ρ' ⟨e, q⟩ => by rw [if_pos e]; exact q)
theorem w_lst {as : Ps} (h : WE (evd Z G as ρ) fun ds ρ' => ds.length ≤ sizeLine ∧ Q (.lst ds) ρ') : WE (ev Z G (.lst as) ρ) Q := by
  simp only [ev]
  exact WE.bnd (h.mono fun ds ρ' ⟨e, q⟩ => by rw [if_pos e]; exact q)
theorem w_mt {m : Mt} {i : Nat} {ks as : Ps} (h : getE ρ i ≠ none ∧ WE (evs Z G ks ρ) fun ks' ρ1 => WE (tyM m i ks' ρ1) fun _ ρ2 => WE (evd Z G as ρ2) fun ds ρ3 => WE (mtM Z.inf m i ks' ds ρ3) Q) : WE (ev Z G (.mt m i ks as) ρ) Q := by
  simp only [ev]
  refine WE.bnd ?_
  unfold hasN
  cases e : getE ρ i with
  | none => exact absurd e h.1
  | some d => exact WE.bnd (h.2.mono fun ks' ρ1 h => WE.bnd (h.mono fun _ ρ2 h => WE.bnd h))
theorem w_mt0 {m : Mt} {i : Nat} {as : Ps} {d : D} (e : getE ρ i = some d) (ht : tyD d = mtT m) (h : WE (evd Z G as ρ) fun ds ρ3 => ∃ d1 d2 r, getE ρ3 i = some d1 ∧ mtF m ds d1 = some (d2, r) ∧ Q r (setE Z.inf i d2 ρ3)) : WE (ev Z G (.mt m i .nil as) ρ) Q := by
  refine w_mt ⟨(by rw [e]; exact fun z => (by cases z)), w_nil ?_⟩
  unfold tyM
  rw [e]
  show WE (if tyD d = mtT m then _ else _) _
  rw [if_pos ht]
  refine h.mono fun ds ρ3 ⟨d1, d2, r, e1, e2, q⟩ => ?_
  unfold mtM
  rw [e1]
  show WE (match mutAt (mtF m ds) [] d1 with
    | some (d', r) => _
    | none => _) _
  unfold mutAt
  rw [e2]
  exact q
theorem w_call {f : Nat} {as : Ps} (h : WE (evA Z G as (Z.modes f) ρ) fun os ρ' => ∃ ds, fillA (mutR (Z.modes f) as) os ρ' = some ds ∧ WF (G f ds) fun d ms => Q d (putB Z.inf (mutR (Z.modes f) as) ms ρ')) : WE (ev Z G (.call f as) ρ) Q := by
  simp only [ev]
  refine WE.bnd (h.mono fun os ρ' ⟨ds, e, w⟩ => ?_)
  unfold callM
  rw [e]
  obtain ⟨d, ms, e2, q⟩ := w.inv
  dsimp only
  rw [e2]
  exact q
theorem w_anil {Q : List (Option D) → Env → Prop} {ms : List Bool} (h : Q [] ρ) : WE (evA Z G .nil ms ρ) Q := by simp only [evA]; exact h
theorem w_amut {i : Nat} {ps : Ps} {ms : List Bool} {Q : List (Option D) → Env → Prop} {d : D} (e : getE ρ i = some d) (h : WE (evA Z G ps ms ρ) fun os ρ' => Q (none :: os) ρ') : WE (evA Z G (.cons (.v i) ps) (true :: ms) ρ) Q := by
  simp only [evA, e]
  exact WE.bnd (h.mono fun os ρ' q => q)
theorem w_aro {p : P} {ps : Ps} {ms : List Bool} {Q : List (Option D) → Env → Prop} (h : WE (ev Z G p ρ) fun d ρ' => WE (evA Z G ps ms ρ') fun os ρ2 => Q (some d :: os) ρ2) : WE (evA Z G (.cons p ps) (false :: ms) ρ) Q := by
  have : evA Z G (.cons p ps) (false :: ms) = bnd (ev Z G p) fun d => bnd (evA Z G ps ms) fun r => ret (some d :: r) := by
    cases p <;> simp only [evA, List.tail_cons]
  rw [this]
  exact WE.bnd (h.mono fun d ρ' h => WE.bnd (h.mono fun os ρ2 q => q))
theorem w_seq {p : P} {Q : List D → Env → Prop} (h : WE (ev Z G p ρ) fun d ρ' => ∃ ds, itemsD d = some ds ∧ Q ds ρ') : WE (evI Z G (.seq p) ρ) Q := by
  simp only [evI]
  exact WE.bnd (h.mono fun d ρ' ⟨ds, e, q⟩ => WE.lift e q)
theorem w_rng {as : Ps} {Q : List D → Env → Prop} (h : WE (evs Z G as ρ) fun d ρ' => ∃ ds, rngF d = some ds ∧ Q ds ρ') : WE (evI Z G (.rng as) ρ) Q := by
  simp only [evI]
  exact WE.bnd (h.mono fun d ρ' ⟨ds, e, q⟩ => WE.lift e q)
theorem w_enum {p : P} {Q : List D → Env → Prop} (h : WE (ev Z G p ρ) fun d ρ' => ∃ ds, (kidsL d).map enumF = some ds ∧ Q ds ρ') : WE (evI Z G (.enum p) ρ) Q := by
  simp only [evI]
  exact WE.bnd (h.mono fun d ρ' ⟨ds, e, q⟩ => WE.lift e q)
theorem w_zip {as : Ps} {Q : List D → Env → Prop} (h : WE (evs Z G as ρ) fun d ρ' => ∃ ds, zip2 d = some ds ∧ Q ds ρ') : WE (evI Z G (.zip as) ρ) Q := by
  simp only [evI]
  exact WE.bnd (h.mono fun d ρ' ⟨ds, e, q⟩ => WE.lift e q)
theorem w_rev {p : P} {Q : List D → Env → Prop} (h : WE (ev Z G p ρ) fun d ρ' => ∃ ds, (kids d).map List.reverse = some ds ∧ Q ds ρ') : WE (evI Z G (.rev p) ρ) Q := by
  simp only [evI]
  exact WE.bnd (h.mono fun d ρ' ⟨ds, e, q⟩ => WE.lift e q)
theorem w_tn {inf : Inf} {k : Kd} {i : Nat} {d : D} {Q : Unit → Env → Prop} (h : mayHold inf k i d = true) (hl : i < ρ.length) (q : Q () (setE inf i d ρ)) : WE (setT inf k (.n i) d ρ) Q := by
  simp only [setT, setN]
  rw [if_pos (by rw [h, decide_eq_true hl]; rfl)]
  exact q
theorem w_tt {inf : Inf} {k : Kd} {ts : Tgs} {d : D} {ds : List D} {Q : Unit → Env → Prop} (e : kidsT d = some ds) (h : WE (setTs inf k ts ds ρ) Q) : WE (setT inf k (.t ts) d ρ) Q := by
  simp only [setT, e]
  exact h
theorem w_tsn {inf : Inf} {k : Kd} {Q : Unit → Env → Prop} (h : Q () ρ) : WE (setTs inf k .nil [] ρ) Q := by simp only [setTs]; exact h
theorem w_tsc {inf : Inf} {k : Kd} {t : Tg} {ts : Tgs} {d : D} {ds : List D} {Q : Unit → Env → Prop} (h : WE (setT inf k t d ρ) fun _ ρ' => WE (setTs inf k ts ds ρ') Q) : WE (setTs inf k (.cons t ts) (d :: ds) ρ) Q := by
  simp only [setTs]
  exact WE.bnd h
theorem w_parn {inf : Inf} {Q : Unit → Env → Prop} (h : Q () ρ) : WE (setPar inf [] [] ρ) Q := by simp only [setPar]; exact h
theorem w_parc {inf : Inf} {i : Nat} {is : List Nat} {d : D} {ds : List D} {Q : Unit → Env → Prop} (h : WE (setPar inf is ds ρ) fun _ ρ' => i < ρ'.length ∧ Q () (setE inf i d ρ')) : WE (setPar inf (i :: is) (d :: ds) ρ) Q := by
  simp only [setPar]
  refine WE.bnd (h.mono fun _ ρ' ⟨hl, q⟩ => ?_)
  have hm : mayHold inf .fr i d = true := by unfold mayHold; split <;> rfl
  unfold setN
  rw [if_pos (by rw [hm, decide_eq_true hl]; rfl)]
  exact q
variable {N : Env → Prop} {T : D → Env → Prop} {B C : Env → Prop}
theorem w_run {α : Type} {m : M α} {f : α → Env → Fl} (h : WE (m ρ) fun a ρ' => WS (f a ρ') N T B C) : WS (runM m f ρ) N T B C := by
  unfold runM
  cases e : m ρ with
  | ok a ρ' => rw [e] at h; exact h
  | ex c fs ρ' => rw [e] at h; exact h.elim
  | no => rw [e] at h; exact h.elim
theorem w_ssnil (h : N ρ) : WS (exs Z G n .nil ρ) N T B C := by simp only [exs]; exact h
theorem w_sscons {s : S} {ss : Ss} (h : WS (exS Z G n s ρ) (fun ρ' => WS (exs Z G n ss ρ') N T B C) T B C) : WS (exs Z G n (.cons s ss) ρ) N T B C := by
  simp only [exs, seqF]
  cases e : exS Z G n s ρ <;> rw [e] at h <;> exact h
theorem w_asg {t : Tg} {p : P} (h : WE (ev Z G p ρ) fun d ρ' => WE (setT Z.inf (kd Z p) t d ρ') fun _ ρ2 => N ρ2) : WS (exS Z G n (.asg t p) ρ) N T B C := by
  simp only [exS]
  exact w_run (WE.bnd (h.mono fun d ρ' h => h.mono fun _ ρ2 q => q))
theorem w_par {is : List Nat} {ps : Ps} (h : WE (evd Z G ps ρ) fun ds ρ' => WE (setPar Z.inf is ds ρ') fun _ ρ2 => N ρ2) : WS (exS Z G n (.par is ps) ρ) N T B C := by
  simp only [exS]
  exact w_run (WE.bnd (h.mono fun d ρ' h => h.mono fun _ ρ2 q => q))
theorem w_sub {i : Nat} {ks : Ps} {p : P} (h : WE (ev Z G p ρ) fun d ρ' => immK (kd Z p) d = true ∧ getE ρ' i ≠ none ∧ WE (evs Z G ks ρ') fun ks' ρ2 => WE (subM Z.inf i ks' d ρ2) fun _ ρ3 => N ρ3) : WS (exS Z G n (.sub i ks p) ρ) N T B C := by
  simp only [exS]
  refine w_run (WE.bnd (w_immM (h.mono fun d ρ' ⟨e, hn, h⟩ => ⟨e, WE.bnd ?_⟩)))
  unfold hasN
  cases e2 : getE ρ' i with
  | none => exact absurd e2 hn
  | some d0 =>
    refine WE.bnd ?_
    unfold noX
    cases e3 : evs Z G ks ρ' with
    | ok ks' ρ2 => rw [e3] at h; exact h
    | ex c fs ρ2 => rw [e3] at h; exact h.elim
    | no => rw [e3] at h; exact h.elim
theorem w_aug {o : Op} {i : Nat} {p : P} {x : I} (e : getE ρ i = some (.i x)) (h : WE (ev Z G p ρ) fun d ρ' => ∃ z, augF o (.i x) d = some z ∧ i < ρ'.length ∧ mayHold Z.inf .fr i z = true ∧ N (setE Z.inf i z ρ')) : WS (exS Z G n (.aug o i p) ρ) N T B C := by
  simp only [exS]
  refine w_run ?_
  unfold augM
  rw [e]
  refine WE.bnd (h.mono fun d ρ' ⟨z, e2, hl, hm, q⟩ => WE.bnd (WE.lift e2 ?_))
  unfold setN
  rw [if_pos (by rw [hm, decide_eq_true hl]; rfl)]
  exact q
theorem w_augS {o : Op} {i : Nat} {ks : Ps} {p : P} (h0 : getE ρ i ≠ none) (h : WE (evs Z G ks ρ) fun ks' ρ' => WE (augSM Z.inf o i ks' (ev Z G p) ρ') fun _ ρ2 => N ρ2) : WS (exS Z G n (.augS o i ks p) ρ) N T B C := by
  simp only [exS]
  refine w_run (WE.bnd ?_)
  unfold hasN
  cases e2 : getE ρ i with
  | none => exact absurd e2 h0
  | some d0 => exact WE.bnd h
theorem w_augSe {o : Op} {i : Nat} {ks : Ps} {p : P} {d0 : D} (h0 : getE ρ i = some d0) (h : WE (evs Z G ks ρ) fun ks' ρ' => WE (augSM Z.inf o i ks' (ev Z G p) ρ') fun _ ρ2 => N ρ2) : WS (exS Z G n (.augS o i ks p) ρ) N T B C :=
  w_augS (by rw [h0]; exact fun z => (by cases z)) h
theorem w_exp {p : P} (h : WE (ev Z G p ρ) fun _ ρ' => N ρ') : WS (exS Z G n (.exp p) ρ) N T B C := by
  simp only [exS]
  exact w_run (h.mono fun _ _ q => q)
theorem w_iff {c : P} {a b : Ss} (h : WE (ev Z G c ρ) fun d ρ' => ∃ k, truth d = some k ∧ (k = true → WS (exs Z G n a ρ') N T B C) ∧ (k = false → WS (exs Z G n b ρ') N T B C)) : WS (exS Z G n (.iff c a b) ρ) N T B C := by
  simp only [exS]
  refine w_run ?_
  unfold testM
  refine WE.bnd (h.mono fun d ρ' ⟨k, e, q1, q2⟩ => WE.lift e ?_)
  cases k
  · exact q2 rfl
  · exact q1 rfl
theorem w_ret {p : P} (h : WE (ev Z G p ρ) fun d ρ' => immK (kd Z p) d = true ∧ T d ρ') : WS (exS Z G n (.ret p) ρ) N T B C := by
  simp only [exS]
  exact w_run (w_immM h)
theorem w_retN (h : T (.i .non) ρ) : WS (exS Z G n .retN ρ) N T B C := by simp only [exS]; exact h
theorem w_brk (h : B ρ) : WS (exS Z G n .brk ρ) N T B C := by simp only [exS]; exact h
theorem w_cont (h : C ρ) : WS (exS Z G n .cont ρ) N T B C := by simp only [exS]; exact h
theorem w_pass (h : N ρ) : WS (exS Z G n .pass ρ) N T B C := by simp only [exS]; exact h
theorem w_loop {t : Tg} {it : It} {b : Ss} (I : List D → Nat → Env → Prop) (h : WE (evI Z G it ρ) fun ds ρ' => I ds 0 ρ' ∧ (∀ i (hi : i < ds.length) ρ1, I ds i ρ1 → WE (setT Z.inf (kdI Z it) t ds[i] ρ1) fun _ ρ2 => WS (exs Z G n b ρ2) (I ds (i + 1)) T N (I ds (i + 1))) ∧ ∀ ρ1, I ds ds.length ρ1 → N ρ1) :
    WS (exS Z G n (.loop t it b) ρ) N T B C := by
  simp only [exS]
  refine w_run (h.mono fun ds ρ' ⟨h0, hs, he⟩ => ?_)
  have key : ∀ (m i : Nat) ρ1, i + m = ds.length → I ds i ρ1 → WS (forL (setT Z.inf (kdI Z it) t) (exs Z G n b) (ds.drop i) ρ1) N T B C := by
    intro m
    induction m with
    | zero =>
      intro i ρ1 e h
      rw [List.drop_eq_nil_of_le (by omega)]
      exact he ρ1 (by rwa [show i = ds.length by omega] at h)
    | succ m ih =>
      intro i ρ1 e h
      have hi : i < ds.length := by omega
      rw [List.drop_eq_getElem_cons hi]
      show WS (runM _ _ ρ1) _ _ _ _
      refine w_run ((hs i hi ρ1 h).mono fun _ ρ2 w => ?_)
      unfold turnF
      cases e2 : exs Z G n b ρ2 with
      | next ρ3 => rw [e2] at w; exact ih (i + 1) ρ3 (by omega) w
      | cont ρ3 => rw [e2] at w; exact ih (i + 1) ρ3 (by omega) w
      | brk ρ3 => rw [e2] at w; exact w
      | ret d ρ3 => rw [e2] at w; exact w
      | ex c fs ρ3 => rw [e2] at w; exact w
      | no => rw [e2] at w; exact w
  exact key ds.length 0 ρ' (by omega) h0
theorem w_whl {c : P} {b : Ss} (I : Nat → Env → Prop) {m : Nat} (hm : m < n) (h0 : I m ρ) (h : ∀ k ρ1, I k ρ1 → WE (ev Z G c ρ1) fun d ρ2 => ∃ t, truth d = some t ∧ (t = true → 0 < k ∧ WS (exs Z G n b ρ2) (I (k - 1)) T N (I (k - 1))) ∧ (t = false → N ρ2)) :
    WS (exS Z G n (.whl c b) ρ) N T B C := by
  simp only [exS]
  have key : ∀ (l k : Nat) ρ1, k < l → I k ρ1 → WS (whL (testM (ev Z G c)) (exs Z G n b) l ρ1) N T B C := by
    intro l
    induction l with
    | zero => intro k ρ1 e; omega
    | succ l ih =>
      intro k ρ1 e hk
      show WS (runM _ _ ρ1) _ _ _ _
      refine w_run ?_
      unfold testM
      refine WE.bnd ((h k ρ1 hk).mono fun d ρ2 ⟨t, e1, q1, q2⟩ => WE.lift e1 ?_)
      cases t with
      | false => exact q2 rfl
      | true =>
        obtain ⟨hp, w⟩ := q1 rfl
        rw [if_pos rfl]
        unfold turnF
        cases e2 : exs Z G n b ρ2 with
        | next ρ3 => rw [e2] at w; exact ih (k - 1) ρ3 (by omega) w
        | cont ρ3 => rw [e2] at w; exact ih (k - 1) ρ3 (by omega) w
        | brk ρ3 => rw [e2] at w; exact w
        | ret d ρ3 => rw [e2] at w; exact w
        | ex c fs ρ3 => rw [e2] at w; exact w
        | no => rw [e2] at w; exact w
  exact key n m ρ hm h0
end
section
variable {α β : Type} {Z : Z0} {G : GS}
theorem w_comp {vs : List Nat} {step : D → M (List β)} {ds : List D} {Q : List β → Env → Prop} (I : Nat → List β → Env → Prop) {ρ : Env} (h0 : I 0 [] ρ)
    (hs : ∀ i (hi : i < ds.length) acc ρ1, I i acc ρ1 → WE (step ds[i] ρ1) fun xs ρ2 => I (i + 1) (acc ++ xs) (wipeE ρ2 vs)) (he : ∀ acc ρ1, I ds.length acc ρ1 → Q acc ρ1) : WE (compL vs step ds ρ) Q := by
  have key : ∀ (m i : Nat) acc ρ1, i + m = ds.length → I i acc ρ1 → WE (compL vs step (ds.drop i) ρ1) fun xs ρ2 => Q (acc ++ xs) ρ2 := by
    intro m
    induction m with
    | zero =>
      intro i acc ρ1 e h
      rw [List.drop_eq_nil_of_le (by omega)]
      show Q (acc ++ []) ρ1
      rw [List.append_nil]
      exact he acc ρ1 (by rwa [show i = ds.length by omega] at h)
    | succ m ih =>
      intro i acc ρ1 e h
      have hi : i < ds.length := by omega
      rw [List.drop_eq_getElem_cons hi]
      show WE (bnd _ _ ρ1) _
      refine WE.bnd ((hs i hi acc ρ1 h).mono fun xs ρ2 h2 => WE.bnd ?_)
      show WE (bnd _ _ _) _
      refine WE.bnd ((ih (i + 1) (acc ++ xs) _ (by omega) h2).mono fun ys ρ3 q => ?_)
      show Q (acc ++ (xs ++ ys)) ρ3
      rw [← List.append_assoc]
      exact q
  exact (key ds.length 0 [] ρ (by omega) h0).mono fun xs ρ2 q => by simpa using q
theorem w_blk {vs : List Nat} {m : M α} {ρ : Env} {Q : α → Env → Prop} (h : WE (m (wipeE ρ vs)) fun a ρ' => Q a (restE ρ ρ' vs)) : WE (inBlk vs m ρ) Q := by
  unfold inBlk
  cases e : m (wipeE ρ vs) with
  | ok a ρ' => rw [e] at h; exact h
  | ex c fs ρ' => rw [e] at h; exact h
  | no => rw [e] at h; exact h
theorem w_lc {ρ : Env} {Q : D → Env → Prop} {e : P} {t : Tg} {it : It} {cd : Ps} {vs : List Nat} (h : WE (evI Z G it ρ) fun ds ρ' => WE (compL vs (fun d => bnd (setT Z.inf (kdI Z it) t d) fun _ => bnd (evC Z G cd) fun b => if b then bnd (immM (kd Z e) (ev Z G e)) fun x => ret [x] else ret []) ds (wipeE ρ' vs)) fun xs ρ2 =>
    xs.length ≤ sizeLine ∧ Q (.lst xs) (restE ρ' ρ2 vs)) : WE (ev Z G (.lc e t it cd vs) ρ) Q := by
  simp only [ev]
  exact WE.bnd (h.mono fun ds ρ' h => WE.bnd (w_blk (h.mono fun xs ρ2 ⟨hl, q⟩ => by rw [if_pos hl]; exact q)))
theorem w_dc {ρ : Env} {Q : D → Env → Prop} {k e : P} {t : Tg} {it : It} {cd : Ps} {vs : List Nat} (h : WE (evI Z G it ρ) fun ds ρ' => WE (compL vs (fun d => bnd (setT Z.inf (kdI Z it) t d) fun _ => bnd (evC Z G cd) fun b => if b then bnd (ev Z G k) fun y => bnd (immM (kd Z e) (ev Z G e)) fun x => ret [(y, x)] else ret []) ds (wipeE ρ' vs)) fun xs ρ2 =>
    ∃ d, mkDk xs = some d ∧ Q d (restE ρ' ρ2 vs)) : WE (ev Z G (.dc k e t it cd vs) ρ) Q := by
  simp only [ev]
  exact WE.bnd (h.mono fun ds ρ' h => WE.bnd (w_blk (h.mono fun xs ρ2 ⟨d, hl, q⟩ => WE.lift hl q)))
theorem w_cnil {ρ : Env} {Q : Bool → Env → Prop} (h : Q true ρ) : WE (evC Z G .nil ρ) Q := by simp only [evC]; exact h
theorem w_cone {ρ : Env} {p : P} {Q : Bool → Env → Prop} (h : WE (ev Z G p ρ) fun d ρ' => ∃ b, truth d = some b ∧ Q b ρ') : WE (evC Z G (.cons p .nil) ρ) Q := by
  simp only [evC]
  refine WE.bnd (h.mono fun d ρ' ⟨b, e, q⟩ => WE.bnd (WE.lift e ?_))
  cases b <;> exact q
theorem w_step {ρ : Env} {inf : Inf} {k ke : Kd} {t : Tg} {cd : Ps} {e : P} {d : D} {Q : List D → Env → Prop} (h : WE (setT inf k t d ρ) fun _ ρ1 => WE (evC Z G cd ρ1) fun b ρ2 => (b = true → WE (ev Z G e ρ2) fun x ρ3 => immK ke x = true ∧ Q [x] ρ3) ∧ (b = false → Q [] ρ2)) :
    WE ((bnd (setT inf k t d) fun _ => bnd (evC Z G cd) fun b => if b then bnd (immM ke (ev Z G e)) fun x => ret [x] else ret []) ρ) Q := by
  refine WE.bnd (h.mono fun _ ρ1 h => WE.bnd (h.mono fun b ρ2 ⟨h1, h2⟩ => ?_))
  cases b with
  | false => exact h2 rfl
  | true => exact WE.bnd (w_immM ((h1 rfl).mono fun x ρ3 h => h))
theorem w_stepD {ρ : Env} {inf : Inf} {k ke : Kd} {t : Tg} {cd : Ps} {kp e : P} {d : D} {Q : List (D × D) → Env → Prop} (h : WE (setT inf k t d ρ) fun _ ρ1 => WE (evC Z G cd ρ1) fun b ρ2 => (b = true → WE (ev Z G kp ρ2) fun y ρ3 => WE (ev Z G e ρ3) fun x ρ4 => immK ke x = true ∧ Q [(y, x)] ρ4) ∧ (b = false → Q [] ρ2)) :
    WE ((bnd (setT inf k t d) fun _ => bnd (evC Z G cd) fun b => if b then bnd (ev Z G kp) fun y => bnd (immM ke (ev Z G e)) fun x => ret [(y, x)] else ret []) ρ) Q := by
  refine WE.bnd (h.mono fun _ ρ1 h => WE.bnd (h.mono fun b ρ2 ⟨h1, h2⟩ => ?_))
  cases b with
  | false => exact h2 rfl
  | true => exact WE.bnd ((h1 rfl).mono fun y ρ3 h => WE.bnd (w_immM (h.mono fun x ρ4 h => h)))
end
theorem w_def {fds : List Fd} {n k f : Nat} {fd : Fd} {ds : List D} {Q : D → List D → Prop} (hf : fds[f]? = some fd) (hl : ds.length = fd.modes.length)
    (h : WS (exs ⟨fd.inf, fds.map (·.modes)⟩ (GF fds n k) n fd.body (ds.map some ++ List.replicate (fd.N.length - ds.length) none)) (fun ρ => ∃ ms, fin fd.modes ρ = some ms ∧ Q (.i .non) ms) (fun d ρ => ∃ ms, fin fd.modes ρ = some ms ∧ Q d ms) (fun _ => False) (fun _ => False)) :
    WF (GF fds n (k + 1) f ds) Q := by
  have key : GF fds n (k + 1) f ds = runB ⟨fd.inf, fds.map (·.modes)⟩ (GF fds n k) n fd.N.length fd.modes fd.body ds := by
    show (match fds[f]? with
      | some fd => _
      | none => _) = _
    rw [hf]
  rw [key]
  unfold runB
  rw [if_pos hl]
  cases e : exs ⟨fd.inf, fds.map (·.modes)⟩ (GF fds n k) n fd.body (ds.map some ++ List.replicate (fd.N.length - ds.length) none) with
  | next ρ =>
    rw [e] at h
    obtain ⟨ms, e2, q⟩ := h
    exact ⟨_, ms, by unfold endF; dsimp only; rw [e2], q⟩
  | ret d ρ =>
    rw [e] at h
    obtain ⟨ms, e2, q⟩ := h
    exact ⟨d, ms, by unfold endF; dsimp only; rw [e2], q⟩
  | _ => rw [e] at h; exact h.elim
def WR (r : FR) (Q : D → Prop) : Prop := ∃ d ms, r = .ok d ms ∧ Q d
def WM (r : FR) (Q : D → D → Prop) : Prop := ∃ d b ms, r = .ok d (b :: ms) ∧ Q d b
theorem WR.mono {r : FR} {Q Q' : D → Prop} (h : WR r Q) (q : ∀ d, Q d → Q' d) : WR r Q' := let ⟨d, ms, e, h⟩ := h; ⟨d, ms, e, q d h⟩
theorem WM.mono {r : FR} {Q Q' : D → D → Prop} (h : WM r Q) (q : ∀ d b, Q d b → Q' d b) : WM r Q' := let ⟨d, b, ms, e, h⟩ := h; ⟨d, b, ms, e, q d b h⟩
theorem WR.of {r : FR} {Q : D → Prop} (h : WF r fun d _ => Q d) : WR r Q := let ⟨d, ms, e, q⟩ := h.inv; ⟨d, ms, e, q⟩
theorem WM.of {r : FR} {Q : D → D → Prop} (h : WF r fun d ms => ∃ b r, ms = b :: r ∧ Q d b) : WM r Q := let ⟨d, ms, e, b, r, e2, q⟩ := h.inv; ⟨d, b, r, e2 ▸ e, q⟩
section
variable {Z : Z0} {G : GS} {ρ : Env}
theorem evA_ro : ∀ {as : Ps} {ms : List Bool} {ρ : Env} {Q : List (Option D) → Env → Prop}, ms.all (· == false) = true → WE (evs Z G as ρ) (fun ds ρ' => Q (ds.map some) ρ') → WE (evA Z G as ms ρ) Q
  | .nil, ms, ρ, Q, _, h => by
    simp only [evs] at h
    exact w_anil h
  | .cons p ps, [], ρ, Q, _, h => by
    have : evA Z G (.cons p ps) [] = bnd (ev Z G p) fun d => bnd (evA Z G ps []) fun r => ret (some d :: r) := by
      cases p <;> simp only [evA, List.tail_nil]
    rw [this]
    simp only [evs] at h
    unfold Mp.bnd at h ⊢
    cases e : ev Z G p ρ with
    | ok d ρ1 =>
      rw [e] at h
      dsimp only at h ⊢
      refine WE.bnd (evA_ro (ms := []) rfl ?_)
      cases e2 : evs Z G ps ρ1 with
      | ok ds ρ2 => rw [e2] at h; exact h
      | ex c fs ρ2 => rw [e2] at h; exact h
      | no => rw [e2] at h; exact h
    | ex c fs ρ1 => rw [e] at h; exact h
    | no => rw [e] at h; exact h
  | .cons p ps, true :: ms, ρ, Q, hm, h => by simp at hm
  | .cons p ps, false :: ms, ρ, Q, hm, h => by
    simp only [evs] at h
    refine w_aro ?_
    unfold Mp.bnd at h
    cases e : ev Z G p ρ with
    | ok d ρ1 =>
      rw [e] at h
      dsimp only at h
      refine evA_ro (by simpa using hm) ?_
      cases e2 : evs Z G ps ρ1 with
      | ok ds ρ2 => rw [e2] at h; exact h
      | ex c fs ρ2 => rw [e2] at h; exact h
      | no => rw [e2] at h; exact h
    | ex c fs ρ1 => rw [e] at h; exact h
    | no => rw [e] at h; exact h
def lenP : Ps → Nat
  | .nil => 0
  | .cons _ ps => lenP ps + 1
theorem evs_lenP : ∀ {as : Ps} {ρ : Env} {ds : List D} {ρ' : Env}, evs Z G as ρ = .ok ds ρ' → ds.length = lenP as
  | .nil, ρ, ds, ρ', h => by simp only [evs, ret] at h; cases h; rfl
  | .cons p ps, ρ, ds, ρ', h => by
    simp only [evs, Mp.bnd] at h
    cases e : ev Z G p ρ with
    | ok d ρ1 =>
      rw [e] at h
      dsimp only at h
      cases e2 : evs Z G ps ρ1 with
      | ok es ρ2 => rw [e2] at h; cases h; simp only [List.length_cons, lenP, evs_lenP e2]
      | ex c fs ρ2 => rw [e2] at h; cases h
      | no => rw [e2] at h; cases h
    | ex c fs ρ1 => rw [e] at h; cases h
    | no => rw [e] at h; cases h
theorem mutR_ro : ∀ {ms : List Bool} {as : Ps}, ms.all (· == false) = true → ms.length = lenP as → mutR ms as = List.replicate (lenP as) none
  | [], .nil, _, _ => rfl
  | [], .cons _ _, _, h => by simp [lenP] at h
  | _ :: _, .nil, _, h => by simp [lenP] at h
  | true :: ms, .cons p ps, hm, _ => by simp at hm
  | false :: ms, .cons p ps, hm, h => by
    have e : mutR (false :: ms) (.cons p ps) = none :: mutR ms ps := by cases p <;> rfl
    rw [e, mutR_ro (by simpa using hm) (by simpa [lenP] using h)]
    rfl
theorem fillA_ro : ∀ (ds : List D), fillA (List.replicate ds.length none) (ds.map some) ρ = some ds
  | [] => rfl
  | d :: ds => by
    show (fillA (List.replicate ds.length none) (ds.map some) ρ).map (d :: ·) = _
    rw [fillA_ro ds]; rfl
theorem putB_ro {inf : Inf} : ∀ (m : Nat) (ds : List D), putB inf (List.replicate m none) ds ρ = ρ
  | 0, ds => by cases ds <;> rfl
  | m + 1, [] => rfl
  | m + 1, d :: ds => putB_ro m ds
theorem w_callR {f : Nat} {as : Ps} {Q : D → Env → Prop} (hm : (Z.modes f).all (· == false) = true) (hl : (Z.modes f).length = lenP as) (h : WE (evs Z G as ρ) fun ds ρ' => WR (G f ds) fun d => Q d ρ') : WE (ev Z G (.call f as) ρ) Q := by
  refine w_call (evA_ro hm ?_)
  cases e : evs Z G as ρ with
  | ex c fs ρ' => rw [e] at h; exact h
  | no => rw [e] at h; exact h
  | ok ds ρ' =>
    rw [e] at h
    have h : WR (G f ds) fun d => Q d ρ' := h
    obtain ⟨d, ms, e2, q⟩ := h
    have el := evs_lenP e
    refine ⟨ds, ?_, ?_⟩
    · rw [mutR_ro hm hl, ← el]; exact fillA_ro ds
    · rw [e2]
      refine ⟨_, _, rfl, ?_⟩
      rw [mutR_ro hm hl, putB_ro]
      exact q
theorem w_callM {f i : Nat} {as : Ps} {ms : List Bool} {Q : D → Env → Prop} {d0 : D} (em : Z.modes f = true :: ms) (hm : ms.all (· == false) = true) (hl : ms.length = lenP as) (e0 : getE ρ i = some d0)
    (h : WE (evs Z G as ρ) fun ds ρ' => ∃ d1, getE ρ' i = some d1 ∧ WM (G f (d1 :: ds)) fun d b => Q d (setE Z.inf i b ρ')) : WE (ev Z G (.call f (.cons (.v i) as)) ρ) Q := by
  refine w_call ?_
  rw [em]
  refine w_amut e0 (evA_ro hm ?_)
  cases e : evs Z G as ρ with
  | ex c fs ρ' => rw [e] at h; exact h
  | no => rw [e] at h; exact h
  | ok ds ρ' =>
    rw [e] at h
    obtain ⟨d1, e1, d, b, mr, e2, q⟩ := (h : ∃ d1, getE ρ' i = some d1 ∧ WM (G f (d1 :: ds)) fun d b => Q d (setE Z.inf i b ρ'))
    have el := evs_lenP e
    refine ⟨d1 :: ds, ?_, ?_⟩
    · show (match getE ρ' i, fillA (mutR ms as) (ds.map some) ρ' with
        | some d, some ds => some (d :: ds)
        | _, _ => none) = _
      rw [e1, mutR_ro hm hl, ← el, fillA_ro]
    · rw [e2]
      refine ⟨_, _, rfl, ?_⟩
      show Q d (putB Z.inf (mutR ms as) mr (setE Z.inf i b ρ'))
      rw [mutR_ro hm hl, putB_ro]
      exact q
end
def killB : Inf → Nat → Env → Env
  | r :: inf, i, o :: ρ => (match r.elem i with
    | true => none
    | false => o) :: killB inf i ρ
  | [], _, ρ => ρ
  | _ :: _, _, [] => []
theorem killL_eq : ∀ {inf : Inf} {i : Nat} {ρ : Env}, killL inf i ρ = killB inf i ρ
  | [], _, ρ => by cases ρ <;> rfl
  | _ :: _, _, [] => rfl
  | r :: inf, i, o :: ρ => by
    unfold killL killB
    rw [killL_eq]
    congr 1
    by_cases h : i ∈ r
    · rw [if_pos h]
      have : r.elem i = true := by simpa using h
      rw [this]
    · rw [if_neg h]
      have : r.elem i = false := by simpa using h
      rw [this]
theorem setE_eq {inf : Inf} {i : Nat} {d : D} {ρ : Env} : setE inf i d ρ = (killB inf i ρ).set i (some d) := by unfold setE; rw [killL_eq]
end Mp

namespace Mp
open PySem PyProof.Rows L2

abbrev dI (i : Int) : D := .i (.int i)
abbrev dS (x : Str) : D := .i (.str x)
abbrev dB (b : Bool) : D := .i (.bl b)
def intsD (ns : List Int) : D := .lst (ns.map dI)
theorem o_add {a b : Int} : opF .add [dI a, dI b] = some (dI (a + b)) := rfl
theorem o_sub {a b : Int} : opF .sub [dI a, dI b] = some (dI (a - b)) := rfl
theorem o_neg {a : Int} : opF .neg [dI a] = some (dI (-a)) := rfl
theorem o_mulL {a b : Int} (h : a.natAbs < 2 ^ 64) : opF .mul [dI a, dI b] = some (dI (a * b)) := if_pos (.inl h)
theorem o_mulR {a b : Int} (h : b.natAbs < 2 ^ 64) : opF .mul [dI a, dI b] = some (dI (a * b)) := if_pos (.inr (.inl h))
theorem o_mod {a b : Int} (h : 0 < b) : opF .mod [dI a, dI b] = some (dI (a % b)) := if_pos h
theorem o_fdiv {a b : Int} (h : 0 < b ∧ b.natAbs.log2 < 9000) : opF .fdiv [dI a, dI b] = some (dI (a / b)) := if_pos h
theorem ltD_at {x y : I} (h1 : min (pyI x).depth (pyI y).depth ≤ 60) (h2 : PySem.W.alike (pyI x) (pyI y) = true) (h3 : (pyI x).canLay0 = true) (h4 : pyI x ≠ .none) : ltD (.i x) (.i y) = some (PySem.W.dataLt (pyI x) (pyI y)) := by
  unfold ltD
  have e1 : pyD (.i x) = some (pyI x) := by simp only [pyD]
  have e2 : pyD (.i y) = some (pyI y) := by simp only [pyD]
  rw [e1, e2]
  dsimp only
  rw [if_pos ⟨h1, h2, h3⟩]
  cases e : pyI x <;> first | rfl | exact absurd e h4
theorem o_lt {a b : Int} : opF .lt [dI a, dI b] = some (dB (decide (a < b))) := by
  show (ltD (dI a) (dI b)).map (fun k => dB k) = _
  rw [ltD_at (by show min 0 0 ≤ 60; decide) rfl rfl (fun z => by cases z)]
  show some (dB (PySem.W.dataLt (.int a) (.int b))) = _
  rw [PySem.W.dataLt_int]
theorem o_le {a b : Int} : opF .le [dI a, dI b] = some (dB (decide (a ≤ b))) := rfl
theorem o_gt {a b : Int} : opF .gt [dI a, dI b] = some (dB (decide (b < a))) := rfl
theorem o_ge {a b : Int} : opF .ge [dI a, dI b] = some (dB (decide (b ≤ a))) := rfl
theorem o_eq {a b : Int} : opF .eq [dI a, dI b] = some (dB (a == b)) := rfl
theorem o_ne {a b : Int} : opF .ne [dI a, dI b] = some (dB (!(a == b))) := rfl
theorem o_eqS {a b : Str} : opF .eq [dS a, dS b] = some (dB (a == b)) := rfl
theorem o_neS {a b : Str} : opF .ne [dS a, dS b] = some (dB (!(a == b))) := rfl
theorem o_ltS {a b : Str} (h : PyData.strOk a = true) : opF .lt [dS a, dS b] = some (dB (decide (a.cps.toList < b.cps.toList))) := by
  show (ltD (dS a) (dS b)).map (fun k => dB k) = _
  rw [ltD_at (x := .str a) (y := .str b) (by show min 0 0 ≤ 60; decide) rfl h (fun z => by cases z)]
  show some (dB (PySem.W.dataLt (.str a) (.str b))) = _
  rw [PySem.W.dataLt_str]
theorem o_geS {a b : Str} : opF .ge [dS a, dS b] = some (dB (!decide (a.cps.toList < b.cps.toList))) := rfl
theorem o_lenL {ds : List D} : opF .len [.lst ds] = some (dI ds.length) := rfl
theorem o_lenT {xs : List I} : opF .len [.i (.tup xs)] = some (dI xs.length) := by
  rfl
theorem o_lenD {ds : List D} : opF .len [.tup ds] = some (dI ds.length) := rfl
theorem o_ixL {ds : List D} {i : Int} {d : D} (h : L2.atI ds i = some d) : opF .ix [.lst ds, dI i] = some d := h
theorem o_ixT {xs : List I} {i : Int} {x : I} (h : L2.atI xs i = some x) : opF .ix [.i (.tup xs), dI i] = some (.i x) := by
  show L2.atI (xs.map D.i) i = _
  unfold L2.atI at h ⊢
  rw [List.length_map]
  cases e : L2.ixN xs.length i with
  | none => rw [e] at h; cases h
  | some j => rw [e] at h; show (xs.map D.i)[j]? = _; rw [List.getElem?_map]; show (xs[j]?).map D.i = _; rw [show xs[j]? = some x from h]; rfl
theorem o_ixD {ds : List D} {i : Int} {d : D} (h : L2.atI ds i = some d) : opF .ix [.tup ds, dI i] = some d := h
theorem at_nat {α : Type} {xs : List α} {j : Nat} {x : α} (h : xs[j]? = some x) : L2.atI xs (j : Int) = some x := L2.atI_nat h
theorem at_lt {α : Type} {xs : List α} {i : Int} (h0 : 0 ≤ i) (h : i < xs.length) : L2.atI xs i = some (xs[i.toNat]'(by omega)) := by
  have : L2.atI xs ((i.toNat : Nat) : Int) = some (xs[i.toNat]'(by omega)) := L2.atI_nat (List.getElem?_eq_getElem _)
  rwa [Int.toNat_of_nonneg h0] at this
theorem o_ixN {ns : List Int} {i : Int} (h0 : 0 ≤ i) (h : i < ns.length) : opF .ix [intsD ns, dI i] = some (dI (ns[i.toNat]'(by omega))) := by
  refine o_ixL ?_
  have := at_lt (xs := ns.map dI) h0 (by simpa using h)
  rw [this]
  simp
theorem o_int {a : Int} : opF .int [dI a] = some (dI a) := rfl
theorem o_str {a : Int} (h : a.natAbs.log2 < 1920) : opF .str [dI a] = some (dS (strI a)) := if_pos h
theorem o_abs {a : Int} : opF .abs [dI a] = some (dI (if a < 0 then -a else a)) := rfl
theorem o_isi {T : String} {x : I} (h : tyNames.contains T = true) : opF (.isi T) [.i x] = some (dB (isiB (tyI x) T)) := if_pos h
theorem t_bl {b : Bool} : truth (dB b) = some b := rfl
theorem t_int {i : Int} : truth (dI i) = some (i != 0) := rfl
theorem t_lst {ds : List D} : truth (.lst ds) = some (!ds.isEmpty) := rfl
theorem t_tup {xs : List I} : truth (.i (.tup xs)) = some (!xs.isEmpty) := rfl

section
variable {inf : Inf} {ρ : Env} {Q : Unit → Env → Prop}
theorem w_subL {i : Nat} {xs : List D} {j : Int} {m : Nat} {d : D} (e : getE ρ i = some (.lst xs)) (hm : L2.ixN xs.length j = some m) (h : Q () (setE inf i (.lst (xs.set m d)) ρ)) : WE (subM inf i [dI j] d ρ) Q := by
  unfold subM
  show WE (match [dI j].getLast?, getE ρ i with
    | some k, some x => _
    | _, _ => _) Q
  rw [e]
  show WE (match mutAt (setF (dI j) d) [] (.lst xs) with
    | some (x', _) => _
    | none => _) Q
  have e2 : mutAt (setF (dI j) d) [] (.lst xs) = some (.lst (xs.set m d), .i .non) := by
    show (L2.ixN xs.length j).map _ = _
    rw [hm]; rfl
  rw [e2]
  exact h
theorem w_subK {i : Nat} {kvs : List (Key × D)} {k d : D} {q : Key} (e : getE ρ i = some (.dk kvs)) (hk : keyD k = some q) (hl : kvs.length < sizeLine) (h : Q () (setE inf i (.dk (addK q d kvs)) ρ)) : WE (subM inf i [k] d ρ) Q := by
  unfold subM
  show WE (match [k].getLast?, getE ρ i with
    | some k, some x => _
    | _, _ => _) Q
  rw [e]
  show WE (match mutAt (setF k d) [] (.dk kvs) with
    | some (x', _) => _
    | none => _) Q
  have e2 : mutAt (setF k d) [] (.dk kvs) = some (.dk (addK q d kvs), .i .non) := by
    show setF k d (.dk kvs) = _
    unfold setF
    dsimp only
    rw [hk]
    dsimp only
    rw [if_pos hl]
  rw [e2]
  exact h
end
theorem a_imm {k : Kd} {d : D} {p : Prop} (e : immK k d = true) (h : p) : immK k d = true ∧ p := ⟨e, h⟩
theorem a_there {ρ : Env} {i : Nat} {p : Prop} {d : D} (e : getE ρ i = some d) (h : p) : getE ρ i ≠ none ∧ p := ⟨(by rw [e]; exact fun z => (by cases z)), h⟩
theorem a_len {a : Nat} {p : Prop} (e : a.ble sizeLine = true) (h : p) : a ≤ sizeLine ∧ p := ⟨Nat.le_of_ble_eq_true e, h⟩
theorem a_lt {a b : Nat} {p : Prop} (e : (a + 1).ble b = true) (h : p) : a < b ∧ p := ⟨Nat.le_of_ble_eq_true e, h⟩
theorem a_dk {x : D} {p : Prop} (e : isDk x = some ()) (h : p) : isDk x = some () ∧ p := ⟨e, h⟩
theorem br_t {p q : Prop} (h : p) : (true = true → p) ∧ (true = false → q) := ⟨fun _ => h, fun z => Bool.noConfusion z⟩
theorem br_f {p q : Prop} (h : q) : (false = true → p) ∧ (false = false → q) := ⟨fun z => Bool.noConfusion z, fun _ => h⟩
theorem br_tt {b : Bool} {p q : Prop} (e : b = true) (h : p) : (b = true → p) ∧ (b = false → q) := by subst e; exact br_t h
theorem br_ff {b : Bool} {p q : Prop} (e : b = false) (h : q) : (b = true → p) ∧ (b = false → q) := by subst e; exact br_f h
theorem o_isiT {T : String} {x : I} (h : tyNames.contains T = true) (e : isiB (tyI x) T = true) : opF (.isi T) [.i x] = some (dB true) := by rw [o_isi h, e]
theorem o_isiF {T : String} {x : I} (h : tyNames.contains T = true) (e : isiB (tyI x) T = false) : opF (.isi T) [.i x] = some (dB false) := by rw [o_isi h, e]
theorem sub_ok {inf : Inf} {ρ ρ' : Env} {i : Nat} {ks : List D} {d : D} {Q : Unit → Env → Prop} (e : subM inf i ks d ρ = .ok () ρ') (h : Q () ρ') : WE (subM inf i ks d ρ) Q := by rw [e]; exact h
theorem fin_ok {modes : List Bool} {ρ : Env} {ms : List D} {Q : List D → Prop} (e : fin modes ρ = some ms) (h : Q ms) : ∃ ms, fin modes ρ = some ms ∧ Q ms := ⟨ms, e, h⟩
theorem mayHold_fr {inf : Inf} {k : Kd} {i : Nat} {d : D} (hk : k = .fr) : mayHold inf k i d = true := by
  subst hk
  unfold mayHold
  split <;> rfl
theorem mayHold_bo {inf : Inf} {k : Kd} {R : List Nat} {i : Nat} {d : D} (hk : k = .bo R) (h : (!(rt inf i).contains i && R.all fun j => (rt inf i).contains j) = true) : mayHold inf k i d = true := by
  subst hk
  unfold mayHold
  split
  · rfl
  · exact h
end Mp

namespace Mp
open PySem PyProof.Rows L2

theorem o_rng1 {n : Int} (h : -(2 ^ 62) ≤ n ∧ n < 2 ^ 62) : rngF [dI n] = some ((List.range n.toNat).map fun (k : Nat) => dI k) := if_pos h
theorem o_rng2 {a b : Int} (h : (-(2 ^ 62) ≤ a ∧ a < 2 ^ 62) ∧ -(2 ^ 62) ≤ b ∧ b < 2 ^ 62) : rngF [dI a, dI b] = some ((List.range (b - a).toNat).map fun (k : Nat) => dI (a + k)) := if_pos h
theorem rng_guard {xs : List D} {r : Option (List D)} (h : rngF xs = r) : rngF xs = r := h
section
variable {α : Type} {Z : Z0} {G : GS} {n : Nat} {ρ : Env} {N : Env → Prop} {T : D → Env → Prop} {B C : Env → Prop}
theorem w_join {r : Fl} (J : Env → Prop) (h : WS r J T B C) (q : ∀ ρ, J ρ → N ρ) : WS r N T B C := h.mono q (fun _ _ h => h) (fun _ h => h) (fun _ h => h)
theorem w_loopX {t : Tg} {it : It} {b : Ss} (f : α → D) (I : Nat → Env → Prop) (h : WE (evI Z G it ρ) fun ds ρ' => ∃ xs : List α, ds = xs.map f ∧ I 0 ρ' ∧ (∀ i (hi : i < xs.length) ρ1, I i ρ1 → WE (setT Z.inf (kdI Z it) t (f xs[i]) ρ1) fun _ ρ2 => WS (exs Z G n b ρ2) (I (i + 1)) T N (I (i + 1))) ∧ ∀ ρ1, I xs.length ρ1 → N ρ1) :
    WS (exS Z G n (.loop t it b) ρ) N T B C := by
  refine w_loop (fun _ => I) (h.mono fun ds ρ' ⟨xs, e, h0, hs, he⟩ => ?_)
  subst e
  refine ⟨h0, fun i hi ρ1 h1 => ?_, fun ρ1 h1 => he ρ1 (by simpa using h1)⟩
  have := hs i (by simpa using hi) ρ1 h1
  simpa using this
theorem w_lcX {t : Tg} {it : It} {cd : Ps} {e : P} {vs : List Nat} {Q : D → Env → Prop} (f : α → D) (g : α → List D) (h : WE (evI Z G it ρ) fun ds ρ' => ∃ xs : List α, ds = xs.map f ∧
    (∀ x ∈ xs, WE (setT Z.inf (kdI Z it) t (f x) (wipeE ρ' vs)) fun _ ρ1 => WE (evC Z G cd ρ1) fun b ρ2 => (b = true → WE (ev Z G e ρ2) fun y ρ3 => immK (kd Z e) y = true ∧ g x = [y] ∧ wipeE ρ3 vs = wipeE ρ' vs) ∧ (b = false → g x = [] ∧ wipeE ρ2 vs = wipeE ρ' vs)) ∧
    (xs.flatMap g).length ≤ sizeLine ∧ Q (.lst (xs.flatMap g)) (restE ρ' (wipeE ρ' vs) vs)) : WE (ev Z G (.lc e t it cd vs) ρ) Q := by
  refine w_lc (h.mono fun ds ρ' ⟨xs, hd, hs, hl, q⟩ => ?_)
  subst hd
  refine w_comp (fun i acc ρ1 => acc = (xs.take i).flatMap g ∧ ρ1 = wipeE ρ' vs) ⟨rfl, rfl⟩ ?_ ?_
  · rintro i hi acc ρ1 ⟨rfl, rfl⟩
    have hi' : i < xs.length := by simpa using hi
    have key := hs xs[i] (List.getElem_mem hi')
    rw [List.getElem_map]
    refine w_step (key.mono fun _ ρ1 h => h.mono fun b ρ2 ⟨h1, h2⟩ => ⟨fun hb => (h1 hb).mono fun y ρ3 ⟨k1, k2, k3⟩ => ⟨k1, ?_, k3⟩, fun hb => ⟨?_, (h2 hb).2⟩⟩)
    · rw [List.take_add_one, List.flatMap_append, List.getElem?_eq_getElem hi']
      simp [k2]
    · rw [List.take_add_one, List.flatMap_append, List.getElem?_eq_getElem hi']
      simp [(h2 hb).1]
  · rintro acc ρ1 ⟨rfl, rfl⟩
    rw [List.length_map, List.take_length]
    exact ⟨hl, q⟩
theorem w_dcX {t : Tg} {it : It} {cd : Ps} {kp e : P} {vs : List Nat} {Q : D → Env → Prop} (f : α → D) (g : α → List (D × D)) (h : WE (evI Z G it ρ) fun ds ρ' => ∃ xs : List α, ds = xs.map f ∧
    (∀ x ∈ xs, WE (setT Z.inf (kdI Z it) t (f x) (wipeE ρ' vs)) fun _ ρ1 => WE (evC Z G cd ρ1) fun b ρ2 => (b = true → WE (ev Z G kp ρ2) fun z ρ3 => WE (ev Z G e ρ3) fun y ρ4 => immK (kd Z e) y = true ∧ g x = [(z, y)] ∧ wipeE ρ4 vs = wipeE ρ' vs) ∧ (b = false → g x = [] ∧ wipeE ρ2 vs = wipeE ρ' vs)) ∧
    ∃ d, mkDk (xs.flatMap g) = some d ∧ Q d (restE ρ' (wipeE ρ' vs) vs)) : WE (ev Z G (.dc kp e t it cd vs) ρ) Q := by
  refine w_dc (h.mono fun ds ρ' ⟨xs, hd, hs, d, hl, q⟩ => ?_)
  subst hd
  refine w_comp (fun i acc ρ1 => acc = (xs.take i).flatMap g ∧ ρ1 = wipeE ρ' vs) ⟨rfl, rfl⟩ ?_ ?_
  · rintro i hi acc ρ1 ⟨rfl, rfl⟩
    have hi' : i < xs.length := by simpa using hi
    have key := hs xs[i] (List.getElem_mem hi')
    rw [List.getElem_map]
    refine w_stepD (key.mono fun _ ρ1 h => h.mono fun b ρ2 ⟨h1, h2⟩ => ⟨fun hb => (h1 hb).mono fun z ρ3 h => h.mono fun y ρ4 ⟨k1, k2, k3⟩ => ⟨k1, ?_, k3⟩, fun hb => ⟨?_, (h2 hb).2⟩⟩)
    · rw [List.take_add_one, List.flatMap_append, List.getElem?_eq_getElem hi']
      simp [k2]
    · rw [List.take_add_one, List.flatMap_append, List.getElem?_eq_getElem hi']
      simp [(h2 hb).1]
  · rintro acc ρ1 ⟨rfl, rfl⟩
    rw [List.length_map, List.take_length]
    exact ⟨d, hl, q⟩
end
theorem flat_map {α β : Type} (e : α → β) (xs : List α) : (xs.flatMap fun x => [e x]) = xs.map e := by
  induction xs with
  | nil => rfl
  | cons x xs ih => simp [ih]
theorem flat_fil {α β : Type} (c : α → Bool) (e : α → β) (xs : List α) : (xs.flatMap fun x => if c x then [e x] else []) = (xs.filter c).map e := by
  induction xs with
  | nil => rfl
  | cons x xs ih =>
    rw [List.flatMap_cons, ih, List.filter_cons]
    cases c x <;> simp
section
variable {α : Type} {Z : Z0} {G : GS} {n : Nat} {ρ : Env} {Q : D → Env → Prop}
theorem w_lcMap {t : Tg} {it : It} {e : P} {vs : List Nat} (f : α → D) (g : α → D) (h : WE (evI Z G it ρ) fun ds ρ' => ∃ xs : List α, ds = xs.map f ∧
    (∀ x ∈ xs, WE (setT Z.inf (kdI Z it) t (f x) (wipeE ρ' vs)) fun _ ρ1 => WE (ev Z G e ρ1) fun y ρ3 => immK (kd Z e) y = true ∧ y = g x ∧ wipeE ρ3 vs = wipeE ρ' vs) ∧
    xs.length ≤ sizeLine ∧ Q (.lst (xs.map g)) (restE ρ' (wipeE ρ' vs) vs)) : WE (ev Z G (.lc e t it .nil vs) ρ) Q := by
  refine w_lcX f (fun x => [g x]) (h.mono fun ds ρ' ⟨xs, hd, hs, hl, q⟩ => ⟨xs, hd, fun x hx => ?_, ?_, ?_⟩)
  · exact (hs x hx).mono fun _ ρ1 h => w_cnil ⟨fun _ => h.mono fun y ρ3 ⟨k1, k2, k3⟩ => ⟨k1, by rw [k2], k3⟩, fun z => Bool.noConfusion z⟩
  · rw [flat_map]; simpa using hl
  · rw [flat_map]; exact q
theorem w_lcIf {t : Tg} {it : It} {e cn : P} {vs : List Nat} (f : α → D) (c : α → Bool) (g : α → D) (h : WE (evI Z G it ρ) fun ds ρ' => ∃ xs : List α, ds = xs.map f ∧
    (∀ x ∈ xs, WE (setT Z.inf (kdI Z it) t (f x) (wipeE ρ' vs)) fun _ ρ1 => WE (ev Z G cn ρ1) fun d ρ2 => ∃ b, truth d = some b ∧ b = c x ∧ (c x = true → WE (ev Z G e ρ2) fun y ρ3 => immK (kd Z e) y = true ∧ y = g x ∧ wipeE ρ3 vs = wipeE ρ' vs) ∧ (c x = false → wipeE ρ2 vs = wipeE ρ' vs)) ∧
    xs.length ≤ sizeLine ∧ Q (.lst ((xs.filter c).map g)) (restE ρ' (wipeE ρ' vs) vs)) : WE (ev Z G (.lc e t it (.cons cn .nil) vs) ρ) Q := by
  refine w_lcX f (fun x => if c x then [g x] else []) (h.mono fun ds ρ' ⟨xs, hd, hs, hl, q⟩ => ⟨xs, hd, fun x hx => ?_, ?_, ?_⟩)
  · refine (hs x hx).mono fun _ ρ1 h => w_cone (h.mono fun d ρ2 ⟨b, e1, e2, h1, h2⟩ => ⟨b, e1, ?_, ?_⟩)
    · intro hb
      have hc : c x = true := by rw [← e2, hb]
      exact (h1 hc).mono fun y ρ3 ⟨k1, k2, k3⟩ => ⟨k1, by rw [hc, k2]; rfl, k3⟩
    · intro hb
      have hc : c x = false := by rw [← e2, hb]
      exact ⟨by rw [hc]; rfl, h2 hc⟩
  · rw [flat_fil]
    rw [List.length_map]
    exact Nat.le_trans (List.length_filter_le _ _) hl
  · rw [flat_fil]; exact q
theorem w_lcOne {t : Tg} {it : It} {cn : P} {vs : List Nat} (f : α → D) (c : α → Bool) (h : WE (evI Z G it ρ) fun ds ρ' => ∃ xs : List α, ds = xs.map f ∧
    (∀ x ∈ xs, WE (setT Z.inf (kdI Z it) t (f x) (wipeE ρ' vs)) fun _ ρ1 => WE (ev Z G cn ρ1) fun d ρ2 => ∃ b, truth d = some b ∧ b = c x ∧ wipeE ρ2 vs = wipeE ρ' vs) ∧
    xs.length ≤ sizeLine ∧ Q (.lst (List.replicate (xs.filter c).length (dI 1))) (restE ρ' (wipeE ρ' vs) vs)) : WE (ev Z G (.lc (.c (.int 1)) t it (.cons cn .nil) vs) ρ) Q := by
  refine w_lcIf f c (fun _ => dI 1) (h.mono fun ds ρ' ⟨xs, hd, hs, hl, q⟩ => ⟨xs, hd, fun x hx => ?_, hl, ?_⟩)
  · exact (hs x hx).mono fun _ ρ1 h => h.mono fun d ρ2 ⟨b, e1, e2, e3⟩ => ⟨b, e1, e2, fun _ => w_c ⟨rfl, rfl, e3⟩, fun _ => e3⟩
  · rw [List.map_const']; exact q
theorem w_dcMap {t : Tg} {it : It} {kp e : P} {vs : List Nat} (f : α → D) (q : α → Key) (g : α → D) (h : WE (evI Z G it ρ) fun ds ρ' => ∃ xs : List α, ds = xs.map f ∧
    (∀ x ∈ xs, WE (setT Z.inf (kdI Z it) t (f x) (wipeE ρ' vs)) fun _ ρ1 => WE (ev Z G kp ρ1) fun z ρ2 => WE (ev Z G e ρ2) fun y ρ3 => immK (kd Z e) y = true ∧ keyD z = some (q x) ∧ y = g x ∧ wipeE ρ3 vs = wipeE ρ' vs) ∧
    xs.length ≤ sizeLine ∧ Q (.dk (updK [] (xs.map fun x => (q x, g x)))) (restE ρ' (wipeE ρ' vs) vs)) : WE (ev Z G (.dc kp e t it .nil vs) ρ) Q := by
  let kD : Key → D := fun k => match k with
    | .inl i => .i (.int i)
    | .inr x => .i (.str x)
  have kk : ∀ {z : D} {k : Key}, keyD z = some k → z = kD k := fun {z k} h => by
    unfold keyD at h
    split at h <;> first | (cases h; rfl) | cases h
  have kq : ∀ k, keyD (kD k) = some k := fun k => by cases k <;> rfl
  refine w_dcX f (fun x => [(kD (q x), g x)]) (h.mono fun ds ρ' ⟨xs, hd, hs, hl, q1⟩ => ⟨xs, hd, fun x hx => ?_, .dk (updK [] (xs.map fun x => (q x, g x))), ?_, q1⟩)
  · exact (hs x hx).mono fun _ ρ1 h => w_cnil ⟨fun _ => h.mono fun z ρ2 h => h.mono fun y ρ3 ⟨k1, k2, k3, k4⟩ => ⟨k1, by rw [k3, kk k2], k4⟩, fun z => Bool.noConfusion z⟩
  · rw [flat_map, mkDk_eq]
    have : keysOf (xs.map fun x => (kD (q x), g x)) = some (xs.map fun x => (q x, g x)) := by
      clear hs hl q1 hd h
      induction xs with
      | nil => rfl
      | cons x xs ih =>
        unfold keysOf at ih ⊢
        rw [List.map_cons, List.mapM_cons, ih, kq]
        rfl
    rw [this]
    dsimp only
    rw [if_pos (by simpa using hl)]
end
end Mp

namespace Mp
open PySem PyProof.Rows L2

mutual
def WfI (L : Nat) : I → Prop
  | .str x => PyData.strOk x = true ∧ x.length ≤ 100
  | .tup xs => xs.length ≤ L ∧ WfIs L xs
  | .non => True
  | .bl _ => True
  | .int _ => True
def WfIs (L : Nat) : List I → Prop
  | [] => True
  | x :: xs => WfI L x ∧ WfIs L xs
end
mutual
def WfD (L : Nat) : D → Prop
  | .i x => WfI L x
  | .lst ds => ds.length ≤ L ∧ WfDs L ds
  | .tup ds => ds.length ≤ L ∧ WfDs L ds
  | .dk _ => False
  | .dt _ => False
def WfDs (L : Nat) : List D → Prop
  | [] => True
  | d :: ds => WfD L d ∧ WfDs L ds
end
theorem WfIs.mem {L : Nat} : ∀ {xs : List I}, WfIs L xs ↔ ∀ x ∈ xs, WfI L x
  | [] => by simp [WfIs]
  | x :: xs => by simp [WfIs, WfIs.mem (xs := xs)]
theorem WfDs.mem {L : Nat} : ∀ {xs : List D}, WfDs L xs ↔ ∀ x ∈ xs, WfD L x
  | [] => by simp [WfDs]
  | x :: xs => by simp [WfDs, WfDs.mem (xs := xs)]
theorem WfD.i {L : Nat} {x : I} : WfD L (.i x) = WfI L x := by simp only [WfD]
theorem WfD.kids {L : Nat} {d : D} {ds : List D} (h : WfD L d) (e : kidsT d = some ds) : ds.length ≤ L ∧ ∀ x ∈ ds, WfD L x := by
  cases d with
  | i x =>
    cases x <;> simp only [kidsT, Option.some.injEq, reduceCtorEq] at e
    subst e
    simp only [WfD, WfI] at h
    refine ⟨by simpa using h.1, fun x hx => ?_⟩
    obtain ⟨y, hy, rfl⟩ := List.mem_map.mp hx
    rw [WfD.i]
    exact WfIs.mem.mp h.2 y hy
  | tup es =>
    simp only [kidsT, Option.some.injEq] at e
    subst e
    simp only [WfD] at h
    exact ⟨h.1, WfDs.mem.mp h.2⟩
  | _ => simp [kidsT] at e
theorem WfD.nodt {L : Nat} {d : D} (h : WfD L d) : ∀ k, d ≠ .dt k := fun k e => by subst e; simp [WfD] at h
def isTupB (d : D) : Bool := (kidsT d).isSome
def isStrB : D → Bool
  | .i (.str _) => true
  | _ => false
def isWholeB : D → Bool
  | .i (.int _) => true
  | _ => false
theorem o_isiD {T : String} {d : D} (h : ∀ k, d ≠ .dt k) (hT : tyNames.contains T = true) : opF (.isi T) [d] = some (dB (isiB (tyD d) T)) := by
  show isiF T d = _
  unfold isiF
  split
  · exact absurd rfl (h _)
  · rw [if_pos hT]
theorem isi_tup {d : D} : isiB (tyD d) "tuple" = isTupB d := by
  cases d with
  | i x => cases x <;> rfl
  | _ => rfl
theorem isi_str {d : D} : isiB (tyD d) "str" = isStrB d := by
  cases d with
  | i x => cases x <;> rfl
  | _ => rfl
theorem o_isT {d : D} (h : ∀ k, d ≠ .dt k) : opF (.isi "tuple") [d] = some (dB (isTupB d)) := by rw [o_isiD h (by decide), isi_tup]
theorem o_isS {d : D} (h : ∀ k, d ≠ .dt k) : opF (.isi "str") [d] = some (dB (isStrB d)) := by rw [o_isiD h (by decide), isi_str]
theorem o_lenK {d : D} {ds : List D} (e : kidsT d = some ds) : opF .len [d] = some (dI ds.length) := by
  cases d with
  | i x =>
    cases x <;> simp only [kidsT, Option.some.injEq, reduceCtorEq] at e
    subst e
    rw [List.length_map]
    exact o_lenT
  | tup es =>
    simp only [kidsT, Option.some.injEq] at e
    subst e
    exact o_lenD
  | _ => simp [kidsT] at e
theorem kids_of {d : D} {ds : List D} (e : kidsT d = some ds) : kids d = some ds := by unfold kids; rw [e]
theorem o_ixK {d x : D} {ds : List D} {i : Int} (e : kidsT d = some ds) (h : atI ds i = some x) : opF .ix [d, dI i] = some x := by
  show ixF d (dI i) = _
  unfold ixF
  rw [kids_of e]
  exact h
theorem items_k {d : D} {ds : List D} (e : kidsT d = some ds) : itemsD d = some ds := by unfold itemsD; rw [kids_of e]
theorem bls_all (bs : List Bool) : blsI (bs.map .bl) = some bs := by
  induction bs with
  | nil => rfl
  | cons b bs ih => show (blsI (bs.map .bl)).map (b :: ·) = _; rw [ih]; rfl
theorem ints_all (bs : List Int) : intsI (bs.map .int) = some bs := by
  induction bs with
  | nil => rfl
  | cons b bs ih => show (intsI (bs.map .int)).map (b :: ·) = _; rw [ih]; rfl
theorem allI_mapF {α : Type} (f : α → I) (xs : List α) : allI (xs.map fun x => D.i (f x)) = some (xs.map f) := by
  induction xs with
  | nil => rfl
  | cons x xs ih => show (allI (xs.map fun x => D.i (f x))).map (f x :: ·) = _; rw [ih]; rfl
theorem o_all {α : Type} {xs : List α} {p : α → Bool} : opF .all [.lst (xs.map fun x => dB (p x))] = some (dB (xs.all p)) := by
  show (ofL blsI (.lst (xs.map fun x => dB (p x)))).map (fun bs => D.i (.bl (bs.all id))) = _
  unfold ofL kidsL
  dsimp only
  rw [allI_mapF (fun x => I.bl (p x))]
  dsimp only
  rw [show (xs.map fun x => I.bl (p x)) = (xs.map p).map .bl by rw [List.map_map]; rfl, bls_all]
  show some (dB ((xs.map p).all id)) = _
  rw [List.all_map]; rfl
theorem o_sum {α : Type} {xs : List α} {p : α → Int} : opF .sum [.lst (xs.map fun x => dI (p x))] = some (dI (xs.map p).sum) := by
  show (ofL intsI (.lst (xs.map fun x => dI (p x)))).map (fun bs => D.i (.int bs.sum)) = _
  unfold ofL kidsL
  dsimp only
  rw [allI_mapF (fun x => I.int (p x))]
  dsimp only
  rw [show (xs.map fun x => I.int (p x)) = (xs.map p).map .int by rw [List.map_map]; rfl, ints_all]
  rfl
theorem pyDs_map {α : Type} (f : α → I) (xs : List α) : pyDs (xs.map fun x => D.i (f x)) = some (xs.map fun x => pyI (f x)) := by
  induction xs with
  | nil => simp only [List.map_nil, pyDs]
  | cons x xs ih => simp only [List.map_cons, pyDs, pyD, ih]
theorem o_eqNil {m : Nat} : opF .eq [.lst (List.replicate m (dI 1)), .lst []] = some (dB (m == 0)) := by
  show (eqD _ _).map (fun k => dB k) = _
  have e : List.replicate m (dI 1) = (List.replicate m ()).map fun _ => D.i (.int 1) := by simp
  unfold eqD
  simp only [pyD, e, pyDs_map, pyDs, Option.map_some]
  cases m with
  | zero => rfl
  | succ m =>
    simp only [List.replicate_succ, List.map_cons]
    have : min (PyData.list (pyI (I.int 1) :: List.map (fun x => pyI (I.int 1)) (List.replicate m ()))).depth (PyData.list []).depth ≤ 60 := by
      refine Nat.le_trans (Nat.min_le_right _ _) ?_
      decide
    rw [if_pos this]
    rfl
theorem o_neNil {m : Nat} : opF .ne [.lst (List.replicate m (dI 1)), .lst []] = some (dB (!(m == 0))) := by
  have h := o_eqNil (m := m)
  have h : (eqD (.lst (List.replicate m (dI 1))) (.lst [])).map (fun k => dB k) = _ := h
  show ((eqD (.lst (List.replicate m (dI 1))) (.lst [])).map (!·)).map (fun k => dB k) = _
  cases e : eqD (.lst (List.replicate m (dI 1))) (.lst []) with
  | none => rw [e] at h; cases h
  | some b => rw [e] at h; cases h; rfl
theorem ones {α : Type} {c : α → Bool} {xs : List α} : (xs.flatMap fun x => if c x then [dI 1] else []) = List.replicate (xs.countP c) (dI 1) := by
  induction xs with
  | nil => rfl
  | cons x xs ih =>
    rw [List.flatMap_cons, ih, List.countP_cons]
    cases c x with
    | false => simp
    | true => simp [List.replicate_succ]
theorem count0 {α : Type} {c : α → Bool} {xs : List α} : (xs.countP c == 0) = xs.all fun x => !c x := by
  rw [Bool.eq_iff_iff]
  simp [List.countP_eq_zero]
theorem filter0 {α : Type} {c : α → Bool} {xs : List α} : ((xs.filter c).length == 0) = xs.all fun x => !c x := by
  rw [Bool.eq_iff_iff]
  simp [List.filter_eq_nil_iff]
theorem filter0n {α : Type} {c : α → Bool} {xs : List α} : ((xs.filter fun x => !c x).length == 0) = xs.all c := by
  rw [filter0]
  simp
theorem o_join1 {sep x : Str} (h : x.length + sep.length ≤ 16777216) (hx : PyData.strOk x = true) : opF (.join sep) [.lst [dS x]] = some (dS x) := by
  have e : Txt.join sep [x] = x := by rw [TL.join_eq]; rfl
  have e1 : opF (.join sep) [.lst [dS x]] = joinF sep (.lst [dS x]) := rfl
  have e2 : (kids (.lst [dS x])).bind strsD = some [x] := rfl
  rw [e1]
  unfold joinF
  rw [e2]
  dsimp only
  rw [e, if_pos ⟨by simp; omega, hx⟩]
theorem oi_guard {T : String} {d : D} {r : Option D} (h : opF (.isi T) [d] = r) : opF (.isi T) [d] = r := h
theorem oi_int_non  : opF (.isi "int") [.i .non] = some (dB false) := (o_isiD (T := "int") (by intro k z; cases z) (by decide)).trans (congrArg (fun b => some (dB b)) (by show isiB "NoneType" "int" = false; decide +kernel))
theorem oi_int_bl {b : Bool} : opF (.isi "int") [.i (.bl b)] = some (dB true) := (o_isiD (T := "int") (by intro k z; cases z) (by decide)).trans (congrArg (fun b => some (dB b)) (by show isiB "bool" "int" = true; decide +kernel))
theorem oi_int_int {i : Int} : opF (.isi "int") [.i (.int i)] = some (dB true) := (o_isiD (T := "int") (by intro k z; cases z) (by decide)).trans (congrArg (fun b => some (dB b)) (by show isiB "int" "int" = true; decide +kernel))
theorem oi_int_str {x : Str} : opF (.isi "int") [.i (.str x)] = some (dB false) := (o_isiD (T := "int") (by intro k z; cases z) (by decide)).trans (congrArg (fun b => some (dB b)) (by show isiB "str" "int" = false; decide +kernel))
theorem oi_int_tup {xs : List I} : opF (.isi "int") [.i (.tup xs)] = some (dB false) := (o_isiD (T := "int") (by intro k z; cases z) (by decide)).trans (congrArg (fun b => some (dB b)) (by show isiB "tuple" "int" = false; decide +kernel))
theorem oi_int_lst {ds : List D} : opF (.isi "int") [.lst ds] = some (dB false) := (o_isiD (T := "int") (by intro k z; cases z) (by decide)).trans (congrArg (fun b => some (dB b)) (by show isiB "list" "int" = false; decide +kernel))
theorem oi_int_tupD {ds : List D} : opF (.isi "int") [.tup ds] = some (dB false) := (o_isiD (T := "int") (by intro k z; cases z) (by decide)).trans (congrArg (fun b => some (dB b)) (by show isiB "tuple" "int" = false; decide +kernel))
theorem oi_int_dk {kvs : List (Key × D)} : opF (.isi "int") [.dk kvs] = some (dB false) := (o_isiD (T := "int") (by intro k z; cases z) (by decide)).trans (congrArg (fun b => some (dB b)) (by show isiB "dict" "int" = false; decide +kernel))
theorem oi_bool_non  : opF (.isi "bool") [.i .non] = some (dB false) := (o_isiD (T := "bool") (by intro k z; cases z) (by decide)).trans (congrArg (fun b => some (dB b)) (by show isiB "NoneType" "bool" = false; decide +kernel))
theorem oi_bool_bl {b : Bool} : opF (.isi "bool") [.i (.bl b)] = some (dB true) := (o_isiD (T := "bool") (by intro k z; cases z) (by decide)).trans (congrArg (fun b => some (dB b)) (by show isiB "bool" "bool" = true; decide +kernel))
theorem oi_bool_int {i : Int} : opF (.isi "bool") [.i (.int i)] = some (dB false) := (o_isiD (T := "bool") (by intro k z; cases z) (by decide)).trans (congrArg (fun b => some (dB b)) (by show isiB "int" "bool" = false; decide +kernel))
theorem oi_bool_str {x : Str} : opF (.isi "bool") [.i (.str x)] = some (dB false) := (o_isiD (T := "bool") (by intro k z; cases z) (by decide)).trans (congrArg (fun b => some (dB b)) (by show isiB "str" "bool" = false; decide +kernel))
theorem oi_bool_tup {xs : List I} : opF (.isi "bool") [.i (.tup xs)] = some (dB false) := (o_isiD (T := "bool") (by intro k z; cases z) (by decide)).trans (congrArg (fun b => some (dB b)) (by show isiB "tuple" "bool" = false; decide +kernel))
theorem oi_bool_lst {ds : List D} : opF (.isi "bool") [.lst ds] = some (dB false) := (o_isiD (T := "bool") (by intro k z; cases z) (by decide)).trans (congrArg (fun b => some (dB b)) (by show isiB "list" "bool" = false; decide +kernel))
theorem oi_bool_tupD {ds : List D} : opF (.isi "bool") [.tup ds] = some (dB false) := (o_isiD (T := "bool") (by intro k z; cases z) (by decide)).trans (congrArg (fun b => some (dB b)) (by show isiB "tuple" "bool" = false; decide +kernel))
theorem oi_bool_dk {kvs : List (Key × D)} : opF (.isi "bool") [.dk kvs] = some (dB false) := (o_isiD (T := "bool") (by intro k z; cases z) (by decide)).trans (congrArg (fun b => some (dB b)) (by show isiB "dict" "bool" = false; decide +kernel))
theorem oi_str_non  : opF (.isi "str") [.i .non] = some (dB false) := (o_isiD (T := "str") (by intro k z; cases z) (by decide)).trans (congrArg (fun b => some (dB b)) (by show isiB "NoneType" "str" = false; decide +kernel))
theorem oi_str_bl {b : Bool} : opF (.isi "str") [.i (.bl b)] = some (dB false) := (o_isiD (T := "str") (by intro k z; cases z) (by decide)).trans (congrArg (fun b => some (dB b)) (by show isiB "bool" "str" = false; decide +kernel))
theorem oi_str_int {i : Int} : opF (.isi "str") [.i (.int i)] = some (dB false) := (o_isiD (T := "str") (by intro k z; cases z) (by decide)).trans (congrArg (fun b => some (dB b)) (by show isiB "int" "str" = false; decide +kernel))
theorem oi_str_str {x : Str} : opF (.isi "str") [.i (.str x)] = some (dB true) := (o_isiD (T := "str") (by intro k z; cases z) (by decide)).trans (congrArg (fun b => some (dB b)) (by show isiB "str" "str" = true; decide +kernel))
theorem oi_str_tup {xs : List I} : opF (.isi "str") [.i (.tup xs)] = some (dB false) := (o_isiD (T := "str") (by intro k z; cases z) (by decide)).trans (congrArg (fun b => some (dB b)) (by show isiB "tuple" "str" = false; decide +kernel))
theorem oi_str_lst {ds : List D} : opF (.isi "str") [.lst ds] = some (dB false) := (o_isiD (T := "str") (by intro k z; cases z) (by decide)).trans (congrArg (fun b => some (dB b)) (by show isiB "list" "str" = false; decide +kernel))
theorem oi_str_tupD {ds : List D} : opF (.isi "str") [.tup ds] = some (dB false) := (o_isiD (T := "str") (by intro k z; cases z) (by decide)).trans (congrArg (fun b => some (dB b)) (by show isiB "tuple" "str" = false; decide +kernel))
theorem oi_str_dk {kvs : List (Key × D)} : opF (.isi "str") [.dk kvs] = some (dB false) := (o_isiD (T := "str") (by intro k z; cases z) (by decide)).trans (congrArg (fun b => some (dB b)) (by show isiB "dict" "str" = false; decide +kernel))
theorem oi_tuple_non  : opF (.isi "tuple") [.i .non] = some (dB false) := (o_isiD (T := "tuple") (by intro k z; cases z) (by decide)).trans (congrArg (fun b => some (dB b)) (by show isiB "NoneType" "tuple" = false; decide +kernel))
theorem oi_tuple_bl {b : Bool} : opF (.isi "tuple") [.i (.bl b)] = some (dB false) := (o_isiD (T := "tuple") (by intro k z; cases z) (by decide)).trans (congrArg (fun b => some (dB b)) (by show isiB "bool" "tuple" = false; decide +kernel))
theorem oi_tuple_int {i : Int} : opF (.isi "tuple") [.i (.int i)] = some (dB false) := (o_isiD (T := "tuple") (by intro k z; cases z) (by decide)).trans (congrArg (fun b => some (dB b)) (by show isiB "int" "tuple" = false; decide +kernel))
theorem oi_tuple_str {x : Str} : opF (.isi "tuple") [.i (.str x)] = some (dB false) := (o_isiD (T := "tuple") (by intro k z; cases z) (by decide)).trans (congrArg (fun b => some (dB b)) (by show isiB "str" "tuple" = false; decide +kernel))
theorem oi_tuple_tup {xs : List I} : opF (.isi "tuple") [.i (.tup xs)] = some (dB true) := (o_isiD (T := "tuple") (by intro k z; cases z) (by decide)).trans (congrArg (fun b => some (dB b)) (by show isiB "tuple" "tuple" = true; decide +kernel))
theorem oi_tuple_lst {ds : List D} : opF (.isi "tuple") [.lst ds] = some (dB false) := (o_isiD (T := "tuple") (by intro k z; cases z) (by decide)).trans (congrArg (fun b => some (dB b)) (by show isiB "list" "tuple" = false; decide +kernel))
theorem oi_tuple_tupD {ds : List D} : opF (.isi "tuple") [.tup ds] = some (dB true) := (o_isiD (T := "tuple") (by intro k z; cases z) (by decide)).trans (congrArg (fun b => some (dB b)) (by show isiB "tuple" "tuple" = true; decide +kernel))
theorem oi_tuple_dk {kvs : List (Key × D)} : opF (.isi "tuple") [.dk kvs] = some (dB false) := (o_isiD (T := "tuple") (by intro k z; cases z) (by decide)).trans (congrArg (fun b => some (dB b)) (by show isiB "dict" "tuple" = false; decide +kernel))
theorem oi_list_non  : opF (.isi "list") [.i .non] = some (dB false) := (o_isiD (T := "list") (by intro k z; cases z) (by decide)).trans (congrArg (fun b => some (dB b)) (by show isiB "NoneType" "list" = false; decide +kernel))
theorem oi_list_bl {b : Bool} : opF (.isi "list") [.i (.bl b)] = some (dB false) := (o_isiD (T := "list") (by intro k z; cases z) (by decide)).trans (congrArg (fun b => some (dB b)) (by show isiB "bool" "list" = false; decide +kernel))
theorem oi_list_int {i : Int} : opF (.isi "list") [.i (.int i)] = some (dB false) := (o_isiD (T := "list") (by intro k z; cases z) (by decide)).trans (congrArg (fun b => some (dB b)) (by show isiB "int" "list" = false; decide +kernel))
theorem oi_list_str {x : Str} : opF (.isi "list") [.i (.str x)] = some (dB false) := (o_isiD (T := "list") (by intro k z; cases z) (by decide)).trans (congrArg (fun b => some (dB b)) (by show isiB "str" "list" = false; decide +kernel))
theorem oi_list_tup {xs : List I} : opF (.isi "list") [.i (.tup xs)] = some (dB false) := (o_isiD (T := "list") (by intro k z; cases z) (by decide)).trans (congrArg (fun b => some (dB b)) (by show isiB "tuple" "list" = false; decide +kernel))
theorem oi_list_lst {ds : List D} : opF (.isi "list") [.lst ds] = some (dB true) := (o_isiD (T := "list") (by intro k z; cases z) (by decide)).trans (congrArg (fun b => some (dB b)) (by show isiB "list" "list" = true; decide +kernel))
theorem oi_list_tupD {ds : List D} : opF (.isi "list") [.tup ds] = some (dB false) := (o_isiD (T := "list") (by intro k z; cases z) (by decide)).trans (congrArg (fun b => some (dB b)) (by show isiB "tuple" "list" = false; decide +kernel))
theorem oi_list_dk {kvs : List (Key × D)} : opF (.isi "list") [.dk kvs] = some (dB false) := (o_isiD (T := "list") (by intro k z; cases z) (by decide)).trans (congrArg (fun b => some (dB b)) (by show isiB "dict" "list" = false; decide +kernel))
theorem oi_dict_non  : opF (.isi "dict") [.i .non] = some (dB false) := (o_isiD (T := "dict") (by intro k z; cases z) (by decide)).trans (congrArg (fun b => some (dB b)) (by show isiB "NoneType" "dict" = false; decide +kernel))
theorem oi_dict_bl {b : Bool} : opF (.isi "dict") [.i (.bl b)] = some (dB false) := (o_isiD (T := "dict") (by intro k z; cases z) (by decide)).trans (congrArg (fun b => some (dB b)) (by show isiB "bool" "dict" = false; decide +kernel))
theorem oi_dict_int {i : Int} : opF (.isi "dict") [.i (.int i)] = some (dB false) := (o_isiD (T := "dict") (by intro k z; cases z) (by decide)).trans (congrArg (fun b => some (dB b)) (by show isiB "int" "dict" = false; decide +kernel))
theorem oi_dict_str {x : Str} : opF (.isi "dict") [.i (.str x)] = some (dB false) := (o_isiD (T := "dict") (by intro k z; cases z) (by decide)).trans (congrArg (fun b => some (dB b)) (by show isiB "str" "dict" = false; decide +kernel))
theorem oi_dict_tup {xs : List I} : opF (.isi "dict") [.i (.tup xs)] = some (dB false) := (o_isiD (T := "dict") (by intro k z; cases z) (by decide)).trans (congrArg (fun b => some (dB b)) (by show isiB "tuple" "dict" = false; decide +kernel))
theorem oi_dict_lst {ds : List D} : opF (.isi "dict") [.lst ds] = some (dB false) := (o_isiD (T := "dict") (by intro k z; cases z) (by decide)).trans (congrArg (fun b => some (dB b)) (by show isiB "list" "dict" = false; decide +kernel))
theorem oi_dict_tupD {ds : List D} : opF (.isi "dict") [.tup ds] = some (dB false) := (o_isiD (T := "dict") (by intro k z; cases z) (by decide)).trans (congrArg (fun b => some (dB b)) (by show isiB "tuple" "dict" = false; decide +kernel))
theorem oi_dict_dk {kvs : List (Key × D)} : opF (.isi "dict") [.dk kvs] = some (dB true) := (o_isiD (T := "dict") (by intro k z; cases z) (by decide)).trans (congrArg (fun b => some (dB b)) (by show isiB "dict" "dict" = true; decide +kernel))
end Mp

namespace Mp
open PySem PyProof.Rows L2

structure Road where
  name : Str
  a : Str
  b : Str
  room : Int
  kind : Str
structure Net where
  places : List Str
  roads : List Road
def encR (r : Road) : I := .tup [.str r.name, .str r.a, .str r.b, .int r.room, .str r.kind]
def encNet (N : Net) : D := .i (.tup [.str (PySem.Str.ofString "net"), .tup (N.places.map .str), .tup (N.roads.map encR)])
def immD : D → Prop
  | .i _ => True
  | _ => False
def Ch (L : Nat) : Nat → D → Prop
  | 0, d => immD d ∧ WfD L d
  | m + 1, d => (immD d ∧ WfD L d) ∨ (∃ xs, d = .lst (xs.map .i) ∧ WfIs L xs ∧ xs.length ≤ L) ∨ ∃ ds, d = .tup ds ∧ ds.length ≤ L ∧ ∀ x ∈ ds, Ch L m x
theorem immD_i {d : D} (h : immD d) : ∃ x, d = .i x := by
  cases d with
  | i x => exact ⟨x, rfl⟩
  | _ => exact h.elim
theorem Ch.imm {L : Nat} {m : Nat} {x : I} (h : WfI L x) : Ch L m (.i x) := by
  cases m with
  | zero => exact ⟨trivial, WfD.i.mpr h⟩
  | succ m => exact .inl ⟨trivial, WfD.i.mpr h⟩
theorem Ch.wf {L : Nat} : ∀ {m : Nat} {d : D}, Ch L m d → WfD L d
  | 0, d, h => h.2
  | m + 1, d, h => by
    rcases h with h | ⟨xs, rfl, h1, h2⟩ | ⟨ds, rfl, h1, h2⟩
    · exact h.2
    · simp only [WfD, List.length_map]
      refine ⟨h2, WfDs.mem.mpr fun x hx => ?_⟩
      obtain ⟨y, hy, rfl⟩ := List.mem_map.mp hx
      exact WfD.i.mpr (WfIs.mem.mp h1 y hy)
    · simp only [WfD]
      exact ⟨h1, WfDs.mem.mpr fun x hx => Ch.wf (h2 x hx)⟩
theorem Ch.kids {L m : Nat} {d : D} {ds : List D} (h : Ch L (m + 1) d) (e : kidsT d = some ds) : ∀ x ∈ ds, Ch L m x := by
  rcases h with ⟨h, hw⟩ | ⟨xs, rfl, h1, h2⟩ | ⟨es, rfl, h1, h2⟩
  · obtain ⟨x, rfl⟩ := immD_i h
    intro y hy
    have hk := hw.kids e
    cases x <;> simp only [kidsT, Option.some.injEq, reduceCtorEq] at e
    subst e
    obtain ⟨z, hz, rfl⟩ := List.mem_map.mp hy
    exact Ch.imm (WfD.i.mp (hk.2 _ hy))
  · simp [kidsT] at e
  · simp only [kidsT, Option.some.injEq] at e
    subst e
    exact h2
def immOf : D → I
  | .i x => x
  | _ => .non
theorem Ch.of {L : Nat} {d : D} (h : Ch L 0 d) : d = .i (immOf d) ∧ WfI L (immOf d) := by
  obtain ⟨x, rfl⟩ := immD_i h.1
  exact ⟨rfl, WfD.i.mp h.2⟩
def kidT (d : D) : List D := (kidsT d).getD []
def item (j : Nat) (d : D) : D := (kidT d).getD j (.i .non)
theorem item_at {d : D} {ds : List D} {j : Nat} (e : kidsT d = some ds) (h : j < ds.length) : ds[j]? = some (item j d) ∧ item j d ∈ ds := by
  unfold item kidT
  rw [e]
  have e2 : ((some ds).getD ([] : List D)).getD j (.i .non) = ds[j] := by
    simp only [Option.getD_some, List.getD_eq_getElem?_getD, List.getElem?_eq_getElem h]
  rw [e2]
  exact ⟨List.getElem?_eq_getElem h, List.getElem_mem h⟩
def ltB (x y : Str) : Bool := decide (x.cps.toList < y.cps.toList)
def ltI : I → I → Bool
  | .str x, .str y => ltB x y
  | _, _ => false
def isStrI : I → Bool
  | .str _ => true
  | _ => false
def ascI (xs : List I) : Bool := (List.range (xs.length - 1)).all fun i => ltI (xs.getD i .non) (xs.getD (i + 1) .non)
def textTup (xs : List I) : Bool := xs.all isStrI && ascI xs
theorem o_tupL {α : Type} {f : α → I} {xs : List α} : opF .tup [.lst (xs.map fun x => .i (f x))] = some (.i (.tup (xs.map f))) := by
  have e : opF .tup [.lst (xs.map fun x => D.i (f x))] = tupF (.lst (xs.map fun x => D.i (f x))) := rfl
  rw [e]
  unfold tupF kidsT kidsL
  dsimp only
  rw [allI_mapF]
  rfl
theorem getK_addK {k q : Key} {d : D} : ∀ {kvs : List (Key × D)}, getK (addK k d kvs) q = if k = q then some d else getK kvs q
  | [] => rfl
  | (k', d') :: r => by
    unfold addK
    by_cases h : k' = k
    · rw [if_pos h]
      subst h
      unfold getK
      by_cases e : k' = q
      · rw [if_pos e, if_pos e]
      · rw [if_neg e, if_neg e, if_neg e]
    · rw [if_neg h]
      unfold getK
      rw [getK_addK]
      by_cases e : k' = q
      · rw [if_pos e, if_pos e, if_neg (fun z => h (e.trans z.symm))]
      · rw [if_neg e, if_neg e]
section
variable {α : Type}
def lastK (q : α → Key) (xs : List α) (k : Key) : Option α := (xs.filter fun x => decide (q x = k)).getLast?
def tab (q : α → Key) (g : α → D) (xs : List α) : List (Key × D) := updK [] (xs.map fun x => (q x, g x))
theorem getK_upd {q : α → Key} {g : α → D} {k : Key} : ∀ {xs : List α} {kvs : List (Key × D)}, getK (updK kvs (xs.map fun x => (q x, g x))) k = ((lastK q xs k).map g).orElse fun _ => getK kvs k
  | [], kvs => rfl
  | x :: xs, kvs => by
    show getK (updK (addK (q x) (g x) kvs) (xs.map fun x => (q x, g x))) k = _
    rw [getK_upd, getK_addK]
    unfold lastK
    rw [List.filter_cons]
    by_cases h : q x = k
    · rw [if_pos h, if_pos (by simpa using h), List.getLast?_cons]
      cases (xs.filter fun x => decide (q x = k)).getLast? <;> rfl
    · rw [if_neg h, if_neg (by simpa using h)]
theorem getK_tab {q : α → Key} {g : α → D} {k : Key} {xs : List α} : getK (tab q g xs) k = (lastK q xs k).map g := by
  unfold tab
  rw [getK_upd]
  cases lastK q xs k <;> rfl
theorem lastK_some {q : α → Key} {k : Key} {xs : List α} {x : α} (h : lastK q xs k = some x) : x ∈ xs ∧ q x = k := by
  have := List.mem_of_getLast? h
  rw [List.mem_filter] at this
  exact ⟨this.1, by simpa using this.2⟩
theorem lastK_none {q : α → Key} {k : Key} {xs : List α} : lastK q xs k = none ↔ ∀ x ∈ xs, q x ≠ k := by
  unfold lastK
  rw [List.getLast?_eq_none_iff, List.filter_eq_nil_iff]
  simp
theorem lastK_mem {q : α → Key} {xs : List α} (nd : (xs.map q).Nodup) {x : α} (hx : x ∈ xs) : lastK q xs (q x) = some x := by
  cases e : lastK q xs (q x) with
  | none => exact absurd rfl (lastK_none.mp e x hx)
  | some y =>
    obtain ⟨h1, h2⟩ := lastK_some e
    have : y = x := by
      clear e
      induction xs with
      | nil => cases hx
      | cons z zs ih =>
        simp only [List.map_cons, List.nodup_cons] at nd
        rcases List.mem_cons.mp hx with rfl | hx'
        · rcases List.mem_cons.mp h1 with rfl | h1'
          · rfl
          · exact absurd (List.mem_map.mpr ⟨y, h1', h2⟩) nd.1
        · rcases List.mem_cons.mp h1 with rfl | h1'
          · exact absurd (List.mem_map.mpr ⟨x, hx', h2.symm⟩) nd.1
          · exact ih nd.2 hx' h1'
    rw [this]
end
theorem o_inK {x : Str} {kvs : List (Key × D)} : opF .inn [dS x, .dk kvs] = some (dB (getK kvs (.inr x)).isSome) := by
  show (inF (dS x) (.dk kvs)).map (fun k => dB k) = _
  unfold inF memD
  simp only [pyD]
  rfl
theorem o_ninK {x : Str} {kvs : List (Key × D)} : opF .nin [dS x, .dk kvs] = some (dB (!(getK kvs (.inr x)).isSome)) := by
  show ((inF (dS x) (.dk kvs)).map (!·)).map (fun k => dB k) = _
  unfold inF memD
  simp only [pyD]
  rfl
theorem o_ixKey {x : Str} {kvs : List (Key × D)} {d : D} (h : getK kvs (.inr x) = some d) : opF .ix [.dk kvs, dS x] = some d := by
  have e : opF .ix [.dk kvs, dS x] = ((some (getK kvs (.inr x))).join : Option D) := rfl
  rw [e, h]
  rfl
theorem o_dictS {α : Type} {nm : α → Str} {v : α → I} {xs : List α} : opF .dict [.lst (xs.map fun r => .i (.tup [.str (nm r), v r]))] = some (.dk (tab (fun r => .inr (nm r)) (fun r => .i (v r)) xs)) := by
  have e : opF .dict [.lst (xs.map fun r => D.i (.tup [.str (nm r), v r]))] = dictF (.lst (xs.map fun r => D.i (.tup [.str (nm r), v r]))) := rfl
  rw [e]
  unfold dictF kidsL
  dsimp only
  rw [allI_mapF (fun r => I.tup [.str (nm r), v r])]
  dsimp only
  have p : pairsI (xs.map fun r => I.tup [.str (nm r), v r]) = some (xs.map fun r => (Sum.inr (nm r), v r)) := by
    induction xs with
    | nil => rfl
    | cons x xs ih =>
      rw [List.map_cons, List.map_cons]
      unfold pairsI
      rw [ih rfl]
      rfl
  rw [p]
  unfold tab
  rw [Option.map_some, List.map_map]
  rfl
def sBoth : Str := PySem.Str.ofString "both"
def sOne : Str := PySem.Str.ofString "one"
def roadTab (N : Net) : List (Key × D) := tab (fun r : Road => .inr r.name) (fun r => .i (encR r)) N.roads
def lookR (N : Net) (x : Str) : Option Road := lastK (fun r : Road => .inr r.name) N.roads (.inr x)
theorem getK_road {N : Net} {x : Str} : getK (roadTab N) (.inr x) = (lookR N x).map fun r => .i (encR r) := getK_tab
structure NetOk (N : Net) : Prop where
  pl : N.places.length ≤ 40
  rl : N.roads.length ≤ 120
  pnd : N.places.Nodup
  rnd : (N.roads.map (·.name)).Nodup
  ends : ∀ r ∈ N.roads, r.a ∈ N.places ∧ r.b ∈ N.places ∧ r.a ≠ r.b
  room : ∀ r ∈ N.roads, 1 ≤ r.room ∧ r.room ≤ 5
  kind : ∀ r ∈ N.roads, r.kind = sBoth ∨ r.kind = sOne
  pok : ∀ x ∈ N.places, PyData.strOk x = true ∧ x.length ≤ 100
  rok : ∀ r ∈ N.roads, PyData.strOk r.name = true ∧ r.name.length ≤ 100
theorem sOne_ne : (sOne == sBoth) = false := by decide +kernel
theorem sBoth_ne : (sBoth == sOne) = false := by decide +kernel
def hasS (ps : List Str) (x : Str) : Bool := ps.any fun q => q == x
theorem pyIs_map {α : Type} (f : α → I) (xs : List α) : pyIs (xs.map f) = xs.map fun x => pyI (f x) := by
  induction xs with
  | nil => rfl
  | cons x xs ih => simp only [List.map_cons, pyIs, ih]
theorem o_inT0 {x : Str} {ps : List Str} : inF (dS x) (.i (.tup (ps.map .str))) = some (hasS ps x) := by
  have h2 : memD (dS x) (.i (.tup (ps.map .str))) = some (hasS ps x) := by
    unfold memD
    simp only [pyD, pyI, pyIs_map]
    rw [if_pos (Nat.le_trans (Nat.min_le_right _ _) (by show 0 ≤ 60; decide))]
    unfold hasS
    rw [List.any_map]
    rfl
  unfold inF
  rw [h2]
theorem o_inT {x : Str} {ps : List Str} : opF .inn [dS x, .i (.tup (ps.map .str))] = some (dB (hasS ps x)) := by
  have e : opF .inn [dS x, .i (.tup (ps.map .str))] = (inF (dS x) (.i (.tup (ps.map .str)))).map fun k => dB k := rfl
  rw [e, o_inT0]; rfl
theorem o_ninT {x : Str} {ps : List Str} : opF .nin [dS x, .i (.tup (ps.map .str))] = some (dB (!hasS ps x)) := by
  have e : opF .nin [dS x, .i (.tup (ps.map .str))] = ((inF (dS x) (.i (.tup (ps.map .str)))).map (!·)).map fun k => dB k := rfl
  rw [e, o_inT0]; rfl
structure Step where
  name : Str
  dir : Str
  a : Str
  b : Str
  room : Int
def encS (s : Step) : I := .tup [.str s.name, .str s.dir, .str s.a, .str s.b, .int s.room]
def sOn : Str := PySem.Str.ofString "on"
def sBack : Str := PySem.Str.ofString "back"
def stepsOf (r : Road) : List Step := ⟨r.name, sOn, r.a, r.b, r.room⟩ :: if r.kind == sBoth then [⟨r.name, sBack, r.b, r.a, r.room⟩] else []
def steps (N : Net) : List Step := N.roads.flatMap stepsOf
def plc (ps : List Str) (v : Str → Int) : List (Key × D) := ps.map fun p => (Sum.inr p, dI (v p))
theorem addK_new {k : Key} {d : D} : ∀ {kvs : List (Key × D)}, k ∉ kvs.map (·.1) → addK k d kvs = kvs ++ [(k, d)]
  | [], _ => rfl
  | (k', d') :: r, h => by
    simp only [List.map_cons, List.mem_cons, not_or] at h
    unfold addK
    rw [if_neg (fun z => h.1 z.symm), addK_new h.2]
    rfl
theorem updK_new : ∀ {xs kvs : List (Key × D)}, ((kvs ++ xs).map (·.1)).Nodup → updK kvs xs = kvs ++ xs
  | [], kvs, _ => by rw [List.append_nil]; rfl
  | (k, d) :: xs, kvs, h => by
    show updK (addK k d kvs) xs = _
    have h2 : ((kvs.map (·.1)) ++ (k :: xs.map (·.1))).Nodup := by simpa using h
    have hk : k ∉ kvs.map (·.1) := fun z => (List.nodup_append.mp h2).2.2 k z k List.mem_cons_self rfl
    rw [addK_new hk, updK_new (by simpa using h), List.append_assoc]
    rfl
theorem plc_keys {ps : List Str} {v : Str → Int} : (plc ps v).map (·.1) = ps.map Sum.inr := by
  unfold plc
  rw [List.map_map]
  rfl
theorem inr_nodup {ps : List Str} (h : ps.Nodup) : (ps.map (Sum.inr : Str → Key)).Nodup := by
  induction ps with
  | nil => exact List.nodup_nil
  | cons p ps ih =>
    simp only [List.nodup_cons] at h
    simp only [List.map_cons, List.nodup_cons, List.mem_map, not_exists, not_and]
    exact ⟨fun x hx e => h.1 (Sum.inr.inj e ▸ hx), ih h.2⟩
theorem plc_tab {ps : List Str} (h : ps.Nodup) {v : Str → Int} : updK [] (plc ps v) = plc ps v := by
  have := updK_new (kvs := []) (xs := plc ps v) (by rw [List.nil_append, plc_keys]; exact inr_nodup h)
  simpa using this
theorem plc_get {q : Str} {v : Str → Int} : ∀ {ps : List Str}, q ∈ ps → getK (plc ps v) (.inr q) = some (dI (v q))
  | p :: ps, h => by
    show (if (Sum.inr p : Key) = .inr q then some (dI (v p)) else getK (plc ps v) (.inr q)) = _
    by_cases e : p = q
    · subst e
      rw [if_pos rfl]
    · rw [if_neg (fun z => e (Sum.inr.inj z))]
      exact plc_get ((List.mem_cons.mp h).resolve_left (Ne.symm e))
theorem plc_add {q : Str} {x : Int} {v : Str → Int} : ∀ {ps : List Str}, q ∈ ps → ps.Nodup → addK (.inr q) (dI x) (plc ps v) = plc ps fun p => if p = q then x else v p
  | p :: ps, h, nd => by
    show (if (Sum.inr p : Key) = .inr q then ((Sum.inr p : Key), dI x) :: plc ps v else (.inr p, dI (v p)) :: addK (.inr q) (dI x) (plc ps v)) = (.inr p, dI (if p = q then x else v p)) :: plc ps _
    simp only [List.nodup_cons] at nd
    by_cases e : p = q
    · subst e
      rw [if_pos rfl, if_pos rfl]
      congr 1
      unfold plc
      refine List.map_congr_left fun y hy => ?_
      have hne : ¬ y = p := fun z => nd.1 (z ▸ hy)
      show ((Sum.inr y : Key), dI (v y)) = (.inr y, dI (if y = p then x else v y))
      rw [if_neg hne]
    · rw [if_neg (fun z => e (Sum.inr.inj z)), if_neg e, plc_add ((List.mem_cons.mp h).resolve_left (Ne.symm e)) nd.2]
theorem plc_len {ps : List Str} {v : Str → Int} : (plc ps v).length = ps.length := List.length_map _
theorem w_augSK {inf : Inf} {ρ : Env} {o : Op} {i : Nat} {k old : D} {kvs : List (Key × D)} {q : Key} {m : M D} {Q : Unit → Env → Prop} (e : getE ρ i = some (.dk kvs)) (hk : keyD k = some q) (ho : getK kvs q = some old)
    (h : WE (m ρ) fun d ρ' => ∃ z, augF o old d = some z ∧ WE (subM inf i [k] z ρ') Q) : WE (augSM inf o i [k] m ρ) Q := by
  unfold augSM
  show WE (match [k].getLast?, getE ρ i with
    | some k, some x => _
    | _, _ => _) Q
  rw [e]
  have e2 : mutAt (fun d => (at1 k d).map fun y => (d, y)) [] (.dk kvs) = some (.dk kvs, old) := by
    show ((lookD (.dk kvs) k).join).map _ = _
    unfold lookD
    dsimp only
    rw [hk]
    show ((getK kvs q)).map _ = _
    rw [ho]
    rfl
  show WE (match mutAt (fun d => (at1 k d).map fun y => (d, y)) [] (.dk kvs) with
    | some (_, old) => _
    | none => _) Q
  rw [e2]
  exact WE.bnd (h.mono fun d ρ' ⟨z, e3, w⟩ => WE.bnd (WE.lift e3 w))
def encF (x : Str × Int) : I := .tup [.str x.1, .int x.2]
def amtOf (rows : List (Str × Int)) (x : Str) : Int := match lastK (fun r : Str × Int => (Sum.inr r.1 : Key)) rows (.inr x) with
  | some r => r.2
  | none => 0
theorem get_amt {rows : List (Str × Int)} {x : Str} : getF (.dk (tab (fun r : Str × Int => .inr r.1) (fun r => dI r.2) rows)) (dS x) (dI 0) = some (dI (amtOf rows x)) := by
  show some ((getK (tab (fun r : Str × Int => .inr r.1) (fun r => dI r.2) rows) (.inr x)).getD (dI 0)) = _
  rw [getK_tab]
  unfold amtOf
  cases lastK (fun r : Str × Int => (Sum.inr r.1 : Key)) rows (.inr x) <;> rfl
def contrib (p : Str) (r : Road) (x : Int) : Int := (if p = r.a then x else 0) - (if p = r.b then x else 0)
end Mp

namespace Mp
open PySem PyProof.Rows L2

theorem emod_over {x m : Int} (h1 : m ≤ x) (h2 : x < 2 * m) : x % m = x - m := by
  have : x % m = (x - m) % m := by rw [Int.sub_emod_right]
  rw [this, Int.emod_eq_of_lt (by omega) (by omega)]
def pnm (c : Str) (k : Nat) : Str := c ++ strI k
def sP : Str := PySem.Str.ofString "p"
def sR : Str := PySem.Str.ofString "r"
theorem pnm_inj : ∀ i < 64, ∀ j < 64, pnm sP i = pnm sP j → i = j := by decide +kernel
theorem rnm_inj : ∀ i < 64, ∀ j < 64, pnm sR i = pnm sR j → i = j := by decide +kernel
theorem pnm_ok : ∀ i < 64, PyData.strOk (pnm sP i) = true ∧ (pnm sP i).length ≤ 100 := by decide +kernel
theorem rnm_ok : ∀ i < 64, PyData.strOk (pnm sR i) = true ∧ (pnm sR i).length ≤ 100 := by decide +kernel
theorem o_addS {a b : Str} (h : a.length + b.length ≤ sizeLine) : opF .add [dS a, dS b] = some (dS (a ++ b)) := by
  have e : opF .add [dS a, dS b] = plusF (dS a) (dS b) := rfl
  have e2 : addF (dS a) (dS b) = some (dS (a ++ b)) := if_pos h
  rw [e]
  unfold plusF
  rw [e2]
theorem str_small {k : Nat} (h : k < 64) : ((k : Int)).natAbs.log2 < 1920 := by
  have : (k : Int).natAbs = k := rfl
  rw [this]
  by_cases h0 : k = 0
  · subst h0; decide
  · exact Nat.lt_trans ((Nat.log2_lt h0).mpr (by omega : k < 2 ^ 10)) (by decide)
theorem strI_len : ∀ k < 64, (strI (k : Nat)).length ≤ 10 := by decide +kernel
theorem nodup_map {α β : Type} {f : α → β} {xs : List α} (nd : xs.Nodup) (h : ∀ a ∈ xs, ∀ b ∈ xs, f a = f b → a = b) : (xs.map f).Nodup := by
  induction xs with
  | nil => exact List.nodup_nil
  | cons x xs ih =>
    simp only [List.nodup_cons] at nd
    simp only [List.map_cons, List.nodup_cons, List.mem_map, not_exists, not_and]
    refine ⟨fun y hy e => ?_, ih nd.2 fun a ha b hb => h a (List.mem_cons_of_mem _ ha) b (List.mem_cons_of_mem _ hb)⟩
    have := h y (List.mem_cons_of_mem _ hy) x List.mem_cons_self e
    exact nd.1 (this ▸ hy)
theorem pnames_nodup {m : Nat} (h : m ≤ 64) : ((List.range m).map (pnm sP)).Nodup := nodup_map List.nodup_range fun a ha b hb e => pnm_inj a (by have := List.mem_range.mp ha; omega) b (by have := List.mem_range.mp hb; omega) e
theorem rnames_nodup {m : Nat} (h : m ≤ 64) : ((List.range m).map (pnm sR)).Nodup := nodup_map List.nodup_range fun a ha b hb e => rnm_inj a (by have := List.mem_range.mp ha; omega) b (by have := List.mem_range.mp hb; omega) e
theorem sort_map {α : Type} {f : α → I} {xs : List α} : ∃ ts : List α, sortI (xs.map f) = ts.map f ∧ ts.Perm xs := by
  refine ⟨xs.mergeSort (PySem.W.dataLe false fun x => pyI (f x)), ?_, List.mergeSort_perm _ _⟩
  unfold sortI
  have : (xs.mergeSort (PySem.W.dataLe false fun x => pyI (f x))).map f = (xs.map f).mergeSort (PySem.W.dataLe false pyI) := List.map_mergeSort (fun a _ b _ => rfl)
  exact this.symm
theorem o_sort {xs : List I} (h : sortOk xs = true) : opF .sorted [.lst (xs.map .i)] = some (.lst ((sortI xs).map .i)) := by
  have e : opF .sorted [.lst (xs.map D.i)] = sortL (.lst (xs.map D.i)) := rfl
  rw [e]
  unfold sortL kidsL
  dsimp only
  rw [show (xs.map D.i) = xs.map (fun x => D.i (id x)) from rfl, allI_mapF, List.map_id]
  dsimp only
  rw [if_pos h]
theorem sortOk_of {xs : List I} (h1 : ∀ a ∈ xs, ∀ b ∈ xs, PySem.W.alike (pyI a) (pyI b) = true) (h2 : (∀ a ∈ xs, tupNe a = true) ∨ ∀ a ∈ xs, noTup a = true) (h3 : ∀ a ∈ xs, (pyI a).depth ≤ 60) (h4 : xs.length ≤ sizeLine) : sortOk xs = true := by
  unfold sortOk
  rw [Bool.and_eq_true, Bool.and_eq_true, Bool.and_eq_true]
  refine ⟨⟨⟨List.all_eq_true.mpr fun a ha => List.all_eq_true.mpr fun b hb => h1 a ha b hb, ?_⟩, List.all_eq_true.mpr fun a ha => decide_eq_true (h3 a ha)⟩, decide_eq_true h4⟩
  rw [Bool.or_eq_true]
  exact h2.imp (fun h => List.all_eq_true.mpr h) fun h => List.all_eq_true.mpr h
theorem sortOk_strs {ss : List Str} (h : ss.length ≤ sizeLine) : sortOk (ss.map .str) = true := by
  refine sortOk_of (fun a ha b hb => ?_) (.inr fun a ha => ?_) (fun a ha => ?_) (by rw [List.length_map]; exact h)
  · obtain ⟨x, _, rfl⟩ := List.mem_map.mp ha
    obtain ⟨y, _, rfl⟩ := List.mem_map.mp hb
    rfl
  · obtain ⟨x, _, rfl⟩ := List.mem_map.mp ha
    rfl
  · obtain ⟨x, _, rfl⟩ := List.mem_map.mp ha
    show (0 : Nat) ≤ 60
    decide
theorem sortOk_roads {rs : List Road} (h : rs.length ≤ sizeLine) : sortOk (rs.map encR) = true := by
  refine sortOk_of (fun a ha b hb => ?_) (.inl fun a ha => ?_) (fun a ha => ?_) (by rw [List.length_map]; exact h)
  · obtain ⟨x, _, rfl⟩ := List.mem_map.mp ha
    obtain ⟨y, _, rfl⟩ := List.mem_map.mp hb
    rfl
  · obtain ⟨x, _, rfl⟩ := List.mem_map.mp ha
    rfl
  · obtain ⟨x, _, rfl⟩ := List.mem_map.mp ha
    have : (pyI (encR x)).depth = 1 := rfl
    rw [this]
    decide
def encRs (rs : List Road) : D := .lst (rs.map fun r => .i (encR r))
theorem o_appR {rs : List Road} {r : Road} (h : rs.length ≤ 5000) : mtF .app [.i (encR r)] (encRs rs) = some (encRs (rs ++ [r]), .i .non) := by
  show (if (rs.map fun r => D.i (encR r)).length < sizeLine then some (D.lst ((rs.map fun r => D.i (encR r)) ++ [D.i (encR r)]), D.i .non) else none) = _
  rw [if_pos (by rw [List.length_map]; exact Nat.lt_of_le_of_lt h (by decide))]
  unfold encRs
  rw [List.map_append]; rfl
theorem o_sortS {α : Type} {f : α → Str} {xs : List α} (h : xs.length ≤ sizeLine) : ∃ ts : List Str, ts.Perm (xs.map f) ∧ opF .sorted [.lst (xs.map fun x => dS (f x))] = some (.lst (ts.map dS)) := by
  obtain ⟨ts, e, hp⟩ := sort_map (f := I.str) (xs := xs.map f)
  refine ⟨ts, hp, ?_⟩
  have e2 : (xs.map fun x => dS (f x)) = ((xs.map f).map I.str).map D.i := by rw [List.map_map, List.map_map]; rfl
  rw [e2, o_sort (sortOk_strs (by rw [List.length_map]; exact h)), e, List.map_map]
  rfl
theorem o_sortR {rs : List Road} (h : rs.length ≤ sizeLine) : ∃ ts : List Road, ts.Perm rs ∧ opF .sorted [encRs rs] = some (encRs ts) := by
  obtain ⟨ts, e, hp⟩ := sort_map (f := encR) (xs := rs)
  refine ⟨ts, hp, ?_⟩
  have e2 : encRs rs = .lst ((rs.map encR).map D.i) := by unfold encRs; rw [List.map_map]; rfl
  rw [e2, o_sort (sortOk_roads h), e, List.map_map]
  rfl
theorem o_tupS {xs : List Str} : opF .tup [.lst (xs.map dS)] = some (.i (.tup (xs.map .str))) := o_tupL
theorem o_tupR {rs : List Road} : opF .tup [encRs rs] = some (.i (.tup (rs.map encR))) := o_tupL
theorem ix_of {α : Type} {f : α → D} {xs : List α} {i : Int} (h0 : 0 ≤ i) (h : i < xs.length) : ∃ x ∈ xs, xs[i.toNat]? = some x ∧ opF .ix [.lst (xs.map f), dI i] = some (f x) := by
  have hl : i.toNat < xs.length := by omega
  refine ⟨xs[i.toNat], List.getElem_mem hl, List.getElem?_eq_getElem hl, o_ixL ?_⟩
  rw [at_lt h0 (by simpa using h)]
  simp
mutual
theorem WfI.mono {L M : Nat} (h : L ≤ M) : ∀ {x : I}, WfI L x → WfI M x
  | .non, _ => by simp only [WfI]
  | .bl _, _ => by simp only [WfI]
  | .int _, _ => by simp only [WfI]
  | .str x, z => by simp only [WfI] at z ⊢; exact z
  | .tup xs, z => by
    simp only [WfI] at z ⊢
    exact ⟨Nat.le_trans z.1 h, WfIs.mono h z.2⟩
theorem WfIs.mono {L M : Nat} (h : L ≤ M) : ∀ {xs : List I}, WfIs L xs → WfIs M xs
  | [], _ => by simp only [WfIs]
  | x :: xs, z => by
    simp only [WfIs] at z ⊢
    exact ⟨WfI.mono h z.1, WfIs.mono h z.2⟩
end
mutual
def NoBl : I → Prop
  | .bl _ => False
  | .tup xs => NoBls xs
  | .non => True
  | .int _ => True
  | .str _ => True
def NoBls : List I → Prop
  | [] => True
  | x :: xs => NoBl x ∧ NoBls xs
end
theorem NoBls.mem : ∀ {xs : List I}, NoBls xs ↔ ∀ x ∈ xs, NoBl x
  | [] => by simp [NoBls]
  | x :: xs => by simp [NoBls, NoBls.mem (xs := xs)]
theorem o_addT {a b : List I} (h : a.length + b.length ≤ sizeLine) : opF .add [.i (.tup a), .i (.tup b)] = some (.i (.tup (a ++ b))) := by
  have e : opF .add [.i (.tup a), .i (.tup b)] = plusF (.i (.tup a)) (.i (.tup b)) := rfl
  have e2 : addF (.i (.tup a)) (.i (.tup b)) = some (.i (.tup (a ++ b))) := if_pos h
  rw [e]
  unfold plusF
  rw [e2]
theorem allI_inv : ∀ {ds : List D} {xs : List I}, allI ds = some xs → ds = xs.map .i
  | [], xs, e => by cases e; rfl
  | .i x :: r, xs, e => by
    have e : (allI r).map (x :: ·) = some xs := e
    cases q : allI r with
    | none => rw [q] at e; cases e
    | some ys => rw [q] at e; cases e; rw [allI_inv q]; rfl
  | .lst _ :: _, _, e => by cases e
  | .tup _ :: _, _, e => by cases e
  | .dk _ :: _, _, e => by cases e
  | .dt _ :: _, _, e => by cases e
theorem kidsT_mkT {ds : List D} : kidsT (mkT ds) = some ds := by
  unfold mkT
  cases e : allI ds with
  | none => rfl
  | some xs => rw [allI_inv e]; rfl
theorem o_addK {d e : D} {as bs : List D} (h1 : kidsT d = some as) (h2 : kidsT e = some bs) (h : as.length + bs.length ≤ sizeLine) : ∃ r, opF .add [d, e] = some r ∧ kidsT r = some (as ++ bs) := by
  have cat : addF d e = none → ∃ r, opF .add [d, e] = some r ∧ kidsT r = some (as ++ bs) := by
    intro hn
    have e0 : opF .add [d, e] = plusF d e := rfl
    rw [e0]
    unfold plusF
    rw [hn]
    dsimp only
    unfold catF
    rw [h1, h2]
    dsimp only
    rw [if_pos h]
    cases as with
    | nil => exact ⟨e, rfl, by rw [h2]; rfl⟩
    | cons x xs =>
      cases bs with
      | nil => exact ⟨d, rfl, by rw [h1, List.append_nil]⟩
      | cons y ys => exact ⟨_, rfl, kidsT_mkT⟩
  cases d with
  | i x =>
    cases x <;> simp only [kidsT, Option.some.injEq, reduceCtorEq] at h1
    subst h1
    cases e with
    | i y =>
      cases y <;> simp only [kidsT, Option.some.injEq, reduceCtorEq] at h2
      subst h2
      refine ⟨_, o_addT (by simpa using h), ?_⟩
      show some (List.map D.i _) = _
      rw [List.map_append]
    | tup es => exact cat rfl
    | _ => simp [kidsT] at h2
  | tup es =>
    cases e with
    | i y =>
      cases y <;> simp only [kidsT, reduceCtorEq] at h2
      exact cat rfl
    | tup fs => exact cat rfl
    | _ => simp [kidsT] at h2
  | _ => simp [kidsT] at h1
theorem Ch.ofKids {L m : Nat} {r : D} {ds : List D} (e : kidsT r = some ds) (hl : ds.length ≤ L) (h : ∀ x ∈ ds, Ch L m x) : Ch L (m + 1) r := by
  cases r with
  | i x =>
    cases x <;> simp only [kidsT, Option.some.injEq, reduceCtorEq] at e
    subst e
    refine .inl ⟨trivial, ?_⟩
    rw [WfD.i]
    simp only [WfI]
    refine ⟨by simpa using hl, WfIs.mem.mpr fun y hy => ?_⟩
    exact WfD.i.mp (h _ (List.mem_map.mpr ⟨y, hy, rfl⟩)).wf
  | tup es =>
    simp only [kidsT, Option.some.injEq] at e
    subst e
    exact .inr (.inr ⟨es, rfl, hl, h⟩)
  | _ => simp [kidsT] at e
theorem Ch.up {L : Nat} : ∀ {m : Nat} {d : D}, Ch L m d → Ch L (m + 1) d
  | 0, d, h => .inl h
  | m + 1, d, h => by
    rcases h with h | ⟨xs, rfl, h1, h2⟩ | ⟨ds, rfl, h1, h2⟩
    · exact .inl h
    · exact .inr (.inl ⟨xs, rfl, h1, h2⟩)
    · exact .inr (.inr ⟨ds, rfl, h1, fun x hx => Ch.up (h2 x hx)⟩)
theorem Ch.le {L m m' : Nat} {d : D} (h : Ch L m d) (hm : m ≤ m') : Ch L m' d := by
  induction hm with
  | refl => exact h
  | step _ ih => exact ih.up
theorem cut_to {α : Type} {xs : List α} {i : Int} (h : 0 ≤ i) : cutD xs none (some i) = xs.take i.toNat := by
  unfold cutD
  rw [HT.sIx_none]
  have e : HT.sIx xs.length xs.length (some i) = min i.toNat xs.length := by
    have := HT.sIx_nat xs.length xs.length i.toNat
    rwa [Int.toNat_of_nonneg h] at this
  rw [e, List.drop_zero, Nat.sub_zero]
  by_cases hl : i.toNat ≤ xs.length
  · rw [Nat.min_eq_left hl]
  · rw [Nat.min_eq_right (by omega), List.take_of_length_le (Nat.le_refl _), List.take_of_length_le (by omega)]
theorem cut_from {α : Type} {xs : List α} {i : Int} (h : 0 ≤ i) : cutD xs (some i) none = xs.drop i.toNat := by
  unfold cutD
  rw [HT.sIx_none]
  have e : HT.sIx xs.length 0 (some i) = min i.toNat xs.length := by
    have := HT.sIx_nat xs.length 0 i.toNat
    rwa [Int.toNat_of_nonneg h] at this
  rw [e]
  by_cases hl : i.toNat ≤ xs.length
  · rw [Nat.min_eq_left hl]
    exact List.take_of_length_le (by rw [List.length_drop]; omega)
  · rw [Nat.min_eq_right (by omega), List.drop_of_length_le (Nat.le_refl _), List.drop_of_length_le (by omega), List.take_nil]
theorem o_sltT {xs : List I} {i : Int} (h : 0 ≤ i) : opF .slt [.i (.tup xs), dI i] = some (.i (.tup (xs.take i.toNat))) := by
  have e : opF .slt [.i (.tup xs), dI i] = some (.i (.tup (cutD xs none (some i)))) := rfl
  rw [e, cut_to h]
theorem o_slfT {xs : List I} {i : Int} (h : 0 ≤ i) : opF .slf [.i (.tup xs), dI i] = some (.i (.tup (xs.drop i.toNat))) := by
  have e : opF .slf [.i (.tup xs), dI i] = some (.i (.tup (cutD xs (some i) none))) := rfl
  rw [e, cut_from h]
theorem o_lstT {xs : List I} : opF .lst [.i (.tup xs)] = some (.lst (xs.map .i)) := by
  have e : opF .lst [.i (.tup xs)] = lstF (.i (.tup xs)) := rfl
  have e2 : allI (xs.map D.i) = some xs := by
    have := allI_mapF (fun x : I => x) xs
    rw [List.map_id'] at this
    exact this
  rw [e]
  unfold lstF kids kidsT
  dsimp only
  rw [e2]
  rfl
theorem o_eqT0 {xs : List I} : opF .eq [.i (.tup xs), .i (.tup [])] = some (dB xs.isEmpty) := by
  have e : opF .eq [.i (.tup xs), .i (.tup [])] = (eqD (.i (.tup xs)) (.i (.tup []))).map fun k => dB k := rfl
  rw [e]
  unfold eqD
  simp only [pyD, pyI, pyIs]
  rw [if_pos (Nat.le_trans (Nat.min_le_right _ _) (by decide))]
  cases xs with
  | nil => rfl
  | cons x xs => rfl
theorem ix_mem {xs : List D} {i : Int} (h0 : 0 ≤ i) (h : i < xs.length) : ∃ x ∈ xs, opF .ix [.lst xs, dI i] = some x := ⟨xs[i.toNat]'(by omega), List.getElem_mem _, o_ixL (at_lt h0 h)⟩
end Mp

namespace Mp
open PySem PyProof.Rows L2

def subS (b a : Str) : Bool := !(Builtin.Str.occurrences b a 0 b.length 1).isEmpty
theorem o_inS {a b : Str} : opF .inn [dS a, dS b] = some (dB (subS b a)) := rfl
theorem o_ninS {a b : Str} : opF .nin [dS a, dS b] = some (dB (!subS b a)) := rfl
theorem o_lenS {a : Str} (h : a.length ≤ sizeLine) : opF .len [dS a] = some (dI a.length) := by
  have e : opF .len [dS a] = (lenD (dS a)).map fun n : Nat => D.i (.int (n : Int)) := rfl
  rw [e]
  unfold lenD
  dsimp only
  rw [if_pos h]
  rfl
def signs (s : Str) : List Str := s.cps.toList.map sgn
theorem signs_len (s : Str) : (signs s).length = s.length := by
  unfold signs Str.length
  simp
theorem items_s {s : Str} : itemsD (dS s) = some ((signs s).map dS) := by
  unfold signs
  rw [List.map_map]
  rfl
def headS (s : Str) : Str := (signs s).headD ⟨#[]⟩
theorem o_ixS0 {s : Str} (h : 1 ≤ s.length) (h2 : s.length ≤ sizeLine) : opF .ix [dS s, dI 0] = some (dS (headS s)) := by
  have e : opF .ix [dS s, dI 0] = ixS (dS s) (dI 0) := rfl
  rw [e]
  unfold ixS
  dsimp only
  rw [if_pos h2]
  unfold headS signs
  unfold Str.length at h
  have hc : 0 < s.cps.toList.length := by rw [Array.length_toList]; omega
  cases q : s.cps.toList with
  | nil => rw [q] at hc; cases hc
  | cons c r =>
    have : atI (c :: r) 0 = some c := at_nat (j := 0) rfl
    rw [this]; rfl
theorem o_lenKs {d : D} {ds : List D} (e : kids d = some ds) : opF .len [d] = some (dI ds.length) := by
  unfold kids at e
  cases q : kidsT d with
  | some es =>
    rw [q] at e
    cases e
    exact o_lenK q
  | none =>
    rw [q] at e
    dsimp only at e
    cases d with
    | lst es => cases e; rfl
    | _ => simp [kidsL] at e
theorem o_ixKs {d x : D} {ds : List D} {i : Int} (e : kids d = some ds) (h : atI ds i = some x) : opF .ix [d, dI i] = some x := by
  have e1 : opF .ix [d, dI i] = ixF d (dI i) := rfl
  rw [e1]
  unfold ixF
  rw [e]
  exact h
theorem items_ks {d : D} {ds : List D} (e : kids d = some ds) : itemsD d = some ds := by unfold itemsD; rw [e]
def hasI (ps : List Str) : I → Bool
  | .str x => hasS ps x
  | _ => false
theorem depthAll_str {ps : List Str} : PyData.depthAll (ps.map fun x => PyData.str x) = 0 := by
  induction ps with
  | nil => simp [PyData.depthAll]
  | cons p ps ih =>
    simp only [List.map_cons, PyData.depthAll, ih, PyData.depth]
    rfl
theorem pyI_notBoth {x : I} {p : Str} (h : ∀ s, x ≠ .str s) : PyData.eqv (.str p) (pyI x) = false := by
  cases x with
  | str s => exact absurd rfl (h s)
  | _ => simp only [pyI] <;> rfl
theorem any_str {ps : List Str} {x : I} : ((ps.map fun q => PyData.str q).any fun q => PyData.eqv q (pyI x)) = hasI ps x := by
  rw [List.any_map]
  cases x with
  | str s => rfl
  | _ =>
    unfold hasI
    rw [List.any_eq_false]
    intro q _
    simp only [Function.comp_apply]
    rw [pyI_notBoth (fun s z => by cases z)]
    exact Bool.false_ne_true
theorem pyDs_str {ps : List Str} : pyDs (ps.map dS) = some (ps.map fun x => PyData.str x) := by
  have := pyDs_map (fun x : Str => I.str x) ps
  simpa [pyI] using this
theorem inKs {x : I} {d : D} {ps : List Str} (e : kids d = some (ps.map dS)) : inF (.i x) d = some (hasI ps x) := by
  have key : ∃ qs, (pyD d = some (.list qs) ∨ pyD d = some (.tuple qs)) ∧ qs = ps.map fun x => PyData.str x := by
    unfold kids at e
    cases q : kidsT d with
    | some es =>
      rw [q] at e
      cases e
      cases d with
      | i y =>
        cases y <;> simp only [kidsT, Option.some.injEq, reduceCtorEq] at q
        rename_i xs
        have hx : xs = ps.map .str := by
          have h2 : xs.map D.i = (ps.map I.str).map D.i := by rw [q, List.map_map]; rfl
          exact List.map_inj_right (fun a b h => by cases h; rfl) |>.mp h2
        subst hx
        refine ⟨pyIs (ps.map I.str), .inr (by simp only [pyD, pyI]), ?_⟩
        rw [pyIs_map]
        simp only [pyI]
      | tup es =>
        simp only [kidsT, Option.some.injEq] at q
        subst q
        exact ⟨_, .inr (by simp only [pyD, pyDs_str, Option.map_some]), rfl⟩
      | _ => simp [kidsT] at q
    | none =>
      rw [q] at e
      cases d with
      | lst es =>
        simp only [kidsL, Option.some.injEq] at e
        subst e
        exact ⟨_, .inl (by simp only [pyD, pyDs_str, Option.map_some]), rfl⟩
      | _ => simp [kidsL] at e
  obtain ⟨qs, hq, rfl⟩ := key
  have hm : memD (.i x) d = some (hasI ps x) := by
    unfold memD
    have hp : pyD (.i x) = some (pyI x) := by simp only [pyD]
    rw [hp]
    rcases hq with hq | hq <;> rw [hq] <;> dsimp only <;>
      rw [if_pos (by rw [depthAll_str]; exact Nat.le_trans (Nat.min_le_left _ _) (Nat.zero_le _)), any_str]
  unfold inF
  split
  · rename_i a b
    unfold kids at e
    simp [kidsT, kidsL] at e
  · rw [hm]
theorem o_inKs {x : I} {d : D} {ps : List Str} (e : kids d = some (ps.map dS)) : opF .inn [.i x, d] = some (dB (hasI ps x)) := by
  have e1 : opF .inn [.i x, d] = (inF (.i x) d).map fun k => dB k := rfl
  rw [e1, inKs e]; rfl
theorem o_ninKs {x : I} {d : D} {ps : List Str} (e : kids d = some (ps.map dS)) : opF .nin [.i x, d] = some (dB (!hasI ps x)) := by
  have e1 : opF .nin [.i x, d] = ((inF (.i x) d).map (!·)).map fun k => dB k := rfl
  rw [e1, inKs e]; rfl
def isS (s : Str) : D → Bool
  | .i (.str x) => x == s
  | _ => false
mutual
theorem WfD.py {L : Nat} : ∀ {d : D}, WfD L d → ∃ p, pyD d = some p
  | .i x, _ => ⟨pyI x, by simp only [pyD]⟩
  | .lst ds, h => by
    simp only [WfD] at h
    obtain ⟨ps, e⟩ := WfDs.py h.2
    exact ⟨.list ps, by simp only [pyD, e, Option.map_some]⟩
  | .tup ds, h => by
    simp only [WfD] at h
    obtain ⟨ps, e⟩ := WfDs.py h.2
    exact ⟨.tuple ps, by simp only [pyD, e, Option.map_some]⟩
  | .dk _, h => by simp [WfD] at h
  | .dt _, h => by simp [WfD] at h
theorem WfDs.py {L : Nat} : ∀ {ds : List D}, WfDs L ds → ∃ ps, pyDs ds = some ps
  | [], _ => ⟨[], by simp only [pyDs]⟩
  | d :: ds, h => by
    simp only [WfDs] at h
    obtain ⟨p, e⟩ := WfD.py h.1
    obtain ⟨ps, e2⟩ := WfDs.py h.2
    exact ⟨p :: ps, by simp only [pyDs, e, e2]⟩
end
theorem eqDS {L : Nat} {d : D} {s : Str} (h : WfD L d) : eqD d (dS s) = some (isS s d) := by
  obtain ⟨p, e⟩ := h.py
  have e2 : pyD (dS s) = some (.str s) := by simp only [pyD, pyI]
  unfold eqD
  rw [e, e2]
  dsimp only
  rw [if_pos (Nat.le_trans (Nat.min_le_right _ _) (by show 0 ≤ 60; decide))]
  cases d with
  | i x =>
    cases x <;> simp only [pyD, pyI, Option.some.injEq] at e <;> subst e <;> rfl
  | lst ds =>
    simp only [pyD] at e
    cases q : pyDs ds with
    | none => rw [q] at e; cases e
    | some ps => rw [q] at e; cases e; rfl
  | tup ds =>
    simp only [pyD] at e
    cases q : pyDs ds with
    | none => rw [q] at e; cases e
    | some ps => rw [q] at e; cases e; rfl
  | _ => simp [WfD] at h
theorem o_neDS {L : Nat} {d : D} {s : Str} (h : WfD L d) : opF .ne [d, dS s] = some (dB (!isS s d)) := by
  have e1 : opF .ne [d, dS s] = ((eqD d (dS s)).map (!·)).map fun k => dB k := rfl
  rw [e1, eqDS h]; rfl
def isTupOf (m : Int) (d : D) : Bool := match kidsT d with
  | some ds => (ds.length : Int) == m
  | none => false
theorem sizeOk {a L : Nat} (h : a ≤ L) (hL : L ≤ 1000) : a ≤ sizeLine := Nat.le_trans h (Nat.le_trans hL (by decide))
theorem rngOk {a L : Nat} (h : a ≤ L) (hL : L ≤ 1000) : -(2 ^ 62) ≤ (a : Int) ∧ (a : Int) < 2 ^ 62 := ⟨by omega, by omega⟩
theorem atT {xs : List I} {i : Nat} (h : i < xs.length) : atI xs (i : Int) = some (xs.getD i .non) := by
  rw [List.getD_eq_getElem?_getD, List.getElem?_eq_getElem h]
  exact atI_nat (List.getElem?_eq_getElem h)
theorem getD_mem {xs : List I} {i : Nat} (h : i < xs.length) : xs.getD i .non ∈ xs := by
  rw [List.getD_eq_getElem?_getD, List.getElem?_eq_getElem h]
  exact List.getElem_mem h
theorem isStrI_is {x : I} (h : isStrI x = true) : ∃ s, x = .str s := by
  cases x with
  | str s => exact ⟨s, rfl⟩
  | _ => cases h
theorem tupOf_kids {m : Nat} {d : D} (h : isTupOf m d = true) : ∃ ds, kidsT d = some ds ∧ ds.length = m := by
  unfold isTupOf at h
  cases e : kidsT d with
  | none => rw [e] at h; cases h
  | some ds =>
    rw [e] at h
    exact ⟨ds, rfl, by have h : ((ds.length : Int) == (m : Int)) = true := h; have := eq_of_beq h; omega⟩
theorem atK {d : D} {ds : List D} {j : Nat} (e : kidsT d = some ds) (h : j < ds.length) : atI ds (j : Int) = some (item j d) := atI_nat (item_at e h).1
theorem id_map {α : Type} {xs : List α} : xs = xs.map fun x => x := by simp
theorem two {α : Type} {ds : List α} (h : ds.length = 2) : ∃ a b, ds = [a, b] := by
  match ds, h with
  | [a, b], _ => exact ⟨a, b, rfl⟩
theorem atL {xs : List I} {i : Nat} {j : Int} (h : i < xs.length) (e : j = i) : atI (xs.map D.i) j = some (.i (xs.getD i .non)) := by
  subst e
  refine atI_nat ?_
  rw [List.getElem?_map, List.getElem?_eq_getElem h, List.getD_eq_getElem?_getD, List.getElem?_eq_getElem h]
  rfl
theorem all_congr {α : Type} {p q : α → Bool} {xs : List α} (h : ∀ x ∈ xs, p x = q x) : xs.all p = xs.all q := by
  induction xs with
  | nil => rfl
  | cons x xs ih =>
    rw [List.all_cons, List.all_cons, h x List.mem_cons_self, ih fun y hy => h y (List.mem_cons_of_mem _ hy)]
theorem all_and {α : Type} {p q : α → Bool} {xs : List α} : (xs.all p && xs.all q) = xs.all fun x => p x && q x := by
  induction xs with
  | nil => rfl
  | cons x xs ih =>
    simp only [List.all_cons]
    rw [← ih]
    cases p x <;> cases q x <;> simp
mutual
def depI : I → Nat
  | .tup xs => depIs xs + 1
  | .non => 0
  | .bl _ => 0
  | .int _ => 0
  | .str _ => 0
def depIs : List I → Nat
  | [] => 0
  | x :: xs => max (depI x) (depIs xs)
end
theorem depIs_mem : ∀ {xs : List I} {x : I}, x ∈ xs → depI x ≤ depIs xs
  | y :: ys, x, h => by
    simp only [depIs]
    rcases List.mem_cons.mp h with rfl | h
    · exact Nat.le_max_left _ _
    · exact Nat.le_trans (depIs_mem h) (Nat.le_max_right _ _)
theorem o_eqNilM {α : Type} {f : α → I} {xs : List α} : opF .eq [.lst (xs.map fun x => .i (f x)), .lst []] = some (dB (xs.length == 0)) := by
  show (eqD _ _).map (fun k => dB k) = _
  unfold eqD
  simp only [pyD, pyDs_map, pyDs, Option.map_some]
  cases xs with
  | nil => rfl
  | cons x xs =>
    have : min (PyData.list ((x :: xs).map fun x => pyI (f x))).depth (PyData.list []).depth ≤ 60 := Nat.le_trans (Nat.min_le_right _ _) (by decide)
    rw [if_pos this]
    rfl
theorem o_neNilM {α : Type} {f : α → I} {xs : List α} : opF .ne [.lst (xs.map fun x => .i (f x)), .lst []] = some (dB (!(xs.length == 0))) := by
  have h := o_eqNilM (f := f) (xs := xs)
  have h : (eqD (.lst (xs.map fun x => .i (f x))) (.lst [])).map (fun k => dB k) = _ := h
  show ((eqD (.lst (xs.map fun x => .i (f x))) (.lst [])).map (!·)).map (fun k => dB k) = _
  cases e : eqD (.lst (xs.map fun x => .i (f x))) (.lst []) with
  | none => rw [e] at h; cases h
  | some b => rw [e] at h; cases h; rfl
end Mp

namespace Mp
open PySem PyProof.Rows L2

def sortS (ss : List Str) : List Str := ss.mergeSort leS
theorem sortS_perm (ss : List Str) : (sortS ss).Perm ss := List.mergeSort_perm _ _
theorem sortS_mem {ss : List Str} {x : Str} : x ∈ sortS ss ↔ x ∈ ss := (sortS_perm ss).mem_iff
theorem sortS_len (ss : List Str) : (sortS ss).length = ss.length := (sortS_perm ss).length_eq
theorem sortS_pw (ss : List Str) : (sortS ss).Pairwise fun a b => leS a b = true := List.pairwise_mergeSort leS_trans leS_total ss
theorem sortS_nodup {ss : List Str} (h : ss.Nodup) : (sortS ss).Nodup := (sortS_perm ss).nodup_iff.mpr h
theorem sortS_congr {a b : List Str} (ha : a.Nodup) (hb : b.Nodup) (h : ∀ x, x ∈ a ↔ x ∈ b) : sortS a = sortS b :=
  List.Perm.eq_of_pairwise (fun _ _ _ _ h1 h2 => leS_antisymm h1 h2) (sortS_pw a) (sortS_pw b) ((sortS_perm a).trans (((List.perm_ext_iff_of_nodup ha hb).mpr h).trans (sortS_perm b).symm))
theorem sortS_id {ss : List Str} (h : ss.Pairwise fun a b => leS a b = true) : sortS ss = ss := List.mergeSort_of_pairwise h
theorem sortI_str (ks : List Str) : sortI (ks.map .str) = (sortS ks).map .str := by
  unfold sortI sortS
  refine (List.map_mergeSort fun a _ b _ => ?_).symm
  show leS a b = _
  rw [PySem.W.dataLe_eq]
  show leS a b = !PySem.W.dataLt (.str b) (.str a)
  rw [PySem.W.dataLt_str]
  rfl
theorem o_sortSt {ss : List Str} (h : ss.length ≤ sizeLine) : opF .sorted [.lst (ss.map dS)] = some (.lst ((sortS ss).map dS)) := by
  have e2 : ss.map dS = (ss.map I.str).map D.i := by rw [List.map_map]; rfl
  rw [e2, o_sort (sortOk_strs h), sortI_str, List.map_map]
  rfl
theorem o_sortTu {ss : List Str} (h : ss.length ≤ sizeLine) : opF .sorted [.i (.tup (ss.map .str))] = some (.lst ((sortS ss).map dS)) := by
  have e : opF .sorted [.i (.tup (ss.map .str))] = sortT (.i (.tup (ss.map .str))) := rfl
  rw [e]
  unfold sortT
  dsimp only
  rw [if_pos (sortOk_strs h), sortI_str, List.map_map]
  rfl
theorem strKeys_map {α : Type} (f : α → Str) (g : α → D) (xs : List α) : strKeys (xs.map fun x => (.inr (f x), g x)) = some (xs.map f) := by
  induction xs with
  | nil => rfl
  | cons x xs ih =>
    show (strKeys (xs.map fun x => (.inr (f x), g x))).map (f x :: ·) = _
    rw [ih]; rfl
def kset (ks : List Str) : List (Key × D) := ks.map fun p => (.inr p, dB true)
theorem kset_keys (ks : List Str) : (kset ks).map (·.1) = ks.map Sum.inr := by
  unfold kset
  rw [List.map_map]
  rfl
theorem getK_kset {ks : List Str} {x : Str} : (getK (kset ks) (.inr x)).isSome = decide (x ∈ ks) := by
  induction ks with
  | nil => rfl
  | cons k ks ih =>
    show (getK ((Sum.inr k, dB true) :: kset ks) (.inr x)).isSome = _
    unfold getK
    by_cases h : k = x
    · subst h
      rw [if_pos rfl]
      simp
    · rw [if_neg (fun z => h (Sum.inr.inj z)), ih]
      have : x ∈ k :: ks ↔ x ∈ ks := by
        rw [List.mem_cons]
        exact ⟨fun q => q.resolve_left (fun z => h z.symm), .inr⟩
      simp only [this]
theorem kset_add {ks : List Str} {x : Str} (h : x ∉ ks) : addK (.inr x) (dB true) (kset ks) = kset (ks ++ [x]) := by
  have hn : (Sum.inr x : Key) ∉ (kset ks).map (·.1) := by
    rw [kset_keys]
    intro z
    obtain ⟨y, hy, e⟩ := List.mem_map.mp z
    exact h (Sum.inr.inj e ▸ hy)
  rw [addK_new hn]
  unfold kset
  rw [List.map_append]
  rfl
theorem kset_upd {ks es : List Str} (h : (ks ++ es).Nodup) : updK (kset ks) (kset es) = kset (ks ++ es) := by
  rw [updK_new]
  · unfold kset
    rw [List.map_append]
  · rw [List.map_append, kset_keys, kset_keys, ← List.map_append]
    exact nodup_map h fun a _ b _ e => Sum.inr.inj e
theorem o_sortDk {ks : List Str} (h1 : ks.length < 64) (h2 : ∀ k ∈ ks, PyData.strOk k = true) : opF .sorted [.dk (kset ks)] = some (.lst ((sortS ks).map dS)) := by
  have e : opF .sorted [.dk (kset ks)] = sortD (.dk (kset ks)) := rfl
  rw [e]
  unfold sortD
  dsimp only
  have e2 : strKeys (kset ks) = some ks := by
    have := strKeys_map (fun p : Str => p) (fun _ => dB true) ks
    rwa [List.map_id'] at this
  rw [e2]
  dsimp only
  rw [if_pos ⟨h1, List.all_eq_true.mpr h2⟩, sortI_str, List.map_map]
  rfl
def tbl (ps : List Str) (f : Str → D) : List (Key × D) := ps.map fun p => (.inr p, f p)
theorem tbl_get {ps : List Str} {f : Str → D} {x : Str} (h : x ∈ ps) : getK (tbl ps f) (.inr x) = some (f x) := by
  induction ps with
  | nil => cases h
  | cons p ps ih =>
    show getK ((Sum.inr p, f p) :: tbl ps f) (.inr x) = _
    unfold getK
    by_cases e : p = x
    · subst e
      rw [if_pos rfl]
    · rw [if_neg (fun z => e (Sum.inr.inj z))]
      exact ih ((List.mem_cons.mp h).resolve_left (Ne.symm e))
theorem tbl_put {ps : List Str} {f : Str → D} {x : Str} {d : D} (nd : ps.Nodup) : putA (.inr x) d (tbl ps f) = tbl ps fun y => if y = x then d else f y := by
  induction ps with
  | nil => rfl
  | cons p ps ih =>
    rw [List.nodup_cons] at nd
    show putA (.inr x) d ((Sum.inr p, f p) :: tbl ps f) = _
    unfold putA
    by_cases e : p = x
    · subst e
      rw [if_pos rfl]
      show _ = (Sum.inr p, if p = p then d else f p) :: tbl ps fun y => if y = p then d else f y
      rw [if_pos rfl]
      congr 1
      unfold tbl
      refine List.map_congr_left fun y hy => ?_
      have : ¬ y = p := fun z => nd.1 (z ▸ hy)
      show ((Sum.inr y : Key), f y) = (.inr y, if y = p then d else f y)
      rw [if_neg this]
    · rw [if_neg (fun z => e (Sum.inr.inj z)), ih nd.2]
      show _ = (Sum.inr p, if p = x then d else f p) :: tbl ps fun y => if y = x then d else f y
      rw [if_neg e]
theorem tbl_ext {ps : List Str} {f g : Str → D} (h : ∀ p ∈ ps, f p = g p) : tbl ps f = tbl ps g := by
  unfold tbl
  exact List.map_congr_left fun p hp => by rw [h p hp]
theorem tbl_upd {ps : List Str} {f : Str → D} (nd : ps.Nodup) : updK [] (ps.map fun p => (Sum.inr p, f p)) = tbl ps f := by
  rw [updK_new]
  · rfl
  · rw [List.nil_append, List.map_map]
    exact nodup_map nd fun a _ b _ e => Sum.inr.inj e
section
variable {Z : Z0} {G : GS} {n : Nat} {ρ : Env} {Q : D → Env → Prop}
theorem w_dsp {as : Ps} (h : WE (evd Z G as ρ) fun ds ρ' => ∃ d, (pairsF ds).bind mkDk = some d ∧ Q d ρ') : WE (ev Z G (.dsp as) ρ) Q := by
  simp only [ev]
  exact WE.bnd (h.mono fun ds ρ' ⟨d, e, q⟩ => WE.lift e q)
theorem w_mt1 {m : Mt} {i : Nat} {kp : P} {as : Ps} (h0 : getE ρ i ≠ none) (h : WE (ev Z G kp ρ) fun k ρ1 => ∃ q kvs old, keyD k = some q ∧ getE ρ1 i = some (.dk kvs) ∧ getK kvs q = some old ∧ tyD old = mtT m ∧ WE (evd Z G as ρ1) fun ds ρ3 => ∃ kvs3 old3 new r, getE ρ3 i = some (.dk kvs3) ∧ getK kvs3 q = some old3 ∧ mtF m ds old3 = some (new, r) ∧ Q r (setE Z.inf i (.dk (putA q new kvs3)) ρ3)) :
    WE (ev Z G (.mt m i (.cons kp .nil) as) ρ) Q := by
  have at_k : ∀ {k : D} {q : Key} {kvs : List (Key × D)}, keyD k = some q → at1 k (.dk kvs) = getK kvs q := fun {k q kvs} hk => by
    show (lookD (.dk kvs) k).join = _
    unfold lookD
    dsimp only
    rw [hk]
    rfl
  refine w_mt ⟨h0, w_cons (h.mono fun k ρ1 ⟨q, kvs, old, e1, e2, e3, e4, w⟩ => w_nil ?_)⟩
  unfold tyM
  rw [e2]
  have : (some (D.dk kvs)).bind (pathD [k]) = some old := by
    show (at1 k (.dk kvs)).bind (pathD []) = _
    rw [at_k e1, e3]
    rfl
  rw [this]
  dsimp only
  rw [if_pos e4]
  refine w.mono fun ds ρ3 ⟨kvs3, old3, new, r, f1, f2, f3, q3⟩ => ?_
  unfold mtM
  rw [f1]
  have e5 : mutAt (mtF m ds) [k] (.dk kvs3) = some (.dk (putA q new kvs3), r) := by
    show (match at1 k (.dk kvs3) with
      | some d1 => (mutAt (mtF m ds) [] d1).map fun (x : D × D) => (put1 k (.dk kvs3) x.1, x.2)
      | none => none) = _
    rw [at_k e1, f2]
    show (mtF m ds old3).map (fun (x : D × D) => (put1 k (.dk kvs3) x.1, x.2)) = _
    rw [f3]
    show some (put1 k (.dk kvs3) new, r) = _
    unfold put1
    dsimp only
    rw [e1]
  dsimp only
  rw [e5]
  exact q3
end
def encSt (ss : List Str) : D := .lst (ss.map dS)
theorem o_appSt {ss : List Str} {s : Str} (h : ss.length ≤ 5000) : mtF .app [dS s] (encSt ss) = some (encSt (ss ++ [s]), .i .non) := by
  show (if (ss.map dS).length < sizeLine then some (D.lst ((ss.map dS) ++ [dS s]), D.i .non) else none) = _
  rw [if_pos (by rw [List.length_map]; exact Nat.lt_of_le_of_lt h (by decide))]
  unfold encSt
  rw [List.map_append]; rfl
theorem strsD_map {ss : List Str} : strsD (ss.map dS) = some ss := by
  induction ss with
  | nil => rfl
  | cons s ss ih =>
    show (strsD (ss.map dS)).map (s :: ·) = _
    rw [ih]; rfl
theorem o_remSt {ss : List Str} {s : Str} (h : s ∈ ss) : mtF .rem [dS s] (encSt ss) = some (encSt (ss.erase s), .i .non) := by
  show remvF [dS s] (.lst (ss.map dS)) = _
  unfold remvF
  dsimp only
  rw [strsD_map]
  dsimp only
  rw [if_pos h]
  rfl
theorem o_popSt {ss : List Str} {s : Str} : mtF .pop [] (encSt (ss ++ [s])) = some (encSt ss, dS s) := by
  show (match ((ss ++ [s]).map dS).getLast? with
    | some d => some (D.lst ((ss ++ [s]).map dS).dropLast, d)
    | none => none) = _
  rw [List.map_append]
  simp
  rfl
theorem o_popAtSt {ss : List Str} {s : Str} : mtF .popAt [dI 0] (encSt (s :: ss)) = some (encSt ss, dS s) := rfl
theorem o_neNilSt {ss : List Str} : opF .ne [encSt ss, .lst []] = some (dB (!(ss.length == 0))) := o_neNilM
inductive Conn (E : List (Str × Str)) (p : Str) : Str → Prop
  | refl : Conn E p p
  | fwd {a b : Str} : Conn E p a → (a, b) ∈ E → Conn E p b
  | bwd {a b : Str} : Conn E p b → (a, b) ∈ E → Conn E p a
section
variable {E : List (Str × Str)}
theorem Conn.trans {p q r : Str} (h1 : Conn E p q) (h2 : Conn E q r) : Conn E p r := by
  induction h2 with
  | refl => exact h1
  | fwd _ e ih => exact ih.fwd e
  | bwd _ e ih => exact ih.bwd e
theorem Conn.symm {p q : Str} (h : Conn E p q) : Conn E q p := by
  induction h with
  | refl => exact .refl
  | fwd _ e ih => exact (Conn.bwd .refl e).trans ih
  | bwd _ e ih => exact (Conn.fwd .refl e).trans ih
theorem Conn.closed {p q : Str} {S : Str → Prop} (h : Conn E p q) (h0 : S p) (hc : ∀ a b, (a, b) ∈ E → (S a ↔ S b)) : S q := by
  induction h with
  | refl => exact h0
  | fwd _ e ih => exact (hc _ _ e).mp ih
  | bwd _ e ih => exact (hc _ _ e).mpr ih
open Classical in
noncomputable def classes (E : List (Str × Str)) : List Str → List (List Str)
  | [] => []
  | p :: r => sortS ((p :: r).filter fun q => decide (Conn E p q)) :: classes E (r.filter fun q => decide (¬ Conn E p q))
termination_by l => l.length
decreasing_by
  simp only [List.length_cons]
  refine Nat.lt_succ_of_le ?_
  rw [List.length_unattach]
  refine Nat.le_trans (List.length_filter_le _ _) ?_
  rw [List.length_attach]
  exact Nat.le_refl _
theorem classes_nil : classes E [] = [] := by rw [classes]
open Classical in
theorem classes_cons {p : Str} {r : List Str} : classes E (p :: r) = sortS ((p :: r).filter fun q => decide (Conn E p q)) :: classes E (r.filter fun q => decide (¬ Conn E p q)) := by rw [classes]
theorem classes_len : ∀ (m : Nat) (l : List Str), l.length ≤ m → (classes E l).length ≤ l.length
  | 0, l, h => by
    have : l = [] := List.length_eq_zero_iff.mp (by omega)
    subst this
    rw [classes_nil]
    exact Nat.le_refl _
  | m + 1, [], _ => by rw [classes_nil]; exact Nat.le_refl _
  | m + 1, p :: r, h => by
    classical
    rw [classes_cons, List.length_cons, List.length_cons]
    have h1 := List.length_filter_le (fun q => decide (¬ Conn E p q)) r
    have := classes_len m (r.filter fun q => decide (¬ Conn E p q)) (by simp only [List.length_cons] at h; omega)
    simp only [List.length_cons] at h
    omega
theorem classes_mem : ∀ (m : Nat) (l : List Str), l.length ≤ m → ∀ c ∈ classes E l, c ≠ [] ∧ c.length ≤ l.length ∧ ∀ x ∈ c, x ∈ l
  | 0, l, h => by
    have : l = [] := List.length_eq_zero_iff.mp (by omega)
    subst this
    rw [classes_nil]
    intro c hc
    cases hc
  | m + 1, [], _ => by
    rw [classes_nil]
    intro c hc
    cases hc
  | m + 1, p :: r, h => by
    classical
    rw [classes_cons]
    intro c hc
    rcases List.mem_cons.mp hc with rfl | hc
    · refine ⟨fun z => ?_, ?_, fun x hx => (List.mem_filter.mp (sortS_mem.mp hx)).1⟩
      · have : p ∈ sortS ((p :: r).filter fun q => decide (Conn E p q)) := sortS_mem.mpr (List.mem_filter.mpr ⟨List.mem_cons_self, decide_eq_true .refl⟩)
        rw [z] at this
        cases this
      · rw [sortS_len]
        exact List.length_filter_le _ _
    · have h1 := List.length_filter_le (fun q => decide (¬ Conn E p q)) r
      simp only [List.length_cons] at h
      obtain ⟨k1, k2, k3⟩ := classes_mem m (r.filter fun q => decide (¬ Conn E p q)) (by omega) c hc
      refine ⟨k1, ?_, fun x hx => List.mem_cons_of_mem _ (List.mem_filter.mp (k3 x hx)).1⟩
      simp only [List.length_cons]
      omega
def encC (c : List Str) : I := .tup (c.map .str)
theorem alikeAll_str : ∀ as bs : List Str, PySem.W.alikeAll (as.map PyData.str) (bs.map PyData.str) = true
  | [], _ => rfl
  | _ :: _, [] => rfl
  | a :: as, b :: bs => by
    show (PySem.W.alike (.str a) (.str b) && PySem.W.alikeAll (as.map PyData.str) (bs.map PyData.str)) = true
    rw [alikeAll_str as bs]
    rfl
theorem pyI_encC (c : List Str) : pyI (encC c) = .tuple (c.map PyData.str) := by
  unfold encC
  simp only [pyI]
  rw [pyIs_map]
  simp only [pyI]
theorem sortOk_cls {cs : List (List Str)} (h : ∀ c ∈ cs, c ≠ []) (hl : cs.length ≤ sizeLine) : sortOk (cs.map encC) = true := by
  refine sortOk_of (fun a ha b hb => ?_) (.inl fun a ha => ?_) (fun a ha => ?_) (by rw [List.length_map]; exact hl)
  · obtain ⟨x, _, rfl⟩ := List.mem_map.mp ha
    obtain ⟨y, _, rfl⟩ := List.mem_map.mp hb
    rw [pyI_encC, pyI_encC]
    show PySem.W.alikeAll _ _ = true
    exact alikeAll_str _ _
  · obtain ⟨x, hx, rfl⟩ := List.mem_map.mp ha
    cases x with
    | nil => exact absurd rfl (h _ hx)
    | cons y r => rfl
  · obtain ⟨x, _, rfl⟩ := List.mem_map.mp ha
    rw [pyI_encC]
    have : (PyData.tuple (x.map PyData.str)).depth = PyData.depthAll (x.map fun y => PyData.str y) + 1 := by
      simp only [PyData.depth]
    rw [this, depthAll_str]
    decide
theorem cls_lt {a b : Str} {as bs : List Str} (h : leS a b = true) (hne : a ≠ b) : PySem.W.dataLe false (fun x => pyI x) (encC (a :: as)) (encC (b :: bs)) = true := by
  rw [PySem.W.dataLe_eq]
  show (!PySem.W.dataLt (pyI (encC (b :: bs))) (pyI (encC (a :: as)))) = true
  rw [pyI_encC, pyI_encC, PySem.W.dataLt_tuple]
  show (!PyProof.Rows.lexLt itemOrd (PySem.W.keyToksAll (.str b :: bs.map PyData.str)) (PySem.W.keyToksAll (.str a :: as.map PyData.str))) = true
  rw [PySem.W.dataLt_all_no rfl, PySem.W.dataLt_str]
  · exact h
  · show (b == a) = false
    simpa using Ne.symm hne
theorem cls_sorted : ∀ (m : Nat) (l : List Str), l.length ≤ m → l.Pairwise (fun a b => leS a b = true) → l.Nodup → ((classes E l).map encC).Pairwise fun x y => PySem.W.dataLe false (fun x => pyI x) x y = true
  | 0, l, h, _, _ => by
    have : l = [] := List.length_eq_zero_iff.mp (by omega)
    subst this
    rw [classes_nil]
    exact .nil
  | m + 1, [], _, _, _ => by
    rw [classes_nil]
    exact .nil
  | m + 1, p :: r, h, hp, nd => by
    classical
    have hp0 := hp
    have nd0 := nd
    rw [List.pairwise_cons] at hp
    rw [List.nodup_cons] at nd
    simp only [List.length_cons] at h
    have h1 := List.length_filter_le (fun q => decide (¬ Conn E p q)) r
    have e : sortS ((p :: r).filter fun q => decide (Conn E p q)) = p :: r.filter fun q => decide (Conn E p q) := by
      rw [sortS_id (hp0.filter _), List.filter_cons, if_pos (decide_eq_true .refl)]
    rw [classes_cons, List.map_cons, e]
    refine List.pairwise_cons.mpr ⟨fun x hx => ?_, cls_sorted m _ (by omega) (hp.2.filter _) (nd.2.filter _)⟩
    obtain ⟨c, hc, rfl⟩ := List.mem_map.mp hx
    obtain ⟨k1, _, k3⟩ := classes_mem m _ (by omega) c hc
    cases c with
    | nil => exact absurd rfl k1
    | cons b bs =>
      have hb := (List.mem_filter.mp (k3 b List.mem_cons_self)).1
      exact cls_lt (hp.1 b hb) (fun z => nd.1 (z ▸ hb))
theorem o_sortC {l : List Str} (hl : l.length ≤ 1000) (hp : l.Pairwise fun a b => leS a b = true) (nd : l.Nodup) : opF .sorted [.lst ((classes E l).map fun c => .i (encC c))] = some (.lst ((classes E l).map fun c => .i (encC c))) := by
  have e : ((classes E l).map fun c => D.i (encC c)) = ((classes E l).map encC).map D.i := by rw [List.map_map]; rfl
  have h1 := classes_len (E := E) _ l (Nat.le_refl _)
  rw [e, o_sort (sortOk_cls (fun c hc => (classes_mem _ l (Nat.le_refl _) c hc).1) (Nat.le_trans h1 (Nat.le_trans hl (by decide))))]
  have : sortI ((classes E l).map encC) = (classes E l).map encC := by
    unfold sortI
    exact List.mergeSort_of_pairwise (cls_sorted _ l (Nat.le_refl _) hp nd)
  rw [this]
end
theorem nodup_le {α : Type} [BEq α] [LawfulBEq α] : ∀ {xs ys : List α}, xs.Nodup → (∀ x ∈ xs, x ∈ ys) → xs.length ≤ ys.length
  | [], _, _, _ => Nat.zero_le _
  | x :: xs, ys, nd, h => by
    rw [List.nodup_cons] at nd
    have hx := h x List.mem_cons_self
    have h1 : xs.length ≤ (ys.erase x).length := nodup_le nd.2 fun y hy => (List.mem_erase_of_ne (fun z : y = x => nd.1 (by rw [← z]; exact hy))).mpr (h y (List.mem_cons_of_mem _ hy))
    rw [List.length_erase_of_mem hx] at h1
    have := List.length_pos_of_mem hx
    rw [List.length_cons]
    omega
theorem nodup_snoc {α : Type} {xs : List α} {x : α} (nd : xs.Nodup) (h : x ∉ xs) : (xs ++ [x]).Nodup := by
  rw [List.nodup_append]
  refine ⟨nd, List.nodup_cons.mpr ⟨List.not_mem_nil, List.nodup_nil⟩, fun a ha b hb e => ?_⟩
  rw [List.mem_singleton.mp hb] at e
  exact h (e ▸ ha)
end Mp

namespace Mp
open PySem PySem.Spec PyProof.Rows L2
abbrev st_is_whole_0 : S := (.ret (.an (.op (.isi "int") (.cons (.v 0) .nil)) (.nt (.op (.isi "bool") (.cons (.v 0) .nil)))))
abbrev bd_is_whole : Ss := (.cons st_is_whole_0 .nil)
abbrev in_is_whole : Inf := [[]]
abbrev ix_is_whole : Nat := 0
def fd_is_whole : Fd := ⟨PySem.Str.ofString "is_whole", PySem.Challenge.pw_waylands_k02_net_things.main.body.getD 1 (.Pass ⟨0, 0, 0, 0⟩), [PySem.Str.ofString "thing"], [PySem.Str.ofString "thing"], [false], in_is_whole, bd_is_whole⟩
abbrev st_is_tuple_of_0 : S := (.ret (.an (.op (.isi "tuple") (.cons (.v 0) .nil)) (.op .eq (.cons (.op .len (.cons (.v 0) .nil)) (.cons (.v 1) .nil)))))
abbrev bd_is_tuple_of : Ss := (.cons st_is_tuple_of_0 .nil)
abbrev in_is_tuple_of : Inf := [[], []]
abbrev ix_is_tuple_of : Nat := 1
def fd_is_tuple_of : Fd := ⟨PySem.Str.ofString "is_tuple_of", PySem.Challenge.pw_waylands_k02_net_things.main.body.getD 2 (.Pass ⟨0, 0, 0, 0⟩), [PySem.Str.ofString "thing", PySem.Str.ofString "many"], [PySem.Str.ofString "thing", PySem.Str.ofString "many"], [false, false], in_is_tuple_of, bd_is_tuple_of⟩
abbrev st__consists_of_0 : S := (.ret (.op .all (.cons (.lc (.op .inn (.cons (.v 2) (.cons (.v 1) .nil))) (.n 2) (.seq (.v 0)) .nil [2]) .nil)))
abbrev bd__consists_of : Ss := (.cons st__consists_of_0 .nil)
abbrev in__consists_of : Inf := [[], [], []]
abbrev ix__consists_of : Nat := 2
def fd__consists_of : Fd := ⟨PySem.Str.ofString "_consists_of", PySem.Challenge.pw_waylands_k02_net_things.main.body.getD 6 (.Pass ⟨0, 0, 0, 0⟩), [PySem.Str.ofString "text", PySem.Str.ofString "signs", PySem.Str.ofString "sign"], [PySem.Str.ofString "text", PySem.Str.ofString "signs"], [false, false], in__consists_of, bd__consists_of⟩
abbrev st_is_name_0 : S := (.ret (.c (.bl false)))
abbrev st_is_name_1 : S := (.iff (.or (.nt (.op (.isi "str") (.cons (.v 0) .nil))) (.nt (.ch .le .le (.c (.int (1))) (.op .len (.cons (.v 0) .nil)) (.c (.int (10)))))) (.cons st_is_name_0 .nil) .nil)
abbrev st_is_name_2 : S := (.ret (.an (.op .inn (.cons (.op .ix (.cons (.v 0) (.cons (.c (.int (0))) .nil))) (.cons (.g (PySem.Str.ofString "LETTERS") (.str (PySem.Str.ofString "abcdefghijklmnopqrstuvwxyz"))) .nil))) (.call 2 (.cons (.v 0) (.cons (.op .add (.cons (.g (PySem.Str.ofString "LETTERS") (.str (PySem.Str.ofString "abcdefghijklmnopqrstuvwxyz"))) (.cons (.g (PySem.Str.ofString "DIGITS") (.str (PySem.Str.ofString "0123456789"))) .nil))) .nil)))))
abbrev bd_is_name : Ss := (.cons st_is_name_1 (.cons st_is_name_2 .nil))
abbrev in_is_name : Inf := [[]]
abbrev ix_is_name : Nat := 3
def fd_is_name : Fd := ⟨PySem.Str.ofString "is_name", PySem.Challenge.pw_waylands_k02_net_things.main.body.getD 7 (.Pass ⟨0, 0, 0, 0⟩), [PySem.Str.ofString "thing"], [PySem.Str.ofString "thing"], [false], in_is_name, bd_is_name⟩
abbrev st__is_ascending_0 : S := (.ret (.op .all (.cons (.lc (.op .lt (.cons (.op .ix (.cons (.v 0) (.cons (.v 1) .nil))) (.cons (.op .ix (.cons (.v 0) (.cons (.op .add (.cons (.v 1) (.cons (.c (.int (1))) .nil))) .nil))) .nil))) (.n 1) (.rng (.cons (.op .sub (.cons (.op .len (.cons (.v 0) .nil)) (.cons (.c (.int (1))) .nil))) .nil)) .nil [1]) .nil)))
abbrev bd__is_ascending : Ss := (.cons st__is_ascending_0 .nil)
abbrev in__is_ascending : Inf := [[], []]
abbrev ix__is_ascending : Nat := 4
def fd__is_ascending : Fd := ⟨PySem.Str.ofString "_is_ascending", PySem.Challenge.pw_waylands_k02_net_things.main.body.getD 12 (.Pass ⟨0, 0, 0, 0⟩), [PySem.Str.ofString "names", PySem.Str.ofString "at"], [PySem.Str.ofString "names"], [false], in__is_ascending, bd__is_ascending⟩
abbrev st__are_places_0 : S := (.ret (.c (.bl false)))
abbrev st__are_places_1 : S := (.iff (.or (.nt (.op (.isi "tuple") (.cons (.v 0) .nil))) (.op .gt (.cons (.op .len (.cons (.v 0) .nil)) (.cons (.g (PySem.Str.ofString "MOST_PLACES") (.int (40))) .nil)))) (.cons st__are_places_0 .nil) .nil)
abbrev st__are_places_2 : S := (.ret (.an (.op .all (.cons (.lc (.call 3 (.cons (.v 1) .nil)) (.n 1) (.seq (.v 0)) .nil [1]) .nil)) (.call 4 (.cons (.v 0) .nil))))
abbrev bd__are_places : Ss := (.cons st__are_places_1 (.cons st__are_places_2 .nil))
abbrev in__are_places : Inf := [[], []]
abbrev ix__are_places : Nat := 5
def fd__are_places : Fd := ⟨PySem.Str.ofString "_are_places", PySem.Challenge.pw_waylands_k02_net_things.main.body.getD 13 (.Pass ⟨0, 0, 0, 0⟩), [PySem.Str.ofString "thing", PySem.Str.ofString "place"], [PySem.Str.ofString "thing"], [false], in__are_places, bd__are_places⟩
abbrev st__is_room_0 : S := (.ret (.an (.call 0 (.cons (.v 0) .nil)) (.ch .le .le (.c (.int (1))) (.v 0) (.g (PySem.Str.ofString "MOST_ROOM") (.int (999))))))
abbrev bd__is_room : Ss := (.cons st__is_room_0 .nil)
abbrev in__is_room : Inf := [[]]
abbrev ix__is_room : Nat := 6
def fd__is_room : Fd := ⟨PySem.Str.ofString "_is_room", PySem.Challenge.pw_waylands_k02_net_things.main.body.getD 14 (.Pass ⟨0, 0, 0, 0⟩), [PySem.Str.ofString "thing"], [PySem.Str.ofString "thing"], [false], in__is_room, bd__is_room⟩
abbrev st__is_road_0 : S := (.ret (.c (.bl false)))
abbrev st__is_road_1 : S := (.iff (.nt (.call 1 (.cons (.v 1) (.cons (.c (.int (5))) .nil)))) (.cons st__is_road_0 .nil) .nil)
abbrev st__is_road_2 : S := (.asg (.t (.cons (.n 2) (.cons (.n 3) (.cons (.n 4) (.cons (.n 5) (.cons (.n 6) .nil)))))) (.v 1))
abbrev st__is_road_3 : S := (.ret (.c (.bl false)))
abbrev st__is_road_4 : S := (.iff (.or (.nt (.call 3 (.cons (.v 2) .nil))) (.op .inn (.cons (.v 2) (.cons (.v 0) .nil)))) (.cons st__is_road_3 .nil) .nil)
abbrev st__is_road_5 : S := (.ret (.c (.bl false)))
abbrev st__is_road_6 : S := (.iff (.or (.op .nin (.cons (.v 3) (.cons (.v 0) .nil))) (.or (.op .nin (.cons (.v 4) (.cons (.v 0) .nil))) (.op .eq (.cons (.v 3) (.cons (.v 4) .nil))))) (.cons st__is_road_5 .nil) .nil)
abbrev st__is_road_7 : S := (.ret (.an (.call 6 (.cons (.v 5) .nil)) (.op .inn (.cons (.v 6) (.cons (.tup (.cons (.c (.str (PySem.Str.ofString "both"))) (.cons (.c (.str (PySem.Str.ofString "one"))) .nil))) .nil)))))
abbrev bd__is_road : Ss := (.cons st__is_road_1 (.cons st__is_road_2 (.cons st__is_road_4 (.cons st__is_road_6 (.cons st__is_road_7 .nil)))))
abbrev in__is_road : Inf := [[], [], [], [], [], [], []]
abbrev ix__is_road : Nat := 7
def fd__is_road : Fd := ⟨PySem.Str.ofString "_is_road", PySem.Challenge.pw_waylands_k02_net_things.main.body.getD 15 (.Pass ⟨0, 0, 0, 0⟩), [PySem.Str.ofString "places", PySem.Str.ofString "thing", PySem.Str.ofString "name", PySem.Str.ofString "first", PySem.Str.ofString "second", PySem.Str.ofString "room", PySem.Str.ofString "kind"], [PySem.Str.ofString "places", PySem.Str.ofString "thing"], [false, false], in__is_road, bd__is_road⟩
abbrev st_is_net_0 : S := (.ret (.c (.bl false)))
abbrev st_is_net_1 : S := (.iff (.or (.nt (.call 1 (.cons (.v 0) (.cons (.c (.int (3))) .nil)))) (.op .ne (.cons (.op .ix (.cons (.v 0) (.cons (.c (.int (0))) .nil))) (.cons (.c (.str (PySem.Str.ofString "net"))) .nil)))) (.cons st_is_net_0 .nil) .nil)
abbrev st_is_net_2 : S := (.ret (.c (.bl false)))
abbrev st_is_net_3 : S := (.iff (.nt (.call 5 (.cons (.op .ix (.cons (.v 0) (.cons (.c (.int (1))) .nil))) .nil))) (.cons st_is_net_2 .nil) .nil)
abbrev st_is_net_4 : S := (.ret (.c (.bl false)))
abbrev st_is_net_5 : S := (.iff (.or (.nt (.op (.isi "tuple") (.cons (.op .ix (.cons (.v 0) (.cons (.c (.int (2))) .nil))) .nil))) (.op .gt (.cons (.op .len (.cons (.op .ix (.cons (.v 0) (.cons (.c (.int (2))) .nil))) .nil)) (.cons (.g (PySem.Str.ofString "MOST_ROADS") (.int (120))) .nil)))) (.cons st_is_net_4 .nil) .nil)
abbrev st_is_net_6 : S := (.ret (.c (.bl false)))
abbrev st_is_net_7 : S := (.iff (.nt (.op .all (.cons (.lc (.call 7 (.cons (.op .ix (.cons (.v 0) (.cons (.c (.int (1))) .nil))) (.cons (.v 1) .nil))) (.n 1) (.seq (.op .ix (.cons (.v 0) (.cons (.c (.int (2))) .nil)))) .nil [1]) .nil))) (.cons st_is_net_6 .nil) .nil)
abbrev st_is_net_8 : S := (.ret (.call 4 (.cons (.lc (.op .ix (.cons (.v 1) (.cons (.c (.int (0))) .nil))) (.n 1) (.seq (.op .ix (.cons (.v 0) (.cons (.c (.int (2))) .nil)))) .nil [1]) .nil)))
abbrev bd_is_net : Ss := (.cons st_is_net_1 (.cons st_is_net_3 (.cons st_is_net_5 (.cons st_is_net_7 (.cons st_is_net_8 .nil)))))
abbrev in_is_net : Inf := [[], []]
abbrev ix_is_net : Nat := 8
def fd_is_net : Fd := ⟨PySem.Str.ofString "is_net", PySem.Challenge.pw_waylands_k02_net_things.main.body.getD 16 (.Pass ⟨0, 0, 0, 0⟩), [PySem.Str.ofString "thing", PySem.Str.ofString "road"], [PySem.Str.ofString "thing"], [false], in_is_net, bd_is_net⟩
abbrev st_is_even_0 : S := (.ret (.op .all (.cons (.lc (.op .eq (.cons (.op .ix (.cons (.v 1) (.cons (.c (.int (4))) .nil))) (.cons (.c (.str (PySem.Str.ofString "both"))) .nil))) (.n 1) (.seq (.op .ix (.cons (.v 0) (.cons (.c (.int (2))) .nil)))) .nil [1]) .nil)))
abbrev bd_is_even : Ss := (.cons st_is_even_0 .nil)
abbrev in_is_even : Inf := [[], []]
abbrev ix_is_even : Nat := 9
def fd_is_even : Fd := ⟨PySem.Str.ofString "is_even", PySem.Challenge.pw_waylands_k02_net_things.main.body.getD 17 (.Pass ⟨0, 0, 0, 0⟩), [PySem.Str.ofString "net", PySem.Str.ofString "road"], [PySem.Str.ofString "net"], [false], in_is_even, bd_is_even⟩
abbrev st__neighbours_0 : S := (.asg (.n 1) (.dc (.v 3) (.lst .nil) (.n 3) (.seq (.op .ix (.cons (.v 0) (.cons (.c (.int (1))) .nil)))) .nil [3]))
abbrev st__neighbours_1 : S := (.exp (.mt .app 1 (.cons (.op .ix (.cons (.v 2) (.cons (.c (.int (1))) .nil))) .nil) (.cons (.op .ix (.cons (.v 2) (.cons (.c (.int (2))) .nil))) .nil)))
abbrev st__neighbours_2 : S := (.exp (.mt .app 1 (.cons (.op .ix (.cons (.v 2) (.cons (.c (.int (2))) .nil))) .nil) (.cons (.op .ix (.cons (.v 2) (.cons (.c (.int (1))) .nil))) .nil)))
abbrev st__neighbours_3 : S := (.loop (.n 2) (.seq (.op .ix (.cons (.v 0) (.cons (.c (.int (2))) .nil)))) (.cons st__neighbours_1 (.cons st__neighbours_2 .nil)))
abbrev st__neighbours_4 : S := (.ret (.mv 1))
abbrev bd__neighbours : Ss := (.cons st__neighbours_0 (.cons st__neighbours_3 (.cons st__neighbours_4 .nil)))
abbrev in__neighbours : Inf := [[], [1], [], []]
abbrev ix__neighbours : Nat := 10
def fd__neighbours : Fd := ⟨PySem.Str.ofString "_neighbours", PySem.Challenge.pw_waylands_k02_net_things.main.body.getD 18 (.Pass ⟨0, 0, 0, 0⟩), [PySem.Str.ofString "net", PySem.Str.ofString "found", PySem.Str.ofString "road", PySem.Str.ofString "place"], [PySem.Str.ofString "net"], [false], in__neighbours, bd__neighbours⟩
abbrev st__part_of_0 : S := (.asg (.n 2) (.dsp (.cons (.v 1) (.cons (.c (.bl true)) .nil))))
abbrev st__part_of_1 : S := (.asg (.n 3) (.lst (.cons (.v 1) .nil)))
abbrev st__part_of_2 : S := (.sub 2 (.cons (.v 4) .nil) (.c (.bl true)))
abbrev st__part_of_3 : S := (.exp (.mt .app 3 .nil (.cons (.v 4) .nil)))
abbrev st__part_of_4 : S := (.iff (.op .nin (.cons (.v 4) (.cons (.v 2) .nil))) (.cons st__part_of_2 (.cons st__part_of_3 .nil)) .nil)
abbrev st__part_of_5 : S := (.loop (.n 4) (.seq (.op .ix (.cons (.v 0) (.cons (.mt .pop 3 .nil .nil) .nil)))) (.cons st__part_of_4 .nil))
abbrev st__part_of_6 : S := (.whl (.v 3) (.cons st__part_of_5 .nil))
abbrev st__part_of_7 : S := (.ret (.op .tup (.cons (.op .sorted (.cons (.v 2) .nil)) .nil)))
abbrev bd__part_of : Ss := (.cons st__part_of_0 (.cons st__part_of_1 (.cons st__part_of_6 (.cons st__part_of_7 .nil))))
abbrev in__part_of : Inf := [[], [], [2], [3], []]
abbrev ix__part_of : Nat := 11
def fd__part_of : Fd := ⟨PySem.Str.ofString "_part_of", PySem.Challenge.pw_waylands_k02_net_things.main.body.getD 19 (.Pass ⟨0, 0, 0, 0⟩), [PySem.Str.ofString "neighbours", PySem.Str.ofString "place", PySem.Str.ofString "found", PySem.Str.ofString "queue", PySem.Str.ofString "other"], [PySem.Str.ofString "neighbours", PySem.Str.ofString "place"], [false, false], in__part_of, bd__part_of⟩
abbrev st_parts_0 : S := (.asg (.n 1) (.call 10 (.cons (.v 0) .nil)))
abbrev st_parts_1 : S := (.asg (.n 2) (.lst .nil))
abbrev st_parts_2 : S := (.asg (.n 3) (.dsp .nil))
abbrev st_parts_3 : S := (.asg (.n 5) (.call 11 (.cons (.v 1) (.cons (.v 4) .nil))))
abbrev st_parts_4 : S := (.exp (.mt .app 2 .nil (.cons (.v 5) .nil)))
abbrev st_parts_5 : S := (.exp (.mt .upd 3 .nil (.cons (.dc (.v 6) (.c (.bl true)) (.n 6) (.seq (.v 5)) .nil [6]) .nil)))
abbrev st_parts_6 : S := (.iff (.op .nin (.cons (.v 4) (.cons (.v 3) .nil))) (.cons st_parts_3 (.cons st_parts_4 (.cons st_parts_5 .nil))) .nil)
abbrev st_parts_7 : S := (.loop (.n 4) (.seq (.op .ix (.cons (.v 0) (.cons (.c (.int (1))) .nil)))) (.cons st_parts_6 .nil))
abbrev st_parts_8 : S := (.ret (.op .tup (.cons (.v 2) .nil)))
abbrev bd_parts : Ss := (.cons st_parts_0 (.cons st_parts_1 (.cons st_parts_2 (.cons st_parts_7 (.cons st_parts_8 .nil)))))
abbrev in_parts : Inf := [[], [], [2], [3], [], [], []]
abbrev ix_parts : Nat := 12
def fd_parts : Fd := ⟨PySem.Str.ofString "parts", PySem.Challenge.pw_waylands_k02_net_things.main.body.getD 20 (.Pass ⟨0, 0, 0, 0⟩), [PySem.Str.ofString "net", PySem.Str.ofString "neighbours", PySem.Str.ofString "told", PySem.Str.ofString "seen", PySem.Str.ofString "place", PySem.Str.ofString "part", PySem.Str.ofString "other"], [PySem.Str.ofString "net"], [false], in_parts, bd_parts⟩
abbrev st_hangs_0 : S := (.ret (.op .le (.cons (.op .len (.cons (.call 12 (.cons (.v 0) .nil)) .nil)) (.cons (.c (.int (1))) .nil))))
abbrev bd_hangs : Ss := (.cons st_hangs_0 .nil)
abbrev in_hangs : Inf := [[]]
abbrev ix_hangs : Nat := 13
def fd_hangs : Fd := ⟨PySem.Str.ofString "hangs", PySem.Challenge.pw_waylands_k02_net_things.main.body.getD 21 (.Pass ⟨0, 0, 0, 0⟩), [PySem.Str.ofString "net"], [PySem.Str.ofString "net"], [false], in_hangs, bd_hangs⟩
abbrev st_without_road_0 : S := (.ret (.tup (.cons (.op .ix (.cons (.v 0) (.cons (.c (.int (0))) .nil))) (.cons (.op .ix (.cons (.v 0) (.cons (.c (.int (1))) .nil))) (.cons (.op .tup (.cons (.lc (.v 2) (.n 2) (.seq (.op .ix (.cons (.v 0) (.cons (.c (.int (2))) .nil)))) (.cons (.op .ne (.cons (.op .ix (.cons (.v 2) (.cons (.c (.int (0))) .nil))) (.cons (.v 1) .nil))) .nil) [2]) .nil)) .nil)))))
abbrev bd_without_road : Ss := (.cons st_without_road_0 .nil)
abbrev in_without_road : Inf := [[], [], []]
abbrev ix_without_road : Nat := 14
def fd_without_road : Fd := ⟨PySem.Str.ofString "without_road", PySem.Challenge.pw_waylands_k02_net_things.main.body.getD 22 (.Pass ⟨0, 0, 0, 0⟩), [PySem.Str.ofString "net", PySem.Str.ofString "road", PySem.Str.ofString "row"], [PySem.Str.ofString "net", PySem.Str.ofString "road"], [false, false], in_without_road, bd_without_road⟩
abbrev st_without_place_0 : S := (.asg (.n 2) (.lc (.v 4) (.n 4) (.seq (.op .ix (.cons (.v 0) (.cons (.c (.int (1))) .nil)))) (.cons (.op .ne (.cons (.v 4) (.cons (.v 1) .nil))) .nil) [4]))
abbrev st_without_place_1 : S := (.asg (.n 3) (.lc (.v 5) (.n 5) (.seq (.op .ix (.cons (.v 0) (.cons (.c (.int (2))) .nil)))) (.cons (.op .nin (.cons (.v 1) (.cons (.tup (.cons (.op .ix (.cons (.v 5) (.cons (.c (.int (1))) .nil))) (.cons (.op .ix (.cons (.v 5) (.cons (.c (.int (2))) .nil))) .nil))) .nil))) .nil) [5]))
abbrev st_without_place_2 : S := (.ret (.tup (.cons (.op .ix (.cons (.v 0) (.cons (.c (.int (0))) .nil))) (.cons (.op .tup (.cons (.v 2) .nil)) (.cons (.op .tup (.cons (.v 3) .nil)) .nil)))))
abbrev bd_without_place : Ss := (.cons st_without_place_0 (.cons st_without_place_1 (.cons st_without_place_2 .nil)))
abbrev in_without_place : Inf := [[], [], [], [], [], []]
abbrev ix_without_place : Nat := 15
def fd_without_place : Fd := ⟨PySem.Str.ofString "without_place", PySem.Challenge.pw_waylands_k02_net_things.main.body.getD 23 (.Pass ⟨0, 0, 0, 0⟩), [PySem.Str.ofString "net", PySem.Str.ofString "place", PySem.Str.ofString "places", PySem.Str.ofString "roads", PySem.Str.ofString "other", PySem.Str.ofString "row"], [PySem.Str.ofString "net", PySem.Str.ofString "place"], [false, false], in_without_place, bd_without_place⟩
abbrev st__law_cell_0 : S := (.ret (.op .ix (.cons (.v 0) (.cons (.v 1) .nil))))
abbrev st__law_cell_1 : S := (.iff (.op .lt (.cons (.v 1) (.cons (.op .len (.cons (.v 0) .nil)) .nil))) (.cons st__law_cell_0 .nil) .nil)
abbrev st__law_cell_2 : S := (.ret (.c (.int (0))))
abbrev bd__law_cell : Ss := (.cons st__law_cell_1 (.cons st__law_cell_2 .nil))
abbrev in__law_cell : Inf := [[], []]
abbrev ix__law_cell : Nat := 16
def fd__law_cell : Fd := ⟨PySem.Str.ofString "_law_cell", PySem.Challenge.pw_waylands_k02_net_things.main.body.getD 25 (.Pass ⟨0, 0, 0, 0⟩), [PySem.Str.ofString "script", PySem.Str.ofString "k"], [PySem.Str.ofString "script", PySem.Str.ofString "k"], [false, false], in__law_cell, bd__law_cell⟩
abbrev st__law_digits_0 : S := (.asg (.n 3) (.lst .nil))
abbrev st__law_digits_1 : S := (.asg (.n 5) (.call 16 (.cons (.v 0) (.cons (.v 4) .nil))))
abbrev st__law_digits_2 : S := (.asg (.n 5) (.op .sub (.cons (.c (.int (1))) (.cons (.op .mul (.cons (.c (.int (2))) (.cons (.v 5) .nil))) .nil))))
abbrev st__law_digits_3 : S := (.iff (.op .lt (.cons (.v 5) (.cons (.c (.int (0))) .nil))) (.cons st__law_digits_2 .nil) .nil)
abbrev st__law_digits_4 : S := .brk
abbrev st__law_digits_5 : S := (.iff (.op .gt (.cons (.op .len (.cons (.v 3) .nil)) (.cons (.c (.int (1500))) .nil))) (.cons st__law_digits_4 .nil) .nil)
abbrev st__law_digits_6 : S := (.exp (.mt .app 3 .nil (.cons (.op .mod (.cons (.op .int (.cons (.v 5) .nil)) (.cons (.c (.int (1000))) .nil))) .nil)))
abbrev st__law_digits_7 : S := (.asg (.n 5) (.op .fdiv (.cons (.v 5) (.cons (.c (.int (1000))) .nil))))
abbrev st__law_digits_8 : S := (.iff (.op .gt (.cons (.v 5) (.cons (.c (.int (0))) .nil))) (.cons st__law_digits_6 (.cons st__law_digits_7 .nil)) .nil)
abbrev st__law_digits_9 : S := (.loop (.n 6) (.rng (.cons (.c (.int (60))) .nil)) (.cons st__law_digits_8 .nil))
abbrev st__law_digits_10 : S := (.asg (.n 7) (.op .mod (.cons (.op .int (.cons (.op .add (.cons (.op .add (.cons (.op .mul (.cons (.v 5) (.cons (.c (.int (48271))) .nil))) (.cons (.op .mul (.cons (.v 4) (.cons (.c (.int (69621))) .nil))) .nil))) (.cons (.c (.int (11))) .nil))) .nil)) (.cons (.c (.int (2147483647))) .nil))))
abbrev st__law_digits_11 : S := (.asg (.n 7) (.op .mod (.cons (.op .int (.cons (.op .add (.cons (.op .add (.cons (.op .mul (.cons (.v 7) (.cons (.c (.int (16807))) .nil))) (.cons (.op .mul (.cons (.c (.int (7))) (.cons (.v 6) .nil))) .nil))) (.cons (.c (.int (1))) .nil))) .nil)) (.cons (.c (.int (2147483647))) .nil))))
abbrev st__law_digits_12 : S := (.exp (.mt .app 3 .nil (.cons (.op .mod (.cons (.op .int (.cons (.op .fdiv (.cons (.v 7) (.cons (.c (.int (997))) .nil))) .nil)) (.cons (.c (.int (1000))) .nil))) .nil)))
abbrev st__law_digits_13 : S := (.loop (.n 6) (.rng (.cons (.c (.int (12))) .nil)) (.cons st__law_digits_11 (.cons st__law_digits_12 .nil)))
abbrev st__law_digits_14 : S := (.iff (.op .ge (.cons (.v 5) (.cons (.op .pow (.cons (.c (.int (10))) (.cons (.c (.int (18))) .nil))) .nil))) (.cons st__law_digits_9 .nil) (.cons st__law_digits_10 (.cons st__law_digits_13 .nil)))
abbrev st__law_digits_15 : S := (.loop (.n 4) (.rng (.cons (.v 1) (.cons (.v 2) .nil))) (.cons st__law_digits_1 (.cons st__law_digits_3 (.cons st__law_digits_5 (.cons st__law_digits_14 .nil)))))
abbrev st__law_digits_16 : S := (.ret (.mv 3))
abbrev bd__law_digits : Ss := (.cons st__law_digits_0 (.cons st__law_digits_15 (.cons st__law_digits_16 .nil)))
abbrev in__law_digits : Inf := [[], [], [], [3], [], [], [], []]
abbrev ix__law_digits : Nat := 17
def fd__law_digits : Fd := ⟨PySem.Str.ofString "_law_digits", PySem.Challenge.pw_waylands_k02_net_things.main.body.getD 26 (.Pass ⟨0, 0, 0, 0⟩), [PySem.Str.ofString "script", PySem.Str.ofString "first", PySem.Str.ofString "last", PySem.Str.ofString "digits", PySem.Str.ofString "k", PySem.Str.ofString "cell", PySem.Str.ofString "step", PySem.Str.ofString "seed"], [PySem.Str.ofString "script", PySem.Str.ofString "first", PySem.Str.ofString "last"], [false, false, false], in__law_digits, bd__law_digits⟩
abbrev st__law_draw_0 : S := (.asg (.n 2) (.op .ix (.cons (.v 0) (.cons (.c (.int (1))) .nil))))
abbrev st__law_draw_1 : S := (.sub 0 (.cons (.c (.int (1))) .nil) (.op .add (.cons (.v 2) (.cons (.c (.int (1))) .nil))))
abbrev st__law_draw_2 : S := (.ret (.op .mod (.cons (.op .int (.cons (.op .ix (.cons (.op .ix (.cons (.v 0) (.cons (.c (.int (0))) .nil))) (.cons (.v 2) .nil))) .nil)) (.cons (.v 1) .nil))))
abbrev st__law_draw_3 : S := (.iff (.op .lt (.cons (.v 2) (.cons (.op .len (.cons (.op .ix (.cons (.v 0) (.cons (.c (.int (0))) .nil))) .nil)) .nil))) (.cons st__law_draw_2 .nil) .nil)
abbrev st__law_draw_4 : S := (.ret (.op .mod (.cons (.op .int (.cons (.op .mul (.cons (.v 2) (.cons (.c (.int (7))) .nil))) .nil)) (.cons (.v 1) .nil))))
abbrev bd__law_draw : Ss := (.cons st__law_draw_0 (.cons st__law_draw_1 (.cons st__law_draw_3 (.cons st__law_draw_4 .nil))))
abbrev in__law_draw : Inf := [[0], [], []]
abbrev ix__law_draw : Nat := 18
def fd__law_draw : Fd := ⟨PySem.Str.ofString "_law_draw", PySem.Challenge.pw_waylands_k02_net_things.main.body.getD 27 (.Pass ⟨0, 0, 0, 0⟩), [PySem.Str.ofString "box", PySem.Str.ofString "many", PySem.Str.ofString "at"], [PySem.Str.ofString "box", PySem.Str.ofString "many"], [true, false], in__law_draw, bd__law_draw⟩
abbrev st__law_pick_0 : S := (.ret (.op .ix (.cons (.v 1) (.cons (.op .mod (.cons (.op .int (.cons (.call 18 (.cons (.v 0) (.cons (.c (.int (900))) .nil))) .nil)) (.cons (.op .len (.cons (.v 1) .nil)) .nil))) .nil))))
abbrev bd__law_pick : Ss := (.cons st__law_pick_0 .nil)
abbrev in__law_pick : Inf := [[0], []]
abbrev ix__law_pick : Nat := 19
def fd__law_pick : Fd := ⟨PySem.Str.ofString "_law_pick", PySem.Challenge.pw_waylands_k02_net_things.main.body.getD 28 (.Pass ⟨0, 0, 0, 0⟩), [PySem.Str.ofString "box", PySem.Str.ofString "things"], [PySem.Str.ofString "box", PySem.Str.ofString "things"], [true, false], in__law_pick, bd__law_pick⟩
abbrev st__law_like_0 : S := (.ret (.c (.bl false)))
abbrev st__law_like_1 : S := (.iff (.or (.nt (.op (.isi "tuple") (.cons (.v 0) .nil))) (.op .ne (.cons (.op .len (.cons (.v 0) .nil)) (.cons (.op .len (.cons (.v 1) .nil)) .nil)))) (.cons st__law_like_0 .nil) .nil)
abbrev st__law_like_2 : S := (.ret (.op .eq (.cons (.lc (.c (.int (1))) (.n 2) (.rng (.cons (.op .len (.cons (.v 1) .nil)) .nil)) (.cons (.nt (.call 20 (.cons (.op .ix (.cons (.v 0) (.cons (.v 2) .nil))) (.cons (.op .ix (.cons (.v 1) (.cons (.v 2) .nil))) .nil)))) .nil) [2]) (.cons (.lst .nil) .nil))))
abbrev st__law_like_3 : S := (.iff (.op (.isi "tuple") (.cons (.v 1) .nil)) (.cons st__law_like_1 (.cons st__law_like_2 .nil)) .nil)
abbrev st__law_like_4 : S := (.ret (.op .is (.cons (.v 0) (.cons (.c .non) .nil))))
abbrev st__law_like_5 : S := (.iff (.op .is (.cons (.v 1) (.cons (.c .non) .nil))) (.cons st__law_like_4 .nil) .nil)
abbrev st__law_like_6 : S := (.ret (.op .is (.cons (.v 0) (.cons (.c (.bl true)) .nil))))
abbrev st__law_like_7 : S := (.iff (.op .is (.cons (.v 1) (.cons (.c (.bl true)) .nil))) (.cons st__law_like_6 .nil) .nil)
abbrev st__law_like_8 : S := (.ret (.op .is (.cons (.v 0) (.cons (.c (.bl false)) .nil))))
abbrev st__law_like_9 : S := (.iff (.op .is (.cons (.v 1) (.cons (.c (.bl false)) .nil))) (.cons st__law_like_8 .nil) .nil)
abbrev st__law_like_10 : S := (.ret (.an (.op (.isi "str") (.cons (.v 0) .nil)) (.op .eq (.cons (.op (.join (PySem.Str.ofString "")) (.cons (.lst (.cons (.v 0) .nil)) .nil)) (.cons (.v 1) .nil)))))
abbrev st__law_like_11 : S := (.iff (.op (.isi "str") (.cons (.v 1) .nil)) (.cons st__law_like_10 .nil) .nil)
abbrev st__law_like_12 : S := (.ret (.an (.op (.isi "int") (.cons (.v 0) .nil)) (.an (.nt (.op (.isi "bool") (.cons (.v 0) .nil))) (.op .eq (.cons (.v 0) (.cons (.v 1) .nil))))))
abbrev bd__law_like : Ss := (.cons st__law_like_3 (.cons st__law_like_5 (.cons st__law_like_7 (.cons st__law_like_9 (.cons st__law_like_11 (.cons st__law_like_12 .nil))))))
abbrev in__law_like : Inf := [[], [], []]
abbrev ix__law_like : Nat := 20
def fd__law_like : Fd := ⟨PySem.Str.ofString "_law_like", PySem.Challenge.pw_waylands_k02_net_things.main.body.getD 29 (.Pass ⟨0, 0, 0, 0⟩), [PySem.Str.ofString "told", PySem.Str.ofString "due", PySem.Str.ofString "k"], [PySem.Str.ofString "told", PySem.Str.ofString "due"], [false, false], in__law_like, bd__law_like⟩
abbrev st__law_is_name_0 : S := (.ret (.c (.bl false)))
abbrev st__law_is_name_1 : S := (.iff (.or (.nt (.ch .le .le (.c (.int (1))) (.op .len (.cons (.v 0) .nil)) (.c (.int (10))))) (.op .nin (.cons (.op .ix (.cons (.v 0) (.cons (.c (.int (0))) .nil))) (.cons (.c (.str (PySem.Str.ofString "abcdefghijklmnopqrstuvwxyz"))) .nil)))) (.cons st__law_is_name_0 .nil) .nil)
abbrev st__law_is_name_2 : S := (.ret (.op .eq (.cons (.lc (.v 1) (.n 1) (.seq (.v 0)) (.cons (.op .nin (.cons (.v 1) (.cons (.c (.str (PySem.Str.ofString "abcdefghijklmnopqrstuvwxyz0123456789"))) .nil))) .nil) [1]) (.cons (.lst .nil) .nil))))
abbrev bd__law_is_name : Ss := (.cons st__law_is_name_1 (.cons st__law_is_name_2 .nil))
abbrev in__law_is_name : Inf := [[], []]
abbrev ix__law_is_name : Nat := 21
def fd__law_is_name : Fd := ⟨PySem.Str.ofString "_law_is_name", PySem.Challenge.pw_waylands_k02_net_things.main.body.getD 30 (.Pass ⟨0, 0, 0, 0⟩), [PySem.Str.ofString "text", PySem.Str.ofString "sign"], [PySem.Str.ofString "text"], [false], in__law_is_name, bd__law_is_name⟩
abbrev st__law_whole_0 : S := (.ret (.an (.op (.isi "int") (.cons (.v 0) .nil)) (.an (.nt (.op (.isi "bool") (.cons (.v 0) .nil))) (.ch .le .le (.v 1) (.v 0) (.v 2)))))
abbrev bd__law_whole : Ss := (.cons st__law_whole_0 .nil)
abbrev in__law_whole : Inf := [[], [], []]
abbrev ix__law_whole : Nat := 22
def fd__law_whole : Fd := ⟨PySem.Str.ofString "_law_whole", PySem.Challenge.pw_waylands_k02_net_things.main.body.getD 31 (.Pass ⟨0, 0, 0, 0⟩), [PySem.Str.ofString "thing", PySem.Str.ofString "low", PySem.Str.ofString "high"], [PySem.Str.ofString "thing", PySem.Str.ofString "low", PySem.Str.ofString "high"], [false, false, false], in__law_whole, bd__law_whole⟩
abbrev st__law_named_0 : S := (.ret (.an (.op (.isi "str") (.cons (.v 0) .nil)) (.call 21 (.cons (.v 0) .nil))))
abbrev bd__law_named : Ss := (.cons st__law_named_0 .nil)
abbrev in__law_named : Inf := [[]]
abbrev ix__law_named : Nat := 23
def fd__law_named : Fd := ⟨PySem.Str.ofString "_law_named", PySem.Challenge.pw_waylands_k02_net_things.main.body.getD 32 (.Pass ⟨0, 0, 0, 0⟩), [PySem.Str.ofString "thing"], [PySem.Str.ofString "thing"], [false], in__law_named, bd__law_named⟩
abbrev st__law_ascending_0 : S := (.ret (.op .eq (.cons (.lc (.c (.int (1))) (.n 1) (.rng (.cons (.c (.int (1))) (.cons (.op .len (.cons (.v 0) .nil)) .nil))) (.cons (.op .ge (.cons (.op .ix (.cons (.v 0) (.cons (.op .sub (.cons (.v 1) (.cons (.c (.int (1))) .nil))) .nil))) (.cons (.op .ix (.cons (.v 0) (.cons (.v 1) .nil))) .nil))) .nil) [1]) (.cons (.lst .nil) .nil))))
abbrev bd__law_ascending : Ss := (.cons st__law_ascending_0 .nil)
abbrev in__law_ascending : Inf := [[], []]
abbrev ix__law_ascending : Nat := 24
def fd__law_ascending : Fd := ⟨PySem.Str.ofString "_law_ascending", PySem.Challenge.pw_waylands_k02_net_things.main.body.getD 33 (.Pass ⟨0, 0, 0, 0⟩), [PySem.Str.ofString "rows", PySem.Str.ofString "k"], [PySem.Str.ofString "rows"], [false], in__law_ascending, bd__law_ascending⟩
abbrev st__law_net_0 : S := (.asg (.n 4) (.op .sorted (.cons (.lc (.op .add (.cons (.c (.str (PySem.Str.ofString "p"))) (.cons (.op .str (.cons (.v 6) .nil)) .nil))) (.n 6) (.rng (.cons (.v 1) .nil)) .nil [6]) .nil)))
abbrev st__law_net_1 : S := (.asg (.n 5) (.lst .nil))
abbrev st__law_net_2 : S := (.asg (.n 7) (.op .mod (.cons (.call 18 (.cons (.v 0) (.cons (.c (.int (900))) .nil))) (.cons (.v 1) .nil))))
abbrev st__law_net_3 : S := (.asg (.n 8) (.op .mod (.cons (.op .add (.cons (.op .add (.cons (.v 7) (.cons (.c (.int (1))) .nil))) (.cons (.op .mod (.cons (.call 18 (.cons (.v 0) (.cons (.c (.int (900))) .nil))) (.cons (.op .sub (.cons (.v 1) (.cons (.c (.int (1))) .nil))) .nil))) .nil))) (.cons (.v 1) .nil))))
abbrev st__law_net_4 : S := (.exp (.mt .app 5 .nil (.cons (.tup (.cons (.op .add (.cons (.c (.str (PySem.Str.ofString "r"))) (.cons (.op .str (.cons (.v 6) .nil)) .nil))) (.cons (.op .ix (.cons (.v 4) (.cons (.v 7) .nil))) (.cons (.op .ix (.cons (.v 4) (.cons (.v 8) .nil))) (.cons (.op .add (.cons (.c (.int (1))) (.cons (.call 18 (.cons (.v 0) (.cons (.c (.int (5))) .nil))) .nil))) (.cons (.op .ix (.cons (.v 3) (.cons (.call 18 (.cons (.v 0) (.cons (.op .len (.cons (.v 3) .nil)) .nil))) .nil))) .nil)))))) .nil)))
abbrev st__law_net_5 : S := (.loop (.n 6) (.rng (.cons (.ite (.op .gt (.cons (.v 1) (.cons (.c (.int (1))) .nil))) (.call 18 (.cons (.v 0) (.cons (.op .add (.cons (.v 2) (.cons (.c (.int (1))) .nil))) .nil))) (.c (.int (0)))) .nil)) (.cons st__law_net_2 (.cons st__law_net_3 (.cons st__law_net_4 .nil))))
abbrev st__law_net_6 : S := (.ret (.tup (.cons (.c (.str (PySem.Str.ofString "net"))) (.cons (.op .tup (.cons (.v 4) .nil)) (.cons (.op .tup (.cons (.op .sorted (.cons (.v 5) .nil)) .nil)) .nil)))))
abbrev bd__law_net : Ss := (.cons st__law_net_0 (.cons st__law_net_1 (.cons st__law_net_5 (.cons st__law_net_6 .nil))))
abbrev in__law_net : Inf := [[0], [], [], [], [], [5], [], [], []]
abbrev ix__law_net : Nat := 25
def fd__law_net : Fd := ⟨PySem.Str.ofString "_law_net", PySem.Challenge.pw_waylands_k02_net_things.main.body.getD 34 (.Pass ⟨0, 0, 0, 0⟩), [PySem.Str.ofString "box", PySem.Str.ofString "many", PySem.Str.ofString "roads", PySem.Str.ofString "kinds", PySem.Str.ofString "places", PySem.Str.ofString "rows", PySem.Str.ofString "k", PySem.Str.ofString "a", PySem.Str.ofString "b"], [PySem.Str.ofString "box", PySem.Str.ofString "many", PySem.Str.ofString "roads", PySem.Str.ofString "kinds"], [true, false, false, false], in__law_net, bd__law_net⟩
abbrev st__law_parts_0 : S := (.par [2, 3] (.cons (.op .sorted (.cons (.v 0) .nil)) (.cons (.lst .nil) .nil)))
abbrev st__law_parts_1 : S := (.par [4, 5] (.cons (.lst (.cons (.mt .popAt 2 .nil (.cons (.c (.int (0))) .nil)) .nil)) (.cons (.c (.int (0))) .nil)))
abbrev st__law_parts_2 : S := (.exp (.mt .rem 2 .nil (.cons (.v 9) .nil)))
abbrev st__law_parts_3 : S := (.exp (.mt .app 4 .nil (.cons (.v 9) .nil)))
abbrev st__law_parts_4 : S := (.iff (.an (.op .eq (.cons (.v 8) (.cons (.op .ix (.cons (.v 4) (.cons (.v 5) .nil))) .nil))) (.op .inn (.cons (.v 9) (.cons (.v 2) .nil)))) (.cons st__law_parts_2 (.cons st__law_parts_3 .nil)) .nil)
abbrev st__law_parts_5 : S := (.loop (.t (.cons (.n 8) (.cons (.n 9) .nil))) (.seq (.tup (.cons (.tup (.cons (.v 6) (.cons (.v 7) .nil))) (.cons (.tup (.cons (.v 7) (.cons (.v 6) .nil))) .nil)))) (.cons st__law_parts_4 .nil))
abbrev st__law_parts_6 : S := (.loop (.t (.cons (.n 6) (.cons (.n 7) .nil))) (.seq (.v 1)) (.cons st__law_parts_5 .nil))
abbrev st__law_parts_7 : S := (.asg (.n 5) (.op .add (.cons (.v 5) (.cons (.c (.int (1))) .nil))))
abbrev st__law_parts_8 : S := (.whl (.op .lt (.cons (.v 5) (.cons (.op .len (.cons (.v 4) .nil)) .nil))) (.cons st__law_parts_6 (.cons st__law_parts_7 .nil)))
abbrev st__law_parts_9 : S := (.exp (.mt .app 3 .nil (.cons (.op .tup (.cons (.op .sorted (.cons (.v 4) .nil)) .nil)) .nil)))
abbrev st__law_parts_10 : S := (.whl (.op .ne (.cons (.v 2) (.cons (.lst .nil) .nil))) (.cons st__law_parts_1 (.cons st__law_parts_8 (.cons st__law_parts_9 .nil))))
abbrev st__law_parts_11 : S := (.ret (.op .sorted (.cons (.v 3) .nil)))
abbrev bd__law_parts : Ss := (.cons st__law_parts_0 (.cons st__law_parts_10 (.cons st__law_parts_11 .nil)))
abbrev in__law_parts : Inf := [[], [], [2], [3], [4], [], [], [], [], []]
abbrev ix__law_parts : Nat := 26
def fd__law_parts : Fd := ⟨PySem.Str.ofString "_law_parts", PySem.Challenge.pw_waylands_k02_net_things.main.body.getD 35 (.Pass ⟨0, 0, 0, 0⟩), [PySem.Str.ofString "places", PySem.Str.ofString "pairs", PySem.Str.ofString "left", PySem.Str.ofString "found", PySem.Str.ofString "part", PySem.Str.ofString "at", PySem.Str.ofString "one", PySem.Str.ofString "other", PySem.Str.ofString "here", PySem.Str.ofString "there"], [PySem.Str.ofString "places", PySem.Str.ofString "pairs"], [false, false], in__law_parts, bd__law_parts⟩
abbrev st__law_ends_0 : S := (.ret (.lc (.tup (.cons (.op .ix (.cons (.v 1) (.cons (.c (.int (1))) .nil))) (.cons (.op .ix (.cons (.v 1) (.cons (.c (.int (2))) .nil))) .nil))) (.n 1) (.seq (.op .ix (.cons (.v 0) (.cons (.c (.int (2))) .nil)))) .nil [1]))
abbrev bd__law_ends : Ss := (.cons st__law_ends_0 .nil)
abbrev in__law_ends : Inf := [[], []]
abbrev ix__law_ends : Nat := 27
def fd__law_ends : Fd := ⟨PySem.Str.ofString "_law_ends", PySem.Challenge.pw_waylands_k02_net_things.main.body.getD 36 (.Pass ⟨0, 0, 0, 0⟩), [PySem.Str.ofString "net", PySem.Str.ofString "row"], [PySem.Str.ofString "net"], [false], in__law_ends, bd__law_ends⟩
abbrev st__law_is_net_0 : S := (.ret (.c (.bl false)))
abbrev st__law_is_net_1 : S := (.iff (.or (.nt (.op (.isi "tuple") (.cons (.v 0) .nil))) (.or (.op .ne (.cons (.op .len (.cons (.v 0) .nil)) (.cons (.c (.int (3))) .nil))) (.or (.nt (.call 20 (.cons (.op .ix (.cons (.v 0) (.cons (.c (.int (0))) .nil))) (.cons (.c (.str (PySem.Str.ofString "net"))) .nil)))) (.or (.nt (.op (.isi "tuple") (.cons (.op .ix (.cons (.v 0) (.cons (.c (.int (1))) .nil))) .nil))) (.nt (.op (.isi "tuple") (.cons (.op .ix (.cons (.v 0) (.cons (.c (.int (2))) .nil))) .nil))))))) (.cons st__law_is_net_0 .nil) .nil)
abbrev st__law_is_net_2 : S := (.ret (.c (.bl false)))
abbrev st__law_is_net_3 : S := (.iff (.or (.op .gt (.cons (.op .len (.cons (.op .ix (.cons (.v 0) (.cons (.c (.int (1))) .nil))) .nil)) (.cons (.c (.int (40))) .nil))) (.or (.op .gt (.cons (.op .len (.cons (.op .ix (.cons (.v 0) (.cons (.c (.int (2))) .nil))) .nil)) (.cons (.c (.int (120))) .nil))) (.or (.op .ne (.cons (.lc (.c (.int (1))) (.n 3) (.seq (.op .ix (.cons (.v 0) (.cons (.c (.int (1))) .nil)))) (.cons (.nt (.call 23 (.cons (.v 3) .nil))) .nil) [3]) (.cons (.lst .nil) .nil))) (.nt (.call 24 (.cons (.op .ix (.cons (.v 0) (.cons (.c (.int (1))) .nil))) .nil)))))) (.cons st__law_is_net_2 .nil) .nil)
abbrev st__law_is_net_4 : S := (.asg (.n 1) (.lst .nil))
abbrev st__law_is_net_5 : S := (.ret (.c (.bl false)))
abbrev st__law_is_net_6 : S := (.iff (.or (.nt (.op (.isi "tuple") (.cons (.v 2) .nil))) (.or (.op .ne (.cons (.op .len (.cons (.v 2) .nil)) (.cons (.c (.int (5))) .nil))) (.or (.nt (.call 23 (.cons (.op .ix (.cons (.v 2) (.cons (.c (.int (0))) .nil))) .nil))) (.op .inn (.cons (.op .ix (.cons (.v 2) (.cons (.c (.int (0))) .nil))) (.cons (.op .ix (.cons (.v 0) (.cons (.c (.int (1))) .nil))) .nil)))))) (.cons st__law_is_net_5 .nil) .nil)
abbrev st__law_is_net_7 : S := (.ret (.c (.bl false)))
abbrev st__law_is_net_8 : S := (.iff (.or (.nt (.op (.isi "str") (.cons (.op .ix (.cons (.v 2) (.cons (.c (.int (1))) .nil))) .nil))) (.or (.nt (.op (.isi "str") (.cons (.op .ix (.cons (.v 2) (.cons (.c (.int (2))) .nil))) .nil))) (.or (.op .nin (.cons (.op .ix (.cons (.v 2) (.cons (.c (.int (1))) .nil))) (.cons (.op .ix (.cons (.v 0) (.cons (.c (.int (1))) .nil))) .nil))) (.or (.op .nin (.cons (.op .ix (.cons (.v 2) (.cons (.c (.int (2))) .nil))) (.cons (.op .ix (.cons (.v 0) (.cons (.c (.int (1))) .nil))) .nil))) (.op .eq (.cons (.op .ix (.cons (.v 2) (.cons (.c (.int (1))) .nil))) (.cons (.op .ix (.cons (.v 2) (.cons (.c (.int (2))) .nil))) .nil))))))) (.cons st__law_is_net_7 .nil) .nil)
abbrev st__law_is_net_9 : S := (.ret (.c (.bl false)))
abbrev st__law_is_net_10 : S := (.iff (.or (.nt (.call 22 (.cons (.op .ix (.cons (.v 2) (.cons (.c (.int (3))) .nil))) (.cons (.c (.int (1))) (.cons (.c (.int (999))) .nil))))) (.or (.nt (.op (.isi "str") (.cons (.op .ix (.cons (.v 2) (.cons (.c (.int (4))) .nil))) .nil))) (.op .nin (.cons (.op .ix (.cons (.v 2) (.cons (.c (.int (4))) .nil))) (.cons (.tup (.cons (.c (.str (PySem.Str.ofString "both"))) (.cons (.c (.str (PySem.Str.ofString "one"))) .nil))) .nil))))) (.cons st__law_is_net_9 .nil) .nil)
abbrev st__law_is_net_11 : S := (.exp (.mt .app 1 .nil (.cons (.op .ix (.cons (.v 2) (.cons (.c (.int (0))) .nil))) .nil)))
abbrev st__law_is_net_12 : S := (.loop (.n 2) (.seq (.op .ix (.cons (.v 0) (.cons (.c (.int (2))) .nil)))) (.cons st__law_is_net_6 (.cons st__law_is_net_8 (.cons st__law_is_net_10 (.cons st__law_is_net_11 .nil)))))
abbrev st__law_is_net_13 : S := (.ret (.call 24 (.cons (.v 1) .nil)))
abbrev bd__law_is_net : Ss := (.cons st__law_is_net_1 (.cons st__law_is_net_3 (.cons st__law_is_net_4 (.cons st__law_is_net_12 (.cons st__law_is_net_13 .nil)))))
abbrev in__law_is_net : Inf := [[], [1], [], []]
abbrev ix__law_is_net : Nat := 28
def fd__law_is_net : Fd := ⟨PySem.Str.ofString "_law_is_net", PySem.Challenge.pw_waylands_k02_net_things.main.body.getD 37 (.Pass ⟨0, 0, 0, 0⟩), [PySem.Str.ofString "thing", PySem.Str.ofString "names", PySem.Str.ofString "row", PySem.Str.ofString "name"], [PySem.Str.ofString "thing"], [false], in__law_is_net, bd__law_is_net⟩
abbrev st__law_other_0 : S := (.asg (.n 2) (.op .tup (.cons (.lc (.op .ix (.cons (.v 1) (.cons (.op .sub (.cons (.op .sub (.cons (.op .len (.cons (.v 1) .nil)) (.cons (.c (.int (1))) .nil))) (.cons (.v 3) .nil))) .nil))) (.n 3) (.rng (.cons (.op .len (.cons (.v 1) .nil)) .nil)) .nil [3]) .nil)))
abbrev st__law_other_1 : S := (.ret (.op .ix (.cons (.lst (.cons (.op .lst (.cons (.v 1) .nil)) (.cons (.op .add (.cons (.v 1) (.cons (.im (.op .slt (.cons (.v 1) (.cons (.c (.int (1))) .nil)))) .nil))) (.cons (.op .slf (.cons (.v 1) (.cons (.c (.int (1))) .nil))) (.cons (.c .non) (.cons (.tup .nil) (.cons (.v 2) .nil))))))) (.cons (.call 18 (.cons (.v 0) (.cons (.c (.int (6))) .nil))) .nil))))
abbrev st__law_other_2 : S := (.iff (.op (.isi "tuple") (.cons (.v 1) .nil)) (.cons st__law_other_0 (.cons st__law_other_1 .nil)) .nil)
abbrev st__law_other_3 : S := (.ret (.op .ix (.cons (.lst (.cons (.c (.str (PySem.Str.ofString "p0"))) (.cons (.c (.str (PySem.Str.ofString "p1"))) (.cons (.c (.str (PySem.Str.ofString "r0"))) (.cons (.c (.str (PySem.Str.ofString "r1"))) (.cons (.c (.str (PySem.Str.ofString "net"))) (.cons (.c (.str (PySem.Str.ofString "both"))) (.cons (.c (.str (PySem.Str.ofString "one"))) (.cons (.c (.str (PySem.Str.ofString "on"))) (.cons (.c (.str (PySem.Str.ofString "back"))) (.cons (.c (.str (PySem.Str.ofString "A"))) (.cons (.c (.str (PySem.Str.ofString ""))) (.cons (.c (.str (PySem.Str.ofString "x y"))) (.cons (.c .non) .nil)))))))))))))) (.cons (.call 18 (.cons (.v 0) (.cons (.c (.int (13))) .nil))) .nil))))
abbrev st__law_other_4 : S := (.iff (.op (.isi "str") (.cons (.v 1) .nil)) (.cons st__law_other_3 .nil) .nil)
abbrev st__law_other_5 : S := (.ret (.op .ix (.cons (.lst (.cons (.c (.int (0))) (.cons (.c (.str (PySem.Str.ofString ""))) (.cons (.tup .nil) .nil)))) (.cons (.call 18 (.cons (.v 0) (.cons (.c (.int (3))) .nil))) .nil))))
abbrev st__law_other_6 : S := (.iff (.op .is (.cons (.v 1) (.cons (.c .non) .nil))) (.cons st__law_other_5 .nil) .nil)
abbrev st__law_other_7 : S := (.ret (.op .ix (.cons (.lst (.cons (.op .add (.cons (.v 1) (.cons (.c (.int (1))) .nil))) (.cons (.op .sub (.cons (.v 1) (.cons (.c (.int (1))) .nil))) (.cons (.op .sub (.cons (.c (.int (0))) (.cons (.v 1) .nil))) (.cons (.c (.bl true)) (.cons (.c .non) (.cons (.c (.int (0))) (.cons (.c (.int (1000))) .nil)))))))) (.cons (.call 18 (.cons (.v 0) (.cons (.c (.int (7))) .nil))) .nil))))
abbrev bd__law_other : Ss := (.cons st__law_other_2 (.cons st__law_other_4 (.cons st__law_other_6 (.cons st__law_other_7 .nil))))
abbrev in__law_other : Inf := [[0], [], [], []]
abbrev ix__law_other : Nat := 29
def fd__law_other : Fd := ⟨PySem.Str.ofString "_law_other", PySem.Challenge.pw_waylands_k02_net_things.main.body.getD 38 (.Pass ⟨0, 0, 0, 0⟩), [PySem.Str.ofString "box", PySem.Str.ofString "thing", PySem.Str.ofString "behind", PySem.Str.ofString "k"], [PySem.Str.ofString "box", PySem.Str.ofString "thing"], [true, false], in__law_other, bd__law_other⟩
abbrev st__law_changed_0 : S := (.ret (.call 29 (.cons (.v 0) (.cons (.v 1) .nil))))
abbrev st__law_changed_1 : S := (.iff (.or (.nt (.op (.isi "tuple") (.cons (.v 1) .nil))) (.or (.op .eq (.cons (.v 1) (.cons (.tup .nil) .nil))) (.op .eq (.cons (.call 18 (.cons (.v 0) (.cons (.c (.int (9))) .nil))) (.cons (.c (.int (0))) .nil))))) (.cons st__law_changed_0 .nil) .nil)
abbrev st__law_changed_2 : S := (.asg (.n 2) (.op .mod (.cons (.call 18 (.cons (.v 0) (.cons (.c (.int (900))) .nil))) (.cons (.op .len (.cons (.v 1) .nil)) .nil))))
abbrev st__law_changed_3 : S := (.ret (.op .add (.cons (.op .add (.cons (.im (.op .slt (.cons (.v 1) (.cons (.v 2) .nil)))) (.cons (.tup (.cons (.call 30 (.cons (.v 0) (.cons (.op .ix (.cons (.v 1) (.cons (.v 2) .nil))) .nil))) .nil)) .nil))) (.cons (.im (.op .slf (.cons (.v 1) (.cons (.op .add (.cons (.v 2) (.cons (.c (.int (1))) .nil))) .nil)))) .nil))))
abbrev bd__law_changed : Ss := (.cons st__law_changed_1 (.cons st__law_changed_2 (.cons st__law_changed_3 .nil)))
abbrev in__law_changed : Inf := [[0], [], []]
abbrev ix__law_changed : Nat := 30
def fd__law_changed : Fd := ⟨PySem.Str.ofString "_law_changed", PySem.Challenge.pw_waylands_k02_net_things.main.body.getD 39 (.Pass ⟨0, 0, 0, 0⟩), [PySem.Str.ofString "box", PySem.Str.ofString "thing", PySem.Str.ofString "at"], [PySem.Str.ofString "box", PySem.Str.ofString "thing"], [true, false], in__law_changed, bd__law_changed⟩
abbrev st_law_0 : S := (.asg (.n 1) (.lst (.cons (.call 17 (.cons (.v 0) (.cons (.c (.int (0))) (.cons (.c (.int (63))) .nil)))) (.cons (.c (.int (0))) .nil))))
abbrev st_law_1 : S := (.asg (.n 3) (.call 25 (.cons (.v 1) (.cons (.call 18 (.cons (.v 1) (.cons (.c (.int (7))) .nil))) (.cons (.c (.int (9))) (.cons (.op .slt (.cons (.lst (.cons (.c (.str (PySem.Str.ofString "both"))) (.cons (.c (.str (PySem.Str.ofString "one"))) .nil))) (.cons (.op .add (.cons (.c (.int (1))) (.cons (.call 18 (.cons (.v 1) (.cons (.c (.int (2))) .nil))) .nil))) .nil))) .nil))))))
abbrev st_law_2 : S := (.asg (.n 6) (.ite (.op .gt (.cons (.v 4) (.cons (.c (.int (0))) .nil))) (.call 30 (.cons (.v 1) (.cons (.v 3) .nil))) (.im (.v 3))))
abbrev st_law_3 : S := (.ret (.c (.bl false)))
abbrev st_law_4 : S := (.iff (.nt (.call 20 (.cons (.call 8 (.cons (.v 6) .nil)) (.cons (.call 28 (.cons (.v 6) .nil)) .nil)))) (.cons st_law_3 .nil) .nil)
abbrev st_law_5 : S := (.loop (.n 4) (.rng (.cons (.c (.int (4))) .nil)) (.cons st_law_2 (.cons st_law_4 .nil)))
abbrev st_law_6 : S := (.asg (.n 5) (.call 26 (.cons (.op .ix (.cons (.v 3) (.cons (.c (.int (1))) .nil))) (.cons (.call 27 (.cons (.v 3) .nil)) .nil))))
abbrev st_law_7 : S := (.ret (.c (.bl false)))
abbrev st_law_8 : S := (.iff (.or (.nt (.call 20 (.cons (.call 9 (.cons (.v 3) .nil)) (.cons (.op .eq (.cons (.lc (.c (.int (1))) (.n 10) (.seq (.op .ix (.cons (.v 3) (.cons (.c (.int (2))) .nil)))) (.cons (.op .eq (.cons (.op .ix (.cons (.v 10) (.cons (.c (.int (4))) .nil))) (.cons (.c (.str (PySem.Str.ofString "one"))) .nil))) .nil) [10]) (.cons (.lst .nil) .nil))) .nil)))) (.or (.nt (.call 20 (.cons (.call 12 (.cons (.v 3) .nil)) (.cons (.op .tup (.cons (.v 5) .nil)) .nil)))) (.nt (.call 20 (.cons (.call 13 (.cons (.v 3) .nil)) (.cons (.op .lt (.cons (.op .len (.cons (.v 5) .nil)) (.cons (.c (.int (2))) .nil))) .nil)))))) (.cons st_law_7 .nil) .nil)
abbrev st_law_9 : S := (.asg (.n 7) (.op .ix (.cons (.call 19 (.cons (.v 1) (.cons (.op .ix (.cons (.v 3) (.cons (.c (.int (2))) .nil))) .nil))) (.cons (.c (.int (0))) .nil))))
abbrev st_law_10 : S := (.ret (.c (.bl false)))
abbrev st_law_11 : S := (.iff (.nt (.call 20 (.cons (.call 14 (.cons (.v 3) (.cons (.v 7) .nil))) (.cons (.tup (.cons (.c (.str (PySem.Str.ofString "net"))) (.cons (.op .ix (.cons (.v 3) (.cons (.c (.int (1))) .nil))) (.cons (.op .tup (.cons (.lc (.v 10) (.n 10) (.seq (.op .ix (.cons (.v 3) (.cons (.c (.int (2))) .nil)))) (.cons (.op .ne (.cons (.op .ix (.cons (.v 10) (.cons (.c (.int (0))) .nil))) (.cons (.v 7) .nil))) .nil) [10]) .nil)) .nil)))) .nil)))) (.cons st_law_10 .nil) .nil)
abbrev st_law_12 : S := (.iff (.op .ne (.cons (.op .ix (.cons (.v 3) (.cons (.c (.int (2))) .nil))) (.cons (.tup .nil) .nil))) (.cons st_law_9 (.cons st_law_11 .nil)) .nil)
abbrev st_law_13 : S := (.asg (.n 8) (.call 19 (.cons (.v 1) (.cons (.op .ix (.cons (.v 3) (.cons (.c (.int (1))) .nil))) .nil))))
abbrev st_law_14 : S := (.asg (.n 9) (.op .tup (.cons (.lc (.v 10) (.n 10) (.seq (.op .ix (.cons (.v 3) (.cons (.c (.int (2))) .nil)))) (.cons (.op .nin (.cons (.v 8) (.cons (.sl (.v 10) (.c (.int (1))) (.c (.int (3)))) .nil))) .nil) [10]) .nil)))
abbrev st_law_15 : S := (.ret (.c (.bl false)))
abbrev st_law_16 : S := (.iff (.nt (.call 20 (.cons (.call 15 (.cons (.v 3) (.cons (.v 8) .nil))) (.cons (.tup (.cons (.c (.str (PySem.Str.ofString "net"))) (.cons (.op .tup (.cons (.lc (.v 11) (.n 11) (.seq (.op .ix (.cons (.v 3) (.cons (.c (.int (1))) .nil)))) (.cons (.op .ne (.cons (.v 11) (.cons (.v 8) .nil))) .nil) [11]) .nil)) (.cons (.v 9) .nil)))) .nil)))) (.cons st_law_15 .nil) .nil)
abbrev st_law_17 : S := (.iff (.op .ne (.cons (.op .ix (.cons (.v 3) (.cons (.c (.int (1))) .nil))) (.cons (.tup .nil) .nil))) (.cons st_law_13 (.cons st_law_14 (.cons st_law_16 .nil))) .nil)
abbrev st_law_18 : S := (.loop (.n 2) (.rng (.cons (.c (.int (3))) .nil)) (.cons st_law_1 (.cons st_law_5 (.cons st_law_6 (.cons st_law_8 (.cons st_law_12 (.cons st_law_17 .nil)))))))
abbrev st_law_19 : S := (.ret (.c (.bl true)))
abbrev bd_law : Ss := (.cons st_law_0 (.cons st_law_18 (.cons st_law_19 .nil)))
abbrev in_law : Inf := [[], [1], [], [], [], [], [], [], [], [], [], []]
abbrev ix_law : Nat := 31
def fd_law : Fd := ⟨PySem.Str.ofString "law", PySem.Challenge.pw_waylands_k02_net_things.main.body.getD 40 (.Pass ⟨0, 0, 0, 0⟩), [PySem.Str.ofString "script", PySem.Str.ofString "box", PySem.Str.ofString "turn", PySem.Str.ofString "net", PySem.Str.ofString "step", PySem.Str.ofString "found", PySem.Str.ofString "thing", PySem.Str.ofString "road", PySem.Str.ofString "place", PySem.Str.ofString "rows", PySem.Str.ofString "row", PySem.Str.ofString "name"], [PySem.Str.ofString "script"], [false], in_law, bd_law⟩
-- 32 of 32 defs told
abbrev fms : List (List Bool) := [[false], [false, false], [false, false], [false], [false], [false], [false], [false, false], [false], [false], [false], [false, false], [false], [false], [false, false], [false, false], [false, false], [false, false, false], [true, false], [true, false], [false, false], [false], [false, false, false], [false], [false], [true, false, false, false], [false, false], [false], [false], [true, false], [true, false], [false]]
def fds : List Fd := [fd_is_whole, fd_is_tuple_of, fd__consists_of, fd_is_name, fd__is_ascending, fd__are_places, fd__is_room, fd__is_road, fd_is_net, fd_is_even, fd__neighbours, fd__part_of, fd_parts, fd_hangs, fd_without_road, fd_without_place, fd__law_cell, fd__law_digits, fd__law_draw, fd__law_pick, fd__law_like, fd__law_is_name, fd__law_whole, fd__law_named, fd__law_ascending, fd__law_net, fd__law_parts, fd__law_ends, fd__law_is_net, fd__law_other, fd__law_changed, fd_law]
def blts : List Str := [PySem.Str.ofString "abs", PySem.Str.ofString "all", PySem.Str.ofString "any", PySem.Str.ofString "bool", PySem.Str.ofString "dict", PySem.Str.ofString "enumerate", PySem.Str.ofString "int", PySem.Str.ofString "isinstance", PySem.Str.ofString "len", PySem.Str.ofString "list", PySem.Str.ofString "max", PySem.Str.ofString "min", PySem.Str.ofString "range", PySem.Str.ofString "reversed", PySem.Str.ofString "set", PySem.Str.ofString "sorted", PySem.Str.ofString "str", PySem.Str.ofString "sum", PySem.Str.ofString "tuple", PySem.Str.ofString "zip"]
def glb : List (Str × I) := [(PySem.Str.ofString "LETTERS", (.str (PySem.Str.ofString "abcdefghijklmnopqrstuvwxyz"))), (PySem.Str.ofString "DIGITS", (.str (PySem.Str.ofString "0123456789"))), (PySem.Str.ofString "MOST_PLACES", (.int (40))), (PySem.Str.ofString "MOST_ROADS", (.int (120))), (PySem.Str.ofString "MOST_ROOM", (.int (999)))]
theorem ok_is_whole : okFd fds blts glb fd_is_whole = true := by decide +kernel
theorem ok_is_tuple_of : okFd fds blts glb fd_is_tuple_of = true := by decide +kernel
theorem ok__consists_of : okFd fds blts glb fd__consists_of = true := by decide +kernel
theorem ok_is_name : okFd fds blts glb fd_is_name = true := by decide +kernel
theorem ok__is_ascending : okFd fds blts glb fd__is_ascending = true := by decide +kernel
theorem ok__are_places : okFd fds blts glb fd__are_places = true := by decide +kernel
theorem ok__is_room : okFd fds blts glb fd__is_room = true := by decide +kernel
theorem ok__is_road : okFd fds blts glb fd__is_road = true := by decide +kernel
theorem ok_is_net : okFd fds blts glb fd_is_net = true := by decide +kernel
theorem ok_is_even : okFd fds blts glb fd_is_even = true := by decide +kernel
theorem ok__neighbours : okFd fds blts glb fd__neighbours = true := by decide +kernel
theorem ok__part_of : okFd fds blts glb fd__part_of = true := by decide +kernel
theorem ok_parts : okFd fds blts glb fd_parts = true := by decide +kernel
theorem ok_hangs : okFd fds blts glb fd_hangs = true := by decide +kernel
theorem ok_without_road : okFd fds blts glb fd_without_road = true := by decide +kernel
theorem ok_without_place : okFd fds blts glb fd_without_place = true := by decide +kernel
theorem ok__law_cell : okFd fds blts glb fd__law_cell = true := by decide +kernel
theorem ok__law_digits : okFd fds blts glb fd__law_digits = true := by decide +kernel
theorem ok__law_draw : okFd fds blts glb fd__law_draw = true := by decide +kernel
theorem ok__law_pick : okFd fds blts glb fd__law_pick = true := by decide +kernel
theorem ok__law_like : okFd fds blts glb fd__law_like = true := by decide +kernel
theorem ok__law_is_name : okFd fds blts glb fd__law_is_name = true := by decide +kernel
theorem ok__law_whole : okFd fds blts glb fd__law_whole = true := by decide +kernel
theorem ok__law_named : okFd fds blts glb fd__law_named = true := by decide +kernel
theorem ok__law_ascending : okFd fds blts glb fd__law_ascending = true := by decide +kernel
theorem ok__law_net : okFd fds blts glb fd__law_net = true := by decide +kernel
theorem ok__law_parts : okFd fds blts glb fd__law_parts = true := by decide +kernel
theorem ok__law_ends : okFd fds blts glb fd__law_ends = true := by decide +kernel
theorem ok__law_is_net : okFd fds blts glb fd__law_is_net = true := by decide +kernel
theorem ok__law_other : okFd fds blts glb fd__law_other = true := by decide +kernel
theorem ok__law_changed : okFd fds blts glb fd__law_changed = true := by decide +kernel
theorem ok_law : okFd fds blts glb fd_law = true := by decide +kernel
theorem fms_eq : fds.map (·.modes) = fms := rfl
theorem run_is_whole {n k : Nat} {ds : List D} {Q : D → List D → Prop} (hl : ds.length = 1) (h : WS (exs ⟨in_is_whole, fms⟩ (GF fds n k) n bd_is_whole (ds.map some ++ List.replicate (1 - ds.length) none)) (fun ρ => ∃ ms, fin [false] ρ = some ms ∧ Q (.i .non) ms) (fun d ρ => ∃ ms, fin [false] ρ = some ms ∧ Q d ms) (fun _ => False) (fun _ => False)) : WF (GF fds n (k + 1) 0 ds) Q := w_def (fd := fd_is_whole) rfl hl h
theorem run_is_tuple_of {n k : Nat} {ds : List D} {Q : D → List D → Prop} (hl : ds.length = 2) (h : WS (exs ⟨in_is_tuple_of, fms⟩ (GF fds n k) n bd_is_tuple_of (ds.map some ++ List.replicate (2 - ds.length) none)) (fun ρ => ∃ ms, fin [false, false] ρ = some ms ∧ Q (.i .non) ms) (fun d ρ => ∃ ms, fin [false, false] ρ = some ms ∧ Q d ms) (fun _ => False) (fun _ => False)) : WF (GF fds n (k + 1) 1 ds) Q := w_def (fd := fd_is_tuple_of) rfl hl h
theorem run__consists_of {n k : Nat} {ds : List D} {Q : D → List D → Prop} (hl : ds.length = 2) (h : WS (exs ⟨in__consists_of, fms⟩ (GF fds n k) n bd__consists_of (ds.map some ++ List.replicate (3 - ds.length) none)) (fun ρ => ∃ ms, fin [false, false] ρ = some ms ∧ Q (.i .non) ms) (fun d ρ => ∃ ms, fin [false, false] ρ = some ms ∧ Q d ms) (fun _ => False) (fun _ => False)) : WF (GF fds n (k + 1) 2 ds) Q := w_def (fd := fd__consists_of) rfl hl h
theorem run_is_name {n k : Nat} {ds : List D} {Q : D → List D → Prop} (hl : ds.length = 1) (h : WS (exs ⟨in_is_name, fms⟩ (GF fds n k) n bd_is_name (ds.map some ++ List.replicate (1 - ds.length) none)) (fun ρ => ∃ ms, fin [false] ρ = some ms ∧ Q (.i .non) ms) (fun d ρ => ∃ ms, fin [false] ρ = some ms ∧ Q d ms) (fun _ => False) (fun _ => False)) : WF (GF fds n (k + 1) 3 ds) Q := w_def (fd := fd_is_name) rfl hl h
theorem run__is_ascending {n k : Nat} {ds : List D} {Q : D → List D → Prop} (hl : ds.length = 1) (h : WS (exs ⟨in__is_ascending, fms⟩ (GF fds n k) n bd__is_ascending (ds.map some ++ List.replicate (2 - ds.length) none)) (fun ρ => ∃ ms, fin [false] ρ = some ms ∧ Q (.i .non) ms) (fun d ρ => ∃ ms, fin [false] ρ = some ms ∧ Q d ms) (fun _ => False) (fun _ => False)) : WF (GF fds n (k + 1) 4 ds) Q := w_def (fd := fd__is_ascending) rfl hl h
theorem run__are_places {n k : Nat} {ds : List D} {Q : D → List D → Prop} (hl : ds.length = 1) (h : WS (exs ⟨in__are_places, fms⟩ (GF fds n k) n bd__are_places (ds.map some ++ List.replicate (2 - ds.length) none)) (fun ρ => ∃ ms, fin [false] ρ = some ms ∧ Q (.i .non) ms) (fun d ρ => ∃ ms, fin [false] ρ = some ms ∧ Q d ms) (fun _ => False) (fun _ => False)) : WF (GF fds n (k + 1) 5 ds) Q := w_def (fd := fd__are_places) rfl hl h
theorem run__is_room {n k : Nat} {ds : List D} {Q : D → List D → Prop} (hl : ds.length = 1) (h : WS (exs ⟨in__is_room, fms⟩ (GF fds n k) n bd__is_room (ds.map some ++ List.replicate (1 - ds.length) none)) (fun ρ => ∃ ms, fin [false] ρ = some ms ∧ Q (.i .non) ms) (fun d ρ => ∃ ms, fin [false] ρ = some ms ∧ Q d ms) (fun _ => False) (fun _ => False)) : WF (GF fds n (k + 1) 6 ds) Q := w_def (fd := fd__is_room) rfl hl h
theorem run__is_road {n k : Nat} {ds : List D} {Q : D → List D → Prop} (hl : ds.length = 2) (h : WS (exs ⟨in__is_road, fms⟩ (GF fds n k) n bd__is_road (ds.map some ++ List.replicate (7 - ds.length) none)) (fun ρ => ∃ ms, fin [false, false] ρ = some ms ∧ Q (.i .non) ms) (fun d ρ => ∃ ms, fin [false, false] ρ = some ms ∧ Q d ms) (fun _ => False) (fun _ => False)) : WF (GF fds n (k + 1) 7 ds) Q := w_def (fd := fd__is_road) rfl hl h
theorem run_is_net {n k : Nat} {ds : List D} {Q : D → List D → Prop} (hl : ds.length = 1) (h : WS (exs ⟨in_is_net, fms⟩ (GF fds n k) n bd_is_net (ds.map some ++ List.replicate (2 - ds.length) none)) (fun ρ => ∃ ms, fin [false] ρ = some ms ∧ Q (.i .non) ms) (fun d ρ => ∃ ms, fin [false] ρ = some ms ∧ Q d ms) (fun _ => False) (fun _ => False)) : WF (GF fds n (k + 1) 8 ds) Q := w_def (fd := fd_is_net) rfl hl h
theorem run_is_even {n k : Nat} {ds : List D} {Q : D → List D → Prop} (hl : ds.length = 1) (h : WS (exs ⟨in_is_even, fms⟩ (GF fds n k) n bd_is_even (ds.map some ++ List.replicate (2 - ds.length) none)) (fun ρ => ∃ ms, fin [false] ρ = some ms ∧ Q (.i .non) ms) (fun d ρ => ∃ ms, fin [false] ρ = some ms ∧ Q d ms) (fun _ => False) (fun _ => False)) : WF (GF fds n (k + 1) 9 ds) Q := w_def (fd := fd_is_even) rfl hl h
theorem run__neighbours {n k : Nat} {ds : List D} {Q : D → List D → Prop} (hl : ds.length = 1) (h : WS (exs ⟨in__neighbours, fms⟩ (GF fds n k) n bd__neighbours (ds.map some ++ List.replicate (4 - ds.length) none)) (fun ρ => ∃ ms, fin [false] ρ = some ms ∧ Q (.i .non) ms) (fun d ρ => ∃ ms, fin [false] ρ = some ms ∧ Q d ms) (fun _ => False) (fun _ => False)) : WF (GF fds n (k + 1) 10 ds) Q := w_def (fd := fd__neighbours) rfl hl h
theorem run__part_of {n k : Nat} {ds : List D} {Q : D → List D → Prop} (hl : ds.length = 2) (h : WS (exs ⟨in__part_of, fms⟩ (GF fds n k) n bd__part_of (ds.map some ++ List.replicate (5 - ds.length) none)) (fun ρ => ∃ ms, fin [false, false] ρ = some ms ∧ Q (.i .non) ms) (fun d ρ => ∃ ms, fin [false, false] ρ = some ms ∧ Q d ms) (fun _ => False) (fun _ => False)) : WF (GF fds n (k + 1) 11 ds) Q := w_def (fd := fd__part_of) rfl hl h
theorem run_parts {n k : Nat} {ds : List D} {Q : D → List D → Prop} (hl : ds.length = 1) (h : WS (exs ⟨in_parts, fms⟩ (GF fds n k) n bd_parts (ds.map some ++ List.replicate (7 - ds.length) none)) (fun ρ => ∃ ms, fin [false] ρ = some ms ∧ Q (.i .non) ms) (fun d ρ => ∃ ms, fin [false] ρ = some ms ∧ Q d ms) (fun _ => False) (fun _ => False)) : WF (GF fds n (k + 1) 12 ds) Q := w_def (fd := fd_parts) rfl hl h
theorem run_hangs {n k : Nat} {ds : List D} {Q : D → List D → Prop} (hl : ds.length = 1) (h : WS (exs ⟨in_hangs, fms⟩ (GF fds n k) n bd_hangs (ds.map some ++ List.replicate (1 - ds.length) none)) (fun ρ => ∃ ms, fin [false] ρ = some ms ∧ Q (.i .non) ms) (fun d ρ => ∃ ms, fin [false] ρ = some ms ∧ Q d ms) (fun _ => False) (fun _ => False)) : WF (GF fds n (k + 1) 13 ds) Q := w_def (fd := fd_hangs) rfl hl h
theorem run_without_road {n k : Nat} {ds : List D} {Q : D → List D → Prop} (hl : ds.length = 2) (h : WS (exs ⟨in_without_road, fms⟩ (GF fds n k) n bd_without_road (ds.map some ++ List.replicate (3 - ds.length) none)) (fun ρ => ∃ ms, fin [false, false] ρ = some ms ∧ Q (.i .non) ms) (fun d ρ => ∃ ms, fin [false, false] ρ = some ms ∧ Q d ms) (fun _ => False) (fun _ => False)) : WF (GF fds n (k + 1) 14 ds) Q := w_def (fd := fd_without_road) rfl hl h
theorem run_without_place {n k : Nat} {ds : List D} {Q : D → List D → Prop} (hl : ds.length = 2) (h : WS (exs ⟨in_without_place, fms⟩ (GF fds n k) n bd_without_place (ds.map some ++ List.replicate (6 - ds.length) none)) (fun ρ => ∃ ms, fin [false, false] ρ = some ms ∧ Q (.i .non) ms) (fun d ρ => ∃ ms, fin [false, false] ρ = some ms ∧ Q d ms) (fun _ => False) (fun _ => False)) : WF (GF fds n (k + 1) 15 ds) Q := w_def (fd := fd_without_place) rfl hl h
theorem run__law_cell {n k : Nat} {ds : List D} {Q : D → List D → Prop} (hl : ds.length = 2) (h : WS (exs ⟨in__law_cell, fms⟩ (GF fds n k) n bd__law_cell (ds.map some ++ List.replicate (2 - ds.length) none)) (fun ρ => ∃ ms, fin [false, false] ρ = some ms ∧ Q (.i .non) ms) (fun d ρ => ∃ ms, fin [false, false] ρ = some ms ∧ Q d ms) (fun _ => False) (fun _ => False)) : WF (GF fds n (k + 1) 16 ds) Q := w_def (fd := fd__law_cell) rfl hl h
theorem run__law_digits {n k : Nat} {ds : List D} {Q : D → List D → Prop} (hl : ds.length = 3) (h : WS (exs ⟨in__law_digits, fms⟩ (GF fds n k) n bd__law_digits (ds.map some ++ List.replicate (8 - ds.length) none)) (fun ρ => ∃ ms, fin [false, false, false] ρ = some ms ∧ Q (.i .non) ms) (fun d ρ => ∃ ms, fin [false, false, false] ρ = some ms ∧ Q d ms) (fun _ => False) (fun _ => False)) : WF (GF fds n (k + 1) 17 ds) Q := w_def (fd := fd__law_digits) rfl hl h
theorem run__law_draw {n k : Nat} {ds : List D} {Q : D → List D → Prop} (hl : ds.length = 2) (h : WS (exs ⟨in__law_draw, fms⟩ (GF fds n k) n bd__law_draw (ds.map some ++ List.replicate (3 - ds.length) none)) (fun ρ => ∃ ms, fin [true, false] ρ = some ms ∧ Q (.i .non) ms) (fun d ρ => ∃ ms, fin [true, false] ρ = some ms ∧ Q d ms) (fun _ => False) (fun _ => False)) : WF (GF fds n (k + 1) 18 ds) Q := w_def (fd := fd__law_draw) rfl hl h
theorem run__law_pick {n k : Nat} {ds : List D} {Q : D → List D → Prop} (hl : ds.length = 2) (h : WS (exs ⟨in__law_pick, fms⟩ (GF fds n k) n bd__law_pick (ds.map some ++ List.replicate (2 - ds.length) none)) (fun ρ => ∃ ms, fin [true, false] ρ = some ms ∧ Q (.i .non) ms) (fun d ρ => ∃ ms, fin [true, false] ρ = some ms ∧ Q d ms) (fun _ => False) (fun _ => False)) : WF (GF fds n (k + 1) 19 ds) Q := w_def (fd := fd__law_pick) rfl hl h
theorem run__law_like {n k : Nat} {ds : List D} {Q : D → List D → Prop} (hl : ds.length = 2) (h : WS (exs ⟨in__law_like, fms⟩ (GF fds n k) n bd__law_like (ds.map some ++ List.replicate (3 - ds.length) none)) (fun ρ => ∃ ms, fin [false, false] ρ = some ms ∧ Q (.i .non) ms) (fun d ρ => ∃ ms, fin [false, false] ρ = some ms ∧ Q d ms) (fun _ => False) (fun _ => False)) : WF (GF fds n (k + 1) 20 ds) Q := w_def (fd := fd__law_like) rfl hl h
theorem run__law_is_name {n k : Nat} {ds : List D} {Q : D → List D → Prop} (hl : ds.length = 1) (h : WS (exs ⟨in__law_is_name, fms⟩ (GF fds n k) n bd__law_is_name (ds.map some ++ List.replicate (2 - ds.length) none)) (fun ρ => ∃ ms, fin [false] ρ = some ms ∧ Q (.i .non) ms) (fun d ρ => ∃ ms, fin [false] ρ = some ms ∧ Q d ms) (fun _ => False) (fun _ => False)) : WF (GF fds n (k + 1) 21 ds) Q := w_def (fd := fd__law_is_name) rfl hl h
theorem run__law_whole {n k : Nat} {ds : List D} {Q : D → List D → Prop} (hl : ds.length = 3) (h : WS (exs ⟨in__law_whole, fms⟩ (GF fds n k) n bd__law_whole (ds.map some ++ List.replicate (3 - ds.length) none)) (fun ρ => ∃ ms, fin [false, false, false] ρ = some ms ∧ Q (.i .non) ms) (fun d ρ => ∃ ms, fin [false, false, false] ρ = some ms ∧ Q d ms) (fun _ => False) (fun _ => False)) : WF (GF fds n (k + 1) 22 ds) Q := w_def (fd := fd__law_whole) rfl hl h
theorem run__law_named {n k : Nat} {ds : List D} {Q : D → List D → Prop} (hl : ds.length = 1) (h : WS (exs ⟨in__law_named, fms⟩ (GF fds n k) n bd__law_named (ds.map some ++ List.replicate (1 - ds.length) none)) (fun ρ => ∃ ms, fin [false] ρ = some ms ∧ Q (.i .non) ms) (fun d ρ => ∃ ms, fin [false] ρ = some ms ∧ Q d ms) (fun _ => False) (fun _ => False)) : WF (GF fds n (k + 1) 23 ds) Q := w_def (fd := fd__law_named) rfl hl h
theorem run__law_ascending {n k : Nat} {ds : List D} {Q : D → List D → Prop} (hl : ds.length = 1) (h : WS (exs ⟨in__law_ascending, fms⟩ (GF fds n k) n bd__law_ascending (ds.map some ++ List.replicate (2 - ds.length) none)) (fun ρ => ∃ ms, fin [false] ρ = some ms ∧ Q (.i .non) ms) (fun d ρ => ∃ ms, fin [false] ρ = some ms ∧ Q d ms) (fun _ => False) (fun _ => False)) : WF (GF fds n (k + 1) 24 ds) Q := w_def (fd := fd__law_ascending) rfl hl h
theorem run__law_net {n k : Nat} {ds : List D} {Q : D → List D → Prop} (hl : ds.length = 4) (h : WS (exs ⟨in__law_net, fms⟩ (GF fds n k) n bd__law_net (ds.map some ++ List.replicate (9 - ds.length) none)) (fun ρ => ∃ ms, fin [true, false, false, false] ρ = some ms ∧ Q (.i .non) ms) (fun d ρ => ∃ ms, fin [true, false, false, false] ρ = some ms ∧ Q d ms) (fun _ => False) (fun _ => False)) : WF (GF fds n (k + 1) 25 ds) Q := w_def (fd := fd__law_net) rfl hl h
theorem run__law_parts {n k : Nat} {ds : List D} {Q : D → List D → Prop} (hl : ds.length = 2) (h : WS (exs ⟨in__law_parts, fms⟩ (GF fds n k) n bd__law_parts (ds.map some ++ List.replicate (10 - ds.length) none)) (fun ρ => ∃ ms, fin [false, false] ρ = some ms ∧ Q (.i .non) ms) (fun d ρ => ∃ ms, fin [false, false] ρ = some ms ∧ Q d ms) (fun _ => False) (fun _ => False)) : WF (GF fds n (k + 1) 26 ds) Q := w_def (fd := fd__law_parts) rfl hl h
theorem run__law_ends {n k : Nat} {ds : List D} {Q : D → List D → Prop} (hl : ds.length = 1) (h : WS (exs ⟨in__law_ends, fms⟩ (GF fds n k) n bd__law_ends (ds.map some ++ List.replicate (2 - ds.length) none)) (fun ρ => ∃ ms, fin [false] ρ = some ms ∧ Q (.i .non) ms) (fun d ρ => ∃ ms, fin [false] ρ = some ms ∧ Q d ms) (fun _ => False) (fun _ => False)) : WF (GF fds n (k + 1) 27 ds) Q := w_def (fd := fd__law_ends) rfl hl h
theorem run__law_is_net {n k : Nat} {ds : List D} {Q : D → List D → Prop} (hl : ds.length = 1) (h : WS (exs ⟨in__law_is_net, fms⟩ (GF fds n k) n bd__law_is_net (ds.map some ++ List.replicate (4 - ds.length) none)) (fun ρ => ∃ ms, fin [false] ρ = some ms ∧ Q (.i .non) ms) (fun d ρ => ∃ ms, fin [false] ρ = some ms ∧ Q d ms) (fun _ => False) (fun _ => False)) : WF (GF fds n (k + 1) 28 ds) Q := w_def (fd := fd__law_is_net) rfl hl h
theorem run__law_other {n k : Nat} {ds : List D} {Q : D → List D → Prop} (hl : ds.length = 2) (h : WS (exs ⟨in__law_other, fms⟩ (GF fds n k) n bd__law_other (ds.map some ++ List.replicate (4 - ds.length) none)) (fun ρ => ∃ ms, fin [true, false] ρ = some ms ∧ Q (.i .non) ms) (fun d ρ => ∃ ms, fin [true, false] ρ = some ms ∧ Q d ms) (fun _ => False) (fun _ => False)) : WF (GF fds n (k + 1) 29 ds) Q := w_def (fd := fd__law_other) rfl hl h
theorem run__law_changed {n k : Nat} {ds : List D} {Q : D → List D → Prop} (hl : ds.length = 2) (h : WS (exs ⟨in__law_changed, fms⟩ (GF fds n k) n bd__law_changed (ds.map some ++ List.replicate (3 - ds.length) none)) (fun ρ => ∃ ms, fin [true, false] ρ = some ms ∧ Q (.i .non) ms) (fun d ρ => ∃ ms, fin [true, false] ρ = some ms ∧ Q d ms) (fun _ => False) (fun _ => False)) : WF (GF fds n (k + 1) 30 ds) Q := w_def (fd := fd__law_changed) rfl hl h
theorem run_law {n k : Nat} {ds : List D} {Q : D → List D → Prop} (hl : ds.length = 1) (h : WS (exs ⟨in_law, fms⟩ (GF fds n k) n bd_law (ds.map some ++ List.replicate (12 - ds.length) none)) (fun ρ => ∃ ms, fin [false] ρ = some ms ∧ Q (.i .non) ms) (fun d ρ => ∃ ms, fin [false] ρ = some ms ∧ Q d ms) (fun _ => False) (fun _ => False)) : WF (GF fds n (k + 1) 31 ds) Q := w_def (fd := fd_law) rfl hl h
end Mp

namespace Mp
open PySem PyProof.Rows L2
local macro_rules | `(tactic| kpf_c) => `(tactic| simp only [setE_eq, killB, List.elem, List.set_cons_zero, List.set_cons_succ, Int.reduceToNat, beq_self_eq_true, Nat.reduceBEq, Nat.reduceEqDiff, List.map_cons, List.map_nil, List.cons_append, List.nil_append, List.length_cons, List.length_nil, Nat.reduceAdd, Nat.reduceSub, List.replicate])
local macro_rules | `(tactic| kpf_close) => `(tactic| simp only [wipeE, restE, getE, List.set_cons_zero, List.set_cons_succ, List.getElem?_cons_zero, List.getElem?_cons_succ, Option.join_some, Option.join_none])
local macro_rules | `(tactic| fail) => `(tactic| first
  | with_reducible refine w_c ?_
  | ((with_reducible refine' a_imm ?e ?h); (case e => exact rfl)) | ((with_reducible refine' a_there ?e ?h); (case e => exact rfl)) | ((with_reducible refine' a_len ?e ?h); (case e => exact rfl)) | ((with_reducible refine' a_dk ?e ?h); (case e => exact rfl)) | ((with_reducible refine' a_lt ?e ?h); (case e => exact rfl); try kpf_c) | with_reducible refine w_parn ?_ | with_reducible refine w_parc ?_
  | ((with_reducible refine' br_tt ?e ?h); (case e => exact rfl)) | ((with_reducible refine' br_ff ?e ?h); (case e => exact rfl))
  | ((with_reducible refine' w_v ?e ?h); (case e => exact rfl))
  | with_reducible refine w_op ?_ | with_reducible refine w_cons ?_ | with_reducible refine w_nil ?_ | with_reducible refine w_nt ?_ | with_reducible refine w_an ?_ | with_reducible refine w_or ?_
  | with_reducible refine w_ite ?_ | with_reducible refine w_ch ?_ | with_reducible refine w_sl ?_ | with_reducible refine w_get ?_ | with_reducible refine w_im ?_ | with_reducible refine w_tup ?_ | with_reducible refine w_lst ?_
  | with_reducible refine w_dcons ?_ | with_reducible refine w_dnil ?_ | with_reducible refine w_g ?_
  | ((with_reducible refine' w_callR ?e ?l ?h); (case e => exact rfl); (case l => exact rfl))
  | ((with_reducible refine' w_callM ?e ?m ?l ?g ?h); (case e => exact rfl); (case m => exact rfl); (case l => exact rfl); (case g => exact rfl))
  | ((with_reducible refine' w_mt0 ?e ?m ?h); (case e => exact rfl); (case m => exact rfl))
  | ((with_reducible refine' w_mv ?e ?h); (case e => exact rfl))
  | ((with_reducible refine' w_tn ?e ?l ?h); (case e => first | exact rfl | assumption | exact mayHold_fr rfl | exact mayHold_bo rfl rfl); (case l => exact Nat.le_of_ble_eq_true rfl); kpf_c)
  | ((with_reducible refine' w_tt ?e ?h); (case e => exact rfl); try simp only [List.map_cons, List.map_nil])
  | with_reducible refine w_tsc ?_ | with_reducible refine w_tsn ?_ | with_reducible refine w_seq ?_ | with_reducible refine w_rng ?_ | with_reducible refine w_enum ?_ | with_reducible refine w_zip ?_ | with_reducible refine w_rev ?_
  | with_reducible refine w_ssnil ?_ | with_reducible refine w_sscons ?_ | with_reducible refine w_asg ?_ | with_reducible refine w_par ?_ | with_reducible refine w_sub ?_
  | ((with_reducible refine' w_aug ?e ?h); (case e => exact rfl)) | ((with_reducible refine' w_augSe ?e ?h); (case e => exact rfl))
  | with_reducible refine w_exp ?_ | with_reducible refine w_ret ?_ | with_reducible refine w_retN ?_ | with_reducible refine w_brk ?_ | with_reducible refine w_cont ?_ | with_reducible refine w_pass ?_
  | ((with_reducible refine' w_subL ?a ?b ?h); (case a => exact rfl); (case b => exact rfl); kpf_c)
  | with_reducible refine w_cnil ?_ | with_reducible refine w_cone ?_ | with_reducible refine w_step ?_ | with_reducible refine w_stepD ?_
  | ((with_reducible refine' Exists.intro _ (And.intro ?e ?h)); (case e => first | with_reducible exact get_amt | with_reducible exact o_inT | with_reducible exact o_ninT | with_reducible exact o_inK | with_reducible exact o_inS | with_reducible exact o_ninS | with_reducible exact o_ninK | with_reducible exact o_add | with_reducible exact o_sub | with_reducible exact o_neg | with_reducible exact o_lt | with_reducible exact o_le | with_reducible exact o_gt | with_reducible exact o_ge | with_reducible exact o_eq | with_reducible exact o_ne | with_reducible exact o_eqS | with_reducible exact o_neS | with_reducible exact o_geS | with_reducible exact o_lenL | with_reducible exact o_lenT | with_reducible exact o_lenD | with_reducible exact o_int | with_reducible exact o_abs | with_reducible exact t_bl | with_reducible exact t_int | with_reducible exact t_lst | with_reducible exact t_tup | (with_reducible refine oi_guard ?_; first | exact oi_int_non | exact oi_int_bl | exact oi_int_int | exact oi_int_str | exact oi_int_tup | exact oi_int_lst | exact oi_int_tupD | exact oi_int_dk | exact oi_bool_non | exact oi_bool_bl | exact oi_bool_int | exact oi_bool_str | exact oi_bool_tup | exact oi_bool_lst | exact oi_bool_tupD | exact oi_bool_dk | exact oi_str_non | exact oi_str_bl | exact oi_str_int | exact oi_str_str | exact oi_str_tup | exact oi_str_lst | exact oi_str_tupD | exact oi_str_dk | exact oi_tuple_non | exact oi_tuple_bl | exact oi_tuple_int | exact oi_tuple_str | exact oi_tuple_tup | exact oi_tuple_lst | exact oi_tuple_tupD | exact oi_tuple_dk | exact oi_list_non | exact oi_list_bl | exact oi_list_int | exact oi_list_str | exact oi_list_tup | exact oi_list_lst | exact oi_list_tupD | exact oi_list_dk | exact oi_dict_non | exact oi_dict_bl | exact oi_dict_int | exact oi_dict_str | exact oi_dict_tup | exact oi_dict_lst | exact oi_dict_tupD | exact oi_dict_dk | with_reducible exact o_isT (fun k z => by cases z) | with_reducible exact o_isS (fun k z => by cases z) | ((with_reducible refine o_isT (WfD.nodt (L := ?ll) ?hh)); (case hh => assumption)) | ((with_reducible refine o_isS (WfD.nodt (L := ?ll) ?hh)); (case hh => assumption))) | ((with_reducible refine o_mulR ?_); decide) | ((with_reducible refine o_sltT ?_); omega) | ((with_reducible refine o_slfT ?_); omega) | with_reducible exact o_lstT | with_reducible exact o_eqT0 | ((with_reducible refine o_mod ?_); omega) | ((with_reducible refine o_mod ?_); assumption) | ((with_reducible refine o_str ?_); assumption) | ((with_reducible refine o_ltS ?_); assumption) | ((with_reducible refine o_rng2 ?_); omega) | ((with_reducible refine o_rng1 ?_); omega) | ((fail_if_success (with_reducible refine rng_guard ?_)); exact rfl))))
local macro_rules | `(tactic| kpt_turns) => `(tactic| repeat fail)

theorem sp_is_whole {n k L : Nat} {d : D} (h : WfD L d) : WR (GF fds n (k + 1) ix_is_whole [d]) fun r => r = dB (isWholeB d) := by
  refine WR.of (run_is_whole rfl ?_)
  kpf_c
  cases d with
  | i x => cases x <;> kpt_turns <;> rfl
  | lst ds => kpt_turns; rfl
  | tup ds => kpt_turns; rfl
  | dk _ => simp [WfD] at h
  | dt _ => simp [WfD] at h

theorem sp_is_tuple_of {n k L : Nat} {d : D} {m : Int} (h : WfD L d) : WR (GF fds n (k + 1) ix_is_tuple_of [d, dI m]) fun r => r = dB (isTupOf m d) := by
  refine WR.of (run_is_tuple_of rfl ?_)
  kpf_c
  kpt_turns
  unfold isTupB isTupOf
  cases e : kidsT d with
  | none =>
    kpt_turns
    rfl
  | some ds =>
    kpt_turns
    refine ⟨_, o_lenK e, ?_⟩
    kpt_turns
    rfl

theorem sp_cell {n k : Nat} {ns : List Int} {j : Int} (hj : 0 ≤ j) : WR (GF fds n (k + 1) ix__law_cell [intsD ns, dI j]) fun d => ∃ c, d = dI c := by
  refine WR.of (run__law_cell rfl ?_)
  kpf_c
  kpt_turns
  refine w_iff ?_
  kpt_turns
  refine ⟨fun h => ?_, fun h => ?_⟩
  · kpt_turns
    refine ⟨_, o_ixN hj (by simpa using h), ?_⟩
    kpt_turns
    exact ⟨_, rfl⟩
  · kpt_turns
    exact ⟨_, rfl⟩

def encB (ds : List Int) (a : Nat) : D := .lst [intsD ds, dI a]
theorem sp_draw {n k : Nat} {ds : List Int} {a : Nat} {m : Int} (hm : 0 < m) : WM (GF fds n (k + 1) ix__law_draw [encB ds a, dI m]) fun d b => b = encB ds (a + 1) ∧ ∃ r, d = dI r ∧ 0 ≤ r ∧ r < m := by
  refine WM.of (run__law_draw rfl ?_)
  kpf_c
  kpt_turns
  refine w_iff ?_
  kpt_turns
  refine ⟨fun h => ?_, fun h => ?_⟩
  · kpt_turns
    refine ⟨_, o_ixN (Int.natCast_nonneg a) (by simpa using h), ?_⟩
    kpt_turns
    exact ⟨_, _, rfl, rfl, _, rfl, Int.emod_nonneg _ (by omega), Int.emod_lt_of_pos _ hm⟩
  · kpt_turns
    exact ⟨_, _, rfl, rfl, _, rfl, Int.emod_nonneg _ (by omega), Int.emod_lt_of_pos _ hm⟩

theorem sp_digits {n k : Nat} {ns : List Int} : WR (GF fds n (k + 2) ix__law_digits [intsD ns, dI 0, dI 63]) fun d => ∃ ds, d = intsD ds := by
  refine WR.of (run__law_digits rfl ?_)
  kpf_c
  kpt_turns
  refine w_loopX (fun k : Nat => dI (0 + k)) (fun i ρ => ∃ ds o4 o5 o6 o7, ρ = [some (intsD ns), some (dI 0), some (dI 63), some (intsD ds), o4, o5, o6, o7] ∧ ds.length ≤ 60 * i) ?_
  kpt_turns
  refine ⟨⟨[], _, _, _, _, rfl, by simp⟩, ?_, ?_⟩
  · rintro i hi ρ1 ⟨ds, o4, o5, o6, o7, rfl, hl⟩
    have hi : i < 63 := by simpa using hi
    have small : ∀ {xs : List Int}, xs.length < 60 * 64 → (xs.map dI).length < sizeLine := fun {xs} h => by
      rw [List.length_map]; exact Nat.lt_trans h (by decide)
    have app : ∀ {xs : List Int} {r : Int}, xs.length < 60 * 64 → mtF .app [dI r] (intsD xs) = some (intsD (xs ++ [r]), .i .non) := fun {xs r} h => by
      show (if (xs.map dI).length < sizeLine then some (D.lst (xs.map dI ++ [dI r]), D.i .non) else none) = _
      rw [if_pos (small h)]
      unfold intsD
      rw [List.map_append]; rfl
    rw [List.getElem_range]
    kpt_turns
    refine (sp_cell (by omega)).mono ?_
    rintro _ ⟨c, rfl⟩
    kpt_turns
    refine w_join (fun ρ => ∃ c, ρ = [some (intsD ns), some (dI 0), some (dI 63), some (intsD ds), some (dI (0 + i)), some (dI c), o6, o7]) ?_ ?_
    · refine w_iff ?_
      kpt_turns
      refine ⟨fun h => ?_, fun h => ?_⟩
      · kpt_turns
        exact ⟨_, rfl⟩
      · kpt_turns
        exact ⟨_, rfl⟩
    · rintro ρ2 ⟨c, rfl⟩
      kpt_turns
      refine w_iff ?_
      kpt_turns
      refine ⟨fun h => ?_, fun h => ?_⟩
      · kpt_turns
        exact ⟨_, rfl⟩
      · kpt_turns
        refine w_iff ?_
        kpt_turns
        refine ⟨fun h => ?_, fun h => ?_⟩
        · kpt_turns
          refine w_loopX (fun k : Nat => dI k) (fun j ρ => ∃ es c o6 o7, ρ = [some (intsD ns), some (dI 0), some (dI 63), some (intsD es), some (dI (0 + i)), some (dI c), o6, o7] ∧ es.length ≤ 60 * i + j) ?_
          kpt_turns
          refine ⟨⟨ds, _, _, _, rfl, by omega⟩, ?_, ?_⟩
          · rintro j hj ρ3 ⟨es, c, o6, o7, rfl, hl⟩
            have hj : j < 60 := by simpa using hj
            kpt_turns
            refine w_iff ?_
            kpt_turns
            refine ⟨fun h => ?_, fun h => ?_⟩
            · kpt_turns
              refine ⟨_, _, _, rfl, app (by omega), ?_⟩
              kpf_c
              kpt_turns
              exact ⟨_, _, _, _, rfl, by simp; omega⟩
            · kpt_turns
              exact ⟨_, _, _, _, rfl, by omega⟩
          · rintro ρ3 ⟨es, c, o6, o7, rfl, hl⟩
            have hl : es.length ≤ 60 * i + 60 := by simpa using hl
            kpt_turns
            exact ⟨_, _, _, _, _, rfl, by omega⟩
        · kpt_turns
          refine w_loopX (fun k : Nat => dI k) (fun j ρ => ∃ es s o6, ρ = [some (intsD ns), some (dI 0), some (dI 63), some (intsD es), some (dI (0 + i)), some (dI c), o6, some (dI s)] ∧ es.length ≤ 60 * i + j) ?_
          kpt_turns
          refine ⟨⟨ds, _, _, rfl, by omega⟩, ?_, ?_⟩
          · rintro j hj ρ3 ⟨es, s, o6, rfl, hl⟩
            have hj : j < 12 := by simpa using hj
            kpt_turns
            refine ⟨_, _, _, rfl, app (by omega), ?_⟩
            kpf_c
            kpt_turns
            exact ⟨_, _, _, rfl, by simp; omega⟩
          · rintro ρ3 ⟨es, s, o6, rfl, hl⟩
            have hl : es.length ≤ 60 * i + 12 := by simpa using hl
            kpt_turns
            exact ⟨_, _, _, _, _, rfl, by omega⟩
  · rintro ρ1 ⟨ds, o4, o5, o6, o7, rfl, hl⟩
    kpt_turns
    exact ⟨_, rfl⟩

def lawWhole (lo hi : Int) : D → Bool
  | .i (.int m) => decide (lo ≤ m) && decide (m ≤ hi)
  | _ => false
theorem sp_law_whole {n k L : Nat} {d : D} {lo hi : Int} (h : WfD L d) : WR (GF fds n (k + 1) ix__law_whole [d, dI lo, dI hi]) fun r => r = dB (lawWhole lo hi d) := by
  refine WR.of (run__law_whole rfl ?_)
  kpf_c
  cases d with
  | i x =>
    cases x with
    | int m =>
      kpt_turns
      refine ⟨fun h => ?_, fun h => ?_⟩
      · kpt_turns
        show dB _ = dB (decide (lo ≤ m) && decide (m ≤ hi))
        rw [h]; rfl
      · kpt_turns
        show dB _ = dB (decide (lo ≤ m) && decide (m ≤ hi))
        rw [h]; rfl
    | _ => kpt_turns; rfl
  | lst ds => kpt_turns; rfl
  | tup ds => kpt_turns; rfl
  | dk _ => simp [WfD] at h
  | dt _ => simp [WfD] at h

theorem sp_like_bool {n k : Nat} {a b : Bool} : WR (GF fds n (k + 1) ix__law_like [dB a, dB b]) fun r => r = dB (a == b) := by
  refine WR.of (run__law_like rfl ?_)
  kpf_c
  cases b <;> cases a <;>
  · kpt_turns
    refine w_iff ?_
    kpt_turns
    refine w_iff ?_
    kpt_turns
    refine w_iff ?_
    kpt_turns
    try
      refine w_iff ?_
      kpt_turns
    rfl
theorem sp_like_int {n k : Nat} {m : Int} : WR (GF fds n (k + 1) ix__law_like [dI m, dI m]) fun r => r = dB true := by
  refine WR.of (run__law_like rfl ?_)
  kpf_c
  kpt_turns
  refine w_iff ?_
  kpt_turns
  refine w_iff ?_
  kpt_turns
  refine w_iff ?_
  kpt_turns
  refine w_iff ?_
  kpt_turns
  refine w_iff ?_
  kpt_turns
  simp
theorem sp_like_str {n k : Nat} {x : Str} (h : PyData.strOk x = true ∧ x.length ≤ 1000) : WR (GF fds n (k + 1) ix__law_like [dS x, dS x]) fun r => r = dB true := by
  refine WR.of (run__law_like rfl ?_)
  kpf_c
  kpt_turns
  refine w_iff ?_
  kpt_turns
  refine w_iff ?_
  kpt_turns
  refine w_iff ?_
  kpt_turns
  refine w_iff ?_
  kpt_turns
  refine w_iff ?_
  kpt_turns
  refine ⟨_, o_join1 (Nat.le_trans (Nat.add_le_add_right h.2 _) (by decide)) h.1, ?_⟩
  kpt_turns
  simp
theorem sp_like_refl {n k L : Nat} (hL : L ≤ 1000) : ∀ (m : Nat) {x : I}, depI x ≤ m → WfI L x → WR (GF fds n (k + m + 1) ix__law_like [.i x, .i x]) fun r => r = dB true
  | m, .non, _, _ => by
    refine WR.of (run__law_like rfl ?_)
    kpf_c
    kpt_turns
    refine w_iff ?_
    kpt_turns
    refine w_iff ?_
    kpt_turns
    rfl
  | m, .bl b, _, _ => by
    refine (sp_like_bool (n := n) (k := k + m) (a := b) (b := b)).mono ?_
    rintro _ rfl
    simp
  | m, .int i, _, _ => sp_like_int
  | m, .str x, _, h => by
    simp only [WfI] at h
    exact sp_like_str ⟨h.1, Nat.le_trans h.2 (by decide)⟩
  | 0, .tup xs, h, _ => by simp [depI] at h
  | m + 1, .tup xs, h, hw => by
    simp only [depI] at h
    simp only [WfI] at hw
    refine WR.of (run__law_like rfl ?_)
    kpf_c
    kpt_turns
    refine w_iff ?_
    kpt_turns
    refine w_iff ?_
    kpt_turns
    rw [show ((xs.length : Int) == (xs.length : Int)) = true from beq_self_eq_true _]
    kpt_turns
    with_reducible refine w_lcOne (fun i : Nat => dI i) (fun i => false) ?_
    kpt_turns
    refine ⟨fun i hi => ?_, ?_, ?_⟩
    · have hi : i < xs.length := by have := List.mem_range.mp hi; omega
      kpt_turns
      refine ⟨_, o_ixT (atT hi), ?_⟩
      kpt_turns
      refine ⟨_, o_ixT (atT hi), ?_⟩
      kpt_turns
      refine (sp_like_refl hL m (x := xs.getD i .non) (Nat.le_trans (depIs_mem (getD_mem hi)) (by omega)) (WfIs.mem.mp hw.2 _ (getD_mem hi))).mono ?_
      rintro _ rfl
      kpt_turns
      exact ⟨rfl, rfl⟩
    · rw [List.length_range]
      exact sizeOk (by omega) hL
    · kpf_close
      kpt_turns
      refine ⟨_, o_eqNil, ?_⟩
      kpt_turns
      rw [filter0]
      simp

def wfB : D → Bool
  | .i (.str x) => PyData.strOk x && decide (x.length ≤ 100)
  | .i (.tup []) => true
  | .i .non => true
  | .i (.bl _) => true
  | .i (.int _) => true
  | _ => false
theorem wfB_ch {L : Nat} {z : D} (h : wfB z = true) : Ch L 0 z := by
  unfold wfB at h
  split at h
  · simp only [Bool.and_eq_true, decide_eq_true_eq] at h
    exact Ch.imm (by simp only [WfI]; exact h)
  · exact Ch.imm (by simp [WfI, WfIs])
  · exact Ch.imm (by simp only [WfI])
  · exact Ch.imm (by simp only [WfI])
  · exact Ch.imm (by simp only [WfI])
  · cases h
def htI : I → Nat
  | .tup _ => 1
  | _ => 0
theorem sp_law_other {n k L : Nat} {ds : List Int} {a : Nat} {x : I} (hL : L ≤ 999) (hw : WfI L x) (hb : NoBl x) : WM (GF fds n (k + 2) ix__law_other [encB ds a, .i x]) fun d b => ∃ a', b = encB ds a' ∧ Ch (L + 1) (htI x) d := by
  have sl : sizeLine = 16777216 := by decide
  refine WM.of (run__law_other rfl ?_)
  kpf_c
  kpt_turns
  refine w_iff ?_
  cases x with
  | tup xs =>
    simp only [WfI] at hw
    obtain ⟨hl, hws⟩ := hw
    have hm : ∀ y ∈ xs, WfI (L + 1) y := fun y hy => WfI.mono (by omega) (WfIs.mem.mp hws y hy)
    kpt_turns
    with_reducible refine w_lcMap (fun k : Nat => dI k) (fun k => .i (xs.getD (xs.length - 1 - k) .non)) ?_
    kpt_turns
    refine ⟨fun j hj => ?_, by rw [List.length_range]; omega, ?_⟩
    · have hj : j < xs.length := by have := List.mem_range.mp hj; omega
      kpt_turns
      refine ⟨_, o_ixT (x := xs.getD (xs.length - 1 - j) .non) ?_, ?_⟩
      · have := atT (xs := xs) (i := xs.length - 1 - j) (by omega)
        rwa [show (((xs.length - 1 - j : Nat) : Int)) = (xs.length : Int) - 1 - j by omega] at this
      · exact ⟨rfl, rfl, rfl⟩
    · kpf_close
      kpt_turns
      refine ⟨_, o_tupL, ?_⟩
      kpt_turns
      refine ⟨_, o_addT (by rw [List.length_take]; omega), ?_⟩
      kpt_turns
      refine (sp_draw (by decide)).mono ?_
      rintro _ _ ⟨rfl, r, rfl, h0, h1⟩
      kpf_c
      kpt_turns
      obtain ⟨z, hz, ez⟩ := ix_mem (xs := [.lst (xs.map .i), .i (.tup (xs ++ xs.take (Int.toNat 1))), .i (.tup (xs.drop (Int.toNat 1))), .i .non, .i (.tup []), .i (.tup ((List.range (xs.length : Int).toNat).map fun k => xs.getD (xs.length - 1 - k) .non))]) h0 (by show r < 6; exact h1)
      refine ⟨_, ez, ?_⟩
      kpt_turns
      refine ⟨_, _, rfl, _, rfl, ?_⟩
      simp only [List.mem_cons, List.not_mem_nil, or_false] at hz
      show Ch (L + 1) 1 _
      rcases hz with rfl | rfl | rfl | rfl | rfl | rfl
      · exact .inr (.inl ⟨xs, rfl, WfIs.mem.mpr hm, by omega⟩)
      · refine Ch.imm ?_
        simp only [WfI]
        refine ⟨by rw [List.length_append, List.length_take]; have : (Int.toNat 1) = 1 := rfl
                   omega, WfIs.mem.mpr fun y hy => ?_⟩
        rcases List.mem_append.mp hy with q | q
        · exact hm y q
        · exact hm y (List.mem_of_mem_take q)
      · refine Ch.imm ?_
        simp only [WfI]
        exact ⟨by rw [List.length_drop]; omega, WfIs.mem.mpr fun y hy => hm y (List.mem_of_mem_drop hy)⟩
      · exact Ch.imm (by simp only [WfI])
      · exact Ch.imm (by simp [WfI, WfIs])
      · refine Ch.imm ?_
        simp only [WfI]
        refine ⟨by rw [List.length_map, List.length_range]; omega, WfIs.mem.mpr fun y hy => ?_⟩
        obtain ⟨j, hj, rfl⟩ := List.mem_map.mp hy
        exact hm _ (getD_mem (by have := List.mem_range.mp hj; omega))
  | str s =>
    kpt_turns
    refine w_iff ?_
    kpt_turns
    refine (sp_draw (by decide)).mono ?_
    rintro _ _ ⟨rfl, r, rfl, h0, h1⟩
    kpf_c
    kpt_turns
    obtain ⟨z, hz, ez⟩ := ix_mem (xs := [dS (PySem.Str.ofString "p0"), dS (PySem.Str.ofString "p1"), dS (PySem.Str.ofString "r0"), dS (PySem.Str.ofString "r1"), dS (PySem.Str.ofString "net"), dS (PySem.Str.ofString "both"), dS (PySem.Str.ofString "one"), dS (PySem.Str.ofString "on"), dS (PySem.Str.ofString "back"), dS (PySem.Str.ofString "A"), dS (PySem.Str.ofString ""), dS (PySem.Str.ofString "x y"), .i .non]) h0 (by show r < 13; exact h1)
    refine ⟨_, ez, ?_⟩
    kpt_turns
    refine ⟨_, _, rfl, _, rfl, wfB_ch (List.all_eq_true.mp (by decide +kernel) z hz)⟩
  | non =>
    kpt_turns
    refine w_iff ?_
    kpt_turns
    refine w_iff ?_
    kpt_turns
    refine (sp_draw (by decide)).mono ?_
    rintro _ _ ⟨rfl, r, rfl, h0, h1⟩
    kpf_c
    kpt_turns
    obtain ⟨z, hz, ez⟩ := ix_mem (xs := [dI 0, dS (PySem.Str.ofString ""), .i (.tup [])]) h0 (by show r < 3; exact h1)
    refine ⟨_, ez, ?_⟩
    kpt_turns
    refine ⟨_, _, rfl, _, rfl, wfB_ch (List.all_eq_true.mp (by decide +kernel) z hz)⟩
  | int m =>
    kpt_turns
    refine w_iff ?_
    kpt_turns
    refine w_iff ?_
    kpt_turns
    refine (sp_draw (by decide)).mono ?_
    rintro _ _ ⟨rfl, r, rfl, h0, h1⟩
    kpf_c
    kpt_turns
    obtain ⟨z, hz, ez⟩ := ix_mem (xs := [dI (m + 1), dI (m - 1), dI (0 - m), dB true, .i .non, dI 0, dI 1000]) h0 (by show r < 7; exact h1)
    refine ⟨_, ez, ?_⟩
    kpt_turns
    refine ⟨_, _, rfl, _, rfl, wfB_ch (List.all_eq_true.mp rfl z hz)⟩
  | bl b => simp [NoBl] at hb

theorem sp_law_changed {n k L : Nat} {ds : List Int} (hL : L ≤ 999) : ∀ (m : Nat) {a : Nat} {x : I}, depI x ≤ m → WfI L x → NoBl x → WM (GF fds n (k + m + 3) ix__law_changed [encB ds a, .i x]) fun d b => ∃ a', b = encB ds a' ∧ Ch (L + 1) m d := by
  have sl : sizeLine = 16777216 := by decide
  intro m
  induction m with
  | zero =>
    intro a x hd hw hb
    refine WM.of (run__law_changed rfl ?_)
    kpf_c
    cases x with
    | tup xs => simp [depI] at hd
    | bl b => simp [NoBl] at hb
    | _ =>
      kpt_turns
      refine w_iff ?_
      kpt_turns
      refine (sp_law_other hL hw hb).mono ?_
      rintro d _ ⟨a', rfl, hc⟩
      kpf_c
      kpt_turns
      exact ⟨_, _, rfl, _, rfl, hc⟩
  | succ m ih =>
    intro a x hd hw hb
    refine WM.of (run__law_changed rfl ?_)
    kpf_c
    cases x with
    | bl b => simp [NoBl] at hb
    | tup xs =>
      have hw0 := hw
      simp only [WfI] at hw0
      have hbs := NoBls.mem.mp (show NoBls xs by simpa only [NoBl] using hb)
      have hds : depIs xs ≤ m := by simp only [depI] at hd; omega
      kpt_turns
      refine w_iff ?_
      kpt_turns
      refine ⟨_, o_eqT0, ?_⟩
      kpt_turns
      cases he : xs.isEmpty with
      | true =>
        kpt_turns
        refine (sp_law_other hL hw hb).mono ?_
        rintro d _ ⟨a', rfl, hc⟩
        kpf_c
        kpt_turns
        exact ⟨_, _, rfl, _, rfl, hc.le (by simp [htI])⟩
      | false =>
        have hlen : 0 < xs.length := List.length_pos_iff.mpr (by simpa using he)
        kpt_turns
        refine (sp_draw (by decide)).mono ?_
        rintro _ _ ⟨rfl, r, rfl, h0, h1⟩
        kpf_c
        kpt_turns
        cases hr : r == 0 with
        | true =>
          kpt_turns
          refine (sp_law_other hL hw hb).mono ?_
          rintro d _ ⟨a', rfl, hc⟩
          kpf_c
          kpt_turns
          exact ⟨_, _, rfl, _, rfl, hc.le (by simp [htI])⟩
        | false =>
          kpt_turns
          refine (sp_draw (by decide)).mono ?_
          rintro _ _ ⟨rfl, r2, rfl, h20, h21⟩
          have hA0 : 0 ≤ r2 % (xs.length : Int) := Int.emod_nonneg _ (by omega)
          have hA1 : r2 % (xs.length : Int) < xs.length := Int.emod_lt_of_pos _ (by omega)
          kpf_c
          kpt_turns
          have hA2 : (r2 % (xs.length : Int)).toNat < xs.length := by omega
          refine ⟨_, o_ixT (x := xs[(r2 % (xs.length : Int)).toNat]) (at_lt hA0 hA1), ?_⟩
          kpt_turns
          have hmem := List.getElem_mem hA2
          refine (ih (Nat.le_trans (depIs_mem hmem) hds) (WfIs.mem.mp hw0.2 _ hmem) (hbs _ hmem)).mono ?_
          rintro c _ ⟨a', rfl, hc⟩
          kpf_c
          kpt_turns
          obtain ⟨r1, e1, k1⟩ := o_addK (d := .i (.tup (xs.take (r2 % (xs.length : Int)).toNat))) (e := mkT [c]) rfl kidsT_mkT (by rw [List.length_map, List.length_take]; show _ + 1 ≤ sizeLine; omega)
          refine ⟨_, e1, ?_⟩
          kpt_turns
          obtain ⟨r3, e3, k3⟩ := o_addK (d := r1) (e := .i (.tup (xs.drop (r2 % (xs.length : Int) + 1).toNat))) k1 rfl (by simp only [List.length_append, List.length_map, List.length_take, List.length_drop, List.length_cons, List.length_nil]; omega)
          refine ⟨_, e3, ?_⟩
          kpt_turns
          refine ⟨_, _, rfl, _, rfl, Ch.ofKids k3 ?_ ?_⟩
          · simp only [List.length_append, List.length_map, List.length_take, List.length_drop, List.length_cons, List.length_nil]
            omega
          · intro y hy
            have up : ∀ z ∈ xs, Ch (L + 1) m (.i z) := fun z hz => Ch.imm (WfI.mono (by omega) (WfIs.mem.mp hw0.2 z hz))
            rcases List.mem_append.mp hy with q | q
            · rcases List.mem_append.mp q with q | q
              · obtain ⟨z, hz, rfl⟩ := List.mem_map.mp q
                exact up z (List.mem_of_mem_take hz)
              · rw [List.mem_singleton.mp q]
                exact hc
            · obtain ⟨z, hz, rfl⟩ := List.mem_map.mp q
              exact up z (List.mem_of_mem_drop hz)
    | _ =>
      kpt_turns
      refine w_iff ?_
      kpt_turns
      refine (sp_law_other hL hw hb).mono ?_
      rintro d _ ⟨a', rfl, hc⟩
      kpf_c
      kpt_turns
      exact ⟨_, _, rfl, _, rfl, hc.le (by simp [htI])⟩

theorem atKs {ss : List Str} {i : Nat} {j : Int} (h : i < ss.length) (e : j = i) : atI (ss.map dS) j = some (dS (ss.getD i ⟨#[]⟩)) := by
  subst e
  refine atI_nat ?_
  rw [List.getElem?_map, List.getElem?_eq_getElem h, List.getD_eq_getElem?_getD, List.getElem?_eq_getElem h]
  rfl
def ascS (ss : List Str) : Bool := (List.range (ss.length - 1)).all fun i => ltB (ss.getD i ⟨#[]⟩) (ss.getD (i + 1) ⟨#[]⟩)
theorem getD_memS {ss : List Str} {i : Nat} (h : i < ss.length) : ss.getD i ⟨#[]⟩ ∈ ss := by
  rw [List.getD_eq_getElem?_getD, List.getElem?_eq_getElem h]
  exact List.getElem_mem h
theorem sp_law_ascending {n k L : Nat} {d : D} {ss : List Str} (hL : L ≤ 1000) (e : kids d = some (ss.map dS)) (hl : ss.length ≤ L) : WR (GF fds n (k + 1) ix__law_ascending [d]) fun r => r = dB (ascS ss) := by
  refine WR.of (run__law_ascending rfl ?_)
  kpf_c
  kpt_turns
  with_reducible refine w_lcOne (fun i : Nat => dI (1 + i)) (fun i => !ltB (ss.getD i ⟨#[]⟩) (ss.getD (i + 1) ⟨#[]⟩)) ?_
  kpt_turns
  refine ⟨_, o_lenKs e, ?_⟩
  rw [List.length_map]
  kpt_turns
  refine ⟨fun i hi => ?_, ?_, ?_⟩
  · have hi : i + 1 < ss.length := by
      have := List.mem_range.mp hi
      omega
    kpt_turns
    refine ⟨_, o_ixKs e (atKs (i := i) (by omega) (by omega)), ?_⟩
    kpt_turns
    refine ⟨_, o_ixKs e (atKs (i := i + 1) hi (by omega)), ?_⟩
    kpt_turns
    exact ⟨rfl, rfl⟩
  · rw [List.length_range]
    exact sizeOk (by omega) hL
  · kpf_close
    kpt_turns
    refine ⟨_, o_eqNil, ?_⟩
    kpt_turns
    rw [filter0n]
    unfold ascS
    rw [show ((ss.length : Int) - 1).toNat = ss.length - 1 by omega]

theorem sp_is_ascending {n k L : Nat} {d : D} {ss : List Str} (hL : L ≤ 1000) (e : kids d = some (ss.map dS)) (hs : ∀ s ∈ ss, PyData.strOk s = true) (hl : ss.length ≤ L) : WR (GF fds n (k + 1) ix__is_ascending [d]) fun r => r = dB (ascS ss) := by
  refine WR.of (run__is_ascending rfl ?_)
  kpf_c
  kpt_turns
  with_reducible refine w_lcMap (fun i : Nat => dI i) (fun i => dB (ltB (ss.getD i ⟨#[]⟩) (ss.getD (i + 1) ⟨#[]⟩))) ?_
  kpt_turns
  refine ⟨_, o_lenKs e, ?_⟩
  rw [List.length_map]
  kpt_turns
  refine ⟨fun i hi => ?_, ?_, ?_⟩
  · have hi : i + 1 < ss.length := by
      have := List.mem_range.mp hi
      omega
    kpt_turns
    refine ⟨_, o_ixKs e (atKs (i := i) (by omega) (by omega)), ?_⟩
    kpt_turns
    refine ⟨_, o_ixKs e (atKs (i := i + 1) hi (by omega)), ?_⟩
    have hs1 := hs _ (getD_memS (by omega : i < ss.length))
    kpt_turns
    exact ⟨rfl, rfl⟩
  · rw [List.length_range]
    exact sizeOk (by omega) hL
  · kpf_close
    kpt_turns
    refine ⟨_, o_all, ?_⟩
    kpt_turns
    unfold ascS
    rw [show ((ss.length : Int) - 1).toNat = ss.length - 1 by omega]

def sLetters : Str := PySem.Str.ofString "abcdefghijklmnopqrstuvwxyz"
def sLD : Str := PySem.Str.ofString "abcdefghijklmnopqrstuvwxyz0123456789"
def isNameS (s : Str) : Bool := (decide (1 ≤ (s.length : Int)) && decide ((s.length : Int) ≤ 10)) && (subS sLetters (headS s) && (signs s).all fun c => subS sLD c)
def isNameI : I → Bool
  | .str s => isNameS s
  | _ => false
def isNameD : D → Bool
  | .i x => isNameI x
  | _ => false
theorem ld_eq : PySem.Str.ofString "abcdefghijklmnopqrstuvwxyz" ++ PySem.Str.ofString "0123456789" = sLD := by decide +kernel
theorem len100 {s : Str} (h : s.length ≤ 100) : s.length ≤ sizeLine := Nat.le_trans h (by decide)
theorem sp_consists_of {n k : Nat} {s b : Str} (h : s.length ≤ 100) : WR (GF fds n (k + 1) ix__consists_of [dS s, dS b]) fun r => r = dB ((signs s).all fun c => subS b c) := by
  refine WR.of (run__consists_of rfl ?_)
  kpf_c
  kpt_turns
  with_reducible refine w_lcMap dS (fun c => dB (subS b c)) ?_
  kpt_turns
  refine ⟨signs s, by unfold signs; rw [List.map_map]; rfl, fun c hc => ?_, by rw [signs_len]; exact len100 h, ?_⟩
  · kpt_turns
    exact ⟨rfl, rfl⟩
  · kpf_close
    kpt_turns
    refine ⟨_, o_all, ?_⟩
    kpt_turns
    rfl
theorem sp_is_name {n k L : Nat} {d : D} (hd : WfD L d) : WR (GF fds n (k + 2) ix_is_name [d]) fun r => r = dB (isNameD d) := by
  refine WR.of (run_is_name rfl ?_)
  kpf_c
  cases d with
  | i x =>
    cases x with
    | str s =>
      simp only [WfD, WfI] at hd
      have hl := len100 hd.2
      kpt_turns
      refine w_iff ?_
      kpt_turns
      refine ⟨_, o_lenS hl, ?_⟩
      kpt_turns
      show _ ∧ _
      have e : isNameD (dS s) = isNameS s := rfl
      rw [e]
      unfold isNameS
      refine ⟨fun h1 => ?_, fun h1 => ?_⟩
      · have h1' : (decide (1 ≤ (s.length : Int))) = true := h1
        rw [h1']
        kpt_turns
        cases h2 : decide ((s.length : Int) ≤ 10) with
        | false => kpt_turns; rfl
        | true =>
          kpt_turns
          have h3 : 1 ≤ s.length := by have := of_decide_eq_true h1'; omega
          refine ⟨_, o_ixS0 h3 hl, ?_⟩
          kpt_turns
          show (subS sLetters _ = true → _) ∧ (subS sLetters _ = false → _)
          refine ⟨fun h4 => ?_, fun h4 => ?_⟩
          · kpt_turns
            rw [ld_eq]
            refine (sp_consists_of hd.2).mono ?_
            rintro _ rfl
            kpt_turns
            rw [h4]; rfl
          · kpt_turns
            rw [h4]
            exact congrArg dB h4
      · have h1' : (decide (1 ≤ (s.length : Int))) = false := h1
        rw [h1']
        kpt_turns
        rfl
    | _ =>
      kpt_turns
      refine w_iff ?_
      kpt_turns
      rfl
  | lst ds =>
    kpt_turns
    refine w_iff ?_
    kpt_turns
    rfl
  | tup ds =>
    kpt_turns
    refine w_iff ?_
    kpt_turns
    rfl
  | dk _ => simp [WfD] at hd
  | dt _ => simp [WfD] at hd

theorem sp_law_is_name {n k : Nat} {s : Str} (hd : PyData.strOk s = true ∧ s.length ≤ 100) : WR (GF fds n (k + 1) ix__law_is_name [dS s]) fun r => r = dB (isNameS s) := by
  have hl := len100 hd.2
  refine WR.of (run__law_is_name rfl ?_)
  kpf_c
  kpt_turns
  refine w_iff ?_
  kpt_turns
  refine ⟨_, o_lenS hl, ?_⟩
  kpt_turns
  unfold isNameS
  refine ⟨fun h1 => ?_, fun h1 => ?_⟩
  · have h1' : (decide (1 ≤ (s.length : Int))) = true := h1
    rw [h1']
    kpt_turns
    cases h2 : decide ((s.length : Int) ≤ 10) with
    | false => kpt_turns; rfl
    | true =>
      kpt_turns
      have h3 : 1 ≤ s.length := by have := of_decide_eq_true h1'; omega
      refine ⟨_, o_ixS0 h3 hl, ?_⟩
      kpt_turns
      show ((!subS sLetters _) = true → _) ∧ ((!subS sLetters _) = false → _)
      cases h4 : subS sLetters (headS s) with
      | true =>
        kpt_turns
        with_reducible refine w_lcIf dS (fun c => !subS sLD c) dS ?_
        kpt_turns
        refine ⟨signs s, by unfold signs; rw [List.map_map]; rfl, fun c hc => ?_, by rw [signs_len]; exact hl, ?_⟩
        · kpt_turns
          refine ⟨rfl, fun h => ?_, fun h => ?_⟩
          · kpt_turns
            exact ⟨rfl, rfl⟩
          · rfl
        · kpf_close
          kpt_turns
          refine ⟨_, o_eqNilM, ?_⟩
          kpt_turns
          rw [filter0]
          simp
      | false =>
        kpt_turns
        rfl
  · have h1' : (decide (1 ≤ (s.length : Int))) = false := h1
    rw [h1']
    kpt_turns
    rfl
theorem sp_law_named {n k L : Nat} {d : D} (hd : WfD L d) : WR (GF fds n (k + 2) ix__law_named [d]) fun r => r = dB (isNameD d) := by
  refine WR.of (run__law_named rfl ?_)
  kpf_c
  cases d with
  | i x =>
    cases x with
    | str s =>
      simp only [WfD, WfI] at hd
      kpt_turns
      refine (sp_law_is_name hd).mono ?_
      rintro _ rfl
      kpt_turns
      rfl
    | _ =>
      kpt_turns
      rfl
  | lst ds =>
    kpt_turns
    rfl
  | tup ds =>
    kpt_turns
    rfl
  | dk _ => simp [WfD] at hd
  | dt _ => simp [WfD] at hd

def endsOf (rs : List Road) : List (Str × Str) := rs.map fun r => (r.a, r.b)
def nbOf (rs : List Road) (p : Str) : List Str := rs.flatMap fun r => (if p = r.a then [r.b] else []) ++ (if p = r.b then [r.a] else [])
theorem nbOf_mem {rs : List Road} {p q : Str} : q ∈ nbOf rs p ↔ (p, q) ∈ endsOf rs ∨ (q, p) ∈ endsOf rs := by
  unfold nbOf endsOf
  rw [List.mem_flatMap, List.mem_map, List.mem_map]
  constructor
  · rintro ⟨r, hr, h⟩
    rcases List.mem_append.mp h with h | h
    · by_cases e : p = r.a
      · rw [if_pos e] at h
        exact .inl ⟨r, hr, by rw [List.mem_singleton.mp h, e]⟩
      · rw [if_neg e] at h; cases h
    · by_cases e : p = r.b
      · rw [if_pos e] at h
        exact .inr ⟨r, hr, by rw [List.mem_singleton.mp h, e]⟩
      · rw [if_neg e] at h; cases h
  · rintro (⟨r, hr, h⟩ | ⟨r, hr, h⟩)
    · cases h
      exact ⟨r, hr, List.mem_append_left _ (by rw [if_pos rfl]; exact List.mem_singleton.mpr rfl)⟩
    · cases h
      exact ⟨r, hr, List.mem_append_right _ (by rw [if_pos rfl]; exact List.mem_singleton.mpr rfl)⟩
theorem nbOf_len {rs : List Road} {p : Str} : (nbOf rs p).length ≤ 2 * rs.length := by
  induction rs with
  | nil => exact Nat.le_refl _
  | cons r rs ih =>
    have e : nbOf (r :: rs) p = ((if p = r.a then [r.b] else []) ++ (if p = r.b then [r.a] else [])) ++ nbOf rs p := rfl
    have h1 : (if p = r.a then [r.b] else []).length ≤ 1 := by split <;> simp
    have h2 : (if p = r.b then [r.a] else []).length ≤ 1 := by split <;> simp
    rw [e, List.length_append, List.length_append, List.length_cons]
    omega
theorem nbOf_snoc {rs : List Road} {r : Road} {p : Str} : nbOf (rs ++ [r]) p = (nbOf rs p ++ (if p = r.a then [r.b] else [])) ++ (if p = r.b then [r.a] else []) := by
  unfold nbOf
  rw [List.flatMap_append, List.append_assoc]
  simp
def nbTab (N : Net) : D := .dk (tbl N.places fun p => encSt (nbOf N.roads p))
theorem sp_neighbours {n k : Nat} {N : Net} (hN : NetOk N) : WR (GF fds n (k + 1) ix__neighbours [encNet N]) fun d => d = nbTab N := by
  have hP := hN.pl
  have hR := hN.rl
  have sl : sizeLine = 16777216 := by decide
  refine WR.of (run__neighbours rfl ?_)
  kpf_c
  kpt_turns
  with_reducible refine w_dcMap (fun p : Str => dS p) (fun p => .inr p) (fun p => encSt []) ?_
  kpt_turns
  refine ⟨N.places, by rw [List.map_map]; rfl, fun p hp => ?_, by omega, ?_⟩
  · kpt_turns
    exact ⟨rfl, rfl, rfl⟩
  · rw [tbl_upd hN.pnd]
    kpf_close
    kpt_turns
    refine w_loopX (fun r : Road => .i (encR r)) (fun i ρ => ∃ o2 o3, ρ = [some (encNet N), some (.dk (tbl N.places fun p => encSt (nbOf (N.roads.take i) p))), o2, o3]) ?_
    kpt_turns
    refine ⟨N.roads, by rw [List.map_map]; rfl, ⟨_, _, rfl⟩, ?_, ?_⟩
    · rintro i hi ρ1 ⟨o2, o3, rfl⟩
      obtain ⟨ha, hb, hab⟩ := hN.ends _ (List.getElem_mem hi)
      kpt_turns
      refine w_mt1 (fun z => by cases z) ?_
      kpt_turns
      refine ⟨_, _, _, rfl, rfl, tbl_get ha, rfl, ?_⟩
      kpt_turns
      have l1 : (nbOf (N.roads.take i) N.roads[i].a).length ≤ 2 * (N.roads.take i).length := nbOf_len
      have l2 : (nbOf (N.roads.take i) N.roads[i].b).length ≤ 2 * (N.roads.take i).length := nbOf_len
      rw [List.length_take] at l1 l2
      refine ⟨_, _, _, _, rfl, tbl_get ha, o_appSt (by omega), ?_⟩
      rw [tbl_put hN.pnd]
      kpf_c
      kpt_turns
      refine w_mt1 (fun z => by cases z) ?_
      kpt_turns
      refine ⟨_, _, _, rfl, rfl, tbl_get hb, by rw [if_neg (Ne.symm hab)]; rfl, ?_⟩
      kpt_turns
      refine ⟨_, _, _, _, rfl, tbl_get hb, by rw [if_neg (Ne.symm hab)]; exact o_appSt (by omega), ?_⟩
      rw [tbl_put hN.pnd]
      kpf_c
      kpt_turns
      refine ⟨some (.i (encR N.roads[i])), o3, ?_⟩
      congr 4
      refine tbl_ext fun p hp => ?_
      rw [List.take_add_one, List.getElem?_eq_getElem hi]
      show _ = encSt (nbOf (List.take i N.roads ++ [N.roads[i]]) p)
      rw [nbOf_snoc]
      by_cases e1 : p = N.roads[i].b
      · have e2 : p ≠ N.roads[i].a := fun z => hab (z.symm.trans e1)
        rw [if_pos e1, if_neg e2, if_pos e1, List.append_nil, e1]
      · by_cases e2 : p = N.roads[i].a
        · rw [if_neg e1, if_pos e2, if_pos e2, if_neg e1, List.append_nil, e2]
        · rw [if_neg e1, if_neg e2, if_neg e2, if_neg e1, List.append_nil, List.append_nil]
    · rintro ρ1 ⟨o2, o3, rfl⟩
      rw [List.take_length]
      kpt_turns
      rfl

def strD : D → Str
  | .i (.str s) => s
  | _ => ⟨#[]⟩
theorem names_strs {ds : List D} (h : ds.all isNameD = true) : ds = (ds.map strD).map dS := by
  induction ds with
  | nil => rfl
  | cons d ds ih =>
    simp only [List.all_cons, Bool.and_eq_true] at h
    simp only [List.map_cons]
    rw [← ih h.2]
    have h1 := h.1
    cases d with
    | i x => cases x <;> first | rfl | (unfold isNameD isNameI at h1; exact absurd h1 Bool.false_ne_true)
    | _ => exact absurd h1 (by unfold isNameD; exact Bool.false_ne_true)
theorem names_ok {L : Nat} {ds : List D} (h : ds.all isNameD = true) (hw : ∀ x ∈ ds, WfD L x) : ∀ s ∈ ds.map strD, PyData.strOk s = true := by
  intro s hs
  obtain ⟨d, hd, rfl⟩ := List.mem_map.mp hs
  have h1 := List.all_eq_true.mp h d hd
  have h2 := hw d hd
  cases d with
  | i x =>
    cases x <;> first
      | (simp only [WfD, WfI] at h2; exact h2.1)
      | (unfold isNameD isNameI at h1; exact absurd h1 Bool.false_ne_true)
  | _ => exact absurd h1 (by unfold isNameD; exact Bool.false_ne_true)
def arePlaces (d : D) : Bool := match kidsT d with
  | none => false
  | some ds => decide ((ds.length : Int) ≤ 40) && (ds.all isNameD && ascS (ds.map strD))
theorem sp_are_places {n k L : Nat} {d : D} (hL : L ≤ 1000) (hd : WfD L d) : WR (GF fds n (k + 3) ix__are_places [d]) fun r => r = dB (arePlaces d) := by
  refine WR.of (run__are_places rfl ?_)
  kpf_c
  kpt_turns
  refine w_iff ?_
  kpt_turns
  unfold isTupB
  cases e : kidsT d with
  | none =>
    kpt_turns
    unfold arePlaces
    rw [e]
  | some ds =>
    obtain ⟨hl, hk⟩ := hd.kids e
    have hA : arePlaces d = (decide ((ds.length : Int) ≤ 40) && (ds.all isNameD && ascS (ds.map strD))) := by unfold arePlaces; rw [e]
    rw [hA]
    kpt_turns
    refine ⟨_, o_lenK e, ?_⟩
    kpt_turns
    cases h1 : decide ((40 : Int) < ds.length) with
    | true =>
      kpt_turns
      have : decide ((ds.length : Int) ≤ 40) = false := by have := of_decide_eq_true h1; exact decide_eq_false (by omega)
      rw [this]; rfl
    | false =>
      have : decide ((ds.length : Int) ≤ 40) = true := by have := of_decide_eq_false h1; exact decide_eq_true (by omega)
      rw [this]
      kpt_turns
      with_reducible refine w_lcMap (fun x => x) (fun x => dB (isNameD x)) ?_
      kpt_turns
      refine ⟨_, items_k e, ds, id_map, fun x hx => ?_, sizeOk hl hL, ?_⟩
      · kpt_turns
        refine (sp_is_name (hk x hx)).mono ?_
        rintro _ rfl
        exact ⟨rfl, rfl, rfl⟩
      · kpf_close
        kpt_turns
        refine ⟨_, o_all, ?_⟩
        kpt_turns
        cases h2 : ds.all isNameD with
        | false => kpt_turns; rfl
        | true =>
          kpt_turns
          refine (sp_is_ascending (ss := ds.map strD) hL (by rw [kids_of e, ← names_strs h2]) (names_ok h2 hk) (by simpa using hl)).mono ?_
          rintro _ rfl
          kpt_turns
          rfl
theorem sp_is_room {n k L : Nat} {d : D} (hd : WfD L d) : WR (GF fds n (k + 2) ix__is_room [d]) fun r => r = dB (lawWhole 1 999 d) := by
  refine WR.of (run__is_room rfl ?_)
  kpf_c
  kpt_turns
  refine (sp_is_whole hd).mono ?_
  rintro _ rfl
  kpt_turns
  cases d with
  | i x =>
    cases x with
    | int m =>
      show (true = true → _) ∧ (true = false → _)
      kpt_turns
      have hW : lawWhole 1 999 (.i (.int m)) = (decide (1 ≤ m) && decide (m ≤ 999)) := rfl
      rw [hW]
      refine ⟨fun h => ?_, fun h => ?_⟩
      · have h' : decide ((1 : Int) ≤ m) = true := h
        rw [h']
        kpt_turns
        rfl
      · have h' : decide ((1 : Int) ≤ m) = false := h
        kpt_turns
        rw [h']
        rfl
    | _ =>
      show (false = true → _) ∧ (false = false → _)
      kpt_turns
      rfl
  | lst ds =>
    show (false = true → _) ∧ (false = false → _)
    kpt_turns
    rfl
  | tup ds =>
    show (false = true → _) ∧ (false = false → _)
    kpt_turns
    rfl
  | dk _ => simp [WfD] at hd
  | dt _ => simp [WfD] at hd
def eqI : I → I → Bool
  | .str a, .str b => a == b
  | _, _ => false
def roadB (ps : List Str) (x0 x1 x2 x3 x4 : I) : Bool := (isNameI x0 && !hasI ps x0) && ((hasI ps x1 && (hasI ps x2 && !eqI x1 x2)) && (lawWhole 1 999 (.i x3) && hasI [sBoth, sOne] x4))
def isRoad (ps : List Str) (row : D) : Bool := match kidsT row with
  | some [a, b, c, d, e] => roadB ps (immOf a) (immOf b) (immOf c) (immOf d) (immOf e)
  | _ => false
theorem five {α : Type} {ds : List α} (h : ds.length = 5) : ∃ a b c d e, ds = [a, b, c, d, e] := by
  match ds, h with
  | [a, b, c, d, e], _ => exact ⟨a, b, c, d, e, rfl⟩
theorem isRoad_no {ps : List Str} {row : D} (h : isTupOf 5 row = false) : isRoad ps row = false := by
  unfold isRoad
  split
  · rename_i e
    unfold isTupOf at h
    rw [e] at h
    exact absurd h (by show ¬ (true = false); exact fun z => by cases z)
  · rfl
theorem road_is {L : Nat} {ps : List Str} {row : D} (hd : Ch L 1 row) (h : isTupOf 5 row = true) : ∃ x0 x1 x2 x3 x4 : I, kidsT row = some [.i x0, .i x1, .i x2, .i x3, .i x4] ∧ isRoad ps row = roadB ps x0 x1 x2 x3 x4 ∧ WfI L x0 ∧ WfI L x1 ∧ WfI L x2 ∧ WfI L x3 ∧ WfI L x4 := by
  obtain ⟨ds, e, hl⟩ := tupOf_kids (m := 5) h
  obtain ⟨a, b, c, d, f, rfl⟩ := five hl
  have hk := hd.kids e
  obtain ⟨ea, wa⟩ := (hk a (by simp)).of
  obtain ⟨eb, wb⟩ := (hk b (by simp)).of
  obtain ⟨ec, wc⟩ := (hk c (by simp)).of
  obtain ⟨ed, wd⟩ := (hk d (by simp)).of
  obtain ⟨ef, wf⟩ := (hk f (by simp)).of
  refine ⟨immOf a, immOf b, immOf c, immOf d, immOf f, by rw [e, ← ea, ← eb, ← ec, ← ed, ← ef], ?_, wa, wb, wc, wd, wf⟩
  unfold isRoad
  rw [e]
theorem hasI_str {ps : List Str} {x : I} (h : hasI ps x = true) : ∃ s, x = .str s := by
  cases x with
  | str s => exact ⟨s, rfl⟩
  | _ => exact absurd h Bool.false_ne_true
theorem sp_is_road {n k L : Nat} {ps : List Str} {d0 row : D} (h0 : kids d0 = some (ps.map dS)) (hd : Ch L 1 row) : WR (GF fds n (k + 3) ix__is_road [d0, row]) fun r => r = dB (isRoad ps row) := by
  refine WR.of (run__is_road rfl ?_)
  kpf_c
  kpt_turns
  refine w_iff ?_
  kpt_turns
  refine (sp_is_tuple_of hd.wf).mono ?_
  rintro _ rfl
  kpt_turns
  cases h5 : isTupOf 5 row with
  | false =>
    kpt_turns
    rw [isRoad_no h5]
  | true =>
    kpt_turns
    obtain ⟨x0, x1, x2, x3, x4, e, hr, w0, w1, w2, w3, w4⟩ := road_is (ps := ps) hd h5
    rw [hr]
    refine w_tt e ?_
    kpt_turns
    refine w_iff ?_
    kpt_turns
    refine (sp_is_name (d := .i x0) (L := L) (WfD.i.mpr w0)).mono ?_
    rintro _ rfl
    kpt_turns
    unfold roadB
    show _ ∧ _
    cases h1 : isNameI x0 with
    | false =>
      have h1' : isNameD (.i x0) = false := h1
      rw [h1']
      kpt_turns
      rfl
    | true =>
      have h1' : isNameD (.i x0) = true := h1
      rw [h1']
      kpt_turns
      refine ⟨_, o_inKs h0, ?_⟩
      kpt_turns
      cases h2 : hasI ps x0 with
      | true => kpt_turns; rfl
      | false =>
        kpt_turns
        refine w_iff ?_
        kpt_turns
        refine ⟨_, o_ninKs h0, ?_⟩
        kpt_turns
        cases h3 : hasI ps x1 with
        | false => kpt_turns; rfl
        | true =>
          kpt_turns
          refine ⟨_, o_ninKs h0, ?_⟩
          kpt_turns
          cases h4 : hasI ps x2 with
          | false => kpt_turns; rfl
          | true =>
            obtain ⟨s1, rfl⟩ := hasI_str h3
            obtain ⟨s2, rfl⟩ := hasI_str h4
            kpt_turns
            show (eqI (.str s1) (.str s2) = true → _) ∧ (eqI (.str s1) (.str s2) = false → _)
            cases h6 : eqI (.str s1) (.str s2) with
            | true => kpt_turns; rfl
            | false =>
              kpt_turns
              refine (sp_is_room (d := .i x3) (L := L) (WfD.i.mpr w3)).mono ?_
              rintro _ rfl
              kpt_turns
              cases h7 : lawWhole 1 999 (.i x3) with
              | false => kpt_turns; rfl
              | true =>
                kpt_turns
                refine ⟨_, o_inKs (ps := [sBoth, sOne]) rfl, ?_⟩
                kpt_turns
                rfl
def roadName (row : D) : Str := strD (item 0 row)
def roadsB (ps : List Str) (c : D) : Bool := match kidsT c with
  | none => false
  | some rs => decide ((rs.length : Int) ≤ 120) && (rs.all (isRoad ps) && ascS (rs.map roadName))
def isNet (d : D) : Bool := match kidsT d with
  | some [a, b, c] => isS (PySem.Str.ofString "net") a && (arePlaces b && roadsB ((kidT b).map strD) c)
  | _ => false
theorem three {α : Type} {ds : List α} (h : ds.length = 3) : ∃ a b c, ds = [a, b, c] := by
  match ds, h with
  | [a, b, c], _ => exact ⟨a, b, c, rfl⟩
theorem isNet_no {d : D} (h : isTupOf 3 d = false) : isNet d = false := by
  unfold isNet
  split
  · rename_i e
    unfold isTupOf at h
    rw [e] at h
    exact absurd h (by show ¬ (true = false); exact fun z => by cases z)
  · rfl
theorem road_name {L : Nat} {ps : List Str} {row : D} (hd : Ch L 1 row) (h : isRoad ps row = true) : ∃ ds, kidsT row = some ds ∧ atI ds 0 = some (dS (roadName row)) ∧ PyData.strOk (roadName row) = true := by
  have h5 : isTupOf 5 row = true := by
    cases h5 : isTupOf 5 row with
    | true => rfl
    | false => rw [isRoad_no h5] at h; cases h
  obtain ⟨x0, x1, x2, x3, x4, e, hr, w0, _⟩ := road_is (ps := ps) hd h5
  rw [hr] at h
  unfold roadB at h
  simp only [Bool.and_eq_true] at h
  have h1 := h.1.1
  cases x0 with
  | str s =>
    have en : roadName row = s := by
      unfold roadName item kidT
      rw [e]; rfl
    rw [en]
    simp only [WfI] at w0
    exact ⟨_, e, at_nat (j := 0) rfl, w0.1⟩
  | _ => exact absurd h1 Bool.false_ne_true
theorem sp_is_net {n k L : Nat} {d : D} (hL : L ≤ 1000) (hd : Ch L 3 d) : WR (GF fds n (k + 4) ix_is_net [d]) fun r => r = dB (isNet d) := by
  refine WR.of (run_is_net rfl ?_)
  kpf_c
  kpt_turns
  refine w_iff ?_
  kpt_turns
  refine (sp_is_tuple_of hd.wf).mono ?_
  rintro _ rfl
  kpt_turns
  cases h3 : isTupOf 3 d with
  | false =>
    kpt_turns
    rw [isNet_no h3]
  | true =>
    obtain ⟨ds, e, hl⟩ := tupOf_kids (m := 3) h3
    obtain ⟨a, b, c, rfl⟩ := three hl
    have hk := hd.kids e
    have ha := hk a (by simp)
    have hb := hk b (by simp)
    have hc := hk c (by simp)
    have hN : isNet d = (isS (PySem.Str.ofString "net") a && (arePlaces b && roadsB ((kidT b).map strD) c)) := by unfold isNet; rw [e]
    rw [hN]
    kpt_turns
    refine ⟨_, o_ixK e (at_nat (j := 0) rfl), ?_⟩
    kpt_turns
    refine ⟨_, o_neDS ha.wf, ?_⟩
    kpt_turns
    show (_ → _) ∧ (_ → _)
    cases h1 : isS (PySem.Str.ofString "net") a with
    | false => kpt_turns; rfl
    | true =>
      kpt_turns
      refine w_iff ?_
      kpt_turns
      refine ⟨_, o_ixK e (at_nat (j := 1) rfl), ?_⟩
      kpt_turns
      refine (sp_are_places hL hb.wf).mono ?_
      rintro _ rfl
      kpt_turns
      cases h2 : arePlaces b with
      | false => kpt_turns; rfl
      | true =>
        kpt_turns
        refine w_iff ?_
        kpt_turns
        refine ⟨_, o_ixK e (at_nat (j := 2) rfl), ?_⟩
        have hcw := hc.wf
        kpt_turns
        unfold isTupB
        cases e3 : kidsT c with
        | none =>
          kpt_turns
          have : roadsB ((kidT b).map strD) c = false := by unfold roadsB; rw [e3]
          rw [this]; rfl
        | some rs =>
          have hM : roadsB ((kidT b).map strD) c = (decide ((rs.length : Int) ≤ 120) && (rs.all (isRoad ((kidT b).map strD)) && ascS (rs.map roadName))) := by unfold roadsB; rw [e3]
          rw [hM]
          obtain ⟨hrl, hrw⟩ := hcw.kids e3
          have hrk := hc.kids e3
          kpt_turns
          refine ⟨_, o_ixK e (at_nat (j := 2) rfl), ?_⟩
          kpt_turns
          refine ⟨_, o_lenK e3, ?_⟩
          kpt_turns
          cases h4 : decide ((120 : Int) < rs.length) with
          | true =>
            kpt_turns
            have : decide ((rs.length : Int) ≤ 120) = false := by have := of_decide_eq_true h4; exact decide_eq_false (by omega)
            rw [this]; rfl
          | false =>
            have : decide ((rs.length : Int) ≤ 120) = true := by have := of_decide_eq_false h4; exact decide_eq_true (by omega)
            rw [this]
            have hkb : kids b = some (((kidT b).map strD).map dS) := by
              unfold arePlaces at h2
              unfold kidT
              cases eb : kidsT b with
              | none => rw [eb] at h2; cases h2
              | some bs =>
                rw [eb] at h2
                simp only [Bool.and_eq_true] at h2
                rw [kids_of eb, Option.getD_some, ← names_strs h2.2.1]
            kpt_turns
            refine w_iff ?_
            kpt_turns
            with_reducible refine w_lcMap (fun x => x) (fun row => dB (isRoad ((kidT b).map strD) row)) ?_
            kpt_turns
            refine ⟨_, o_ixK e (at_nat (j := 2) rfl), ?_⟩
            kpt_turns
            refine ⟨_, items_k e3, rs, id_map, fun row hr => ?_, sizeOk hrl hL, ?_⟩
            · kpt_turns
              refine ⟨_, o_ixK e (at_nat (j := 1) rfl), ?_⟩
              kpt_turns
              refine (sp_is_road hkb (hrk row hr)).mono ?_
              rintro _ rfl
              exact ⟨rfl, rfl, rfl⟩
            · kpf_close
              kpt_turns
              refine ⟨_, o_all, ?_⟩
              kpt_turns
              cases h5 : rs.all (isRoad ((kidT b).map strD)) with
              | false => kpt_turns; rfl
              | true =>
                kpt_turns
                with_reducible refine w_lcMap (fun x => x) (fun row => dS (roadName row)) ?_
                kpt_turns
                refine ⟨_, o_ixK e (at_nat (j := 2) rfl), ?_⟩
                kpt_turns
                refine ⟨_, items_k e3, rs, id_map, fun row hr => ?_, sizeOk hrl hL, ?_⟩
                · obtain ⟨es, e4, e5, _⟩ := road_name (hrk row hr) (List.all_eq_true.mp h5 row hr)
                  kpt_turns
                  refine ⟨_, o_ixK e4 e5, ?_⟩
                  exact ⟨rfl, rfl, rfl⟩
                · kpf_close
                  kpt_turns
                  refine (sp_is_ascending (ss := rs.map roadName) hL (by rw [List.map_map]; rfl) ?_ (by simpa using hrl)).mono ?_
                  · intro s hs
                    obtain ⟨row, hr, rfl⟩ := List.mem_map.mp hs
                    exact (road_name (hrk row hr) (List.all_eq_true.mp h5 row hr)).choose_spec.2.2
                  · rintro _ rfl
                    kpt_turns
                    rfl

theorem sp_like_strD {n k L : Nat} {d : D} {s : Str} (hd : WfD L d) : WR (GF fds n (k + 1) ix__law_like [d, dS s]) fun r => r = dB (isS s d) := by
  refine WR.of (run__law_like rfl ?_)
  kpf_c
  have fin : ∀ x : D, isStrB x = false → isS s x = false := fun x h => by
    cases x with
    | i y => cases y <;> first | rfl | exact absurd h (by simp [isStrB])
    | _ => rfl
  cases d with
  | i x =>
    cases x with
    | str t =>
      simp only [WfD, WfI] at hd
      kpt_turns
      refine w_iff ?_
      kpt_turns
      refine w_iff ?_
      kpt_turns
      refine w_iff ?_
      kpt_turns
      refine w_iff ?_
      kpt_turns
      refine w_iff ?_
      kpt_turns
      refine ⟨_, o_join1 (Nat.le_trans (Nat.add_le_add_right hd.2 _) (by decide)) hd.1, ?_⟩
      kpt_turns
      rfl
    | _ =>
      kpt_turns
      refine w_iff ?_
      kpt_turns
      refine w_iff ?_
      kpt_turns
      refine w_iff ?_
      kpt_turns
      refine w_iff ?_
      kpt_turns
      refine w_iff ?_
      kpt_turns
      rfl
  | lst ds =>
    kpt_turns
    refine w_iff ?_
    kpt_turns
    refine w_iff ?_
    kpt_turns
    refine w_iff ?_
    kpt_turns
    refine w_iff ?_
    kpt_turns
    refine w_iff ?_
    kpt_turns
    rfl
  | tup ds =>
    kpt_turns
    refine w_iff ?_
    kpt_turns
    refine w_iff ?_
    kpt_turns
    refine w_iff ?_
    kpt_turns
    refine w_iff ?_
    kpt_turns
    refine w_iff ?_
    kpt_turns
    rfl
  | dk _ => simp [WfD] at hd
  | dt _ => simp [WfD] at hd
theorem sp_law_is_net {n k L : Nat} {d : D} (hL : L ≤ 1000) (hd : Ch L 3 d) : WR (GF fds n (k + 3) ix__law_is_net [d]) fun r => r = dB (isNet d) := by
  have hw := hd.wf
  refine WR.of (run__law_is_net rfl ?_)
  kpf_c
  kpt_turns
  refine w_iff ?_
  kpt_turns
  unfold isTupB
  cases e : kidsT d with
  | none =>
    kpt_turns
    unfold isNet
    rw [e]
  | some ds =>
    kpt_turns
    refine ⟨_, o_lenK e, ?_⟩
    kpt_turns
    have hT : isTupOf 3 d = ((ds.length : Int) == 3) := by unfold isTupOf; rw [e]
    cases h3 : ((ds.length : Int) == 3) with
    | false =>
      kpt_turns
      rw [isNet_no (by rw [hT]; exact h3)]
    | true =>
    have hl : ds.length = 3 := by have := eq_of_beq h3; omega
    obtain ⟨a, b, c, rfl⟩ := three hl
    have hk := hd.kids e
    have ha := hk a (by simp)
    have hb := hk b (by simp)
    have hc := hk c (by simp)
    have hN : isNet d = (isS (PySem.Str.ofString "net") a && (arePlaces b && roadsB ((kidT b).map strD) c)) := by unfold isNet; rw [e]
    rw [hN]
    kpt_turns
    refine ⟨_, o_ixK e (at_nat (j := 0) rfl), ?_⟩
    kpt_turns
    refine (sp_like_strD ha.wf).mono ?_
    rintro _ rfl
    kpt_turns
    cases h1 : isS (PySem.Str.ofString "net") a with
    | false => kpt_turns; rfl
    | true =>
      have hbw := hb.wf
      have hcw := hc.wf
      kpt_turns
      refine ⟨_, o_ixK e (at_nat (j := 1) rfl), ?_⟩
      kpt_turns
      unfold isTupB
      cases eb : kidsT b with
      | none =>
        kpt_turns
        have : arePlaces b = false := by unfold arePlaces; rw [eb]
        rw [this]; rfl
      | some bs =>
        obtain ⟨hbl, hbk⟩ := hbw.kids eb
        kpt_turns
        refine ⟨_, o_ixK e (at_nat (j := 2) rfl), ?_⟩
        kpt_turns
        unfold isTupB
        have hA : arePlaces b = (decide ((bs.length : Int) ≤ 40) && (bs.all isNameD && ascS (bs.map strD))) := by unfold arePlaces; rw [eb]
        cases e3 : kidsT c with
        | none =>
          kpt_turns
          have : roadsB ((kidT b).map strD) c = false := by unfold roadsB; rw [e3]
          rw [this]
          simp
        | some rs =>
          obtain ⟨hrl, hrw⟩ := hcw.kids e3
          have hrk := hc.kids e3
          have hM : roadsB ((kidT b).map strD) c = (decide ((rs.length : Int) ≤ 120) && (rs.all (isRoad ((kidT b).map strD)) && ascS (rs.map roadName))) := by unfold roadsB; rw [e3]
          rw [hM]
          kpt_turns
          refine w_iff ?_
          kpt_turns
          refine ⟨_, o_ixK e (at_nat (j := 1) rfl), ?_⟩
          kpt_turns
          refine ⟨_, o_lenK eb, ?_⟩
          kpt_turns
          rw [hA]
          cases h4 : decide ((40 : Int) < bs.length) with
          | true =>
            kpt_turns
            have : decide ((bs.length : Int) ≤ 40) = false := by have := of_decide_eq_true h4; exact decide_eq_false (by omega)
            rw [this]; rfl
          | false =>
            have : decide ((bs.length : Int) ≤ 40) = true := by have := of_decide_eq_false h4; exact decide_eq_true (by omega)
            rw [this]
            kpt_turns
            refine ⟨_, o_ixK e (at_nat (j := 2) rfl), ?_⟩
            kpt_turns
            refine ⟨_, o_lenK e3, ?_⟩
            kpt_turns
            cases h5 : decide ((120 : Int) < rs.length) with
            | true =>
              kpt_turns
              have : decide ((rs.length : Int) ≤ 120) = false := by have := of_decide_eq_true h5; exact decide_eq_false (by omega)
              rw [this]
              simp
            | false =>
              have : decide ((rs.length : Int) ≤ 120) = true := by have := of_decide_eq_false h5; exact decide_eq_true (by omega)
              rw [this]
              kpt_turns
              with_reducible refine w_lcOne (fun x => x) (fun x => !isNameD x) ?_
              kpt_turns
              refine ⟨_, o_ixK e (at_nat (j := 1) rfl), ?_⟩
              kpt_turns
              refine ⟨_, items_k eb, bs, id_map, fun x hx => ?_, sizeOk hbl hL, ?_⟩
              · kpt_turns
                refine (sp_law_named (hbk x hx)).mono ?_
                rintro _ rfl
                kpt_turns
                exact ⟨rfl, rfl⟩
              · kpf_close
                kpt_turns
                refine ⟨_, o_neNil, ?_⟩
                kpt_turns
                rw [filter0n]
                cases h6 : bs.all isNameD with
                | false => kpt_turns; rfl
                | true =>
                  have hkb : kids b = some (((kidT b).map strD).map dS) := by
                    unfold kidT
                    rw [kids_of eb, eb, Option.getD_some, ← names_strs h6]
                  have hkb2 : (kidT b).map strD = bs.map strD := by unfold kidT; rw [eb]; rfl
                  rw [hkb2] at hkb ⊢
                  generalize hps : bs.map strD = ps at hkb ⊢
                  have hpl : ps.length ≤ L := by rw [← hps, List.length_map]; exact hbl
                  kpt_turns
                  refine ⟨_, o_ixK e (at_nat (j := 1) rfl), ?_⟩
                  kpt_turns
                  refine (sp_law_ascending hL hkb hpl).mono ?_
                  rintro _ rfl
                  kpt_turns
                  cases h7 : ascS ps with
                  | false => kpt_turns; rfl
                  | true =>
                    kpt_turns
                    refine w_loopX (fun x => x) (fun i ρ => ∃ o2 o3, ρ = [some d, some (encSt ((rs.take i).map roadName)), o2, o3] ∧ (rs.take i).all (isRoad ps) = true) ?_
                    kpt_turns
                    refine ⟨_, o_ixK e (at_nat (j := 2) rfl), ?_⟩
                    kpt_turns
                    refine ⟨_, items_k e3, rs, id_map, ⟨_, _, rfl, rfl⟩, ?_, ?_⟩
                    · rintro i hi ρ1 ⟨o2, o3, rfl, hall⟩
                      have hrow := hrk rs[i] (List.getElem_mem hi)
                      have hroww := hrow.wf
                      have bad : isRoad ps rs[i] = false → rs.all (isRoad ps) = false := fun h => by
                        rw [List.all_eq_false]
                        exact ⟨_, List.getElem_mem hi, by rw [h]; exact Bool.false_ne_true⟩
                      kpt_turns
                      refine w_iff ?_
                      kpt_turns
                      unfold isTupB
                      cases er : kidsT rs[i] with
                      | none =>
                        kpt_turns
                        rw [bad (by unfold isRoad; rw [er])]
                        rfl
                      | some es =>
                        kpt_turns
                        refine ⟨_, o_lenK er, ?_⟩
                        kpt_turns
                        have hT5 : isTupOf 5 rs[i] = ((es.length : Int) == 5) := by unfold isTupOf; rw [er]
                        cases h8 : ((es.length : Int) == 5) with
                        | false =>
                          kpt_turns
                          rw [bad (isRoad_no (by rw [hT5]; exact h8))]
                          rfl
                        | true =>
                          obtain ⟨x0, x1, x2, x3, x4, er2, hr, w0, w1, w2, w3, w4⟩ := road_is (ps := ps) hrow (by rw [hT5]; exact h8)
                          have nope : roadB ps x0 x1 x2 x3 x4 = false → rs.all (isRoad ps) = false := fun h => bad (by rw [hr]; exact h)
                          kpt_turns
                          refine ⟨_, o_ixK er2 (at_nat (j := 0) rfl), ?_⟩
                          kpt_turns
                          refine (sp_law_named (d := .i x0) (L := L) (WfD.i.mpr w0)).mono ?_
                          rintro _ rfl
                          kpt_turns
                          show _ ∧ _
                          cases k0 : isNameI x0 with
                          | false =>
                            have k0' : isNameD (.i x0) = false := k0
                            rw [k0']
                            kpt_turns
                            rw [nope (by unfold roadB; rw [k0]; rfl)]
                            rfl
                          | true =>
                            have k0' : isNameD (.i x0) = true := k0
                            rw [k0']
                            kpt_turns
                            refine ⟨_, o_ixK er2 (at_nat (j := 0) rfl), ?_⟩
                            kpt_turns
                            refine ⟨_, o_ixK e (at_nat (j := 1) rfl), ?_⟩
                            kpt_turns
                            refine ⟨_, o_inKs hkb, ?_⟩
                            kpt_turns
                            cases k1 : hasI ps x0 with
                            | true =>
                              kpt_turns
                              rw [nope (by unfold roadB; rw [k0, k1]; rfl)]
                              rfl
                            | false =>
                              kpt_turns
                              refine w_iff ?_
                              kpt_turns
                              refine ⟨_, o_ixK er2 (at_nat (j := 1) rfl), ?_⟩
                              have e0 : roadB ps x0 x1 x2 x3 x4 = ((hasI ps x1 && (hasI ps x2 && !eqI x1 x2)) && (lawWhole 1 999 (.i x3) && hasI [sBoth, sOne] x4)) := by unfold roadB; rw [k0, k1]; rfl
                              cases x1 with
                              | str s1 =>
                                kpt_turns
                                refine ⟨_, o_ixK er2 (at_nat (j := 2) rfl), ?_⟩
                                cases x2 with
                                | str s2 =>
                                  kpt_turns
                                  refine ⟨_, o_ixK er2 (at_nat (j := 1) rfl), ?_⟩
                                  kpt_turns
                                  refine ⟨_, o_ixK e (at_nat (j := 1) rfl), ?_⟩
                                  kpt_turns
                                  refine ⟨_, o_ninKs hkb, ?_⟩
                                  kpt_turns
                                  cases k2 : hasI ps (.str s1) with
                                  | false =>
                                    kpt_turns
                                    rw [nope (by rw [e0, k2]; rfl)]
                                    rfl
                                  | true =>
                                    kpt_turns
                                    refine ⟨_, o_ixK er2 (at_nat (j := 2) rfl), ?_⟩
                                    kpt_turns
                                    refine ⟨_, o_ixK e (at_nat (j := 1) rfl), ?_⟩
                                    kpt_turns
                                    refine ⟨_, o_ninKs hkb, ?_⟩
                                    kpt_turns
                                    cases k3 : hasI ps (.str s2) with
                                    | false =>
                                      kpt_turns
                                      rw [nope (by rw [e0, k2, k3]; rfl)]
                                      rfl
                                    | true =>
                                      kpt_turns
                                      refine ⟨_, o_ixK er2 (at_nat (j := 1) rfl), ?_⟩
                                      kpt_turns
                                      refine ⟨_, o_ixK er2 (at_nat (j := 2) rfl), ?_⟩
                                      kpt_turns
                                      show (eqI (.str s1) (.str s2) = true → _) ∧ (eqI (.str s1) (.str s2) = false → _)
                                      cases k4 : eqI (.str s1) (.str s2) with
                                      | true =>
                                        kpt_turns
                                        rw [nope (by rw [e0, k2, k3, k4]; rfl)]
                                        rfl
                                      | false =>
                                        kpt_turns
                                        refine w_iff ?_
                                        kpt_turns
                                        refine ⟨_, o_ixK er2 (at_nat (j := 3) rfl), ?_⟩
                                        kpt_turns
                                        refine (sp_law_whole (L := L) (WfD.i.mpr w3)).mono ?_
                                        rintro _ rfl
                                        kpt_turns
                                        cases k5 : lawWhole 1 999 (.i x3) with
                                        | false =>
                                          kpt_turns
                                          rw [nope (by rw [e0, k5]; simp)]
                                          rfl
                                        | true =>
                                          kpt_turns
                                          refine ⟨_, o_ixK er2 (at_nat (j := 4) rfl), ?_⟩
                                          cases x4 with
                                          | str s4 =>
                                            kpt_turns
                                            refine ⟨_, o_ixK er2 (at_nat (j := 4) rfl), ?_⟩
                                            kpt_turns
                                            show ((!hasI [sBoth, sOne] (.str s4)) = true → _) ∧ ((!hasI [sBoth, sOne] (.str s4)) = false → _)
                                            cases k6 : hasI [sBoth, sOne] (.str s4) with
                                            | false =>
                                              kpt_turns
                                              rw [nope (by rw [e0, k6]; simp)]
                                              rfl
                                            | true =>
                                              have good : isRoad ps rs[i] = true := by rw [hr, e0, k2, k3, k4, k5, k6]; rfl
                                              obtain ⟨es', e4, e5, _⟩ := road_name hrow good
                                              kpt_turns
                                              refine ⟨_, o_ixK e4 e5, ?_⟩
                                              kpt_turns
                                              refine ⟨_, _, _, rfl, o_appSt (ss := (rs.take i).map roadName) (by rw [List.length_map, List.length_take]; omega), ?_⟩
                                              kpf_c
                                              kpt_turns
                                              refine ⟨some rs[i], o3, ?_, ?_⟩
                                              · rw [List.take_add_one, List.getElem?_eq_getElem hi, List.map_append]
                                                rfl
                                              · rw [List.take_add_one, List.getElem?_eq_getElem hi, List.all_append, hall]
                                                simp [good]
                                          | _ =>
                                            kpt_turns
                                            rw [nope (by rw [e0]; unfold hasI; simp)]
                                            rfl
                                | _ =>
                                  kpt_turns
                                  rw [nope (by rw [e0]; simp [hasI])]
                                  rfl
                              | _ =>
                                kpt_turns
                                rw [nope (by rw [e0]; rfl)]
                                rfl
                    · rintro ρ1 ⟨o2, o3, rfl, hall⟩
                      rw [List.take_length] at hall
                      rw [hall]
                      kpt_turns
                      refine (sp_law_ascending (ss := rs.map roadName) hL (by rw [List.take_length]; rfl) (by simpa using hrl)).mono ?_
                      rintro _ rfl
                      kpt_turns
                      rfl

structure Found (N : Net) (p : Str) (x : Option Str) (F Qs : List Str) : Prop where
  nd : F.Nodup
  ok : ∀ y ∈ F, y ∈ N.places ∧ Conn (endsOf N.roads) p y
  p0 : p ∈ F
  q0 : ∀ y ∈ Qs, y ∈ F
  cl : ∀ y ∈ F, y ∉ Qs → some y ≠ x → ∀ z ∈ nbOf N.roads y, z ∈ F
theorem Found.le {N : Net} {p : Str} {x : Option Str} {F Qs : List Str} (h : Found N p x F Qs) : F.length ≤ N.places.length := nodup_le h.nd fun y hy => (h.ok y hy).1
theorem nb_in {N : Net} (hN : NetOk N) {x z : Str} (h : z ∈ nbOf N.roads x) : z ∈ N.places := by
  rcases nbOf_mem.mp h with h | h
  · obtain ⟨r, hr, e⟩ := List.mem_map.mp h
    cases e
    exact (hN.ends r hr).2.1
  · obtain ⟨r, hr, e⟩ := List.mem_map.mp h
    cases e
    exact (hN.ends r hr).1
theorem nb_conn {N : Net} {p x z : Str} (h0 : Conn (endsOf N.roads) p x) (h : z ∈ nbOf N.roads x) : Conn (endsOf N.roads) p z := by
  rcases nbOf_mem.mp h with h | h
  · exact h0.fwd h
  · exact h0.bwd h
theorem sp_part_of {n k : Nat} {N : Net} {p : Str} (hN : NetOk N) (hp : p ∈ N.places) (hn : 1000 ≤ n) : WR (GF fds n (k + 1) ix__part_of [nbTab N, dS p]) fun d => ∃ l : List Str, d = .i (encC (sortS l)) ∧ l.Nodup ∧ (∀ q ∈ l, q ∈ N.places) ∧ ∀ q, q ∈ l ↔ Conn (endsOf N.roads) p q := by
  have hP := hN.pl
  have hR := hN.rl
  have sl : sizeLine = 16777216 := by decide
  refine WR.of (run__part_of rfl ?_)
  kpf_c
  kpt_turns
  refine w_dsp ?_
  kpt_turns
  refine w_whl (fun m ρ => ∃ F Qs o4, ρ = [some (nbTab N), some (dS p), some (.dk (kset F)), some (encSt Qs), o4] ∧ Found N p none F Qs ∧ 2 * (N.places.length - F.length) + Qs.length ≤ m ∧ m ≤ 80) (m := 2 * N.places.length) (by omega) ⟨[p], [p], _, rfl, ⟨List.nodup_cons.mpr ⟨List.not_mem_nil, List.nodup_nil⟩, fun y hy => by rw [List.mem_singleton.mp hy]; exact ⟨hp, .refl⟩, List.mem_singleton.mpr rfl, fun y hy => hy, fun y hy h => absurd hy h⟩, ?_, by omega⟩ ?_
  · have := List.length_pos_of_mem hp
    show 2 * (N.places.length - 1) + 1 ≤ _
    omega
  · rintro m ρ1 ⟨F, Qs, o4, rfl, hF, hm, hm80⟩
    kpt_turns
    refine ⟨fun h => ?_, fun h => ?_⟩
    · rcases List.eq_nil_or_concat Qs with rfl | ⟨Qs, x, rfl⟩
      · cases h
      · rw [List.concat_eq_append] at *
        rw [List.length_append] at hm
        refine ⟨by simp only [List.length_cons] at hm; omega, ?_⟩
        kpt_turns
        refine w_loopX dS (fun i ρ => ∃ F1 Q1 o4, ρ = [some (nbTab N), some (dS p), some (.dk (kset F1)), some (encSt Q1), o4] ∧ Found N p (some x) F1 Q1 ∧ x ∈ F1 ∧ (∀ z ∈ (nbOf N.roads x).take i, z ∈ F1) ∧ 2 * (N.places.length - F1.length) + Q1.length ≤ m - 1) ?_
        kpt_turns
        refine ⟨_, _, _, rfl, o_popSt, ?_⟩
        kpf_c
        kpt_turns
        have hx := hF.q0 x (List.mem_append_right _ (List.mem_singleton.mpr rfl))
        have hxp := hF.ok x hx
        refine ⟨_, o_ixKey (tbl_get hxp.1), ?_⟩
        kpt_turns
        refine ⟨⟨F, Qs, _, rfl, ⟨hF.nd, hF.ok, hF.p0, fun y hy => hF.q0 y (List.mem_append_left _ hy), fun y hy h1 h2 => hF.cl y hy (fun z => ?_) (fun z => by cases z)⟩, hx, (fun z hz => by cases hz), by simp only [List.length_cons, List.length_nil] at hm; omega⟩, ?_, ?_⟩
        · rcases List.mem_append.mp z with z | z
          · exact h1 z
          · exact h2 (by rw [List.mem_singleton.mp z])
        · rintro i hi ρ2 ⟨F1, Q1, o4, rfl, hF1, hx1, hz1, hm1⟩
          have hzi := List.getElem_mem hi
          generalize hzz : (nbOf N.roads x)[i] = z at hzi ⊢
          have hzt : (nbOf N.roads x).take (i + 1) = (nbOf N.roads x).take i ++ [z] := by
            rw [List.take_add_one, List.getElem?_eq_getElem hi, hzz]
            rfl
          kpt_turns
          refine w_iff ?_
          kpt_turns
          rw [getK_kset]
          by_cases hin : z ∈ F1
          · rw [decide_eq_true hin]
            kpt_turns
            refine ⟨F1, Q1, _, rfl, hF1, hx1, fun y hy => ?_, hm1⟩
            rw [hzt] at hy
            rcases List.mem_append.mp hy with hy | hy
            · exact hz1 y hy
            · rw [List.mem_singleton.mp hy]; exact hin
          · rw [decide_eq_false hin]
            kpt_turns
            have hzp := nb_in hN hzi
            have hl1 : (F1 ++ [z]).length ≤ N.places.length := nodup_le (nodup_snoc hF1.nd hin) fun y hy => by
              rcases List.mem_append.mp hy with hy | hy
              · exact (hF1.ok y hy).1
              · rw [List.mem_singleton.mp hy]; exact hzp
            rw [List.length_append] at hl1
            simp only [List.length_cons, List.length_nil] at hl1
            refine w_subK rfl rfl (by unfold kset; rw [List.length_map]; omega) ?_
            rw [kset_add hin]
            kpf_c
            kpt_turns
            refine ⟨_, _, _, rfl, o_appSt (by omega), ?_⟩
            kpf_c
            kpt_turns
            refine ⟨F1 ++ [z], Q1 ++ [z], _, rfl, ⟨nodup_snoc hF1.nd hin, fun y hy => ?_, List.mem_append_left _ hF1.p0, fun y hy => ?_, fun y hy h1 h2 w hw => ?_⟩, List.mem_append_left _ hx1, fun y hy => ?_, ?_⟩
            · rcases List.mem_append.mp hy with hy | hy
              · exact hF1.ok y hy
              · rw [List.mem_singleton.mp hy]; exact ⟨hzp, nb_conn hxp.2 hzi⟩
            · rcases List.mem_append.mp hy with hy | hy
              · exact List.mem_append_left _ (hF1.q0 y hy)
              · exact List.mem_append_right _ hy
            · rw [List.mem_append, not_or] at h1
              rcases List.mem_append.mp hy with hy | hy
              · exact List.mem_append_left _ (hF1.cl y hy h1.1 h2 w hw)
              · exact absurd hy h1.2
            · rw [hzt] at hy
              rcases List.mem_append.mp hy with hy | hy
              · exact List.mem_append_left _ (hz1 y hy)
              · exact List.mem_append_right _ hy
            · simp only [List.length_append, List.length_cons, List.length_nil]
              omega
        · rintro ρ2 ⟨F1, Q1, o4, rfl, hF1, hx1, hz1, hm1⟩
          rw [List.take_length] at hz1
          kpt_turns
          refine ⟨F1, Q1, _, rfl, ⟨hF1.nd, hF1.ok, hF1.p0, hF1.q0, fun y hy h1 _ w hw => ?_⟩, hm1, by omega⟩
          by_cases e : y = x
          · subst e
            exact hz1 w hw
          · exact hF1.cl y hy h1 (fun z => e (Option.some.inj z)) w hw
    · have hQ : Qs = [] := by
        cases Qs with
        | nil => rfl
        | cons a b => cases h
      subst hQ
      have hFl := hF.le
      kpt_turns
      refine ⟨_, o_sortDk (by omega) (fun y hy => (hN.pok y (hF.ok y hy).1).1), ?_⟩
      kpt_turns
      refine ⟨_, o_tupS, ?_⟩
      kpt_turns
      refine ⟨hF.nd, fun q hq => (hF.ok q hq).1, fun q => ⟨fun h => (hF.ok q h).2, fun h => ?_⟩⟩
      refine h.closed (S := fun q => q ∈ F) hF.p0 fun a b hab => ⟨fun ha => ?_, fun hb => ?_⟩
      · exact hF.cl a ha (fun z => by cases z) (fun z => by cases z) b (nbOf_mem.mpr (.inl hab))
      · exact hF.cl b hb (fun z => by cases z) (fun z => by cases z) a (nbOf_mem.mpr (.inr hab))

theorem o_updK {ks es : List Str} (h : (ks ++ es).Nodup) (hl : ks.length + es.length ≤ 1000) : mtF .upd [.dk (kset es)] (.dk (kset ks)) = some (.dk (kset (ks ++ es)), .i .non) := by
  show (if (kset ks).length + (kset es).length ≤ sizeLine then some (D.dk (updK (kset ks) (kset es)), D.i .non) else none) = _
  unfold kset
  rw [List.length_map, List.length_map, if_pos (Nat.le_trans hl (by decide))]
  have := kset_upd h
  unfold kset at this
  rw [this]
def encCs (cs : List (List Str)) : D := .lst (cs.map fun c => .i (encC c))
theorem o_appC {cs : List (List Str)} {c : List Str} (h : cs.length ≤ 5000) : mtF .app [.i (encC c)] (encCs cs) = some (encCs (cs ++ [c]), .i .non) := by
  show (if (cs.map fun c => D.i (encC c)).length < sizeLine then some (D.lst ((cs.map fun c => D.i (encC c)) ++ [D.i (encC c)]), D.i .non) else none) = _
  rw [if_pos (by rw [List.length_map]; exact Nat.lt_of_le_of_lt h (by decide))]
  unfold encCs
  rw [List.map_append]; rfl
theorem o_tupC {cs : List (List Str)} : opF .tup [encCs cs] = some (.i (.tup (cs.map encC))) := o_tupL
theorem sp_parts {n k : Nat} {N : Net} (hN : NetOk N) (hn : 1000 ≤ n) : WR (GF fds n (k + 2) ix_parts [encNet N]) fun d => d = .i (.tup ((classes (endsOf N.roads) N.places).map encC)) := by
  classical
  have hP := hN.pl
  have hR := hN.rl
  have sl : sizeLine = 16777216 := by decide
  refine WR.of (run_parts rfl ?_)
  kpf_c
  kpt_turns
  refine (sp_neighbours hN).mono ?_
  rintro _ rfl
  kpt_turns
  refine w_dsp ?_
  kpt_turns
  refine w_loopX dS (fun i ρ => ∃ S cs o4 o5 o6, ρ = [some (encNet N), some (nbTab N), some (encCs cs), some (.dk (kset S)), o4, o5, o6] ∧ S.Nodup ∧ (∀ x ∈ S, x ∈ N.places) ∧ (∀ x ∈ S, ∀ y, Conn (endsOf N.roads) x y → y ∈ S) ∧ (∀ x ∈ N.places.take i, x ∈ S) ∧ cs ++ classes (endsOf N.roads) ((N.places.drop i).filter fun x => decide (x ∉ S)) = classes (endsOf N.roads) N.places ∧ cs.length ≤ i) ?_
  kpt_turns
  refine ⟨N.places, by rw [List.map_map]; rfl, ⟨[], [], _, _, _, rfl, List.nodup_nil, fun x hx => (by cases hx), fun x hx => (by cases hx), fun x hx => (by cases hx), ?_, Nat.le_refl _⟩, ?_, ?_⟩
  · rw [List.drop_zero, List.nil_append]
    congr 1
    rw [List.filter_eq_self]
    intro x _
    simp
  · rintro i hi ρ1 ⟨S, cs, o4, o5, o6, rfl, nd, hS, hc, ht, he, hl⟩
    have hSl : S.length ≤ N.places.length := nodup_le nd hS
    have hp := List.getElem_mem hi
    have hd : N.places.drop i = N.places[i] :: N.places.drop (i + 1) := List.drop_eq_getElem_cons hi
    have htk : N.places.take (i + 1) = N.places.take i ++ [N.places[i]] := by
      rw [List.take_add_one, List.getElem?_eq_getElem hi]
      rfl
    generalize hpp : N.places[i] = p at hp hd htk ⊢
    kpt_turns
    refine w_iff ?_
    kpt_turns
    rw [getK_kset]
    by_cases hin : p ∈ S
    · rw [decide_eq_true hin]
      kpt_turns
      refine ⟨S, cs, _, _, _, rfl, nd, hS, hc, fun x hx => ?_, ?_, by omega⟩
      · rw [htk] at hx
        rcases List.mem_append.mp hx with hx | hx
        · exact ht x hx
        · rw [List.mem_singleton.mp hx]; exact hin
      · rw [← he, hd, List.filter_cons, if_neg (by simpa using hin)]
    · rw [decide_eq_false hin]
      kpt_turns
      refine (sp_part_of hN hp hn).mono ?_
      rintro _ ⟨l, rfl, lnd, lin, lco⟩
      kpt_turns
      refine ⟨_, _, _, rfl, o_appC (by omega), ?_⟩
      kpf_c
      kpt_turns
      have hdis : (S ++ sortS l).Nodup := by
        rw [List.nodup_append]
        refine ⟨nd, sortS_nodup lnd, fun a ha b hb e => hin ?_⟩
        subst e
        exact hc a ha p ((lco a).mp (sortS_mem.mp hb)).symm
      have hll : (S ++ sortS l).length ≤ N.places.length := nodup_le hdis fun x hx => by
        rcases List.mem_append.mp hx with hx | hx
        · exact hS x hx
        · exact lin x (sortS_mem.mp hx)
      rw [List.length_append] at hll
      with_reducible refine w_dcMap (fun q : Str => dS q) (fun q => .inr q) (fun q => dB true) ?_
      kpt_turns
      refine ⟨sortS l, by rw [List.map_map]; rfl, fun q hq => ?_, by omega, ?_⟩
      · kpt_turns
        exact ⟨rfl, rfl, rfl⟩
      · have ek : updK [] ((sortS l).map fun q => ((Sum.inr q : Key), dB true)) = kset (sortS l) := tbl_upd (f := fun _ => dB true) (sortS_nodup lnd)
        rw [ek]
        kpf_close
        kpt_turns
        refine ⟨_, _, _, rfl, o_updK hdis (by omega), ?_⟩
        kpf_c
        kpt_turns
        have memN : ∀ x, Conn (endsOf N.roads) p x → x ∈ p :: (N.places.drop (i + 1)).filter fun x => decide (x ∉ S) := fun x hx => by
          have h1 := lin x ((lco x).mpr hx)
          have h2 : x ∉ S := fun z => hin (hc x z p hx.symm)
          rw [← List.take_append_drop i N.places] at h1
          rcases List.mem_append.mp h1 with h1 | h1
          · exact absurd (ht x h1) h2
          · rw [hd] at h1
            rcases List.mem_cons.mp h1 with h1 | h1
            · rw [h1]; exact List.mem_cons_self
            · exact List.mem_cons_of_mem _ (List.mem_filter.mpr ⟨h1, decide_eq_true h2⟩)
        have ndr : (p :: (N.places.drop (i + 1)).filter fun x => decide (x ∉ S)).Nodup := by
          have h1 : (N.places.drop i).Nodup := List.Sublist.nodup (List.drop_sublist _ _) hN.pnd
          rw [hd] at h1
          exact List.Sublist.nodup (List.Sublist.cons_cons _ List.filter_sublist) h1
        refine ⟨S ++ sortS l, cs ++ [sortS l], _, _, _, rfl, hdis, fun x hx => ?_, fun x hx y hy => ?_, fun x hx => ?_, ?_, ?_⟩
        · rcases List.mem_append.mp hx with hx | hx
          · exact hS x hx
          · exact lin x (sortS_mem.mp hx)
        · rcases List.mem_append.mp hx with hx | hx
          · exact List.mem_append_left _ (hc x hx y hy)
          · exact List.mem_append_right _ (sortS_mem.mpr ((lco y).mpr (((lco x).mp (sortS_mem.mp hx)).trans hy)))
        · rw [htk] at hx
          rcases List.mem_append.mp hx with hx | hx
          · exact List.mem_append_left _ (ht x hx)
          · rw [List.mem_singleton.mp hx]
            exact List.mem_append_right _ (sortS_mem.mpr ((lco p).mpr .refl))
        · rw [← he, hd, List.filter_cons, if_pos (decide_eq_true hin), classes_cons, List.append_assoc]
          congr 1
          show sortS l :: _ = _
          congr 1
          · refine sortS_congr lnd (ndr.filter _) fun x => ⟨fun h => ?_, fun h => ?_⟩
            · exact List.mem_filter.mpr ⟨memN x ((lco x).mp h), decide_eq_true ((lco x).mp h)⟩
            · exact (lco x).mpr (of_decide_eq_true (List.mem_filter.mp h).2)
          · rw [List.filter_filter]
            show classes _ _ = classes _ _
            congr 1
            refine List.filter_congr fun x _ => ?_
            rw [Bool.eq_iff_iff, Bool.and_eq_true, decide_eq_true_eq, decide_eq_true_eq, decide_eq_true_eq, List.mem_append, not_or, sortS_mem, lco]
            exact And.comm
        · simp only [List.length_append, List.length_cons, List.length_nil]
          omega
  · rintro ρ1 ⟨S, cs, o4, o5, o6, rfl, nd, hS, hc, ht, he, hl⟩
    rw [List.drop_length, List.filter_nil, classes_nil, List.append_nil] at he
    subst he
    kpt_turns
    exact ⟨_, o_tupC, rfl, _, rfl, rfl⟩
theorem sp_hangs {n k : Nat} {N : Net} (hN : NetOk N) (hn : 1000 ≤ n) : WR (GF fds n (k + 3) ix_hangs [encNet N]) fun d => d = dB (decide (((classes (endsOf N.roads) N.places).length : Int) ≤ 1)) := by
  refine WR.of (run_hangs rfl ?_)
  kpf_c
  kpt_turns
  refine (sp_parts hN hn).mono ?_
  rintro _ rfl
  kpt_turns
  rw [List.length_map]
theorem sp_is_even {n k : Nat} {N : Net} (hN : N.roads.length ≤ 1000) : WR (GF fds n (k + 1) ix_is_even [encNet N]) fun d => d = dB (N.roads.all fun r => r.kind == sBoth) := by
  refine WR.of (run_is_even rfl ?_)
  kpf_c
  kpt_turns
  with_reducible refine w_lcMap (fun r : Road => .i (encR r)) (fun r => dB (r.kind == sBoth)) ?_
  kpt_turns
  refine ⟨N.roads, by rw [List.map_map]; rfl, fun r hr => ?_, sizeOk hN (Nat.le_refl _), ?_⟩
  · kpt_turns
    exact ⟨rfl, rfl⟩
  · kpf_close
    kpt_turns
    refine ⟨_, o_all, ?_⟩
    kpt_turns
    rfl
theorem o_tupRf {rs : List Road} : opF .tup [.lst (rs.map fun r => .i (encR r))] = some (.i (.tup (rs.map encR))) := o_tupL
theorem sp_without_road {n k : Nat} {N : Net} {x : Str} (hN : N.roads.length ≤ 1000) : WR (GF fds n (k + 1) ix_without_road [encNet N, dS x]) fun d => d = encNet ⟨N.places, N.roads.filter fun r => !(r.name == x)⟩ := by
  refine WR.of (run_without_road rfl ?_)
  kpf_c
  kpt_turns
  with_reducible refine w_lcIf (fun r : Road => .i (encR r)) (fun r => !(r.name == x)) (fun r => .i (encR r)) ?_
  kpt_turns
  refine ⟨N.roads, by rw [List.map_map]; rfl, fun r hr => ?_, sizeOk hN (Nat.le_refl _), ?_⟩
  · kpt_turns
    refine ⟨rfl, fun h => ?_, fun h => ?_⟩
    · kpt_turns
      exact ⟨rfl, rfl⟩
    · rfl
  · kpf_close
    kpt_turns
    refine ⟨_, o_tupRf, ?_⟩
    kpt_turns
    rfl
theorem sp_without_place {n k : Nat} {N : Net} {x : Str} (hN : N.roads.length ≤ 1000) (hP : N.places.length ≤ 1000) : WR (GF fds n (k + 1) ix_without_place [encNet N, dS x]) fun d => d = encNet ⟨N.places.filter fun p => !(p == x), N.roads.filter fun r => !(hasS [r.a, r.b] x)⟩ := by
  refine WR.of (run_without_place rfl ?_)
  kpf_c
  kpt_turns
  with_reducible refine w_lcIf (fun p : Str => dS p) (fun p => !(p == x)) (fun p => dS p) ?_
  kpt_turns
  refine ⟨N.places, by rw [List.map_map]; rfl, fun r hr => ?_, sizeOk hP (Nat.le_refl _), ?_⟩
  · kpt_turns
    refine ⟨rfl, fun h => ?_, fun h => ?_⟩
    · kpt_turns
      exact ⟨rfl, rfl⟩
    · rfl
  · kpf_close
    kpt_turns
    with_reducible refine w_lcIf (fun r : Road => .i (encR r)) (fun r => !(hasS [r.a, r.b] x)) (fun r => .i (encR r)) ?_
    kpt_turns
    refine ⟨N.roads, by rw [List.map_map]; rfl, fun r hr => ?_, sizeOk hN (Nat.le_refl _), ?_⟩
    · kpt_turns
      refine ⟨rfl, fun h => ?_, fun h => ?_⟩
      · kpt_turns
        exact ⟨rfl, rfl⟩
      · rfl
    · kpf_close
      kpt_turns
      refine ⟨_, o_tupS, ?_⟩
      kpt_turns
      refine ⟨_, o_tupRf, ?_⟩
      kpt_turns
      rfl
theorem sp_law_ends {n k : Nat} {N : Net} (hN : N.roads.length ≤ 1000) : WR (GF fds n (k + 1) ix__law_ends [encNet N]) fun d => d = .lst ((endsOf N.roads).map fun e => .i (.tup [.str e.1, .str e.2])) := by
  refine WR.of (run__law_ends rfl ?_)
  kpf_c
  kpt_turns
  with_reducible refine w_lcMap (fun r : Road => .i (encR r)) (fun r => .i (.tup [.str r.a, .str r.b])) ?_
  kpt_turns
  refine ⟨N.roads, by rw [List.map_map]; rfl, fun r hr => ?_, sizeOk hN (Nat.le_refl _), ?_⟩
  · kpt_turns
    exact ⟨rfl, rfl⟩
  · kpf_close
    kpt_turns
    unfold endsOf
    rw [List.map_map]
    rfl

def encE (e : Str × Str) : D := .i (.tup [.str e.1, .str e.2])
theorem hasS_mem {ps : List Str} {x : Str} : hasS ps x = decide (x ∈ ps) := by
  unfold hasS
  rw [Bool.eq_iff_iff, List.any_eq_true, decide_eq_true_eq]
  constructor
  · rintro ⟨q, hq, e⟩
    rw [← eq_of_beq e]
    exact hq
  · intro h
    exact ⟨x, h, beq_self_eq_true _⟩
def leftOf (r part : List Str) : List Str := r.filter fun x => decide (x ∉ part)
theorem leftOf_erase {r part : List Str} {y : Str} (nd : r.Nodup) : (leftOf r part).erase y = leftOf r (part ++ [y]) := by
  unfold leftOf
  rw [List.Nodup.erase_eq_filter (nd.filter _), List.filter_filter]
  refine List.filter_congr fun x _ => ?_
  rw [Bool.eq_iff_iff, Bool.and_eq_true, decide_eq_true_eq, decide_eq_true_eq, bne_iff_ne, List.mem_append, not_or, List.mem_singleton]
  exact And.comm
structure PartAt (E : List (Str × Str)) (p : Str) (r part : List Str) (at0 : Nat) : Prop where
  nd : part.Nodup
  ok : ∀ x ∈ part, Conn E p x ∧ x ∈ p :: r
  p0 : p ∈ part
  cl : ∀ x ∈ part.take at0, ∀ y, (x, y) ∈ E ∨ (y, x) ∈ E → y ∈ part
  le : at0 ≤ part.length
theorem PartAt.len {E : List (Str × Str)} {p : Str} {r part : List Str} {at0 : Nat} (h : PartAt E p r part at0) : part.length ≤ r.length + 1 := nodup_le h.nd fun x hx => (h.ok x hx).2
theorem PartAt.snoc {E : List (Str × Str)} {p y : Str} {r part : List Str} {at0 : Nat} (h : PartAt E p r part at0) (hy : y ∈ leftOf r part) (hc : Conn E p y) : PartAt E p r (part ++ [y]) at0 := by
  obtain ⟨h1, h2⟩ := List.mem_filter.mp hy
  have h2 := of_decide_eq_true h2
  refine ⟨nodup_snoc h.nd h2, fun x hx => ?_, List.mem_append_left _ h.p0, fun x hx y' hy' => ?_, Nat.le_trans h.le (by rw [List.length_append]; omega)⟩
  · rcases List.mem_append.mp hx with hx | hx
    · exact h.ok x hx
    · rw [List.mem_singleton.mp hx]
      exact ⟨hc, List.mem_cons_of_mem _ h1⟩
  · rw [List.take_append_of_le_length h.le] at hx
    exact List.mem_append_left _ (h.cl x hx y' hy')
theorem sp_law_parts {n k : Nat} {E : List (Str × Str)} {ps : List Str} (nd : ps.Nodup) (hl : ps.length ≤ 16) (hE : E.length ≤ 1000) (hin : ∀ e ∈ E, e.1 ∈ ps ∧ e.2 ∈ ps) (hn : 1000 ≤ n) : WR (GF fds n (k + 1) ix__law_parts [.i (.tup (ps.map .str)), .lst (E.map encE)]) fun d => d = .lst ((classes E (sortS ps)).map fun c => .i (encC c)) := by
  classical
  have sl : sizeLine = 16777216 := by decide
  refine WR.of (run__law_parts rfl ?_)
  kpf_c
  kpt_turns
  refine ⟨_, o_sortTu (by omega), ?_⟩
  kpt_turns
  refine w_whl (fun m ρ => ∃ L cs o4 o5 o6 o7 o8 o9, ρ = [some (.i (.tup (ps.map .str))), some (.lst (E.map encE)), some (encSt L), some (encCs cs), o4, o5, o6, o7, o8, o9] ∧ L.Nodup ∧ (∀ a b, (a, b) ∈ E → (a ∈ L ↔ b ∈ L)) ∧ cs ++ classes E L = classes E (sortS ps) ∧ L.length ≤ m ∧ cs.length + L.length ≤ ps.length) (m := ps.length) (by omega) ⟨sortS ps, [], _, _, _, _, _, _, rfl, sortS_nodup nd, fun a b hab => ?_, rfl, by rw [sortS_len]; exact Nat.le_refl _, by rw [sortS_len]; simp⟩ ?_
  · have := hin _ hab
    rw [sortS_mem, sortS_mem]
    exact ⟨fun _ => this.2, fun _ => this.1⟩
  · rintro m ρ1 ⟨L, cs, o4, o5, o6, o7, o8, o9, rfl, hnd, hcl, he, hm, hlen⟩
    kpt_turns
    refine ⟨_, o_neNilSt, ?_⟩
    kpt_turns
    cases L with
    | nil =>
      kpt_turns
      rw [classes_nil, List.append_nil] at he
      subst he
      refine ⟨_, o_sortC (by rw [sortS_len]; omega) (sortS_pw ps) (sortS_nodup nd), ?_⟩
      kpt_turns
      rfl
    | cons p r =>
      have hnd0 := hnd
      rw [List.nodup_cons] at hnd
      simp only [List.length_cons] at hm hlen
      kpt_turns
      refine ⟨by omega, ?_⟩
      kpt_turns
      refine ⟨_, _, _, rfl, o_popAtSt, ?_⟩
      kpf_c
      kpt_turns
      refine w_whl (fun m ρ => ∃ part at0 o6 o7 o8 o9, ρ = [some (.i (.tup (ps.map .str))), some (.lst (E.map encE)), some (encSt (leftOf r part)), some (encCs cs), some (encSt part), some (dI (at0 : Nat)), o6, o7, o8, o9] ∧ PartAt E p r part at0 ∧ r.length + 1 - at0 ≤ m) (m := r.length + 1) (by omega) ⟨[p], 0, o6, o7, o8, o9, ?_, ⟨List.nodup_cons.mpr ⟨List.not_mem_nil, List.nodup_nil⟩, fun x hx => by rw [List.mem_singleton.mp hx]; exact ⟨.refl, List.mem_cons_self⟩, List.mem_singleton.mpr rfl, fun x hx => (by cases hx), Nat.zero_le _⟩, by omega⟩ ?_
      · have : leftOf r [p] = r := by
          unfold leftOf
          rw [List.filter_eq_self]
          intro x hx
          exact decide_eq_true fun z => hnd.1 (List.mem_singleton.mp z ▸ hx)
        rw [this]
        rfl
      · rintro m' ρ2 ⟨part, at0, o6, o7, o8, o9, rfl, hP, hm'⟩
        have hpl := hP.len
        have hpe := hP.le
        kpt_turns
        unfold encSt
        kpt_turns
        rw [List.length_map]
        refine ⟨fun h => ?_, fun h => ?_⟩
        · have hat : at0 < part.length := by have := of_decide_eq_true h; omega
          refine ⟨by omega, ?_⟩
          obtain ⟨x0, hx0⟩ : ∃ x0, part[at0]? = some x0 := ⟨_, List.getElem?_eq_getElem hat⟩
          have hx0m : x0 ∈ part := List.mem_of_getElem? hx0
          have hx0c := hP.ok x0 hx0m
          kpt_turns
          refine w_loopX encE (fun i ρ => ∃ part' o6 o7 o8 o9, ρ = [some (.i (.tup (ps.map .str))), some (.lst (E.map encE)), some (encSt (leftOf r part')), some (encCs cs), some (encSt part'), some (dI (at0 : Nat)), o6, o7, o8, o9] ∧ PartAt E p r part' at0 ∧ part'[at0]? = some x0 ∧ ∀ e ∈ E.take i, (e.1 = x0 → e.2 ∈ part') ∧ (e.2 = x0 → e.1 ∈ part')) ?_
          kpt_turns
          refine ⟨⟨part, _, _, _, _, rfl, hP, hx0, fun e he => (by cases he)⟩, ?_, ?_⟩
          · rintro i hi ρ3 ⟨part', o6, o7, o8, o9, rfl, hP', hx', hall⟩
            have hEi := List.getElem_mem hi
            have hEt : E.take (i + 1) = E.take i ++ [E[i]] := by
              rw [List.take_add_one, List.getElem?_eq_getElem hi]
              rfl
            generalize hab : E[i] = ab at hEi hEt ⊢
            obtain ⟨a, b⟩ := ab
            have hadj : ∀ e ∈ [(a, b), (b, a)], e.1 = x0 → Conn E p e.2 ∧ e.2 ∈ p :: r := fun e he h1 => by
              simp only [List.mem_cons, List.not_mem_nil, or_false] at he
              rcases he with rfl | rfl
              · have h1 : a = x0 := h1
                subst h1
                exact ⟨hx0c.1.fwd hEi, (hcl _ _ hEi).mp hx0c.2⟩
              · have h1 : b = x0 := h1
                subst h1
                exact ⟨hx0c.1.bwd hEi, (hcl _ _ hEi).mpr hx0c.2⟩
            kpt_turns
            refine w_loopX encE (fun j ρ => ∃ part' o8 o9, ρ = [some (.i (.tup (ps.map .str))), some (.lst (E.map encE)), some (encSt (leftOf r part')), some (encCs cs), some (encSt part'), some (dI (at0 : Nat)), some (dS a), some (dS b), o8, o9] ∧ PartAt E p r part' at0 ∧ part'[at0]? = some x0 ∧ (∀ e ∈ E.take i, (e.1 = x0 → e.2 ∈ part') ∧ (e.2 = x0 → e.1 ∈ part')) ∧ ∀ e ∈ [(a, b), (b, a)].take j, e.1 = x0 → e.2 ∈ part') ?_
            kpt_turns
            refine ⟨[(a, b), (b, a)], rfl, ⟨part', _, _, rfl, hP', hx', hall, fun e he => (by cases he)⟩, ?_, ?_⟩
            · rintro j hj ρ4 ⟨q, o8, o9, rfl, hQ, hxq, hallq, hj2⟩
              have hej := List.getElem_mem hj
              have hejt : [(a, b), (b, a)].take (j + 1) = [(a, b), (b, a)].take j ++ [[(a, b), (b, a)][j]] := by
                rw [List.take_add_one, List.getElem?_eq_getElem hj]
                rfl
              generalize [(a, b), (b, a)][j] = e at hej hejt ⊢
              obtain ⟨u, v⟩ := e
              have hql := hQ.len
              kpt_turns
              refine w_iff ?_
              kpt_turns
              refine ⟨_, o_ixL (d := dS x0) (at_nat (by rw [List.getElem?_map, hxq]; rfl)), ?_⟩
              kpt_turns
              cases hux : u == x0 with
              | false =>
                kpt_turns
                refine ⟨q, _, _, rfl, hQ, hxq, hallq, fun e he => ?_⟩
                rw [hejt] at he
                rcases List.mem_append.mp he with he | he
                · exact hj2 e he
                · rw [List.mem_singleton.mp he]
                  intro z
                  have z : u = x0 := z
                  rw [z] at hux
                  simp at hux
              | true =>
                have hux := eq_of_beq hux
                obtain ⟨hvc, hvm⟩ := hadj _ hej hux
                have hvc : Conn E p v := hvc
                have hvm : v ∈ p :: r := hvm
                kpt_turns
                refine ⟨_, o_inKs (ps := leftOf r q) rfl, ?_⟩
                have eh : hasI (leftOf r q) (.str v) = decide (v ∈ leftOf r q) := hasS_mem
                rw [eh]
                by_cases hv : v ∈ leftOf r q
                · rw [decide_eq_true hv]
                  kpt_turns
                  refine ⟨_, _, _, rfl, o_remSt hv, ?_⟩
                  rw [leftOf_erase hnd.2]
                  kpf_c
                  kpt_turns
                  refine ⟨_, _, _, rfl, o_appSt (by omega), ?_⟩
                  kpf_c
                  kpt_turns
                  have hql2 : at0 < q.length := (List.getElem?_eq_some_iff.mp hxq).1
                  refine ⟨q ++ [v], _, _, rfl, hQ.snoc hv hvc, by rw [List.getElem?_append_left hql2]; exact hxq, fun e he => ⟨fun z => List.mem_append_left _ ((hallq e he).1 z), fun z => List.mem_append_left _ ((hallq e he).2 z)⟩, fun e he z => ?_⟩
                  rw [hejt] at he
                  rcases List.mem_append.mp he with he | he
                  · exact List.mem_append_left _ (hj2 e he z)
                  · rw [List.mem_singleton.mp he]
                    exact List.mem_append_right _ (List.mem_singleton.mpr rfl)
                · rw [decide_eq_false hv]
                  kpt_turns
                  refine ⟨q, _, _, rfl, hQ, hxq, hallq, fun e he => ?_⟩
                  rw [hejt] at he
                  rcases List.mem_append.mp he with he | he
                  · exact hj2 e he
                  · rw [List.mem_singleton.mp he]
                    intro _
                    show v ∈ q
                    rcases List.mem_cons.mp hvm with h | h
                    · rw [h]; exact hQ.p0
                    · by_cases hvq : v ∈ q
                      · exact hvq
                      · exact absurd (List.mem_filter.mpr ⟨h, decide_eq_true hvq⟩) hv
            · rintro ρ4 ⟨q, o8, o9, rfl, hQ, hxq, hallq, hj2⟩
              kpt_turns
              refine ⟨q, _, _, _, _, rfl, hQ, hxq, fun e he => ?_⟩
              rw [hEt] at he
              rcases List.mem_append.mp he with he | he
              · exact hallq e he
              · rw [List.mem_singleton.mp he]
                exact ⟨fun z => hj2 (a, b) (by simp) z, fun z => hj2 (b, a) (by simp) z⟩
          · rintro ρ3 ⟨part', o6, o7, o8, o9, rfl, hP', hx', hall⟩
            rw [List.take_length] at hall
            have hql2 : at0 < part'.length := (List.getElem?_eq_some_iff.mp hx').1
            kpt_turns
            refine ⟨part', at0 + 1, _, _, _, _, rfl, ⟨hP'.nd, hP'.ok, hP'.p0, fun x hx y hy => ?_, hql2⟩, by omega⟩
            rw [List.take_add_one, hx'] at hx
            rcases List.mem_append.mp hx with hx | hx
            · exact hP'.cl x hx y hy
            · have hx : x = x0 := List.mem_singleton.mp hx
              subst hx
              rcases hy with hy | hy
              · exact (hall _ hy).1 rfl
              · exact (hall _ hy).2 rfl
        · have hat : at0 = part.length := by have := of_decide_eq_false h; omega
          have hco : ∀ x, x ∈ part ↔ Conn E p x := fun x => ⟨fun h => (hP.ok x h).1, fun h => by
            have hcl2 : ∀ x ∈ part, ∀ y, (x, y) ∈ E ∨ (y, x) ∈ E → y ∈ part := fun x hx => hP.cl x (by rw [hat, List.take_length]; exact hx)
            exact h.closed (S := fun q => q ∈ part) hP.p0 fun a b hab => ⟨fun ha => hcl2 a ha b (.inl hab), fun hb => hcl2 b hb a (.inr hab)⟩⟩
          kpt_turns
          refine ⟨_, o_sortSt (by omega), ?_⟩
          kpt_turns
          refine ⟨_, o_tupS, ?_⟩
          kpt_turns
          refine ⟨_, _, _, rfl, o_appC (c := sortS part) (by omega), ?_⟩
          kpf_c
          kpt_turns
          have hlf : (leftOf r part).length ≤ r.length := List.length_filter_le _ _
          refine ⟨leftOf r part, cs ++ [sortS part], _, _, _, _, _, _, rfl, hnd.2.filter _, fun a b hab => ?_, ?_, by omega, ?_⟩
          · have key : ∀ a b, ((a, b) ∈ E ∨ (b, a) ∈ E) → a ∈ leftOf r part → b ∈ leftOf r part := fun a b hab ha => by
              obtain ⟨h1, h2⟩ := List.mem_filter.mp ha
              have h2 := of_decide_eq_true h2
              have hbm : b ∈ p :: r := by
                rcases hab with hab | hab
                · exact (hcl _ _ hab).mp (List.mem_cons_of_mem _ h1)
                · exact (hcl _ _ hab).mpr (List.mem_cons_of_mem _ h1)
              have hbn : b ∉ part := fun z => h2 ((hco a).mpr (by
                rcases hab with hab | hab
                · exact ((hco b).mp z).bwd hab
                · exact ((hco b).mp z).fwd hab))
              rcases List.mem_cons.mp hbm with h | h
              · exact absurd (h ▸ hP.p0) hbn
              · exact List.mem_filter.mpr ⟨h, decide_eq_true hbn⟩
            exact ⟨key a b (.inl hab), key b a (.inr hab)⟩
          · rw [← he, classes_cons, List.append_assoc]
            congr 1
            show sortS part :: classes E (leftOf r part) = _
            congr 1
            · refine sortS_congr hP.nd (hnd0.filter _) fun x => ⟨fun h => ?_, fun h => ?_⟩
              · exact List.mem_filter.mpr ⟨(hP.ok x h).2, decide_eq_true ((hco x).mp h)⟩
              · exact (hco x).mpr (of_decide_eq_true (List.mem_filter.mp h).2)
            · congr 1
              unfold leftOf
              refine List.filter_congr fun x _ => ?_
              rw [Bool.eq_iff_iff, decide_eq_true_eq, decide_eq_true_eq, hco]
          · simp only [List.length_append, List.length_cons, List.length_nil]
            omega

structure RoadsOk (ps : List Str) (i : Nat) (rs : List Road) : Prop where
  nm : rs.map (·.name) = (List.range i).map (pnm sR)
  ends : ∀ r ∈ rs, r.a ∈ ps ∧ r.b ∈ ps ∧ r.a ≠ r.b
  room : ∀ r ∈ rs, 1 ≤ r.room ∧ r.room ≤ 5
  kind : ∀ r ∈ rs, r.kind = sBoth ∨ r.kind = sOne
theorem o_sortS2 {α : Type} {f : α → Str} {xs : List α} (h : xs.length ≤ sizeLine) : ∃ ts : List Str, ts.Perm (xs.map f) ∧ (ts.Pairwise fun a b => leS a b = true) ∧ opF .sorted [.lst (xs.map fun x => dS (f x))] = some (.lst (ts.map dS)) := by
  refine ⟨sortS (xs.map f), sortS_perm _, sortS_pw _, ?_⟩
  have := o_sortSt (ss := xs.map f) (by rw [List.length_map]; exact h)
  rwa [List.map_map] at this
theorem sp_law_net {n k : Nat} {ds : List Int} {a many roads : Nat} {ks : List Str} (hm2 : many ≤ 16) (hr : roads ≤ 60) (hk : ks ≠ []) (hk2 : ∀ x ∈ ks, x = sBoth ∨ x = sOne) (hk3 : ks.length ≤ 10) :
    WM (GF fds n (k + 2) ix__law_net [encB ds a, dI many, dI roads, .lst (ks.map dS)]) fun d b => ∃ N a', d = encNet N ∧ b = encB ds a' ∧ NetOk N ∧ N.places.length = many ∧ N.places.Pairwise fun a b => leS a b = true := by
  have sl : sizeLine = 16777216 := by decide
  refine WM.of (run__law_net rfl ?_)
  kpf_c
  kpt_turns
  with_reducible refine w_lcMap (fun k : Nat => dI k) (fun k => dS (pnm sP k)) ?_
  kpt_turns
  refine ⟨fun j hj => ?_, by rw [List.length_range]; omega, ?_⟩
  · have hj : j < 64 := by have := List.mem_range.mp hj; omega
    have hs := str_small hj
    kpt_turns
    refine ⟨_, o_addS ?_, ?_⟩
    · have := strI_len j hj
      have : (PySem.Str.ofString "p").length = 1 := by decide +kernel
      omega
    · kpt_turns
      exact ⟨rfl, rfl⟩
  · rw [show ((many : Int)).toNat = many from rfl]
    obtain ⟨ps, hp, hpw, es⟩ := o_sortS2 (f := pnm sP) (xs := List.range many) (by rw [List.length_range]; omega)
    kpf_close
    kpt_turns
    refine ⟨_, es, ?_⟩
    have pl : ps.length = many := by rw [hp.length_eq]; simp
    have pnd : ps.Nodup := hp.nodup_iff.mpr (pnames_nodup (by omega))
    have pok : ∀ x ∈ ps, PyData.strOk x = true ∧ x.length ≤ 100 := fun x hx => by
      obtain ⟨j, hj, rfl⟩ := List.mem_map.mp (hp.mem_iff.mp hx)
      exact pnm_ok j (by have := List.mem_range.mp hj; omega)
    kpt_turns
    refine w_loopX (fun k : Nat => dI k) (fun i ρ => ∃ a' rs o6 o7 o8, ρ = [some (encB ds a'), some (dI many), some (dI roads), some (.lst (ks.map dS)), some (.lst (ps.map dS)), some (encRs rs), o6, o7, o8] ∧ RoadsOk ps i rs) ?_
    refine WE.mono (Q := fun ds' ρ' => ∃ (c : Nat) (a' : Nat), (1 < many ∨ c = 0) ∧ c ≤ roads ∧ ds' = (List.range c).map (fun k : Nat => dI k) ∧ ρ' = [some (encB ds a'), some (dI many), some (dI roads), some (.lst (ks.map dS)), some (.lst (ps.map dS)), some (encRs []), none, none, none]) ?_ ?_
    · kpt_turns
      refine ⟨fun h => ?_, fun h => ?_⟩
      · kpt_turns
        refine (sp_draw (by omega)).mono ?_
        rintro _ _ ⟨rfl, r, rfl, h0, h1⟩
        kpf_c
        kpt_turns
        refine ⟨r.toNat, _, .inl ?_, by omega, rfl, rfl⟩
        have := of_decide_eq_true h
        omega
      · kpt_turns
        exact ⟨0, _, .inr rfl, by omega, rfl, rfl⟩
    · rintro _ _ ⟨c, a', hc, hcr, rfl, rfl⟩
      refine ⟨List.range c, rfl, ⟨_, [], _, _, _, rfl, ⟨rfl, by simp, by simp, by simp⟩⟩, ?_, ?_⟩
      · rintro i hi ρ1 ⟨a1, rs, o6, o7, o8, rfl, hrs⟩
        rw [List.length_range] at hi
        have h1m : 1 < many := hc.resolve_right (by omega)
        have hi64 : i < 64 := by omega
        have hs := str_small hi64
        have rl : rs.length = i := by
          have := congrArg List.length hrs.nm
          simpa using this
        rw [List.getElem_range]
        kpt_turns
        refine (sp_draw (by omega)).mono ?_
        rintro _ _ ⟨rfl, r1, rfl, h10, h11⟩
        kpf_c
        kpt_turns
        refine (sp_draw (by omega)).mono ?_
        rintro _ _ ⟨rfl, r2, rfl, h20, h21⟩
        kpf_c
        kpt_turns
        have hA0 : 0 ≤ r1 % (many : Int) := Int.emod_nonneg _ (by omega)
        have hA1 : r1 % (many : Int) < many := Int.emod_lt_of_pos _ (by omega)
        have hD0 : 0 ≤ r2 % ((many : Int) - 1) := Int.emod_nonneg _ (by omega)
        have hD1 : r2 % ((many : Int) - 1) < (many : Int) - 1 := Int.emod_lt_of_pos _ (by omega)
        have hB : 0 ≤ (r1 % (many : Int) + 1 + r2 % ((many : Int) - 1)) % (many : Int) ∧ (r1 % (many : Int) + 1 + r2 % ((many : Int) - 1)) % (many : Int) < many ∧ (r1 % (many : Int) + 1 + r2 % ((many : Int) - 1)) % (many : Int) ≠ r1 % (many : Int) := by
          by_cases hlt : r1 % (many : Int) + 1 + r2 % ((many : Int) - 1) < many
          · rw [Int.emod_eq_of_lt (by omega) hlt]
            omega
          · rw [emod_over (by omega) (by omega)]
            omega
        generalize r1 % (many : Int) = A at *
        generalize r2 % ((many : Int) - 1) = Dv at *
        generalize (A + 1 + Dv) % (many : Int) = B at *
        obtain ⟨hB0, hB1, hBA⟩ := hB
        obtain ⟨x, hx, ex, ox⟩ := ix_of (f := dS) (xs := ps) hA0 (by omega)
        obtain ⟨y, hy, ey, oy⟩ := ix_of (f := dS) (xs := ps) hB0 (by omega)
        have hxy : x ≠ y := fun z => by
          have hi1 : A.toNat < ps.length := by omega
          have e2 : ps[A.toNat]? = ps[B.toNat]? := by rw [ex, ey, z]
          have := (List.getElem?_inj hi1 pnd).mp e2
          omega
        refine ⟨_, o_addS ?_, ?_⟩
        · have := strI_len i hi64
          have : (PySem.Str.ofString "r").length = 1 := by decide +kernel
          omega
        kpt_turns
        refine ⟨_, ox, ?_⟩
        kpt_turns
        refine ⟨_, oy, ?_⟩
        kpt_turns
        refine (sp_draw (by omega)).mono ?_
        rintro _ _ ⟨rfl, r3, rfl, h30, h31⟩
        kpf_c
        kpt_turns
        have hkl : 0 < ks.length := List.length_pos_iff.mpr hk
        refine (sp_draw (by rw [List.length_map]; omega)).mono ?_
        rintro _ _ ⟨rfl, r4, rfl, h40, h41⟩
        rw [List.length_map] at h41
        obtain ⟨kd0, hkd, ekd, okd⟩ := ix_of (f := dS) (xs := ks) h40 h41
        kpf_c
        kpt_turns
        refine ⟨_, okd, ?_⟩
        kpt_turns
        refine ⟨_, _, _, rfl, o_appR (r := ⟨pnm sR i, x, y, 1 + r3, kd0⟩) (by omega), ?_⟩
        kpf_c
        kpt_turns
        refine ⟨_, _, _, _, _, rfl, ⟨?_, ?_, ?_, ?_⟩⟩
        · rw [List.map_append, hrs.nm, List.range_succ, List.map_append]
          rfl
        · intro r hr
          rcases List.mem_append.mp hr with z | z
          · exact hrs.ends r z
          · rw [List.mem_singleton.mp z]
            exact ⟨hx, hy, hxy⟩
        · intro r hr
          rcases List.mem_append.mp hr with z | z
          · exact hrs.room r z
          · rw [List.mem_singleton.mp z]
            exact ⟨by show 1 ≤ 1 + r3; omega, by show 1 + r3 ≤ 5; omega⟩
        · intro r hr
          rcases List.mem_append.mp hr with z | z
          · exact hrs.kind r z
          · rw [List.mem_singleton.mp z]
            exact hk2 _ hkd
      · rintro ρ1 ⟨a1, rs, o6, o7, o8, rfl, hrs⟩
        rw [List.length_range] at hrs
        have rl : rs.length = c := by
          have := congrArg List.length hrs.nm
          simpa using this
        obtain ⟨ts, hts, ets⟩ := o_sortR (rs := rs) (by omega)
        kpt_turns
        refine ⟨_, o_tupS, ?_⟩
        kpt_turns
        refine ⟨_, ets, ?_⟩
        kpt_turns
        refine ⟨_, o_tupR, ?_⟩
        kpt_turns
        refine ⟨_, _, rfl, ⟨ps, ts⟩, _, rfl, rfl, ?_, pl, hpw⟩
        have nms : (rs.map (·.name)).Nodup := by rw [hrs.nm]; exact rnames_nodup (by omega)
        exact { pl := by show ps.length ≤ 40; omega
                rl := by show ts.length ≤ 120; rw [hts.length_eq]; omega
                pnd := pnd
                rnd := ((hts.map _).nodup_iff).mpr nms
                ends := fun r hr => hrs.ends r (hts.mem_iff.mp hr)
                room := fun r hr => hrs.room r (hts.mem_iff.mp hr)
                kind := fun r hr => hrs.kind r (hts.mem_iff.mp hr)
                pok := pok
                rok := fun r hr => by
                  have : r.name ∈ rs.map (·.name) := List.mem_map.mpr ⟨r, hts.mem_iff.mp hr, rfl⟩
                  rw [hrs.nm] at this
                  obtain ⟨j, hj, e⟩ := List.mem_map.mp this
                  rw [← e]
                  exact rnm_ok j (by have := List.mem_range.mp hj; omega) }

theorem sp_law_pick {α : Type} {f : α → I} {n k : Nat} {ns : List Int} {a : Nat} {d : D} {xs : List α} (e : kids d = some (xs.map fun x => .i (f x))) (h0 : xs ≠ []) : WM (GF fds n (k + 2) ix__law_pick [encB ns a, d]) fun r b => ∃ x ∈ xs, r = .i (f x) ∧ ∃ a', b = encB ns a' := by
  refine WM.of (run__law_pick rfl ?_)
  kpf_c
  kpt_turns
  refine (sp_draw (by decide)).mono ?_
  rintro _ _ ⟨rfl, r, rfl, h1, h2⟩
  kpf_c
  kpt_turns
  have hl : 0 < xs.length := List.length_pos_iff.mpr h0
  refine ⟨_, o_lenKs e, ?_⟩
  rw [List.length_map]
  kpt_turns
  have hA0 : 0 ≤ r % (xs.length : Int) := Int.emod_nonneg _ (by omega)
  have hA1 : r % (xs.length : Int) < xs.length := Int.emod_lt_of_pos _ (by omega)
  have hA2 : (r % (xs.length : Int)).toNat < xs.length := by omega
  refine ⟨.i (f xs[(r % (xs.length : Int)).toNat]), o_ixKs e ?_, ?_⟩
  · have := at_lt (xs := xs.map fun x => D.i (f x)) hA0 (by rw [List.length_map]; exact hA1)
    rw [this, List.getElem_map]
  · kpt_turns
    exact ⟨_, _, rfl, _, List.getElem_mem hA2, rfl, _, rfl⟩

def netI (N : Net) : I := .tup [.str (PySem.Str.ofString "net"), .tup (N.places.map .str), .tup (N.roads.map encR)]
structure SubNet (M N : Net) : Prop where
  ps : ∀ p ∈ M.places, p ∈ N.places
  rs : ∀ r ∈ M.roads, r ∈ N.roads
  pl : M.places.length ≤ N.places.length
  rl : M.roads.length ≤ N.roads.length
theorem net_wf {M N : Net} (hN : NetOk N) (hM : SubNet M N) : WfI 120 (netI M) ∧ NoBl (netI M) ∧ depI (netI M) ≤ 3 := by
  have hP := hN.pl
  have hR := hN.rl
  have hpl := hM.pl
  have hrl := hM.rl
  refine ⟨?_, ?_, ?_⟩
  · unfold netI
    simp only [WfI, WfIs, List.length_cons, List.length_nil, and_true, List.length_map]
    refine ⟨by omega, by decide +kernel, ⟨by omega, WfIs.mem.mpr fun x hx => ?_⟩, by omega, WfIs.mem.mpr fun x hx => ?_⟩
    · obtain ⟨p, hp, rfl⟩ := List.mem_map.mp hx
      simp only [WfI]
      exact hN.pok p (hM.ps p hp)
    · obtain ⟨r, hr, rfl⟩ := List.mem_map.mp hx
      have hr := hM.rs r hr
      have he := hN.ends r hr
      simp only [encR, WfI, WfIs, List.length_cons, List.length_nil, and_true, true_and]
      refine ⟨by omega, hN.rok r hr, hN.pok _ he.1, hN.pok _ he.2.1, ?_⟩
      rcases hN.kind r hr with h | h <;> rw [h] <;> decide +kernel
  · unfold netI
    simp only [NoBl, NoBls, true_and, and_true]
    refine ⟨NoBls.mem.mpr fun x hx => ?_, NoBls.mem.mpr fun x hx => ?_⟩
    · obtain ⟨p, hp, rfl⟩ := List.mem_map.mp hx
      simp only [NoBl]
    · obtain ⟨r, hr, rfl⟩ := List.mem_map.mp hx
      simp only [encR, NoBl, NoBls, and_true]
  · unfold netI
    have h1 : ∀ ps : List Str, depIs (ps.map .str) = 0 := by
      intro ps
      induction ps with
      | nil => simp [depIs]
      | cons w ws ih =>
        simp only [List.map_cons, depIs, depI]
        omega
    have h2 : ∀ rs : List Road, depIs (rs.map encR) ≤ 1 := by
      intro rs
      induction rs with
      | nil => simp [depIs]
      | cons w ws ih =>
        simp only [List.map_cons, depIs, encR, depI]
        omega
    have h2' := h2 M.roads
    have h1' := h1 M.places
    simp only [depI, depIs]
    omega
theorem cls_wf {E : List (Str × Str)} {N : Net} (hN : NetOk N) : WfI 40 (.tup ((classes E N.places).map encC)) ∧ depI (.tup ((classes E N.places).map encC)) ≤ 2 := by
  have hP := hN.pl
  have hl := classes_len (E := E) _ N.places (Nat.le_refl _)
  have hm := classes_mem (E := E) _ N.places (Nat.le_refl _)
  constructor
  · simp only [WfI]
    refine ⟨by rw [List.length_map]; omega, WfIs.mem.mpr fun x hx => ?_⟩
    obtain ⟨c, hc, rfl⟩ := List.mem_map.mp hx
    obtain ⟨_, h2, h3⟩ := hm c hc
    unfold encC
    simp only [WfI]
    refine ⟨by rw [List.length_map]; omega, WfIs.mem.mpr fun x hx => ?_⟩
    obtain ⟨p, hp, rfl⟩ := List.mem_map.mp hx
    simp only [WfI]
    exact hN.pok p (h3 p hp)
  · simp only [depI]
    have h1 : ∀ ps : List Str, depIs (ps.map .str) = 0 := by
      intro ps
      induction ps with
      | nil => simp [depIs]
      | cons w ws ih =>
        simp only [List.map_cons, depIs, depI]
        omega
    have h2 : ∀ cs : List (List Str), depIs (cs.map encC) ≤ 1 := by
      intro cs
      induction cs with
      | nil => simp [depIs]
      | cons w ws ih =>
        have := h1 w
        simp only [List.map_cons, depIs, encC, depI]
        omega
    have := h2 (classes E N.places)
    omega
theorem o_neT0 {xs : List I} : opF .ne [.i (.tup xs), mkT []] = some (dB (!xs.isEmpty)) := by
  have h := o_eqT0 (xs := xs)
  have h : (eqD (.i (.tup xs)) (.i (.tup []))).map (fun k => dB k) = _ := h
  show ((eqD (.i (.tup xs)) (.i (.tup []))).map (!·)).map (fun k => dB k) = _
  cases e : eqD (.i (.tup xs)) (.i (.tup [])) with
  | none => rw [e] at h; cases h
  | some b => rw [e] at h; cases h; rfl
theorem sp_law {n k : Nat} {ns : List Int} (hn : 1000 ≤ n) : WR (GF fds n (k + 20) ix_law [intsD ns]) fun d => d = dB true := by
  have sl : sizeLine = 16777216 := by decide
  refine WR.of (run_law rfl ?_)
  kpf_c
  kpt_turns
  refine (sp_digits (n := n) (k := k + 17) (ns := ns)).mono ?_
  rintro _ ⟨ds, rfl⟩
  kpt_turns
  rw [show D.lst [intsD ds, D.i (I.int 0)] = encB ds 0 from rfl]
  refine w_loopX (fun k : Nat => dI k) (fun i ρ => ∃ a o2 o3 o4 o5 o6 o7 o8 o9 o10 o11, ρ = [some (intsD ns), some (encB ds a), o2, o3, o4, o5, o6, o7, o8, o9, o10, o11]) ?_
  kpt_turns
  refine ⟨⟨_, _, _, _, _, _, _, _, _, _, _, rfl⟩, ?_, ?_⟩
  · rintro i hi ρ1 ⟨a, o2, o3, o4, o5, o6, o7, o8, o9, o10, o11, rfl⟩
    rw [List.getElem_range]
    kpt_turns
    refine (sp_draw (by decide)).mono ?_
    rintro _ _ ⟨rfl, r, rfl, h0, h1⟩
    obtain ⟨rn, rfl⟩ := Int.eq_ofNat_of_zero_le h0
    kpf_c
    kpt_turns
    refine (sp_draw (by decide)).mono ?_
    rintro _ _ ⟨rfl, r2, rfl, h20, h21⟩
    kpf_c
    kpt_turns
    obtain ⟨ks, hk, hks⟩ : ∃ ks : List Str, D.lst (cutD [D.i (.str (PySem.Str.ofString "both")), D.i (.str (PySem.Str.ofString "one"))] none (some (1 + r2))) = .lst (ks.map dS) ∧ (ks = [sBoth] ∨ ks = [sBoth, sOne]) := by
      have : r2 = 0 ∨ r2 = 1 := by omega
      rcases this with rfl | rfl
      · exact ⟨[sBoth], rfl, .inl rfl⟩
      · exact ⟨[sBoth, sOne], rfl, .inr rfl⟩
    rw [hk]
    refine (sp_law_net (n := n) (k := k + 17) (ds := ds) (many := rn) (roads := 9) (ks := ks) (by omega) (by omega) (by rcases hks with rfl | rfl <;> simp) (by rcases hks with rfl | rfl <;> simp) (by rcases hks with rfl | rfl <;> simp)).mono ?_
    rintro _ _ ⟨N, a', rfl, rfl, hN, hpl, hpw⟩
    kpf_c
    kpt_turns
    have hrl := hN.rl
    have hpl2 := hN.pl
    have hN1 : N.roads.length ≤ 1000 := by omega
    have hN2 : N.places.length ≤ 1000 := by omega
    obtain ⟨hw1, hw2, hw3⟩ := net_wf hN (M := N) ⟨fun _ h => h, fun _ h => h, Nat.le_refl _, Nat.le_refl _⟩
    refine w_loopX (fun k : Nat => dI k) (fun j ρ => ∃ a o4 o6, ρ = [some (intsD ns), some (encB ds a), some (dI i), some (encNet N), o4, o5, o6, o7, o8, o9, o10, o11]) ?_
    kpt_turns
    refine ⟨⟨_, _, _, rfl⟩, ?_, ?_⟩
    · rintro j hj ρ3 ⟨a2, q4, q6, rfl⟩
      rw [List.getElem_range]
      iterate 2 fail
      refine w_join (fun ρ => ∃ a d, Ch 121 3 d ∧ ρ = [some (intsD ns), some (encB ds a), some (dI i), some (encNet N), some (dI j), o5, some d, o7, o8, o9, o10, o11]) ?_ ?_
      · kpt_turns
        refine ⟨fun h => ?_, fun h => ?_⟩
        · kpt_turns
          refine (sp_law_changed (n := n) (k := k + 13) (L := 120) (ds := ds) (by omega) 3 hw3 hw1 hw2).mono ?_
          rintro d _ ⟨a3, rfl, hc⟩
          kpf_c
          kpt_turns
          exact ⟨_, d, hc, rfl⟩
        · kpt_turns
          exact ⟨_, _, Ch.imm (WfI.mono (by omega) hw1), rfl⟩
      · rintro ρ4 ⟨a3, d, hc, rfl⟩
        kpt_turns
        refine w_iff ?_
        kpt_turns
        refine (sp_is_net (n := n) (k := k + 15) (by omega) hc).mono ?_
        rintro _ rfl
        kpt_turns
        refine (sp_law_is_net (n := n) (k := k + 16) (by omega) hc).mono ?_
        rintro _ rfl
        kpt_turns
        refine sp_like_bool.mono ?_
        rintro _ rfl
        rw [beq_self_eq_true]
        kpt_turns
        exact ⟨_, _, _, rfl⟩
    · rintro ρ3 ⟨a2, q4, q6, rfl⟩
      kpt_turns
      refine (sp_law_ends (n := n) (k := k + 18) hN1).mono ?_
      rintro _ rfl
      kpt_turns
      refine (sp_law_parts (n := n) (k := k + 18) hN.pnd (by omega) (E := endsOf N.roads) (by unfold endsOf; rw [List.length_map]; exact hN1) (fun e he => ?_) hn).mono ?_
      · obtain ⟨r, hr, rfl⟩ := List.mem_map.mp he
        exact ⟨(hN.ends r hr).1, (hN.ends r hr).2.1⟩
      · rintro _ rfl
        rw [sortS_id hpw]
        kpt_turns
        refine w_iff ?_
        kpt_turns
        refine (sp_is_even (n := n) (k := k + 18) hN1).mono ?_
        rintro _ rfl
        kpt_turns
        with_reducible refine w_lcOne (fun r : Road => .i (encR r)) (fun r => r.kind == sOne) ?_
        kpt_turns
        refine ⟨N.roads, by rw [List.map_map]; rfl, fun r hr => ?_, by omega, ?_⟩
        · kpt_turns
          exact ⟨rfl, rfl⟩
        · kpf_close
          kpt_turns
          refine ⟨_, o_eqNil, ?_⟩
          kpt_turns
          rw [filter0, show (N.roads.all fun r => r.kind == sBoth) = N.roads.all fun r => !(r.kind == sOne) from all_congr fun r hr => by
            rcases hN.kind r hr with h | h <;> rw [h] <;> decide +kernel]
          refine sp_like_bool.mono ?_
          rintro _ rfl
          rw [beq_self_eq_true]
          kpt_turns
          refine (sp_parts (n := n) (k := k + 17) hN hn).mono ?_
          rintro _ rfl
          kpt_turns
          refine ⟨_, o_tupC (cs := classes (endsOf N.roads) N.places), ?_⟩
          kpt_turns
          obtain ⟨cw1, cw2⟩ := cls_wf (E := endsOf N.roads) hN
          refine (sp_like_refl (n := n) (k := k + 16) (L := 40) (by omega) 2 cw2 cw1).mono ?_
          rintro _ rfl
          kpt_turns
          refine (sp_hangs (n := n) (k := k + 16) hN hn).mono ?_
          rintro _ rfl
          kpt_turns
          rw [List.length_map, show decide (((classes (endsOf N.roads) N.places).length : Int) ≤ 1) = decide (((classes (endsOf N.roads) N.places).length : Int) < 2) by
            rw [Bool.eq_iff_iff, decide_eq_true_eq, decide_eq_true_eq]; omega]
          refine sp_like_bool.mono ?_
          rintro _ rfl
          rw [beq_self_eq_true]
          kpt_turns
          refine w_join (fun ρ => ∃ a o4 o5 o6 o7 o8 o9 o10 o11, ρ = [some (intsD ns), some (encB ds a), some (dI i), some (encNet N), o4, o5, o6, o7, o8, o9, o10, o11]) ?_ ?_
          · refine w_iff ?_
            kpt_turns
            refine ⟨_, o_neT0, ?_⟩
            generalize (match o10 with
              | some (D.i x) => some (D.i x)
              | x => none : Option D) = p10
            kpt_turns
            rw [List.isEmpty_map]
            cases hr : N.roads.isEmpty with
            | true =>
              kpt_turns
              exact ⟨_, _, _, _, _, _, _, _, _, rfl⟩
            | false =>
              kpt_turns
              refine (sp_law_pick (d := .i (.tup (N.roads.map encR))) (f := encR) (xs := N.roads) (by show some ((N.roads.map encR).map D.i) = _; rw [List.map_map]; rfl) (fun z => by rw [z] at hr; cases hr)).mono ?_
              rintro _ _ ⟨rd, hrd, rfl, a5, rfl⟩
              kpf_c
              kpt_turns
              refine w_iff ?_
              kpt_turns
              refine (sp_without_road (n := n) (k := k + 18) hN1).mono ?_
              rintro _ rfl
              kpt_turns
              with_reducible refine w_lcIf (fun r : Road => .i (encR r)) (fun r => !(r.name == rd.name)) (fun r => .i (encR r)) ?_
              kpt_turns
              refine ⟨N.roads, by rw [List.map_map]; rfl, fun r hr => ?_, by omega, ?_⟩
              · kpt_turns
                refine ⟨rfl, fun h => ?_, fun h => ?_⟩
                · kpt_turns
                  exact ⟨rfl, rfl⟩
                · rfl
              · kpf_close
                kpt_turns
                refine ⟨_, o_tupRf, ?_⟩
                kpt_turns
                obtain ⟨sw1, sw2, sw3⟩ := net_wf hN (M := ⟨N.places, N.roads.filter fun r => !(r.name == rd.name)⟩) ⟨fun _ h => h, fun _ h => (List.mem_filter.mp h).1, Nat.le_refl _, List.length_filter_le _ _⟩
                refine (sp_like_refl (n := n) (k := k + 15) (L := 120) (by omega) 3 sw3 sw1).mono ?_
                rintro _ rfl
                kpt_turns
                exact ⟨_, _, _, _, _, _, _, _, _, rfl⟩
          · rintro ρ4 ⟨a4, p4, p5, p6, p7, p8, p9, p10, p11, rfl⟩
            kpt_turns
            refine w_iff ?_
            kpt_turns
            refine ⟨_, o_neT0, ?_⟩
            kpt_turns
            rw [List.isEmpty_map]
            cases hr : N.places.isEmpty with
            | true =>
              kpt_turns
              exact ⟨_, _, _, _, _, _, _, _, _, _, _, rfl⟩
            | false =>
              kpt_turns
              refine (sp_law_pick (d := .i (.tup (N.places.map I.str))) (f := I.str) (xs := N.places) (by show some ((N.places.map I.str).map D.i) = _; rw [List.map_map]; rfl) (fun z => by rw [z] at hr; cases hr)).mono ?_
              rintro _ _ ⟨pl, hpl, rfl, a5, rfl⟩
              kpf_c
              kpt_turns
              with_reducible refine w_lcIf (fun r : Road => .i (encR r)) (fun r => !(hasS [r.a, r.b] pl)) (fun r => .i (encR r)) ?_
              kpt_turns
              refine ⟨N.roads, by rw [List.map_map]; rfl, fun r hr => ?_, by omega, ?_⟩
              · kpt_turns
                refine ⟨rfl, fun h => ?_, fun h => ?_⟩
                · kpt_turns
                  exact ⟨rfl, rfl⟩
                · rfl
              · kpf_close
                kpt_turns
                refine ⟨_, o_tupRf, ?_⟩
                kpt_turns
                refine w_iff ?_
                kpt_turns
                refine (sp_without_place (n := n) (k := k + 18) hN1 hN2).mono ?_
                rintro _ rfl
                kpt_turns
                with_reducible refine w_lcIf (fun p : Str => dS p) (fun p => !(p == pl)) (fun p => dS p) ?_
                kpt_turns
                refine ⟨N.places, by rw [List.map_map]; rfl, fun r hr => ?_, by omega, ?_⟩
                · kpt_turns
                  refine ⟨rfl, fun h => ?_, fun h => ?_⟩
                  · kpt_turns
                    exact ⟨rfl, rfl⟩
                  · rfl
                · kpf_close
                  kpt_turns
                  refine ⟨_, o_tupS, ?_⟩
                  kpt_turns
                  obtain ⟨sw1, sw2, sw3⟩ := net_wf hN (M := ⟨N.places.filter fun p => !(p == pl), N.roads.filter fun r => !(hasS [r.a, r.b] pl)⟩) ⟨fun _ h => (List.mem_filter.mp h).1, fun _ h => (List.mem_filter.mp h).1, List.length_filter_le _ _, List.length_filter_le _ _⟩
                  refine (sp_like_refl (n := n) (k := k + 15) (L := 120) (by omega) 3 sw3 sw1).mono ?_
                  rintro _ rfl
                  kpt_turns
                  exact ⟨_, _, _, _, _, _, _, _, _, _, _, rfl⟩
  · rintro ρ1 ⟨a, o2, o3, o4, o5, o6, o7, o8, o9, o10, o11, rfl⟩
    kpt_turns
    rfl

theorem pure_law (ns : List Int) (hl : ns.length ≤ 63) (hb : ∀ z ∈ ns, Builtin.Int.intBits z ≤ 1048576) : ∃ n ms, GF fds n 90 ix_law [.lst (ns.map fun i => .i (.int i))] = .ok (.i (.bl true)) ms := by
  obtain ⟨d, ms, e, rfl⟩ := sp_law (n := 1000) (k := 70) (ns := ns) (Nat.le_refl _)
  exact ⟨1000, ms, e⟩

end Mp
namespace Mp
open PySem PySem.Spec PyProof.Rows L2
theorem sc_is_whole : FnScope fd_is_whole.N fd_is_whole.ps (defScope fd_is_whole.st) := ⟨rfl, rfl, rfl, by decide +kernel, rfl, by decide +kernel, by decide +kernel⟩
theorem sc_is_tuple_of : FnScope fd_is_tuple_of.N fd_is_tuple_of.ps (defScope fd_is_tuple_of.st) := ⟨rfl, rfl, rfl, by decide +kernel, rfl, by decide +kernel, by decide +kernel⟩
theorem sc__consists_of : FnScope fd__consists_of.N fd__consists_of.ps (defScope fd__consists_of.st) := ⟨rfl, rfl, rfl, by decide +kernel, rfl, by decide +kernel, by decide +kernel⟩
theorem sc_is_name : FnScope fd_is_name.N fd_is_name.ps (defScope fd_is_name.st) := ⟨rfl, rfl, rfl, by decide +kernel, rfl, by decide +kernel, by decide +kernel⟩
theorem sc__is_ascending : FnScope fd__is_ascending.N fd__is_ascending.ps (defScope fd__is_ascending.st) := ⟨rfl, rfl, rfl, by decide +kernel, rfl, by decide +kernel, by decide +kernel⟩
theorem sc__are_places : FnScope fd__are_places.N fd__are_places.ps (defScope fd__are_places.st) := ⟨rfl, rfl, rfl, by decide +kernel, rfl, by decide +kernel, by decide +kernel⟩
theorem sc__is_room : FnScope fd__is_room.N fd__is_room.ps (defScope fd__is_room.st) := ⟨rfl, rfl, rfl, by decide +kernel, rfl, by decide +kernel, by decide +kernel⟩
theorem sc__is_road : FnScope fd__is_road.N fd__is_road.ps (defScope fd__is_road.st) := ⟨rfl, rfl, rfl, by decide +kernel, rfl, by decide +kernel, by decide +kernel⟩
theorem sc_is_net : FnScope fd_is_net.N fd_is_net.ps (defScope fd_is_net.st) := ⟨rfl, rfl, rfl, by decide +kernel, rfl, by decide +kernel, by decide +kernel⟩
theorem sc_is_even : FnScope fd_is_even.N fd_is_even.ps (defScope fd_is_even.st) := ⟨rfl, rfl, rfl, by decide +kernel, rfl, by decide +kernel, by decide +kernel⟩
theorem sc__neighbours : FnScope fd__neighbours.N fd__neighbours.ps (defScope fd__neighbours.st) := ⟨rfl, rfl, rfl, by decide +kernel, rfl, by decide +kernel, by decide +kernel⟩
theorem sc__part_of : FnScope fd__part_of.N fd__part_of.ps (defScope fd__part_of.st) := ⟨rfl, rfl, rfl, by decide +kernel, rfl, by decide +kernel, by decide +kernel⟩
theorem sc_parts : FnScope fd_parts.N fd_parts.ps (defScope fd_parts.st) := ⟨rfl, rfl, rfl, by decide +kernel, rfl, by decide +kernel, by decide +kernel⟩
theorem sc_hangs : FnScope fd_hangs.N fd_hangs.ps (defScope fd_hangs.st) := ⟨rfl, rfl, rfl, by decide +kernel, rfl, by decide +kernel, by decide +kernel⟩
theorem sc_without_road : FnScope fd_without_road.N fd_without_road.ps (defScope fd_without_road.st) := ⟨rfl, rfl, rfl, by decide +kernel, rfl, by decide +kernel, by decide +kernel⟩
theorem sc_without_place : FnScope fd_without_place.N fd_without_place.ps (defScope fd_without_place.st) := ⟨rfl, rfl, rfl, by decide +kernel, rfl, by decide +kernel, by decide +kernel⟩
theorem sc__law_cell : FnScope fd__law_cell.N fd__law_cell.ps (defScope fd__law_cell.st) := ⟨rfl, rfl, rfl, by decide +kernel, rfl, by decide +kernel, by decide +kernel⟩
theorem sc__law_digits : FnScope fd__law_digits.N fd__law_digits.ps (defScope fd__law_digits.st) := ⟨rfl, rfl, rfl, by decide +kernel, rfl, by decide +kernel, by decide +kernel⟩
theorem sc__law_draw : FnScope fd__law_draw.N fd__law_draw.ps (defScope fd__law_draw.st) := ⟨rfl, rfl, rfl, by decide +kernel, rfl, by decide +kernel, by decide +kernel⟩
theorem sc__law_pick : FnScope fd__law_pick.N fd__law_pick.ps (defScope fd__law_pick.st) := ⟨rfl, rfl, rfl, by decide +kernel, rfl, by decide +kernel, by decide +kernel⟩
theorem sc__law_like : FnScope fd__law_like.N fd__law_like.ps (defScope fd__law_like.st) := ⟨rfl, rfl, rfl, by decide +kernel, rfl, by decide +kernel, by decide +kernel⟩
theorem sc__law_is_name : FnScope fd__law_is_name.N fd__law_is_name.ps (defScope fd__law_is_name.st) := ⟨rfl, rfl, rfl, by decide +kernel, rfl, by decide +kernel, by decide +kernel⟩
theorem sc__law_whole : FnScope fd__law_whole.N fd__law_whole.ps (defScope fd__law_whole.st) := ⟨rfl, rfl, rfl, by decide +kernel, rfl, by decide +kernel, by decide +kernel⟩
theorem sc__law_named : FnScope fd__law_named.N fd__law_named.ps (defScope fd__law_named.st) := ⟨rfl, rfl, rfl, by decide +kernel, rfl, by decide +kernel, by decide +kernel⟩
theorem sc__law_ascending : FnScope fd__law_ascending.N fd__law_ascending.ps (defScope fd__law_ascending.st) := ⟨rfl, rfl, rfl, by decide +kernel, rfl, by decide +kernel, by decide +kernel⟩
theorem sc__law_net : FnScope fd__law_net.N fd__law_net.ps (defScope fd__law_net.st) := ⟨rfl, rfl, rfl, by decide +kernel, rfl, by decide +kernel, by decide +kernel⟩
theorem sc__law_parts : FnScope fd__law_parts.N fd__law_parts.ps (defScope fd__law_parts.st) := ⟨rfl, rfl, rfl, by decide +kernel, rfl, by decide +kernel, by decide +kernel⟩
theorem sc__law_ends : FnScope fd__law_ends.N fd__law_ends.ps (defScope fd__law_ends.st) := ⟨rfl, rfl, rfl, by decide +kernel, rfl, by decide +kernel, by decide +kernel⟩
theorem sc__law_is_net : FnScope fd__law_is_net.N fd__law_is_net.ps (defScope fd__law_is_net.st) := ⟨rfl, rfl, rfl, by decide +kernel, rfl, by decide +kernel, by decide +kernel⟩
theorem sc__law_other : FnScope fd__law_other.N fd__law_other.ps (defScope fd__law_other.st) := ⟨rfl, rfl, rfl, by decide +kernel, rfl, by decide +kernel, by decide +kernel⟩
theorem sc__law_changed : FnScope fd__law_changed.N fd__law_changed.ps (defScope fd__law_changed.st) := ⟨rfl, rfl, rfl, by decide +kernel, rfl, by decide +kernel, by decide +kernel⟩
theorem sc_law : FnScope fd_law.N fd_law.ps (defScope fd_law.st) := ⟨rfl, rfl, rfl, by decide +kernel, rfl, by decide +kernel, by decide +kernel⟩
set_option maxHeartbeats 0 in
theorem mod_mk {K : PySem.W.Frag} {h : Heap} {mg : Str → Option Value} (X : K.In h) (G : h.Ns mainGlobals mg)
{oc0 kV0 dc0 pm0 cd0 ct0 : Value} {od0 an0 : Option Addr} {sl0 : Array (Option Value)} {f0 : Addr}
{oc1 kV1 dc1 pm1 cd1 ct1 : Value} {od1 an1 : Option Addr} {sl1 : Array (Option Value)} {f1 : Addr}
{oc2 kV2 dc2 pm2 cd2 ct2 : Value} {od2 an2 : Option Addr} {sl2 : Array (Option Value)} {f2 : Addr}
{oc3 kV3 dc3 pm3 cd3 ct3 : Value} {od3 an3 : Option Addr} {sl3 : Array (Option Value)} {f3 : Addr}
{oc4 kV4 dc4 pm4 cd4 ct4 : Value} {od4 an4 : Option Addr} {sl4 : Array (Option Value)} {f4 : Addr}
{oc5 kV5 dc5 pm5 cd5 ct5 : Value} {od5 an5 : Option Addr} {sl5 : Array (Option Value)} {f5 : Addr}
{oc6 kV6 dc6 pm6 cd6 ct6 : Value} {od6 an6 : Option Addr} {sl6 : Array (Option Value)} {f6 : Addr}
{oc7 kV7 dc7 pm7 cd7 ct7 : Value} {od7 an7 : Option Addr} {sl7 : Array (Option Value)} {f7 : Addr}
{oc8 kV8 dc8 pm8 cd8 ct8 : Value} {od8 an8 : Option Addr} {sl8 : Array (Option Value)} {f8 : Addr}
{oc9 kV9 dc9 pm9 cd9 ct9 : Value} {od9 an9 : Option Addr} {sl9 : Array (Option Value)} {f9 : Addr}
{oc10 kV10 dc10 pm10 cd10 ct10 : Value} {od10 an10 : Option Addr} {sl10 : Array (Option Value)} {f10 : Addr}
{oc11 kV11 dc11 pm11 cd11 ct11 : Value} {od11 an11 : Option Addr} {sl11 : Array (Option Value)} {f11 : Addr}
{oc12 kV12 dc12 pm12 cd12 ct12 : Value} {od12 an12 : Option Addr} {sl12 : Array (Option Value)} {f12 : Addr}
{oc13 kV13 dc13 pm13 cd13 ct13 : Value} {od13 an13 : Option Addr} {sl13 : Array (Option Value)} {f13 : Addr}
{oc14 kV14 dc14 pm14 cd14 ct14 : Value} {od14 an14 : Option Addr} {sl14 : Array (Option Value)} {f14 : Addr}
{oc15 kV15 dc15 pm15 cd15 ct15 : Value} {od15 an15 : Option Addr} {sl15 : Array (Option Value)} {f15 : Addr}
{oc16 kV16 dc16 pm16 cd16 ct16 : Value} {od16 an16 : Option Addr} {sl16 : Array (Option Value)} {f16 : Addr}
{oc17 kV17 dc17 pm17 cd17 ct17 : Value} {od17 an17 : Option Addr} {sl17 : Array (Option Value)} {f17 : Addr}
{oc18 kV18 dc18 pm18 cd18 ct18 : Value} {od18 an18 : Option Addr} {sl18 : Array (Option Value)} {f18 : Addr}
{oc19 kV19 dc19 pm19 cd19 ct19 : Value} {od19 an19 : Option Addr} {sl19 : Array (Option Value)} {f19 : Addr}
{oc20 kV20 dc20 pm20 cd20 ct20 : Value} {od20 an20 : Option Addr} {sl20 : Array (Option Value)} {f20 : Addr}
{oc21 kV21 dc21 pm21 cd21 ct21 : Value} {od21 an21 : Option Addr} {sl21 : Array (Option Value)} {f21 : Addr}
{oc22 kV22 dc22 pm22 cd22 ct22 : Value} {od22 an22 : Option Addr} {sl22 : Array (Option Value)} {f22 : Addr}
{oc23 kV23 dc23 pm23 cd23 ct23 : Value} {od23 an23 : Option Addr} {sl23 : Array (Option Value)} {f23 : Addr}
{oc24 kV24 dc24 pm24 cd24 ct24 : Value} {od24 an24 : Option Addr} {sl24 : Array (Option Value)} {f24 : Addr}
{oc25 kV25 dc25 pm25 cd25 ct25 : Value} {od25 an25 : Option Addr} {sl25 : Array (Option Value)} {f25 : Addr}
{oc26 kV26 dc26 pm26 cd26 ct26 : Value} {od26 an26 : Option Addr} {sl26 : Array (Option Value)} {f26 : Addr}
{oc27 kV27 dc27 pm27 cd27 ct27 : Value} {od27 an27 : Option Addr} {sl27 : Array (Option Value)} {f27 : Addr}
{oc28 kV28 dc28 pm28 cd28 ct28 : Value} {od28 an28 : Option Addr} {sl28 : Array (Option Value)} {f28 : Addr}
{oc29 kV29 dc29 pm29 cd29 ct29 : Value} {od29 an29 : Option Addr} {sl29 : Array (Option Value)} {f29 : Addr}
{oc30 kV30 dc30 pm30 cd30 ct30 : Value} {od30 an30 : Option Addr} {sl30 : Array (Option Value)} {f30 : Addr}
{oc31 kV31 dc31 pm31 cd31 ct31 : Value} {od31 an31 : Option Addr} {sl31 : Array (Option Value)} {f31 : Addr}
{tg0 : Tok}
{tg1 : Tok}
{tg2 : Tok}
{tg3 : Tok}
{tg4 : Tok}
(a0 : PySem.W.nsIn K mainGlobals (PySem.Str.ofString "is_whole") = some (some (.ref f0)))
(l0 : K.lookup f0 = some ⟨oc0, od0, .func (PySem.W.fnOf (PySem.Str.ofString "is_whole") (PySem.Str.ofString "is_whole") (defArgs (PySem.Challenge.pw_waylands_k02_net_things.main.body.getD 1 (.Pass ⟨0, 0, 0, 0⟩))) (defBody (PySem.Challenge.pw_waylands_k02_net_things.main.body.getD 1 (.Pass ⟨0, 0, 0, 0⟩))) (defScope (PySem.Challenge.pw_waylands_k02_net_things.main.body.getD 1 (.Pass ⟨0, 0, 0, 0⟩))) .none kV0 dc0 pm0 an0 cd0 ct0), sl0⟩)
(c0 : PySem.W.codeIn K cd0 (PySem.Str.ofString "is_whole") = true)
(k0 : PySem.W.keepIn K (.ref f0) = true)
(a1 : PySem.W.nsIn K mainGlobals (PySem.Str.ofString "is_tuple_of") = some (some (.ref f1)))
(l1 : K.lookup f1 = some ⟨oc1, od1, .func (PySem.W.fnOf (PySem.Str.ofString "is_tuple_of") (PySem.Str.ofString "is_tuple_of") (defArgs (PySem.Challenge.pw_waylands_k02_net_things.main.body.getD 2 (.Pass ⟨0, 0, 0, 0⟩))) (defBody (PySem.Challenge.pw_waylands_k02_net_things.main.body.getD 2 (.Pass ⟨0, 0, 0, 0⟩))) (defScope (PySem.Challenge.pw_waylands_k02_net_things.main.body.getD 2 (.Pass ⟨0, 0, 0, 0⟩))) .none kV1 dc1 pm1 an1 cd1 ct1), sl1⟩)
(c1 : PySem.W.codeIn K cd1 (PySem.Str.ofString "is_tuple_of") = true)
(k1 : PySem.W.keepIn K (.ref f1) = true)
(a2 : PySem.W.nsIn K mainGlobals (PySem.Str.ofString "_consists_of") = some (some (.ref f2)))
(l2 : K.lookup f2 = some ⟨oc2, od2, .func (PySem.W.fnOf (PySem.Str.ofString "_consists_of") (PySem.Str.ofString "_consists_of") (defArgs (PySem.Challenge.pw_waylands_k02_net_things.main.body.getD 6 (.Pass ⟨0, 0, 0, 0⟩))) (defBody (PySem.Challenge.pw_waylands_k02_net_things.main.body.getD 6 (.Pass ⟨0, 0, 0, 0⟩))) (defScope (PySem.Challenge.pw_waylands_k02_net_things.main.body.getD 6 (.Pass ⟨0, 0, 0, 0⟩))) .none kV2 dc2 pm2 an2 cd2 ct2), sl2⟩)
(c2 : PySem.W.codeIn K cd2 (PySem.Str.ofString "_consists_of") = true)
(k2 : PySem.W.keepIn K (.ref f2) = true)
(a3 : PySem.W.nsIn K mainGlobals (PySem.Str.ofString "is_name") = some (some (.ref f3)))
(l3 : K.lookup f3 = some ⟨oc3, od3, .func (PySem.W.fnOf (PySem.Str.ofString "is_name") (PySem.Str.ofString "is_name") (defArgs (PySem.Challenge.pw_waylands_k02_net_things.main.body.getD 7 (.Pass ⟨0, 0, 0, 0⟩))) (defBody (PySem.Challenge.pw_waylands_k02_net_things.main.body.getD 7 (.Pass ⟨0, 0, 0, 0⟩))) (defScope (PySem.Challenge.pw_waylands_k02_net_things.main.body.getD 7 (.Pass ⟨0, 0, 0, 0⟩))) .none kV3 dc3 pm3 an3 cd3 ct3), sl3⟩)
(c3 : PySem.W.codeIn K cd3 (PySem.Str.ofString "is_name") = true)
(k3 : PySem.W.keepIn K (.ref f3) = true)
(a4 : PySem.W.nsIn K mainGlobals (PySem.Str.ofString "_is_ascending") = some (some (.ref f4)))
(l4 : K.lookup f4 = some ⟨oc4, od4, .func (PySem.W.fnOf (PySem.Str.ofString "_is_ascending") (PySem.Str.ofString "_is_ascending") (defArgs (PySem.Challenge.pw_waylands_k02_net_things.main.body.getD 12 (.Pass ⟨0, 0, 0, 0⟩))) (defBody (PySem.Challenge.pw_waylands_k02_net_things.main.body.getD 12 (.Pass ⟨0, 0, 0, 0⟩))) (defScope (PySem.Challenge.pw_waylands_k02_net_things.main.body.getD 12 (.Pass ⟨0, 0, 0, 0⟩))) .none kV4 dc4 pm4 an4 cd4 ct4), sl4⟩)
(c4 : PySem.W.codeIn K cd4 (PySem.Str.ofString "_is_ascending") = true)
(k4 : PySem.W.keepIn K (.ref f4) = true)
(a5 : PySem.W.nsIn K mainGlobals (PySem.Str.ofString "_are_places") = some (some (.ref f5)))
(l5 : K.lookup f5 = some ⟨oc5, od5, .func (PySem.W.fnOf (PySem.Str.ofString "_are_places") (PySem.Str.ofString "_are_places") (defArgs (PySem.Challenge.pw_waylands_k02_net_things.main.body.getD 13 (.Pass ⟨0, 0, 0, 0⟩))) (defBody (PySem.Challenge.pw_waylands_k02_net_things.main.body.getD 13 (.Pass ⟨0, 0, 0, 0⟩))) (defScope (PySem.Challenge.pw_waylands_k02_net_things.main.body.getD 13 (.Pass ⟨0, 0, 0, 0⟩))) .none kV5 dc5 pm5 an5 cd5 ct5), sl5⟩)
(c5 : PySem.W.codeIn K cd5 (PySem.Str.ofString "_are_places") = true)
(k5 : PySem.W.keepIn K (.ref f5) = true)
(a6 : PySem.W.nsIn K mainGlobals (PySem.Str.ofString "_is_room") = some (some (.ref f6)))
(l6 : K.lookup f6 = some ⟨oc6, od6, .func (PySem.W.fnOf (PySem.Str.ofString "_is_room") (PySem.Str.ofString "_is_room") (defArgs (PySem.Challenge.pw_waylands_k02_net_things.main.body.getD 14 (.Pass ⟨0, 0, 0, 0⟩))) (defBody (PySem.Challenge.pw_waylands_k02_net_things.main.body.getD 14 (.Pass ⟨0, 0, 0, 0⟩))) (defScope (PySem.Challenge.pw_waylands_k02_net_things.main.body.getD 14 (.Pass ⟨0, 0, 0, 0⟩))) .none kV6 dc6 pm6 an6 cd6 ct6), sl6⟩)
(c6 : PySem.W.codeIn K cd6 (PySem.Str.ofString "_is_room") = true)
(k6 : PySem.W.keepIn K (.ref f6) = true)
(a7 : PySem.W.nsIn K mainGlobals (PySem.Str.ofString "_is_road") = some (some (.ref f7)))
(l7 : K.lookup f7 = some ⟨oc7, od7, .func (PySem.W.fnOf (PySem.Str.ofString "_is_road") (PySem.Str.ofString "_is_road") (defArgs (PySem.Challenge.pw_waylands_k02_net_things.main.body.getD 15 (.Pass ⟨0, 0, 0, 0⟩))) (defBody (PySem.Challenge.pw_waylands_k02_net_things.main.body.getD 15 (.Pass ⟨0, 0, 0, 0⟩))) (defScope (PySem.Challenge.pw_waylands_k02_net_things.main.body.getD 15 (.Pass ⟨0, 0, 0, 0⟩))) .none kV7 dc7 pm7 an7 cd7 ct7), sl7⟩)
(c7 : PySem.W.codeIn K cd7 (PySem.Str.ofString "_is_road") = true)
(k7 : PySem.W.keepIn K (.ref f7) = true)
(a8 : PySem.W.nsIn K mainGlobals (PySem.Str.ofString "is_net") = some (some (.ref f8)))
(l8 : K.lookup f8 = some ⟨oc8, od8, .func (PySem.W.fnOf (PySem.Str.ofString "is_net") (PySem.Str.ofString "is_net") (defArgs (PySem.Challenge.pw_waylands_k02_net_things.main.body.getD 16 (.Pass ⟨0, 0, 0, 0⟩))) (defBody (PySem.Challenge.pw_waylands_k02_net_things.main.body.getD 16 (.Pass ⟨0, 0, 0, 0⟩))) (defScope (PySem.Challenge.pw_waylands_k02_net_things.main.body.getD 16 (.Pass ⟨0, 0, 0, 0⟩))) .none kV8 dc8 pm8 an8 cd8 ct8), sl8⟩)
(c8 : PySem.W.codeIn K cd8 (PySem.Str.ofString "is_net") = true)
(k8 : PySem.W.keepIn K (.ref f8) = true)
(a9 : PySem.W.nsIn K mainGlobals (PySem.Str.ofString "is_even") = some (some (.ref f9)))
(l9 : K.lookup f9 = some ⟨oc9, od9, .func (PySem.W.fnOf (PySem.Str.ofString "is_even") (PySem.Str.ofString "is_even") (defArgs (PySem.Challenge.pw_waylands_k02_net_things.main.body.getD 17 (.Pass ⟨0, 0, 0, 0⟩))) (defBody (PySem.Challenge.pw_waylands_k02_net_things.main.body.getD 17 (.Pass ⟨0, 0, 0, 0⟩))) (defScope (PySem.Challenge.pw_waylands_k02_net_things.main.body.getD 17 (.Pass ⟨0, 0, 0, 0⟩))) .none kV9 dc9 pm9 an9 cd9 ct9), sl9⟩)
(c9 : PySem.W.codeIn K cd9 (PySem.Str.ofString "is_even") = true)
(k9 : PySem.W.keepIn K (.ref f9) = true)
(a10 : PySem.W.nsIn K mainGlobals (PySem.Str.ofString "_neighbours") = some (some (.ref f10)))
(l10 : K.lookup f10 = some ⟨oc10, od10, .func (PySem.W.fnOf (PySem.Str.ofString "_neighbours") (PySem.Str.ofString "_neighbours") (defArgs (PySem.Challenge.pw_waylands_k02_net_things.main.body.getD 18 (.Pass ⟨0, 0, 0, 0⟩))) (defBody (PySem.Challenge.pw_waylands_k02_net_things.main.body.getD 18 (.Pass ⟨0, 0, 0, 0⟩))) (defScope (PySem.Challenge.pw_waylands_k02_net_things.main.body.getD 18 (.Pass ⟨0, 0, 0, 0⟩))) .none kV10 dc10 pm10 an10 cd10 ct10), sl10⟩)
(c10 : PySem.W.codeIn K cd10 (PySem.Str.ofString "_neighbours") = true)
(k10 : PySem.W.keepIn K (.ref f10) = true)
(a11 : PySem.W.nsIn K mainGlobals (PySem.Str.ofString "_part_of") = some (some (.ref f11)))
(l11 : K.lookup f11 = some ⟨oc11, od11, .func (PySem.W.fnOf (PySem.Str.ofString "_part_of") (PySem.Str.ofString "_part_of") (defArgs (PySem.Challenge.pw_waylands_k02_net_things.main.body.getD 19 (.Pass ⟨0, 0, 0, 0⟩))) (defBody (PySem.Challenge.pw_waylands_k02_net_things.main.body.getD 19 (.Pass ⟨0, 0, 0, 0⟩))) (defScope (PySem.Challenge.pw_waylands_k02_net_things.main.body.getD 19 (.Pass ⟨0, 0, 0, 0⟩))) .none kV11 dc11 pm11 an11 cd11 ct11), sl11⟩)
(c11 : PySem.W.codeIn K cd11 (PySem.Str.ofString "_part_of") = true)
(k11 : PySem.W.keepIn K (.ref f11) = true)
(a12 : PySem.W.nsIn K mainGlobals (PySem.Str.ofString "parts") = some (some (.ref f12)))
(l12 : K.lookup f12 = some ⟨oc12, od12, .func (PySem.W.fnOf (PySem.Str.ofString "parts") (PySem.Str.ofString "parts") (defArgs (PySem.Challenge.pw_waylands_k02_net_things.main.body.getD 20 (.Pass ⟨0, 0, 0, 0⟩))) (defBody (PySem.Challenge.pw_waylands_k02_net_things.main.body.getD 20 (.Pass ⟨0, 0, 0, 0⟩))) (defScope (PySem.Challenge.pw_waylands_k02_net_things.main.body.getD 20 (.Pass ⟨0, 0, 0, 0⟩))) .none kV12 dc12 pm12 an12 cd12 ct12), sl12⟩)
(c12 : PySem.W.codeIn K cd12 (PySem.Str.ofString "parts") = true)
(k12 : PySem.W.keepIn K (.ref f12) = true)
(a13 : PySem.W.nsIn K mainGlobals (PySem.Str.ofString "hangs") = some (some (.ref f13)))
(l13 : K.lookup f13 = some ⟨oc13, od13, .func (PySem.W.fnOf (PySem.Str.ofString "hangs") (PySem.Str.ofString "hangs") (defArgs (PySem.Challenge.pw_waylands_k02_net_things.main.body.getD 21 (.Pass ⟨0, 0, 0, 0⟩))) (defBody (PySem.Challenge.pw_waylands_k02_net_things.main.body.getD 21 (.Pass ⟨0, 0, 0, 0⟩))) (defScope (PySem.Challenge.pw_waylands_k02_net_things.main.body.getD 21 (.Pass ⟨0, 0, 0, 0⟩))) .none kV13 dc13 pm13 an13 cd13 ct13), sl13⟩)
(c13 : PySem.W.codeIn K cd13 (PySem.Str.ofString "hangs") = true)
(k13 : PySem.W.keepIn K (.ref f13) = true)
(a14 : PySem.W.nsIn K mainGlobals (PySem.Str.ofString "without_road") = some (some (.ref f14)))
(l14 : K.lookup f14 = some ⟨oc14, od14, .func (PySem.W.fnOf (PySem.Str.ofString "without_road") (PySem.Str.ofString "without_road") (defArgs (PySem.Challenge.pw_waylands_k02_net_things.main.body.getD 22 (.Pass ⟨0, 0, 0, 0⟩))) (defBody (PySem.Challenge.pw_waylands_k02_net_things.main.body.getD 22 (.Pass ⟨0, 0, 0, 0⟩))) (defScope (PySem.Challenge.pw_waylands_k02_net_things.main.body.getD 22 (.Pass ⟨0, 0, 0, 0⟩))) .none kV14 dc14 pm14 an14 cd14 ct14), sl14⟩)
(c14 : PySem.W.codeIn K cd14 (PySem.Str.ofString "without_road") = true)
(k14 : PySem.W.keepIn K (.ref f14) = true)
(a15 : PySem.W.nsIn K mainGlobals (PySem.Str.ofString "without_place") = some (some (.ref f15)))
(l15 : K.lookup f15 = some ⟨oc15, od15, .func (PySem.W.fnOf (PySem.Str.ofString "without_place") (PySem.Str.ofString "without_place") (defArgs (PySem.Challenge.pw_waylands_k02_net_things.main.body.getD 23 (.Pass ⟨0, 0, 0, 0⟩))) (defBody (PySem.Challenge.pw_waylands_k02_net_things.main.body.getD 23 (.Pass ⟨0, 0, 0, 0⟩))) (defScope (PySem.Challenge.pw_waylands_k02_net_things.main.body.getD 23 (.Pass ⟨0, 0, 0, 0⟩))) .none kV15 dc15 pm15 an15 cd15 ct15), sl15⟩)
(c15 : PySem.W.codeIn K cd15 (PySem.Str.ofString "without_place") = true)
(k15 : PySem.W.keepIn K (.ref f15) = true)
(a16 : PySem.W.nsIn K mainGlobals (PySem.Str.ofString "_law_cell") = some (some (.ref f16)))
(l16 : K.lookup f16 = some ⟨oc16, od16, .func (PySem.W.fnOf (PySem.Str.ofString "_law_cell") (PySem.Str.ofString "_law_cell") (defArgs (PySem.Challenge.pw_waylands_k02_net_things.main.body.getD 25 (.Pass ⟨0, 0, 0, 0⟩))) (defBody (PySem.Challenge.pw_waylands_k02_net_things.main.body.getD 25 (.Pass ⟨0, 0, 0, 0⟩))) (defScope (PySem.Challenge.pw_waylands_k02_net_things.main.body.getD 25 (.Pass ⟨0, 0, 0, 0⟩))) .none kV16 dc16 pm16 an16 cd16 ct16), sl16⟩)
(c16 : PySem.W.codeIn K cd16 (PySem.Str.ofString "_law_cell") = true)
(k16 : PySem.W.keepIn K (.ref f16) = true)
(a17 : PySem.W.nsIn K mainGlobals (PySem.Str.ofString "_law_digits") = some (some (.ref f17)))
(l17 : K.lookup f17 = some ⟨oc17, od17, .func (PySem.W.fnOf (PySem.Str.ofString "_law_digits") (PySem.Str.ofString "_law_digits") (defArgs (PySem.Challenge.pw_waylands_k02_net_things.main.body.getD 26 (.Pass ⟨0, 0, 0, 0⟩))) (defBody (PySem.Challenge.pw_waylands_k02_net_things.main.body.getD 26 (.Pass ⟨0, 0, 0, 0⟩))) (defScope (PySem.Challenge.pw_waylands_k02_net_things.main.body.getD 26 (.Pass ⟨0, 0, 0, 0⟩))) .none kV17 dc17 pm17 an17 cd17 ct17), sl17⟩)
(c17 : PySem.W.codeIn K cd17 (PySem.Str.ofString "_law_digits") = true)
(k17 : PySem.W.keepIn K (.ref f17) = true)
(a18 : PySem.W.nsIn K mainGlobals (PySem.Str.ofString "_law_draw") = some (some (.ref f18)))
(l18 : K.lookup f18 = some ⟨oc18, od18, .func (PySem.W.fnOf (PySem.Str.ofString "_law_draw") (PySem.Str.ofString "_law_draw") (defArgs (PySem.Challenge.pw_waylands_k02_net_things.main.body.getD 27 (.Pass ⟨0, 0, 0, 0⟩))) (defBody (PySem.Challenge.pw_waylands_k02_net_things.main.body.getD 27 (.Pass ⟨0, 0, 0, 0⟩))) (defScope (PySem.Challenge.pw_waylands_k02_net_things.main.body.getD 27 (.Pass ⟨0, 0, 0, 0⟩))) .none kV18 dc18 pm18 an18 cd18 ct18), sl18⟩)
(c18 : PySem.W.codeIn K cd18 (PySem.Str.ofString "_law_draw") = true)
(k18 : PySem.W.keepIn K (.ref f18) = true)
(a19 : PySem.W.nsIn K mainGlobals (PySem.Str.ofString "_law_pick") = some (some (.ref f19)))
(l19 : K.lookup f19 = some ⟨oc19, od19, .func (PySem.W.fnOf (PySem.Str.ofString "_law_pick") (PySem.Str.ofString "_law_pick") (defArgs (PySem.Challenge.pw_waylands_k02_net_things.main.body.getD 28 (.Pass ⟨0, 0, 0, 0⟩))) (defBody (PySem.Challenge.pw_waylands_k02_net_things.main.body.getD 28 (.Pass ⟨0, 0, 0, 0⟩))) (defScope (PySem.Challenge.pw_waylands_k02_net_things.main.body.getD 28 (.Pass ⟨0, 0, 0, 0⟩))) .none kV19 dc19 pm19 an19 cd19 ct19), sl19⟩)
(c19 : PySem.W.codeIn K cd19 (PySem.Str.ofString "_law_pick") = true)
(k19 : PySem.W.keepIn K (.ref f19) = true)
(a20 : PySem.W.nsIn K mainGlobals (PySem.Str.ofString "_law_like") = some (some (.ref f20)))
(l20 : K.lookup f20 = some ⟨oc20, od20, .func (PySem.W.fnOf (PySem.Str.ofString "_law_like") (PySem.Str.ofString "_law_like") (defArgs (PySem.Challenge.pw_waylands_k02_net_things.main.body.getD 29 (.Pass ⟨0, 0, 0, 0⟩))) (defBody (PySem.Challenge.pw_waylands_k02_net_things.main.body.getD 29 (.Pass ⟨0, 0, 0, 0⟩))) (defScope (PySem.Challenge.pw_waylands_k02_net_things.main.body.getD 29 (.Pass ⟨0, 0, 0, 0⟩))) .none kV20 dc20 pm20 an20 cd20 ct20), sl20⟩)
(c20 : PySem.W.codeIn K cd20 (PySem.Str.ofString "_law_like") = true)
(k20 : PySem.W.keepIn K (.ref f20) = true)
(a21 : PySem.W.nsIn K mainGlobals (PySem.Str.ofString "_law_is_name") = some (some (.ref f21)))
(l21 : K.lookup f21 = some ⟨oc21, od21, .func (PySem.W.fnOf (PySem.Str.ofString "_law_is_name") (PySem.Str.ofString "_law_is_name") (defArgs (PySem.Challenge.pw_waylands_k02_net_things.main.body.getD 30 (.Pass ⟨0, 0, 0, 0⟩))) (defBody (PySem.Challenge.pw_waylands_k02_net_things.main.body.getD 30 (.Pass ⟨0, 0, 0, 0⟩))) (defScope (PySem.Challenge.pw_waylands_k02_net_things.main.body.getD 30 (.Pass ⟨0, 0, 0, 0⟩))) .none kV21 dc21 pm21 an21 cd21 ct21), sl21⟩)
(c21 : PySem.W.codeIn K cd21 (PySem.Str.ofString "_law_is_name") = true)
(k21 : PySem.W.keepIn K (.ref f21) = true)
(a22 : PySem.W.nsIn K mainGlobals (PySem.Str.ofString "_law_whole") = some (some (.ref f22)))
(l22 : K.lookup f22 = some ⟨oc22, od22, .func (PySem.W.fnOf (PySem.Str.ofString "_law_whole") (PySem.Str.ofString "_law_whole") (defArgs (PySem.Challenge.pw_waylands_k02_net_things.main.body.getD 31 (.Pass ⟨0, 0, 0, 0⟩))) (defBody (PySem.Challenge.pw_waylands_k02_net_things.main.body.getD 31 (.Pass ⟨0, 0, 0, 0⟩))) (defScope (PySem.Challenge.pw_waylands_k02_net_things.main.body.getD 31 (.Pass ⟨0, 0, 0, 0⟩))) .none kV22 dc22 pm22 an22 cd22 ct22), sl22⟩)
(c22 : PySem.W.codeIn K cd22 (PySem.Str.ofString "_law_whole") = true)
(k22 : PySem.W.keepIn K (.ref f22) = true)
(a23 : PySem.W.nsIn K mainGlobals (PySem.Str.ofString "_law_named") = some (some (.ref f23)))
(l23 : K.lookup f23 = some ⟨oc23, od23, .func (PySem.W.fnOf (PySem.Str.ofString "_law_named") (PySem.Str.ofString "_law_named") (defArgs (PySem.Challenge.pw_waylands_k02_net_things.main.body.getD 32 (.Pass ⟨0, 0, 0, 0⟩))) (defBody (PySem.Challenge.pw_waylands_k02_net_things.main.body.getD 32 (.Pass ⟨0, 0, 0, 0⟩))) (defScope (PySem.Challenge.pw_waylands_k02_net_things.main.body.getD 32 (.Pass ⟨0, 0, 0, 0⟩))) .none kV23 dc23 pm23 an23 cd23 ct23), sl23⟩)
(c23 : PySem.W.codeIn K cd23 (PySem.Str.ofString "_law_named") = true)
(k23 : PySem.W.keepIn K (.ref f23) = true)
(a24 : PySem.W.nsIn K mainGlobals (PySem.Str.ofString "_law_ascending") = some (some (.ref f24)))
(l24 : K.lookup f24 = some ⟨oc24, od24, .func (PySem.W.fnOf (PySem.Str.ofString "_law_ascending") (PySem.Str.ofString "_law_ascending") (defArgs (PySem.Challenge.pw_waylands_k02_net_things.main.body.getD 33 (.Pass ⟨0, 0, 0, 0⟩))) (defBody (PySem.Challenge.pw_waylands_k02_net_things.main.body.getD 33 (.Pass ⟨0, 0, 0, 0⟩))) (defScope (PySem.Challenge.pw_waylands_k02_net_things.main.body.getD 33 (.Pass ⟨0, 0, 0, 0⟩))) .none kV24 dc24 pm24 an24 cd24 ct24), sl24⟩)
(c24 : PySem.W.codeIn K cd24 (PySem.Str.ofString "_law_ascending") = true)
(k24 : PySem.W.keepIn K (.ref f24) = true)
(a25 : PySem.W.nsIn K mainGlobals (PySem.Str.ofString "_law_net") = some (some (.ref f25)))
(l25 : K.lookup f25 = some ⟨oc25, od25, .func (PySem.W.fnOf (PySem.Str.ofString "_law_net") (PySem.Str.ofString "_law_net") (defArgs (PySem.Challenge.pw_waylands_k02_net_things.main.body.getD 34 (.Pass ⟨0, 0, 0, 0⟩))) (defBody (PySem.Challenge.pw_waylands_k02_net_things.main.body.getD 34 (.Pass ⟨0, 0, 0, 0⟩))) (defScope (PySem.Challenge.pw_waylands_k02_net_things.main.body.getD 34 (.Pass ⟨0, 0, 0, 0⟩))) .none kV25 dc25 pm25 an25 cd25 ct25), sl25⟩)
(c25 : PySem.W.codeIn K cd25 (PySem.Str.ofString "_law_net") = true)
(k25 : PySem.W.keepIn K (.ref f25) = true)
(a26 : PySem.W.nsIn K mainGlobals (PySem.Str.ofString "_law_parts") = some (some (.ref f26)))
(l26 : K.lookup f26 = some ⟨oc26, od26, .func (PySem.W.fnOf (PySem.Str.ofString "_law_parts") (PySem.Str.ofString "_law_parts") (defArgs (PySem.Challenge.pw_waylands_k02_net_things.main.body.getD 35 (.Pass ⟨0, 0, 0, 0⟩))) (defBody (PySem.Challenge.pw_waylands_k02_net_things.main.body.getD 35 (.Pass ⟨0, 0, 0, 0⟩))) (defScope (PySem.Challenge.pw_waylands_k02_net_things.main.body.getD 35 (.Pass ⟨0, 0, 0, 0⟩))) .none kV26 dc26 pm26 an26 cd26 ct26), sl26⟩)
(c26 : PySem.W.codeIn K cd26 (PySem.Str.ofString "_law_parts") = true)
(k26 : PySem.W.keepIn K (.ref f26) = true)
(a27 : PySem.W.nsIn K mainGlobals (PySem.Str.ofString "_law_ends") = some (some (.ref f27)))
(l27 : K.lookup f27 = some ⟨oc27, od27, .func (PySem.W.fnOf (PySem.Str.ofString "_law_ends") (PySem.Str.ofString "_law_ends") (defArgs (PySem.Challenge.pw_waylands_k02_net_things.main.body.getD 36 (.Pass ⟨0, 0, 0, 0⟩))) (defBody (PySem.Challenge.pw_waylands_k02_net_things.main.body.getD 36 (.Pass ⟨0, 0, 0, 0⟩))) (defScope (PySem.Challenge.pw_waylands_k02_net_things.main.body.getD 36 (.Pass ⟨0, 0, 0, 0⟩))) .none kV27 dc27 pm27 an27 cd27 ct27), sl27⟩)
(c27 : PySem.W.codeIn K cd27 (PySem.Str.ofString "_law_ends") = true)
(k27 : PySem.W.keepIn K (.ref f27) = true)
(a28 : PySem.W.nsIn K mainGlobals (PySem.Str.ofString "_law_is_net") = some (some (.ref f28)))
(l28 : K.lookup f28 = some ⟨oc28, od28, .func (PySem.W.fnOf (PySem.Str.ofString "_law_is_net") (PySem.Str.ofString "_law_is_net") (defArgs (PySem.Challenge.pw_waylands_k02_net_things.main.body.getD 37 (.Pass ⟨0, 0, 0, 0⟩))) (defBody (PySem.Challenge.pw_waylands_k02_net_things.main.body.getD 37 (.Pass ⟨0, 0, 0, 0⟩))) (defScope (PySem.Challenge.pw_waylands_k02_net_things.main.body.getD 37 (.Pass ⟨0, 0, 0, 0⟩))) .none kV28 dc28 pm28 an28 cd28 ct28), sl28⟩)
(c28 : PySem.W.codeIn K cd28 (PySem.Str.ofString "_law_is_net") = true)
(k28 : PySem.W.keepIn K (.ref f28) = true)
(a29 : PySem.W.nsIn K mainGlobals (PySem.Str.ofString "_law_other") = some (some (.ref f29)))
(l29 : K.lookup f29 = some ⟨oc29, od29, .func (PySem.W.fnOf (PySem.Str.ofString "_law_other") (PySem.Str.ofString "_law_other") (defArgs (PySem.Challenge.pw_waylands_k02_net_things.main.body.getD 38 (.Pass ⟨0, 0, 0, 0⟩))) (defBody (PySem.Challenge.pw_waylands_k02_net_things.main.body.getD 38 (.Pass ⟨0, 0, 0, 0⟩))) (defScope (PySem.Challenge.pw_waylands_k02_net_things.main.body.getD 38 (.Pass ⟨0, 0, 0, 0⟩))) .none kV29 dc29 pm29 an29 cd29 ct29), sl29⟩)
(c29 : PySem.W.codeIn K cd29 (PySem.Str.ofString "_law_other") = true)
(k29 : PySem.W.keepIn K (.ref f29) = true)
(a30 : PySem.W.nsIn K mainGlobals (PySem.Str.ofString "_law_changed") = some (some (.ref f30)))
(l30 : K.lookup f30 = some ⟨oc30, od30, .func (PySem.W.fnOf (PySem.Str.ofString "_law_changed") (PySem.Str.ofString "_law_changed") (defArgs (PySem.Challenge.pw_waylands_k02_net_things.main.body.getD 39 (.Pass ⟨0, 0, 0, 0⟩))) (defBody (PySem.Challenge.pw_waylands_k02_net_things.main.body.getD 39 (.Pass ⟨0, 0, 0, 0⟩))) (defScope (PySem.Challenge.pw_waylands_k02_net_things.main.body.getD 39 (.Pass ⟨0, 0, 0, 0⟩))) .none kV30 dc30 pm30 an30 cd30 ct30), sl30⟩)
(c30 : PySem.W.codeIn K cd30 (PySem.Str.ofString "_law_changed") = true)
(k30 : PySem.W.keepIn K (.ref f30) = true)
(a31 : PySem.W.nsIn K mainGlobals (PySem.Str.ofString "law") = some (some (.ref f31)))
(l31 : K.lookup f31 = some ⟨oc31, od31, .func (PySem.W.fnOf (PySem.Str.ofString "law") (PySem.Str.ofString "law") (defArgs (PySem.Challenge.pw_waylands_k02_net_things.main.body.getD 40 (.Pass ⟨0, 0, 0, 0⟩))) (defBody (PySem.Challenge.pw_waylands_k02_net_things.main.body.getD 40 (.Pass ⟨0, 0, 0, 0⟩))) (defScope (PySem.Challenge.pw_waylands_k02_net_things.main.body.getD 40 (.Pass ⟨0, 0, 0, 0⟩))) .none kV31 dc31 pm31 an31 cd31 ct31), sl31⟩)
(c31 : PySem.W.codeIn K cd31 (PySem.Str.ofString "law") = true)
(k31 : PySem.W.keepIn K (.ref f31) = true)
(z0 : PySem.W.nsIn K mainGlobals (PySem.Str.ofString "abs") = some none)
(z1 : PySem.W.nsIn K mainGlobals (PySem.Str.ofString "all") = some none)
(z2 : PySem.W.nsIn K mainGlobals (PySem.Str.ofString "any") = some none)
(z3 : PySem.W.nsIn K mainGlobals (PySem.Str.ofString "bool") = some none)
(z4 : PySem.W.nsIn K mainGlobals (PySem.Str.ofString "dict") = some none)
(z5 : PySem.W.nsIn K mainGlobals (PySem.Str.ofString "enumerate") = some none)
(z6 : PySem.W.nsIn K mainGlobals (PySem.Str.ofString "int") = some none)
(z7 : PySem.W.nsIn K mainGlobals (PySem.Str.ofString "isinstance") = some none)
(z8 : PySem.W.nsIn K mainGlobals (PySem.Str.ofString "len") = some none)
(z9 : PySem.W.nsIn K mainGlobals (PySem.Str.ofString "list") = some none)
(z10 : PySem.W.nsIn K mainGlobals (PySem.Str.ofString "max") = some none)
(z11 : PySem.W.nsIn K mainGlobals (PySem.Str.ofString "min") = some none)
(z12 : PySem.W.nsIn K mainGlobals (PySem.Str.ofString "range") = some none)
(z13 : PySem.W.nsIn K mainGlobals (PySem.Str.ofString "reversed") = some none)
(z14 : PySem.W.nsIn K mainGlobals (PySem.Str.ofString "set") = some none)
(z15 : PySem.W.nsIn K mainGlobals (PySem.Str.ofString "sorted") = some none)
(z16 : PySem.W.nsIn K mainGlobals (PySem.Str.ofString "str") = some none)
(z17 : PySem.W.nsIn K mainGlobals (PySem.Str.ofString "sum") = some none)
(z18 : PySem.W.nsIn K mainGlobals (PySem.Str.ofString "tuple") = some none)
(z19 : PySem.W.nsIn K mainGlobals (PySem.Str.ofString "zip") = some none)
(gc0 : PySem.W.nsIn K mainGlobals (PySem.Str.ofString "LETTERS") = some (some (.str (PySem.Str.ofString "abcdefghijklmnopqrstuvwxyz") tg0)))
(gc1 : PySem.W.nsIn K mainGlobals (PySem.Str.ofString "DIGITS") = some (some (.str (PySem.Str.ofString "0123456789") tg1)))
(gc2 : PySem.W.nsIn K mainGlobals (PySem.Str.ofString "MOST_PLACES") = some (some (.int (40) tg2)))
(gc3 : PySem.W.nsIn K mainGlobals (PySem.Str.ofString "MOST_ROADS") = some (some (.int (120) tg3)))
(gc4 : PySem.W.nsIn K mainGlobals (PySem.Str.ofString "MOST_ROOM") = some (some (.int (999) tg4))) : Mod0 fds blts glb K mg where
  fn := fun f fd h => match f, fd, h with
    | 0, _, rfl => ⟨f0, _, fun_mk (st := (PySem.Challenge.pw_waylands_k02_net_things.main.body.getD 1 (.Pass ⟨0, 0, 0, 0⟩))) l0 c0 k0, PySem.W.mg_of X G a0, (fun_mk (st := (PySem.Challenge.pw_waylands_k02_net_things.main.body.getD 1 (.Pass ⟨0, 0, 0, 0⟩))) l0 c0 k0).binds (ps := fd_is_whole.ps) fun _ _ _ _ _ _ us hl => match us, hl with | [_], _ => rfl⟩
    | 1, _, rfl => ⟨f1, _, fun_mk (st := (PySem.Challenge.pw_waylands_k02_net_things.main.body.getD 2 (.Pass ⟨0, 0, 0, 0⟩))) l1 c1 k1, PySem.W.mg_of X G a1, (fun_mk (st := (PySem.Challenge.pw_waylands_k02_net_things.main.body.getD 2 (.Pass ⟨0, 0, 0, 0⟩))) l1 c1 k1).binds (ps := fd_is_tuple_of.ps) fun _ _ _ _ _ _ us hl => match us, hl with | [_, _], _ => rfl⟩
    | 2, _, rfl => ⟨f2, _, fun_mk (st := (PySem.Challenge.pw_waylands_k02_net_things.main.body.getD 6 (.Pass ⟨0, 0, 0, 0⟩))) l2 c2 k2, PySem.W.mg_of X G a2, (fun_mk (st := (PySem.Challenge.pw_waylands_k02_net_things.main.body.getD 6 (.Pass ⟨0, 0, 0, 0⟩))) l2 c2 k2).binds (ps := fd__consists_of.ps) fun _ _ _ _ _ _ us hl => match us, hl with | [_, _], _ => rfl⟩
    | 3, _, rfl => ⟨f3, _, fun_mk (st := (PySem.Challenge.pw_waylands_k02_net_things.main.body.getD 7 (.Pass ⟨0, 0, 0, 0⟩))) l3 c3 k3, PySem.W.mg_of X G a3, (fun_mk (st := (PySem.Challenge.pw_waylands_k02_net_things.main.body.getD 7 (.Pass ⟨0, 0, 0, 0⟩))) l3 c3 k3).binds (ps := fd_is_name.ps) fun _ _ _ _ _ _ us hl => match us, hl with | [_], _ => rfl⟩
    | 4, _, rfl => ⟨f4, _, fun_mk (st := (PySem.Challenge.pw_waylands_k02_net_things.main.body.getD 12 (.Pass ⟨0, 0, 0, 0⟩))) l4 c4 k4, PySem.W.mg_of X G a4, (fun_mk (st := (PySem.Challenge.pw_waylands_k02_net_things.main.body.getD 12 (.Pass ⟨0, 0, 0, 0⟩))) l4 c4 k4).binds (ps := fd__is_ascending.ps) fun _ _ _ _ _ _ us hl => match us, hl with | [_], _ => rfl⟩
    | 5, _, rfl => ⟨f5, _, fun_mk (st := (PySem.Challenge.pw_waylands_k02_net_things.main.body.getD 13 (.Pass ⟨0, 0, 0, 0⟩))) l5 c5 k5, PySem.W.mg_of X G a5, (fun_mk (st := (PySem.Challenge.pw_waylands_k02_net_things.main.body.getD 13 (.Pass ⟨0, 0, 0, 0⟩))) l5 c5 k5).binds (ps := fd__are_places.ps) fun _ _ _ _ _ _ us hl => match us, hl with | [_], _ => rfl⟩
    | 6, _, rfl => ⟨f6, _, fun_mk (st := (PySem.Challenge.pw_waylands_k02_net_things.main.body.getD 14 (.Pass ⟨0, 0, 0, 0⟩))) l6 c6 k6, PySem.W.mg_of X G a6, (fun_mk (st := (PySem.Challenge.pw_waylands_k02_net_things.main.body.getD 14 (.Pass ⟨0, 0, 0, 0⟩))) l6 c6 k6).binds (ps := fd__is_room.ps) fun _ _ _ _ _ _ us hl => match us, hl with | [_], _ => rfl⟩
    | 7, _, rfl => ⟨f7, _, fun_mk (st := (PySem.Challenge.pw_waylands_k02_net_things.main.body.getD 15 (.Pass ⟨0, 0, 0, 0⟩))) l7 c7 k7, PySem.W.mg_of X G a7, (fun_mk (st := (PySem.Challenge.pw_waylands_k02_net_things.main.body.getD 15 (.Pass ⟨0, 0, 0, 0⟩))) l7 c7 k7).binds (ps := fd__is_road.ps) fun _ _ _ _ _ _ us hl => match us, hl with | [_, _], _ => rfl⟩
    | 8, _, rfl => ⟨f8, _, fun_mk (st := (PySem.Challenge.pw_waylands_k02_net_things.main.body.getD 16 (.Pass ⟨0, 0, 0, 0⟩))) l8 c8 k8, PySem.W.mg_of X G a8, (fun_mk (st := (PySem.Challenge.pw_waylands_k02_net_things.main.body.getD 16 (.Pass ⟨0, 0, 0, 0⟩))) l8 c8 k8).binds (ps := fd_is_net.ps) fun _ _ _ _ _ _ us hl => match us, hl with | [_], _ => rfl⟩
    | 9, _, rfl => ⟨f9, _, fun_mk (st := (PySem.Challenge.pw_waylands_k02_net_things.main.body.getD 17 (.Pass ⟨0, 0, 0, 0⟩))) l9 c9 k9, PySem.W.mg_of X G a9, (fun_mk (st := (PySem.Challenge.pw_waylands_k02_net_things.main.body.getD 17 (.Pass ⟨0, 0, 0, 0⟩))) l9 c9 k9).binds (ps := fd_is_even.ps) fun _ _ _ _ _ _ us hl => match us, hl with | [_], _ => rfl⟩
    | 10, _, rfl => ⟨f10, _, fun_mk (st := (PySem.Challenge.pw_waylands_k02_net_things.main.body.getD 18 (.Pass ⟨0, 0, 0, 0⟩))) l10 c10 k10, PySem.W.mg_of X G a10, (fun_mk (st := (PySem.Challenge.pw_waylands_k02_net_things.main.body.getD 18 (.Pass ⟨0, 0, 0, 0⟩))) l10 c10 k10).binds (ps := fd__neighbours.ps) fun _ _ _ _ _ _ us hl => match us, hl with | [_], _ => rfl⟩
    | 11, _, rfl => ⟨f11, _, fun_mk (st := (PySem.Challenge.pw_waylands_k02_net_things.main.body.getD 19 (.Pass ⟨0, 0, 0, 0⟩))) l11 c11 k11, PySem.W.mg_of X G a11, (fun_mk (st := (PySem.Challenge.pw_waylands_k02_net_things.main.body.getD 19 (.Pass ⟨0, 0, 0, 0⟩))) l11 c11 k11).binds (ps := fd__part_of.ps) fun _ _ _ _ _ _ us hl => match us, hl with | [_, _], _ => rfl⟩
    | 12, _, rfl => ⟨f12, _, fun_mk (st := (PySem.Challenge.pw_waylands_k02_net_things.main.body.getD 20 (.Pass ⟨0, 0, 0, 0⟩))) l12 c12 k12, PySem.W.mg_of X G a12, (fun_mk (st := (PySem.Challenge.pw_waylands_k02_net_things.main.body.getD 20 (.Pass ⟨0, 0, 0, 0⟩))) l12 c12 k12).binds (ps := fd_parts.ps) fun _ _ _ _ _ _ us hl => match us, hl with | [_], _ => rfl⟩
    | 13, _, rfl => ⟨f13, _, fun_mk (st := (PySem.Challenge.pw_waylands_k02_net_things.main.body.getD 21 (.Pass ⟨0, 0, 0, 0⟩))) l13 c13 k13, PySem.W.mg_of X G a13, (fun_mk (st := (PySem.Challenge.pw_waylands_k02_net_things.main.body.getD 21 (.Pass ⟨0, 0, 0, 0⟩))) l13 c13 k13).binds (ps := fd_hangs.ps) fun _ _ _ _ _ _ us hl => match us, hl with | [_], _ => rfl⟩
    | 14, _, rfl => ⟨f14, _, fun_mk (st := (PySem.Challenge.pw_waylands_k02_net_things.main.body.getD 22 (.Pass ⟨0, 0, 0, 0⟩))) l14 c14 k14, PySem.W.mg_of X G a14, (fun_mk (st := (PySem.Challenge.pw_waylands_k02_net_things.main.body.getD 22 (.Pass ⟨0, 0, 0, 0⟩))) l14 c14 k14).binds (ps := fd_without_road.ps) fun _ _ _ _ _ _ us hl => match us, hl with | [_, _], _ => rfl⟩
    | 15, _, rfl => ⟨f15, _, fun_mk (st := (PySem.Challenge.pw_waylands_k02_net_things.main.body.getD 23 (.Pass ⟨0, 0, 0, 0⟩))) l15 c15 k15, PySem.W.mg_of X G a15, (fun_mk (st := (PySem.Challenge.pw_waylands_k02_net_things.main.body.getD 23 (.Pass ⟨0, 0, 0, 0⟩))) l15 c15 k15).binds (ps := fd_without_place.ps) fun _ _ _ _ _ _ us hl => match us, hl with | [_, _], _ => rfl⟩
    | 16, _, rfl => ⟨f16, _, fun_mk (st := (PySem.Challenge.pw_waylands_k02_net_things.main.body.getD 25 (.Pass ⟨0, 0, 0, 0⟩))) l16 c16 k16, PySem.W.mg_of X G a16, (fun_mk (st := (PySem.Challenge.pw_waylands_k02_net_things.main.body.getD 25 (.Pass ⟨0, 0, 0, 0⟩))) l16 c16 k16).binds (ps := fd__law_cell.ps) fun _ _ _ _ _ _ us hl => match us, hl with | [_, _], _ => rfl⟩
    | 17, _, rfl => ⟨f17, _, fun_mk (st := (PySem.Challenge.pw_waylands_k02_net_things.main.body.getD 26 (.Pass ⟨0, 0, 0, 0⟩))) l17 c17 k17, PySem.W.mg_of X G a17, (fun_mk (st := (PySem.Challenge.pw_waylands_k02_net_things.main.body.getD 26 (.Pass ⟨0, 0, 0, 0⟩))) l17 c17 k17).binds (ps := fd__law_digits.ps) fun _ _ _ _ _ _ us hl => match us, hl with | [_, _, _], _ => rfl⟩
    | 18, _, rfl => ⟨f18, _, fun_mk (st := (PySem.Challenge.pw_waylands_k02_net_things.main.body.getD 27 (.Pass ⟨0, 0, 0, 0⟩))) l18 c18 k18, PySem.W.mg_of X G a18, (fun_mk (st := (PySem.Challenge.pw_waylands_k02_net_things.main.body.getD 27 (.Pass ⟨0, 0, 0, 0⟩))) l18 c18 k18).binds (ps := fd__law_draw.ps) fun _ _ _ _ _ _ us hl => match us, hl with | [_, _], _ => rfl⟩
    | 19, _, rfl => ⟨f19, _, fun_mk (st := (PySem.Challenge.pw_waylands_k02_net_things.main.body.getD 28 (.Pass ⟨0, 0, 0, 0⟩))) l19 c19 k19, PySem.W.mg_of X G a19, (fun_mk (st := (PySem.Challenge.pw_waylands_k02_net_things.main.body.getD 28 (.Pass ⟨0, 0, 0, 0⟩))) l19 c19 k19).binds (ps := fd__law_pick.ps) fun _ _ _ _ _ _ us hl => match us, hl with | [_, _], _ => rfl⟩
    | 20, _, rfl => ⟨f20, _, fun_mk (st := (PySem.Challenge.pw_waylands_k02_net_things.main.body.getD 29 (.Pass ⟨0, 0, 0, 0⟩))) l20 c20 k20, PySem.W.mg_of X G a20, (fun_mk (st := (PySem.Challenge.pw_waylands_k02_net_things.main.body.getD 29 (.Pass ⟨0, 0, 0, 0⟩))) l20 c20 k20).binds (ps := fd__law_like.ps) fun _ _ _ _ _ _ us hl => match us, hl with | [_, _], _ => rfl⟩
    | 21, _, rfl => ⟨f21, _, fun_mk (st := (PySem.Challenge.pw_waylands_k02_net_things.main.body.getD 30 (.Pass ⟨0, 0, 0, 0⟩))) l21 c21 k21, PySem.W.mg_of X G a21, (fun_mk (st := (PySem.Challenge.pw_waylands_k02_net_things.main.body.getD 30 (.Pass ⟨0, 0, 0, 0⟩))) l21 c21 k21).binds (ps := fd__law_is_name.ps) fun _ _ _ _ _ _ us hl => match us, hl with | [_], _ => rfl⟩
    | 22, _, rfl => ⟨f22, _, fun_mk (st := (PySem.Challenge.pw_waylands_k02_net_things.main.body.getD 31 (.Pass ⟨0, 0, 0, 0⟩))) l22 c22 k22, PySem.W.mg_of X G a22, (fun_mk (st := (PySem.Challenge.pw_waylands_k02_net_things.main.body.getD 31 (.Pass ⟨0, 0, 0, 0⟩))) l22 c22 k22).binds (ps := fd__law_whole.ps) fun _ _ _ _ _ _ us hl => match us, hl with | [_, _, _], _ => rfl⟩
    | 23, _, rfl => ⟨f23, _, fun_mk (st := (PySem.Challenge.pw_waylands_k02_net_things.main.body.getD 32 (.Pass ⟨0, 0, 0, 0⟩))) l23 c23 k23, PySem.W.mg_of X G a23, (fun_mk (st := (PySem.Challenge.pw_waylands_k02_net_things.main.body.getD 32 (.Pass ⟨0, 0, 0, 0⟩))) l23 c23 k23).binds (ps := fd__law_named.ps) fun _ _ _ _ _ _ us hl => match us, hl with | [_], _ => rfl⟩
    | 24, _, rfl => ⟨f24, _, fun_mk (st := (PySem.Challenge.pw_waylands_k02_net_things.main.body.getD 33 (.Pass ⟨0, 0, 0, 0⟩))) l24 c24 k24, PySem.W.mg_of X G a24, (fun_mk (st := (PySem.Challenge.pw_waylands_k02_net_things.main.body.getD 33 (.Pass ⟨0, 0, 0, 0⟩))) l24 c24 k24).binds (ps := fd__law_ascending.ps) fun _ _ _ _ _ _ us hl => match us, hl with | [_], _ => rfl⟩
    | 25, _, rfl => ⟨f25, _, fun_mk (st := (PySem.Challenge.pw_waylands_k02_net_things.main.body.getD 34 (.Pass ⟨0, 0, 0, 0⟩))) l25 c25 k25, PySem.W.mg_of X G a25, (fun_mk (st := (PySem.Challenge.pw_waylands_k02_net_things.main.body.getD 34 (.Pass ⟨0, 0, 0, 0⟩))) l25 c25 k25).binds (ps := fd__law_net.ps) fun _ _ _ _ _ _ us hl => match us, hl with | [_, _, _, _], _ => rfl⟩
    | 26, _, rfl => ⟨f26, _, fun_mk (st := (PySem.Challenge.pw_waylands_k02_net_things.main.body.getD 35 (.Pass ⟨0, 0, 0, 0⟩))) l26 c26 k26, PySem.W.mg_of X G a26, (fun_mk (st := (PySem.Challenge.pw_waylands_k02_net_things.main.body.getD 35 (.Pass ⟨0, 0, 0, 0⟩))) l26 c26 k26).binds (ps := fd__law_parts.ps) fun _ _ _ _ _ _ us hl => match us, hl with | [_, _], _ => rfl⟩
    | 27, _, rfl => ⟨f27, _, fun_mk (st := (PySem.Challenge.pw_waylands_k02_net_things.main.body.getD 36 (.Pass ⟨0, 0, 0, 0⟩))) l27 c27 k27, PySem.W.mg_of X G a27, (fun_mk (st := (PySem.Challenge.pw_waylands_k02_net_things.main.body.getD 36 (.Pass ⟨0, 0, 0, 0⟩))) l27 c27 k27).binds (ps := fd__law_ends.ps) fun _ _ _ _ _ _ us hl => match us, hl with | [_], _ => rfl⟩
    | 28, _, rfl => ⟨f28, _, fun_mk (st := (PySem.Challenge.pw_waylands_k02_net_things.main.body.getD 37 (.Pass ⟨0, 0, 0, 0⟩))) l28 c28 k28, PySem.W.mg_of X G a28, (fun_mk (st := (PySem.Challenge.pw_waylands_k02_net_things.main.body.getD 37 (.Pass ⟨0, 0, 0, 0⟩))) l28 c28 k28).binds (ps := fd__law_is_net.ps) fun _ _ _ _ _ _ us hl => match us, hl with | [_], _ => rfl⟩
    | 29, _, rfl => ⟨f29, _, fun_mk (st := (PySem.Challenge.pw_waylands_k02_net_things.main.body.getD 38 (.Pass ⟨0, 0, 0, 0⟩))) l29 c29 k29, PySem.W.mg_of X G a29, (fun_mk (st := (PySem.Challenge.pw_waylands_k02_net_things.main.body.getD 38 (.Pass ⟨0, 0, 0, 0⟩))) l29 c29 k29).binds (ps := fd__law_other.ps) fun _ _ _ _ _ _ us hl => match us, hl with | [_, _], _ => rfl⟩
    | 30, _, rfl => ⟨f30, _, fun_mk (st := (PySem.Challenge.pw_waylands_k02_net_things.main.body.getD 39 (.Pass ⟨0, 0, 0, 0⟩))) l30 c30 k30, PySem.W.mg_of X G a30, (fun_mk (st := (PySem.Challenge.pw_waylands_k02_net_things.main.body.getD 39 (.Pass ⟨0, 0, 0, 0⟩))) l30 c30 k30).binds (ps := fd__law_changed.ps) fun _ _ _ _ _ _ us hl => match us, hl with | [_, _], _ => rfl⟩
    | 31, _, rfl => ⟨f31, _, fun_mk (st := (PySem.Challenge.pw_waylands_k02_net_things.main.body.getD 40 (.Pass ⟨0, 0, 0, 0⟩))) l31 c31 k31, PySem.W.mg_of X G a31, (fun_mk (st := (PySem.Challenge.pw_waylands_k02_net_things.main.body.getD 40 (.Pass ⟨0, 0, 0, 0⟩))) l31 c31 k31).binds (ps := fd_law.ps) fun _ _ _ _ _ _ us hl => match us, hl with | [_], _ => rfl⟩
    | n + 32, _, h => by cases h
  sc := fun f fd h => match f, fd, h with
    | 0, _, rfl => sc_is_whole
    | 1, _, rfl => sc_is_tuple_of
    | 2, _, rfl => sc__consists_of
    | 3, _, rfl => sc_is_name
    | 4, _, rfl => sc__is_ascending
    | 5, _, rfl => sc__are_places
    | 6, _, rfl => sc__is_room
    | 7, _, rfl => sc__is_road
    | 8, _, rfl => sc_is_net
    | 9, _, rfl => sc_is_even
    | 10, _, rfl => sc__neighbours
    | 11, _, rfl => sc__part_of
    | 12, _, rfl => sc_parts
    | 13, _, rfl => sc_hangs
    | 14, _, rfl => sc_without_road
    | 15, _, rfl => sc_without_place
    | 16, _, rfl => sc__law_cell
    | 17, _, rfl => sc__law_digits
    | 18, _, rfl => sc__law_draw
    | 19, _, rfl => sc__law_pick
    | 20, _, rfl => sc__law_like
    | 21, _, rfl => sc__law_is_name
    | 22, _, rfl => sc__law_whole
    | 23, _, rfl => sc__law_named
    | 24, _, rfl => sc__law_ascending
    | 25, _, rfl => sc__law_net
    | 26, _, rfl => sc__law_parts
    | 27, _, rfl => sc__law_ends
    | 28, _, rfl => sc__law_is_net
    | 29, _, rfl => sc__law_other
    | 30, _, rfl => sc__law_changed
    | 31, _, rfl => sc_law
    | n + 32, _, h => by cases h
  ok := fun f fd h => match f, fd, h with
    | 0, _, rfl => ok_is_whole
    | 1, _, rfl => ok_is_tuple_of
    | 2, _, rfl => ok__consists_of
    | 3, _, rfl => ok_is_name
    | 4, _, rfl => ok__is_ascending
    | 5, _, rfl => ok__are_places
    | 6, _, rfl => ok__is_room
    | 7, _, rfl => ok__is_road
    | 8, _, rfl => ok_is_net
    | 9, _, rfl => ok_is_even
    | 10, _, rfl => ok__neighbours
    | 11, _, rfl => ok__part_of
    | 12, _, rfl => ok_parts
    | 13, _, rfl => ok_hangs
    | 14, _, rfl => ok_without_road
    | 15, _, rfl => ok_without_place
    | 16, _, rfl => ok__law_cell
    | 17, _, rfl => ok__law_digits
    | 18, _, rfl => ok__law_draw
    | 19, _, rfl => ok__law_pick
    | 20, _, rfl => ok__law_like
    | 21, _, rfl => ok__law_is_name
    | 22, _, rfl => ok__law_whole
    | 23, _, rfl => ok__law_named
    | 24, _, rfl => ok__law_ascending
    | 25, _, rfl => ok__law_net
    | 26, _, rfl => ok__law_parts
    | 27, _, rfl => ok__law_ends
    | 28, _, rfl => ok__law_is_net
    | 29, _, rfl => ok__law_other
    | 30, _, rfl => ok__law_changed
    | 31, _, rfl => ok_law
    | n + 32, _, h => by cases h
  blt := fun x hx => by
    simp only [blts, List.mem_cons, List.not_mem_nil, or_false] at hx
    rcases hx with rfl | rfl | rfl | rfl | rfl | rfl | rfl | rfl | rfl | rfl | rfl | rfl | rfl | rfl | rfl | rfl | rfl | rfl | rfl | rfl
    · exact PySem.W.mg_none_of X G z0
    · exact PySem.W.mg_none_of X G z1
    · exact PySem.W.mg_none_of X G z2
    · exact PySem.W.mg_none_of X G z3
    · exact PySem.W.mg_none_of X G z4
    · exact PySem.W.mg_none_of X G z5
    · exact PySem.W.mg_none_of X G z6
    · exact PySem.W.mg_none_of X G z7
    · exact PySem.W.mg_none_of X G z8
    · exact PySem.W.mg_none_of X G z9
    · exact PySem.W.mg_none_of X G z10
    · exact PySem.W.mg_none_of X G z11
    · exact PySem.W.mg_none_of X G z12
    · exact PySem.W.mg_none_of X G z13
    · exact PySem.W.mg_none_of X G z14
    · exact PySem.W.mg_none_of X G z15
    · exact PySem.W.mg_none_of X G z16
    · exact PySem.W.mg_none_of X G z17
    · exact PySem.W.mg_none_of X G z18
    · exact PySem.W.mg_none_of X G z19
  glb := fun y hy => by
    simp only [Mp.glb, List.mem_cons, List.not_mem_nil, or_false] at hy
    rcases hy with rfl | rfl | rfl | rfl | rfl
    · exact ⟨.str _, _, PySem.W.mg_of X G gc0, ⟨_, rfl⟩, fun H => .str _ (by decide +kernel)⟩
    · exact ⟨.str _, _, PySem.W.mg_of X G gc1, ⟨_, rfl⟩, fun H => .str _ (by decide +kernel)⟩
    · exact ⟨.int _, _, PySem.W.mg_of X G gc2, ⟨_, rfl⟩, fun H => .int _⟩
    · exact ⟨.int _, _, PySem.W.mg_of X G gc3, ⟨_, rfl⟩, fun H => .int _⟩
    · exact ⟨.int _, _, PySem.W.mg_of X G gc4, ⟨_, rfl⟩, fun H => .int _⟩
theorem noList_of {K : PySem.W.Frag} (h : (K.all fun p => match p.2.cls with | .type t => t != "list" | _ => true) = true) : ∀ a o, K.lookup a = some o → o.cls ≠ .type "list" := by
  intro a o e z
  induction K with
  | nil => cases e
  | cons p r ih =>
    obtain ⟨b, q⟩ := p
    simp only [List.all_cons, Bool.and_eq_true] at h
    rw [List.lookup_cons] at e
    split at e
    · cases e
      have := h.1
      rw [z] at this
      simp at this
    · exact ih h.2 e
set_option maxHeartbeats 0 in
theorem law_end {P : Program} {w : World} {K : PySem.W.Frag} {h : Heap} {mg : Str → Option Value} {fa : Addr} (X : K.In h) (G : h.Ns mainGlobals mg) (hfa : mg (PySem.Str.ofString "law") = some (.ref fa))
{oc0 kV0 dc0 pm0 cd0 ct0 : Value} {od0 an0 : Option Addr} {sl0 : Array (Option Value)} {f0 : Addr}
{oc1 kV1 dc1 pm1 cd1 ct1 : Value} {od1 an1 : Option Addr} {sl1 : Array (Option Value)} {f1 : Addr}
{oc2 kV2 dc2 pm2 cd2 ct2 : Value} {od2 an2 : Option Addr} {sl2 : Array (Option Value)} {f2 : Addr}
{oc3 kV3 dc3 pm3 cd3 ct3 : Value} {od3 an3 : Option Addr} {sl3 : Array (Option Value)} {f3 : Addr}
{oc4 kV4 dc4 pm4 cd4 ct4 : Value} {od4 an4 : Option Addr} {sl4 : Array (Option Value)} {f4 : Addr}
{oc5 kV5 dc5 pm5 cd5 ct5 : Value} {od5 an5 : Option Addr} {sl5 : Array (Option Value)} {f5 : Addr}
{oc6 kV6 dc6 pm6 cd6 ct6 : Value} {od6 an6 : Option Addr} {sl6 : Array (Option Value)} {f6 : Addr}
{oc7 kV7 dc7 pm7 cd7 ct7 : Value} {od7 an7 : Option Addr} {sl7 : Array (Option Value)} {f7 : Addr}
{oc8 kV8 dc8 pm8 cd8 ct8 : Value} {od8 an8 : Option Addr} {sl8 : Array (Option Value)} {f8 : Addr}
{oc9 kV9 dc9 pm9 cd9 ct9 : Value} {od9 an9 : Option Addr} {sl9 : Array (Option Value)} {f9 : Addr}
{oc10 kV10 dc10 pm10 cd10 ct10 : Value} {od10 an10 : Option Addr} {sl10 : Array (Option Value)} {f10 : Addr}
{oc11 kV11 dc11 pm11 cd11 ct11 : Value} {od11 an11 : Option Addr} {sl11 : Array (Option Value)} {f11 : Addr}
{oc12 kV12 dc12 pm12 cd12 ct12 : Value} {od12 an12 : Option Addr} {sl12 : Array (Option Value)} {f12 : Addr}
{oc13 kV13 dc13 pm13 cd13 ct13 : Value} {od13 an13 : Option Addr} {sl13 : Array (Option Value)} {f13 : Addr}
{oc14 kV14 dc14 pm14 cd14 ct14 : Value} {od14 an14 : Option Addr} {sl14 : Array (Option Value)} {f14 : Addr}
{oc15 kV15 dc15 pm15 cd15 ct15 : Value} {od15 an15 : Option Addr} {sl15 : Array (Option Value)} {f15 : Addr}
{oc16 kV16 dc16 pm16 cd16 ct16 : Value} {od16 an16 : Option Addr} {sl16 : Array (Option Value)} {f16 : Addr}
{oc17 kV17 dc17 pm17 cd17 ct17 : Value} {od17 an17 : Option Addr} {sl17 : Array (Option Value)} {f17 : Addr}
{oc18 kV18 dc18 pm18 cd18 ct18 : Value} {od18 an18 : Option Addr} {sl18 : Array (Option Value)} {f18 : Addr}
{oc19 kV19 dc19 pm19 cd19 ct19 : Value} {od19 an19 : Option Addr} {sl19 : Array (Option Value)} {f19 : Addr}
{oc20 kV20 dc20 pm20 cd20 ct20 : Value} {od20 an20 : Option Addr} {sl20 : Array (Option Value)} {f20 : Addr}
{oc21 kV21 dc21 pm21 cd21 ct21 : Value} {od21 an21 : Option Addr} {sl21 : Array (Option Value)} {f21 : Addr}
{oc22 kV22 dc22 pm22 cd22 ct22 : Value} {od22 an22 : Option Addr} {sl22 : Array (Option Value)} {f22 : Addr}
{oc23 kV23 dc23 pm23 cd23 ct23 : Value} {od23 an23 : Option Addr} {sl23 : Array (Option Value)} {f23 : Addr}
{oc24 kV24 dc24 pm24 cd24 ct24 : Value} {od24 an24 : Option Addr} {sl24 : Array (Option Value)} {f24 : Addr}
{oc25 kV25 dc25 pm25 cd25 ct25 : Value} {od25 an25 : Option Addr} {sl25 : Array (Option Value)} {f25 : Addr}
{oc26 kV26 dc26 pm26 cd26 ct26 : Value} {od26 an26 : Option Addr} {sl26 : Array (Option Value)} {f26 : Addr}
{oc27 kV27 dc27 pm27 cd27 ct27 : Value} {od27 an27 : Option Addr} {sl27 : Array (Option Value)} {f27 : Addr}
{oc28 kV28 dc28 pm28 cd28 ct28 : Value} {od28 an28 : Option Addr} {sl28 : Array (Option Value)} {f28 : Addr}
{oc29 kV29 dc29 pm29 cd29 ct29 : Value} {od29 an29 : Option Addr} {sl29 : Array (Option Value)} {f29 : Addr}
{oc30 kV30 dc30 pm30 cd30 ct30 : Value} {od30 an30 : Option Addr} {sl30 : Array (Option Value)} {f30 : Addr}
{oc31 kV31 dc31 pm31 cd31 ct31 : Value} {od31 an31 : Option Addr} {sl31 : Array (Option Value)} {f31 : Addr}
{tg0 : Tok}
{tg1 : Tok}
{tg2 : Tok}
{tg3 : Tok}
{tg4 : Tok}
(a0 : PySem.W.nsIn K mainGlobals (PySem.Str.ofString "is_whole") = some (some (.ref f0)))
(l0 : K.lookup f0 = some ⟨oc0, od0, .func (PySem.W.fnOf (PySem.Str.ofString "is_whole") (PySem.Str.ofString "is_whole") (defArgs (PySem.Challenge.pw_waylands_k02_net_things.main.body.getD 1 (.Pass ⟨0, 0, 0, 0⟩))) (defBody (PySem.Challenge.pw_waylands_k02_net_things.main.body.getD 1 (.Pass ⟨0, 0, 0, 0⟩))) (defScope (PySem.Challenge.pw_waylands_k02_net_things.main.body.getD 1 (.Pass ⟨0, 0, 0, 0⟩))) .none kV0 dc0 pm0 an0 cd0 ct0), sl0⟩)
(c0 : PySem.W.codeIn K cd0 (PySem.Str.ofString "is_whole") = true)
(k0 : PySem.W.keepIn K (.ref f0) = true)
(a1 : PySem.W.nsIn K mainGlobals (PySem.Str.ofString "is_tuple_of") = some (some (.ref f1)))
(l1 : K.lookup f1 = some ⟨oc1, od1, .func (PySem.W.fnOf (PySem.Str.ofString "is_tuple_of") (PySem.Str.ofString "is_tuple_of") (defArgs (PySem.Challenge.pw_waylands_k02_net_things.main.body.getD 2 (.Pass ⟨0, 0, 0, 0⟩))) (defBody (PySem.Challenge.pw_waylands_k02_net_things.main.body.getD 2 (.Pass ⟨0, 0, 0, 0⟩))) (defScope (PySem.Challenge.pw_waylands_k02_net_things.main.body.getD 2 (.Pass ⟨0, 0, 0, 0⟩))) .none kV1 dc1 pm1 an1 cd1 ct1), sl1⟩)
(c1 : PySem.W.codeIn K cd1 (PySem.Str.ofString "is_tuple_of") = true)
(k1 : PySem.W.keepIn K (.ref f1) = true)
(a2 : PySem.W.nsIn K mainGlobals (PySem.Str.ofString "_consists_of") = some (some (.ref f2)))
(l2 : K.lookup f2 = some ⟨oc2, od2, .func (PySem.W.fnOf (PySem.Str.ofString "_consists_of") (PySem.Str.ofString "_consists_of") (defArgs (PySem.Challenge.pw_waylands_k02_net_things.main.body.getD 6 (.Pass ⟨0, 0, 0, 0⟩))) (defBody (PySem.Challenge.pw_waylands_k02_net_things.main.body.getD 6 (.Pass ⟨0, 0, 0, 0⟩))) (defScope (PySem.Challenge.pw_waylands_k02_net_things.main.body.getD 6 (.Pass ⟨0, 0, 0, 0⟩))) .none kV2 dc2 pm2 an2 cd2 ct2), sl2⟩)
(c2 : PySem.W.codeIn K cd2 (PySem.Str.ofString "_consists_of") = true)
(k2 : PySem.W.keepIn K (.ref f2) = true)
(a3 : PySem.W.nsIn K mainGlobals (PySem.Str.ofString "is_name") = some (some (.ref f3)))
(l3 : K.lookup f3 = some ⟨oc3, od3, .func (PySem.W.fnOf (PySem.Str.ofString "is_name") (PySem.Str.ofString "is_name") (defArgs (PySem.Challenge.pw_waylands_k02_net_things.main.body.getD 7 (.Pass ⟨0, 0, 0, 0⟩))) (defBody (PySem.Challenge.pw_waylands_k02_net_things.main.body.getD 7 (.Pass ⟨0, 0, 0, 0⟩))) (defScope (PySem.Challenge.pw_waylands_k02_net_things.main.body.getD 7 (.Pass ⟨0, 0, 0, 0⟩))) .none kV3 dc3 pm3 an3 cd3 ct3), sl3⟩)
(c3 : PySem.W.codeIn K cd3 (PySem.Str.ofString "is_name") = true)
(k3 : PySem.W.keepIn K (.ref f3) = true)
(a4 : PySem.W.nsIn K mainGlobals (PySem.Str.ofString "_is_ascending") = some (some (.ref f4)))
(l4 : K.lookup f4 = some ⟨oc4, od4, .func (PySem.W.fnOf (PySem.Str.ofString "_is_ascending") (PySem.Str.ofString "_is_ascending") (defArgs (PySem.Challenge.pw_waylands_k02_net_things.main.body.getD 12 (.Pass ⟨0, 0, 0, 0⟩))) (defBody (PySem.Challenge.pw_waylands_k02_net_things.main.body.getD 12 (.Pass ⟨0, 0, 0, 0⟩))) (defScope (PySem.Challenge.pw_waylands_k02_net_things.main.body.getD 12 (.Pass ⟨0, 0, 0, 0⟩))) .none kV4 dc4 pm4 an4 cd4 ct4), sl4⟩)
(c4 : PySem.W.codeIn K cd4 (PySem.Str.ofString "_is_ascending") = true)
(k4 : PySem.W.keepIn K (.ref f4) = true)
(a5 : PySem.W.nsIn K mainGlobals (PySem.Str.ofString "_are_places") = some (some (.ref f5)))
(l5 : K.lookup f5 = some ⟨oc5, od5, .func (PySem.W.fnOf (PySem.Str.ofString "_are_places") (PySem.Str.ofString "_are_places") (defArgs (PySem.Challenge.pw_waylands_k02_net_things.main.body.getD 13 (.Pass ⟨0, 0, 0, 0⟩))) (defBody (PySem.Challenge.pw_waylands_k02_net_things.main.body.getD 13 (.Pass ⟨0, 0, 0, 0⟩))) (defScope (PySem.Challenge.pw_waylands_k02_net_things.main.body.getD 13 (.Pass ⟨0, 0, 0, 0⟩))) .none kV5 dc5 pm5 an5 cd5 ct5), sl5⟩)
(c5 : PySem.W.codeIn K cd5 (PySem.Str.ofString "_are_places") = true)
(k5 : PySem.W.keepIn K (.ref f5) = true)
(a6 : PySem.W.nsIn K mainGlobals (PySem.Str.ofString "_is_room") = some (some (.ref f6)))
(l6 : K.lookup f6 = some ⟨oc6, od6, .func (PySem.W.fnOf (PySem.Str.ofString "_is_room") (PySem.Str.ofString "_is_room") (defArgs (PySem.Challenge.pw_waylands_k02_net_things.main.body.getD 14 (.Pass ⟨0, 0, 0, 0⟩))) (defBody (PySem.Challenge.pw_waylands_k02_net_things.main.body.getD 14 (.Pass ⟨0, 0, 0, 0⟩))) (defScope (PySem.Challenge.pw_waylands_k02_net_things.main.body.getD 14 (.Pass ⟨0, 0, 0, 0⟩))) .none kV6 dc6 pm6 an6 cd6 ct6), sl6⟩)
(c6 : PySem.W.codeIn K cd6 (PySem.Str.ofString "_is_room") = true)
(k6 : PySem.W.keepIn K (.ref f6) = true)
(a7 : PySem.W.nsIn K mainGlobals (PySem.Str.ofString "_is_road") = some (some (.ref f7)))
(l7 : K.lookup f7 = some ⟨oc7, od7, .func (PySem.W.fnOf (PySem.Str.ofString "_is_road") (PySem.Str.ofString "_is_road") (defArgs (PySem.Challenge.pw_waylands_k02_net_things.main.body.getD 15 (.Pass ⟨0, 0, 0, 0⟩))) (defBody (PySem.Challenge.pw_waylands_k02_net_things.main.body.getD 15 (.Pass ⟨0, 0, 0, 0⟩))) (defScope (PySem.Challenge.pw_waylands_k02_net_things.main.body.getD 15 (.Pass ⟨0, 0, 0, 0⟩))) .none kV7 dc7 pm7 an7 cd7 ct7), sl7⟩)
(c7 : PySem.W.codeIn K cd7 (PySem.Str.ofString "_is_road") = true)
(k7 : PySem.W.keepIn K (.ref f7) = true)
(a8 : PySem.W.nsIn K mainGlobals (PySem.Str.ofString "is_net") = some (some (.ref f8)))
(l8 : K.lookup f8 = some ⟨oc8, od8, .func (PySem.W.fnOf (PySem.Str.ofString "is_net") (PySem.Str.ofString "is_net") (defArgs (PySem.Challenge.pw_waylands_k02_net_things.main.body.getD 16 (.Pass ⟨0, 0, 0, 0⟩))) (defBody (PySem.Challenge.pw_waylands_k02_net_things.main.body.getD 16 (.Pass ⟨0, 0, 0, 0⟩))) (defScope (PySem.Challenge.pw_waylands_k02_net_things.main.body.getD 16 (.Pass ⟨0, 0, 0, 0⟩))) .none kV8 dc8 pm8 an8 cd8 ct8), sl8⟩)
(c8 : PySem.W.codeIn K cd8 (PySem.Str.ofString "is_net") = true)
(k8 : PySem.W.keepIn K (.ref f8) = true)
(a9 : PySem.W.nsIn K mainGlobals (PySem.Str.ofString "is_even") = some (some (.ref f9)))
(l9 : K.lookup f9 = some ⟨oc9, od9, .func (PySem.W.fnOf (PySem.Str.ofString "is_even") (PySem.Str.ofString "is_even") (defArgs (PySem.Challenge.pw_waylands_k02_net_things.main.body.getD 17 (.Pass ⟨0, 0, 0, 0⟩))) (defBody (PySem.Challenge.pw_waylands_k02_net_things.main.body.getD 17 (.Pass ⟨0, 0, 0, 0⟩))) (defScope (PySem.Challenge.pw_waylands_k02_net_things.main.body.getD 17 (.Pass ⟨0, 0, 0, 0⟩))) .none kV9 dc9 pm9 an9 cd9 ct9), sl9⟩)
(c9 : PySem.W.codeIn K cd9 (PySem.Str.ofString "is_even") = true)
(k9 : PySem.W.keepIn K (.ref f9) = true)
(a10 : PySem.W.nsIn K mainGlobals (PySem.Str.ofString "_neighbours") = some (some (.ref f10)))
(l10 : K.lookup f10 = some ⟨oc10, od10, .func (PySem.W.fnOf (PySem.Str.ofString "_neighbours") (PySem.Str.ofString "_neighbours") (defArgs (PySem.Challenge.pw_waylands_k02_net_things.main.body.getD 18 (.Pass ⟨0, 0, 0, 0⟩))) (defBody (PySem.Challenge.pw_waylands_k02_net_things.main.body.getD 18 (.Pass ⟨0, 0, 0, 0⟩))) (defScope (PySem.Challenge.pw_waylands_k02_net_things.main.body.getD 18 (.Pass ⟨0, 0, 0, 0⟩))) .none kV10 dc10 pm10 an10 cd10 ct10), sl10⟩)
(c10 : PySem.W.codeIn K cd10 (PySem.Str.ofString "_neighbours") = true)
(k10 : PySem.W.keepIn K (.ref f10) = true)
(a11 : PySem.W.nsIn K mainGlobals (PySem.Str.ofString "_part_of") = some (some (.ref f11)))
(l11 : K.lookup f11 = some ⟨oc11, od11, .func (PySem.W.fnOf (PySem.Str.ofString "_part_of") (PySem.Str.ofString "_part_of") (defArgs (PySem.Challenge.pw_waylands_k02_net_things.main.body.getD 19 (.Pass ⟨0, 0, 0, 0⟩))) (defBody (PySem.Challenge.pw_waylands_k02_net_things.main.body.getD 19 (.Pass ⟨0, 0, 0, 0⟩))) (defScope (PySem.Challenge.pw_waylands_k02_net_things.main.body.getD 19 (.Pass ⟨0, 0, 0, 0⟩))) .none kV11 dc11 pm11 an11 cd11 ct11), sl11⟩)
(c11 : PySem.W.codeIn K cd11 (PySem.Str.ofString "_part_of") = true)
(k11 : PySem.W.keepIn K (.ref f11) = true)
(a12 : PySem.W.nsIn K mainGlobals (PySem.Str.ofString "parts") = some (some (.ref f12)))
(l12 : K.lookup f12 = some ⟨oc12, od12, .func (PySem.W.fnOf (PySem.Str.ofString "parts") (PySem.Str.ofString "parts") (defArgs (PySem.Challenge.pw_waylands_k02_net_things.main.body.getD 20 (.Pass ⟨0, 0, 0, 0⟩))) (defBody (PySem.Challenge.pw_waylands_k02_net_things.main.body.getD 20 (.Pass ⟨0, 0, 0, 0⟩))) (defScope (PySem.Challenge.pw_waylands_k02_net_things.main.body.getD 20 (.Pass ⟨0, 0, 0, 0⟩))) .none kV12 dc12 pm12 an12 cd12 ct12), sl12⟩)
(c12 : PySem.W.codeIn K cd12 (PySem.Str.ofString "parts") = true)
(k12 : PySem.W.keepIn K (.ref f12) = true)
(a13 : PySem.W.nsIn K mainGlobals (PySem.Str.ofString "hangs") = some (some (.ref f13)))
(l13 : K.lookup f13 = some ⟨oc13, od13, .func (PySem.W.fnOf (PySem.Str.ofString "hangs") (PySem.Str.ofString "hangs") (defArgs (PySem.Challenge.pw_waylands_k02_net_things.main.body.getD 21 (.Pass ⟨0, 0, 0, 0⟩))) (defBody (PySem.Challenge.pw_waylands_k02_net_things.main.body.getD 21 (.Pass ⟨0, 0, 0, 0⟩))) (defScope (PySem.Challenge.pw_waylands_k02_net_things.main.body.getD 21 (.Pass ⟨0, 0, 0, 0⟩))) .none kV13 dc13 pm13 an13 cd13 ct13), sl13⟩)
(c13 : PySem.W.codeIn K cd13 (PySem.Str.ofString "hangs") = true)
(k13 : PySem.W.keepIn K (.ref f13) = true)
(a14 : PySem.W.nsIn K mainGlobals (PySem.Str.ofString "without_road") = some (some (.ref f14)))
(l14 : K.lookup f14 = some ⟨oc14, od14, .func (PySem.W.fnOf (PySem.Str.ofString "without_road") (PySem.Str.ofString "without_road") (defArgs (PySem.Challenge.pw_waylands_k02_net_things.main.body.getD 22 (.Pass ⟨0, 0, 0, 0⟩))) (defBody (PySem.Challenge.pw_waylands_k02_net_things.main.body.getD 22 (.Pass ⟨0, 0, 0, 0⟩))) (defScope (PySem.Challenge.pw_waylands_k02_net_things.main.body.getD 22 (.Pass ⟨0, 0, 0, 0⟩))) .none kV14 dc14 pm14 an14 cd14 ct14), sl14⟩)
(c14 : PySem.W.codeIn K cd14 (PySem.Str.ofString "without_road") = true)
(k14 : PySem.W.keepIn K (.ref f14) = true)
(a15 : PySem.W.nsIn K mainGlobals (PySem.Str.ofString "without_place") = some (some (.ref f15)))
(l15 : K.lookup f15 = some ⟨oc15, od15, .func (PySem.W.fnOf (PySem.Str.ofString "without_place") (PySem.Str.ofString "without_place") (defArgs (PySem.Challenge.pw_waylands_k02_net_things.main.body.getD 23 (.Pass ⟨0, 0, 0, 0⟩))) (defBody (PySem.Challenge.pw_waylands_k02_net_things.main.body.getD 23 (.Pass ⟨0, 0, 0, 0⟩))) (defScope (PySem.Challenge.pw_waylands_k02_net_things.main.body.getD 23 (.Pass ⟨0, 0, 0, 0⟩))) .none kV15 dc15 pm15 an15 cd15 ct15), sl15⟩)
(c15 : PySem.W.codeIn K cd15 (PySem.Str.ofString "without_place") = true)
(k15 : PySem.W.keepIn K (.ref f15) = true)
(a16 : PySem.W.nsIn K mainGlobals (PySem.Str.ofString "_law_cell") = some (some (.ref f16)))
(l16 : K.lookup f16 = some ⟨oc16, od16, .func (PySem.W.fnOf (PySem.Str.ofString "_law_cell") (PySem.Str.ofString "_law_cell") (defArgs (PySem.Challenge.pw_waylands_k02_net_things.main.body.getD 25 (.Pass ⟨0, 0, 0, 0⟩))) (defBody (PySem.Challenge.pw_waylands_k02_net_things.main.body.getD 25 (.Pass ⟨0, 0, 0, 0⟩))) (defScope (PySem.Challenge.pw_waylands_k02_net_things.main.body.getD 25 (.Pass ⟨0, 0, 0, 0⟩))) .none kV16 dc16 pm16 an16 cd16 ct16), sl16⟩)
(c16 : PySem.W.codeIn K cd16 (PySem.Str.ofString "_law_cell") = true)
(k16 : PySem.W.keepIn K (.ref f16) = true)
(a17 : PySem.W.nsIn K mainGlobals (PySem.Str.ofString "_law_digits") = some (some (.ref f17)))
(l17 : K.lookup f17 = some ⟨oc17, od17, .func (PySem.W.fnOf (PySem.Str.ofString "_law_digits") (PySem.Str.ofString "_law_digits") (defArgs (PySem.Challenge.pw_waylands_k02_net_things.main.body.getD 26 (.Pass ⟨0, 0, 0, 0⟩))) (defBody (PySem.Challenge.pw_waylands_k02_net_things.main.body.getD 26 (.Pass ⟨0, 0, 0, 0⟩))) (defScope (PySem.Challenge.pw_waylands_k02_net_things.main.body.getD 26 (.Pass ⟨0, 0, 0, 0⟩))) .none kV17 dc17 pm17 an17 cd17 ct17), sl17⟩)
(c17 : PySem.W.codeIn K cd17 (PySem.Str.ofString "_law_digits") = true)
(k17 : PySem.W.keepIn K (.ref f17) = true)
(a18 : PySem.W.nsIn K mainGlobals (PySem.Str.ofString "_law_draw") = some (some (.ref f18)))
(l18 : K.lookup f18 = some ⟨oc18, od18, .func (PySem.W.fnOf (PySem.Str.ofString "_law_draw") (PySem.Str.ofString "_law_draw") (defArgs (PySem.Challenge.pw_waylands_k02_net_things.main.body.getD 27 (.Pass ⟨0, 0, 0, 0⟩))) (defBody (PySem.Challenge.pw_waylands_k02_net_things.main.body.getD 27 (.Pass ⟨0, 0, 0, 0⟩))) (defScope (PySem.Challenge.pw_waylands_k02_net_things.main.body.getD 27 (.Pass ⟨0, 0, 0, 0⟩))) .none kV18 dc18 pm18 an18 cd18 ct18), sl18⟩)
(c18 : PySem.W.codeIn K cd18 (PySem.Str.ofString "_law_draw") = true)
(k18 : PySem.W.keepIn K (.ref f18) = true)
(a19 : PySem.W.nsIn K mainGlobals (PySem.Str.ofString "_law_pick") = some (some (.ref f19)))
(l19 : K.lookup f19 = some ⟨oc19, od19, .func (PySem.W.fnOf (PySem.Str.ofString "_law_pick") (PySem.Str.ofString "_law_pick") (defArgs (PySem.Challenge.pw_waylands_k02_net_things.main.body.getD 28 (.Pass ⟨0, 0, 0, 0⟩))) (defBody (PySem.Challenge.pw_waylands_k02_net_things.main.body.getD 28 (.Pass ⟨0, 0, 0, 0⟩))) (defScope (PySem.Challenge.pw_waylands_k02_net_things.main.body.getD 28 (.Pass ⟨0, 0, 0, 0⟩))) .none kV19 dc19 pm19 an19 cd19 ct19), sl19⟩)
(c19 : PySem.W.codeIn K cd19 (PySem.Str.ofString "_law_pick") = true)
(k19 : PySem.W.keepIn K (.ref f19) = true)
(a20 : PySem.W.nsIn K mainGlobals (PySem.Str.ofString "_law_like") = some (some (.ref f20)))
(l20 : K.lookup f20 = some ⟨oc20, od20, .func (PySem.W.fnOf (PySem.Str.ofString "_law_like") (PySem.Str.ofString "_law_like") (defArgs (PySem.Challenge.pw_waylands_k02_net_things.main.body.getD 29 (.Pass ⟨0, 0, 0, 0⟩))) (defBody (PySem.Challenge.pw_waylands_k02_net_things.main.body.getD 29 (.Pass ⟨0, 0, 0, 0⟩))) (defScope (PySem.Challenge.pw_waylands_k02_net_things.main.body.getD 29 (.Pass ⟨0, 0, 0, 0⟩))) .none kV20 dc20 pm20 an20 cd20 ct20), sl20⟩)
(c20 : PySem.W.codeIn K cd20 (PySem.Str.ofString "_law_like") = true)
(k20 : PySem.W.keepIn K (.ref f20) = true)
(a21 : PySem.W.nsIn K mainGlobals (PySem.Str.ofString "_law_is_name") = some (some (.ref f21)))
(l21 : K.lookup f21 = some ⟨oc21, od21, .func (PySem.W.fnOf (PySem.Str.ofString "_law_is_name") (PySem.Str.ofString "_law_is_name") (defArgs (PySem.Challenge.pw_waylands_k02_net_things.main.body.getD 30 (.Pass ⟨0, 0, 0, 0⟩))) (defBody (PySem.Challenge.pw_waylands_k02_net_things.main.body.getD 30 (.Pass ⟨0, 0, 0, 0⟩))) (defScope (PySem.Challenge.pw_waylands_k02_net_things.main.body.getD 30 (.Pass ⟨0, 0, 0, 0⟩))) .none kV21 dc21 pm21 an21 cd21 ct21), sl21⟩)
(c21 : PySem.W.codeIn K cd21 (PySem.Str.ofString "_law_is_name") = true)
(k21 : PySem.W.keepIn K (.ref f21) = true)
(a22 : PySem.W.nsIn K mainGlobals (PySem.Str.ofString "_law_whole") = some (some (.ref f22)))
(l22 : K.lookup f22 = some ⟨oc22, od22, .func (PySem.W.fnOf (PySem.Str.ofString "_law_whole") (PySem.Str.ofString "_law_whole") (defArgs (PySem.Challenge.pw_waylands_k02_net_things.main.body.getD 31 (.Pass ⟨0, 0, 0, 0⟩))) (defBody (PySem.Challenge.pw_waylands_k02_net_things.main.body.getD 31 (.Pass ⟨0, 0, 0, 0⟩))) (defScope (PySem.Challenge.pw_waylands_k02_net_things.main.body.getD 31 (.Pass ⟨0, 0, 0, 0⟩))) .none kV22 dc22 pm22 an22 cd22 ct22), sl22⟩)
(c22 : PySem.W.codeIn K cd22 (PySem.Str.ofString "_law_whole") = true)
(k22 : PySem.W.keepIn K (.ref f22) = true)
(a23 : PySem.W.nsIn K mainGlobals (PySem.Str.ofString "_law_named") = some (some (.ref f23)))
(l23 : K.lookup f23 = some ⟨oc23, od23, .func (PySem.W.fnOf (PySem.Str.ofString "_law_named") (PySem.Str.ofString "_law_named") (defArgs (PySem.Challenge.pw_waylands_k02_net_things.main.body.getD 32 (.Pass ⟨0, 0, 0, 0⟩))) (defBody (PySem.Challenge.pw_waylands_k02_net_things.main.body.getD 32 (.Pass ⟨0, 0, 0, 0⟩))) (defScope (PySem.Challenge.pw_waylands_k02_net_things.main.body.getD 32 (.Pass ⟨0, 0, 0, 0⟩))) .none kV23 dc23 pm23 an23 cd23 ct23), sl23⟩)
(c23 : PySem.W.codeIn K cd23 (PySem.Str.ofString "_law_named") = true)
(k23 : PySem.W.keepIn K (.ref f23) = true)
(a24 : PySem.W.nsIn K mainGlobals (PySem.Str.ofString "_law_ascending") = some (some (.ref f24)))
(l24 : K.lookup f24 = some ⟨oc24, od24, .func (PySem.W.fnOf (PySem.Str.ofString "_law_ascending") (PySem.Str.ofString "_law_ascending") (defArgs (PySem.Challenge.pw_waylands_k02_net_things.main.body.getD 33 (.Pass ⟨0, 0, 0, 0⟩))) (defBody (PySem.Challenge.pw_waylands_k02_net_things.main.body.getD 33 (.Pass ⟨0, 0, 0, 0⟩))) (defScope (PySem.Challenge.pw_waylands_k02_net_things.main.body.getD 33 (.Pass ⟨0, 0, 0, 0⟩))) .none kV24 dc24 pm24 an24 cd24 ct24), sl24⟩)
(c24 : PySem.W.codeIn K cd24 (PySem.Str.ofString "_law_ascending") = true)
(k24 : PySem.W.keepIn K (.ref f24) = true)
(a25 : PySem.W.nsIn K mainGlobals (PySem.Str.ofString "_law_net") = some (some (.ref f25)))
(l25 : K.lookup f25 = some ⟨oc25, od25, .func (PySem.W.fnOf (PySem.Str.ofString "_law_net") (PySem.Str.ofString "_law_net") (defArgs (PySem.Challenge.pw_waylands_k02_net_things.main.body.getD 34 (.Pass ⟨0, 0, 0, 0⟩))) (defBody (PySem.Challenge.pw_waylands_k02_net_things.main.body.getD 34 (.Pass ⟨0, 0, 0, 0⟩))) (defScope (PySem.Challenge.pw_waylands_k02_net_things.main.body.getD 34 (.Pass ⟨0, 0, 0, 0⟩))) .none kV25 dc25 pm25 an25 cd25 ct25), sl25⟩)
(c25 : PySem.W.codeIn K cd25 (PySem.Str.ofString "_law_net") = true)
(k25 : PySem.W.keepIn K (.ref f25) = true)
(a26 : PySem.W.nsIn K mainGlobals (PySem.Str.ofString "_law_parts") = some (some (.ref f26)))
(l26 : K.lookup f26 = some ⟨oc26, od26, .func (PySem.W.fnOf (PySem.Str.ofString "_law_parts") (PySem.Str.ofString "_law_parts") (defArgs (PySem.Challenge.pw_waylands_k02_net_things.main.body.getD 35 (.Pass ⟨0, 0, 0, 0⟩))) (defBody (PySem.Challenge.pw_waylands_k02_net_things.main.body.getD 35 (.Pass ⟨0, 0, 0, 0⟩))) (defScope (PySem.Challenge.pw_waylands_k02_net_things.main.body.getD 35 (.Pass ⟨0, 0, 0, 0⟩))) .none kV26 dc26 pm26 an26 cd26 ct26), sl26⟩)
(c26 : PySem.W.codeIn K cd26 (PySem.Str.ofString "_law_parts") = true)
(k26 : PySem.W.keepIn K (.ref f26) = true)
(a27 : PySem.W.nsIn K mainGlobals (PySem.Str.ofString "_law_ends") = some (some (.ref f27)))
(l27 : K.lookup f27 = some ⟨oc27, od27, .func (PySem.W.fnOf (PySem.Str.ofString "_law_ends") (PySem.Str.ofString "_law_ends") (defArgs (PySem.Challenge.pw_waylands_k02_net_things.main.body.getD 36 (.Pass ⟨0, 0, 0, 0⟩))) (defBody (PySem.Challenge.pw_waylands_k02_net_things.main.body.getD 36 (.Pass ⟨0, 0, 0, 0⟩))) (defScope (PySem.Challenge.pw_waylands_k02_net_things.main.body.getD 36 (.Pass ⟨0, 0, 0, 0⟩))) .none kV27 dc27 pm27 an27 cd27 ct27), sl27⟩)
(c27 : PySem.W.codeIn K cd27 (PySem.Str.ofString "_law_ends") = true)
(k27 : PySem.W.keepIn K (.ref f27) = true)
(a28 : PySem.W.nsIn K mainGlobals (PySem.Str.ofString "_law_is_net") = some (some (.ref f28)))
(l28 : K.lookup f28 = some ⟨oc28, od28, .func (PySem.W.fnOf (PySem.Str.ofString "_law_is_net") (PySem.Str.ofString "_law_is_net") (defArgs (PySem.Challenge.pw_waylands_k02_net_things.main.body.getD 37 (.Pass ⟨0, 0, 0, 0⟩))) (defBody (PySem.Challenge.pw_waylands_k02_net_things.main.body.getD 37 (.Pass ⟨0, 0, 0, 0⟩))) (defScope (PySem.Challenge.pw_waylands_k02_net_things.main.body.getD 37 (.Pass ⟨0, 0, 0, 0⟩))) .none kV28 dc28 pm28 an28 cd28 ct28), sl28⟩)
(c28 : PySem.W.codeIn K cd28 (PySem.Str.ofString "_law_is_net") = true)
(k28 : PySem.W.keepIn K (.ref f28) = true)
(a29 : PySem.W.nsIn K mainGlobals (PySem.Str.ofString "_law_other") = some (some (.ref f29)))
(l29 : K.lookup f29 = some ⟨oc29, od29, .func (PySem.W.fnOf (PySem.Str.ofString "_law_other") (PySem.Str.ofString "_law_other") (defArgs (PySem.Challenge.pw_waylands_k02_net_things.main.body.getD 38 (.Pass ⟨0, 0, 0, 0⟩))) (defBody (PySem.Challenge.pw_waylands_k02_net_things.main.body.getD 38 (.Pass ⟨0, 0, 0, 0⟩))) (defScope (PySem.Challenge.pw_waylands_k02_net_things.main.body.getD 38 (.Pass ⟨0, 0, 0, 0⟩))) .none kV29 dc29 pm29 an29 cd29 ct29), sl29⟩)
(c29 : PySem.W.codeIn K cd29 (PySem.Str.ofString "_law_other") = true)
(k29 : PySem.W.keepIn K (.ref f29) = true)
(a30 : PySem.W.nsIn K mainGlobals (PySem.Str.ofString "_law_changed") = some (some (.ref f30)))
(l30 : K.lookup f30 = some ⟨oc30, od30, .func (PySem.W.fnOf (PySem.Str.ofString "_law_changed") (PySem.Str.ofString "_law_changed") (defArgs (PySem.Challenge.pw_waylands_k02_net_things.main.body.getD 39 (.Pass ⟨0, 0, 0, 0⟩))) (defBody (PySem.Challenge.pw_waylands_k02_net_things.main.body.getD 39 (.Pass ⟨0, 0, 0, 0⟩))) (defScope (PySem.Challenge.pw_waylands_k02_net_things.main.body.getD 39 (.Pass ⟨0, 0, 0, 0⟩))) .none kV30 dc30 pm30 an30 cd30 ct30), sl30⟩)
(c30 : PySem.W.codeIn K cd30 (PySem.Str.ofString "_law_changed") = true)
(k30 : PySem.W.keepIn K (.ref f30) = true)
(a31 : PySem.W.nsIn K mainGlobals (PySem.Str.ofString "law") = some (some (.ref f31)))
(l31 : K.lookup f31 = some ⟨oc31, od31, .func (PySem.W.fnOf (PySem.Str.ofString "law") (PySem.Str.ofString "law") (defArgs (PySem.Challenge.pw_waylands_k02_net_things.main.body.getD 40 (.Pass ⟨0, 0, 0, 0⟩))) (defBody (PySem.Challenge.pw_waylands_k02_net_things.main.body.getD 40 (.Pass ⟨0, 0, 0, 0⟩))) (defScope (PySem.Challenge.pw_waylands_k02_net_things.main.body.getD 40 (.Pass ⟨0, 0, 0, 0⟩))) .none kV31 dc31 pm31 an31 cd31 ct31), sl31⟩)
(c31 : PySem.W.codeIn K cd31 (PySem.Str.ofString "law") = true)
(k31 : PySem.W.keepIn K (.ref f31) = true)
(z0 : PySem.W.nsIn K mainGlobals (PySem.Str.ofString "abs") = some none)
(z1 : PySem.W.nsIn K mainGlobals (PySem.Str.ofString "all") = some none)
(z2 : PySem.W.nsIn K mainGlobals (PySem.Str.ofString "any") = some none)
(z3 : PySem.W.nsIn K mainGlobals (PySem.Str.ofString "bool") = some none)
(z4 : PySem.W.nsIn K mainGlobals (PySem.Str.ofString "dict") = some none)
(z5 : PySem.W.nsIn K mainGlobals (PySem.Str.ofString "enumerate") = some none)
(z6 : PySem.W.nsIn K mainGlobals (PySem.Str.ofString "int") = some none)
(z7 : PySem.W.nsIn K mainGlobals (PySem.Str.ofString "isinstance") = some none)
(z8 : PySem.W.nsIn K mainGlobals (PySem.Str.ofString "len") = some none)
(z9 : PySem.W.nsIn K mainGlobals (PySem.Str.ofString "list") = some none)
(z10 : PySem.W.nsIn K mainGlobals (PySem.Str.ofString "max") = some none)
(z11 : PySem.W.nsIn K mainGlobals (PySem.Str.ofString "min") = some none)
(z12 : PySem.W.nsIn K mainGlobals (PySem.Str.ofString "range") = some none)
(z13 : PySem.W.nsIn K mainGlobals (PySem.Str.ofString "reversed") = some none)
(z14 : PySem.W.nsIn K mainGlobals (PySem.Str.ofString "set") = some none)
(z15 : PySem.W.nsIn K mainGlobals (PySem.Str.ofString "sorted") = some none)
(z16 : PySem.W.nsIn K mainGlobals (PySem.Str.ofString "str") = some none)
(z17 : PySem.W.nsIn K mainGlobals (PySem.Str.ofString "sum") = some none)
(z18 : PySem.W.nsIn K mainGlobals (PySem.Str.ofString "tuple") = some none)
(z19 : PySem.W.nsIn K mainGlobals (PySem.Str.ofString "zip") = some none)
(gc0 : PySem.W.nsIn K mainGlobals (PySem.Str.ofString "LETTERS") = some (some (.str (PySem.Str.ofString "abcdefghijklmnopqrstuvwxyz") tg0)))
(gc1 : PySem.W.nsIn K mainGlobals (PySem.Str.ofString "DIGITS") = some (some (.str (PySem.Str.ofString "0123456789") tg1)))
(gc2 : PySem.W.nsIn K mainGlobals (PySem.Str.ofString "MOST_PLACES") = some (some (.int (40) tg2)))
(gc3 : PySem.W.nsIn K mainGlobals (PySem.Str.ofString "MOST_ROADS") = some (some (.int (120) tg3)))
(gc4 : PySem.W.nsIn K mainGlobals (PySem.Str.ofString "MOST_ROOM") = some (some (.int (999) tg4))) : ∃ fd : FuncData, (∀ (s : Shared) (v : Value), BindsTo s fd ⟨[v], []⟩ [("script", v)]) ∧ ∀ base : Heap, K.In base → base.Ns mainGlobals mg → FnOk P w K mg base (L2.CX P w) 90 fa fd ["script"] (SpAll (fun _ => 0) fds [false] 90 31) := by
  have e := hfa.symm.trans (PySem.W.mg_of X G a31)
  cases e
  exact ⟨_, fun s v => .of_eq rfl, fun base _ _ => law_fn (mod_mk X G a0 l0 c0 k0 a1 l1 c1 k1 a2 l2 c2 k2 a3 l3 c3 k3 a4 l4 c4 k4 a5 l5 c5 k5 a6 l6 c6 k6 a7 l7 c7 k7 a8 l8 c8 k8 a9 l9 c9 k9 a10 l10 c10 k10 a11 l11 c11 k11 a12 l12 c12 k12 a13 l13 c13 k13 a14 l14 c14 k14 a15 l15 c15 k15 a16 l16 c16 k16 a17 l17 c17 k17 a18 l18 c18 k18 a19 l19 c19 k19 a20 l20 c20 k20 a21 l21 c21 k21 a22 l22 c22 k22 a23 l23 c23 k23 a24 l24 c24 k24 a25 l25 c25 k25 a26 l26 c26 k26 a27 l27 c27 k27 a28 l28 c28 k28 a29 l29 c29 k29 a30 l30 c30 k30 a31 l31 c31 k31 z0 z1 z2 z3 z4 z5 z6 z7 z8 z9 z10 z11 z12 z13 z14 z15 z16 z17 z18 z19 gc0 gc1 gc2 gc3 gc4) (li := 31) (fd := fd_law) rfl (fun_mk (st := (PySem.Challenge.pw_waylands_k02_net_things.main.body.getD 40 (.Pass ⟨0, 0, 0, 0⟩))) l31 c31 k31)⟩
end Mp
open PySem PySem.W PyProof.Rows
set_option maxHeartbeats 0 in
theorem PySem.Challenge.cw_waylands_k02_net_things_holds : PySem.Challenge.rw_waylands_k02_net_things.Holds := by
  w_on; o_law; k_head; (case hw => w_witness2)
  k_fill
  refine L2.walk_ofB (l := PySem.Challenge.rw_waylands_k02_net_things) (n := 63) (k := 90) (x := "script") (CX := fun w => L2.CX PySem.Challenge.rw_waylands_k02_net_things.prog w) (sp := fun w => Mp.SpAll (fun _ => 0) Mp.fds [false] 90 31) rfl (by decide) rfl ⟨rfl, by decide, by decide⟩ (fun w h Y => PySem.W.kIn_of Y) ?F ?S ?C
  case C =>
    intro w H s e s' h
    obtain ⟨_, _, _, _, _, _, _, _, _, _, _, _, h⟩ := h
    exact h
  case S =>
    intro w H a ns hl hb _ hS
    refine Mp.law_sp ?nl (Mp.pure_law ns hl hb) hS
    case nl => exact Mp.noList_of (Eq.refl true)
  case F =>
    intro w mg fa h KX G hmg
    refine' Mp.law_end KX G hmg ?a0 ?l0 ?c0 ?k0 ?a1 ?l1 ?c1 ?k1 ?a2 ?l2 ?c2 ?k2 ?a3 ?l3 ?c3 ?k3 ?a4 ?l4 ?c4 ?k4 ?a5 ?l5 ?c5 ?k5 ?a6 ?l6 ?c6 ?k6 ?a7 ?l7 ?c7 ?k7 ?a8 ?l8 ?c8 ?k8 ?a9 ?l9 ?c9 ?k9 ?a10 ?l10 ?c10 ?k10 ?a11 ?l11 ?c11 ?k11 ?a12 ?l12 ?c12 ?k12 ?a13 ?l13 ?c13 ?k13 ?a14 ?l14 ?c14 ?k14 ?a15 ?l15 ?c15 ?k15 ?a16 ?l16 ?c16 ?k16 ?a17 ?l17 ?c17 ?k17 ?a18 ?l18 ?c18 ?k18 ?a19 ?l19 ?c19 ?k19 ?a20 ?l20 ?c20 ?k20 ?a21 ?l21 ?c21 ?k21 ?a22 ?l22 ?c22 ?k22 ?a23 ?l23 ?c23 ?k23 ?a24 ?l24 ?c24 ?k24 ?a25 ?l25 ?c25 ?k25 ?a26 ?l26 ?c26 ?k26 ?a27 ?l27 ?c27 ?k27 ?a28 ?l28 ?c28 ?k28 ?a29 ?l29 ?c29 ?k29 ?a30 ?l30 ?c30 ?k30 ?a31 ?l31 ?c31 ?k31 ?z0 ?z1 ?z2 ?z3 ?z4 ?z5 ?z6 ?z7 ?z8 ?z9 ?z10 ?z11 ?z12 ?z13 ?z14 ?z15 ?z16 ?z17 ?z18 ?z19 ?gc0 ?gc1 ?gc2 ?gc3 ?gc4
    (case a0 => k_is); (case l0 => k_is); (case c0 => k_is); (case k0 => k_is); (case a1 => k_is); (case l1 => k_is); (case c1 => k_is); (case k1 => k_is); (case a2 => k_is); (case l2 => k_is); (case c2 => k_is); (case k2 => k_is); (case a3 => k_is); (case l3 => k_is); (case c3 => k_is); (case k3 => k_is); (case a4 => k_is); (case l4 => k_is); (case c4 => k_is); (case k4 => k_is); (case a5 => k_is); (case l5 => k_is); (case c5 => k_is); (case k5 => k_is); (case a6 => k_is); (case l6 => k_is); (case c6 => k_is); (case k6 => k_is); (case a7 => k_is); (case l7 => k_is); (case c7 => k_is); (case k7 => k_is); (case a8 => k_is); (case l8 => k_is); (case c8 => k_is); (case k8 => k_is); (case a9 => k_is); (case l9 => k_is); (case c9 => k_is); (case k9 => k_is); (case a10 => k_is); (case l10 => k_is); (case c10 => k_is); (case k10 => k_is); (case a11 => k_is); (case l11 => k_is); (case c11 => k_is); (case k11 => k_is); (case a12 => k_is); (case l12 => k_is); (case c12 => k_is); (case k12 => k_is); (case a13 => k_is); (case l13 => k_is); (case c13 => k_is); (case k13 => k_is); (case a14 => k_is); (case l14 => k_is); (case c14 => k_is); (case k14 => k_is); (case a15 => k_is); (case l15 => k_is); (case c15 => k_is); (case k15 => k_is); (case a16 => k_is); (case l16 => k_is); (case c16 => k_is); (case k16 => k_is); (case a17 => k_is); (case l17 => k_is); (case c17 => k_is); (case k17 => k_is); (case a18 => k_is); (case l18 => k_is); (case c18 => k_is); (case k18 => k_is); (case a19 => k_is); (case l19 => k_is); (case c19 => k_is); (case k19 => k_is); (case a20 => k_is); (case l20 => k_is); (case c20 => k_is); (case k20 => k_is); (case a21 => k_is); (case l21 => k_is); (case c21 => k_is); (case k21 => k_is); (case a22 => k_is); (case l22 => k_is); (case c22 => k_is); (case k22 => k_is); (case a23 => k_is); (case l23 => k_is); (case c23 => k_is); (case k23 => k_is); (case a24 => k_is); (case l24 => k_is); (case c24 => k_is); (case k24 => k_is); (case a25 => k_is); (case l25 => k_is); (case c25 => k_is); (case k25 => k_is); (case a26 => k_is); (case l26 => k_is); (case c26 => k_is); (case k26 => k_is); (case a27 => k_is); (case l27 => k_is); (case c27 => k_is); (case k27 => k_is); (case a28 => k_is); (case l28 => k_is); (case c28 => k_is); (case k28 => k_is); (case a29 => k_is); (case l29 => k_is); (case c29 => k_is); (case k29 => k_is); (case a30 => k_is); (case l30 => k_is); (case c30 => k_is); (case k30 => k_is); (case a31 => k_is); (case l31 => k_is); (case c31 => k_is); (case k31 => k_is); (case z0 => k_is); (case z1 => k_is); (case z2 => k_is); (case z3 => k_is); (case z4 => k_is); (case z5 => k_is); (case z6 => k_is); (case z7 => k_is); (case z8 => k_is); (case z9 => k_is); (case z10 => k_is); (case z11 => k_is); (case z12 => k_is); (case z13 => k_is); (case z14 => k_is); (case z15 => k_is); (case z16 => k_is); (case z17 => k_is); (case z18 => k_is); (case z19 => k_is); (case gc0 => k_is); (case gc1 => k_is); (case gc2 => k_is); (case gc3 => k_is); (case gc4 => k_is)
