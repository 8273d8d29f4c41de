import PyProof.Rows.All
import HandS.ForExc
import HandS.SlotsVar
import KE.KEqNest
import HandS.Wide
import HandS.Text
import HandS.IsInst
import HandS.More
import HandS.TupLen
import HandS.Style
import PyProof.Rows.StrTemp
import HandS.Iter
import HandS.Comp
import HandS.DictComp
import KE.KExcSuper
import HandS.TryOnly
import HandS.Strs
import HandS.Set
import HandS.SetTxt0
import HandS.SetFor
import KE.SortData
import KE.KExcLine
import PySem.Challenge.RW_groupclocks_k01_integers_and_names_judge
set_option Elab.async false
set_option linter.all false
section
set_option maxRecDepth 100000
set_option maxHeartbeats 2000000
open PySem PySem.Spec PyProof.Rows L2
namespace G
/-! data, owned data, environments -/
abbrev Kd := Sum Key (List Key)
inductive D where
  | non | bl (b : Bool) | int (i : Int) | str (x : Str)
  | tup (l : List D) | lst (l : List D) | dct (l : List (Kd × D)) | ins (c : Nat) (l : List D) | exn (c : Nat) (l : List D)
inductive O where
  | sh (d : D) | lst (l : List O) | dct (l : List (Kd × O)) | ins (c : Nat) (l : List O)
mutual
def O.toD : O → D
  | .sh d => d
  | .lst l => .lst (toDs l)
  | .dct l => .dct (toDk l)
  | .ins c l => .ins c (toDs l)
def toDs : List O → List D
  | [] => []
  | o :: l => o.toD :: toDs l
def toDk : List (Kd × O) → List (Kd × D)
  | [] => []
  | (k, o) :: l => (k, o.toD) :: toDk l
end
abbrev Env' := List (Option O)
/-- what the text has: the written part, the classes' addresses by number, the fields of the exceptions' classes -/
structure Cn where
  K : PySem.W.Frag
  cls : Nat → Addr
  ecl : Nat → Value
  fld : Nat → List Str
/-- an exception: its class, its fields -/
structure Xn where
  cls : Nat
  fs : List D
inductive Out (α : Type) where
  | ok (a : α) (ρ : Env') | exc (x : Xn) (ρ : Env') | bad
abbrev Fe := Env' → Out O
abbrev Fa := Env' → Out (List O)
def Out.bind {α β : Type} (x : Out α) (k : α → Env' → Out β) : Out β := match x with
  | .ok a ρ => k a ρ
  | .exc x ρ => .exc x ρ
  | .bad => .bad
@[simp] theorem bind_ok {α β : Type} (a : α) (ρ : Env') (k : α → Env' → Out β) : (Out.ok a ρ).bind k = k a ρ := rfl
@[simp] theorem bind_exc {α β : Type} (x : Xn) (ρ : Env') (k : α → Env' → Out β) : (Out.exc x ρ : Out α).bind k = .exc x ρ := rfl
@[simp] theorem bind_bad {α β : Type} (k : α → Env' → Out β) : (Out.bad : Out α).bind k = .bad := rfl

section
variable (C : Cn) (H : Hp) (S : Addr → Prop)
/-- a list of the written part -/
def KL (K : PySem.W.Frag) (a : Addr) (vs : List V) : Prop := vs.length ≤ sizeLine ∧ ∃ (its : List Value) (n : Nat), Vals vs its ∧ K.lookup a = some { cls := .type "list", data := .seq its.toArray n }
def LstD (K : PySem.W.Frag) (H : Hp) (S : Addr → Prop) (a : Addr) (vs : List V) : Prop := (S a ∧ Rd H a (.lst vs)) ∨ KL K a vs
mutual
def RepD : V → D → Prop
  | v, .non => v = .non
  | v, .bl b => v = .bl b
  | v, .int i => v = .int i
  | v, .str x => v = .str x
  | v, .tup l => ∃ a vs, v = .ref a ∧ H a = some (.tup vs) ∧ RepDs vs l
  | v, .lst l => ∃ a vs, v = .ref a ∧ LstD C.K H S a vs ∧ RepDs vs l
  | v, .dct l => ∃ a, v = .ref a ∧ S a ∧ ((∃ kvs, Rd H a (.dK kvs) ∧ RepK kvs l) ∨ (∃ kvs, Rd H a (.dT kvs) ∧ RepT kvs l))
  | v, .ins c l => ∃ a dx vs, v = .ref a ∧ S a ∧ SlAt H a (C.cls c) dx (vs.map some) ∧ RepDs vs l
  | v, .exn c l => False
def RepDs : List V → List D → Prop
  | vs, [] => vs = []
  | vs, d :: ds => ∃ v r, vs = v :: r ∧ RepD v d ∧ RepDs r ds
def RepK : List (Key × V) → List (Kd × D) → Prop
  | vs, [] => vs = []
  | vs, (k, d) :: ds => ∃ j v r, vs = (j, v) :: r ∧ k = .inl j ∧ RepD v d ∧ RepK r ds
def RepT : List (List Key × V) → List (Kd × D) → Prop
  | vs, [] => vs = []
  | vs, (k, d) :: ds => ∃ j v r, vs = (j, v) :: r ∧ k = .inr j ∧ RepD v d ∧ RepT r ds
end
abbrev Set' := Addr → Prop
/-- a disjoint sum -/
def Sum' (F A B : Set') : Prop := (∀ a, F a ↔ A a ∨ B a) ∧ ∀ a, A a → ¬ B a
def Emp (F : Set') : Prop := ∀ a, ¬ F a
mutual
def RepO : V → O → Set' → Prop
  | v, .sh d, F => Emp F ∧ RepD C H S v d
  | v, .lst l, F => ∃ a vs A, v = .ref a ∧ H a = some (.lst vs) ∧ RepOs vs l A ∧ Sum' F (fun b => b = a) A
  | v, .dct l, F => ∃ a A, v = .ref a ∧ (l.map (·.1)).Nodup ∧ ((∃ kvs, H a = some (.dK kvs) ∧ RepOK kvs l A) ∨ (∃ kvs, H a = some (.dT kvs) ∧ RepOT kvs l A)) ∧ Sum' F (fun b => b = a) A
  | v, .ins c l, F => ∃ a dx vs A, v = .ref a ∧ SlAt H a (C.cls c) dx (vs.map some) ∧ RepOs vs l A ∧ Sum' F (fun b => b = a) A
def RepOs : List V → List O → Set' → Prop
  | vs, [], F => vs = [] ∧ Emp F
  | vs, o :: os, F => ∃ v r A B, vs = v :: r ∧ RepO v o A ∧ RepOs r os B ∧ Sum' F A B
def RepOK : List (Key × V) → List (Kd × O) → Set' → Prop
  | vs, [], F => vs = [] ∧ Emp F
  | vs, (k, o) :: os, F => ∃ j v r A B, vs = (j, v) :: r ∧ k = .inl j ∧ RepO v o A ∧ RepOK r os B ∧ Sum' F A B
def RepOT : List (List Key × V) → List (Kd × O) → Set' → Prop
  | vs, [], F => vs = [] ∧ Emp F
  | vs, (k, o) :: os, F => ∃ j v r A B, vs = (j, v) :: r ∧ k = .inr j ∧ RepO v o A ∧ RepOT r os B ∧ Sum' F A B
end
def RepX : Option V → Option O → Set' → Prop
  | _, none, F => Emp F
  | x, some o, F => ∃ v, x = some v ∧ RepO C H S v o F
def RepE : List (Option V) → Env' → Set' → Prop
  | σ, [], F => σ = [] ∧ Emp F
  | σ, r :: ρ, F => ∃ x t A B, σ = x :: t ∧ RepX C H S x r A ∧ RepE t ρ B ∧ Sum' F A B
end
structure Wf (H : Hp) (S F : Set') : Prop where
  mu : ∀ a, F a → Mut (H a)
  ns : ∀ a, F a → ¬ S a
  so : ∀ a, S a → ∃ u, H a = some u
structure Fr (H : Hp) (S F : Set') (H' : Hp) (S' F' : Set') : Prop where
  keep : ∀ a u, H a = some u → ¬ F a → H' a = some u
  sub : ∀ a, S a → S' a
  new : ∀ a, S' a → S a ∨ F a ∨ H a = none
  fnew : ∀ a, F' a → F a ∨ H a = none
theorem mut_some {o : Option HO} (h : Mut o) : ∃ u, o = some u := by
  cases o with
  | none => exact h.elim
  | some u => exact ⟨u, rfl⟩
theorem Fr.refl {H : Hp} {S F : Set'} : Fr H S F H S F := ⟨fun _ _ e _ => e, fun _ h => h, fun _ h => .inl h, fun _ h => .inl h⟩
theorem Fr.trans {H H1 H2 : Hp} {S S1 S2 F F1 F2 : Set'} (x : Fr H S F H1 S1 F1) (y : Fr H1 S1 F1 H2 S2 F2) : Fr H S F H2 S2 F2 := by
  have nn : ∀ a, H1 a = none → F a ∨ H a = none := fun a e => by
    by_cases f : F a
    · exact .inl f
    · cases q : H a with
      | none => exact .inr rfl
      | some u => rw [x.keep a u q f] at e; cases e
  refine ⟨fun a u e nf => y.keep a u (x.keep a u e nf) fun f1 => ?_, fun a h => y.sub a (x.sub a h), fun a h => ?_, fun a h => ?_⟩
  · rcases x.fnew a f1 with f | f
    · exact nf f
    · rw [e] at f; cases f
  · rcases y.new a h with h | h | h
    · exact x.new a h
    · exact .inr (x.fnew a h)
    · exact .inr (nn a h)
  · rcases y.fnew a h with h | h
    · exact x.fnew a h
    · exact nn a h
/-- what shared data lean on is kept -/
structure Kp (H : Hp) (S : Set') (H' : Hp) (S' : Set') : Prop where
  sh : ∀ a u, S a → H a = some u → H' a = some u
  tp : ∀ a u, ¬ Mut (some u) → H a = some u → H' a = some u
  sub : ∀ a, S a → S' a
theorem Fr.kp {H H' : Hp} {S S' F F' : Set'} (w : Wf H S F) (x : Fr H S F H' S' F') : Kp H S H' S' :=
  ⟨fun a u s e => x.keep a u e fun f => w.ns a f s, fun a u n e => x.keep a u e fun f => n (by rw [← e]; exact w.mu a f), x.sub⟩
section
variable {C : Cn} {H H' : Hp} {S S' : Set'}
theorem Kp.rds (k : Kp H S H' S') {a : Addr} {u : HO} (s : S a) (h : Rd H a u) : Rd H' a u := by
  rcases h with h | ⟨o, h⟩
  · exact .inl (k.sh _ _ s h)
  · exact .inr ⟨o, k.sh _ _ s h⟩
theorem Kp.lst {K : PySem.W.Frag} (k : Kp H S H' S') {a : Addr} {xs : List V} (h : LstD K H S a xs) : LstD K H' S' a xs := by
  rcases h with ⟨s, h⟩ | h
  · exact .inl ⟨k.sub a s, k.rds s h⟩
  · exact .inr h
theorem Kp.slat (k : Kp H S H' S') {a D dx : Addr} {vs : List (Option V)} (s : S a) (h : SlAt H a D dx vs) : SlAt H' a D dx vs := by
  obtain ⟨h1, h2, h3⟩ := h
  refine ⟨k.tp _ _ (fun z => z) h1, h2, ?_⟩
  rcases h3 with h3 | ⟨e, h3⟩
  · exact .inl (k.sh _ _ s h3)
  · exact .inr ⟨e, k.sh _ _ s h3⟩
theorem Kp.slat' (k : Kp H S H' S') {a D dx : Addr} {vs : List (Option V)} (s : H' a = H a) (h : SlAt H a D dx vs) : SlAt H' a D dx vs := by
  obtain ⟨h1, h2, h3⟩ := h
  refine ⟨k.tp _ _ (fun z => z) h1, h2, ?_⟩
  rw [s]; exact h3
mutual
theorem RepD.mono (k : Kp H S H' S') : ∀ {v : V} {d : D}, RepD C H S v d → RepD C H' S' v d
  | _, .non, h => h
  | _, .bl _, h => h
  | _, .int _, h => h
  | _, .str _, h => h
  | _, .tup l, h => by
    obtain ⟨a, vs, e, h1, h2⟩ := h
    exact ⟨a, vs, e, k.tp _ _ (fun z => z) h1, RepDs.mono k h2⟩
  | _, .lst l, h => by
    obtain ⟨a, vs, e, h1, h2⟩ := h
    exact ⟨a, vs, e, k.lst h1, RepDs.mono k h2⟩
  | _, .dct l, h => by
    obtain ⟨a, e, s, h⟩ := h
    refine ⟨a, e, k.sub a s, ?_⟩
    rcases h with ⟨kvs, h1, h2⟩ | ⟨kvs, h1, h2⟩
    · exact .inl ⟨kvs, k.rds s h1, RepK.mono k h2⟩
    · exact .inr ⟨kvs, k.rds s h1, RepT.mono k h2⟩
  | _, .ins _ l, h => by
    obtain ⟨a, dx, vs, e, s, h1, h2⟩ := h
    exact ⟨a, dx, vs, e, k.sub a s, k.slat s h1, RepDs.mono k h2⟩
theorem RepDs.mono (k : Kp H S H' S') : ∀ {vs : List V} {ds : List D}, RepDs C H S vs ds → RepDs C H' S' vs ds
  | _, [], h => h
  | _, d :: ds, h => by
    obtain ⟨v, r, e, h1, h2⟩ := h
    exact ⟨v, r, e, RepD.mono k h1, RepDs.mono k h2⟩
theorem RepK.mono (k : Kp H S H' S') : ∀ {vs : List (Key × V)} {ds : List (Kd × D)}, RepK C H S vs ds → RepK C H' S' vs ds
  | _, [], h => h
  | _, (i, d) :: ds, h => by
    obtain ⟨j, v, r, e, e2, h1, h2⟩ := h
    exact ⟨j, v, r, e, e2, RepD.mono k h1, RepK.mono k h2⟩
theorem RepT.mono (k : Kp H S H' S') : ∀ {vs : List (List Key × V)} {ds : List (Kd × D)}, RepT C H S vs ds → RepT C H' S' vs ds
  | _, [], h => h
  | _, (i, d) :: ds, h => by
    obtain ⟨j, v, r, e, e2, h1, h2⟩ := h
    exact ⟨j, v, r, e, e2, RepD.mono k h1, RepT.mono k h2⟩
end
theorem Sum'.l {F A B : Set'} (s : Sum' F A B) {a : Addr} (h : A a) : F a := (s.1 a).mpr (.inl h)
theorem Sum'.r {F A B : Set'} (s : Sum' F A B) {a : Addr} (h : B a) : F a := (s.1 a).mpr (.inr h)
mutual
theorem RepO.mono (k : Kp H S H' S') : ∀ {v : V} {o : O} {A : Set'}, (∀ a, A a → H' a = H a) → RepO C H S v o A → RepO C H' S' v o A
  | _, .sh d, A, _, h => ⟨h.1, RepD.mono k h.2⟩
  | _, .lst l, A, ka, h => by
    obtain ⟨a, vs, B, e, h1, h2, s⟩ := h
    exact ⟨a, vs, B, e, by rw [ka a (s.l rfl)]; exact h1, RepOs.mono k (fun b hb => ka b (s.r hb)) h2, s⟩
  | _, .dct l, A, ka, h => by
    obtain ⟨a, B, e, nd, h1, s⟩ := h
    refine ⟨a, B, e, nd, ?_, s⟩
    rcases h1 with ⟨kvs, h1, h2⟩ | ⟨kvs, h1, h2⟩
    · exact .inl ⟨kvs, by rw [ka a (s.l rfl)]; exact h1, RepOK.mono k (fun b hb => ka b (s.r hb)) h2⟩
    · exact .inr ⟨kvs, by rw [ka a (s.l rfl)]; exact h1, RepOT.mono k (fun b hb => ka b (s.r hb)) h2⟩
  | _, .ins _ l, A, ka, h => by
    obtain ⟨a, dx, vs, B, e, h1, h2, s⟩ := h
    exact ⟨a, dx, vs, B, e, k.slat' (ka a (s.l rfl)) h1, RepOs.mono k (fun b hb => ka b (s.r hb)) h2, s⟩
theorem RepOs.mono (k : Kp H S H' S') : ∀ {vs : List V} {os : List O} {A : Set'}, (∀ a, A a → H' a = H a) → RepOs C H S vs os A → RepOs C H' S' vs os A
  | _, [], A, _, h => h
  | _, o :: os, A, ka, h => by
    obtain ⟨v, r, B, C, e, h1, h2, s⟩ := h
    exact ⟨v, r, B, C, e, RepO.mono k (fun b hb => ka b (s.l hb)) h1, RepOs.mono k (fun b hb => ka b (s.r hb)) h2, s⟩
theorem RepOK.mono (k : Kp H S H' S') : ∀ {vs : List (Key × V)} {os : List (Kd × O)} {A : Set'}, (∀ a, A a → H' a = H a) → RepOK C H S vs os A → RepOK C H' S' vs os A
  | _, [], A, _, h => h
  | _, (i, o) :: os, A, ka, h => by
    obtain ⟨j, v, r, B, C, e, e2, h1, h2, s⟩ := h
    exact ⟨j, v, r, B, C, e, e2, RepO.mono k (fun b hb => ka b (s.l hb)) h1, RepOK.mono k (fun b hb => ka b (s.r hb)) h2, s⟩
theorem RepOT.mono (k : Kp H S H' S') : ∀ {vs : List (List Key × V)} {os : List (Kd × O)} {A : Set'}, (∀ a, A a → H' a = H a) → RepOT C H S vs os A → RepOT C H' S' vs os A
  | _, [], A, _, h => h
  | _, (i, o) :: os, A, ka, h => by
    obtain ⟨j, v, r, B, C, e, e2, h1, h2, s⟩ := h
    exact ⟨j, v, r, B, C, e, e2, RepO.mono k (fun b hb => ka b (s.l hb)) h1, RepOT.mono k (fun b hb => ka b (s.r hb)) h2, s⟩
end
theorem RepX.mono (k : Kp H S H' S') : ∀ {x : Option V} {o : Option O} {A : Set'}, (∀ a, A a → H' a = H a) → RepX C H S x o A → RepX C H' S' x o A
  | _, none, A, _, h => h
  | _, some o, A, ka, ⟨v, e, h⟩ => ⟨v, e, h.mono k ka⟩
theorem RepE.mono (k : Kp H S H' S') : ∀ {σ : List (Option V)} {ρ : Env'} {A : Set'}, (∀ a, A a → H' a = H a) → RepE C H S σ ρ A → RepE C H' S' σ ρ A
  | _, [], A, _, h => h
  | _, r :: ρ, A, ka, h => by
    obtain ⟨x, t, B, C, e, h1, h2, s⟩ := h
    exact ⟨x, t, B, C, e, h1.mono k (fun b hb => ka b (s.l hb)), RepE.mono k (fun b hb => ka b (s.r hb)) h2, s⟩
/-! owned data become shared -/
mutual
theorem RepO.share : ∀ {v : V} {o : O} {A : Set'} {S' : Set'}, (∀ a, S a → S' a) → (∀ a, A a → S' a) → RepO C H S v o A → RepD C H S' v o.toD
  | _, .sh d, A, S', ks, ka, h => RepD.mono ⟨fun _ _ _ e => e, fun _ _ _ e => e, ks⟩ h.2
  | _, .lst l, A, S', ks, ka, h => by
    obtain ⟨a, vs, B, e, h1, h2, s⟩ := h
    exact ⟨a, vs, e, .inl ⟨ka a (s.l rfl), .inl h1⟩, RepOs.share ks (fun b hb => ka b (s.r hb)) h2⟩
  | _, .dct l, A, S', ks, ka, h => by
    obtain ⟨a, B, e, nd, h1, s⟩ := h
    refine ⟨a, e, ka a (s.l rfl), ?_⟩
    rcases h1 with ⟨kvs, h1, h2⟩ | ⟨kvs, h1, h2⟩
    · exact .inl ⟨kvs, .inl h1, RepOK.share ks (fun b hb => ka b (s.r hb)) h2⟩
    · exact .inr ⟨kvs, .inl h1, RepOT.share ks (fun b hb => ka b (s.r hb)) h2⟩
  | _, .ins _ l, A, S', ks, ka, h => by
    obtain ⟨a, dx, vs, B, e, h1, h2, s⟩ := h
    exact ⟨a, dx, vs, e, ka a (s.l rfl), h1, RepOs.share ks (fun b hb => ka b (s.r hb)) h2⟩
theorem RepOs.share : ∀ {vs : List V} {os : List O} {A : Set'} {S' : Set'}, (∀ a, S a → S' a) → (∀ a, A a → S' a) → RepOs C H S vs os A → RepDs C H S' vs (toDs os)
  | _, [], A, S', _, _, h => h.1
  | _, o :: os, A, S', ks, ka, h => by
    obtain ⟨v, r, B, C, e, h1, h2, s⟩ := h
    exact ⟨v, r, e, RepO.share ks (fun b hb => ka b (s.l hb)) h1, RepOs.share ks (fun b hb => ka b (s.r hb)) h2⟩
theorem RepOK.share : ∀ {vs : List (Key × V)} {os : List (Kd × O)} {A : Set'} {S' : Set'}, (∀ a, S a → S' a) → (∀ a, A a → S' a) → RepOK C H S vs os A → RepK C H S' vs (toDk os)
  | _, [], A, S', _, _, h => h.1
  | _, (i, o) :: os, A, S', ks, ka, h => by
    obtain ⟨j, v, r, B, C, e, e2, h1, h2, s⟩ := h
    exact ⟨j, v, r, e, e2, RepO.share ks (fun b hb => ka b (s.l hb)) h1, RepOK.share ks (fun b hb => ka b (s.r hb)) h2⟩
theorem RepOT.share : ∀ {vs : List (List Key × V)} {os : List (Kd × O)} {A : Set'} {S' : Set'}, (∀ a, S a → S' a) → (∀ a, A a → S' a) → RepOT C H S vs os A → RepT C H S' vs (toDk os)
  | _, [], A, S', _, _, h => h.1
  | _, (i, o) :: os, A, S', ks, ka, h => by
    obtain ⟨j, v, r, B, C, e, e2, h1, h2, s⟩ := h
    exact ⟨j, v, r, e, e2, RepO.share ks (fun b hb => ka b (s.l hb)) h1, RepOT.share ks (fun b hb => ka b (s.r hb)) h2⟩
end
end
abbrev Un' (A B : Set') : Set' := fun a => A a ∨ B a
def Dj (A B : Set') : Prop := ∀ a, A a → ¬ B a
section
variable {C : Cn} {H H' H1 H2 : Hp} {S S' S1 S2 F F' F1 F2 A B : Set'}
theorem Wf.share (w : Wf H S (Un' A F)) (d : Dj A F) : Wf H (Un' S A) F :=
  ⟨fun a f => w.mu a (.inr f), fun a f s => s.elim (fun s => w.ns a (.inr f) s) fun s => d a s f, fun a s => s.elim (fun s => w.so a s) fun s => mut_some (w.mu a (.inl s))⟩
theorem Wf.drop (w : Wf H S (Un' A F)) : Wf H S F := ⟨fun a f => w.mu a (.inr f), fun a f => w.ns a (.inr f), w.so⟩
theorem Fr.share (x : Fr H S F H' S' (Un' A F')) : Fr H S F H' (Un' S' A) F' :=
  ⟨x.keep, fun a s => .inl (x.sub a s), fun a s => s.elim (fun s => x.new a s) fun s => .inr (x.fnew a (.inl s)), fun a f => x.fnew a (.inr f)⟩
theorem Fr.drop (x : Fr H S F H' S' (Un' A F')) : Fr H S F H' S' F' := ⟨x.keep, x.sub, x.new, fun a f => x.fnew a (.inr f)⟩
/-- a temporary (A) beside what runs from F1 to B and F2 -/
theorem fr_tmp (w1 : Wf H1 S1 (Un' A F1)) (d1 : Dj A F1) (x : Fr H S F H1 S1 (Un' A F1)) (y : Fr H1 S1 F1 H2 S2 F2) (w2 : Wf H2 S2 F2) :
    (∀ a, A a → H2 a = H1 a) ∧ Dj A F2 ∧ Wf H2 S2 (Un' A F2) ∧ Fr H S F H2 S2 (Un' A F2) ∧ Kp H1 S1 H2 S2 := by
  have nn : ∀ a, A a → H1 a ≠ none := fun a h e => by
    obtain ⟨u, q⟩ := mut_some (w1.mu a (.inl h))
    rw [q] at e; cases e
  have ka : ∀ a, A a → H2 a = H1 a := fun a h => by
    obtain ⟨u, q⟩ := mut_some (w1.mu a (.inl h))
    rw [q]; exact y.keep a u q (d1 a h)
  have dj : Dj A F2 := fun a h f => (y.fnew a f).elim (fun f => d1 a h f) fun e => nn a h e
  have x' : Fr H S F H1 S1 (Un' A F1) := x
  have y' : Fr H1 S1 (Un' A F1) H2 S2 (Un' A F2) :=
    ⟨fun a u e nf => y.keep a u e fun f => nf (.inr f), y.sub, fun a s => (y.new a s).elim .inl fun h => h.elim (fun f => .inr (.inl (.inr f))) fun e => .inr (.inr e),
      fun a f => f.elim (fun f => .inl (.inl f)) fun f => (y.fnew a f).elim (fun f => .inl (.inr f)) .inr⟩
  refine ⟨ka, dj, ⟨fun a f => ?_, fun a f s => ?_, w2.so⟩, x'.trans y', y.kp w1.drop⟩
  · rcases f with f | f
    · rw [ka a f]; exact w1.mu a (.inl f)
    · exact w2.mu a f
  · rcases f with f | f
    · rcases y.new a s with q | q | q
      · exact w1.ns a (.inl f) q
      · exact d1 a f q
      · exact nn a f q
    · exact w2.ns a f s
end
end G
end

section
set_option maxRecDepth 100000
set_option maxHeartbeats 2000000
open PySem PySem.Spec PyProof.Rows L2
namespace G
/-! environments by slot -/
section
variable {C : Cn} {H : Hp} {S : Set'}
theorem Sum'.symm {F A B : Set'} (s : Sum' F A B) : Sum' F B A := ⟨fun a => (s.1 a).trans ⟨Or.symm, Or.symm⟩, fun a hb ha => s.2 a ha hb⟩
theorem RepE.len : ∀ {σ : List (Option V)} {ρ : Env'} {F : Set'}, RepE C H S σ ρ F → σ.length = ρ.length
  | _, [], _, h => by rw [h.1]; rfl
  | _, r :: ρ, _, h => by
    obtain ⟨x, t, A, B, e, _, h2, _⟩ := h
    rw [e, List.length_cons, List.length_cons, h2.len]
theorem RepE.take : ∀ {σ : List (Option V)} {ρ : Env'} {F : Set'} {i : Nat} {r : Option O}, RepE C H S σ ρ F → ρ[i]? = some r →
    ∃ x A B, σ[i]? = some x ∧ RepX C H S x r A ∧ RepE C H S σ (ρ.set i none) B ∧ Sum' F A B
  | _, [], _, i, _, _, e => by simp at e
  | _, r :: ρ, F, 0, r', h, e => by
    obtain ⟨x, t, A, B, e1, h1, h2, s⟩ := h
    have er : r = r' := by simpa using e
    subst er
    exact ⟨x, A, B, by rw [e1]; rfl, h1, ⟨x, t, fun _ => False, B, e1, fun a z => z, h2, ⟨fun a => ⟨.inr, fun q => q.elim False.elim id⟩, fun a z => z.elim⟩⟩, s⟩
  | _, r :: ρ, F, i + 1, r', h, e => by
    obtain ⟨x, t, A, B, e1, h1, h2, s⟩ := h
    obtain ⟨y, P, R, e2, h3, h4, s2⟩ := RepE.take h2 (i := i) (r := r') (by simpa using e)
    refine ⟨y, P, fun a => A a ∨ R a, by rw [e1]; simpa using e2, h3, ⟨x, t, A, R, e1, h1, h4, ⟨fun a => Iff.rfl, fun a z1 z2 => s.2 a z1 (s2.r z2)⟩⟩, ?_⟩
    constructor
    · intro a
      rw [s.1 a, s2.1 a]
      constructor
      · rintro (z | z | z)
        · exact .inr (.inl z)
        · exact .inl z
        · exact .inr (.inr z)
      · rintro (z | z | z)
        · exact .inr (.inl z)
        · exact .inl z
        · exact .inr (.inr z)
    · rintro a z (z2 | z2)
      · exact s.2 a z2 (s2.l z)
      · exact s2.2 a z z2
theorem RepE.put : ∀ {σ : List (Option V)} {ρ : Env'} {F A B : Set'} {i : Nat} {x : Option V} {r : Option O}, RepE C H S σ ρ B → ρ[i]? = some none → RepX C H S x r A → Sum' F A B →
    RepE C H S (σ.set i x) (ρ.set i r) F
  | _, [], _, _, _, i, _, _, _, e, _, _ => by simp at e
  | _, r :: ρ, F, P, B, 0, y, r', h, e, hx, s => by
    obtain ⟨x, t, A, R, e1, h1, h2, s1⟩ := h
    have er : r = none := by simpa using e
    subst er
    subst e1
    refine ⟨y, t, P, R, rfl, hx, h2, ?_, ?_⟩
    · intro a
      rw [s.1 a, s1.1 a]
      constructor
      · rintro (z | z | z)
        · exact .inl z
        · exact (h1 a z).elim
        · exact .inr z
      · rintro (z | z)
        · exact .inl z
        · exact .inr (.inr z)
    · exact fun a z1 z2 => s.2 a z1 (s1.r z2)
  | _, r :: ρ, F, P, B, i + 1, y, r', h, e, hx, s => by
    obtain ⟨x, t, A, R, e1, h1, h2, s1⟩ := h
    subst e1
    have q := RepE.put (F := fun a => P a ∨ R a) h2 (i := i) (x := y) (r := r') (by simpa using e) hx ⟨fun a => Iff.rfl, fun a z1 z2 => s.2 a z1 (s1.r z2)⟩
    refine ⟨x, t.set i y, A, fun a => P a ∨ R a, rfl, h1, q, ?_, ?_⟩
    · intro a
      rw [s.1 a, s1.1 a]
      constructor
      · rintro (z | z | z)
        · exact .inr (.inl z)
        · exact .inl z
        · exact .inr (.inr z)
      · rintro (z | z | z)
        · exact .inr (.inl z)
        · exact .inl z
        · exact .inr (.inr z)
    · rintro a z1 (z2 | z2)
      · exact s.2 a z2 (s1.l z1)
      · exact s1.2 a z1 z2
end
theorem RepK.len {C : Cn} {H : Hp} {S : Set'} : ∀ {vs : List (Key × V)} {ds : List (Kd × D)}, RepK C H S vs ds → vs.length = ds.length
  | _, [], h => by rw [show _ = [] from h]; rfl
  | _, (k, d) :: ds, h => by
    obtain ⟨j, v, r, rfl, _, _, h2⟩ := h
    rw [List.length_cons, List.length_cons, h2.len]
theorem RepT.len {C : Cn} {H : Hp} {S : Set'} : ∀ {vs : List (List Key × V)} {ds : List (Kd × D)}, RepT C H S vs ds → vs.length = ds.length
  | _, [], h => by rw [show _ = [] from h]; rfl
  | _, (k, d) :: ds, h => by
    obtain ⟨j, v, r, rfl, _, _, h2⟩ := h
    rw [List.length_cons, List.length_cons, h2.len]
theorem set_at {α : Type} : ∀ {l : List α} {i : Nat} {x : α}, l[i]? = some x → l.set i x = l
  | [], _, _, e => by simp at e
  | a :: l, 0, x, e => by have q : a = x := by simpa using e
                          rw [q]; rfl
  | a :: l, i + 1, x, e => by
    have q := set_at (l := l) (i := i) (x := x) (by simpa using e)
    show a :: l.set i x = a :: l
    rw [q]
/-- what a def's body (or a comprehension's block) is in -/
structure OkX (C : Cn) (X : Cx) : Prop where
  K : X.K = C.K
  calm : X.calm = true
  un : X.A.units + 200 < cLine
  nd : X.N.Nodup
def RepXn (C : Cn) (H : Hp) (S : Set') (x : Xn) (c : Value) (d : Option Addr) : Prop :=
  c = C.ecl x.cls ∧ (x.fs = [] ∨ ∃ a vs, d = some a ∧ S a ∧ H a = some (.xd ((C.fld x.cls).zip vs)) ∧ RepDs C H S vs x.fs)
def rE (C : Cn) (E : WX) (f : Fe) : TE := fun σ H Q => ∃ ρ S F, RepE C H S σ ρ F ∧ Wf H S F ∧ match f ρ with
  | .ok o ρ' => ∀ v H' S' F' A, RepE C H' S' σ ρ' F' → RepO C H' S' v o A → Wf H' S' (Un' A F') → Dj A F' → Fr H S F H' S' (Un' A F') → Q v H'
  | .exc x ρ' => ∀ c d H' S' F', RepE C H' S' σ ρ' F' → Wf H' S' F' → Fr H S F H' S' F' → RepXn C H' S' x c d → E c d σ H'
  | .bad => False
def rA (C : Cn) (E : WX) (f : Fa) : TA := fun σ H Q => ∃ ρ S F, RepE C H S σ ρ F ∧ Wf H S F ∧ match f ρ with
  | .ok os ρ' => ∀ vs H' S' F' A, RepE C H' S' σ ρ' F' → RepOs C H' S' vs os A → Wf H' S' (Un' A F') → Dj A F' → Fr H S F H' S' (Un' A F') → Q vs H'
  | .exc x ρ' => ∀ c d H' S' F', RepE C H' S' σ ρ' F' → Wf H' S' F' → Fr H S F H' S' F' → RepXn C H' S' x c d → E c d σ H'
  | .bad => False
def rT (C : Cn) (E : WX) (f : Env' → Out Bool) : TT := fun σ H Q => ∃ ρ S F, RepE C H S σ ρ F ∧ Wf H S F ∧ match f ρ with
  | .ok b ρ' => ∀ H' S' F', RepE C H' S' σ ρ' F' → Wf H' S' F' → Fr H S F H' S' F' → Q b H'
  | .exc x ρ' => ∀ c d H' S' F', RepE C H' S' σ ρ' F' → Wf H' S' F' → Fr H S F H' S' F' → RepXn C H' S' x c d → E c d σ H'
  | .bad => False
abbrev DE (C : Cn) (E : WX) (X : Cx) (e : Expr) (f : Fe) : Prop := PE X e (rE C E f)
abbrev DA (C : Cn) (E : WX) (X : Cx) (es : List Expr) (f : Fa) : Prop := PA X es (rA C E f)
abbrev DT (C : Cn) (E : WX) (X : Cx) (e : Expr) (f : Env' → Out Bool) : Prop := PT X e (rT C E f)
abbrev DW (C : Cn) (E : WX) (X : Cx) (e : Expr) (f : Env' → Out Bool) : Prop := PW X e (rT C E f)
theorem pe_imp {X : Cx} {e : Expr} {t t' : TE} (h : PE X e t) (hi : ∀ σ H Q, t' σ H Q → t σ H Q) : PE X e t' := ⟨fun pins s σ H Q I q => h.run pins s σ H Q I (hi σ H Q q)⟩
theorem pa_imp {X : Cx} {es : List Expr} {t t' : TA} (h : PA X es t) (hi : ∀ σ H Q, t' σ H Q → t σ H Q) : PA X es t' := ⟨fun pos pins s σ H Q I q => h.run pos pins s σ H Q I (hi σ H Q q)⟩
theorem pt_imp {X : Cx} {e : Expr} {t t' : TT} (h : PT X e t) (hi : ∀ σ H Q, t' σ H Q → t σ H Q) : PT X e t' := ⟨fun pins s σ H Q I q => h.run pins s σ H Q I (hi σ H Q q)⟩
theorem pw_imp {X : Cx} {e : Expr} {t t' : TT} (h : PW X e t) (hi : ∀ σ H Q, t' σ H Q → t σ H Q) : PW X e t' := ⟨fun whole pins s σ H Q I q => h.run whole pins s σ H Q I (hi σ H Q q)⟩
abbrev No : Set' := fun _ => False
theorem wf_no {H : Hp} {S F : Set'} (w : Wf H S F) : Wf H S (Un' No F) := ⟨fun a f => f.elim False.elim (w.mu a), fun a f => f.elim False.elim (w.ns a), w.so⟩
theorem dj_no {F : Set'} : Dj No F := fun _ h => h.elim
theorem emp_no : Emp No := fun _ h => h
theorem fr_no {H H' : Hp} {S S' F F' : Set'} (x : Fr H S F H' S' F') : Fr H S F H' S' (Un' No F') := ⟨x.keep, x.sub, x.new, fun a f => f.elim False.elim (x.fnew a)⟩
section
variable {C : Cn} {E : WX} {X : Cx} {σ : L2.St} {H H1 : Hp} {S S1 F F1 : Set'} {ρ ρ' : Env'}
/-- a shared value is the result -/
theorem ret_sh {Q : VK} {v : V} {d : D} (he : RepE C H1 S1 σ ρ' F1) (w : Wf H1 S1 F1) (x : Fr H S F H1 S1 F1) (r : RepD C H1 S1 v d)
    (h : ∀ v H' S' F' A, RepE C H' S' σ ρ' F' → RepO C H' S' v (.sh d) A → Wf H' S' (Un' A F') → Dj A F' → Fr H S F H' S' (Un' A F') → Q v H') : Q v H1 :=
  h v H1 S1 F1 No he ⟨emp_no, r⟩ (wf_no w) dj_no (fr_no x)
/-- a scalar constant -/
theorem de_const {e : Expr} {v : V} {d : D} (h : PE X e (tC v)) (r : ∀ H S, RepD C H S v d) : DE C E X e (fun ρ => .ok (.sh d) ρ) :=
  pe_imp h fun σ H Q ⟨ρ, S, F, he, w, q⟩ => ret_sh he w .refl (r H S) q
theorem de_int {i j pos} : DE C E X (.Constant (.int i) j pos) (fun ρ => .ok (.sh (.int i)) ρ) := de_const pe_int fun _ _ => rfl
theorem de_bl {b j pos} : DE C E X (.Constant (.bool b) j pos) (fun ρ => .ok (.sh (.bl b)) ρ) := de_const pe_bl fun _ _ => rfl
theorem de_non {j pos} : DE C E X (.Constant .none j pos) (fun ρ => .ok (.sh .non) ρ) := de_const pe_non fun _ _ => rfl
theorem de_str {x j pos} : DE C E X (.Constant (.str x) j pos) (fun ρ => .ok (.sh (.str x)) ρ) := de_const pe_str fun _ _ => rfl
theorem de_gint {x : Str} {i : Int} {t : Tok} {pos : Pos} (hg : Gl X x) (hm : X.mg x = some (.int i t)) (hd : (x == ("__debug__" : Str)) = false := by decide) : DE C E X (.Name x pos) (fun ρ => .ok (.sh (.int i)) ρ) :=
  de_const (v := .int i) (pe_glob hg hm ⟨t, rfl⟩ hd) fun _ _ => rfl
theorem de_gstr {x y : Str} {t : Tok} {pos : Pos} (hg : Gl X x) (hm : X.mg x = some (.str y t)) (hd : (x == ("__debug__" : Str)) = false := by decide) : DE C E X (.Name x pos) (fun ρ => .ok (.sh (.str y)) ρ) :=
  de_const (v := .str y) (pe_glob hg hm ⟨t, rfl⟩ hd) fun _ _ => rfl
/-- a name: what it holds; owned data are shared from now on -/
def eVar (i : Nat) : Fe := fun ρ => match ρ[i]? with
  | some (some (.sh d)) => .ok (.sh d) ρ
  | some (some o) => .ok (.sh o.toD) (ρ.set i (some (.sh o.toD)))
  | _ => .bad
theorem Sum'.un {F A B : Set'} (s : Sum' F A B) : F = Un' A B := funext fun a => propext (s.1 a)
theorem share_slot {i : Nat} {o : O} (he : RepE C H S σ ρ F) (w : Wf H S F) (e : ρ[i]? = some (some o)) :
    ∃ v A B, σ[i]? = some (some v) ∧ RepD C H (Un' S A) v o.toD ∧ RepE C H (Un' S A) σ (ρ.set i (some (.sh o.toD))) B ∧ Wf H (Un' S A) B ∧ Fr H S F H (Un' S A) B := by
  obtain ⟨x, A, B, e1, ⟨v, rfl, h1⟩, h2, s⟩ := he.take e
  have eu := s.un
  subst eu
  have k : Kp H S H (Un' S A) := ⟨fun _ _ _ e => e, fun _ _ _ e => e, fun _ => .inl⟩
  have r := RepO.share (S' := Un' S A) (fun _ => .inl) (fun _ => .inr) h1
  have w' := w.share s.2
  refine ⟨v, A, B, e1, r, ?_, w', Fr.share .refl⟩
  have hl : i < ρ.length := (List.getElem?_eq_some_iff.mp e).1
  have h3 : RepE C H (Un' S A) σ (ρ.set i none) B := h2.mono k fun _ _ => rfl
  have q := h3.put (i := i) (F := B) (A := No) (x := some v) (r := some (.sh o.toD)) (by simp [hl]) ⟨v, rfl, emp_no, r⟩ ⟨fun a => ⟨.inr, fun z => z.elim False.elim id⟩, fun a z => z.elim⟩
  rw [set_at e1, List.set_set] at q
  exact q
theorem de_var {i : Nat} {x : Str} {pos : Pos} (hN : X.N[i]? = some x) (hv : Vis X.env.scope x) (hd : (x == ("__debug__" : Str)) = false := by decide) (hcd : (x == ("__classdict__" : Str)) = false := by decide) : DE C E X (.Name x pos) (eVar i) := by
  refine pe_imp (pe_var hN hv hd hcd) fun σ H Q ⟨ρ, S, F, he, w, q⟩ => ?_
  cases e : ρ[i]? with
  | none => unfold eVar at q; rw [e] at q; exact q.elim
  | some r =>
    cases r with
    | none => unfold eVar at q; rw [e] at q; exact q.elim
    | some o =>
      obtain ⟨v, A, B, e1, r, he', w', fr⟩ := share_slot he w e
      refine ⟨v, e1, ?_⟩
      cases o with
      | sh d =>
        have eq : eVar i ρ = .ok (.sh d) ρ := by unfold eVar; rw [e]
        rw [eq] at q
        obtain ⟨x, A, B, e2, ⟨v', ev, h1⟩, _, _⟩ := he.take e
        rw [e1] at e2
        have : some v = x := by simpa using e2
        subst this
        cases ev
        exact ret_sh he w .refl h1.2 q
      | lst l =>
        have eq : eVar i ρ = .ok (.sh (O.lst l).toD) (ρ.set i (some (.sh (O.lst l).toD))) := by unfold eVar; rw [e]
        rw [eq] at q
        exact ret_sh he' w' fr r q
      | dct l =>
        have eq : eVar i ρ = .ok (.sh (O.dct l).toD) (ρ.set i (some (.sh (O.dct l).toD))) := by unfold eVar; rw [e]
        rw [eq] at q
        exact ret_sh he' w' fr r q
      | ins c l =>
        have eq : eVar i ρ = .ok (.sh (O.ins c l).toD) (ρ.set i (some (.sh (O.ins c l).toD))) := by unfold eVar; rw [e]
        rw [eq] at q
        exact ret_sh he' w' fr r q
/-! argument lists -/
def eNil : Fa := fun ρ => .ok [] ρ
def eCons (f : Fe) (g : Fa) : Fa := fun ρ => (f ρ).bind fun o ρ1 => (g ρ1).bind fun os ρ2 => .ok (o :: os) ρ2
theorem da_nil : DA C E X [] eNil := by
  refine pa_imp pa_nil fun σ H Q ⟨ρ, S, F, he, w, q⟩ => ?_
  exact q [] H S F No he ⟨rfl, emp_no⟩ (wf_no w) dj_no (fr_no .refl)
theorem un_assoc {A B D : Set'} : Un' A (Un' B D) = Un' (Un' A B) D := by
  funext a; apply propext; constructor
  · rintro (h | h | h)
    · exact .inl (.inl h)
    · exact .inl (.inr h)
    · exact .inr h
  · rintro ((h | h) | h)
    · exact .inl h
    · exact .inr (.inl h)
    · exact .inr (.inr h)
theorem dj_un {A B D : Set'} (h : Dj A (Un' B D)) (h2 : Dj B D) : Dj A B ∧ Dj (Un' A B) D := ⟨fun a x y => h a x (.inl y), fun a x y => x.elim (fun x => h a x (.inr y)) fun x => h2 a x y⟩
theorem da_cons {e : Expr} {es : List Expr} {f : Fe} {g : Fa} (h1 : DE C E X e f) (h2 : DA C E X es g) (hs : starEach (e :: es) X.env = (false, eval e X.env) :: starEach es X.env := by rfl) : DA C E X (e :: es) (eCons f g) := by
  refine pa_imp (pa_cons h1 h2 hs) fun σ H Q ⟨ρ, S, F, he, w, q⟩ => ⟨ρ, S, F, he, w, ?_⟩
  unfold eCons at q
  cases ef : f ρ with
  | bad => rw [ef] at q; exact q
  | exc x ρ' => rw [ef] at q; exact q
  | ok o ρ1 =>
    rw [ef] at q
    intro v H1 S1 F1 A he1 r1 w1 d1 fr1
    refine ⟨ρ1, S1, F1, he1, w1.drop, ?_⟩
    simp only [bind_ok] at q
    cases eg : g ρ1 with
    | bad => rw [eg] at q; exact q
    | exc x ρ' =>
      rw [eg] at q
      intro c d H2 S2 F2 he2 w2 fr2 rx
      exact q c d H2 S2 F2 he2 w2 (fr1.drop.trans fr2) rx
    | ok os ρ2 =>
      rw [eg] at q
      intro vs H2 S2 F2 B he2 r2 w2 d2 fr2
      obtain ⟨ka, d3, w3, fr3, k⟩ := fr_tmp w1 d1 fr1 fr2 w2
      obtain ⟨d4, d5⟩ := dj_un d3 d2
      have r1' := r1.mono k ka
      rw [un_assoc] at w3 fr3
      exact q (v :: vs) H2 S2 F2 (Un' A B) he2 ⟨v, vs, A, B, rfl, r1', r2, ⟨fun a => Iff.rfl, d4⟩⟩ w3 d5 fr3
end
end G
end

section
set_option maxRecDepth 100000
set_option maxHeartbeats 2000000
open PySem PySem.Spec PyProof.Rows L2
namespace G
structure Alc (H : Hp) (S : Set') (H' : Hp) (S' A : Set') : Prop where
  keep : ∀ a u, H a = some u → H' a = some u
  sub : ∀ a, S a → S' a
  new : ∀ a, S' a → S a ∨ H a = none
  fr : ∀ a, A a → H a = none ∧ Mut (H' a) ∧ ¬ S' a
  so : ∀ a, S' a → ∃ u, H' a = some u
def So (H : Hp) (S : Set') : Prop := ∀ a, S a → ∃ u, H a = some u
theorem Alc.refl {H : Hp} {S : Set'} (so : So H S) : Alc H S H S No := ⟨fun _ _ e => e, fun _ h => h, fun _ h => .inl h, fun _ h => h.elim, so⟩
theorem Alc.tup {H : Hp} {S : Set'} {p : Addr} {o : HO} (so : So H S) (n : H p = none) : Alc H S (upd H p o) S No :=
  ⟨fun a u e => by rw [upd_ne (ne_of_none e n)]; exact e, fun _ h => h, fun _ h => .inl h, fun _ h => h.elim, fun a s => by
    obtain ⟨u, e⟩ := so a s
    exact ⟨u, by rw [upd_ne (ne_of_none e n)]; exact e⟩⟩
/-- a new owned object -/
theorem Alc.own {H : Hp} {S : Set'} {p : Addr} {o : HO} (so : So H S) (n : H p = none) (m : Mut (some o)) : Alc H S (upd H p o) S (fun b => b = p) :=
  ⟨fun a u e => by rw [upd_ne (ne_of_none e n)]; exact e, fun _ h => h, fun _ h => .inl h, fun a h => by
    subst h
    exact ⟨n, by rw [upd_same]; exact m, fun s => by obtain ⟨u, e⟩ := so _ s; rw [n] at e; cases e⟩, fun a s => by
    obtain ⟨u, e⟩ := so a s
    exact ⟨u, by rw [upd_ne (ne_of_none e n)]; exact e⟩⟩
/-- a new shared object -/
theorem Alc.shr {H : Hp} {S : Set'} {p : Addr} {o : HO} (so : So H S) (n : H p = none) : Alc H S (upd H p o) (Un' S fun b => b = p) No :=
  ⟨fun a u e => by rw [upd_ne (ne_of_none e n)]; exact e, fun _ => .inl, fun a h => h.elim .inl fun e => .inr (by rw [e]; exact n), fun _ h => h.elim, fun a s => by
    rcases s with s | s
    · obtain ⟨u, e⟩ := so a s
      exact ⟨u, by rw [upd_ne (ne_of_none e n)]; exact e⟩
    · exact ⟨o, by rw [s, upd_same]⟩⟩
theorem Alc.kp {H H' : Hp} {S S' A : Set'} (x : Alc H S H' S' A) : Kp H S H' S' := ⟨fun a u _ e => x.keep a u e, fun a u _ e => x.keep a u e, x.sub⟩
section
variable {C : Cn} {E : WX} {X : Cx} {σ : L2.St} {H H1 H' : Hp} {S S1 S' F F1 A : Set'} {ρ ρ' : Env'}
theorem alc_step (he : RepE C H1 S1 σ ρ F1) (w : Wf H1 S1 F1) (x : Fr H S F H1 S1 F1) (y : Alc H1 S1 H' S' A) :
    RepE C H' S' σ ρ F1 ∧ Wf H' S' (Un' A F1) ∧ Dj A F1 ∧ Fr H S F H' S' (Un' A F1) := by
  have ka : ∀ a, F1 a → H' a = H1 a := fun a f => by
    obtain ⟨u, e⟩ := mut_some (w.mu a f)
    rw [e]; exact y.keep a u e
  have fr : Fr H1 S1 F1 H' S' (Un' A F1) := ⟨fun a u e _ => y.keep a u e, y.sub, fun a s => (y.new a s).elim .inl fun e => .inr (.inr e), fun a f => f.elim (fun f => .inr (y.fr a f).1) .inl⟩
  refine ⟨he.mono y.kp ka, ⟨fun a f => ?_, fun a f s => ?_, y.so⟩, fun a f g => ?_, x.trans fr⟩
  · rcases f with f | f
    · exact (y.fr a f).2.1
    · rw [ka a f]; exact w.mu a f
  · rcases f with f | f
    · exact (y.fr a f).2.2 s
    · rcases y.new a s with q | q
      · exact w.ns a f q
      · obtain ⟨u, e⟩ := mut_some (w.mu a f)
        rw [q] at e; cases e
  · obtain ⟨u, e⟩ := mut_some (w.mu a g)
    rw [(y.fr a f).1] at e; cases e
def rV2 (C : Cn) (g : D → D → Option O) : R2 := fun x y H Q => ∃ S dx dy, So H S ∧ RepD C H S x dx ∧ RepD C H S y dy ∧ ∃ o, g dx dy = some o ∧ ∀ v H' S' A, Alc H S H' S' A → RepO C H' S' v o A → Q v H'
def rV1 (C : Cn) (g : D → Option O) : V → Hp → VK → Prop := fun x H Q => ∃ S dx, So H S ∧ RepD C H S x dx ∧ ∃ o, g dx = some o ∧ ∀ v H' S' A, Alc H S H' S' A → RepO C H' S' v o A → Q v H'
def rVn (C : Cn) (g : List D → Option O) : List V → Hp → VK → Prop := fun xs H Q => ∃ S ds, So H S ∧ RepDs C H S xs ds ∧ ∃ o, g ds = some o ∧ ∀ v H' S' A, Alc H S H' S' A → RepO C H' S' v o A → Q v H'
def fin (o : Option O) (ρ : Env') : Out O := match o with
  | some o => .ok o ρ
  | none => .bad
@[simp] theorem fin_some (o : O) (ρ : Env') : fin (some o) ρ = .ok o ρ := rfl
@[simp] theorem fin_none (ρ : Env') : fin none ρ = .bad := rfl
def e1 (g : D → Option O) (f : Fe) : Fe := fun ρ => (f ρ).bind fun a ρ1 => fin (g a.toD) ρ1
def e2 (g : D → D → Option O) (f h : Fe) : Fe := fun ρ => (f ρ).bind fun a ρ1 => (h ρ1).bind fun b ρ2 => fin (g a.toD b.toD) ρ2
def eN (g : List D → Option O) (f : Fa) : Fe := fun ρ => (f ρ).bind fun as ρ1 => fin (g (toDs as)) ρ1
/-- behind an operation by values -/
theorem fin_op {Q : VK} {o : O} {og : Option O} (he : RepE C H1 S1 σ ρ F1) (w : Wf H1 S1 F1) (x : Fr H S F H1 S1 F1) (eo : og = some o)
    (q : match fin og ρ with
      | .ok o ρ' => ∀ v H' S' F' A, RepE C H' S' σ ρ' F' → RepO C H' S' v o A → Wf H' S' (Un' A F') → Dj A F' → Fr H S F H' S' (Un' A F') → Q v H'
      | .exc x ρ' => ∀ c d H' S' F', RepE C H' S' σ ρ' F' → Wf H' S' F' → Fr H S F H' S' F' → RepXn C H' S' x c d → E c d σ H'
      | .bad => False) : ∀ v H' S' A, Alc H1 S1 H' S' A → RepO C H' S' v o A → Q v H' := by
  subst eo
  intro v H' S' A y r
  obtain ⟨he', w', d, fr⟩ := alc_step he w x y
  exact q v H' S' F1 A he' r w' d fr
theorem fin_bad {Q : VK} {og : Option O} (q : match fin og ρ with
      | .ok o ρ' => ∀ v H' S' F' A, RepE C H' S' σ ρ' F' → RepO C H' S' v o A → Wf H' S' (Un' A F') → Dj A F' → Fr H S F H' S' (Un' A F') → Q v H'
      | .exc x ρ' => ∀ c d H' S' F', RepE C H' S' σ ρ' F' → Wf H' S' F' → Fr H S F H' S' F' → RepXn C H' S' x c d → E c d σ H'
      | .bad => False) : ∃ o, og = some o := by
  cases og with
  | none => exact q.elim
  | some o => exact ⟨o, rfl⟩
theorem r1_of {f : Fe} {g : D → Option O} {Q : VK} (q : rE C E (e1 g f) σ H Q) : rE C E f σ H (fun x H1 => rV1 C g x H1 Q) := by
  obtain ⟨ρ, S, F, he, w, q⟩ := q
  refine ⟨ρ, S, F, he, w, ?_⟩
  unfold e1 at q
  cases ef : f ρ with
  | bad => rw [ef] at q; exact q
  | exc x ρ' => rw [ef] at q; exact q
  | ok o ρ1 =>
    rw [ef] at q
    intro v H1 S1 F1 A he1 r1 w1 d1 fr1
    simp only [bind_ok] at q
    obtain ⟨o', eo⟩ := fin_bad q
    have k : Kp H1 S1 H1 (Un' S1 A) := ⟨fun _ _ _ e => e, fun _ _ _ e => e, fun _ => .inl⟩
    have w2 := w1.share d1
    exact ⟨Un' S1 A, o.toD, w2.so, r1.share (fun _ => .inl) (fun _ => .inr), o', eo, fin_op (he1.mono k fun _ _ => rfl) w2 fr1.share eo q⟩
theorem r2_of {f h : Fe} {g : D → D → Option O} {Q : VK} (q : rE C E (e2 g f h) σ H Q) : rE C E f σ H (fun x H1 => rE C E h σ H1 fun y H2 => rV2 C g x y H2 Q) := by
  obtain ⟨ρ, S, F, he, w, q⟩ := q
  refine ⟨ρ, S, F, he, w, ?_⟩
  unfold e2 at q
  cases ef : f ρ with
  | bad => rw [ef] at q; exact q
  | exc x ρ' => rw [ef] at q; exact q
  | ok o ρ1 =>
    rw [ef] at q
    intro v H1 S1 F1 A he1 r1 w1 d1 fr1
    simp only [bind_ok] at q
    refine ⟨ρ1, S1, F1, he1, w1.drop, ?_⟩
    cases eg : h ρ1 with
    | bad => rw [eg] at q; exact q
    | exc x ρ' =>
      rw [eg] at q
      intro c d H2 S2 F2 he2 w2 fr2 rx
      exact q c d H2 S2 F2 he2 w2 (fr1.drop.trans fr2) rx
    | ok o2 ρ2 =>
      rw [eg] at q
      simp only [bind_ok] at q
      intro v2 H2 S2 F2 B he2 r2 w2 d2 fr2
      obtain ⟨o', eo⟩ := fin_bad q
      obtain ⟨ka, d3, w3, fr3, k⟩ := fr_tmp w1 d1 fr1 fr2 w2
      obtain ⟨d4, d5⟩ := dj_un d3 d2
      have r1' := r1.mono k ka
      rw [un_assoc] at w3 fr3
      have k' : Kp H2 S2 H2 (Un' S2 (Un' A B)) := ⟨fun _ _ _ e => e, fun _ _ _ e => e, fun _ => .inl⟩
      have w4 := w3.share d5
      exact ⟨Un' S2 (Un' A B), o.toD, o2.toD, w4.so, r1'.share (fun _ => .inl) (fun _ z => .inr (.inl z)), r2.share (fun _ => .inl) (fun _ z => .inr (.inr z)), o', eo,
        fin_op (he2.mono k' fun _ _ => rfl) w4 fr3.share eo q⟩
theorem rn_of {f : Fa} {g : List D → Option O} {Q : VK} (q : rE C E (eN g f) σ H Q) : rA C E f σ H (fun xs H1 => rVn C g xs H1 Q) := by
  obtain ⟨ρ, S, F, he, w, q⟩ := q
  refine ⟨ρ, S, F, he, w, ?_⟩
  unfold eN at q
  cases ef : f ρ with
  | bad => rw [ef] at q; exact q
  | exc x ρ' => rw [ef] at q; exact q
  | ok os ρ1 =>
    rw [ef] at q
    intro v H1 S1 F1 A he1 r1 w1 d1 fr1
    simp only [bind_ok] at q
    obtain ⟨o', eo⟩ := fin_bad q
    have k : Kp H1 S1 H1 (Un' S1 A) := ⟨fun _ _ _ e => e, fun _ _ _ e => e, fun _ => .inl⟩
    have w2 := w1.share d1
    exact ⟨Un' S1 A, toDs os, w2.so, r1.share (fun _ => .inl) (fun _ => .inr), o', eo, fin_op (he1.mono k fun _ _ => rfl) w2 fr1.share eo q⟩
/-! operators, comparisons, built-in calls by values -/
theorem de_op {a b : Expr} {op : Operator} {pos : Pos} {f h : Fe} {g : D → D → Option O} (ho : OpR X (binaryOp op) (rV2 C g)) (ha : DE C E X a f) (hb : DE C E X b h) : DE C E X (.BinOp a op b pos) (e2 g f h) :=
  pe_imp (pe_op ho ha hb) fun _ _ _ q => r2_of q
theorem de_un {a : Expr} {op : UnaryOp} {pos : Pos} {f : Fe} {g : D → Option O} (ho : UnR X (unaryOp op) (rV1 C g)) (ha : DE C E X a f) : DE C E X (.UnaryOp op a pos) (e1 g f) :=
  pe_imp (pe_un ho ha) fun _ _ _ q => r1_of q
theorem de_cmp {a b : Expr} {op : CmpOp} {pos : Pos} {f h : Fe} {g : D → D → Option O} (ho : OpR X (compareOp op) (rV2 C g)) (ha : DE C E X a f) (hb : DE C E X b h) (hm : behindInMarks op b = false) : DE C E X (.Compare a [op] [b] pos) (e2 g f h) :=
  pe_imp (pe_cmpR ho ha hb hm) fun _ _ _ q => r2_of q
theorem de_callB {x : Str} {p pos : Pos} {e : Expr} {es : List Expr} {id : String} {g : List D → Option O} {f : Fa} (hc : CallR X (.builtin id) (rVn C g)) (hg : Gl X x) (hm : X.mg x = none) (hv : bootBuiltins x = some (.builtin id)) (ha : DA C E X (e :: es) f) (hn : x ≠ "__name__" := by decide) (hdb : (x == ("__debug__" : Str)) = false := by decide)
    (he : starEach (e :: es) X.env = (false, eval e X.env) :: starEach es X.env := by rfl) (hpl : (backTo pos (starEach es X.env)).any (·.1) = false := by rfl) : DE C E X (.Call (.Name x p) (e :: es) [] pos) (eN g f) :=
  pe_imp (pe_callB hc hg hm hv ha hn hdb he hpl) fun _ _ _ q => rn_of q
theorem de_callTy {x : Str} {p pos : Pos} {e : Expr} {es : List Expr} {T : String} {g : List D → Option O} {f : Fa} (hc : CallR X (.type T) (rVn C g)) (hg : Gl X x) (hm : X.mg x = none) (hv : bootBuiltins x = some (.type T)) (ha : DA C E X (e :: es) f) (hn : x ≠ "__name__" := by decide) (hdb : (x == ("__debug__" : Str)) = false := by decide)
    (he : starEach (e :: es) X.env = (false, eval e X.env) :: starEach es X.env := by rfl) (hpl : (backTo pos (starEach es X.env)).any (·.1) = false := by rfl) : DE C E X (.Call (.Name x p) (e :: es) [] pos) (eN g f) :=
  pe_imp (pe_callTy hc hg hm hv ha hn hdb he hpl) fun _ _ _ q => rn_of q
/-! displays -/
theorem one_line {n : Nat} (h : n ≤ 1000) : n ≤ sizeLine := Nat.le_trans h (by decide)
theorem RepOs.len : ∀ {vs : List V} {os : List O} {A : Set'}, RepOs C H S vs os A → vs.length = os.length
  | _, [], _, h => by rw [h.1]; rfl
  | _, o :: os, _, h => by
    obtain ⟨v, r, A, B, e, _, h2, _⟩ := h
    rw [e, List.length_cons, List.length_cons, h2.len]
theorem RepDs.len : ∀ {vs : List V} {ds : List D}, RepDs C H S vs ds → vs.length = ds.length
  | _, [], h => by rw [show _ = [] from h]; rfl
  | _, d :: ds, h => by
    obtain ⟨v, r, e, _, h2⟩ := h
    rw [e, List.length_cons, List.length_cons, h2.len]
def eTup (f : Fa) : Fe := fun ρ => (f ρ).bind fun os ρ1 => if os.length ≤ 1000 then .ok (.sh (.tup (toDs os))) ρ1 else .bad
def eLst (f : Fa) : Fe := fun ρ => (f ρ).bind fun os ρ1 => if os.length ≤ 1000 then .ok (.lst os) ρ1 else .bad
theorem de_tup {es : List Expr} {x1} {pos : Pos} {f : Fa} (h : DA C E X es f) : DE C E X (.Tuple es x1 pos) (eTup f) := by
  refine pe_imp (pe_tup h) fun σ H Q ⟨ρ, S, F, he, w, q⟩ => ⟨ρ, S, F, he, w, ?_⟩
  unfold eTup at q
  cases ef : f ρ with
  | bad => rw [ef] at q; exact q
  | exc x ρ' => rw [ef] at q; exact q
  | ok os ρ1 =>
    rw [ef] at q
    intro vs H1 S1 F1 A he1 r1 w1 d1 fr1
    simp only [bind_ok] at q
    by_cases hl : os.length ≤ 1000
    · rw [if_pos hl] at q
      refine ⟨one_line (by rw [r1.len]; exact hl), fun p hp => ?_⟩
      have k : Kp H1 S1 H1 (Un' S1 A) := ⟨fun _ _ _ e => e, fun _ _ _ e => e, fun _ => .inl⟩
      have w2 := w1.share d1
      have al := Alc.tup (o := .tup vs) (so := w2.so) hp
      obtain ⟨he', w', d, fr⟩ := alc_step (he1.mono k fun _ _ => rfl) w2 fr1.share al
      exact q (.ref p) _ _ F1 No he' ⟨emp_no, p, vs, rfl, upd_same, (r1.share (fun _ => .inl) fun _ => .inr).mono al.kp⟩ w' d fr
    · rw [if_neg hl] at q; exact q.elim
theorem de_lst {es : List Expr} {pos : Pos} {f : Fa} (h : DA C E X es f) : DE C E X (.List es pos) (eLst f) := by
  refine pe_imp (pe_lst h) fun σ H Q ⟨ρ, S, F, he, w, q⟩ => ⟨ρ, S, F, he, w, ?_⟩
  unfold eLst at q
  cases ef : f ρ with
  | bad => rw [ef] at q; exact q
  | exc x ρ' => rw [ef] at q; exact q
  | ok os ρ1 =>
    rw [ef] at q
    intro vs H1 S1 F1 A he1 r1 w1 d1 fr1
    simp only [bind_ok] at q
    by_cases hl : os.length ≤ 1000
    · rw [if_pos hl] at q
      refine ⟨one_line (by rw [r1.len]; exact hl), fun p hp => ?_⟩
      have al := Alc.own (o := .lst vs) (so := w1.so) hp trivial
      have he2 : RepE C (upd H1 p (.lst vs)) S1 σ ρ1 F1 := he1.mono al.kp fun a f => by
        obtain ⟨u, e⟩ := mut_some (w1.mu a (.inr f))
        rw [e]; exact al.keep a u e
      have kA : ∀ a, A a → upd H1 p (.lst vs) a = H1 a := fun a f => by
        obtain ⟨u, e⟩ := mut_some (w1.mu a (.inl f))
        rw [e]; exact al.keep a u e
      have kF : ∀ a, F1 a → upd H1 p (.lst vs) a = H1 a := fun a f => by
        obtain ⟨u, e⟩ := mut_some (w1.mu a (.inr f))
        rw [e]; exact al.keep a u e
      have np : ∀ a, Un' A F1 a → a ≠ p := fun a f e => by
        obtain ⟨u, q⟩ := mut_some (w1.mu a f)
        rw [e, hp] at q; cases q
      refine q (.ref p) _ S1 F1 (Un' (fun b => b = p) A) he2 ⟨p, vs, A, rfl, upd_same, r1.mono al.kp kA, fun a => Iff.rfl, fun a e f => np a (.inl f) e⟩ ⟨fun a f => ?_, fun a f s => ?_, al.so⟩ (fun a f g => ?_) ⟨fun a u e n => al.keep a u (fr1.keep a u e n), fr1.sub, fr1.new, fun a f => ?_⟩
      · rcases f with (f | f) | f
        · exact (al.fr a f).2.1
        · rw [kA a f]; exact w1.mu a (.inl f)
        · rw [kF a f]; exact w1.mu a (.inr f)
      · rcases f with (f | f) | f
        · exact (al.fr a f).2.2 s
        · exact w1.ns a (.inl f) s
        · exact w1.ns a (.inr f) s
      · rcases f with f | f
        · exact np a (.inr g) f
        · exact d1 a f g
      · rcases f with (f | f) | f
        · by_cases fa : F a
          · exact .inl fa
          · cases e : H a with
            | none => exact .inr rfl
            | some u =>
              have := fr1.keep a u e fa
              rw [show a = p from f, hp] at this; cases this
        · exact fr1.fnew a (.inl f)
        · exact fr1.fnew a (.inr f)
    · rw [if_neg hl] at q; exact q.elim
end
end G
end

section
set_option maxRecDepth 100000
set_option maxHeartbeats 2000000
open PySem PySem.Spec PyProof.Rows L2
namespace G
/-! == of plain data -/
mutual
def D.eqD : D → D → Bool
  | .non, .non => true
  | .bl a, .bl b => a == b
  | .bl a, .int b => (if a then 1 else 0) == b
  | .int a, .bl b => a == (if b then 1 else 0)
  | .int a, .int b => a == b
  | .str a, .str b => a == b
  | .tup l, .tup m => eqDs l m
  | .lst l, .lst m => eqDs l m
  | _, _ => false
def eqDs : List D → List D → Bool
  | [], [] => true
  | d :: l, e :: m => d.eqD e && eqDs l m
  | _, _ => false
end
mutual
/-- plain data of a depth of at most n -/
def D.pl : Nat → D → Bool
  | _, .non => true
  | _, .bl _ => true
  | _, .int _ => true
  | _, .str _ => true
  | n + 1, .tup l => plAll n l
  | n + 1, .lst l => plAll n l
  | _, _ => false
def plAll : Nat → List D → Bool
  | _, [] => true
  | n, d :: l => d.pl n && plAll n l
end
theorem plAll_mem : ∀ {n : Nat} {l : List D} {d : D}, plAll n l = true → d ∈ l → d.pl n = true
  | n, e :: l, d, h, hm => by
    have h' : e.pl n = true ∧ plAll n l = true := by simpa [plAll] using h
    rcases List.mem_cons.mp hm with rfl | hm
    · exact h'.1
    · exact plAll_mem h'.2 hm
  | n, [], d, h, hm => by simp at hm
mutual
theorem eqD_refl : ∀ (d : D) (n : Nat), d.pl n = true → d.eqD d = true
  | .non, _, _ => rfl
  | .bl b, _, _ => by simp [D.eqD]
  | .int b, _, _ => by simp [D.eqD]
  | .str b, _, _ => by simp [D.eqD]
  | .tup l, 0, h => by simp [D.pl] at h
  | .tup l, n + 1, h => eqDs_refl l n (by simpa [D.pl] using h)
  | .lst l, 0, h => by simp [D.pl] at h
  | .lst l, n + 1, h => eqDs_refl l n (by simpa [D.pl] using h)
  | .dct l, n, h => by simp [D.pl] at h
  | .ins _ l, n, h => by simp [D.pl] at h
  | .exn _ l, n, h => by simp [D.pl] at h
theorem eqDs_refl : ∀ (l : List D) (n : Nat), plAll n l = true → eqDs l l = true
  | [], _, _ => rfl
  | d :: l, n, h => by
    have h' : d.pl n = true ∧ plAll n l = true := by simpa [plAll] using h
    simp [eqDs, eqD_refl d n h'.1, eqDs_refl l n h'.2]
end
def eqAtJ (l m : List D) (j : Nat) : Bool := match l[j]?, m[j]? with
  | some d, some e => d.eqD e
  | _, _ => false
theorem eqDs_all : ∀ {l m : List D}, l.length = m.length → eqDs l m = (List.range l.length).all (eqAtJ l m)
  | [], [], _ => rfl
  | d :: l, e :: m, h => by
    have h' : l.length = m.length := by simpa using h
    rw [eqDs, eqDs_all h', List.length_cons, List.range_succ_eq_map, List.all_cons, List.all_map]
    rfl
theorem eqDs_len : ∀ {l m : List D}, l.length ≠ m.length → eqDs l m = false
  | [], [], h => (h rfl).elim
  | [], _ :: _, _ => rfl
  | _ :: _, [], _ => rfl
  | d :: l, e :: m, h => by
    have h' : l.length ≠ m.length := by simpa using h
    rw [eqDs, eqDs_len h', Bool.and_false]
theorem eqDs_min : ∀ {l m : List D}, eqDs l m = ((List.range (min l.length m.length)).all (eqAtJ l m) && l.length == m.length) := by
  intro l m
  by_cases h : l.length = m.length
  · rw [eqDs_all h, ← h, Nat.min_self]; simp
  · rw [eqDs_len h]
    have : (l.length == m.length) = false := by simpa using h
    rw [this, Bool.and_false]
theorem RepDs.get {C : Cn} {H : Hp} {S : Set'} : ∀ {vs : List V} {ds : List D} {i : Nat} {d : D}, RepDs C H S vs ds → ds[i]? = some d → ∃ v, vs[i]? = some v ∧ RepD C H S v d
  | _, [], _, _, _, e => by simp at e
  | _, d :: ds, 0, d', h, e => by
    obtain ⟨v, r, e1, h1, h2⟩ := h
    have q : d = d' := by simpa using e
    subst q
    exact ⟨v, by rw [e1]; rfl, h1⟩
  | _, d :: ds, i + 1, d', h, e => by
    obtain ⟨v, r, e1, h1, h2⟩ := h
    obtain ⟨u, e2, r2⟩ := h2.get (i := i) (d := d') (by simpa using e)
    exact ⟨u, by rw [e1]; simpa using e2, r2⟩
section
variable {C : Cn} {X : Cx} {pins : List (Addr × Obj)} {σ : L2.St} {H : Hp} {s : Shared} {S S' : Set'}
theorem kl_sq {K : PySem.W.Frag} {H : Hp} {a : Addr} {vs : List V} (h : KL K a vs) : SqL K H a vs := by
  obtain ⟨z, its, n, r, e⟩ := h
  exact .inr ⟨_, its.toArray, n, e, rfl, rfl, rfl, by rw [List.size_toArray, ← r.length]; exact z, r⟩
theorem lst_sq0 {K : PySem.W.Frag} {H : Hp} {S : Set'} {a : Addr} {vs : List V} (h : LstD K H S a vs) : SqL K H a vs := h.elim (fun h => .inl h.2) kl_sq
theorem lst_sq (hK : X.K = C.K) {a : Addr} {vs : List V} (h : LstD C.K H S a vs) : SqL X.K H a vs := by rw [hK]; exact lst_sq0 h
theorem tup_sq (hK : X.K = C.K) {a : Addr} {vs : List V} (h : H a = some (.tup vs)) : SqT X.K H a vs := SqT.of h
theorem not_both (I : Inv X pins σ H s) {a : Addr} {vs ws : List V} (h : SqL X.K H a vs) (h' : SqT X.K H a ws) : False := by
  obtain ⟨its, _, ⟨o, n, e, c, _⟩, _⟩ := I.list h
  obtain ⟨its2, _, ⟨o2, e2, c2, _⟩, _⟩ := I.tuple h'
  rw [e] at e2
  have : o = o2 := Option.some.inj e2
  subst this
  rw [c] at c2
  exact absurd c2 (by decide)
mutual
theorem repD_inj (hK : X.K = C.K) (I : Inv X pins σ H s) : ∀ (d e : D) (n m : Nat) (v : V), d.pl n = true → e.pl m = true → RepD C H S v d → RepD C H S' v e → d = e
  | .non, e, n, m, v, h1, h2, r, q => by
    have : v = .non := r
    subst this
    cases e <;> simp [RepD, D.pl] at q h2 ⊢
  | .bl b, e, n, m, v, h1, h2, r, q => by
    have : v = .bl b := r
    subst this
    cases e <;> simp [RepD, D.pl] at q h2 ⊢
    exact q
  | .int b, e, n, m, v, h1, h2, r, q => by
    have : v = .int b := r
    subst this
    cases e <;> simp [RepD, D.pl] at q h2 ⊢
    exact q
  | .str b, e, n, m, v, h1, h2, r, q => by
    have : v = .str b := r
    subst this
    cases e <;> simp [RepD, D.pl] at q h2 ⊢
    exact q
  | .tup l, e, n, m, v, h1, h2, r, q => by
    obtain ⟨a, vs, rfl, ht, hr⟩ := r
    cases n with
    | zero => simp [D.pl] at h1
    | succ n =>
      cases e with
      | non => simp [RepD] at q
      | bl b => simp [RepD] at q
      | int b => simp [RepD] at q
      | str b => simp [RepD] at q
      | tup l' =>
        obtain ⟨b, ws, eb, ht', hr'⟩ := q
        injection eb with eb
        subst eb
        have e1 := I.tuple_inj (tup_sq hK ht) (tup_sq hK ht')
        subst e1
        cases m with
        | zero => simp [D.pl] at h2
        | succ m => rw [repDs_inj hK I l l' n m vs (by simpa [D.pl] using h1) (by simpa [D.pl] using h2) hr hr']
      | lst l' =>
        obtain ⟨b, ws, eb, ht', hr'⟩ := q
        injection eb with eb
        subst eb
        exact (not_both I (lst_sq hK ht') (tup_sq hK ht)).elim
      | dct l' => simp [D.pl] at h2
      | ins c l' => simp [D.pl] at h2
      | exn c l' => simp [D.pl] at h2
  | .lst l, e, n, m, v, h1, h2, r, q => by
    obtain ⟨a, vs, rfl, ht, hr⟩ := r
    cases n with
    | zero => simp [D.pl] at h1
    | succ n =>
      cases e with
      | non => simp [RepD] at q
      | bl b => simp [RepD] at q
      | int b => simp [RepD] at q
      | str b => simp [RepD] at q
      | lst l' =>
        obtain ⟨b, ws, eb, ht', hr'⟩ := q
        injection eb with eb
        subst eb
        have e1 := I.list_inj (lst_sq hK ht) (lst_sq hK ht')
        subst e1
        cases m with
        | zero => simp [D.pl] at h2
        | succ m => rw [repDs_inj hK I l l' n m vs (by simpa [D.pl] using h1) (by simpa [D.pl] using h2) hr hr']
      | tup l' =>
        obtain ⟨b, ws, eb, ht', hr'⟩ := q
        injection eb with eb
        subst eb
        exact (not_both I (lst_sq hK ht) (tup_sq hK ht')).elim
      | dct l' => simp [D.pl] at h2
      | ins c l' => simp [D.pl] at h2
      | exn c l' => simp [D.pl] at h2
  | .dct l, e, n, m, v, h1, h2, r, q => by simp [D.pl] at h1
  | .ins _ l, e, n, m, v, h1, h2, r, q => by simp [D.pl] at h1
  | .exn _ l, e, n, m, v, h1, h2, r, q => by simp [D.pl] at h1
theorem repDs_inj (hK : X.K = C.K) (I : Inv X pins σ H s) : ∀ (l m : List D) (n k : Nat) (vs : List V), plAll n l = true → plAll k m = true → RepDs C H S vs l → RepDs C H S' vs m → l = m
  | [], [], _, _, _, _, _, _, _ => rfl
  | [], e :: m, _, _, vs, _, _, r, q => by
    have : vs = [] := r
    subst this
    obtain ⟨_, _, e, _⟩ := q
    cases e
  | d :: l, [], _, _, vs, _, _, r, q => by
    have : vs = [] := q
    subst this
    obtain ⟨_, _, e, _⟩ := r
    cases e
  | d :: l, e :: m, n, k, vs, h1, h2, r, q => by
    obtain ⟨v, t, rfl, r1, r2⟩ := r
    obtain ⟨v', t', e1, q1, q2⟩ := q
    injection e1 with e1 e2
    subst e1 e2
    have h1' : d.pl n = true ∧ plAll n l = true := by simpa [plAll] using h1
    have h2' : e.pl k = true ∧ plAll k m = true := by simpa [plAll] using h2
    rw [repD_inj hK I d e n k v h1'.1 h2'.1 r1 q1, repDs_inj hK I l m n k t h1'.2 h2'.2 r2 q2]
end
theorem vals_get {vs : List V} {us : List Value} {j : Nat} (r : Vals vs us) {v : V} (e : vs[j]? = some v) (h : j < us.length) : RelV v us[j] := by
  obtain ⟨u, e2, r2⟩ := r.get e
  have : us[j]? = some us[j] := by simp [h]
  rw [this] at e2
  cases e2
  exact r2
open PySem.SeqAt in
theorem eq_at (hK : X.K = C.K) (I : Inv X pins σ H s) : ∀ (n : Nat) (A : Around), A.units + n < cLine → ∀ (d e : D) (v u : V) (v' u' : Value), d.pl n = true → e.pl n = true → RepD C H S v d → RepD C H S' u e → RelV v v' → RelV u u' →
    EqAt A s v' u' (d.eqD e) := by
  intro n
  induction n with
  | zero =>
    intro A hA d e v u v' u' h1 h2 r q rv ru
    cases d <;> simp [D.pl] at h1 <;> simp only [RepD] at r <;> subst r <;> cases e <;> simp [D.pl] at h2 <;> simp only [RepD] at q <;> subst q
    · cases rv; cases ru; exact EqAt.same _
    · cases rv; cases ru; exact EqAt.none_bool _
    · cases rv; obtain ⟨t, rfl⟩ := ru; exact EqAt.none_int _ _
    · cases rv; obtain ⟨t, rfl⟩ := ru; exact EqAt.none_str _ _
    · cases rv; cases ru; exact EqAt.bool_none _
    · cases rv; cases ru; exact EqAt.bool_bool _ _
    · cases rv; obtain ⟨t, rfl⟩ := ru; exact EqAt.bool_int _ _ _
    · cases rv; obtain ⟨t, rfl⟩ := ru; exact EqAt.bool_str _ _ _
    · obtain ⟨t, rfl⟩ := rv; cases ru; exact EqAt.int_none _ _
    · obtain ⟨t, rfl⟩ := rv; cases ru; exact EqAt.int_bool _ _ _
    · obtain ⟨t, rfl⟩ := rv; obtain ⟨t', rfl⟩ := ru; exact EqAt.int_int _ _ _ _
    · obtain ⟨t, rfl⟩ := rv; obtain ⟨t', rfl⟩ := ru; exact EqAt.int_str _ _ _ _
    · obtain ⟨t, rfl⟩ := rv; cases ru; exact EqAt.str_none _ _
    · obtain ⟨t, rfl⟩ := rv; cases ru; exact EqAt.str_bool _ _ _
    · obtain ⟨t, rfl⟩ := rv; obtain ⟨t', rfl⟩ := ru; exact EqAt.str_int _ _ _ _
    · obtain ⟨t, rfl⟩ := rv; obtain ⟨t', rfl⟩ := ru; exact EqAt.str_str _ _ _ _
  | succ n ih =>
    intro A hA d e v u v' u' h1 h2 r q rv ru
    have isL : ∀ {a : Addr} {vs : List V}, LstD C.K H S a vs ∨ LstD C.K H S' a vs → ∃ its : List Value, Vals vs its ∧ s.heap.IsList a its.toArray := fun {a vs} h => by
      obtain ⟨its, rr, p, _⟩ := I.list (a := a) (xs := vs) (h.elim (lst_sq hK) (lst_sq hK))
      exact ⟨its, rr, p.isList⟩
    have isT : ∀ {a : Addr} {vs : List V}, H a = some (.tup vs) → ∃ its : List Value, Vals vs its ∧ s.heap.IsTuple a its.toArray := fun {a vs} h => by
      obtain ⟨its, rr, p, _⟩ := I.tuple (tup_sq hK h)
      exact ⟨its, rr, p⟩
    have lo : A.units < cLine := by omega
    have hA1 : A.in1.units + n < cLine := by show A.units + 1 + n < cLine; omega
    cases d with
    | dct l => simp [D.pl] at h1
    | ins c l => simp [D.pl] at h1
    | exn c l => simp [D.pl] at h1
    | non =>
      have : v = .non := r
      subst this
      cases rv
      cases e with
      | dct l => simp [D.pl] at h2
      | ins c l => simp [D.pl] at h2
      | exn c l => simp [D.pl] at h2
      | non => have : u = .non := q; subst this; cases ru; exact EqAt.same _
      | bl b => have : u = .bl b := q; subst this; cases ru; exact EqAt.none_bool _
      | int b => have : u = .int b := q; subst this; obtain ⟨t, rfl⟩ := ru; exact EqAt.none_int _ _
      | str b => have : u = .str b := q; subst this; obtain ⟨t, rfl⟩ := ru; exact EqAt.none_str _ _
      | tup l => obtain ⟨a, vs, rfl, ht, _⟩ := q; cases ru; obtain ⟨its, _, p⟩ := isT ht; exact EqAt.none_tuple p lo
      | lst l => obtain ⟨a, vs, rfl, ht, _⟩ := q; cases ru; obtain ⟨its, _, p⟩ := isL (.inr ht); exact EqAt.none_list p lo
    | bl c =>
      have : v = .bl c := r
      subst this
      cases rv
      cases e with
      | dct l => simp [D.pl] at h2
      | ins c l => simp [D.pl] at h2
      | exn c l => simp [D.pl] at h2
      | non => have : u = .non := q; subst this; cases ru; exact EqAt.bool_none _
      | bl b => have : u = .bl b := q; subst this; cases ru; exact EqAt.bool_bool _ _
      | int b => have : u = .int b := q; subst this; obtain ⟨t, rfl⟩ := ru; exact EqAt.bool_int _ _ _
      | str b => have : u = .str b := q; subst this; obtain ⟨t, rfl⟩ := ru; exact EqAt.bool_str _ _ _
      | tup l => obtain ⟨a, vs, rfl, ht, _⟩ := q; cases ru; obtain ⟨its, _, p⟩ := isT ht; exact EqAt.bool_tuple _ p lo
      | lst l => obtain ⟨a, vs, rfl, ht, _⟩ := q; cases ru; obtain ⟨its, _, p⟩ := isL (.inr ht); exact EqAt.bool_list _ p lo
    | int c =>
      have : v = .int c := r
      subst this
      obtain ⟨t0, rfl⟩ := rv
      cases e with
      | dct l => simp [D.pl] at h2
      | ins c l => simp [D.pl] at h2
      | exn c l => simp [D.pl] at h2
      | non => have : u = .non := q; subst this; cases ru; exact EqAt.int_none _ _
      | bl b => have : u = .bl b := q; subst this; cases ru; exact EqAt.int_bool _ _ _
      | int b => have : u = .int b := q; subst this; obtain ⟨t, rfl⟩ := ru; exact EqAt.int_int _ _ _ _
      | str b => have : u = .str b := q; subst this; obtain ⟨t, rfl⟩ := ru; exact EqAt.int_str _ _ _ _
      | tup l => obtain ⟨a, vs, rfl, ht, _⟩ := q; cases ru; obtain ⟨its, _, p⟩ := isT ht; exact EqAt.int_tuple _ _ p lo
      | lst l => obtain ⟨a, vs, rfl, ht, _⟩ := q; cases ru; obtain ⟨its, _, p⟩ := isL (.inr ht); exact EqAt.int_list _ _ p lo
    | str c =>
      have : v = .str c := r
      subst this
      obtain ⟨t0, rfl⟩ := rv
      cases e with
      | dct l => simp [D.pl] at h2
      | ins c l => simp [D.pl] at h2
      | exn c l => simp [D.pl] at h2
      | non => have : u = .non := q; subst this; cases ru; exact EqAt.str_none _ _
      | bl b => have : u = .bl b := q; subst this; cases ru; exact EqAt.str_bool _ _ _
      | int b => have : u = .int b := q; subst this; obtain ⟨t, rfl⟩ := ru; exact EqAt.str_int _ _ _ _
      | str b => have : u = .str b := q; subst this; obtain ⟨t, rfl⟩ := ru; exact EqAt.str_str _ _ _ _
      | tup l => obtain ⟨a, vs, rfl, ht, _⟩ := q; cases ru; obtain ⟨its, _, p⟩ := isT ht; exact EqAt.str_tuple _ _ p lo
      | lst l => obtain ⟨a, vs, rfl, ht, _⟩ := q; cases ru; obtain ⟨its, _, p⟩ := isL (.inr ht); exact EqAt.str_list _ _ p lo
    | tup l =>
      obtain ⟨a, vs, rfl, ht, hr⟩ := id r
      cases rv
      obtain ⟨its, rr, p⟩ := isT ht
      cases e with
      | dct l => simp [D.pl] at h2
      | ins c l => simp [D.pl] at h2
      | exn c l => simp [D.pl] at h2
      | non => have : u = .non := q; subst this; cases ru; exact EqAt.tuple_none p lo
      | bl b => have : u = .bl b := q; subst this; cases ru; exact EqAt.tuple_bool _ p lo
      | int b => have : u = .int b := q; subst this; obtain ⟨t, rfl⟩ := ru; exact EqAt.tuple_int _ _ p lo
      | str b => have : u = .str b := q; subst this; obtain ⟨t, rfl⟩ := ru; exact EqAt.tuple_str _ _ p lo
      | lst m => obtain ⟨b, ws, rfl, ht2, _⟩ := q; cases ru; obtain ⟨its2, _, p2⟩ := isL (.inr ht2); exact EqAt.tuple_list p p2 lo
      | tup m =>
        obtain ⟨b, ws, rfl, ht2, hr2⟩ := id q
        cases ru
        obtain ⟨its2, rr2, p2⟩ := isT ht2
        by_cases hab : a = b
        · subst hab
          have := repD_inj hK I (.tup l) (.tup m) (n + 1) (n + 1) (.ref a) h1 h2 r q
          rw [← this, eqD_refl _ (n + 1) h1]
          exact EqAt.same _
        · have el : its.toArray.size = l.length := by rw [List.size_toArray, ← rr.length, hr.len]
          have em : its2.toArray.size = m.length := by rw [List.size_toArray, ← rr2.length, hr2.len]
          have := EqAt.of_refs hab (RcAt.tuples (A := A) (e := eqAtJ l m) p p2 lo fun j j1 j2 => by
            have l1 : j < l.length := by rw [← el]; exact j1
            have l2 : j < m.length := by rw [← em]; exact j2
            obtain ⟨x, ex, rx⟩ := hr.get (i := j) (d := l[j]) (by simp [l1])
            obtain ⟨y, ey, ry⟩ := hr2.get (i := j) (d := m[j]) (by simp [l2])
            have e0 : eqAtJ l m j = (l[j]).eqD (m[j]) := by unfold eqAtJ; simp [l1, l2]
            rw [e0]
            exact ih A.in1 hA1 _ _ x y _ _ (plAll_mem (by simpa [D.pl] using h1) (List.getElem_mem l1)) (plAll_mem (by simpa [D.pl] using h2) (List.getElem_mem l2)) rx ry
              (vals_get rr ex (by simpa using j1)) (vals_get rr2 ey (by simpa using j2)))
          rw [el, em, ← eqDs_min] at this
          exact this
    | lst l =>
      obtain ⟨a, vs, rfl, ht, hr⟩ := id r
      cases rv
      obtain ⟨its, rr, p⟩ := isL (.inl ht)
      cases e with
      | dct l => simp [D.pl] at h2
      | ins c l => simp [D.pl] at h2
      | exn c l => simp [D.pl] at h2
      | non => have : u = .non := q; subst this; cases ru; exact EqAt.list_none p lo
      | bl b => have : u = .bl b := q; subst this; cases ru; exact EqAt.list_bool _ p lo
      | int b => have : u = .int b := q; subst this; obtain ⟨t, rfl⟩ := ru; exact EqAt.list_int _ _ p lo
      | str b => have : u = .str b := q; subst this; obtain ⟨t, rfl⟩ := ru; exact EqAt.list_str _ _ p lo
      | tup m => obtain ⟨b, ws, rfl, ht2, _⟩ := q; cases ru; obtain ⟨its2, _, p2⟩ := isT ht2; exact EqAt.list_tuple p p2 lo
      | lst m =>
        obtain ⟨b, ws, rfl, ht2, hr2⟩ := id q
        cases ru
        obtain ⟨its2, rr2, p2⟩ := isL (.inr ht2)
        by_cases hab : a = b
        · subst hab
          have := repD_inj hK I (.lst l) (.lst m) (n + 1) (n + 1) (.ref a) h1 h2 r q
          rw [← this, eqD_refl _ (n + 1) h1]
          exact EqAt.same _
        · have el : its.toArray.size = l.length := by rw [List.size_toArray, ← rr.length, hr.len]
          have em : its2.toArray.size = m.length := by rw [List.size_toArray, ← rr2.length, hr2.len]
          by_cases hlen : l.length = m.length
          · have := EqAt.of_refs hab (RcAt.lists (A := A) (e := eqAtJ l m) p p2 (by rw [el, em, hlen]) lo fun j j1 j2 => by
              have l1 : j < l.length := by rw [← el]; exact j1
              have l2 : j < m.length := by rw [← em]; exact j2
              obtain ⟨x, ex, rx⟩ := hr.get (i := j) (d := l[j]) (by simp [l1])
              obtain ⟨y, ey, ry⟩ := hr2.get (i := j) (d := m[j]) (by simp [l2])
              have e0 : eqAtJ l m j = (l[j]).eqD (m[j]) := by unfold eqAtJ; simp [l1, l2]
              rw [e0]
              exact ih A.in1 hA1 _ _ x y _ _ (plAll_mem (by simpa [D.pl] using h1) (List.getElem_mem l1)) (plAll_mem (by simpa [D.pl] using h2) (List.getElem_mem l2)) rx ry
                (vals_get rr ex (by simpa using j1)) (vals_get rr2 ey (by simpa using j2)))
            rw [el, ← eqDs_all hlen] at this
            exact this
          · have := EqAt.of_refs hab (RcAt.lists_lengths (A := A) p p2 (by rw [el, em]; simpa using hlen) lo)
            rw [show (D.lst l).eqD (.lst m) = false from eqDs_len hlen]
            exact this
end
end G
end

section
set_option maxRecDepth 100000
set_option maxHeartbeats 2000000
open PySem PySem.Spec PyProof.Rows L2
namespace G
abbrev bO (b : Bool) : O := .sh (.bl b)
abbrev iO (i : Int) : O := .sh (.int i)
abbrev sO (x : Str) : O := .sh (.str x)
def big : Nat := 1000000
theorem big_line {n : Nat} (h : n ≤ big) : n ≤ sizeLine := Nat.le_trans h (by decide)
/-- the comparisons' own kinds -/
def eqG : D → D → Option Bool
  | .non, .non => some true
  | .non, .int _ => some false | .int _, .non => some false | .non, .bl _ => some false | .bl _, .non => some false | .non, .str _ => some false | .str _, .non => some false
  | .int a, .int b => some (a == b)
  | .bl a, .bl b => some (a == b)
  | .str a, .str b => some (a == b)
  | .int _, .str _ => some false | .str _, .int _ => some false | .bl _, .str _ => some false | .str _, .bl _ => some false
  | .lst l, .lst m => if (plAll 60 l && plAll 60 m) = true then some (eqDs l m) else if l.length = m.length then none else some false
  | .tup l, .tup m => if (plAll 60 l && plAll 60 m) = true then some (eqDs l m) else if (l.isEmpty || m.isEmpty) = true then some (l.isEmpty && m.isEmpty) else none
  | _, _ => none
def gEq (d e : D) : Option O := (eqG d e).map bO
def gNe (d e : D) : Option O := (eqG d e).map fun b => bO (!b)
theorem eqG_l {l m : List D} : eqG (.lst l) (.lst m) = if (plAll 60 l && plAll 60 m) = true then some (eqDs l m) else if l.length = m.length then none else some false := rfl
theorem eqG_t {l m : List D} : eqG (.tup l) (.tup m) = if (plAll 60 l && plAll 60 m) = true then some (eqDs l m) else if (l.isEmpty || m.isEmpty) = true then some (l.isEmpty && m.isEmpty) else none := rfl
theorem gEq_lst {l m : List D} (h : (plAll 60 l && plAll 60 m) = true) : gEq (.lst l) (.lst m) = some (bO (eqDs l m)) := by
  have : eqG (.lst l) (.lst m) = some (eqDs l m) := if_pos h
  unfold gEq; rw [this]; rfl
theorem gNe_lst {l m : List D} (h : (plAll 60 l && plAll 60 m) = true) : gNe (.lst l) (.lst m) = some (bO (!eqDs l m)) := by
  have : eqG (.lst l) (.lst m) = some (eqDs l m) := if_pos h
  unfold gNe; rw [this]; rfl
theorem gEq_tup {l m : List D} (h : (plAll 60 l && plAll 60 m) = true) : gEq (.tup l) (.tup m) = some (bO (eqDs l m)) := by
  have : eqG (.tup l) (.tup m) = some (eqDs l m) := if_pos h
  unfold gEq; rw [this]; rfl
theorem gNe_tup {l m : List D} (h : (plAll 60 l && plAll 60 m) = true) : gNe (.tup l) (.tup m) = some (bO (!eqDs l m)) := by
  have : eqG (.tup l) (.tup m) = some (eqDs l m) := if_pos h
  unfold gNe; rw [this]; rfl
theorem eqDs_nil0 : ∀ l : List D, eqDs l [] = l.isEmpty
  | [] => rfl
  | _ :: _ => rfl
/-- with [] any list is compared -/
theorem gEq_l0 {l : List D} : gEq (.lst l) (.lst []) = some (bO l.isEmpty) := by
  by_cases h : (plAll 60 l && plAll 60 []) = true
  · rw [gEq_lst h, eqDs_nil0]
  · have : eqG (.lst l) (.lst []) = some l.isEmpty := by
      rw [eqG_l, if_neg h]
      cases l with
      | nil => exact absurd rfl h
      | cons a l => rfl
    unfold gEq; rw [this]; rfl
theorem gNe_l0 {l : List D} : gNe (.lst l) (.lst []) = some (bO (!l.isEmpty)) := by
  by_cases h : (plAll 60 l && plAll 60 []) = true
  · rw [gNe_lst h, eqDs_nil0]
  · have : eqG (.lst l) (.lst []) = some l.isEmpty := by
      rw [eqG_l, if_neg h]
      cases l with
      | nil => exact absurd rfl h
      | cons a l => rfl
    unfold gNe; rw [this]; rfl
theorem gEq_t0 {l : List D} : gEq (.tup l) (.tup []) = some (bO l.isEmpty) := by
  by_cases h : (plAll 60 l && plAll 60 []) = true
  · rw [gEq_tup h, eqDs_nil0]
  · have : eqG (.tup l) (.tup []) = some l.isEmpty := by
      rw [eqG_t, if_neg h, if_pos (by simp)]; simp
    unfold gEq; rw [this]; rfl
theorem gNe_t0 {l : List D} : gNe (.tup l) (.tup []) = some (bO (!l.isEmpty)) := by
  by_cases h : (plAll 60 l && plAll 60 []) = true
  · rw [gNe_tup h, eqDs_nil0]
  · have : eqG (.tup l) (.tup []) = some l.isEmpty := by
      rw [eqG_t, if_neg h, if_pos (by simp)]; simp
    unfold gNe; rw [this]; rfl
section
variable {C : Cn} {X : Cx} {σ : L2.St} {H : Hp} {S : Set'} {Q : VK}
theorem q_sc {o : O} {v : V} {d : D} (so : So H S) (q : ∀ v H' S' A, Alc H S H' S' A → RepO C H' S' v o A → Q v H') (e : o = .sh d) (r : RepD C H S v d) : Q v H := by
  subst e
  exact q v H S No (Alc.refl so) ⟨emp_no, r⟩
theorem eq_scal {x y : V} {d e : D} (hs : scal x y = true) (r1 : RepD C H S x d) (r2 : RepD C H S y e) {b : Bool} (h : eqG d e = some b) : decide (x = y) = b := by
  cases d <;> cases e <;> simp [eqG] at h <;> simp [RepD] at r1 r2 <;> (try subst r1) <;> (try subst r2) <;> (try subst h) <;>
    first
    | exact dec_int
    | exact dec_bl
    | exact dec_str
    | rfl
    | (obtain ⟨a, rfl, _⟩ := r1; simp [scal] at hs)
theorem eq_seq {A : Around} {pins : List (Addr × Obj)} {s : Shared} (ok : OkX C X) (hA : A.units + 100 < cLine) (I : Inv X pins σ H s) {x y : V} {v u : Value} {d e : D} (rx : RelV x v) (ry : RelV y u) (r1 : RepD C H S x d) (r2 : RepD C H S y e)
    (hk : (∃ l m, d = .lst l ∧ e = .lst m) ∨ ∃ l m, d = .tup l ∧ e = .tup m) {b : Bool} (h : eqG d e = some b) :
    SeqAt.RcAt A s v u b ∧ SeqAt.RcNeAt A s v u (!b) := by
  have hA1 : A.in1.units + 60 < cLine := by show A.units + 1 + 60 < cLine; omega
  have lo : A.units < cLine := by omega
  rcases hk with ⟨l, m, rfl, rfl⟩ | ⟨l, m, rfl, rfl⟩
  · obtain ⟨a, vs, rfl, ht, hr⟩ := r1
    obtain ⟨c, ws, rfl, ht2, hr2⟩ := r2
    cases rx; cases ry
    obtain ⟨its, rr, p, _⟩ := I.list (lst_sq ok.K ht)
    obtain ⟨its2, rr2, p2, _⟩ := I.list (lst_sq ok.K ht2)
    have h : (if (plAll 60 l && plAll 60 m) = true then some (eqDs l m) else if l.length = m.length then none else some false) = some b := h
    have el : its.toArray.size = l.length := by rw [List.size_toArray, ← rr.length, hr.len]
    have em : its2.toArray.size = m.length := by rw [List.size_toArray, ← rr2.length, hr2.len]
    split at h
    · next hp =>
      have hp' : plAll 60 l = true ∧ plAll 60 m = true := by simpa using hp
      have eb : eqDs l m = b := Option.some.inj h
      subst eb
      by_cases hlen : l.length = m.length
      · have it : ∀ j (h1 : j < its.toArray.size) (h2 : j < its2.toArray.size), SeqAt.EqAt A.in1 s its.toArray[j] its2.toArray[j] (eqAtJ l m j) := fun j j1 j2 => by
          have l1 : j < l.length := by rw [← el]; exact j1
          have l2 : j < m.length := by rw [← em]; exact j2
          obtain ⟨x, ex, rx⟩ := hr.get (i := j) (d := l[j]) (by simp [l1])
          obtain ⟨y, ey, ry⟩ := hr2.get (i := j) (d := m[j]) (by simp [l2])
          have e0 : eqAtJ l m j = (l[j]).eqD (m[j]) := by unfold eqAtJ; simp [l1, l2]
          rw [e0]
          exact eq_at ok.K I 60 A.in1 hA1 _ _ x y _ _ (plAll_mem hp'.1 (List.getElem_mem l1)) (plAll_mem hp'.2 (List.getElem_mem l2)) rx ry (vals_get rr ex (by simpa using j1)) (vals_get rr2 ey (by simpa using j2))
        have q1 := SeqAt.RcAt.lists (A := A) p.isList p2.isList (by rw [el, em, hlen]) lo it
        have q2 := SeqAt.RcNeAt.lists (A := A) p.isList p2.isList (by rw [el, em, hlen]) lo it
        rw [el, ← eqDs_all hlen] at q1 q2
        exact ⟨q1, q2⟩
      · rw [eqDs_len hlen]
        exact ⟨SeqAt.RcAt.lists_lengths (A := A) p.isList p2.isList (by rw [el, em]; simpa using hlen) lo, SeqAt.RcNeAt.lists_lengths (A := A) p.isList p2.isList (by rw [el, em]; simpa using hlen) lo⟩
    · split at h
      · cases h
      · next hlen =>
        cases h
        exact ⟨SeqAt.RcAt.lists_lengths (A := A) p.isList p2.isList (by rw [el, em]; simpa using hlen) lo, SeqAt.RcNeAt.lists_lengths (A := A) p.isList p2.isList (by rw [el, em]; simpa using hlen) lo⟩
  · obtain ⟨a, vs, rfl, ht, hr⟩ := r1
    obtain ⟨c, ws, rfl, ht2, hr2⟩ := r2
    cases rx; cases ry
    obtain ⟨its, rr, p, _⟩ := I.tuple (tup_sq ok.K ht)
    obtain ⟨its2, rr2, p2, _⟩ := I.tuple (tup_sq ok.K ht2)
    have h : (if (plAll 60 l && plAll 60 m) = true then some (eqDs l m) else if (l.isEmpty || m.isEmpty) = true then some (l.isEmpty && m.isEmpty) else none) = some b := h
    have el : its.toArray.size = l.length := by rw [List.size_toArray, ← rr.length, hr.len]
    have em : its2.toArray.size = m.length := by rw [List.size_toArray, ← rr2.length, hr2.len]
    split at h
    · next hp =>
      have hp' : plAll 60 l = true ∧ plAll 60 m = true := by simpa using hp
      have eb : eqDs l m = b := Option.some.inj h
      subst eb
      have it : ∀ j (h1 : j < its.toArray.size) (h2 : j < its2.toArray.size), SeqAt.EqAt A.in1 s its.toArray[j] its2.toArray[j] (eqAtJ l m j) := fun j j1 j2 => by
        have l1 : j < l.length := by rw [← el]; exact j1
        have l2 : j < m.length := by rw [← em]; exact j2
        obtain ⟨x, ex, rx⟩ := hr.get (i := j) (d := l[j]) (by simp [l1])
        obtain ⟨y, ey, ry⟩ := hr2.get (i := j) (d := m[j]) (by simp [l2])
        have e0 : eqAtJ l m j = (l[j]).eqD (m[j]) := by unfold eqAtJ; simp [l1, l2]
        rw [e0]
        exact eq_at ok.K I 60 A.in1 hA1 _ _ x y _ _ (plAll_mem hp'.1 (List.getElem_mem l1)) (plAll_mem hp'.2 (List.getElem_mem l2)) rx ry (vals_get rr ex (by simpa using j1)) (vals_get rr2 ey (by simpa using j2))
      have q1 := SeqAt.RcAt.tuples (A := A) p p2 lo it
      have q2 := SeqAt.RcNeAt.tuples (A := A) p p2 lo it
      rw [el, em, ← eqDs_min] at q1 q2
      exact ⟨q1, q2⟩
    · split at h
      · next hz =>
        have eb : (l.isEmpty && m.isEmpty) = b := Option.some.inj h
        subst eb
        have z : min l.length m.length = 0 := by
          cases l with
          | nil => simp
          | cons x l => cases m with
            | nil => simp
            | cons y m => simp at hz
        have it : ∀ j (h1 : j < its.toArray.size) (h2 : j < its2.toArray.size), SeqAt.EqAt A.in1 s its.toArray[j] its2.toArray[j] ((fun _ => true) j) := fun j j1 j2 => by
          rw [el] at j1; rw [em] at j2; omega
        have q1 := SeqAt.RcAt.tuples (A := A) p p2 lo it
        have q2 := SeqAt.RcNeAt.tuples (A := A) p p2 lo it
        have e0 : ((List.range (min its.toArray.size its2.toArray.size)).all (fun _ => true) && its.toArray.size == its2.toArray.size) = (l.isEmpty && m.isEmpty) := by
          rw [el, em, z]
          cases l with
          | nil => cases m <;> simp
          | cons x l => cases m <;> simp at hz ⊢
        rw [e0] at q1 q2
        exact ⟨q1, q2⟩
      · cases h
theorem eq_kind {x y : V} {d e : D} {b : Bool} (r1 : RepD C H S x d) (r2 : RepD C H S y e) (h : eqG d e = some b) : scal x y = true ∨ (∃ l m, d = .lst l ∧ e = .lst m) ∨ ∃ l m, d = .tup l ∧ e = .tup m := by
  cases d <;> cases e <;> simp [eqG] at h <;> simp [RepD] at r1 r2 <;> (try subst r1) <;> (try subst r2) <;> simp [scal]
theorem og_eq (ok : OkX C X) : OpR X (compareOp .Eq) (rV2 C gEq) := by
  intro pins s σ H x y v u Q I rx ry ⟨S, dx, dy, so, r1, r2, o, eo, q⟩
  obtain ⟨b, eb, rfl⟩ : ∃ b, eqG dx dy = some b ∧ bO b = o := by simpa [gEq] using eo
  rcases eq_kind r1 r2 eb with hs | hk
  · exact op_eq pins s σ H x y v u Q I rx ry ⟨hs, by rw [eq_scal hs r1 r2 eb]; exact q_sc so q rfl rfl⟩
  · exact (eq_seq ok (by have := ok.un; omega) I rx ry r1 r2 hk eb).1 X.prog X.w _ _ ⟨.bl b, H, I, rfl, q_sc so q rfl rfl⟩
theorem og_ne (ok : OkX C X) : OpR X (compareOp .NotEq) (rV2 C gNe) := by
  intro pins s σ H x y v u Q I rx ry ⟨S, dx, dy, so, r1, r2, o, eo, q⟩
  obtain ⟨b, eb, rfl⟩ : ∃ b, eqG dx dy = some b ∧ bO (!b) = o := by simpa [gNe] using eo
  rcases eq_kind r1 r2 eb with hs | hk
  · exact op_ne pins s σ H x y v u Q I rx ry ⟨hs, by rw [eq_scal hs r1 r2 eb]; exact q_sc so q rfl rfl⟩
  · exact (eq_seq ok (by have := ok.un; omega) I rx ry r1 r2 hk eb).2 X.prog X.w _ _ ⟨.bl (!b), H, I, rfl, q_sc so q rfl rfl⟩
end
end G
end

section
set_option maxRecDepth 100000
set_option maxHeartbeats 2000000
open PySem PySem.Spec PyProof.Rows L2
namespace G
def OL (l : List D) : O := .lst (l.map .sh)
theorem toDs_sh : ∀ l : List D, toDs (l.map O.sh) = l
  | [] => rfl
  | d :: l => by show d :: toDs (l.map O.sh) = d :: l; rw [toDs_sh l]
@[simp] theorem OL_toD (l : List D) : (OL l).toD = .lst l := by show D.lst (toDs (l.map O.sh)) = _; rw [toDs_sh]
@[simp] theorem sh_toD (d : D) : (O.sh d).toD = d := rfl
def addG : D → D → Option O
  | .int a, .int b => some (iO (a + b))
  | .str a, .str b => if a.length + b.length ≤ big then some (sO (a ++ b)) else none
  | .lst l, .lst m => if l.length + m.length ≤ big then some (OL (l ++ m)) else none
  | .tup l, .tup m => if l.length + m.length ≤ big ∧ l ≠ [] then some (.sh (.tup (l ++ m))) else none
  | _, _ => none
def subG : D → D → Option O
  | .int a, .int b => some (iO (a - b))
  | _, _ => none
def mulG : D → D → Option O
  | .int a, .int b => if a.natAbs.log2 + b.natAbs.log2 < 1000000 then some (iO (a * b)) else none
  | _, _ => none
def modG : D → D → Option O
  | .int a, .int b => if 0 < b then some (iO (a % b)) else none
  | _, _ => none
def fdivG : D → D → Option O
  | .int a, .int b => if 0 < b ∧ b.natAbs.log2 < 9000 then some (iO (a / b)) else none
  | _, _ => none
def powG : D → D → Option O
  | .int a, .int b => if 0 ≤ b ∧ (Builtin.Int.intBits a : Int) * b ≤ 2 ^ 27 then some (iO (a ^ b.toNat)) else none
  | _, _ => none
def negG : D → Option O
  | .int a => some (iO (-a))
  | _ => none
def ltG : D → D → Option Bool
  | .int a, .int b => some (decide (a < b))
  | .str a, .str b => some (decide (a.cps.toList < b.cps.toList))
  | _, _ => none
def gLt (d e : D) : Option O := (ltG d e).map bO
def gGt (d e : D) : Option O := (ltG e d).map bO
def gLe (d e : D) : Option O := (ltG e d).map fun b => bO (!b)
def gGe (d e : D) : Option O := (ltG d e).map fun b => bO (!b)
theorem RepDs.app {C : Cn} {H : Hp} {S : Set'} : ∀ {vs ws : List V} {l m : List D}, RepDs C H S vs l → RepDs C H S ws m → RepDs C H S (vs ++ ws) (l ++ m)
  | vs, ws, [], m, r, q => by rw [show vs = [] from r]; exact q
  | vs, ws, d :: l, m, r, q => by
    obtain ⟨v, t, e, r1, r2⟩ := r
    exact ⟨v, t ++ ws, by rw [e]; rfl, r1, r2.app q⟩
theorem RepDs.nil_iff {C : Cn} {H : Hp} {S : Set'} {vs : List V} {l : List D} (r : RepDs C H S vs l) : vs = [] ↔ l = [] := by
  have := r.len
  constructor
  · intro e; subst e; exact List.eq_nil_of_length_eq_zero (by simpa using this.symm)
  · intro e; subst e; exact List.eq_nil_of_length_eq_zero (by simpa using this)
theorem RepOs.of_sh {C : Cn} {H : Hp} {S : Set'} : ∀ {vs : List V} {l : List D}, RepDs C H S vs l → RepOs C H S vs (l.map O.sh) No
  | vs, [], r => ⟨r, emp_no⟩
  | vs, d :: l, r => by
    obtain ⟨v, t, e, r1, r2⟩ := r
    exact ⟨v, t, No, No, e, ⟨emp_no, r1⟩, RepOs.of_sh r2, fun a => ⟨.inl, fun z => z.elim id id⟩, fun a z => z.elim⟩
/-- a new list of shared items -/
theorem q_lst {C : Cn} {H : Hp} {S : Set'} {Q : VK} {p : Addr} {vs : List V} {l : List D} (so : So H S) (hp : H p = none) (r : RepDs C H S vs l)
    (q : ∀ v H' S' A, Alc H S H' S' A → RepO C H' S' v (OL l) A → Q v H') : Q (.ref p) (upd H p (.lst vs)) := by
  have al := Alc.own (o := .lst vs) so hp trivial
  exact q (.ref p) _ S _ al ⟨p, vs, No, rfl, upd_same, RepOs.of_sh (r.mono al.kp), fun a => ⟨.inl, fun z => z.elim id False.elim⟩, fun a _ z => z⟩
/-- a new tuple of shared items -/
theorem q_tup {C : Cn} {H : Hp} {S : Set'} {Q : VK} {p : Addr} {vs : List V} {l : List D} (so : So H S) (hp : H p = none) (r : RepDs C H S vs l)
    (q : ∀ v H' S' A, Alc H S H' S' A → RepO C H' S' v (.sh (.tup l)) A → Q v H') : Q (.ref p) (upd H p (.tup vs)) := by
  have al := Alc.tup (o := .tup vs) so hp
  exact q (.ref p) _ S No al ⟨emp_no, p, vs, rfl, upd_same, r.mono al.kp⟩
section
variable {C : Cn} {X : Cx} {pins : List (Addr × Obj)} {σ : L2.St} {H : Hp} {s : Shared} {S : Set'} {Q : VK}
theorem lst_obj (hK : X.K = C.K) (I : Inv X pins σ H s) {a : Addr} {xs : List V} (h : LstD C.K H S a xs) : ∃ (its : List Value) (n : Nat), Vals xs its ∧ xs.length = its.length ∧ xs.length ≤ sizeLine ∧ s.heap.get? a = some { cls := .type "list", data := .seq its.toArray n } := by
  rcases h with h | ⟨z, its, n, r, e⟩
  · obtain ⟨z, its, n, r, e⟩ := h.2.ok I.hok
    exact ⟨its, n, r, r.length, z, e⟩
  · rw [← hK] at e
    exact ⟨its, n, r, r.length, z, I.kIn a _ e⟩
theorem og_add (ok : OkX C X) : OpR X (binaryOp .Add) (rV2 C addG) := by
  intro pins s σ H x y v u Q I rx ry ⟨S, dx, dy, so, r1, r2, o, eo, q⟩
  cases dx <;> cases dy <;> simp only [addG, reduceCtorEq] at eo
  · have e1 : x = .int _ := r1
    have e2 : y = .int _ := r2
    exact op_add pins s σ H x y v u Q I rx ry ⟨_, _, e1, e2, q_sc so q (Option.some.inj eo).symm rfl⟩
  · have e1 : x = .str _ := r1
    have e2 : y = .str _ := r2
    split at eo
    · next h => exact op_add_str pins s σ H x y v u Q I rx ry ⟨_, _, e1, e2, big_line h, q_sc so q (Option.some.inj eo).symm rfl⟩
    · cases eo
  · obtain ⟨a, vs, rfl, h1, hr1⟩ := r1
    obtain ⟨b, ws, rfl, h2, hr2⟩ := r2
    split at eo
    · next h =>
      have eo' := Option.some.inj eo
      subst eo'
      refine op_catT pins s σ H _ _ v u Q I rx ry ⟨a, b, vs, ws, rfl, rfl, tup_sq ok.K h1, tup_sq ok.K h2, fun e => h.2 (hr1.nil_iff.mp e), by rw [hr1.len, hr2.len]; exact big_line h.1, fun e => ?_, fun e p hp => q_tup so hp (hr1.app hr2) q⟩
      have := hr2.nil_iff.mp e
      subst this
      rw [List.append_nil] at q
      exact q_sc so q rfl ⟨a, vs, rfl, h1, hr1⟩
    · cases eo
  · obtain ⟨a, vs, rfl, h1, hr1⟩ := r1
    obtain ⟨b, ws, rfl, h2, hr2⟩ := r2
    split at eo
    · next h =>
      have eo' := Option.some.inj eo
      subst eo'
      cases rx; cases ry
      obtain ⟨its, n, r, hl, z, e⟩ := lst_obj ok.K I h1
      obtain ⟨its2, n2, r', hl2, z2, e2⟩ := lst_obj ok.K I h2
      have hz : vs.length + ws.length ≤ sizeLine := by rw [hr1.len, hr2.len]; exact big_line h
      refine PySem.P.add_list e e2 ?_ (by rw [List.size_toArray, List.size_toArray]; omega)
      have ea : its.toArray ++ its2.toArray = (its ++ its2).toArray := by simp
      rw [ea]
      exact ⟨.ref _, _, I.lnew (t' := s.toks) (r.append r') (by rw [List.length_append]; exact hz), rfl, q_lst so I.fresh (hr1.app hr2) q⟩
    · cases eo
theorem og_sub (ok : OkX C X) : OpR X (binaryOp .Sub) (rV2 C subG) := by
  intro pins s σ H x y v u Q I rx ry ⟨S, dx, dy, so, r1, r2, o, eo, q⟩
  cases dx <;> cases dy <;> simp only [subG, reduceCtorEq] at eo
  exact op_sub pins s σ H x y v u Q I rx ry ⟨_, _, r1, r2, q_sc so q (Option.some.inj eo).symm rfl⟩
theorem og_mul (ok : OkX C X) : OpR X (binaryOp .Mult) (rV2 C mulG) := by
  intro pins s σ H x y v u Q I rx ry ⟨S, dx, dy, so, r1, r2, o, eo, q⟩
  cases dx <;> cases dy <;> simp only [mulG, reduceCtorEq] at eo
  split at eo
  · next h => exact op_mulW pins s σ H x y v u Q I rx ry ⟨_, _, r1, r2, h, q_sc so q (Option.some.inj eo).symm rfl⟩
  · cases eo
theorem og_mod (ok : OkX C X) : OpR X (binaryOp .Mod) (rV2 C modG) := by
  intro pins s σ H x y v u Q I rx ry ⟨S, dx, dy, so, r1, r2, o, eo, q⟩
  cases dx <;> cases dy <;> simp only [modG, reduceCtorEq] at eo
  split at eo
  · next h => exact op_mod pins s σ H x y v u Q I rx ry ⟨_, _, r1, r2, h, q_sc so q (Option.some.inj eo).symm rfl⟩
  · cases eo
theorem og_fdiv (ok : OkX C X) : OpR X (binaryOp .FloorDiv) (rV2 C fdivG) := by
  intro pins s σ H x y v u Q I rx ry ⟨S, dx, dy, so, r1, r2, o, eo, q⟩
  cases dx <;> cases dy <;> simp only [fdivG, reduceCtorEq] at eo
  split at eo
  · next h => exact op_fdivW pins s σ H x y v u Q I rx ry ⟨_, _, r1, r2, h, q_sc so q (Option.some.inj eo).symm rfl⟩
  · cases eo
theorem og_pow (ok : OkX C X) : OpR X (binaryOp .Pow) (rV2 C powG) := by
  intro pins s σ H x y v u Q I rx ry ⟨S, dx, dy, so, r1, r2, o, eo, q⟩
  cases dx <;> cases dy <;> simp only [powG, reduceCtorEq] at eo
  split at eo
  · next i j h =>
    have e1 : x = .int _ := r1
    have e2 : y = .int _ := r2
    subst e1 e2
    obtain ⟨t, rfl⟩ := rx
    obtain ⟨t', rfl⟩ := ry
    exact pow_int h.1 h.2 ⟨.int _, H, I.tok _, ⟨_, rfl⟩, q_sc so q (Option.some.inj eo).symm rfl⟩
  · cases eo
theorem og_neg (ok : OkX C X) : UnR X (unaryOp .USub) (rV1 C negG) := by
  intro pins s σ H x v Q I rx ⟨S, dx, so, r1, o, eo, q⟩
  cases dx <;> simp only [negG, reduceCtorEq] at eo
  exact un_neg pins s σ H x v Q I rx ⟨_, r1, q_sc so q (Option.some.inj eo).symm rfl⟩
theorem lt_pos {d e : D} {b : Bool} (h : ltG d e = some b) : (∃ i j, d = .int i ∧ e = .int j ∧ b = decide (i < j)) ∨ ∃ i j, d = .str i ∧ e = .str j ∧ b = decide (i.cps.toList < j.cps.toList) := by
  cases d <;> cases e <;> simp only [ltG, reduceCtorEq] at h
  · exact .inl ⟨_, _, rfl, rfl, (Option.some.inj h).symm⟩
  · exact .inr ⟨_, _, rfl, rfl, (Option.some.inj h).symm⟩
theorem og_lt (ok : OkX C X) : OpR X (compareOp .Lt) (rV2 C gLt) := by
  intro pins s σ H x y v u Q I rx ry ⟨S, dx, dy, so, r1, r2, o, eo, q⟩
  obtain ⟨b, eb, rfl⟩ : ∃ b, ltG dx dy = some b ∧ bO b = o := by simpa [gLt] using eo
  rcases lt_pos eb with ⟨i, j, rfl, rfl, rfl⟩ | ⟨i, j, rfl, rfl, rfl⟩
  · exact op_lt pins s σ H x y v u Q I rx ry ⟨_, _, r1, r2, q_sc so q rfl rfl⟩
  · exact op_lt_str pins s σ H x y v u Q I rx ry ⟨_, _, r1, r2, q_sc so q rfl rfl⟩
theorem og_gt (ok : OkX C X) : OpR X (compareOp .Gt) (rV2 C gGt) := by
  intro pins s σ H x y v u Q I rx ry ⟨S, dx, dy, so, r1, r2, o, eo, q⟩
  obtain ⟨b, eb, rfl⟩ : ∃ b, ltG dy dx = some b ∧ bO b = o := by simpa [gGt] using eo
  rcases lt_pos eb with ⟨i, j, rfl, rfl, rfl⟩ | ⟨i, j, rfl, rfl, rfl⟩
  · exact op_gt pins s σ H x y v u Q I rx ry ⟨_, _, r1, r2, q_sc so q rfl rfl⟩
  · exact op_gt_str pins s σ H x y v u Q I rx ry ⟨_, _, r1, r2, q_sc so q rfl rfl⟩
theorem og_le (ok : OkX C X) : OpR X (compareOp .LtE) (rV2 C gLe) := by
  intro pins s σ H x y v u Q I rx ry ⟨S, dx, dy, so, r1, r2, o, eo, q⟩
  obtain ⟨b, eb, rfl⟩ : ∃ b, ltG dy dx = some b ∧ bO (!b) = o := by simpa [gLe] using eo
  rcases lt_pos eb with ⟨i, j, rfl, rfl, rfl⟩ | ⟨i, j, rfl, rfl, rfl⟩
  · refine op_le pins s σ H x y v u Q I rx ry ⟨_, _, r1, r2, ?_⟩
    have : decide (j ≤ i) = !decide (i < j) := by by_cases h : i < j <;> simp [h] <;> omega
    show Q (.bl (decide (j ≤ i))) H
    rw [this]
    exact q_sc so q rfl rfl
  · exact op_le_str pins s σ H x y v u Q I rx ry ⟨_, _, r1, r2, q_sc so q rfl rfl⟩
theorem og_ge (ok : OkX C X) : OpR X (compareOp .GtE) (rV2 C gGe) := by
  intro pins s σ H x y v u Q I rx ry ⟨S, dx, dy, so, r1, r2, o, eo, q⟩
  obtain ⟨b, eb, rfl⟩ : ∃ b, ltG dx dy = some b ∧ bO (!b) = o := by simpa [gGe] using eo
  rcases lt_pos eb with ⟨i, j, rfl, rfl, rfl⟩ | ⟨i, j, rfl, rfl, rfl⟩
  · refine op_ge pins s σ H x y v u Q I rx ry ⟨_, _, r1, r2, ?_⟩
    have : decide (j ≤ i) = !decide (i < j) := by by_cases h : i < j <;> simp [h] <;> omega
    show Q (.bl (decide (j ≤ i))) H
    rw [this]
    exact q_sc so q rfl rfl
  · exact op_ge_str pins s σ H x y v u Q I rx ry ⟨_, _, r1, r2, q_sc so q rfl rfl⟩
/-! truth -/
def truG : D → Option Bool
  | .non => some false
  | .bl b => some b
  | .int i => some (i != 0)
  | .str x => if x.length ≤ big then some ((x.length : Int) != 0) else none
  | .tup l => some (!l.isEmpty)
  | .lst l => some (!l.isEmpty)
  | _ => none
theorem RepDs.emp {vs : List V} {l : List D} (r : RepDs C H S vs l) : vs.isEmpty = l.isEmpty := by
  cases l with
  | nil => rw [show vs = [] from r]; rfl
  | cons d l => obtain ⟨v, t, e, _⟩ := r; rw [e]; rfl
theorem RepK.emp {vs : List (Key × V)} {l : List (Kd × D)} (r : RepK C H S vs l) : vs.isEmpty = l.isEmpty := by
  cases l with
  | nil => rw [show vs = [] from r]; rfl
  | cons d l => obtain ⟨k, d⟩ := d; obtain ⟨j, v, t, e, _⟩ := r; rw [e]; rfl
theorem og_tru (ok : OkX C X) : TruR X (fun x H Q => ∃ S d, RepD C H S x d ∧ ∃ k, truG d = some k ∧ Q k H) := by
  intro pins s σ H x v Q I rx ⟨S, d, r, k, ek, q⟩
  cases d <;> simp only [truG, reduceCtorEq] at ek
  · exact tru_ok pins s σ H x v Q I rx ⟨k, by rw [show x = .non from r]; exact (Option.some.inj ek).symm, q⟩
  · exact tru_ok pins s σ H x v Q I rx ⟨k, by rw [show x = .bl _ from r]; exact (Option.some.inj ek).symm, q⟩
  · exact tru_ok pins s σ H x v Q I rx ⟨k, by rw [show x = .int _ from r]; exact (Option.some.inj ek).symm, q⟩
  · split at ek
    · next h => exact tru_ok pins s σ H x v Q I rx ⟨k, by rw [show x = .str _ from r]; exact ⟨big_line h, (Option.some.inj ek).symm⟩, q⟩
    · cases ek
  · obtain ⟨a, vs, rfl, h1, hr⟩ := r
    exact tru_ok pins s σ H _ v Q I rx ⟨k, .inr (.inl ⟨vs, tup_sq ok.K h1, by rw [hr.emp]; exact (Option.some.inj ek).symm⟩), q⟩
  · obtain ⟨a, vs, rfl, h1, hr⟩ := r
    exact tru_ok pins s σ H _ v Q I rx ⟨k, .inl ⟨vs, lst_sq ok.K h1, by rw [hr.emp]; exact (Option.some.inj ek).symm⟩, q⟩
end
end G
end

section
set_option maxRecDepth 100000
set_option maxHeartbeats 2000000
open PySem PySem.Spec PyProof.Rows L2
namespace G
theorem reps1 {C : Cn} {H : Hp} {S : Set'} {xs : List V} {d : D} (r : RepDs C H S xs [d]) : ∃ x, xs = [x] ∧ RepD C H S x d := by
  obtain ⟨v, t, e, r1, r2⟩ := r
  exact ⟨v, by rw [e, show t = [] from r2], r1⟩
theorem reps2 {C : Cn} {H : Hp} {S : Set'} {xs : List V} {d e : D} (r : RepDs C H S xs [d, e]) : ∃ x y, xs = [x, y] ∧ RepD C H S x d ∧ RepD C H S y e := by
  obtain ⟨v, t, e, r1, r2⟩ := r
  obtain ⟨y, e2, r3⟩ := reps1 r2
  exact ⟨v, y, by rw [e, e2], r1, r3⟩
def lenG : List D → Option O
  | [.str x] => if x.length ≤ big then some (iO x.length) else none
  | [.tup l] => some (iO l.length)
  | [.lst l] => some (iO l.length)
  | [.dct l] => some (iO l.length)
  | _ => none
def absG : List D → Option O
  | [.int i] => some (iO (if i < 0 then -i else i))
  | _ => none
def maxG : List D → Option O
  | [.int i, .int j] => some (iO (if j > i then j else i))
  | _ => none
def minG : List D → Option O
  | [.int i, .int j] => some (iO (if j < i then j else i))
  | _ => none
def intG : List D → Option O
  | [.int i] => some (iO i)
  | [.bl b] => some (iO (if b then 1 else 0))
  | _ => none
def tupleG : List D → Option O
  | [.tup l] => some (.sh (.tup l))
  | [.lst l] => some (.sh (.tup l))
  | _ => none
def kyD : Key → D
  | .inl i => .int i
  | .inr x => .str x
def keysL : List (Kd × D) → Option (List D)
  | [] => some []
  | (.inl k, _) :: l => (keysL l).map (kyD k :: ·)
  | _ => none
def listG : List D → Option O
  | [.tup l] => some (OL l)
  | [.lst l] => some (OL l)
  | [.str x] => if x.length ≤ big then some (OL (x.cps.toList.map fun c => .str ⟨#[c]⟩)) else none
  | [.dct l] => if l.isEmpty = true then none else (keysL l).map OL
  | _ => none
def blOf : D → Option Bool
  | .bl b => some b
  | _ => none
def strOf : D → Option Str
  | .str x => some x
  | _ => none
def intOf : D → Option Int
  | .int x => some x
  | _ => none
def optAll {α β : Type} (f : α → Option β) : List α → Option (List β)
  | [] => some []
  | d :: l => match f d, optAll f l with
    | some a, some b => some (a :: b)
    | _, _ => none
def allG : List D → Option O
  | [.lst l] => (optAll blOf l).map fun bs => bO (bs.all id)
  | _ => none
def anyG : List D → Option O
  | [.lst l] => (optAll blOf l).map fun bs => bO (bs.any id)
  | _ => none
theorem optAll_cons {α β : Type} {f : α → Option β} {d : α} {l : List α} {bs : List β} (h : optAll f (d :: l) = some bs) : ∃ a b, f d = some a ∧ optAll f l = some b ∧ bs = a :: b := by
  unfold optAll at h
  split at h
  · next a b h1 h2 => exact ⟨a, b, h1, h2, (Option.some.inj h).symm⟩
  · cases h
theorem mapM_bl : ∀ {l : List D} {bs : List Bool}, optAll blOf l = some bs → l = bs.map D.bl
  | [], bs, h => by have := Option.some.inj h; subst this; rfl
  | d :: l, bs, h => by
    obtain ⟨a, b, h1, h2, rfl⟩ := optAll_cons h
    cases d <;> simp [blOf] at h1
    subst h1
    rw [mapM_bl h2]; rfl
theorem mapM_str : ∀ {l : List D} {bs : List Str}, optAll strOf l = some bs → l = bs.map D.str
  | [], bs, h => by have := Option.some.inj h; subst this; rfl
  | d :: l, bs, h => by
    obtain ⟨a, b, h1, h2, rfl⟩ := optAll_cons h
    cases d <;> simp [strOf] at h1
    subst h1
    rw [mapM_str h2]; rfl
theorem mapM_int : ∀ {l : List D} {bs : List Int}, optAll intOf l = some bs → l = bs.map D.int
  | [], bs, h => by have := Option.some.inj h; subst this; rfl
  | d :: l, bs, h => by
    obtain ⟨a, b, h1, h2, rfl⟩ := optAll_cons h
    cases d <;> simp [intOf] at h1
    subst h1
    rw [mapM_int h2]; rfl
@[simp] theorem mapM_bl_map (bs : List Bool) : optAll blOf (bs.map D.bl) = some bs := by
  induction bs with
  | nil => rfl
  | cons b bs ih => rw [List.map_cons, optAll, ih]; rfl
@[simp] theorem mapM_str_map (bs : List Str) : optAll strOf (bs.map D.str) = some bs := by
  induction bs with
  | nil => rfl
  | cons b bs ih => rw [List.map_cons, optAll, ih]; rfl
@[simp] theorem mapM_int_map (bs : List Int) : optAll intOf (bs.map D.int) = some bs := by
  induction bs with
  | nil => rfl
  | cons b bs ih => rw [List.map_cons, optAll, ih]; rfl
section
variable {C : Cn} {X : Cx} {pins : List (Addr × Obj)} {σ : L2.St} {H : Hp} {s : Shared} {S : Set'} {Q : VK}
theorem reps_bl : ∀ {bs : List Bool} {vs : List V}, RepDs C H S vs (bs.map D.bl) → vs = bs.map V.bl
  | [], vs, r => r
  | b :: bs, vs, r => by
    obtain ⟨v, t, e, r1, r2⟩ := r
    rw [e, show v = .bl b from r1, reps_bl r2]; rfl
theorem reps_str : ∀ {bs : List Str} {vs : List V}, RepDs C H S vs (bs.map D.str) → vs = bs.map V.str
  | [], vs, r => r
  | b :: bs, vs, r => by
    obtain ⟨v, t, e, r1, r2⟩ := r
    rw [e, show v = .str b from r1, reps_str r2]; rfl
theorem reps_int : ∀ {bs : List Int} {vs : List V}, RepDs C H S vs (bs.map D.int) → vs = bs.map V.int
  | [], vs, r => r
  | b :: bs, vs, r => by
    obtain ⟨v, t, e, r1, r2⟩ := r
    rw [e, show v = .int b from r1, reps_int r2]; rfl
theorem reps_of_str : ∀ {bs : List Str}, RepDs C H S (bs.map V.str) (bs.map D.str)
  | [] => rfl
  | b :: bs => ⟨_, _, rfl, rfl, reps_of_str⟩
theorem reps_of_int : ∀ {bs : List Int}, RepDs C H S (bs.map V.int) (bs.map D.int)
  | [] => rfl
  | b :: bs => ⟨_, _, rfl, rfl, reps_of_int⟩
theorem og_len (ok : OkX C X) : CallR X (.builtin "len") (rVn C lenG) := by
  intro pins s σ H xs us Q I r ⟨S, ds, so, rd, o, eo, q⟩
  have l1 : ∀ d, ds = [d] → ∃ x, xs = [x] ∧ RepD C H S x d := fun d e => by subst e; exact reps1 rd
  unfold lenG at eo
  split at eo
  · obtain ⟨x, rfl, r1⟩ := l1 _ rfl
    split at eo
    · next h => exact call_len_str pins s σ H _ us Q I r ⟨_, by rw [show x = .str _ from r1], big_line h, q_sc so q (Option.some.inj eo).symm rfl⟩
    · cases eo
  · obtain ⟨x, rfl, a, vs, rfl, h1, hr⟩ := l1 _ rfl
    exact call_len_seq pins s σ H _ us Q I r ⟨a, vs, rfl, .inr (tup_sq ok.K h1), by rw [hr.len]; exact q_sc so q (Option.some.inj eo).symm rfl⟩
  · obtain ⟨x, rfl, a, vs, rfl, h1, hr⟩ := l1 _ rfl
    exact call_len_seq pins s σ H _ us Q I r ⟨a, vs, rfl, .inl (lst_sq ok.K h1), by rw [hr.len]; exact q_sc so q (Option.some.inj eo).symm rfl⟩
  · obtain ⟨x, rfl, a, rfl, h1, h2⟩ := l1 _ rfl
    obtain ⟨u, rfl, rx⟩ := vals1 r
    obtain rfl : u = .ref a := rx
    rcases h2 with ⟨kvs, h2, hr⟩ | ⟨kvs, h2, hr⟩
    · exact d_len I h2 fun t s' I' => ⟨.int kvs.length, H, I', ⟨t, rfl⟩, by rw [hr.len]; exact q_sc so q (Option.some.inj eo).symm rfl⟩
    · obtain ⟨z, hd, ys, rel, dd⟩ := dt_rd I.hok h2
      have hl : kvs.length = ys.length := Paired.length rel
      refine call_len_dictH hd dd (by rw [← hl]; rw [sizeLine_eq] at z; omega) ?_
      exact ⟨.int ((ys.length : Nat) : Int), H, I.tok _, ⟨_, rfl⟩, by rw [← hl, hr.len]; exact q_sc so q (Option.some.inj eo).symm rfl⟩
  · cases eo
theorem og_abs (ok : OkX C X) : CallR X (.builtin "abs") (rVn C absG) := by
  intro pins s σ H xs us Q I r ⟨S, ds, so, rd, o, eo, q⟩
  unfold absG at eo
  split at eo
  · obtain ⟨x, rfl, r1⟩ := reps1 rd
    exact call_abs pins s σ H _ us Q I r ⟨_, by rw [show x = .int _ from r1], q_sc so q (Option.some.inj eo).symm rfl⟩
  · cases eo
theorem og_max (ok : OkX C X) : CallR X (.builtin "max") (rVn C maxG) := by
  intro pins s σ H xs us Q I r ⟨S, ds, so, rd, o, eo, q⟩
  unfold maxG at eo
  split at eo
  · obtain ⟨x, y, rfl, r1, r2⟩ := reps2 rd
    exact call_max2 ok.calm pins s σ H _ us Q I r ⟨_, _, by rw [show x = .int _ from r1, show y = .int _ from r2], q_sc so q (Option.some.inj eo).symm rfl⟩
  · cases eo
theorem og_min (ok : OkX C X) : CallR X (.builtin "min") (rVn C minG) := by
  intro pins s σ H xs us Q I r ⟨S, ds, so, rd, o, eo, q⟩
  unfold minG at eo
  split at eo
  · obtain ⟨x, y, rfl, r1, r2⟩ := reps2 rd
    exact call_min2 ok.calm pins s σ H _ us Q I r ⟨_, _, by rw [show x = .int _ from r1, show y = .int _ from r2], q_sc so q (Option.some.inj eo).symm rfl⟩
  · cases eo
theorem og_int (ok : OkX C X) : CallR X (.type "int") (rVn C intG) := by
  intro pins s σ H xs us Q I r ⟨S, ds, so, rd, o, eo, q⟩
  unfold intG at eo
  split at eo
  · obtain ⟨x, rfl, r1⟩ := reps1 rd
    exact call_int1 pins s σ H _ us Q I r (.inl ⟨_, by rw [show x = .int _ from r1], q_sc so q (Option.some.inj eo).symm rfl⟩)
  · obtain ⟨x, rfl, r1⟩ := reps1 rd
    exact call_int1 pins s σ H _ us Q I r (.inr ⟨_, by rw [show x = .bl _ from r1], q_sc so q (Option.some.inj eo).symm rfl⟩)
  · cases eo
theorem og_tuple (ok : OkX C X) : CallR X (.type "tuple") (rVn C tupleG) := by
  intro pins s σ H xs us Q I r ⟨S, ds, so, rd, o, eo, q⟩
  unfold tupleG at eo
  split at eo
  · obtain ⟨x, rfl, a, vs, rfl, h1, hr⟩ := reps1 rd
    exact call_tuple_of pins s σ H _ us Q I r ⟨a, vs, rfl, .inr ⟨tup_sq ok.K h1, q_sc so q (Option.some.inj eo).symm ⟨a, vs, rfl, h1, hr⟩⟩⟩
  · obtain ⟨x, rfl, a, vs, rfl, h1, hr⟩ := reps1 rd
    have eo' := Option.some.inj eo
    subst eo'
    exact call_tuple_of pins s σ H _ us Q I r ⟨a, vs, rfl, .inl ⟨lst_sq ok.K h1, fun p hp => q_tup so hp hr q⟩⟩
  · cases eo
theorem rep_ones {C : Cn} {H : Hp} {S : Set'} : ∀ cs : List Nat, RepDs C H S (cs.map fun c => V.str ⟨#[c]⟩) (cs.map fun c => D.str ⟨#[c]⟩)
  | [] => rfl
  | c :: cs => ⟨_, _, rfl, rfl, rep_ones cs⟩
theorem vals_signs {x : Str} : ∀ {us : List Value} {cs : List Nat} {k : Nat}, us.length = cs.length → (∀ (j : Nat) (v : Value), us[j]? = some v → ∃ c u, x.cps[k + j]? = some c ∧ v = Value.str ⟨#[c]⟩ u) → (∀ j, j < cs.length → x.cps[k + j]? = cs[j]?) → Vals (cs.map fun c => V.str ⟨#[c]⟩) us
  | [], [], _, _, _, _ => .nil
  | u :: us, c :: cs, k, hl, h, hc => by
    obtain ⟨c', t, e1, e2⟩ := h 0 u rfl
    have e3 := hc 0 (by simp)
    rw [e1] at e3
    simp at e3
    subst e3
    refine .cons ⟨t, e2⟩ (vals_signs (x := x) (k := k + 1) (by simpa using hl) (fun j v e => ?_) fun j hj => ?_)
    · have := h (j + 1) v (by simpa using e)
      rw [show k + 1 + j = k + (j + 1) by omega]; exact this
    · have := hc (j + 1) (by simpa using hj)
      rw [show k + 1 + j = k + (j + 1) by omega]; simpa using this
  | [], _ :: _, _, hl, _, _ => by simp at hl
  | _ :: _, [], _, hl, _, _ => by simp at hl
theorem keysL_rep {C : Cn} {H : Hp} {S : Set'} : ∀ {l : List (Kd × D)} {ks : List D} {kvs : List (Key × V)}, keysL l = some ks → RepK C H S kvs l → RepDs C H S (kvs.map fun kv => kV kv.1) ks
  | [], ks, kvs, h, r => by
    cases h
    rw [show kvs = [] from r]; rfl
  | (.inl k, d) :: l, ks, kvs, h, r => by
    obtain ⟨ks', e, rfl⟩ := Option.map_eq_some_iff.mp h
    obtain ⟨j, v, q, rfl, ej, _, r2⟩ := r
    cases ej
    refine ⟨_, _, rfl, ?_, keysL_rep e r2⟩
    cases k <;> rfl
  | (.inr k, d) :: l, ks, kvs, h, r => by simp [keysL] at h
theorem og_list (ok : OkX C X) : CallR X (.type "list") (rVn C listG) := by
  intro pins s σ H xs us Q I r ⟨S, ds, so, rd, o, eo, q⟩
  unfold listG at eo
  split at eo
  · obtain ⟨x, rfl, a, vs, rfl, h1, hr⟩ := reps1 rd
    have eo' := Option.some.inj eo
    subst eo'
    exact call_list_of pins s σ H _ us Q I r ⟨a, vs, rfl, .inr (tup_sq ok.K h1), fun p hp => q_lst so hp hr q⟩
  · obtain ⟨x, rfl, a, vs, rfl, h1, hr⟩ := reps1 rd
    have eo' := Option.some.inj eo
    subst eo'
    exact call_list_of pins s σ H _ us Q I r ⟨a, vs, rfl, .inl (lst_sq ok.K h1), fun p hp => q_lst so hp hr q⟩
  · rename_i x
    split at eo
    · next hx =>
      cases eo
      obtain ⟨y, rfl, r1⟩ := reps1 rd
      obtain rfl : y = .str x := r1
      obtain ⟨u, rfl, t, rfl⟩ := vals1 r
      have hz : x.cps.size ≤ sizeLine := big_line hx
      refine PySem.call_list_str (I.ok.hd ok.calm) x t (hn := hz) fun h' tk acc c' hk hS hacc => ?_
      have hv : Vals (x.cps.toList.map fun c => V.str ⟨#[c]⟩) acc.toList := vals_signs (x := x) (k := 0) (by rw [Array.length_toList, Array.length_toList]; exact hacc.1) (fun j v e => by
        have := hacc.2 j v (by rw [← Array.getElem?_toList]; exact e)
        simpa [SignAt] using this) fun j _ => by simp
      refine ⟨.ref s.heap.objs.size, upd H s.heap.objs.size (.lst (x.cps.toList.map fun c => V.str ⟨#[c]⟩)), I.laid (t' := tk) hk (Nat.le_refl _)
        (show ObjOk X.prog X.w _ _ _ (.lst (x.cps.toList.map fun c => V.str ⟨#[c]⟩)) from ⟨by rw [List.length_map, Array.length_toList]; exact hz, acc.toList, c', hv, by rw [Array.toArray_toList]; exact hS⟩), rfl, q_lst so (I.hok.fresh (Nat.le_refl _)) (rep_ones _) q⟩
    · cases eo
  · rename_i l
    split at eo
    · cases eo
    · next hl =>
      obtain ⟨ks, ek, rfl⟩ := Option.map_eq_some_iff.mp eo
      obtain ⟨x, rfl, a, rfl, sa, hk⟩ := reps1 rd
      rcases hk with ⟨kvs, h1, h2⟩ | ⟨kvs, h1, h2⟩
      · exact call_listD ok.calm pins s σ H _ us Q I r ⟨a, kvs, rfl, h1, fun p hp => q_lst so hp (keysL_rep ek h2) q⟩
      · exfalso
        cases l with
        | nil => simp at hl
        | cons p l =>
          obtain ⟨k, d⟩ := p
          obtain ⟨j, v, q', rfl, ej, _, _⟩ := h2
          subst ej
          simp [keysL] at ek
  · cases eo
theorem og_all (ok : OkX C X) : CallR X (.builtin "all") (rVn C allG) := by
  intro pins s σ H xs us Q I r ⟨S, ds, so, rd, o, eo, q⟩
  unfold allG at eo
  split at eo
  · obtain ⟨x, rfl, a, vs, rfl, h1, hr⟩ := reps1 rd
    cases em : optAll blOf _ with
    | none => rw [em] at eo; cases eo
    | some bs =>
      rw [em] at eo
      rw [mapM_bl em] at hr
      have ev := reps_bl hr
      subst ev
      exact cr_all ok.calm pins s σ H _ us Q I r ⟨a, bs, rfl, lst_sq ok.K h1, q_sc so q (Option.some.inj eo).symm rfl⟩
  · cases eo
theorem og_any (ok : OkX C X) : CallR X (.builtin "any") (rVn C anyG) := by
  intro pins s σ H xs us Q I r ⟨S, ds, so, rd, o, eo, q⟩
  unfold anyG at eo
  split at eo
  · obtain ⟨x, rfl, a, vs, rfl, h1, hr⟩ := reps1 rd
    cases em : optAll blOf _ with
    | none => rw [em] at eo; cases eo
    | some bs =>
      rw [em] at eo
      rw [mapM_bl em] at hr
      have ev := reps_bl hr
      subst ev
      exact cr_any ok.calm pins s σ H _ us Q I r ⟨a, bs, rfl, lst_sq ok.K h1, q_sc so q (Option.some.inj eo).symm rfl⟩
  · cases eo
/-! isinstance against a built-in class -/
def tyN : D → Option String
  | .non => some "NoneType" | .bl _ => some "bool" | .int _ => some "int" | .str _ => some "str" | .tup _ => some "tuple" | .lst _ => some "list" | .dct _ => some "dict"
  | _ => none
/-- by the types' names: a bool is an int, too -/
def isG (T : String) (d : D) : Option O := (tyN d).map fun t => bO (t == T || (T == "int" && t == "bool"))
def isTs : List String := ["str", "int", "bool", "tuple", "list", "dict"]
theorem kitB_is {t T : String} (h1 : t ∈ ["NoneType", "bool", "int", "str", "tuple", "list", "dict"]) (h2 : T ∈ isTs) : kitB t T = some (t == T || (T == "int" && t == "bool")) := by
  unfold isTs at h2
  simp only [List.mem_cons, List.not_mem_nil, or_false] at h1 h2
  rcases h1 with rfl | rfl | rfl | rfl | rfl | rfl | rfl <;> rcases h2 with rfl | rfl | rfl | rfl | rfl | rfl <;> decide +kernel
theorem isi_at (ok : OkX C X) (I : Inv X pins σ H s) {A : Around} {E : Value → Shared → Prop} {Q : Value → Shared → Prop} {x : V} {u c : Value} {d : D} {t : String} {b : Bool} (rx : RelV x u) (r : RepD C H S x d) (et : tyN d = some t)
    (e : PySem.W.kitOne X.K (.type t) c = some b) (h : ∀ tk, Q (.bool b) { s with toks := tk }) : wpAny (model X.prog X.w) A (call (.builtin "isinstance") [u, c]) Q E s := by
  cases d <;> simp only [tyN, reduceCtorEq] at et <;> (try (have et := Option.some.inj et; subst et))
  · have : x = .non := r
    subst this
    cases rx; exact PySem.W.kia_one PySem.W.kitx_none I.kIn True.intro e (fun z => nomatch z) h
  · have : x = .bl _ := r
    subst this
    cases rx; exact PySem.W.kia_one PySem.W.kitx_bool I.kIn True.intro e (fun z => nomatch z) h
  · have : x = .int _ := r
    subst this
    obtain ⟨t, rfl⟩ := rx; exact PySem.W.kia_one PySem.W.kitx_int I.kIn True.intro e (fun z => nomatch z) h
  · have : x = .str _ := r
    subst this
    obtain ⟨t, rfl⟩ := rx; exact PySem.W.kia_one PySem.W.kitx_str I.kIn True.intro e (fun z => nomatch z) h
  · obtain ⟨a, vs, rfl, h1, hr⟩ := r
    cases rx
    obtain ⟨its, _, ⟨o, e1, e2, _⟩, _⟩ := I.tuple (tup_sq ok.K h1)
    exact PySem.W.kia_one PySem.W.kitx_tuple I.kIn ⟨o, e1, e2⟩ e (fun z => nomatch z) h
  · obtain ⟨a, vs, rfl, h1, hr⟩ := r
    cases rx
    obtain ⟨its, n, _, _, _, e1⟩ := lst_obj ok.K I h1
    exact PySem.W.kia_one PySem.W.kitx_list I.kIn ⟨_, e1, rfl⟩ e (fun z => nomatch z) h
  · obtain ⟨a, rfl, hs, ⟨kvs, h1, hr⟩ | ⟨kvs, h1, hr⟩⟩ := r
    · cases rx
      obtain ⟨_, _, vs, _, p⟩ := (show ObjOk X.prog X.w H s.heap a (.dK kvs) from h1.ok I.hok)
      obtain ⟨o, es, ep, e1, e2, _⟩ := p
      exact PySem.W.kia_one PySem.W.kitx_dict I.kIn ⟨o, e1, e2.1⟩ e (fun z => nomatch z) h
    · cases rx
      obtain ⟨_, _, xs, _, o, es, ep, e1, e2, _⟩ := (show ObjOk X.prog X.w H s.heap a (.dT kvs) from h1.ok I.hok)
      exact PySem.W.kia_one PySem.W.kitx_dict I.kIn ⟨o, e1, e2.1⟩ e (fun z => nomatch z) h
theorem tyN_mem {d : D} {t : String} (h : tyN d = some t) : t ∈ ["NoneType", "bool", "int", "str", "tuple", "list", "dict"] := by
  cases d <;> simp only [tyN, reduceCtorEq] at h <;> (have h := Option.some.inj h; subst h; decide)
theorem call_isB (ok : OkX C X) {T : String} (hT : T ∈ isTs) : CallR X (.builtin "isinstance") (fun xs H Q => ∃ x, xs = [x, .ty T] ∧ rV1 C (isG T) x H Q) := by
  intro pins s σ H xs us Q I r ⟨x, ex, S, d, so, rd, o, eo, q⟩
  subst ex
  obtain ⟨u1, u2, rfl, r1, r2⟩ := vals2 r
  cases (show u2 = Value.type T from r2)
  obtain ⟨t, et, rfl⟩ : ∃ t, tyN d = some t ∧ bO (t == T || (T == "int" && t == "bool")) = o := by simpa [isG] using eo
  exact isi_at ok I r1 rd et (kit_ty (kitB_is (tyN_mem et) hT)) fun tk => ⟨.bl _, H, I.tok tk, rfl, q_sc so q rfl rfl⟩
variable {E : WX}
/-- isinstance(e, T), T a built-in class -/
theorem de_isi (ok : OkX C X) {T : String} {x : Str} {p p2 pos : Pos} {e : Expr} {f : Fe} (hT : T ∈ isTs) (he : DE C E X e f) (hg : Gl X "isinstance") (hm : X.mg "isinstance" = none) (hg2 : Gl X x) (hm2 : X.mg x = none) (hv2 : bootBuiltins x = some (.type T))
    (hn : x ≠ "__name__" := by decide) (hdb : (x == ("__debug__" : Str)) = false := by decide)
    (h1 : starEach [e, .Name x p2] X.env = (false, eval e X.env) :: starEach [.Name x p2] X.env := by rfl) (h2 : starEach [.Name x p2] X.env = (false, eval (.Name x p2) X.env) :: starEach [] X.env := by rfl)
    (hpl : (backTo pos (starEach [.Name x p2] X.env)).any (·.1) = false := by rfl) : DE C E X (.Call (.Name "isinstance" p) [e, .Name x p2] [] pos) (e1 (isG T) f) :=
  pe_imp (pe_callB (call_isB ok hT) hg hm PyProof.Rows.boot_isinstance (pa_cons he (pa_cons (pe_bltn (v := .ty T) hg2 hm2 hv2 rfl hn hdb) pa_nil h2) h1) (by decide) (by decide) h1 hpl) fun σ H Q q => by
    have q' := r1_of q
    obtain ⟨ρ, S, F, he, w, q'⟩ := q'
    refine ⟨ρ, S, F, he, w, ?_⟩
    cases ef : f ρ with
    | bad => rw [ef] at q'; exact q'
    | exc x ρ' => rw [ef] at q'; exact q'
    | ok o ρ1 =>
      rw [ef] at q'
      exact fun v H' S' F' A a1 a2 a3 a4 a5 => ⟨v, rfl, q' v H' S' F' A a1 a2 a3 a4 a5⟩
end
end G
end

section
set_option maxRecDepth 100000
set_option maxHeartbeats 2000000
open PySem PySem.Spec PyProof.Rows L2
namespace HT
section
variable {prog : Program} {w : World} {A : Around} {E : Value → Shared → Prop} {s : Shared}
/-- a tuple at a slice, by the places that the slice comes to: the tuple itself, or a new one -/
theorem tuple_at_slice {t sl : Addr} {items : Array Value} {vl vu vs : Value} {lo st : Int} {n : Nat} {Q : Value → Shared → Prop} (ht : IsTup s.heap t items) (hs : s.heap.IsSliceOf sl vl vu vs)
    (app : ∀ {A' : Around} {E' : Value → Shared → Prop} {Q' : Int × Int × Nat → Shared → Prop}, Q' (lo, st, n) s → wpAny (model prog w) A' (Builtin.Slice.sliceApplied (.ref sl) (pure (items.size : Int))) Q' E' s)
    (yes : ((lo == 0 && st == 1 && n == items.size) = true) → Q (.ref t) s)
    (no : ((lo == 0 && st == 1 && n == items.size) = false) → ((List.range n).filterMap fun (k : Nat) => items[(lo + (k : Int) * st).toNat]?).length ≤ sizeLine ∧
      Q (.ref s.heap.objs.size) { s with heap := s.heap.push { cls := .type "tuple", data := .seq ((List.range n).filterMap fun (k : Nat) => items[(lo + (k : Int) * st).toNat]?).toArray } }) :
    wpAny (model prog w) A (getItem (.ref t) (.ref sl)) Q E s := by
  have kind : s.TypeIs (.ref sl) "slice" := let ⟨o, g, c, _⟩ := hs; ⟨o, g, c⟩
  have body : wpAny (model prog w) A.in1 (Builtin.«tuple.__getitem__» ⟨[.ref t, .ref sl], []⟩) (fun fin s' => ∃ v, fin = .done (.ret v) ∧ wpAny (model prog w) A (pure v) Q E s') E s := by
    refine wpAny_bind (m := Builtin.Tuple.tupleItemsOf (.ref t)) (tupleItemsOf_ ht (wpAny_bind (wpAny_typeOf kind ?_)))
    rw [if_pos (beq_self_eq_true _)]
    refine wpAny_bind (app ?_)
    dsimp only
    cases c : (lo == 0 && st == 1 && n == items.size)
    · obtain ⟨z, q⟩ := no c
      rw [if_neg Bool.false_ne_true]
      exact wpAny_bind (m := Builtin.Tuple.tupleExact _) (wpAny_newObj_type (wpAny_pure ⟨_, rfl, wpAny_pure q⟩) (show (List.toArray _).size ≤ sizeLine by rw [List.size_toArray]; exact z))
    · rw [if_pos rfl]
      refine wpAny_bind (m := Builtin.Tuple.tupleIsExact (.ref t)) (wpAny_bind (wpAny_typeOf ht.typeIs (wpAny_pure ?_)))
      rw [if_pos (beq_self_eq_true _)]
      exact wpAny_bind (wpAny_rule (wpAny_pure ⟨_, rfl, wpAny_pure (yes c)⟩))
  unfold getItem
  refine wpAny_holding (wpAny_bind (wpAny_sequenceKey ht.typeIs (by decide) (wpAny_bind (wpAny_callSpecial?_slot (name := Str.ofString "__getitem__") ht.typeIs PyProof.Rows.slot_tuple_getitem ?_))))
  exact wpAny_call_entry PyProof.Rows.slot_tuple_getitem ht.typeIs entry_tuple_getitem body (args_tuple_getitem _ _)
theorem getItem_tuple_whole {t sl : Addr} {items : Array Value} {vl vu : Value} {lo hi : Option Int} {Q : Value → Shared → Prop} (ht : IsTup s.heap t items) (hs : s.heap.IsSliceOf sl vl vu .none) (pl : IsPart vl lo) (pu : IsPart vu hi)
    (h1 : sIx items.size 0 lo = 0) (h2 : sIx items.size items.size hi = items.size) (h : Q (.ref t) s) : wpAny (model prog w) A (getItem (.ref t) (.ref sl)) Q E s := by
  refine tuple_at_slice ht hs (fun q => sliceApplied_gen hs pl pu q) (fun _ => h) fun c => ?_
  rw [h1, h2, Nat.sub_zero, beq_self_eq_true, Bool.and_true] at c
  exact absurd c (by simp)
end
end HT
namespace G
/-! dicts by keys -/
def keyOf : D → Option Key
  | .int i => some (.inl i)
  | .str x => some (.inr x)
  | _ => none
def kdOf : D → Option Kd
  | .int i => some (.inl (.inl i))
  | .str x => some (.inl (.inr x))
  | .tup l => (optAll keyOf l).map .inr
  | _ => none
/-- the kind of keys -/
def kLike : Kd → List (Kd × D) → Bool
  | _, [] => false
  | .inl _, (.inl _, _) :: _ => true
  | .inr _, (.inr _, _) :: _ => true
  | _, _ => false
def kGet (l : List (Kd × D)) (k : Kd) : Option D := (l.find? fun p => decide (p.1 = k)).map (·.2)
def idx (l : List D) (i : Int) : Option D := atI l i
def itemG : D → D → Option O
  | .lst l, .int i => (atI l i).map .sh
  | .tup l, .int i => (atI l i).map .sh
  | .str x, .int i => if x.length ≤ big then (atI x.cps.toList i).map fun c => sO ⟨#[c]⟩ else none
  | .dct l, k => (kdOf k).bind fun k => if kLike k l then (kGet l k).map .sh else none
  | _, _ => none
section
variable {C : Cn} {X : Cx} {pins : List (Addr × Obj)} {σ : L2.St} {H : Hp} {s : Shared} {S : Set'} {Q : VK}
theorem atI_rep {vs : List V} {l : List D} {i : Int} {d : D} (r : RepDs C H S vs l) (h : atI l i = some d) : ∃ v, atI vs i = some v ∧ RepD C H S v d := by
  unfold atI at h ⊢
  rw [r.len]
  cases e : ixN l.length i with
  | none => rw [e] at h; cases h
  | some j =>
    rw [e] at h
    exact r.get (show l[j]? = some d from h)
theorem key_rep {x : V} {d : D} {k : Key} (r : RepD C H S x d) (h : keyOf d = some k) : x = kV k := by
  cases d <;> simp only [keyOf, reduceCtorEq] at h <;> (have h := Option.some.inj h; subst h; exact r)
theorem keys_rep : ∀ {vs : List V} {l : List D} {ks : List Key}, RepDs C H S vs l → optAll keyOf l = some ks → vs = ks.map kV
  | vs, [], ks, r, h => by have := Option.some.inj h; subst this; exact r
  | vs, d :: l, ks, r, h => by
    obtain ⟨a, b, h1, h2, rfl⟩ := optAll_cons h
    obtain ⟨v, t, e, r1, r2⟩ := r
    rw [e, key_rep r1 h1, keys_rep r2 h2]; rfl
theorem repK_get : ∀ {kvs : List (Key × V)} {l : List (Kd × D)} {k : Key}, RepK C H S kvs l → (∀ d, kGet l (.inl k) = some d → ∃ v, valV kvs k = some v ∧ RepD C H S v d) ∧ (kGet l (.inl k) = none → valV kvs k = none)
  | kvs, [], k, r => by rw [show kvs = [] from r]; exact ⟨fun d h => (by cases h), fun _ => rfl⟩
  | kvs, (i, d) :: l, k, r => by
    obtain ⟨j, v, t, rfl, rfl, r1, r2⟩ := r
    have ih := repK_get (k := k) r2
    by_cases e : j = k
    · subst e
      have e1 : kGet ((Sum.inl j, d) :: l) (.inl j) = some d := by simp [kGet]
      have e2 : valV ((j, v) :: t) j = some v := valV_pos rfl
      rw [e1, e2]
      exact ⟨fun d' h => (by cases h; exact ⟨v, rfl, r1⟩), fun h => (by cases h)⟩
    · have e1 : kGet ((Sum.inl j, d) :: l) (.inl k) = kGet l (.inl k) := by simp [kGet, e]
      have e2 : valV ((j, v) :: t) k = valV t k := valV_neg e
      rw [e1, e2]
      exact ih
theorem repT_get : ∀ {kvs : List (List Key × V)} {l : List (Kd × D)} {k : List Key}, RepT C H S kvs l → (∀ d, kGet l (.inr k) = some d → ∃ v, valV kvs k = some v ∧ RepD C H S v d) ∧ (kGet l (.inr k) = none → valV kvs k = none)
  | kvs, [], k, r => by rw [show kvs = [] from r]; exact ⟨fun d h => (by cases h), fun _ => rfl⟩
  | kvs, (i, d) :: l, k, r => by
    obtain ⟨j, v, t, rfl, rfl, r1, r2⟩ := r
    have ih := repT_get (k := k) r2
    by_cases e : j = k
    · subst e
      have e1 : kGet ((Sum.inr j, d) :: l) (.inr j) = some d := by simp [kGet]
      have e2 : valV ((j, v) :: t) j = some v := valV_pos rfl
      rw [e1, e2]
      exact ⟨fun d' h => (by cases h; exact ⟨v, rfl, r1⟩), fun h => (by cases h)⟩
    · have e1 : kGet ((Sum.inr j, d) :: l) (.inr k) = kGet l (.inr k) := by simp [kGet, e]
      have e2 : valV ((j, v) :: t) k = valV t k := valV_neg e
      rw [e1, e2]
      exact ih
/-- what a dict of data holds at a key -/
theorem dget_at (ok : OkX C X) (I : Inv X pins σ H s) {a : Addr} {l : List (Kd × D)} {y : V} {d : D} {k : Kd} (rl : RepD C H S (.ref a) (.dct l)) (rk : RepD C H S y d) (ek : kdOf d = some k) (lk : kLike k l = true) :
    ∃ o, DGet H a y o ∧ (∀ d', kGet l k = some d' → ∃ v, o = some v ∧ RepD C H S v d') ∧ (kGet l k = none → o = none) := by
  obtain ⟨a', ea, hs, hk⟩ := rl
  injection ea with ea
  subst ea
  cases k with
  | inl k =>
    have ey : y = kV k := by
      cases d <;> simp [kdOf] at ek
      · subst ek; exact rk
      · subst ek; exact rk
    rcases hk with ⟨kvs, h1, hr⟩ | ⟨kvs, h1, hr⟩
    · have g := repK_get (k := k) hr
      refine ⟨valV kvs k, .inl ⟨kvs, k, h1, ey, rfl⟩, g.1, g.2⟩
    · cases l with
      | nil => simp [kLike] at lk
      | cons p l =>
        obtain ⟨i, e⟩ := p
        obtain ⟨j, v, t, _, rfl, _⟩ := hr
        simp [kLike] at lk
  | inr ks =>
    have ey : ∃ m, d = .tup m ∧ optAll keyOf m = some ks := by
      cases d <;> simp [kdOf] at ek
      exact ⟨_, rfl, ek⟩
    obtain ⟨m, rfl, hm⟩ := ey
    obtain ⟨b, vs, rfl, hb, hr2⟩ := rk
    have e2 := keys_rep hr2 hm
    subst e2
    rcases hk with ⟨kvs, h1, hr⟩ | ⟨kvs, h1, hr⟩
    · cases l with
      | nil => simp [kLike] at lk
      | cons p l =>
        obtain ⟨i, e⟩ := p
        obtain ⟨j, v, t, _, rfl, _⟩ := hr
        simp [kLike] at lk
    · have g := repT_get (k := ks) hr
      exact ⟨valV kvs ks, .inr ⟨kvs, ks, b, h1, rfl, hb, rfl⟩, g.1, g.2⟩
theorem ix_dict (ok : OkX C X) : IxR X (fun x y H Q => ∃ a v, x = .ref a ∧ DGet H a y (some v) ∧ Q v H) := by
  intro value slice pins s σ H x y v u Q I rx ry ⟨a, w, ex, g, q⟩ hs
  subst ex
  cases rx
  exact tail_any (dict_typeIs I g) PySem.F.slot_dict_getitem.lookup (d_getItem (by have := ok.un; omega) I g ry fun w' s3 I3 rw' => ⟨w, H, I3, rw', q⟩) hs
theorem ig_item (ok : OkX C X) : IxR X (rV2 C itemG) := by
  intro value slice pins s σ H x y v u Q I rx ry ⟨S, dx, dy, so, r1, r2, o, eo, q⟩ hs
  unfold itemG at eo
  split at eo
  · next l i =>
    obtain ⟨a, vs, rfl, h1, hr⟩ := r1
    cases ed : atI l i with
    | none => rw [ed] at eo; cases eo
    | some d =>
      rw [ed] at eo
      obtain ⟨w, ew, rw'⟩ := atI_rep hr ed
      exact ix_list value slice pins s σ H _ y v u Q I rx ry ⟨a, vs, i, w, rfl, r2, lst_sq ok.K h1, ew, q_sc so q (Option.some.inj eo).symm rw'⟩ hs
  · next l i =>
    obtain ⟨a, vs, rfl, h1, hr⟩ := r1
    cases ed : atI l i with
    | none => rw [ed] at eo; cases eo
    | some d =>
      rw [ed] at eo
      obtain ⟨w, ew, rw'⟩ := atI_rep hr ed
      exact ix_tup value slice pins s σ H _ y v u Q I rx ry ⟨a, vs, i, w, rfl, r2, tup_sq ok.K h1, ew, q_sc so q (Option.some.inj eo).symm rw'⟩ hs
  · next x' i =>
    split at eo
    · next hb =>
      cases ed : atI x'.cps.toList i with
      | none => rw [ed] at eo; cases eo
      | some c =>
        rw [ed] at eo
        exact ix_str value slice pins s σ H _ y v u Q I rx ry ⟨x', i, c, r1, r2, big_line hb, ed, q_sc so q (Option.some.inj eo).symm rfl⟩ hs
    · cases eo
  · next l =>
    cases ek : kdOf dy with
    | none => rw [ek] at eo; cases eo
    | some k =>
      rw [ek] at eo
      have eo : (if kLike k l = true then (kGet l k).map O.sh else none) = some o := eo
      split at eo
      · next lk =>
        cases eg : kGet l k with
        | none => rw [eg] at eo; cases eo
        | some d' =>
          rw [eg] at eo
          obtain ⟨a, ea, _⟩ := id r1
          subst ea
          obtain ⟨o', g, g1, _⟩ := dget_at ok I r1 r2 ek lk
          obtain ⟨w, rfl, rw'⟩ := g1 d' eg
          exact ix_dict ok value slice pins s σ H _ y v u Q I rx ry ⟨a, w, rfl, g, q_sc so q (Option.some.inj eo).symm rw'⟩ hs
      · cases eo
  · cases eo
variable {E : WX}
theorem de_item (ok : OkX C X) {a b : Expr} {pos : Pos} {f h : Fe} (ha : DE C E X a f) (hb : DE C E X b h) (hs : PlainIx b) : DE C E X (.Subscript a b pos) (e2 itemG f h) :=
  pe_imp (pe_ix (ig_item ok) ha hb hs) fun _ _ _ q => r2_of q
/-! slices -/
def cutL (l : List D) (lo hi : Option Int) : List D := (l.drop (HT.sIx l.length 0 lo)).take (HT.sIx l.length l.length hi - HT.sIx l.length 0 lo)
def cutG (d : D) (lo hi : Option Int) : Option O := match d with
  | .lst l => some (OL (cutL l lo hi))
  | .tup l => some (.sh (.tup (cutL l lo hi)))
  | .str x => if x.length ≤ big then some (sO (cutS x lo hi)) else none
  | _ => none
def ePart (f : Option Fe) : Env' → Out (Option Int) := fun ρ => match f with
  | none => .ok none ρ
  | some f => (f ρ).bind fun o ρ1 => match o.toD with
    | .int i => .ok (some i) ρ1
    | _ => .bad
def eCut (f : Fe) (lo hi : Option Fe) : Fe := fun ρ => (f ρ).bind fun o ρ1 => (ePart lo ρ1).bind fun i ρ2 => (ePart hi ρ2).bind fun j ρ3 => fin (cutG o.toD i j) ρ3
def rP (C : Cn) (E : WX) (f : Env' → Out (Option Int)) : TO := fun σ H Q => ∃ ρ S F, RepE C H S σ ρ F ∧ Wf H S F ∧ match f ρ with
  | .ok b ρ' => ∀ H' S' F', RepE C H' S' σ ρ' F' → Wf H' S' F' → Fr H S F H' S' F' → Q b H'
  | .exc x ρ' => ∀ c d H' S' F', RepE C H' S' σ ρ' F' → Wf H' S' F' → Fr H S F H' S' F' → RepXn C H' S' x c d → E c d σ H'
  | .bad => False
abbrev DP (C : Cn) (E : WX) (X : Cx) (e : Option Expr) (f : Option Fe) : Prop := PO X e (rP C E (ePart f))
theorem po_imp {e : Option Expr} {t t' : TO} (h : PO X e t) (hi : ∀ σ H Q, t' σ H Q → t σ H Q) : PO X e t' := ⟨fun pins s σ H Q I q => h.run pins s σ H Q I (hi σ H Q q)⟩
theorem dp_none : DP C E X none none := po_imp po_none fun σ H Q ⟨ρ, S, F, he, w, q⟩ => q H S F he w .refl
theorem dp_some {e : Expr} {f : Fe} (h : DE C E X e f) : DP C E X (some e) (some f) := by
  refine po_imp (po_some h) fun σ H Q ⟨ρ, S, F, he, w, q⟩ => ⟨ρ, S, F, he, w, ?_⟩
  unfold ePart at q
  cases ef : f ρ with
  | bad => simp only [ef, bind_bad] at q
  | exc x ρ' => simp only [ef, bind_exc] at q; exact q
  | ok o ρ1 =>
    simp only [ef, bind_ok] at q
    intro v H1 S1 F1 A he1 r1 w1 d1 fr1
    split at q
    · next b' i' heq =>
      split at heq
      · next i ei =>
        injection heq with h1 h2
        subst h1 h2
        have r := r1.share (S' := Un' S1 A) (fun _ => .inl) fun _ => .inr
        rw [ei] at r
        exact ⟨i, r, q H1 S1 F1 he1 w1.drop fr1.drop⟩
      · cases heq
    · next heq => split at heq <;> cases heq
    · exact q.elim
theorem RepDs.take : ∀ {vs : List V} {l : List D} (n : Nat), RepDs C H S vs l → RepDs C H S (vs.take n) (l.take n)
  | vs, l, 0, _ => by simp [RepDs]
  | vs, [], n + 1, r => by rw [show vs = [] from r]; simp [RepDs]
  | vs, d :: l, n + 1, r => by
    obtain ⟨v, t, e, r1, r2⟩ := r
    exact ⟨v, t.take n, by rw [e]; rfl, r1, r2.take n⟩
theorem RepDs.drop : ∀ {vs : List V} {l : List D} (n : Nat), RepDs C H S vs l → RepDs C H S (vs.drop n) (l.drop n)
  | vs, l, 0, r => r
  | vs, [], n + 1, r => by rw [show vs = [] from r]; simp [RepDs]
  | vs, d :: l, n + 1, r => by
    obtain ⟨v, t, e, r1, r2⟩ := r
    rw [e]
    exact r2.drop n
theorem cut_rep {vs : List V} {l : List D} (r : RepDs C H S vs l) (lo hi : Option Int) : RepDs C H S (cutV vs lo hi) (cutL l lo hi) := by
  unfold cutV cutL
  rw [r.len]
  exact (r.drop _).take _
/-- a slice by values: all three kinds -/
def rCut (C : Cn) : V → Option Int → Option Int → Hp → VK → Prop := fun x lo hi H Q => ∃ S d, So H S ∧ RepD C H S x d ∧ ∃ o, cutG d lo hi = some o ∧ ∀ v H' S' A, Alc H S H' S' A → RepO C H' S' v o A → Q v H'
theorem sl_tupAll (ok : OkX C X) : SlR X (fun x lo hi H Q => ∃ a vs S l, x = .ref a ∧ So H S ∧ H a = some (.tup vs) ∧ RepDs C H S vs l ∧ ∀ v H' S' A, Alc H S H' S' A → RepO C H' S' v (.sh (.tup (cutL l lo hi))) A → Q v H') := by
  intro pins s σ H x v vl vu lo hi sl Q I rx hs pl pu ⟨a, vs, S, l, ex, so, h1, hr, q⟩
  subst ex
  by_cases hw : HT.sIx vs.length 0 lo = 0 ∧ HT.sIx vs.length vs.length hi = vs.length
  · cases rx
    obtain ⟨its, rr, ht, hz⟩ := I.tuple (tup_sq ok.K h1)
    have hlen : its.toArray.size = vs.length := by rw [List.size_toArray]; exact rr.length.symm
    refine ⟨"tuple", _, slot_tuple_getitem.lookup, ht.typeIs, ?_⟩
    refine HT.getItem_tuple_whole ht hs pl pu (by rw [hlen]; exact hw.1) (by rw [hlen]; exact hw.2) ⟨.ref a, H, I, rfl, ?_⟩
    have el := hr.len
    have ec : cutL l lo hi = l := by
      unfold cutL
      rw [← el, hw.1, hw.2]
      simp [el]
    rw [ec] at q
    exact q_sc so q rfl ⟨a, vs, rfl, h1, hr⟩
  · exact sl_tup pins s σ H _ v vl vu lo hi sl Q I rx hs pl pu ⟨a, vs, rfl, tup_sq ok.K h1, hw, fun p hp => q_tup so hp (cut_rep hr lo hi) q⟩
theorem sl_all (ok : OkX C X) : SlR X (rCut C) := by
  intro pins s σ H x v vl vu lo hi sl Q I rx hs pl pu ⟨S, d, so, r, o, eo, q⟩
  unfold cutG at eo
  split at eo
  · next l =>
    obtain ⟨a, vs, rfl, h1, hr⟩ := r
    have eo' := Option.some.inj eo
    subst eo'
    exact sl_list pins s σ H _ v vl vu lo hi sl Q I rx hs pl pu ⟨a, vs, rfl, lst_sq ok.K h1, fun p hp => q_lst so hp (cut_rep hr lo hi) q⟩
  · next l =>
    obtain ⟨a, vs, rfl, h1, hr⟩ := r
    have eo' := Option.some.inj eo
    subst eo'
    exact sl_tupAll ok pins s σ H _ v vl vu lo hi sl Q I rx hs pl pu ⟨a, vs, S, l, rfl, so, h1, hr, q⟩
  · next x' =>
    split at eo
    · next h => exact sl_str pins s σ H x v vl vu lo hi sl Q I rx hs pl pu ⟨x', r, big_line h, q_sc so q (Option.some.inj eo).symm rfl⟩
    · cases eo
  · cases eo
theorem de_cut (ok : OkX C X) {e : Expr} {lo hi : Option Expr} {p2 pos : Pos} {f : Fe} {fl fh : Option Fe} (he : DE C E X e f) (hl : DP C E X lo fl) (hh : DP C E X hi fh) : DE C E X (.Subscript e (.Slice lo hi none p2) pos) (eCut f fl fh) := by
  refine pe_imp (pe_slice (sl_all ok) he hl hh) fun σ H Q ⟨ρ, S, F, he, w, q⟩ => ⟨ρ, S, F, he, w, ?_⟩
  unfold eCut at q
  cases ef : f ρ with
  | bad => rw [ef] at q; exact q
  | exc x ρ' => rw [ef] at q; exact q
  | ok o ρ1 =>
    rw [ef] at q
    simp only [bind_ok] at q
    intro v H1 S1 F1 A he1 r1 w1 d1 fr1
    refine ⟨ρ1, S1, F1, he1, w1.drop, ?_⟩
    cases el : ePart fl ρ1 with
    | bad => rw [el] at q; exact q
    | exc x ρ' =>
      rw [el] at q
      exact fun c d H2 S2 F2 he2 w2 fr2 rx => q c d H2 S2 F2 he2 w2 (fr1.drop.trans fr2) rx
    | ok i ρ2 =>
      rw [el] at q
      simp only [bind_ok] at q
      intro H2 S2 F2 he2 w2 fr2
      obtain ⟨ka, d3, w3, fr3, k⟩ := fr_tmp w1 d1 fr1 fr2 w2
      refine ⟨ρ2, S2, F2, he2, w2, ?_⟩
      cases eh : ePart fh ρ2 with
      | bad => rw [eh] at q; exact q
      | exc x ρ' =>
        rw [eh] at q
        exact fun c d H4 S4 F4 he4 w4 fr4 rx => q c d H4 S4 F4 he4 w4 (fr3.drop.trans fr4) rx
      | ok j ρ3 =>
        rw [eh] at q
        simp only [bind_ok] at q
        intro H4 S4 F4 he4 w4 fr4
        obtain ⟨ka5, d5, w5, fr5, k5⟩ := fr_tmp w3 d3 fr3 fr4 w4
        have r5 := (r1.mono k ka).mono k5 ka5
        obtain ⟨o', eo⟩ := fin_bad q
        have kk : Kp H4 S4 H4 (Un' S4 A) := ⟨fun _ _ _ e => e, fun _ _ _ e => e, fun _ => .inl⟩
        have w6 := w5.share d5
        exact ⟨Un' S4 A, o.toD, w6.so, r5.share (fun _ => .inl) (fun _ => .inr), o', eo, fin_op (he4.mono kk fun _ _ => rfl) w6 fr5.share eo q⟩
/-! in, not in -/
def strIn (x z : Str) : Bool := !(Builtin.Str.occurrences z x 0 z.length 1).isEmpty
def inG : D → D → Option Bool
  | x, .lst l => if (x.pl 60 && plAll 60 l) = true then some (l.any fun z => z.eqD x) else none
  | x, .tup l => if (x.pl 60 && plAll 60 l) = true then some (l.any fun z => z.eqD x) else none
  | .str x, .str z => some (strIn x z)
  | k, .dct l => (kdOf k).bind fun k => if kLike k l then some (kGet l k).isSome else none
  | _, _ => none
def gIn (x y : D) : Option O := (inG x y).map bO
def gNin (x y : D) : Option O := (inG x y).map fun b => bO (!b)
open Classical in
noncomputable def eIn (l : List D) (its : List Value) (x : D) (y : Value) : Bool := decide (∃ (i : Nat) (d : D), its[i]? = some y ∧ l[i]? = some d ∧ d.eqD x = true)
theorem vals_at : ∀ {vs : List V} {us : List Value} {i : Nat} {u : Value}, Vals vs us → us[i]? = some u → ∃ v, vs[i]? = some v ∧ RelV v u
  | _, _, _, _, .nil, e => by simp at e
  | _, _, 0, _, .cons r _, e => by simp at e; subst e; exact ⟨_, rfl, r⟩
  | _, _, i + 1, x, .cons _ t, e => by
    obtain ⟨u, h1, h2⟩ := vals_at (i := i) (u := x) t (by simpa using e)
    exact ⟨u, by simpa using h1, h2⟩
theorem reps_at : ∀ {vs : List V} {l : List D} {i : Nat} {v : V}, RepDs C H S vs l → vs[i]? = some v → ∃ d, l[i]? = some d ∧ RepD C H S v d
  | vs, [], i, v, r, e => by rw [show vs = [] from r] at e; simp at e
  | vs, d :: l, 0, v, r, e => by
    obtain ⟨u, t, rfl, r1, r2⟩ := r
    simp at e; subst e; exact ⟨d, rfl, r1⟩
  | vs, d :: l, i + 1, v, r, e => by
    obtain ⟨u, t, rfl, r1, r2⟩ := r
    obtain ⟨d', e1, r3⟩ := reps_at (i := i) (v := v) r2 (by simpa using e)
    exact ⟨d', by simpa using e1, r3⟩
open Classical in
theorem in_at (ok : OkX C X) (I : Inv X pins σ H s) {x : V} {u : Value} {dx : D} {l : List D} {vs : List V} {its : List Value} (rx : RelV x u) (r1 : RepD C H S x dx) (hr : RepDs C H S vs l) (rr : Vals vs its) (p1 : dx.pl 60 = true) (p2 : plAll 60 l = true) :
    (∀ y, y ∈ its.toArray → SeqAt.EqAt X.A.in1 s y u (eIn l its dx y)) ∧ its.toArray.any (eIn l its dx) = l.any fun z => z.eqD dx := by
  have hA1 : X.A.in1.units + 60 < cLine := by have := ok.un; show X.A.units + 1 + 60 < cLine; omega
  have key : ∀ (i : Nat) (y : Value), its[i]? = some y → ∃ d, l[i]? = some d ∧ SeqAt.EqAt X.A.in1 s y u (d.eqD dx) ∧ eIn l its dx y = d.eqD dx := fun i y hy => by
    obtain ⟨v, ev, rv⟩ := vals_at rr hy
    obtain ⟨d, ed, rd⟩ := reps_at hr ev
    have hd : d.pl 60 = true := plAll_mem p2 (List.mem_of_getElem? ed)
    refine ⟨d, ed, eq_at ok.K I 60 X.A.in1 hA1 d dx v x y u hd p1 rd r1 rv rx, ?_⟩
    unfold eIn
    by_cases hc : d.eqD dx = true
    · rw [hc]; exact decide_eq_true ⟨i, d, hy, ed, hc⟩
    · have hf : d.eqD dx = false := by simpa using hc
      rw [hf]
      refine decide_eq_false ?_
      rintro ⟨j, d', hj, ej, hj'⟩
      obtain ⟨v', ev', rv'⟩ := vals_at rr hj
      obtain ⟨d2, ed2, rd2⟩ := reps_at hr ev'
      rw [ej] at ed2
      cases ed2
      have evv := rv.inj rv'
      subst evv
      have := repD_inj ok.K I d d' 60 60 v hd (plAll_mem p2 (List.mem_of_getElem? ej)) rd rd2
      subst this
      rw [hf] at hj'; cases hj'
  have len : its.length = l.length := by rw [← rr.length, hr.len]
  refine ⟨fun y hy => ?_, ?_⟩
  · obtain ⟨i, hi⟩ := List.mem_iff_getElem?.mp (show y ∈ its by simpa using hy)
    obtain ⟨d, ed, h1, h2⟩ := key i y hi
    rw [h2]; exact h1
  · rw [show its.toArray.any (eIn l its dx) = its.any (eIn l its dx) by simp]
    have : ∀ b, its.any (eIn l its dx) = b ↔ (l.any fun z => z.eqD dx) = b := fun b => by
      have e1 : its.any (eIn l its dx) = true ↔ (l.any fun z => z.eqD dx) = true := by
        rw [List.any_eq_true, List.any_eq_true]
        constructor
        · rintro ⟨y, hy, h⟩
          obtain ⟨i, hi⟩ := List.mem_iff_getElem?.mp hy
          obtain ⟨d, ed, _, h2⟩ := key i y hi
          exact ⟨d, List.mem_of_getElem? ed, by rw [← h2]; exact h⟩
        · rintro ⟨d, hd, h⟩
          obtain ⟨i, hi⟩ := List.mem_iff_getElem?.mp hd
          have hl : i < its.length := by rw [len]; exact (List.getElem?_eq_some_iff.mp hi).1
          obtain ⟨d', ed, _, h2⟩ := key i its[i] (by simp [hl])
          rw [hi] at ed
          cases ed
          exact ⟨its[i], List.getElem_mem hl, by rw [h2]; exact h⟩
      cases b with
      | true => exact e1
      | false =>
        rw [Bool.eq_false_iff, Bool.eq_false_iff]
        exact not_congr e1
    exact (this _).mpr rfl
theorem in_pos {d e : D} {b : Bool} (h : inG d e = some b) : (∃ l, e = .lst l ∧ d.pl 60 = true ∧ plAll 60 l = true ∧ b = l.any fun z => z.eqD d) ∨ (∃ l, e = .tup l ∧ d.pl 60 = true ∧ plAll 60 l = true ∧ b = l.any fun z => z.eqD d) ∨
    (∃ x z, d = .str x ∧ e = .str z ∧ b = strIn x z) ∨ ∃ l k, e = .dct l ∧ kdOf d = some k ∧ kLike k l = true ∧ b = (kGet l k).isSome := by
  unfold inG at h
  split at h
  · next x l =>
    split at h
    · next hp =>
      have hp' : d.pl 60 = true ∧ plAll 60 l = true := by simpa using hp
      exact .inl ⟨l, rfl, hp'.1, hp'.2, (Option.some.inj h).symm⟩
    · cases h
  · next x l =>
    split at h
    · next hp =>
      have hp' : d.pl 60 = true ∧ plAll 60 l = true := by simpa using hp
      exact .inr (.inl ⟨l, rfl, hp'.1, hp'.2, (Option.some.inj h).symm⟩)
    · cases h
  · exact .inr (.inr (.inl ⟨_, _, rfl, rfl, (Option.some.inj h).symm⟩))
  · next l =>
    cases ek : kdOf d with
    | none => rw [ek] at h; cases h
    | some k =>
      rw [ek] at h
      have h : (if kLike k l = true then some (kGet l k).isSome else none) = some b := h
      split at h
      · next lk => exact .inr (.inr (.inr ⟨l, k, rfl, rfl, lk, (Option.some.inj h).symm⟩))
      · cases h
  · cases h
theorem og_in (ok : OkX C X) : OpR X (compareOp .In) (rV2 C gIn) := by
  intro pins s σ H x y v u Q I rx ry ⟨S, dx, dy, so, r1, r2, o, eo, q⟩
  obtain ⟨b, eb, rfl⟩ : ∃ b, inG dx dy = some b ∧ bO b = o := by simpa [gIn] using eo
  rcases in_pos eb with ⟨l, rfl, p1, p2, rfl⟩ | ⟨l, rfl, p1, p2, rfl⟩ | ⟨a, z, rfl, rfl, rfl⟩ | ⟨l, k, rfl, ek, lk, rfl⟩
  · obtain ⟨a, vs, rfl, h1, hr⟩ := r2
    cases ry
    obtain ⟨its, rr, p, _⟩ := I.list (lst_sq ok.K h1)
    obtain ⟨k1, k2⟩ := in_at ok I rx r1 hr rr p1 p2
    exact SeqAt.in_listAt _ p.isList k1 ⟨.bl _, H, I, rfl, by rw [k2]; exact q_sc so q rfl rfl⟩
  · obtain ⟨a, vs, rfl, h1, hr⟩ := r2
    cases ry
    obtain ⟨its, rr, p, _⟩ := I.tuple (tup_sq ok.K h1)
    obtain ⟨k1, k2⟩ := in_at ok I rx r1 hr rr p1 p2
    exact SeqAt.in_tupleAt _ p k1 ⟨.bl _, H, I, rfl, by rw [k2]; exact q_sc so q rfl rfl⟩
  · exact op_in_str pins s σ H x y v u Q I rx ry ⟨a, z, r1, r2, q_sc so q rfl rfl⟩
  · obtain ⟨a, ea, _⟩ := id r2
    subst ea
    cases ry
    obtain ⟨o', g, g1, g2⟩ := dget_at ok I r2 r1 ek lk
    refine d_in (by have := ok.un; omega) I g rx fun s' I' => ⟨.bl _, H, I', rfl, ?_⟩
    have e : o'.isSome = (kGet l k).isSome := by
      cases eg : kGet l k with
      | none => rw [g2 eg]; rfl
      | some d => obtain ⟨w, rfl, _⟩ := g1 d eg; rfl
    rw [e]
    exact q_sc so q rfl rfl
theorem og_nin (ok : OkX C X) : OpR X (compareOp .NotIn) (rV2 C gNin) := by
  intro pins s σ H x y v u Q I rx ry ⟨S, dx, dy, so, r1, r2, o, eo, q⟩
  obtain ⟨b, eb, rfl⟩ : ∃ b, inG dx dy = some b ∧ bO (!b) = o := by simpa [gNin] using eo
  rcases in_pos eb with ⟨l, rfl, p1, p2, rfl⟩ | ⟨l, rfl, p1, p2, rfl⟩ | ⟨a, z, rfl, rfl, rfl⟩ | ⟨l, k, rfl, ek, lk, rfl⟩
  · obtain ⟨a, vs, rfl, h1, hr⟩ := r2
    cases ry
    obtain ⟨its, rr, p, _⟩ := I.list (lst_sq ok.K h1)
    obtain ⟨k1, k2⟩ := in_at ok I rx r1 hr rr p1 p2
    exact SeqAt.notIn_listAt _ p.isList k1 ⟨.bl _, H, I, rfl, by rw [k2]; exact q_sc so q rfl rfl⟩
  · obtain ⟨a, vs, rfl, h1, hr⟩ := r2
    cases ry
    obtain ⟨its, rr, p, _⟩ := I.tuple (tup_sq ok.K h1)
    obtain ⟨k1, k2⟩ := in_at ok I rx r1 hr rr p1 p2
    exact SeqAt.notIn_tupleAt _ p k1 ⟨.bl _, H, I, rfl, by rw [k2]; exact q_sc so q rfl rfl⟩
  · exact op_notin_str pins s σ H x y v u Q I rx ry ⟨a, z, r1, r2, q_sc so q rfl rfl⟩
  · obtain ⟨a, ea, _⟩ := id r2
    subst ea
    cases ry
    obtain ⟨o', g, g1, g2⟩ := dget_at ok I r2 r1 ek lk
    refine d_notIn (by have := ok.un; omega) I g rx fun s' I' => ⟨.bl _, H, I', rfl, ?_⟩
    have e : o'.isSome = (kGet l k).isSome := by
      cases eg : kGet l k with
      | none => rw [g2 eg]; rfl
      | some d => obtain ⟨w, rfl, _⟩ := g1 d eg; rfl
    rw [e]
    exact q_sc so q rfl rfl
/-! is, is not: None and the bools -/
def isNon : D → Bool
  | .non => true
  | _ => false
def isD : D → D → Option Bool
  | d, .non => some (isNon d)
  | .bl a, .bl b => some (decide (a = b))
  | _, _ => none
def gIs (x y : D) : Option O := (isD x y).map bO
def gIsn (x y : D) : Option O := (isD x y).map fun b => bO (!b)
theorem non_iff {x : V} {d : D} (r : RepD C H S x d) : decide (x = .non) = isNon d := by
  cases d <;> simp [RepD] at r <;> (first | (subst r; rfl) | skip)
  all_goals (obtain ⟨a, rfl, _⟩ := r; rfl)
theorem og_is (ok : OkX C X) : OpR X (compareOp .Is) (rV2 C gIs) := by
  intro pins s σ H x y v u Q I rx ry ⟨S, dx, dy, so, r1, r2, o, eo, q⟩
  obtain ⟨b, eb, rfl⟩ : ∃ b, isD dx dy = some b ∧ bO b = o := by simpa [gIs] using eo
  unfold isD at eb
  split at eb
  · have eb := Option.some.inj eb
    exact op_isN pins s σ H x y v u Q I rx ry ⟨r2, by rw [non_iff r1, eb]; exact q_sc so q rfl rfl⟩
  · have eb := Option.some.inj eb
    exact op_isBl pins s σ H x y v u Q I rx ry ⟨_, _, r1, r2, by rw [eb]; exact q_sc so q rfl rfl⟩
  · cases eb
theorem og_isn (ok : OkX C X) : OpR X (compareOp .IsNot) (rV2 C gIsn) := by
  intro pins s σ H x y v u Q I rx ry ⟨S, dx, dy, so, r1, r2, o, eo, q⟩
  obtain ⟨b, eb, rfl⟩ : ∃ b, isD dx dy = some b ∧ bO (!b) = o := by simpa [gIsn] using eo
  unfold isD at eb
  split at eb
  · have eb := Option.some.inj eb
    exact op_notN pins s σ H x y v u Q I rx ry ⟨r2, by rw [non_iff r1, eb]; exact q_sc so q rfl rfl⟩
  · have eb := Option.some.inj eb
    exact op_notBl pins s σ H x y v u Q I rx ry ⟨_, _, r1, r2, by rw [eb]; exact q_sc so q rfl rfl⟩
  · cases eb
end
end G
end

section
set_option maxRecDepth 100000
set_option maxHeartbeats 2000000
open PySem PySem.Spec PyProof.Rows L2
namespace G
def eTru (f : Fe) : Env' → Out Bool := fun ρ => (f ρ).bind fun o ρ1 => match truG o.toD with
  | some b => .ok b ρ1
  | none => .bad
def tNt (f : Env' → Out Bool) : Env' → Out Bool := fun ρ => (f ρ).bind fun b ρ1 => .ok (!b) ρ1
def tAn (f h : Env' → Out Bool) : Env' → Out Bool := fun ρ => (f ρ).bind fun b ρ1 => if b = true then h ρ1 else .ok false ρ1
def tOr' (f h : Env' → Out Bool) : Env' → Out Bool := fun ρ => (f ρ).bind fun b ρ1 => if b = true then .ok true ρ1 else h ρ1
def eIf (c : Env' → Out Bool) (f h : Fe) : Fe := fun ρ => (c ρ).bind fun b ρ1 => if b = true then f ρ1 else h ρ1
def eNot (f : Fe) : Fe := fun ρ => (f ρ).bind fun o ρ1 => match truG o.toD with
  | some b => .ok (bO (!b)) ρ1
  | none => .bad
def blD : D → Option Bool
  | .bl b => some b
  | _ => none
/-- and, or of bools -/
def eAnd (f h : Fe) : Fe := fun ρ => (f ρ).bind fun o ρ1 => match blD o.toD with
  | some true => h ρ1
  | some false => .ok (bO false) ρ1
  | none => .bad
def eOr (f h : Fe) : Fe := fun ρ => (f ρ).bind fun o ρ1 => match blD o.toD with
  | some true => .ok (bO true) ρ1
  | some false => h ρ1
  | none => .bad
def bO? : Option O → Option Bool
  | some (.sh (.bl b)) => some b
  | _ => none
def eChn (g g' : D → D → Option O) (f h k : Fe) : Fe := fun ρ => (f ρ).bind fun a ρ1 => (h ρ1).bind fun b ρ2 => match bO? (g a.toD b.toD) with
  | some true => (k ρ2).bind fun c ρ3 => fin (g' b.toD c.toD) ρ3
  | some false => .ok (bO false) ρ2
  | none => .bad
section
variable {C : Cn} {E : WX} {X : Cx} {σ : L2.St} {H : Hp} {S F : Set'} {ρ : Env'} {a b c : Expr} {rest : List Expr} {pos : Pos} {f h k : Fe} {tf th : Env' → Out Bool}
theorem kp_sh {H : Hp} {S A : Set'} : Kp H S H (Un' S A) := ⟨fun _ _ _ e => e, fun _ _ _ e => e, fun _ => .inl⟩
/-- the truth of what an expression gives -/
theorem rT_of {g : Option Bool → Env' → Out Bool} {Q : Bool → Hp → Prop} (q : rT C E (eTru f) σ H Q) : rE C E f σ H (fun x H1 => ∃ S d, RepD C H1 S x d ∧ ∃ k, truG d = some k ∧ Q k H1) := by
  obtain ⟨ρ, S, F, he, w, q⟩ := q
  refine ⟨ρ, S, F, he, w, ?_⟩
  unfold eTru at q
  cases ef : f ρ with
  | bad => rw [ef] at q; exact q
  | exc x ρ' => rw [ef] at q; exact q
  | ok o ρ1 =>
    rw [ef] at q
    simp only [bind_ok] at q
    intro v H1 S1 F1 A he1 r1 w1 d1 fr1
    cases et : truG o.toD with
    | none => rw [et] at q; exact q.elim
    | some b =>
      rw [et] at q
      exact ⟨Un' S1 A, o.toD, r1.share (fun _ => .inl) (fun _ => .inr), b, et, q H1 S1 F1 he1 w1.drop fr1.drop⟩
theorem dt_tru (ok : OkX C X) (ha : DE C E X a f) (he : ∀ whole, isTrue a X.env whole = (do let v ← whole; standAt a.pos; holding [v] (truthy v)) := by intro _; rfl) : DT C E X a (eTru f) :=
  pt_imp (t := fun σ H Q => rE C E f σ H fun x H1 => ∃ S d, RepD C H1 S x d ∧ ∃ k, truG d = some k ∧ Q k H1)
    ⟨fun pins s σ H Q I q => isTrue_plain (thn (PE.run ha pins s σ H _ I q) fun v s1 ⟨x, H1, I1, r1, q1⟩ => og_tru ok pins s1 σ H1 x v Q I1 r1 q1) (he _)⟩
    fun σ H Q q => rT_of (g := fun _ _ => .bad) q
theorem tB_of {Q : Bool → Hp → Prop} {tf th : Env' → Out Bool} (k : Bool → Env' → Out Bool) (q : rT C E (fun ρ => (tf ρ).bind k) σ H Q) : rT C E tf σ H (fun b H1 => rT C E (k b) σ H1 Q) := by
  obtain ⟨ρ, S, F, he, w, q⟩ := q
  refine ⟨ρ, S, F, he, w, ?_⟩
  cases ef : tf ρ with
  | bad => simp only [ef, bind_bad] at q
  | exc x ρ' => simp only [ef, bind_exc] at q; exact q
  | ok b ρ1 =>
    simp only [ef, bind_ok] at q
    intro H1 S1 F1 he1 w1 fr1
    refine ⟨ρ1, S1, F1, he1, w1, ?_⟩
    cases ek : k b ρ1 with
    | bad => rw [ek] at q; exact q
    | exc x ρ' => rw [ek] at q; exact fun c d H2 S2 F2 he2 w2 fr2 rx => q c d H2 S2 F2 he2 w2 (fr1.trans fr2) rx
    | ok b' ρ2 => rw [ek] at q; exact fun H2 S2 F2 he2 w2 fr2 => q H2 S2 F2 he2 w2 (fr1.trans fr2)
theorem rT_pure {b : Bool} {Q : Bool → Hp → Prop} (q : rT C E (fun ρ => .ok b ρ) σ H Q) : Q b H := by
  obtain ⟨ρ, S, F, he, w, q⟩ := q
  exact q H S F he w .refl
theorem dt_not (ha : DT C E X a tf) : DT C E X (.UnaryOp .Not a pos) (tNt tf) :=
  pt_imp (pt_not ha) fun σ H Q q => by
    obtain ⟨ρ, S, F, he, w, q⟩ := tB_of (th := tf) (fun b ρ => .ok (!b) ρ) q
    refine ⟨ρ, S, F, he, w, ?_⟩
    cases ef : tf ρ with
    | bad => rw [ef] at q; exact q
    | exc x ρ' => rw [ef] at q; exact q
    | ok b ρ1 => rw [ef] at q; exact fun H1 S1 F1 he1 w1 fr1 => rT_pure (q H1 S1 F1 he1 w1 fr1)
theorem rT_mono {tf : Env' → Out Bool} {Q Q' : Bool → Hp → Prop} (q : rT C E tf σ H Q) (m : ∀ b H, Q b H → Q' b H) : rT C E tf σ H Q' := by
  obtain ⟨ρ, S, F, he, w, q⟩ := q
  refine ⟨ρ, S, F, he, w, ?_⟩
  cases ef : tf ρ with
  | bad => rw [ef] at q; exact q
  | exc x ρ' => rw [ef] at q; exact q
  | ok b ρ1 => rw [ef] at q; exact fun H1 S1 F1 he1 w1 fr1 => m _ _ (q H1 S1 F1 he1 w1 fr1)
theorem dw_and1 (ha : DT C E X a tf) : DW C E X (.BoolOp .And [a] pos) tf := pw_and1 ha
theorem dw_or1 (ha : DT C E X a tf) : DW C E X (.BoolOp .Or [a] pos) tf := pw_or1 ha
theorem dw_and (ha : DT C E X a tf) (hb : DW C E X (.BoolOp .And (b :: rest) pos) th) : DW C E X (.BoolOp .And (a :: b :: rest) pos) (tAn tf th) :=
  pw_imp (pw_and ha hb) fun σ H Q q => rT_mono (tB_of (th := tf) (fun b ρ => if b = true then th ρ else .ok false ρ) q) fun b H1 q1 => by
    cases b with
    | true => exact q1
    | false => exact rT_pure q1
theorem dw_or (ha : DT C E X a tf) (hb : DW C E X (.BoolOp .Or (b :: rest) pos) th) : DW C E X (.BoolOp .Or (a :: b :: rest) pos) (tOr' tf th) :=
  pw_imp (pw_or ha hb) fun σ H Q q => rT_mono (tB_of (th := tf) (fun b ρ => if b = true then .ok true ρ else th ρ) q) fun b H1 q1 => by
    cases b with
    | true => exact rT_pure q1
    | false => exact q1
theorem dt_w (h : DW C E X a tf) : DT C E X a tf := PW.pt h
theorem de_if (hc : DT C E X c tf) (ha : DE C E X a f) (hb : DE C E X b h) : DE C E X (.IfExp c a b pos) (eIf tf f h) :=
  pe_imp (pe_ifExp hc ha hb) fun σ H Q ⟨ρ, S, F, he, w, q⟩ => by
    refine ⟨ρ, S, F, he, w, ?_⟩
    unfold eIf at q
    cases ef : tf ρ with
    | bad => rw [ef] at q; exact q
    | exc x ρ' => rw [ef] at q; exact q
    | ok t ρ1 =>
      rw [ef] at q
      simp only [bind_ok] at q
      intro H1 S1 F1 he1 w1 fr1
      have fin : ∀ g : Fe, (match g ρ1 with
          | .ok o ρ' => ∀ v H' S' F' A, RepE C H' S' σ ρ' F' → RepO C H' S' v o A → Wf H' S' (Un' A F') → Dj A F' → Fr H S F H' S' (Un' A F') → Q v H'
          | .exc x ρ' => ∀ c d H' S' F', RepE C H' S' σ ρ' F' → Wf H' S' F' → Fr H S F H' S' F' → RepXn C H' S' x c d → E c d σ H'
          | .bad => False) → rE C E g σ H1 Q := fun g qg => by
        refine ⟨ρ1, S1, F1, he1, w1, ?_⟩
        cases eg : g ρ1 with
        | bad => rw [eg] at qg; exact qg
        | exc x ρ' => rw [eg] at qg; exact fun c d H2 S2 F2 he2 w2 fr2 rx => qg c d H2 S2 F2 he2 w2 (fr1.trans fr2) rx
        | ok o ρ2 => rw [eg] at qg; exact fun v H2 S2 F2 A he2 r2 w2 d2 fr2 => qg v H2 S2 F2 A he2 r2 w2 d2 (fr1.trans fr2)
      cases t with
      | true => exact fin f q
      | false => exact fin h q
/-- what an expression gives, by its truth: its own value (shared from now on), or what follows -/
def tG (C : Cn) (t : TE) (k1 k2 : V → TE) : TE := fun σ H Q => t σ H fun x H1 => ∃ S d, RepD C H1 S x d ∧ ∃ k, truG d = some k ∧ if k = true then k1 x σ H1 Q else k2 x σ H1 Q
theorem pe_andG (ok : OkX C X) {ta tb : TE} (ha : PE X a ta) (hb : PE X (.BoolOp .And (b :: rest) pos) tb) : PE X (.BoolOp .And (a :: b :: rest) pos) (tG C ta (fun _ => tb) fun x _ H Q => Q x H) := by
  refine ⟨fun pins s σ H Q I h => ?_⟩
  refine BoolOp_and (thn (ha.run pins s σ H _ I h) fun v s1 ⟨x, H1, I1, r1, S, d, rd, k, ek, q1⟩ => ?_)
  refine thn (og_tru ok pins s1 σ H1 x v (fun c H2 => c = k ∧ H2 = H1) I1 r1 ⟨S, d, rd, k, ek, rfl, rfl⟩) fun c s2 ⟨H2, I2, ec, eh⟩ => ?_
  subst ec eh
  cases c with
  | true => exact hb.run pins s2 σ _ Q I2 q1
  | false => exact ⟨x, _, I2, r1, q1⟩
theorem pe_orG (ok : OkX C X) {ta tb : TE} (ha : PE X a ta) (hb : PE X (.BoolOp .Or (b :: rest) pos) tb) : PE X (.BoolOp .Or (a :: b :: rest) pos) (tG C ta (fun x _ H Q => Q x H) fun _ => tb) := by
  refine ⟨fun pins s σ H Q I h => ?_⟩
  refine BoolOp_or (thn (ha.run pins s σ H _ I h) fun v s1 ⟨x, H1, I1, r1, S, d, rd, k, ek, q1⟩ => ?_)
  refine thn (og_tru ok pins s1 σ H1 x v (fun c H2 => c = k ∧ H2 = H1) I1 r1 ⟨S, d, rd, k, ek, rfl, rfl⟩) fun c s2 ⟨H2, I2, ec, eh⟩ => ?_
  subst ec eh
  cases c with
  | true => exact ⟨x, _, I2, r1, q1⟩
  | false => exact hb.run pins s2 σ _ Q I2 q1
theorem pe_notG (ok : OkX C X) {ta : TE} (ha : PE X a ta) : PE X (.UnaryOp .Not a pos) (tG C ta (fun _ _ H Q => Q (.bl false) H) fun _ _ H Q => Q (.bl true) H) := by
  refine ⟨fun pins s σ H Q I h => ?_⟩
  refine UnaryOp_ (thn (ha.run pins s σ H _ I h) fun v s1 ⟨x, H1, I1, r1, S, d, rd, k, ek, q1⟩ => ?_)
  refine not_of (thn (og_tru ok pins s1 σ H1 x v (fun c H2 => c = k ∧ H2 = H1) I1 r1 ⟨S, d, rd, k, ek, rfl, rfl⟩) fun c s2 ⟨H2, I2, ec, eh⟩ => ?_)
  subst ec eh
  refine ⟨.bl (!c), _, I2, rfl, ?_⟩
  cases c <;> exact q1
/-- the step all three share -/
theorem rG_of {kt kf : Fe} {k1 k2 : V → TE} {Q : VK} (q : rE C E (fun ρ => (f ρ).bind fun o ρ1 => match truG o.toD with
      | some true => kt ρ1
      | some false => kf ρ1
      | none => .bad) σ H Q)
    (h1 : ∀ x H1, rE C E kt σ H1 Q → k1 x σ H1 Q) (h2 : ∀ x H1, rE C E kf σ H1 Q → k2 x σ H1 Q) : tG C (rE C E f) k1 k2 σ H Q := by
  obtain ⟨ρ, S, F, he, w, q⟩ := q
  refine ⟨ρ, S, F, he, w, ?_⟩
  cases ef : f ρ with
  | bad => simp only [ef, bind_bad] at q
  | exc x ρ' => simp only [ef, bind_exc] at q; exact q
  | ok o ρ1 =>
    simp only [ef, bind_ok] at q
    intro v H1 S1 F1 A he1 r1 w1 d1 fr1
    have fin : ∀ g : Fe, (match g ρ1 with
        | .ok o ρ' => ∀ v H' S' F' A, RepE C H' S' σ ρ' F' → RepO C H' S' v o A → Wf H' S' (Un' A F') → Dj A F' → Fr H S F H' S' (Un' A F') → Q v H'
        | .exc x ρ' => ∀ c d H' S' F', RepE C H' S' σ ρ' F' → Wf H' S' F' → Fr H S F H' S' F' → RepXn C H' S' x c d → E c d σ H'
        | .bad => False) → rE C E g σ H1 Q := fun g qg => by
      refine ⟨ρ1, S1, F1, he1, w1.drop, ?_⟩
      cases eg : g ρ1 with
      | bad => rw [eg] at qg; exact qg
      | exc x ρ' => rw [eg] at qg; exact fun c d H2 S2 F2 he2 w2 fr2 rx => qg c d H2 S2 F2 he2 w2 (fr1.drop.trans fr2) rx
      | ok o ρ2 => rw [eg] at qg; exact fun v H2 S2 F2 A he2 r2 w2 d2 fr2 => qg v H2 S2 F2 A he2 r2 w2 d2 (fr1.drop.trans fr2)
    cases et : truG o.toD with
    | none => rw [et] at q; exact q.elim
    | some t =>
      rw [et] at q
      refine ⟨Un' S1 A, o.toD, r1.share (fun _ => .inl) (fun _ => .inr), t, et, ?_⟩
      cases t with
      | true => exact h1 v H1 (fin kt q)
      | false => exact h2 v H1 (fin kf q)
theorem rE_sc {v : V} {d : D} (r : ∀ H S, RepD C H S v d) {Q : VK} (q : rE C E (fun ρ => .ok (.sh d) ρ) σ H Q) : Q v H := by
  obtain ⟨ρ, S, F, he, w, q⟩ := q
  exact ret_sh he w .refl (r H S) q
theorem de_not (ok : OkX C X) (ha : DE C E X a f) : DE C E X (.UnaryOp .Not a pos) (eNot f) :=
  pe_imp (pe_notG ok ha) fun σ H Q q => rG_of (kt := fun ρ => .ok (bO false) ρ) (kf := fun ρ => .ok (bO true) ρ)
    (by
      have e : eNot f = fun ρ => (f ρ).bind fun o ρ1 => match truG o.toD with
          | some true => .ok (bO false) ρ1
          | some false => .ok (bO true) ρ1
          | none => .bad := by
        funext ρ
        unfold eNot
        cases f ρ with
        | ok o ρ1 => simp only [bind_ok]; cases truG o.toD with
          | none => rfl
          | some b => cases b <;> rfl
        | exc x ρ' => rfl
        | bad => rfl
      rw [e] at q
      exact q) (fun _ _ q => rE_sc (v := .bl false) (d := .bl false) (fun _ _ => rfl) q) fun _ _ q => rE_sc (v := .bl true) (d := .bl true) (fun _ _ => rfl) q
theorem de_one {op} (ha : DE C E X a f) : DE C E X (.BoolOp op [a] pos) f := pe_one ha
theorem rB_of {kt kf : Fe} {Q : VK} (q : rE C E (fun ρ => (f ρ).bind fun o ρ1 => match blD o.toD with
      | some true => kt ρ1
      | some false => kf ρ1
      | none => .bad) σ H Q) : rE C E f σ H (fun x H1 => ∃ c, x = .bl c ∧ if c = true then rE C E kt σ H1 Q else rE C E kf σ H1 Q) := by
  obtain ⟨ρ, S, F, he, w, q⟩ := q
  refine ⟨ρ, S, F, he, w, ?_⟩
  cases ef : f ρ with
  | bad => simp only [ef, bind_bad] at q
  | exc x ρ' => simp only [ef, bind_exc] at q; exact q
  | ok o ρ1 =>
    simp only [ef, bind_ok] at q
    intro v H1 S1 F1 A he1 r1 w1 d1 fr1
    have fin : ∀ g : Fe, (match g ρ1 with
        | .ok o ρ' => ∀ v H' S' F' A, RepE C H' S' σ ρ' F' → RepO C H' S' v o A → Wf H' S' (Un' A F') → Dj A F' → Fr H S F H' S' (Un' A F') → Q v H'
        | .exc x ρ' => ∀ c d H' S' F', RepE C H' S' σ ρ' F' → Wf H' S' F' → Fr H S F H' S' F' → RepXn C H' S' x c d → E c d σ H'
        | .bad => False) → rE C E g σ H1 Q := fun g qg => by
      refine ⟨ρ1, S1, F1, he1, w1.drop, ?_⟩
      cases eg : g ρ1 with
      | bad => rw [eg] at qg; exact qg
      | exc x ρ' => rw [eg] at qg; exact fun c d H2 S2 F2 he2 w2 fr2 rx => qg c d H2 S2 F2 he2 w2 (fr1.drop.trans fr2) rx
      | ok o ρ2 => rw [eg] at qg; exact fun v H2 S2 F2 A he2 r2 w2 d2 fr2 => qg v H2 S2 F2 A he2 r2 w2 d2 (fr1.drop.trans fr2)
    have r := r1.share (S' := Un' S1 A) (fun _ => .inl) (fun _ => .inr)
    cases et : blD o.toD with
    | none => rw [et] at q; exact q.elim
    | some t =>
      rw [et] at q
      have ed : o.toD = .bl t := by
        revert et
        cases o.toD <;> intro et <;> simp [blD] at et
        rw [et]
      rw [ed] at r
      refine ⟨t, r, ?_⟩
      cases t with
      | true => exact fin kt q
      | false => exact fin kf q
theorem de_and (ha : DE C E X a f) (hb : DE C E X (.BoolOp .And (b :: rest) pos) h) : DE C E X (.BoolOp .And (a :: b :: rest) pos) (eAnd f h) :=
  pe_imp (pe_and ha hb) fun σ H Q q => by
    have q := rB_of (kt := h) (kf := fun ρ => .ok (bO false) ρ) q
    obtain ⟨ρ, S, F, he, w, q⟩ := q
    refine ⟨ρ, S, F, he, w, ?_⟩
    cases ef : f ρ with
    | bad => rw [ef] at q; exact q
    | exc x ρ' => rw [ef] at q; exact q
    | ok o ρ1 =>
      rw [ef] at q
      intro v H1 S1 F1 A he1 r1 w1 d1 fr1
      obtain ⟨c, ec, q⟩ := q v H1 S1 F1 A he1 r1 w1 d1 fr1
      refine ⟨c, ec, ?_⟩
      cases c with
      | true => exact q
      | false => exact rE_sc (E := E) (v := .bl false) (d := .bl false) (fun _ _ => rfl) q
theorem de_or (ha : DE C E X a f) (hb : DE C E X (.BoolOp .Or (b :: rest) pos) h) : DE C E X (.BoolOp .Or (a :: b :: rest) pos) (eOr f h) :=
  pe_imp (pe_or ha hb) fun σ H Q q => by
    have q := rB_of (kt := fun ρ => .ok (bO true) ρ) (kf := h) q
    obtain ⟨ρ, S, F, he, w, q⟩ := q
    refine ⟨ρ, S, F, he, w, ?_⟩
    cases ef : f ρ with
    | bad => rw [ef] at q; exact q
    | exc x ρ' => rw [ef] at q; exact q
    | ok o ρ1 =>
      rw [ef] at q
      intro v H1 S1 F1 A he1 r1 w1 d1 fr1
      obtain ⟨c, ec, q⟩ := q v H1 S1 F1 A he1 r1 w1 d1 fr1
      refine ⟨c, ec, ?_⟩
      cases c with
      | true => exact rE_sc (E := E) (v := .bl true) (d := .bl true) (fun _ _ => rfl) q
      | false => exact q
theorem chn_of {g g' : D → D → Option O} {Q : VK} (q : rE C E (eChn g g' f h k) σ H Q) : tChain (rV2 C g) (rV2 C g') (rE C E f) (rE C E h) (rE C E k) σ H Q := by
  obtain ⟨ρ, S, F, he, w, q⟩ := q
  refine ⟨ρ, S, F, he, w, ?_⟩
  unfold eChn at q
  cases ef : f ρ with
  | bad => rw [ef] at q; exact q
  | exc x ρ' => rw [ef] at q; exact q
  | ok oa ρ1 =>
    rw [ef] at q
    simp only [bind_ok] at q
    intro v H1 S1 F1 A he1 r1 w1 d1 fr1
    refine ⟨ρ1, S1, F1, he1, w1.drop, ?_⟩
    cases eh : h ρ1 with
    | bad => rw [eh] at q; exact q
    | exc x ρ' =>
      rw [eh] at q
      exact fun c d H2 S2 F2 he2 w2 fr2 rx => q c d H2 S2 F2 he2 w2 (fr1.drop.trans fr2) rx
    | ok ob ρ2 =>
      rw [eh] at q
      simp only [bind_ok] at q
      intro v2 H2 S2 F2 B he2 r2 w2 d2 fr2
      obtain ⟨ka, d3, w3, fr3, kp⟩ := fr_tmp w1 d1 fr1 fr2 w2
      obtain ⟨d4, d5⟩ := dj_un d3 d2
      have r1' := r1.mono kp ka
      rw [un_assoc] at w3 fr3
      have w4 := w3.share d5
      have fr4 := fr3.share
      have rda := r1'.share (S' := Un' S2 (Un' A B)) (fun _ => .inl) (fun _ z => .inr (.inl z))
      have rdb := r2.share (S' := Un' S2 (Un' A B)) (fun _ => .inl) (fun _ z => .inr (.inr z))
      have he4 : RepE C H2 (Un' S2 (Un' A B)) σ ρ2 F2 := he2.mono kp_sh fun _ _ => rfl
      cases eg : g oa.toD ob.toD with
      | none => rw [eg] at q; exact q.elim
      | some o1 =>
        rw [eg] at q
        refine ⟨Un' S2 (Un' A B), oa.toD, ob.toD, w4.so, rda, rdb, o1, eg, fun z H3 S3 D3 al rz => ?_⟩
        obtain ⟨he5, w5, d6, fr5⟩ := alc_step he4 w4 fr4 al
        cases o1 with
        | lst l => exact q.elim
        | dct l => exact q.elim
        | ins c l => exact q.elim
        | sh d =>
          cases d <;> try exact q.elim
          next t =>
          obtain ⟨eD, ez⟩ := rz
          refine ⟨t, ez, ?_⟩
          have w6 : Wf H3 S3 F2 := w5.drop
          have fr6 : Fr H S F H3 S3 F2 := fr5.drop
          cases t with
          | false =>
            show Q (.bl false) H3
            exact ret_sh he5 w6 fr6 (d := .bl false) rfl q
          | true =>
            show rE C E k σ H3 _
            have q : match (k ρ2).bind fun c ρ3 => fin (g' ob.toD c.toD) ρ3 with
              | .ok o ρ' => ∀ v H' S' F' A, RepE C H' S' σ ρ' F' → RepO C H' S' v o A → Wf H' S' (Un' A F') → Dj A F' → Fr H S F H' S' (Un' A F') → Q v H'
              | .exc x ρ' => ∀ c d H' S' F', RepE C H' S' σ ρ' F' → Wf H' S' F' → Fr H S F H' S' F' → RepXn C H' S' x c d → E c d σ H'
              | .bad => False := q
            refine ⟨ρ2, S3, F2, he5, w6, ?_⟩
            cases ek : k ρ2 with
            | bad => rw [ek] at q; exact q
            | exc x ρ' =>
              rw [ek] at q
              exact fun c d H4 S4 F4 he4 w4 fr7 rx => q c d H4 S4 F4 he4 w4 (fr6.trans fr7) rx
            | ok oc ρ3 =>
              rw [ek] at q
              simp only [bind_ok] at q
              intro v3 H4 S4 F4 G he7 r7 w7 d7 fr7
              obtain ⟨o', eo⟩ := fin_bad q
              have w8 := w7.share d7
              have k2 : Kp H3 S3 H4 (Un' S4 G) := (fr7.share).kp w6
              exact ⟨Un' S4 G, ob.toD, oc.toD, w8.so, (rdb.mono al.kp).mono k2, r7.share (fun _ => .inl) (fun _ => .inr), o', eo,
                fin_op (he7.mono kp_sh fun _ _ => rfl) w8 (fr6.trans fr7).share eo q⟩
theorem de_chn {op op' : CmpOp} {g g' : D → D → Option O} (ho : OpR X (compareOp op) (rV2 C g)) (ho' : OpR X (compareOp op') (rV2 C g')) (ha : DE C E X a f) (hb : DE C E X b h) (hc : DE C E X c k)
    (hm : lastMarks [op, op'] [b, c] = false := by with_unfolding_all rfl) : DE C E X (.Compare a [op, op'] [b, c] pos) (eChn g g' f h k) :=
  pe_imp (pe_chain ho ho' ha hb hc hm) fun _ _ _ q => chn_of q
end
end G
end

section
set_option maxRecDepth 100000
set_option maxHeartbeats 2000000
open PySem PySem.Spec PyProof.Rows L2
namespace G
inductive SO where
  | nx (ρ : Env') | ret (o : O) (ρ : Env') | exc (x : Xn) (ρ : Env') | brk (ρ : Env') | cnt (ρ : Env') | bad
abbrev Fs := Env' → SO
/-- an expression's end, then a statement's -/
def Out.then' {α : Type} (x : Out α) (k : α → Env' → SO) : SO := match x with
  | .ok a ρ => k a ρ
  | .exc x ρ => .exc x ρ
  | .bad => .bad
@[simp] theorem then_ok {α : Type} (a : α) (ρ : Env') (k : α → Env' → SO) : (Out.ok a ρ).then' k = k a ρ := rfl
@[simp] theorem then_exc {α : Type} (x : Xn) (ρ : Env') (k : α → Env' → SO) : (Out.exc x ρ : Out α).then' k = .exc x ρ := rfl
@[simp] theorem then_bad {α : Type} (k : α → Env' → SO) : (Out.bad : Out α).then' k = .bad := rfl
/-- what a statement's end is worth -/
structure Fx where
  pi : List Nat
  σ0 : L2.St
def Fx.at (P : Fx) (σ : L2.St) : Prop := ∀ j ∈ P.pi, σ[j]? = P.σ0[j]?
def PSO (C : Cn) (P : Fx) (E : WX) (D : Ends) (H : Hp) (S F : Set') : SO → Prop
  | .nx ρ' => ∀ σ' H' S' F', RepE C H' S' σ' ρ' F' → Wf H' S' F' → P.at σ' → Fr H S F H' S' F' → D.nx σ' H'
  | .ret o ρ' => ∀ v σ' H' S' F' A, RepE C H' S' σ' ρ' F' → RepO C H' S' v o A → Wf H' S' (Un' A F') → Dj A F' → P.at σ' → Fr H S F H' S' (Un' A F') → D.rt v H'
  | .exc x ρ' => ∀ c d σ' H' S' F', RepE C H' S' σ' ρ' F' → Wf H' S' F' → P.at σ' → Fr H S F H' S' F' → RepXn C H' S' x c d → E c d σ' H'
  | .brk ρ' => ∀ σ' H' S' F', RepE C H' S' σ' ρ' F' → Wf H' S' F' → P.at σ' → Fr H S F H' S' F' → D.bk σ' H'
  | .cnt ρ' => ∀ σ' H' S' F', RepE C H' S' σ' ρ' F' → Wf H' S' F' → P.at σ' → Fr H S F H' S' F' → D.ct σ' H'
  | .bad => False
def rS (C : Cn) (P : Fx) (E : WX) (f : Fs) : TS := fun D σ H => ∃ ρ S F, RepE C H S σ ρ F ∧ Wf H S F ∧ P.at σ ∧ PSO C P E D H S F (f ρ)
abbrev DS (C : Cn) (P : Fx) (E : WX) (X : Cx) (st : Stmt) (f : Fs) : Prop := PS X st (rS C P E f)
abbrev DSs (C : Cn) (P : Fx) (E : WX) (X : Cx) (st : List Stmt) (f : Fs) : Prop := PSs X st (rS C P E f)
theorem ps_imp {X : Cx} {st : Stmt} {t t' : TS} (h : PS X st t) (hi : ∀ D σ H, t' D σ H → t D σ H) : PS X st t' := ⟨fun pins s σ H D I q => h.run pins s σ H D I (hi D σ H q)⟩
theorem pss_imp {X : Cx} {st : List Stmt} {t t' : TS} (h : PSs X st t) (hi : ∀ D σ H, t' D σ H → t D σ H) : PSs X st t' := ⟨fun pins s σ H D I q => h.run pins s σ H D I (hi D σ H q)⟩
/-- what was reached from (H1 S1 F1), itself reached from (H S F) -/
theorem PSO.trans {C : Cn} {P : Fx} {E : WX} {D : Ends} {H H1 : Hp} {S S1 F F1 : Set'} (fr : Fr H S F H1 S1 F1) : ∀ {o : SO}, PSO C P E D H S F o → PSO C P E D H1 S1 F1 o
  | .nx _, q => fun σ' H' S' F' a b c d => q σ' H' S' F' a b c (fr.trans d)
  | .ret _ _, q => fun v σ' H' S' F' A a b c d e f => q v σ' H' S' F' A a b c d e (fr.trans f)
  | .exc _ _, q => fun c d σ' H' S' F' a b e f g => q c d σ' H' S' F' a b e (fr.trans f) g
  | .brk _, q => fun σ' H' S' F' a b c d => q σ' H' S' F' a b c (fr.trans d)
  | .cnt _, q => fun σ' H' S' F' a b c d => q σ' H' S' F' a b c (fr.trans d)
  | .bad, q => q
theorem PSO.mono {C : Cn} {P : Fx} {E E' : WX} {D D' : Ends} {H : Hp} {S F : Set'} (h1 : ∀ σ H, D.nx σ H → D'.nx σ H) (h2 : ∀ v H, D.rt v H → D'.rt v H) (h3 : ∀ σ H, D.bk σ H → D'.bk σ H) (h4 : ∀ σ H, D.ct σ H → D'.ct σ H) (h5 : ∀ c d σ H, E c d σ H → E' c d σ H) :
    ∀ {o : SO}, PSO C P E D H S F o → PSO C P E' D' H S F o
  | .nx _, q => fun σ' H' S' F' a b c d => h1 _ _ (q σ' H' S' F' a b c d)
  | .ret _ _, q => fun v σ' H' S' F' A a b c d e f => h2 _ _ (q v σ' H' S' F' A a b c d e f)
  | .exc _ _, q => fun c d σ' H' S' F' a b e f g => h5 _ _ _ _ (q c d σ' H' S' F' a b e f g)
  | .brk _, q => fun σ' H' S' F' a b c d => h3 _ _ (q σ' H' S' F' a b c d)
  | .cnt _, q => fun σ' H' S' F' a b c d => h4 _ _ (q σ' H' S' F' a b c d)
  | .bad, q => q
def sNil : Fs := fun ρ => .nx ρ
def sSeq (f g : Fs) : Fs := fun ρ => match f ρ with
  | .nx ρ1 => g ρ1
  | o => o
def sSet (i : Nat) (f : Fe) : Fs := fun ρ => (f ρ).then' fun o ρ1 => if i < ρ1.length then .nx (ρ1.set i (some o)) else .bad
def sExpr (f : Fe) : Fs := fun ρ => (f ρ).then' fun _ ρ1 => .nx ρ1
def sRet (f : Fe) : Fs := fun ρ => (f ρ).then' fun o ρ1 => .ret o ρ1
def sRetN : Fs := fun ρ => .ret (.sh .non) ρ
def sIf (c : Env' → Out Bool) (f g : Fs) : Fs := fun ρ => (c ρ).then' fun b ρ1 => if b = true then f ρ1 else g ρ1
def sBrk : Fs := fun ρ => .brk ρ
def sCnt : Fs := fun ρ => .cnt ρ
section
variable {C : Cn} {P : Fx} {E : WX} {X : Cx} {σ : L2.St} {H H1 : Hp} {S S1 F F1 A B : Set'} {ρ : Env'} {e : Expr} {pos : Pos} {f : Fe} {st : Stmt} {rest : List Stmt} {g h : Fs}
theorem dss_nil : DSs C P E X [] sNil := pss_imp pss_nil fun D σ H ⟨ρ, S, F, he, w, p, q⟩ => q σ H S F he w p .refl
theorem dss_cons (h1 : DS C P E X st g) (h2 : DSs C P E X rest h) : DSs C P E X (st :: rest) (sSeq g h) := by
  refine pss_imp (pss_cons h1 h2) fun D σ H ⟨ρ, S, F, he, w, p, q⟩ => ⟨ρ, S, F, he, w, p, ?_⟩
  unfold sSeq at q
  cases eg : g ρ with
  | nx ρ1 =>
    rw [eg] at q
    exact fun σ' H' S' F' a b c d => ⟨ρ1, S', F', a, b, c, q.trans d⟩
  | ret o ρ1 => rw [eg] at q; exact q
  | exc x ρ1 => rw [eg] at q; exact q
  | brk ρ1 => rw [eg] at q; exact q
  | cnt ρ1 => rw [eg] at q; exact q
  | bad => rw [eg] at q; exact q
theorem dss_one (h1 : DS C P E X st g) : DSs C P E X [st] g := pss_one h1
/-- an expression runs, then what follows of its value -/
theorem rE_then {k : O → Env' → SO} {D : Ends} {Q : VK} (he : RepE C H S σ ρ F) (w : Wf H S F) (p : P.at σ) (q : PSO C P E D H S F ((f ρ).then' k))
    (h : ∀ o ρ1, f ρ = .ok o ρ1 → ∀ v H' S' F' A, RepE C H' S' σ ρ1 F' → RepO C H' S' v o A → Wf H' S' (Un' A F') → Dj A F' → Fr H S F H' S' (Un' A F') → PSO C P E D H S F (k o ρ1) → Q v H') : rE C E f σ H Q := by
  refine ⟨ρ, S, F, he, w, ?_⟩
  cases ef : f ρ with
  | bad => rw [ef] at q; exact q
  | exc x ρ' => rw [ef] at q; exact fun c d H' S' F' a b fr r => q c d σ H' S' F' a b p fr r
  | ok o ρ1 => rw [ef] at q; exact fun v H' S' F' A a b c d fr => h o ρ1 ef v H' S' F' A a b c d fr q
/-- a value goes into a slot -/
theorem slot_set {i : Nat} {v : V} {o : O} (he : RepE C H S σ ρ F) (r : RepO C H S v o A) (w : Wf H S (Un' A F)) (d : Dj A F) (hl : i < ρ.length) :
    ∃ F', RepE C H S (σ.set i (some v)) (ρ.set i (some o)) F' ∧ Wf H S F' ∧ ∀ a, F' a → Un' A F a := by
  obtain ⟨r0, e0⟩ : ∃ r, ρ[i]? = some r := ⟨ρ[i], by simp [hl]⟩
  obtain ⟨x, P, B, e1, _, h2, s⟩ := he.take e0
  have hd : Dj A B := fun a x y => d a x (s.r y)
  have q := h2.put (i := i) (F := Un' A B) (A := A) (x := some v) (r := some o) (by simp [hl]) ⟨v, rfl, r⟩ ⟨fun a => Iff.rfl, hd⟩
  rw [List.set_set] at q
  have sub : ∀ a, Un' A B a → Un' A F a := fun a z => z.elim .inl fun z => .inr (s.r z)
  exact ⟨Un' A B, q, ⟨fun a z => w.mu a (sub a z), fun a z => w.ns a (sub a z), w.so⟩, sub⟩
theorem Fr.less {H' : Hp} {S' F2 F3 : Set'} (x : Fr H S F H' S' F2) (h : ∀ a, F3 a → F2 a) : Fr H S F H' S' F3 := ⟨x.keep, x.sub, x.new, fun a z => x.fnew a (h a z)⟩
theorem Fx.set {i : Nat} {v : Option V} (p : P.at σ) (hp : i ∉ P.pi) : P.at (σ.set i v) := fun j hj => by
  have : i ≠ j := fun e => hp (e ▸ hj)
  rw [← p j hj, List.getElem?_set_ne this]
theorem ds_set {i : Nat} {x : Str} {pos' : Pos} (hN : X.N.Nodup) (hi : X.N[i]? = some x) (hx : Loc X.env.scope x) (hp : i ∉ P.pi) (he : DE C E X e f) (hs : swapsWith e (some (.Name x pos')) pos.line X.env = pure false := by rfl) (hf : X.fn x = true ∨ X.env.scope.names.lookup x = some .local := by first | exact .inl rfl | exact .inr rfl | assumption) :
    DS C P E X (.Assign [.Name x pos'] e pos) (sSet i f) :=
  ps_imp (ps_set hN hi hx he hs hf) fun D σ H ⟨ρ, S, F, he, w, p, q⟩ => rE_then he w p q fun o ρ1 ef v H' S' F' A a b c d fr q => by
    by_cases hl : i < ρ1.length
    · rw [if_pos hl] at q
      obtain ⟨F2, h1, h2, h3⟩ := slot_set a b c d hl
      exact q _ H' S' F2 h1 h2 (Fx.set p hp) (fr.less h3)
    · rw [if_neg hl] at q; exact q.elim
theorem ds_expr (he : DE C E X e f) (hs : swapsWith e none pos.line X.env = pure false := by rfl) : DS C P E X (.Expr e pos) (sExpr f) :=
  ps_imp (ps_expr he hs) fun D σ H ⟨ρ, S, F, he, w, p, q⟩ => rE_then he w p q fun o ρ1 ef v H' S' F' A a b c d fr q => q σ H' S' F' a c.drop p fr.drop
theorem ds_ret (he : DE C E X e f) : DS C P E X (.Return (some e) pos) (sRet f) :=
  ps_imp (ps_ret he) fun D σ H ⟨ρ, S, F, he, w, p, q⟩ => rE_then he w p q fun o ρ1 ef v H' S' F' A a b c d fr q => q v σ H' S' F' A a b c d p fr
theorem ds_retN : DS C P E X (.Return none pos) sRetN := ps_imp ps_retN fun D σ H ⟨ρ, S, F, he, w, p, q⟩ => q .non σ H S F No he ⟨emp_no, rfl⟩ (wf_no w) dj_no p (fr_no .refl)
theorem ds_pass : DS C P E X (.Pass pos) sNil := ps_imp ps_pass fun D σ H ⟨ρ, S, F, he, w, p, q⟩ => q σ H S F he w p .refl
theorem ds_brk : DS C P E X (.Break pos) sBrk := ps_imp ps_break fun D σ H ⟨ρ, S, F, he, w, p, q⟩ => q σ H S F he w p .refl
theorem ds_cnt : DS C P E X (.Continue pos) sCnt := ps_imp ps_continue fun D σ H ⟨ρ, S, F, he, w, p, q⟩ => q σ H S F he w p .refl
theorem ds_if {c : Expr} {p1 p2 : List Stmt} {tc : Env' → Out Bool} (hc : DT C E X c tc) (ha : DSs C P E X p1 g) (hb : DSs C P E X p2 h) : DS C P E X (.If c p1 p2 pos) (sIf tc g h) := by
  refine ps_imp (ps_if hc ha hb) fun D σ H ⟨ρ, S, F, he, w, p, q⟩ => ⟨ρ, S, F, he, w, ?_⟩
  unfold sIf at q
  cases ec : tc ρ with
  | bad => rw [ec] at q; exact q
  | exc x ρ' => rw [ec] at q; exact fun c d H' S' F' a b fr r => q c d σ H' S' F' a b p fr r
  | ok b ρ1 =>
    rw [ec] at q
    simp only [then_ok] at q
    intro H' S' F' a b' fr
    cases b with
    | true => exact ⟨ρ1, S', F', a, b', p, PSO.trans fr q⟩
    | false => exact ⟨ρ1, S', F', a, b', p, PSO.trans fr q⟩
/-! owned data at a slot -/
/-- the slot's data taken out of the environment, and put back changed -/
theorem own_at {i : Nat} {o : O} (he : RepE C H S σ ρ F) (e : ρ[i]? = some (some o)) : ∃ v A B, σ[i]? = some (some v) ∧ RepO C H S v o A ∧ Sum' F A B ∧ RepE C H S σ (ρ.set i none) B ∧ i < ρ.length := by
  obtain ⟨x, A, B, e1, ⟨v, rfl, h1⟩, h2, s⟩ := he.take e
  exact ⟨v, A, B, e1, h1, s, h2, (List.getElem?_eq_some_iff.mp e).1⟩
theorem own_put {i : Nat} {o : O} {v : V} (he : RepE C H S σ (ρ.set i none) B) (ev : σ[i]? = some (some v)) (r : RepO C H S v o A) (d : Dj A B) (hl : i < ρ.length) : RepE C H S σ (ρ.set i (some o)) (Un' A B) := by
  have q := he.put (i := i) (F := Un' A B) (A := A) (x := some v) (r := some o) (by simp [hl]) ⟨v, rfl, r⟩ ⟨fun a => Iff.rfl, d⟩
  rw [List.set_set, set_at ev] at q
  exact q
theorem kp_upd {a : Addr} {u : HO} (m : Mut (H a)) (n : ¬ S a) : Kp H S (upd H a u) S :=
  ⟨fun b w s e => by rw [upd_ne (fun z => by subst z; exact n s)]; exact e, fun b w n' e => by rw [upd_ne (fun z => n' (by rw [← e, z]; exact m))]; exact e, fun _ h => h⟩
/-- the owned node at a is written -/
theorem own_write {i : Nat} {a : Addr} {u : HO} {o : O} {G : Set'} {H0 : Hp} {S0 F0 : Set'} (he : RepE C H S σ (ρ.set i none) B) (hl : i < ρ.length) (ev : σ[i]? = some (some (.ref a))) (m : Mut (some u))
    (w : Wf H S (Un' (fun b => b = a) (Un' G B))) (d1 : ¬ G a) (d2 : ¬ B a) (d3 : Dj G B) (fr : Fr H0 S0 F0 H S (Un' (fun b => b = a) (Un' G B)))
    (new : Kp H S (upd H a u) S → (∀ b, G b → upd H a u b = H b) → RepO C (upd H a u) S (.ref a) o (fun b => b = a ∨ G b)) :
    RepE C (upd H a u) S σ (ρ.set i (some o)) (Un' (fun b => b = a ∨ G b) B) ∧ Wf (upd H a u) S (Un' (fun b => b = a ∨ G b) B) ∧ Fr H0 S0 F0 (upd H a u) S (Un' (fun b => b = a ∨ G b) B) := by
  have ma := w.mu a (.inl rfl)
  have na := w.ns a (.inl rfl)
  have k : Kp H S (upd H a u) S := kp_upd ma na
  have ne : ∀ b, b ≠ a → upd H a u b = H b := fun b h => upd_ne h
  have h1 := new k fun b g => ne b fun e => d1 (e ▸ g)
  have h2 : RepE C (upd H a u) S σ (ρ.set i none) B := he.mono k fun b g => ne b fun e => d2 (e ▸ g)
  refine ⟨own_put h2 ev h1 (fun b x y => x.elim (fun e => d2 (e ▸ y)) fun g => d3 b g y) hl, ⟨fun b z => ?_, fun b z s => ?_, fun b s => ?_⟩, ⟨fun b x e nf => ?_, fr.sub, fr.new, fun b z => ?_⟩⟩
  · by_cases e : b = a
    · rw [e, upd_same]; exact m
    · rw [ne b e]
      rcases z with (z | z) | z
      · exact (e z).elim
      · exact w.mu b (.inr (.inl z))
      · exact w.mu b (.inr (.inr z))
  · rcases z with (z | z) | z
    · exact w.ns b (.inl z) s
    · exact w.ns b (.inr (.inl z)) s
    · exact w.ns b (.inr (.inr z)) s
  · obtain ⟨x, e⟩ := w.so b s
    exact ⟨x, k.sh b x s e⟩
  · have q := fr.keep b x e nf
    rw [ne b (fun z => by
      have := fr.fnew a (.inl rfl)
      rw [← z] at this
      exact this.elim nf fun n => by rw [e] at n; cases n)]
    exact q
  · rcases z with (z | z) | z
    · exact fr.fnew b (.inl z)
    · exact fr.fnew b (.inr (.inl z))
    · exact fr.fnew b (.inr (.inr z))
theorem un_swap {A B D : Set'} : Un' A (Un' B D) = Un' B (Un' A D) := by
  funext a; apply propext; constructor
  · rintro (h | h | h)
    · exact .inr (.inl h)
    · exact .inl h
    · exact .inr (.inr h)
  · rintro (h | h | h)
    · exact .inr (.inl h)
    · exact .inl h
    · exact .inr (.inr h)
theorem RepOs.snoc : ∀ {vs : List V} {os : List O} {v : V} {o : O} {A Y : Set'}, RepOs C H S vs os A → RepO C H S v o Y → Dj A Y → RepOs C H S (vs ++ [v]) (os ++ [o]) (Un' A Y)
  | vs, [], v, o, A, Y, r, ro, d => by
    obtain ⟨e, em⟩ := r
    exact ⟨v, [], Y, No, by rw [e]; rfl, ro, ⟨rfl, emp_no⟩, ⟨fun a => ⟨fun z => z.elim (fun z => (em a z).elim) .inl, fun z => z.elim .inr False.elim⟩, fun a _ z => z⟩⟩
  | vs, o' :: os, v, o, A, Y, r, ro, d => by
    obtain ⟨v', t, P, R, e, r1, r2, s⟩ := r
    refine ⟨v', t ++ [v], P, Un' R Y, by rw [e]; rfl, r1, RepOs.snoc r2 ro (fun a x y => d a (s.r x) y), fun a => ?_, fun a x y => y.elim (fun y => s.2 a x y) fun y => d a (s.l x) y⟩
    constructor
    · rintro (z | z)
      · rcases (s.1 a).mp z with z | z
        · exact .inl z
        · exact .inr (.inl z)
      · exact .inr (.inr z)
    · rintro (z | z | z)
      · exact .inl (s.l z)
      · exact .inl (s.r z)
      · exact .inr z
/-- one item of owned ones replaced -/
theorem RepOs.setO : ∀ {vs : List V} {os : List O} {k : Nat} {v : V} {o : O} {A Y : Set'}, RepOs C H S vs os A → RepO C H S v o Y → Dj A Y → k < os.length → ∃ A', RepOs C H S (vs.set k v) (os.set k o) A' ∧ ∀ a, A' a → Un' A Y a
  | vs, [], k, v, o, A, Y, r, ro, d, h => by simp at h
  | vs, o' :: os, 0, v, o, A, Y, r, ro, d, h => by
    obtain ⟨v', t, P, R, e, r1, r2, s⟩ := r
    exact ⟨Un' Y R, ⟨v, t, Y, R, by rw [e]; rfl, ro, r2, fun a => Iff.rfl, fun a x y => d a (s.r y) x⟩, fun a z => z.elim .inr fun z => .inl (s.r z)⟩
  | vs, o' :: os, k + 1, v, o, A, Y, r, ro, d, h => by
    obtain ⟨v', t, P, R, e, r1, r2, s⟩ := r
    obtain ⟨A', h1, h2⟩ := RepOs.setO r2 ro (fun a x y => d a (s.r x) y) (k := k) (by simpa using h)
    refine ⟨Un' P A', ⟨v', t.set k v, P, A', by rw [e]; rfl, r1, h1, fun a => Iff.rfl, fun a x y => ?_⟩, fun a z => z.elim (fun z => .inl (s.l z)) fun z => (h2 a z).elim (fun z => .inl (s.r z)) .inr⟩
    rcases h2 a y with y | y
    · exact s.2 a x y
    · exact d a (s.l x) y
def lstAt (i : Nat) (ρ : Env') : Option (List O) := match ρ[i]? with
  | some (some (.lst os)) => some os
  | _ => none
theorem lstAt_eq {i : Nat} {ρ : Env'} {os : List O} (h : lstAt i ρ = some os) : ρ[i]? = some (some (.lst os)) := by
  unfold lstAt at h
  split at h
  · next e => rw [e, Option.some.inj h]
  · cases h
def eApp (i : Nat) (f : Fe) : Fe := fun ρ => match lstAt i ρ with
  | some _ => (f ρ).bind fun o ρ1 => match lstAt i ρ1 with
    | some os => if os.length < big then .ok (.sh .non) (ρ1.set i (some (.lst (os ++ [o])))) else .bad
    | none => .bad
  | none => .bad
/-- a temporary beside an environment, its slot i taken out -/
theorem tmp_own {i : Nat} {o : O} {Y : Set'} (he : RepE C H S σ ρ F) (d : Dj Y F) (w : Wf H S (Un' Y F)) (e : ρ[i]? = some (some o)) :
    ∃ v A B, σ[i]? = some (some v) ∧ RepO C H S v o A ∧ F = Un' A B ∧ Dj A B ∧ RepE C H S σ (ρ.set i none) B ∧ i < ρ.length ∧ Dj Y A ∧ Dj Y B := by
  obtain ⟨v, A, B, ev, r, s, h2, hl⟩ := own_at he e
  have eu := s.un
  subst eu
  exact ⟨v, A, B, ev, r, rfl, s.2, h2, hl, fun a x y => d a x (.inl y), fun a x y => d a x (.inr y)⟩
theorem de_app {i : Nat} {x : Str} {p1 apos cpos : Pos} (hN : X.N[i]? = some x) (hv : Vis X.env.scope x) (he : DE C E X e f)
    (hd : (x == ("__debug__" : Str)) = false := by decide) (hcd : (x == ("__classdict__" : Str)) = false := by decide)
    (hbase : attributeBase (.Name x p1) "append" X.env (eval (.Name x p1) X.env) = eval (.Name x p1) X.env := by rfl)
    (hfew : ((backTo cpos (starEach [e] X.env)).all (fun x => !x.1) && (backToKw cpos (keywordEach [] X.env)).all (fun x => x.1.isSome)
      && decide ([e].length + ([] : List Keyword).length + (if ([] : List Keyword).isEmpty then 0 else 1) < 30)) = true := by rfl)
    (hline : (apos.endLine == cpos.line) = true := by rfl) (hs : starEach [e] X.env = (false, eval e X.env) :: starEach [] X.env := by rfl) (hplain : (backTo cpos (starEach [] X.env)).any (·.1) = false := by rfl) :
    DE C E X (.Call (.Attribute (.Name x p1) "append" apos) [e] [] cpos) (eApp i f) := by
  refine pe_imp (pe_bm PySem.F.plainAttrs_list PySem.F.slot_list_append PySem.F.type_list_append mt_append (pe_var hN hv hd hcd) (pa_cons he pa_nil hs) hbase hfew hline hs hplain) fun σ H Q ⟨ρ, S, F, he, w, q⟩ => ?_
  unfold eApp at q
  cases e0 : lstAt i ρ with
  | none => rw [e0] at q; exact q.elim
  | some os0 =>
    rw [e0] at q
    obtain ⟨v0, A0, B0, ev, r0, _, _, _⟩ := own_at he (lstAt_eq e0)
    obtain ⟨a, vs0, A1, rfl, h0, _, _⟩ := r0
    refine ⟨.ref a, ev, .inl ⟨rfl, vs0, SqL.of h0⟩, ρ, S, F, he, w, ?_⟩
    cases ef : f ρ with
    | bad => rw [ef] at q; exact q
    | exc x ρ' => rw [ef] at q; exact q
    | ok o ρ1 =>
      rw [ef] at q
      simp only [bind_ok] at q
      intro v H1 S1 F1 Y he1 r1 w1 d1 fr1
      cases e1 : lstAt i ρ1 with
      | none => rw [e1] at q; exact q.elim
      | some os =>
        rw [e1] at q
        by_cases hl : os.length < big
        · simp only [hl, if_true] at q
          obtain ⟨v', A, B, ev', r, rfl, dAB, he2, hi, dYA, dYB⟩ := tmp_own he1 d1 w1 (lstAt_eq e1)
          rw [ev] at ev'
          cases ev'
          obtain ⟨a', vs, G, ea, h1, r2, sG⟩ := r
          injection ea with ea
          subst ea
          have eA := sG.un
          subst eA
          refine ⟨a, vs, v, rfl, rfl, h1, by rw [r2.len]; exact Nat.lt_of_lt_of_le hl (big_line (Nat.le_refl _)), ?_⟩
          have dGY : Dj G Y := fun b x y => dYA b y (.inr x)
          have eq1 : Un' Y (Un' (Un' (fun b => b = a) G) B) = Un' (fun b => b = a) (Un' (Un' G Y) B) := by
            funext b; apply propext; constructor
            · rintro (h | (h | h) | h)
              · exact .inr (.inl (.inr h))
              · exact .inl h
              · exact .inr (.inl (.inl h))
              · exact .inr (.inr h)
            · rintro (h | (h | h) | h)
              · exact .inr (.inl (.inl h))
              · exact .inr (.inl (.inr h))
              · exact .inl h
              · exact .inr (.inr h)
          rw [eq1] at w1 fr1
          have nG : ¬ Un' G Y a := fun z => z.elim (fun z => sG.2 a rfl z) fun z => dYA a z (.inl rfl)
          have nB : ¬ B a := fun z => dAB a (.inl rfl) z
          obtain ⟨k1, k2, k3⟩ := own_write (u := .lst (vs ++ [v])) (o := .lst (os ++ [o])) he2 hi ev trivial w1 nG nB (fun b x y => x.elim (fun x => dAB b (.inr x) y) fun x => dYB b x y) fr1 fun k kk =>
            ⟨a, vs ++ [v], Un' G Y, rfl, upd_same, RepOs.snoc (r2.mono k fun b z => kk b (.inl z)) (r1.mono k fun b z => kk b (.inr z)) dGY, fun b => Iff.rfl, fun b z1 z2 => nG (z1 ▸ z2)⟩
          exact q .non _ S1 _ No k1 ⟨emp_no, rfl⟩ (wf_no k2) dj_no (fr_no k3)
        · simp only [hl, if_false] at q
end
end G
end

section
set_option maxRecDepth 100000
set_option maxHeartbeats 2000000
open PySem PySem.Spec PyProof.Rows L2
namespace G
def intD : D → Option Int
  | .int i => some i
  | _ => none
theorem intD_eq {d : D} {i : Int} (h : intD d = some i) : d = .int i := by cases d <;> simp [intD] at h; rw [h]
/-- x[k] = e, x a slot with an owned list -/
def sPutI (i : Nat) (fk fe : Fe) : Fs := fun ρ => (fe ρ).then' fun o ρ1 => match lstAt i ρ1 with
  | some _ => (fk ρ1).then' fun k ρ2 => match lstAt i ρ2 with
    | some os => match (intD k.toD).bind (ixN os.length) with
      | some j => .nx (ρ2.set i (some (.lst (os.set j o))))
      | none => .bad
    | none => .bad
  | none => .bad
section
variable {C : Cn} {P : Fx} {E : WX} {X : Cx} {σ : L2.St} {H H1 : Hp} {S S1 F F1 A B : Set'} {ρ : Env'} {e k : Expr} {pos : Pos} {f h : Fe}
theorem ds_putI {i : Nat} {x : Str} {p1 tpos : Pos} (hN : X.N[i]? = some x) (hv : Vis X.env.scope x) (he : DE C E X e f) (hk : DE C E X k h)
    (hd : (x == ("__debug__" : Str)) = false := by decide) (hcd : (x == ("__classdict__" : Str)) = false := by decide)
    (ha : ∀ v, assign (.Subscript (.Name x p1) k tpos) X.env v = (do
      let ov ← holding [v] (eval (.Name x p1) X.env)
      let iv ← holding [v, ov] (eval k X.env)
      standAt tpos
      holding [v, ov, iv] (setItem ov iv v)
      release [v, ov, iv] []) := by intro _; rfl)
    (hs : swapsWithSole [.Subscript (.Name x p1) k tpos] e pos.line X.env = pure false := by rfl) (hw : swappedStores [.Subscript (.Name x p1) k tpos] e X.env = pure none := by rfl)
    (h1 : (assignEach [.Subscript (.Name x p1) k tpos] X.env).map (·.2) = [assign (.Subscript (.Name x p1) k tpos) X.env] := by rfl) :
    DS C P E X (.Assign [.Subscript (.Name x p1) k tpos] e pos) (sPutI i h f) := by
  refine ps_imp (ps_asg he (pg_sub (pe_var hN hv hd hcd) hk set_list ha) hs hw h1) fun D σ H ⟨ρ, S, F, he, w, p, q⟩ => rE_then he w p q fun o ρ1 ef y H1 S1 F1 Y he1 r1 w1 d1 fr1 q => ?_
  cases e0 : lstAt i ρ1 with
  | none => rw [e0] at q; exact q.elim
  | some os0 =>
    rw [e0] at q
    obtain ⟨v0, A0, B0, ev, r0, _, _, _⟩ := own_at he1 (lstAt_eq e0)
    obtain ⟨a, vs0, A1, rfl, h0, _, _⟩ := r0
    refine ⟨.ref a, ev, ρ1, S1, F1, he1, w1.drop, ?_⟩
    cases eh : h ρ1 with
    | bad => rw [eh] at q; exact q.elim
    | exc x ρ' =>
      rw [eh] at q
      exact fun c d H2 S2 F2 he2 w2 fr2 rx => q c d σ H2 S2 F2 he2 w2 p (fr1.drop.trans fr2) rx
    | ok ko ρ2 =>
      rw [eh] at q
      simp only [then_ok] at q
      intro kv H2 S2 F2 Z he2 rk w2 d2 fr2
      obtain ⟨ka, d3, w3, fr3, kp⟩ := fr_tmp w1 d1 fr1 fr2.drop w2.drop
      have ry := r1.mono kp ka
      have rkd := rk.share (S' := Un' S2 Z) (fun _ => .inl) fun _ => .inr
      cases e1 : lstAt i ρ2 with
      | none => rw [e1] at q; exact q.elim
      | some os =>
        rw [e1] at q
        cases ei : (intD ko.toD).bind (ixN os.length) with
        | none => simp only [ei] at q; exact q.elim
        | some j =>
          simp only [ei] at q
          obtain ⟨n, en, ej⟩ := Option.bind_eq_some_iff.mp ei
          rw [intD_eq en] at rkd
          obtain ⟨v', A, B, ev', r, rfl, dAB, he3, hi, dYA, dYB⟩ := tmp_own he2 d3 w3 (lstAt_eq e1)
          rw [ev] at ev'
          cases ev'
          obtain ⟨a', vs, G, ea, hl, r2, sG⟩ := r
          injection ea with ea
          subst ea
          have eA := sG.un
          subst eA
          have hj : j < os.length := (ixN_seq ej).2.1
          refine ⟨a, vs, n, j, rfl, rkd, hl, by rw [r2.len]; exact ej, ?_⟩
          have dGY : Dj G Y := fun b x y => dYA b y (.inr x)
          have eq1 : Un' Y (Un' (Un' (fun b => b = a) G) B) = Un' (fun b => b = a) (Un' (Un' G Y) B) := by
            funext b; apply propext; constructor
            · rintro (h | (h | h) | h)
              · exact .inr (.inl (.inr h))
              · exact .inl h
              · exact .inr (.inl (.inl h))
              · exact .inr (.inr h)
            · rintro (h | (h | h) | h)
              · exact .inr (.inl (.inl h))
              · exact .inr (.inl (.inr h))
              · exact .inl h
              · exact .inr (.inr h)
          rw [eq1] at w3 fr3
          obtain ⟨G', rs, sub⟩ := RepOs.setO r2 ry dGY hj
          have nG0 : ¬ Un' G Y a := fun z => z.elim (fun z => sG.2 a rfl z) fun z => dYA a z (.inl rfl)
          have nB : ¬ B a := fun z => dAB a (.inl rfl) z
          have lessU : ∀ b, Un' (fun b => b = a) (Un' G' B) b → Un' (fun b => b = a) (Un' (Un' G Y) B) b := fun b z => z.elim .inl fun z => .inr (z.elim (fun z => .inl (sub b z)) .inr)
          have nG : ¬ G' a := fun z => nG0 (sub a z)
          have dGB : Dj G' B := fun b x y => (sub b x).elim (fun x => dAB b (.inr x) y) fun x => dYB b x y
          obtain ⟨k1, k2, k3⟩ := own_write (u := .lst (vs.set j y)) (o := .lst (os.set j o)) (G := G') he3 hi ev trivial ⟨fun b z => w3.mu b (lessU b z), fun b z => w3.ns b (lessU b z), w3.so⟩ nG nB dGB (fr3.less lessU) fun k kk =>
            ⟨a, vs.set j y, G', rfl, upd_same, rs.mono k kk, fun b => Iff.rfl, fun b z1 z2 => nG (z1 ▸ z2)⟩
          exact q σ _ S2 _ k1 k2 p k3
/-! views: what a slot holds, looked at and not kept -/
def rV (C : Cn) (f : Env' → Option D) : TE := fun σ H Q => ∃ ρ S F, RepE C H S σ ρ F ∧ Wf H S F ∧ ∃ d, f ρ = some d ∧ ∀ v, RepD C H (Un' S F) v d → Q v H
abbrev DV (C : Cn) (X : Cx) (e : Expr) (f : Env' → Option D) : Prop := PE X e (rV C f)
def vVar (i : Nat) : Env' → Option D := fun ρ => match ρ[i]? with
  | some (some o) => some o.toD
  | _ => none
theorem dv_var {i : Nat} {x : Str} {pos : Pos} (hN : X.N[i]? = some x) (hv : Vis X.env.scope x) (hd : (x == ("__debug__" : Str)) = false := by decide) (hcd : (x == ("__classdict__" : Str)) = false := by decide) : DV C X (.Name x pos) (vVar i) := by
  refine pe_imp (pe_var hN hv hd hcd) fun σ H Q ⟨ρ, S, F, he, w, d, ed, q⟩ => ?_
  unfold vVar at ed
  split at ed
  · next o e =>
    obtain ⟨v, A, B, ev, r, s, _, _⟩ := own_at he e
    have ed := Option.some.inj ed
    subst ed
    exact ⟨v, ev, q v (r.share (fun _ => .inl) fun a z => .inr (s.l z))⟩
  · cases ed
def scD : D → Bool
  | .non => true
  | .bl _ => true
  | .int _ => true
  | .str _ => true
  | _ => false
theorem sc_rep {v : V} {d : D} {S' : Set'} {H' : Hp} (h : scD d = true) (r : RepD C H S v d) : RepD C H' S' v d := by
  cases d <;> simp [scD] at h <;> exact r
theorem un_so (w : Wf H S F) : So H (Un' S F) := fun a s => s.elim (w.so a) fun s => mut_some (w.mu a s)
/-- an operation on a view, its result a scalar -/
def e1v (g : D → Option O) (f : Env' → Option D) : Fe := fun ρ => match (f ρ).bind g with
  | some (.sh d) => if scD d = true then .ok (.sh d) ρ else .bad
  | _ => .bad
def e1l (g : List D → Option O) (f : Env' → Option D) : Fe := fun ρ => match (f ρ).bind fun d => g [d] with
  | some (.sh d) => if scD d = true then .ok (.sh d) ρ else .bad
  | _ => .bad
theorem v1_of {g : D → Option O} {f : Env' → Option D} {Q : VK} (q : rE C E (e1v g f) σ H Q) : rV C f σ H (fun x H1 => rV1 C g x H1 Q) := by
  obtain ⟨ρ, S, F, he, w, q⟩ := q
  unfold e1v at q
  cases ef : f ρ with
  | none => rw [ef] at q; exact q.elim
  | some d0 =>
    rw [ef] at q
    cases eg : g d0 with
    | none => simp only [Option.bind_some, eg] at q
    | some o =>
      simp only [Option.bind_some, eg] at q
      cases o with
      | lst l => exact q.elim
      | dct l => exact q.elim
      | ins c l => exact q.elim
      | sh d =>
        by_cases hc : scD d = true
        · simp only [hc, if_true] at q
          refine ⟨ρ, S, F, he, w, d0, ef, fun v r => ⟨Un' S F, d0, un_so w, r, _, eg, fun v' H' S' A al ro => ?_⟩⟩
          -- all that stood stands; nothing new is kept
          have k : Kp H S H S := ⟨fun _ _ _ e => e, fun _ _ _ e => e, fun _ h => h⟩
          have ka : ∀ b, F b → H' b = H b := fun b z => by
            obtain ⟨u, e⟩ := mut_some (w.mu b z)
            rw [e]; exact al.keep b u e
          have kp : Kp H S H' S := ⟨fun b u _ e => al.keep b u e, fun b u _ e => al.keep b u e, fun _ h => h⟩
          exact q v' H' S F No (he.mono kp ka) ⟨emp_no, sc_rep hc ro.2⟩ (wf_no ⟨fun b z => by rw [ka b z]; exact w.mu b z, w.ns, fun b s => by
            obtain ⟨u, e⟩ := w.so b s
            exact ⟨u, al.keep b u e⟩⟩) dj_no (fr_no ⟨fun b u e _ => al.keep b u e, fun _ h => h, fun _ h => .inl h, fun _ h => .inl h⟩)
        · simp only [hc, if_false] at q
          exact q.elim
theorem vl_of {g : List D → Option O} {f : Env' → Option D} {Q : VK} (q : rE C E (e1l g f) σ H Q) : rV C f σ H (fun x H1 => rVn C g [x] H1 Q) := by
  have q' := v1_of (g := fun d => g [d]) (f := f) (E := E) (C := C) (σ := σ) (H := H) (Q := Q) q
  obtain ⟨ρ, S, F, he, w, d, ed, q'⟩ := q'
  refine ⟨ρ, S, F, he, w, d, ed, fun v r => ?_⟩
  obtain ⟨S', dx, so, rd, o, eo, q2⟩ := q' v r
  exact ⟨S', [dx], so, ⟨v, [], rfl, rd, rfl⟩, o, eo, q2⟩
/-- len(x), and the like, of a view -/
theorem de_callV {x : Str} {p pos : Pos} {e : Expr} {id : String} {g : List D → Option O} {f : Env' → Option D} (hc : CallR X (.builtin id) (rVn C g)) (hg : Gl X x) (hm : X.mg x = none) (hv : bootBuiltins x = some (.builtin id)) (ha : DV C X e f) (hn : x ≠ "__name__" := by decide) (hdb : (x == ("__debug__" : Str)) = false := by decide)
    (he : starEach [e] X.env = (false, eval e X.env) :: starEach [] X.env := by rfl) (hpl : (backTo pos (starEach [] X.env)).any (·.1) = false := by rfl) : DE C E X (.Call (.Name x p) [e] [] pos) (e1l g f) :=
  pe_imp (pe_callB hc hg hm hv (pa_cons ha pa_nil he) hn hdb he hpl) fun _ _ _ q => vl_of q
/-- a op b, b a view -/
def e2v (g : D → D → Option O) (f : Fe) (h : Env' → Option D) : Fe := fun ρ => (f ρ).bind fun a ρ1 => e1v (g a.toD) h ρ1
theorem r2v_of {f : Fe} {h : Env' → Option D} {g : D → D → Option O} {Q : VK} (q : rE C E (e2v g f h) σ H Q) : rE C E f σ H (fun x H1 => rV C h σ H1 fun y H2 => rV2 C g x y H2 Q) := by
  obtain ⟨ρ, S, F, he, w, q⟩ := q
  refine ⟨ρ, S, F, he, w, ?_⟩
  unfold e2v at q
  cases ef : f ρ with
  | bad => rw [ef] at q; exact q
  | exc x ρ' => rw [ef] at q; exact q
  | ok o ρ1 =>
    rw [ef] at q
    simp only [bind_ok] at q
    intro v H1 S1 F1 A he1 r1 w1 d1 fr1
    have w2 := w1.share d1
    have he2 : RepE C H1 (Un' S1 A) σ ρ1 F1 := he1.mono kp_sh fun _ _ => rfl
    have fr2 := fr1.share
    have rx := r1.share (S' := Un' (Un' S1 A) F1) (fun _ z => .inl (.inl z)) fun _ z => .inl (.inr z)
    have q3 : rE C E (e1v (g o.toD) h) σ H1 Q := by
      refine ⟨ρ1, Un' S1 A, F1, he2, w2, ?_⟩
      cases eq : e1v (g o.toD) h ρ1 with
      | bad => rw [eq] at q; exact q
      | exc x ρ' => rw [eq] at q; exact fun c d H' S' F' a b fr r => q c d H' S' F' a b (fr2.trans fr) r
      | ok o' ρ' => rw [eq] at q; exact fun v H' S' F' A a b c d fr => q v H' S' F' A a b c d (fr2.trans fr)
    obtain ⟨ρ', S', F', he', w', d, ed, q4⟩ := v1_of q3
    refine ⟨ρ1, Un' S1 A, F1, he2, w2, ?_⟩
    -- by hand: the same environment
    unfold e1v at q
    cases eh : h ρ1 with
    | none => rw [eh] at q; exact q.elim
    | some d0 =>
      rw [eh] at q
      cases eg : g o.toD d0 with
      | none => simp only [Option.bind_some, eg] at q
      | some o' =>
        simp only [Option.bind_some, eg] at q
        cases o' with
        | lst l => exact q.elim
        | dct l => exact q.elim
        | ins c l => exact q.elim
        | sh d =>
          by_cases hc : scD d = true
          · simp only [hc, if_true] at q
            refine ⟨d0, rfl, fun y ry => ⟨Un' (Un' S1 A) F1, o.toD, d0, un_so w2, rx, ry, _, eg, fun v' H' S' A' al ro => ?_⟩⟩
            have ka : ∀ b, F1 b → H' b = H1 b := fun b z => by
              obtain ⟨u, e⟩ := mut_some (w2.mu b z)
              rw [e]; exact al.keep b u e
            have kp : Kp H1 (Un' S1 A) H' (Un' S1 A) := ⟨fun b u _ e => al.keep b u e, fun b u _ e => al.keep b u e, fun _ h => h⟩
            exact q v' H' (Un' S1 A) F1 No (he2.mono kp ka) ⟨emp_no, sc_rep hc ro.2⟩ (wf_no ⟨fun b z => by rw [ka b z]; exact w2.mu b z, w2.ns, fun b s => by
              obtain ⟨u, e⟩ := w2.so b s
              exact ⟨u, al.keep b u e⟩⟩) dj_no (fr_no (fr2.trans ⟨fun b u e _ => al.keep b u e, fun _ h => h, fun _ h => .inl h, fun _ h => .inl h⟩))
          · simp only [hc, if_false] at q
            exact q.elim
theorem de_cmpV {a b : Expr} {op : CmpOp} {pos : Pos} {f : Fe} {h : Env' → Option D} {g : D → D → Option O} (ho : OpR X (compareOp op) (rV2 C g)) (ha : DE C E X a f) (hb : DV C X b h) (hm : behindInMarks op b = false) : DE C E X (.Compare a [op] [b] pos) (e2v g f h) :=
  pe_imp (pe_cmpR ho ha hb hm) fun _ _ _ q => r2v_of q
/-- x[k], x a slot with an owned list, the item a shared one -/
def eItemO (i : Nat) (fk : Fe) : Fe := fun ρ => match lstAt i ρ with
  | some _ => (fk ρ).bind fun k ρ1 => match lstAt i ρ1 with
    | some os => match (intD k.toD).bind (atI os) with
      | some (.sh d) => .ok (.sh d) ρ1
      | _ => .bad
    | none => .bad
  | none => .bad
theorem RepOs.at : ∀ {vs : List V} {os : List O} {j : Nat} {d : D} {A : Set'}, RepOs C H S vs os A → os[j]? = some (.sh d) → ∃ v, vs[j]? = some v ∧ RepD C H S v d
  | vs, [], j, d, A, r, e => by simp at e
  | vs, o :: os, 0, d, A, r, e => by
    obtain ⟨v, t, P, R, rfl, r1, _, _⟩ := r
    simp at e; subst e
    exact ⟨v, rfl, r1.2⟩
  | vs, o :: os, j + 1, d, A, r, e => by
    obtain ⟨v, t, P, R, rfl, _, r2, _⟩ := r
    obtain ⟨u, e1, r3⟩ := RepOs.at r2 (j := j) (by simpa using e)
    exact ⟨u, by simpa using e1, r3⟩
theorem de_itemO (ok : OkX C X) {i : Nat} {x : Str} {p1 pos : Pos} (hN : X.N[i]? = some x) (hv : Vis X.env.scope x) (hk : DE C E X k h) (hs : PlainIx k) (hd : (x == ("__debug__" : Str)) = false := by decide) (hcd : (x == ("__classdict__" : Str)) = false := by decide) :
    DE C E X (.Subscript (.Name x p1) k pos) (eItemO i h) := by
  refine pe_imp (pe_ix ix_list (pe_var hN hv hd hcd) hk hs) fun σ H Q ⟨ρ, S, F, he, w, q⟩ => ?_
  unfold eItemO at q
  cases e0 : lstAt i ρ with
  | none => rw [e0] at q; exact q.elim
  | some os0 =>
    rw [e0] at q
    obtain ⟨v0, A0, B0, ev, r0, _, _, _⟩ := own_at he (lstAt_eq e0)
    obtain ⟨a, vs0, A1, rfl, h0, _, _⟩ := r0
    refine ⟨.ref a, ev, ρ, S, F, he, w, ?_⟩
    cases eh : h ρ with
    | bad => rw [eh] at q; exact q
    | exc x ρ' => rw [eh] at q; exact q
    | ok ko ρ1 =>
      rw [eh] at q
      simp only [bind_ok] at q
      intro kv H1 S1 F1 Z he1 rk w1 d1 fr1
      cases e1 : lstAt i ρ1 with
      | none => rw [e1] at q; exact q.elim
      | some os =>
        rw [e1] at q
        cases ei : (intD ko.toD).bind (atI os) with
        | none => simp only [ei] at q
        | some oo =>
          simp only [ei] at q
          cases oo with
          | lst l => exact q.elim
          | dct l => exact q.elim
          | ins c l => exact q.elim
          | sh d =>
            obtain ⟨n, en, ej⟩ := Option.bind_eq_some_iff.mp ei
            have rkd := rk.share (S' := Un' S1 Z) (fun _ => .inl) fun _ => .inr
            rw [intD_eq en] at rkd
            obtain ⟨v', A, B, ev', r, _, _, _⟩ := own_at he1 (lstAt_eq e1)
            rw [ev] at ev'
            cases ev'
            obtain ⟨a', vs, G, ea, hl, r2, _⟩ := r
            injection ea with ea
            subst ea
            have : ∃ v, atI vs n = some v ∧ RepD C H1 S1 v d := by
              unfold atI at ej ⊢
              rw [r2.len]
              cases ex : ixN os.length n with
              | none => rw [ex] at ej; cases ej
              | some j => rw [ex] at ej; exact r2.at (show os[j]? = some (.sh d) from ej)
            obtain ⟨v, av, rv⟩ := this
            exact ⟨a, vs, n, v, rfl, rkd, SqL.of hl, av, ret_sh he1 w1.drop fr1.drop rv q⟩
end
end G
end

section
set_option maxRecDepth 100000
set_option maxHeartbeats 2000000
open PySem PySem.Spec PyProof.Rows L2
namespace G
/-! what a loop walks -/
structure WalkD (C : Cn) (J : It) (H : Hp) (S : Set') (l : List D) : Prop where
  go : ∀ i H' S', Kp H S H' S' → i < l.length → J.go i H'
  yld : ∀ i x H' S' H2 d, Kp H S H' S' → So H' S' → l[i]? = some d → J.yld i H' x H2 → ∃ S2, Alc H' S' H2 S2 No ∧ RepD C H2 S2 x d
  stop : ∀ H' S', Kp H S H' S' → J.stop l.length H'
def rI (C : Cn) (E : WX) (f : Env' → Out (List D)) : TI := fun σ H R => ∃ ρ S F, RepE C H S σ ρ F ∧ Wf H S F ∧ match f ρ with
  | .ok l ρ' => ∀ J H' S' F', RepE C H' S' σ ρ' F' → Wf H' S' F' → Fr H S F H' S' F' → WalkD C J H' S' l → R J H'
  | .exc x ρ' => ∀ c d H' S' F', RepE C H' S' σ ρ' F' → Wf H' S' F' → Fr H S F H' S' F' → RepXn C H' S' x c d → E c d σ H'
  | .bad => False
abbrev DI (C : Cn) (E : WX) (X : Cx) (tg iter : Expr) (f : Env' → Out (List D)) : Prop := PI X tg iter (rI C E f)
theorem pi_imp {X : Cx} {tg iter : Expr} {t t' : TI} (h : PI X tg iter t) (hi : ∀ σ H R, t' σ H R → t σ H R) : PI X tg iter t' := ⟨fun pins s σ H R I q => h.run pins s σ H R I (hi σ H R q)⟩
theorem pi_or {X : Cx} {tg iter : Expr} {t t' : TI} (h : PI X tg iter t) (h' : PI X tg iter t') : PI X tg iter (fun σ H R => t σ H R ∨ t' σ H R) := ⟨fun pins s σ H R I q => q.elim (h.run pins s σ H R I) (h'.run pins s σ H R I)⟩
/-- the items of a list, a tuple, a text -/
def itD : D → Option (List D)
  | .lst l => some l
  | .tup l => some l
  | .str x => some (x.cps.toList.map fun c => .str ⟨#[c]⟩)
  | _ => none
def iSeq (f : Fe) : Env' → Out (List D) := fun ρ => (f ρ).bind fun o ρ1 => match itD o.toD with
  | some l => .ok l ρ1
  | none => .bad
/-- by Nat.ble: the kernel does not run through it where j is a variable -/
def sm (j : Int) : Bool := Nat.ble j.natAbs 4611686018427387903
def iRng1 (f : Fe) : Env' → Out (List D) := fun ρ => (f ρ).bind fun o ρ1 => match intD o.toD with
  | some j => if sm j = true then .ok ((List.range j.toNat).map fun (k : Nat) => .int k) ρ1 else .bad
  | none => .bad
def iRng2 (f g : Fe) : Env' → Out (List D) := fun ρ => (f ρ).bind fun o ρ1 => match intD o.toD with
  | some i => (g ρ1).bind fun o ρ2 => match intD o.toD with
    | some j => if (sm i && sm j) = true then .ok ((List.range (j - i).toNat).map fun (k : Nat) => .int (i + k)) ρ2 else .bad
    | none => .bad
  | none => .bad
section
variable {C : Cn} {P : Fx} {E : WX} {X : Cx} {σ : L2.St} {H H1 H' : Hp} {S S1 S' F F1 A B : Set'} {ρ : Env'} {e tg : Expr} {pos : Pos} {f : Fe}
theorem kp_trans {H2 : Hp} {S2 : Set'} (a : Kp H S H1 S1) (b : Kp H1 S1 H2 S2) : Kp H S H2 S2 := ⟨fun x u s e => b.sh x u (a.sub x s) (a.sh x u s e), fun x u n e => b.tp x u n (a.tp x u n e), fun x s => b.sub x (a.sub x s)⟩
theorem walk_lst {a : Addr} {vs : List V} {l : List D} (h : LstD C.K H S a vs) (r : RepDs C H S vs l) : WalkD C (Itl C.K a) H S l where
  go := fun i H' S' k hi => by
    obtain ⟨v, hv, _⟩ := r.get (i := i) (d := l[i]) (by simp [hi])
    exact ⟨vs, v, lst_sq0 (k.lst h), hv⟩
  yld := fun i x H' S' H2 d k so hd y => by
    obtain ⟨e, y⟩ := y
    subst e
    obtain ⟨v, hv, rv⟩ := r.get hd
    have ex := y vs (lst_sq0 (k.lst h))
    rw [hv] at ex
    cases ex
    exact ⟨S', Alc.refl so, rv.mono k⟩
  stop := fun H' S' k => ⟨vs, lst_sq0 (k.lst h), by rw [r.len]; exact Nat.le_refl _⟩
theorem walk_tup {a : Addr} {vs : List V} {l : List D} (h : H a = some (.tup vs)) (r : RepDs C H S vs l) : WalkD C (Itt C.K a) H S l where
  go := fun i H' S' k hi => by
    obtain ⟨v, hv, _⟩ := r.get (i := i) (d := l[i]) (by simp [hi])
    exact ⟨vs, v, SqT.of (k.tp _ _ (fun z => z) h), hv⟩
  yld := fun i x H' S' H2 d k so hd y => by
    obtain ⟨e, y⟩ := y
    subst e
    obtain ⟨v, hv, rv⟩ := r.get hd
    have ex := y vs (SqT.of (k.tp _ _ (fun z => z) h))
    rw [hv] at ex
    cases ex
    exact ⟨S', Alc.refl so, rv.mono k⟩
  stop := fun H' S' k => ⟨vs, SqT.of (k.tp _ _ (fun z => z) h), by rw [r.len]; exact Nat.le_refl _⟩
theorem walk_str {x : Str} : WalkD C (Its x) H S (x.cps.toList.map fun c => .str ⟨#[c]⟩) where
  go := fun i H' S' k hi => (show i < x.cps.size by simpa using hi)
  yld := fun i v H' S' H2 d k so hd y => by
    obtain ⟨e, c, hc, ev⟩ := y
    subst e
    rw [List.getElem?_map] at hd
    have : x.cps.toList[i]? = some c := by simpa using hc
    rw [this] at hd
    have hd := Option.some.inj hd
    subst hd
    exact ⟨S', Alc.refl so, ev⟩
  stop := fun H' S' k => by show x.cps.size ≤ _; simp
theorem walk_rng {lo : Int} {n : Nat} : WalkD C (Itr lo n) H S ((List.range n).map fun (k : Nat) => .int (lo + k)) where
  go := fun i H' S' k hi => (show i < n by simpa using hi)
  yld := fun i v H' S' H2 d k so hd y => by
    obtain ⟨e, ev⟩ := y
    subst e
    rw [List.getElem?_map] at hd
    have hi : i < n := by
      cases q : (List.range n)[i]? with
      | none => rw [q] at hd; cases hd
      | some z => have := (List.getElem?_eq_some_iff.mp q).1; simpa using this
    have : (List.range n)[i]? = some i := by simp [hi]
    rw [this] at hd
    have hd := Option.some.inj hd
    subst hd
    exact ⟨S', Alc.refl so, ev⟩
  stop := fun H' S' k => by show n ≤ _; simp
theorem di_seq (ok : OkX C X) (he : DE C E X e f) : DI C E X tg e (iSeq f) := by
  refine pi_imp (pi_or (pi_list he) (pi_or (pi_tup he) (pi_str he))) fun σ H R ⟨ρ, S, F, h0, w, q⟩ => ?_
  unfold iSeq at q
  cases ef : f ρ with
  | bad => rw [ef] at q; exact q.elim
  | exc x ρ' => rw [ef] at q; exact .inl ⟨ρ, S, F, h0, w, by rw [ef]; exact q⟩
  | ok o ρ1 =>
    rw [ef] at q
    simp only [bind_ok] at q
    cases ed : itD o.toD with
    | none => simp only [ed] at q
    | some l =>
      simp only [ed] at q
      have sh : ∀ v H' S' F' A, RepE C H' S' σ ρ1 F' → RepO C H' S' v o A → Wf H' S' (Un' A F') → Dj A F' → Fr H S F H' S' (Un' A F') →
          RepE C H' (Un' S' A) σ ρ1 F' ∧ Wf H' (Un' S' A) F' ∧ Fr H S F H' (Un' S' A) F' ∧ RepD C H' (Un' S' A) v o.toD := fun v H' S' F' A a b c d fr =>
        ⟨a.mono kp_sh fun _ _ => rfl, c.share d, fr.share, b.share (fun _ => .inl) fun _ => .inr⟩
      cases eo : o.toD with
      | lst l' =>
        rw [eo] at ed
        have ed := Option.some.inj ed
        subst ed
        refine .inl ⟨ρ, S, F, h0, w, ?_⟩
        rw [ef]
        intro v H' S' F' A a b c d fr
        obtain ⟨k1, k2, k3, k4⟩ := sh v H' S' F' A a b c d fr
        rw [eo] at k4
        obtain ⟨a', vs, rfl, h1, hr⟩ := k4
        exact ⟨a', rfl, ⟨vs, lst_sq ok.K h1⟩, by rw [ok.K]; exact q _ H' _ F' k1 k2 k3 (walk_lst h1 hr)⟩
      | tup l' =>
        rw [eo] at ed
        have ed := Option.some.inj ed
        subst ed
        refine .inr (.inl ⟨ρ, S, F, h0, w, ?_⟩)
        rw [ef]
        intro v H' S' F' A a b c d fr
        obtain ⟨k1, k2, k3, k4⟩ := sh v H' S' F' A a b c d fr
        rw [eo] at k4
        obtain ⟨a', vs, rfl, h1, hr⟩ := k4
        exact ⟨a', rfl, ⟨vs, tup_sq ok.K h1⟩, by rw [ok.K]; exact q _ H' _ F' k1 k2 k3 (walk_tup h1 hr)⟩
      | str x =>
        rw [eo] at ed
        have ed := Option.some.inj ed
        subst ed
        refine .inr (.inr ⟨ρ, S, F, h0, w, ?_⟩)
        rw [ef]
        intro v H' S' F' A a b c d fr
        obtain ⟨k1, k2, k3, k4⟩ := sh v H' S' F' A a b c d fr
        rw [eo] at k4
        exact ⟨x, k4, q _ H' _ F' k1 k2 k3 walk_str⟩
      | _ => rw [eo] at ed; cases ed
theorem sm_iff {j : Int} (h : sm j = true) : -(2 ^ 62) ≤ j ∧ j < 2 ^ 62 := by
  have := Nat.le_of_ble_eq_true h
  omega
theorem di_rng1 {a : Expr} {fa : Fe} {p pos : Pos} (hg : Gl X "range") (hm : X.mg "range" = none) (ha : DE C E X a fa) (hs : starEach [a] X.env = [(false, eval a X.env)] := by rfl) : DI C E X tg (.Call (.Name "range" p) [a] [] pos) (iRng1 fa) := by
  refine pi_imp (pi_range1 hg hm (pa_cons ha pa_nil hs) hs) fun σ H R ⟨ρ, S, F, h0, w, q⟩ => ⟨ρ, S, F, h0, w, ?_⟩
  unfold iRng1 at q
  cases ef : fa ρ with
  | bad => rw [ef] at q; exact q
  | exc x ρ' => rw [ef] at q; exact q
  | ok o ρ1 =>
    rw [ef] at q
    simp only [bind_ok] at q
    intro v H' S' F' A a' b c d fr
    have r := b.share (S' := Un' S' A) (fun _ => .inl) fun _ => .inr
    cases ei : intD o.toD with
    | none => simp only [ei] at q
    | some j =>
      simp only [ei] at q
      by_cases hb : sm j = true
      · simp only [hb, if_true] at q
        rw [intD_eq ei] at r
        refine ⟨j, by rw [show v = .int j from r], (sm_iff hb).1, (sm_iff hb).2, q _ H' _ F' (a'.mono kp_sh fun _ _ => rfl) (c.share d) fr.share ?_⟩
        have := walk_rng (C := C) (H := H') (S := Un' S' A) (lo := 0) (n := j.toNat)
        simpa using this
      · simp only [hb] at q
        exact q.elim
theorem di_rng2 {a b : Expr} {fa fb : Fe} {p pos : Pos} (hg : Gl X "range") (hm : X.mg "range" = none) (ha : DE C E X a fa) (hb : DE C E X b fb) (hs : starEach [a, b] X.env = [(false, eval a X.env), (false, eval b X.env)] := by rfl) (hs2 : starEach [b] X.env = [(false, eval b X.env)] := by rfl) :
    DI C E X tg (.Call (.Name "range" p) [a, b] [] pos) (iRng2 fa fb) := by
  refine pi_imp (pi_range2 hg hm (pa_cons ha (pa_cons hb pa_nil hs2) (by rw [hs, hs2])) hs hs2) fun σ H R ⟨ρ, S, F, h0, w, q⟩ => ⟨ρ, S, F, h0, w, ?_⟩
  unfold iRng2 at q
  cases ef : fa ρ with
  | bad => rw [ef] at q; exact q
  | exc x ρ' => rw [ef] at q; exact q
  | ok o ρ1 =>
    rw [ef] at q
    simp only [bind_ok] at q
    intro v H1 S1 F1 A a1 b1 c1 d1 fr1
    have r1 := b1.share (S' := Un' S1 A) (fun _ => .inl) fun _ => .inr
    cases ei : intD o.toD with
    | none => simp only [ei] at q
    | some i =>
      simp only [ei] at q
      rw [intD_eq ei] at r1
      refine ⟨ρ1, S1, F1, a1, c1.drop, ?_⟩
      cases eg : fb ρ1 with
      | bad => rw [eg] at q; exact q
      | exc x ρ' => rw [eg] at q; exact fun c d H' S' F' a b fr r => q c d H' S' F' a b (fr1.drop.trans fr) r
      | ok o2 ρ2 =>
        rw [eg] at q
        simp only [bind_ok] at q
        intro v2 H' S' F' B a' b c d fr
        have r := b.share (S' := Un' S' B) (fun _ => .inl) fun _ => .inr
        cases ej : intD o2.toD with
        | none => simp only [ej] at q
        | some j =>
          simp only [ej] at q
          rw [intD_eq ej] at r
          by_cases hb : (sm i && sm j) = true
          · simp only [hb, if_true] at q
            have hb' : sm i = true ∧ sm j = true := by simpa using hb
            exact ⟨i, j, by rw [show v = .int i from r1, show v2 = .int j from r], ⟨(sm_iff hb'.1).1, (sm_iff hb'.1).2, (sm_iff hb'.2).1, (sm_iff hb'.2).2⟩,
              q _ H' _ F' (a'.mono kp_sh fun _ _ => rfl) (c.share d) (fr1.drop.trans fr).share walk_rng⟩
          · simp only [hb] at q
            exact q.elim
/-! targets -/
def TgtOk (C : Cn) (P : Fx) (g : TG) (t : D → Env' → Option Env') (ts : List Nat) : Prop := ∀ (σ : L2.St) (H : Hp) (S F : Set') (ρ : Env') (v : V) (d : D) (ρ' : Env') (Q : L2.St → Hp → Prop), RepE C H S σ ρ F → Wf H S F → P.at σ → RepD C H S v d → t d ρ = some ρ' →
  (∀ σ' F', RepE C H S σ' ρ' F' → Wf H S F' → P.at σ' → (∀ a, F' a → F a) → (∀ j, j ∉ ts → σ'[j]? = σ[j]?) → σ'.length = σ.length → Q σ' H) → g v σ H Q
def tN (i : Nat) : D → Env' → Option Env' := fun d ρ => if i < ρ.length then some (ρ.set i (some (.sh d))) else none
theorem tgt_name {i : Nat} (hp : i ∉ P.pi) : TgtOk C P (gName i) (tN i) [i] := by
  intro σ H S F ρ v d ρ' Q he w p r e q
  unfold tN at e
  split at e
  · next hl =>
    have e := Option.some.inj e
    subst e
    obtain ⟨F2, h1, h2, h3⟩ := slot_set (o := .sh d) he ⟨emp_no, r⟩ (wf_no w) dj_no hl
    exact q _ F2 h1 h2 (Fx.set p hp) (fun a z => (h3 a z).elim False.elim id) (fun j hj => List.getElem?_set_ne fun e => hj (by simp [e])) List.length_set
  · cases e
/-- several targets -/
def TgsOk (C : Cn) (P : Fx) (g : TGs) (t : List D → Env' → Option Env') (ts : List Nat) : Prop := ∀ (σ : L2.St) (H : Hp) (S F : Set') (ρ : Env') (vs : List V) (ds : List D) (ρ' : Env') (Q : L2.St → Hp → Prop), RepE C H S σ ρ F → Wf H S F → P.at σ → RepDs C H S vs ds → t ds ρ = some ρ' →
  (∀ σ' F', RepE C H S σ' ρ' F' → Wf H S F' → P.at σ' → (∀ a, F' a → F a) → (∀ j, j ∉ ts → σ'[j]? = σ[j]?) → σ'.length = σ.length → Q σ' H) → g vs σ H Q
def tsNil : List D → Env' → Option Env' := fun ds ρ => match ds with
  | [] => some ρ
  | _ => none
def tsCons (t : D → Env' → Option Env') (u : List D → Env' → Option Env') : List D → Env' → Option Env' := fun ds ρ => match ds with
  | [] => none
  | d :: ds => (t d ρ).bind (u ds)
def tT (n : Nat) (u : List D → Env' → Option Env') : D → Env' → Option Env' := fun d ρ => match d with
  | .tup l => if l.length = n then u l ρ else none
  | _ => none
theorem tgs_nil : TgsOk C P gNil tsNil [] := by
  intro σ H S F ρ vs ds ρ' Q he w p r e q
  unfold tsNil at e
  split at e
  · have e := Option.some.inj e
    subst e
    exact ⟨r, q σ F he w p (fun _ z => z) (fun _ _ => rfl) rfl⟩
  · cases e
theorem tgs_cons {g : TG} {gs : TGs} {t : D → Env' → Option Env'} {u : List D → Env' → Option Env'} {ts us : List Nat} (h1 : TgtOk C P g t ts) (h2 : TgsOk C P gs u us) : TgsOk C P (gCons g gs) (tsCons t u) (ts ++ us) := by
  intro σ H S F ρ vs ds ρ' Q he w p r e q
  cases ds with
  | nil => cases e
  | cons d ds =>
    obtain ⟨v, t', rfl, r1, r2⟩ := r
    obtain ⟨ρ1, e1, e2⟩ := Option.bind_eq_some_iff.mp (show (t d ρ).bind (u ds) = some ρ' from e)
    exact ⟨v, t', rfl, h1 σ H S F ρ v d ρ1 _ he w p r1 e1 fun σ1 F1 a b c sub n1 l1 => h2 σ1 H S F1 ρ1 t' ds ρ' Q a b c r2 e2 fun σ2 F2 a' b' c' sub' n2 l2 => q σ2 F2 a' b' c' (fun x z => sub x (sub' x z)) (fun j hj => (n2 j fun z => hj (List.mem_append_right _ z)).trans (n1 j fun z => hj (List.mem_append_left _ z))) (l2.trans l1)⟩
theorem tgt_tup {n : Nat} {gs : TGs} {u : List D → Env' → Option Env'} {ts : List Nat} (h : TgsOk C P gs u ts) : TgtOk C P (gTup C.K n gs) (tT n u) ts := by
  intro σ H S F ρ v d ρ' Q he w p r e q
  cases d with
  | tup l =>
    obtain ⟨a, vs, rfl, h1, hr⟩ := r
    have e : (if l.length = n then u l ρ else none) = some ρ' := e
    split at e
    · next hl => exact ⟨a, vs, rfl, SqT.of h1, by rw [hr.len]; exact hl, h σ H S F ρ vs l ρ' Q he w p hr e q⟩
    · cases e
  | _ => cases e
/-! for -/
def forG (t : D → Env' → Option Env') (b : Fs) : List D → Env' → SO
  | [], ρ => .nx ρ
  | d :: l, ρ => match t d ρ with
    | none => .bad
    | some ρ1 => match b ρ1 with
      | .nx ρ2 => forG t b l ρ2
      | .cnt ρ2 => forG t b l ρ2
      | .brk ρ2 => .nx ρ2
      | o => o
def sFor (fi : Env' → Out (List D)) (t : D → Env' → Option Env') (b : Fs) : Fs := fun ρ => (fi ρ).then' fun l ρ1 => forG t b l ρ1
theorem Fr.less' {H' : Hp} {S' F2 : Set'} (x : Fr H S F H' S' F2) (h : ∀ a, F2 a → F a) : Fr H S F H' S' F2 := x
/-- an assignment lessens what is owned -/
theorem fr_sub (h : ∀ a, F1 a → F a) : Fr H S F H S F1 := ⟨fun _ _ e _ => e, fun _ h => h, fun _ h => .inl h, fun a z => .inl (h a z)⟩
theorem alc_fr (he : RepE C H S σ ρ F) (w : Wf H S F) {S2 : Set'} {H2 : Hp} (al : Alc H S H2 S2 No) : RepE C H2 S2 σ ρ F ∧ Wf H2 S2 F ∧ Fr H S F H2 S2 F := by
  obtain ⟨a, b, _, d⟩ := alc_step he w .refl al
  exact ⟨a, b.drop, d.drop⟩
theorem ds_for {iter : Expr} {body : List Stmt} {fi : Env' → Out (List D)} {g : TG} {t : D → Env' → Option Env'} {b : Fs} (ok : OkX C X) (hp : PassesOwn (model X.prog X.w) X.A X.env X.xe) (hi : DI C E X tg iter fi) (hg : PG X tg g) {ts : List Nat} (ht : TgtOk C P g t ts) (hb : DSs C P E X body b)
    (hs : ∀ x, foldedSetIterable iter X.env x = pure x := by intro _; rfl) : DS C P E X (.For tg iter body [] pos) (sFor fi t b) := by
  refine ps_imp (ps_for hp ok.calm hi hg hb hs) fun D σ H ⟨ρ, S, F, he, w, p, q⟩ => ⟨ρ, S, F, he, w, ?_⟩
  unfold sFor at q
  cases ei : fi ρ with
  | bad => rw [ei] at q; exact q
  | exc x ρ' => rw [ei] at q; exact fun c d H' S' F' a b fr r => q c d σ H' S' F' a b p fr r
  | ok l ρ1 =>
    rw [ei] at q
    simp only [then_ok] at q
    intro J H1 S1 F1 he1 w1 fr1 wk
    refine ⟨fun i m σ2 H2 => ∃ ρ2 S2 F2, m = l.length - i ∧ i ≤ l.length ∧ RepE C H2 S2 σ2 ρ2 F2 ∧ Wf H2 S2 F2 ∧ P.at σ2 ∧ Fr H S F H2 S2 F2 ∧ Kp H1 S1 H2 S2 ∧ PSO C P E D H S F (forG t b (l.drop i) ρ2),
      ⟨l.length, ρ1, S1, F1, (Nat.sub_zero _).symm, Nat.zero_le _, he1, w1, p, fr1, ⟨fun _ _ _ e => e, fun _ _ _ e => e, fun _ h => h⟩, q⟩, ?_⟩
    rintro i m σ2 H2 ⟨ρ2, S2, F2, rfl, hi, he2, w2, p2, fr2, kp2, q2⟩
    by_cases hlt : i < l.length
    · have hd : l.drop i = l[i] :: l.drop (i + 1) := List.drop_eq_getElem_cons hlt
      rw [hd] at q2
      refine .inr ⟨wk.go i H2 S2 kp2 hlt, fun σ3 H3 => ∃ ρ3 S3 F3, RepE C H3 S3 σ3 ρ3 F3 ∧ Wf H3 S3 F3 ∧ P.at σ3 ∧ Fr H S F H3 S3 F3 ∧ Kp H1 S1 H3 S3 ∧ PSO C P E D H S F (forG t b (l.drop (i + 1)) ρ3),
        fun σ3 H3 ⟨ρ3, S3, F3, a, b', c, d, e, f⟩ => ⟨l.length - (i + 1), by omega, ρ3, S3, F3, rfl, hlt, a, b', c, d, e, f⟩, fun x H3 y => ?_⟩
      obtain ⟨S3, al, rx⟩ := wk.yld i x H2 S2 H3 l[i] kp2 w2.so (by simp [hlt]) y
      obtain ⟨he3, w3, fr3⟩ := alc_fr he2 w2 al
      have kp3 := kp_trans kp2 al.kp
      have q2 : PSO C P E D H S F (match t l[i] ρ2 with
        | none => .bad
        | some ρ1 => match b ρ1 with
          | .nx ρ2 => forG t b (l.drop (i + 1)) ρ2
          | .cnt ρ2 => forG t b (l.drop (i + 1)) ρ2
          | .brk ρ2 => .nx ρ2
          | o => o) := q2
      cases et : t l[i] ρ2 with
      | none => rw [et] at q2; exact q2.elim
      | some ρ3 =>
        rw [et] at q2
        refine ht σ2 H3 S3 F2 ρ2 x l[i] ρ3 _ he3 w3 p2 rx et fun σ3 F3 he4 w4 p4 sub _ _ => ⟨ρ3, S3, F3, he4, w4, p4, ?_⟩
        have fr4 : Fr H S F H3 S3 F3 := (fr2.trans fr3).trans (fr_sub sub)
        have again : ∀ ρ4, PSO C P E D H S F (forG t b (l.drop (i + 1)) ρ4) → ∀ σ' H' S' F', RepE C H' S' σ' ρ4 F' → Wf H' S' F' → P.at σ' → Fr H3 S3 F3 H' S' F' →
            ∃ ρ3 S3 F3, RepE C H' S3 σ' ρ3 F3 ∧ Wf H' S3 F3 ∧ P.at σ' ∧ Fr H S F H' S3 F3 ∧ Kp H1 S1 H' S3 ∧ PSO C P E D H S F (forG t b (l.drop (i + 1)) ρ3) := fun ρ4 q4 σ' H' S' F' a b' c d =>
          ⟨ρ4, S', F', a, b', c, fr4.trans d, kp_trans kp3 (d.kp w4), q4⟩
        cases eb : b ρ3 with
        | nx ρ4 => simp only [eb] at q2; exact again ρ4 q2
        | cnt ρ4 => simp only [eb] at q2; exact again ρ4 q2
        | brk ρ4 => simp only [eb] at q2; exact fun σ' H' S' F' a b' c d => q2 σ' H' S' F' a b' c (fr4.trans d)
        | ret o ρ4 => simp only [eb] at q2; exact fun v σ' H' S' F' A a b' c d e f => q2 v σ' H' S' F' A a b' c d e (fr4.trans f)
        | exc x ρ4 => simp only [eb] at q2; exact fun c d σ' H' S' F' a b' e f g => q2 c d σ' H' S' F' a b' e (fr4.trans f) g
        | bad => simp only [eb] at q2; exact q2.elim
    · have e : i = l.length := by omega
      subst e
      rw [List.drop_length] at q2
      exact .inl ⟨wk.stop H2 S2 kp2, q2 σ2 H2 S2 F2 he2 w2 p2 fr2⟩
end
end G
end

section
set_option maxRecDepth 100000
set_option maxHeartbeats 2000000
open PySem PySem.Spec PyProof.Rows L2
namespace G
abbrev Ef : WX := fun _ _ _ _ => False
def wipeE (ρ : Env') : List Nat → Env'
  | [] => ρ
  | v :: vs => (wipeE ρ vs).set v none
/-- the block's own slots hold nothing owned -/
def shAll (ρ : Env') : List Nat → Bool
  | [] => true
  | v :: vs => (match ρ[v]? with | some (some (.sh _)) => true | some none => true | _ => false) && shAll ρ vs
/-- the block's own slots as they were -/
def backE (ρ0 ρ : Env') : List Nat → Env'
  | [] => ρ
  | v :: vs => backE ρ0 (ρ.set v (ρ0[v]?.getD none)) vs
def lcG (t : D → Env' → Option Env') (tt : Env' → Out Bool) (te : Fe) (vs : List Nat) : List D → Env' → List O → Out (List O)
  | [], ρ, acc => .ok acc ρ
  | d :: l, ρ, acc => match t d ρ with
    | none => .bad
    | some ρ1 => (tt ρ1).bind fun b ρ2 => if b = true then (te ρ2).bind fun o ρ3 => if acc.length < big then lcG t tt te vs l (wipeE ρ3 vs) (acc ++ [o]) else .bad
      else lcG t tt te vs l (wipeE ρ2 vs) acc
def noX {α : Type} : Out α → Out α
  | .ok a ρ => .ok a ρ
  | _ => .bad
def eLc (fi : Env' → Out (List D)) (t : D → Env' → Option Env') (tt : Env' → Out Bool) (te : Fe) (vs : List Nat) : Fe := fun ρ => (fi ρ).bind fun l ρ1 =>
  if shAll ρ1 vs = true then (noX (lcG t tt te vs l (wipeE ρ1 vs) [])).bind fun acc ρ2 => .ok (.lst acc) (backE ρ1 ρ2 vs) else .bad
theorem wipeE_len (ρ : Env') : ∀ vs, (wipeE ρ vs).length = ρ.length
  | [] => rfl
  | v :: vs => by rw [wipeE, List.length_set, wipeE_len ρ vs]
section
variable {C : Cn} {P : Fx} {E : WX} {X : Cx} {σ : L2.St} {H H1 H' : Hp} {S S1 S' F F1 A B : Set'} {ρ : Env'} {tg : Expr} {pos : Pos} {f : Fe}
theorem OkX.blk (ok : OkX C X) (s : Shared) (H : Hp) (sc : Scope) (ce : PySem.Env) (fp : List Addr) : OkX C (X.blk s H sc ce fp) := ⟨ok.K, ok.calm, ok.un, ok.nd⟩
/-- a slot forgotten -/
theorem RepE.drop1 {i : Nat} (he : RepE C H S σ ρ F) : ∃ F', RepE C H S (σ.set i none) (ρ.set i none) F' ∧ ∀ a, F' a → F a := by
  by_cases hl : i < ρ.length
  · obtain ⟨x, A, B, e1, h1, h2, s⟩ := he.take (show ρ[i]? = some ρ[i] by simp [hl])
    have q := h2.put (i := i) (F := B) (A := No) (x := none) (r := none) (by simp [hl]) emp_no ⟨fun a => ⟨.inr, fun z => z.elim False.elim id⟩, fun a z => z.elim⟩
    rw [List.set_set] at q
    exact ⟨B, q, fun a z => s.r z⟩
  · have hs : σ.length ≤ i := by rw [he.len]; omega
    rw [List.set_eq_of_length_le (l := ρ) (by omega), List.set_eq_of_length_le hs]
    exact ⟨F, he, fun _ z => z⟩
theorem RepE.wipe (he : RepE C H S σ ρ F) : ∀ vs : List Nat, ∃ F', RepE C H S (L2.wipe σ vs) (wipeE ρ vs) F' ∧ ∀ a, F' a → F a
  | [] => ⟨F, he, fun _ z => z⟩
  | v :: vs => by
    obtain ⟨F1, h1, s1⟩ := RepE.wipe he vs
    obtain ⟨F2, h2, s2⟩ := h1.drop1 (i := v)
    exact ⟨F2, h2, fun a z => s1 a (s2 a z)⟩
theorem shAll_mem {v : Nat} : ∀ {vs : List Nat}, shAll ρ vs = true → v ∈ vs → (∃ d, ρ[v]? = some (some (.sh d))) ∨ ρ[v]? = some none
  | u :: vs, h, hm => by
    have h' : (match ρ[u]? with | some (some (.sh _)) => true | some none => true | _ => false) = true ∧ shAll ρ vs = true := by simpa [shAll] using h
    rcases List.mem_cons.mp hm with e | hm
    · subst e
      have h1 := h'.1
      split at h1
      · next d e => exact .inl ⟨d, e⟩
      · next e => exact .inr e
      · cases h1
    · exact shAll_mem h'.2 hm
  | [], h, hm => by simp at hm
theorem wipe_get {v : Nat} : ∀ {vs : List Nat}, v ∉ vs → (L2.wipe σ vs)[v]? = σ[v]?
  | [], _ => rfl
  | u :: vs, h => by
    have h1 : u ≠ v := fun e => h (by simp [e])
    have h2 : v ∉ vs := fun e => h (by simp [e])
    show ((L2.wipe σ vs).set u none)[v]? = σ[v]?
    rw [List.getElem?_set_ne h1, wipe_get h2]
/-- .. and brought back -/
theorem RepE.back {ρ0 : Env'} {S0 : Set'} {H0 : Hp} {F0 : Set'} (he0 : RepE C H0 S0 σ ρ0 F0) (k : Kp H0 S0 H S) : ∀ {vs : List Nat} {ρ : Env'}, vs.Nodup → shAll ρ0 vs = true → RepE C H S (L2.wipe σ vs) ρ F →
    (∀ v ∈ vs, ρ[v]? = some none) → RepE C H S σ (backE ρ0 ρ vs) F
  | [], ρ, _, _, h, _ => h
  | v :: vs, ρ, hn, hs, h, hz => by
    have hn' := List.nodup_cons.mp hn
    have hs' : shAll ρ0 vs = true := by
      have : (match ρ0[v]? with | some (some (.sh _)) => true | some none => true | _ => false) = true ∧ shAll ρ0 vs = true := by simpa [shAll] using hs
      exact this.2
    obtain ⟨x, r, ex, er, rx⟩ : ∃ x r, σ[v]? = some x ∧ ρ0[v]?.getD none = r ∧ RepX C H S x r No := by
      rcases shAll_mem hs (List.mem_cons_self) with ⟨d, e⟩ | e
      · obtain ⟨x, A, B, e1, ⟨u, rfl, h1⟩, _, _⟩ := he0.take e
        exact ⟨_, some (.sh d), e1, by rw [e]; rfl, u, rfl, emp_no, h1.2.mono k⟩
      · obtain ⟨x, A, B, e1, h1, _, _⟩ := he0.take e
        exact ⟨_, none, e1, by rw [e]; rfl, emp_no⟩
    have h : RepE C H S ((L2.wipe σ vs).set v none) ρ F := h
    have q := h.put (i := v) (F := F) (A := No) (x := x) (r := r) (hz v List.mem_cons_self) rx ⟨fun a => ⟨.inr, fun z => z.elim False.elim id⟩, fun a z => z.elim⟩
    rw [List.set_set, set_at (by rw [wipe_get hn'.1]; exact ex)] at q
    show RepE C H S σ (backE ρ0 (ρ.set v (ρ0[v]?.getD none)) vs) F
    rw [er]
    refine RepE.back he0 k hn'.2 hs' q fun u hu => ?_
    have : v ≠ u := fun e => hn'.1 (e ▸ hu)
    rw [List.getElem?_set_ne this]
    exact hz u (List.mem_cons_of_mem _ hu)
theorem wipeE_none {v : Nat} : ∀ {vs : List Nat}, v ∈ vs → v < ρ.length → (wipeE ρ vs)[v]? = some none
  | u :: vs, h, hl => by
    by_cases e : u = v
    · subst e
      show ((wipeE ρ vs).set u none)[u]? = some none
      rw [List.getElem?_set_self (by rw [wipeE_len]; exact hl)]
    · have h2 : v ∈ vs := (List.mem_cons.mp h).resolve_left fun z => e z.symm
      show ((wipeE ρ vs).set u none)[v]? = some none
      rw [List.getElem?_set_ne e]
      exact wipeE_none h2 hl
  | [], h, _ => by simp at h
abbrev DTs (C : Cn) (E : WX) (X : Cx) (ifs : List Expr) (f : Env' → Out Bool) : Prop := PTs X ifs (rT C E f)
theorem pts_imp {ifs : List Expr} {t t' : TT} (h : PTs X ifs t) (hi : ∀ σ H Q, t' σ H Q → t σ H Q) : PTs X ifs t' := ⟨fun pins s σ H Q I q => h.run pins s σ H Q I (hi σ H Q q)⟩
def ttY : Env' → Out Bool := fun ρ => .ok true ρ
theorem dts_nil : DTs C E X [] ttY := pts_imp pts_nil fun σ H Q ⟨ρ, S, F, he, w, q⟩ => q H S F he w .refl
theorem dts_one {c : Expr} {t : Env' → Out Bool} (h : DT C E X c t) : DTs C E X [c] t := pts_one h
theorem wipe_at {j : Nat} : ∀ {vs : List Nat}, (L2.wipe σ vs)[j]? = if j ∈ vs then (if j < σ.length then some none else none) else σ[j]?
  | [] => by simp [L2.wipe]
  | u :: vs => by
    show ((L2.wipe σ vs).set u none)[j]? = _
    rw [List.getElem?_set]
    by_cases e : u = j
    · subst e
      simp [L2.wipe_length]
    · have e' : ¬ j = u := fun z => e z.symm
      simp only [e, if_false, List.mem_cons, e', false_or]
      exact wipe_at
theorem wipe_eq {σ' : L2.St} {vs : List Nat} (hl : σ'.length = σ.length) (h : ∀ j, j ∉ vs → σ'[j]? = σ[j]?) : L2.wipe σ' vs = L2.wipe σ vs := by
  apply List.ext_getElem?
  intro j
  rw [wipe_at, wipe_at, hl]
  by_cases e : j ∈ vs
  · simp [e]
  · simp [e, h j e]
/-- an item more for the list that is being made -/
theorem tmp_snoc {D : Addr} {vs : List V} {acc : List O} {y : V} {o : O} {Y : Set'} {H0 : Hp} {S0 F0 : Set'} (hD : H D = some (.lst vs)) (r : RepOs C H S vs acc A) (ry : RepO C H S y o Y) (w : Wf H S (Un' (Un' (fun b => b = D) A) (Un' Y F)))
    (d : Dj (Un' (fun b => b = D) A) (Un' Y F)) (dy : Dj Y F) (nA : ¬ A D) (he : RepE C H S σ ρ F) (fr : Fr H0 S0 F0 H S (Un' (Un' (fun b => b = D) A) (Un' Y F))) :
    RepE C (upd H D (.lst (vs ++ [y]))) S σ ρ F ∧ RepOs C (upd H D (.lst (vs ++ [y]))) S (vs ++ [y]) (acc ++ [o]) (Un' A Y) ∧ Wf (upd H D (.lst (vs ++ [y]))) S (Un' (Un' (fun b => b = D) (Un' A Y)) F) ∧
      Dj (Un' (fun b => b = D) (Un' A Y)) F ∧ ¬ Un' A Y D ∧ Fr H0 S0 F0 (upd H D (.lst (vs ++ [y]))) S (Un' (Un' (fun b => b = D) (Un' A Y)) F) ∧ Kp H S (upd H D (.lst (vs ++ [y]))) S := by
  have k : Kp H S (upd H D (.lst (vs ++ [y]))) S := kp_upd (w.mu D (.inl (.inl rfl))) (w.ns D (.inl (.inl rfl)))
  have ne : ∀ b, b ≠ D → upd H D (.lst (vs ++ [y])) b = H b := fun b h => upd_ne h
  have nY : ¬ Y D := fun z => d D (.inl rfl) (.inl z)
  have nF : ¬ F D := fun z => d D (.inl rfl) (.inr z)
  have nAY : ¬ Un' A Y D := fun z => z.elim nA nY
  have mem : ∀ b, Un' (Un' (fun b => b = D) (Un' A Y)) F b → Un' (Un' (fun b => b = D) A) (Un' Y F) b := fun b z => by
    rcases z with (z | z | z) | z
    · exact .inl (.inl z)
    · exact .inl (.inr z)
    · exact .inr (.inl z)
    · exact .inr (.inr z)
  refine ⟨he.mono k fun b z => ne b fun e => nF (e ▸ z), RepOs.snoc (r.mono k fun b z => ne b fun e => nA (e ▸ z)) (ry.mono k fun b z => ne b fun e => nY (e ▸ z)) fun b x z => d b (.inr x) (.inl z), ⟨fun b z => ?_, fun b z => w.ns b (mem b z), fun b s => ?_⟩, fun b x z => ?_, nAY, ⟨fun b x e nf => ?_, fr.sub, fr.new, fun b z => fr.fnew b (mem b z)⟩, k⟩
  · by_cases e : b = D
    · rw [e, upd_same]; trivial
    · rw [ne b e]; exact w.mu b (mem b z)
  · obtain ⟨x, e⟩ := w.so b s
    exact ⟨x, k.sh b x s e⟩
  · rcases x with x | x | x
    · exact nF (x ▸ z)
    · exact d b (.inr x) (.inr z)
    · exact dy b x z
  · have q := fr.keep b x e nf
    rw [ne b (fun z => by
      have := fr.fnew D (.inl (.inl rfl))
      rw [← z] at this
      exact this.elim nf fun n => by rw [e] at n; cases n)]
    exact q
def PLc (C : Cn) (Q : VK) (σ : L2.St) (H : Hp) (S F : Set') (ρ1 : Env') (vs : List Nat) (r : Out (List O)) : Prop := match r with
  | .ok acc ρ' => ∀ v H' S' F' A, RepE C H' S' σ (backE ρ1 ρ' vs) F' → RepO C H' S' v (.lst acc) A → Wf H' S' (Un' A F') → Dj A F' → Fr H S F H' S' (Un' A F') → Q v H'
  | _ => False
theorem lc_of {fi : Env' → Out (List D)} {g : TG} {t : D → Env' → Option Env'} {ts : List Nat} {tt : Env' → Out Bool} {te : Fe} {vs : List Nat} {Q : VK} (hn : vs.Nodup) (ht : TgtOk C ⟨[], []⟩ g t ts) (hts : ∀ j ∈ ts, j ∈ vs)
    (q : rE C E (eLc fi t tt te vs) σ H Q) : tLc (rI C E fi) g (rT C Ef tt) (rE C Ef te) vs σ H Q := by
  obtain ⟨ρ, S, F, he0, w0, q⟩ := q
  refine ⟨ρ, S, F, he0, w0, ?_⟩
  unfold eLc at q
  cases ei : fi ρ with
  | bad => rw [ei] at q; exact q
  | exc x ρ' => rw [ei] at q; exact q
  | ok l ρ1 =>
    rw [ei] at q
    simp only [bind_ok] at q
    by_cases hsh : shAll ρ1 vs = true
    · simp only [hsh, if_true] at q
      intro J H1 S1 F1 he1 w1 fr1 wk D hD
      have q' : PLc C Q σ H S F ρ1 vs (lcG t tt te vs l (wipeE ρ1 vs) []) := by
        cases el : lcG t tt te vs l (wipeE ρ1 vs) [] with
        | ok acc ρ' => rw [el] at q; exact q
        | exc x ρ' => rw [el] at q; exact q
        | bad => rw [el] at q; exact q
      have al := Alc.own (o := .lst []) w1.so hD trivial
      obtain ⟨F1', hw1, sub1⟩ := he1.wipe vs
      have wl : Wf H1 S1 F1' := ⟨fun a z => w1.mu a (sub1 a z), fun a z => w1.ns a (sub1 a z), w1.so⟩
      obtain ⟨hs1, ws1, ds1, fs1⟩ := alc_step hw1 wl (fr1.trans (fr_sub sub1)) al
      have un0 : Un' (fun b => b = D) F1' = Un' (Un' (fun b => b = D) No) F1' := by
        funext a; apply propext; constructor
        · rintro (z | z)
          · exact .inl (.inl z)
          · exact .inr z
        · rintro ((z | z) | z)
          · exact .inl z
          · exact z.elim
          · exact .inr z
      rw [un0] at ws1 fs1
      have ds1 : Dj (Un' (fun b => b = D) No) F1' := fun a x y => x.elim (fun x => ds1 a x y) False.elim
      have len1 : ∀ v ∈ vs, v < ρ1.length := fun v hv => by
        rcases shAll_mem hsh hv with ⟨d, e⟩ | e
        · exact (List.getElem?_eq_some_iff.mp e).1
        · exact (List.getElem?_eq_some_iff.mp e).1
      have lenσ : σ.length = ρ1.length := he1.len
      refine ⟨fun i m H2 => ∃ ρ2 S2 F2 acc vsV A, m = l.length - i ∧ i ≤ l.length ∧ RepE C H2 S2 (L2.wipe σ vs) ρ2 F2 ∧ (∀ v ∈ vs, ρ2[v]? = some none) ∧ H2 D = some (.lst vsV) ∧ RepOs C H2 S2 vsV acc A ∧ Wf H2 S2 (Un' (Un' (fun b => b = D) A) F2) ∧
          Dj (Un' (fun b => b = D) A) F2 ∧ ¬ A D ∧ Fr H S F H2 S2 (Un' (Un' (fun b => b = D) A) F2) ∧ Kp H1 S1 H2 S2 ∧ PLc C Q σ H S F ρ1 vs (lcG t tt te vs (l.drop i) ρ2 acc),
        ⟨l.length, wipeE ρ1 vs, S1, F1', [], [], No, (Nat.sub_zero _).symm, Nat.zero_le _, hs1, fun v hv => wipeE_none hv (len1 v hv), upd_same, ⟨rfl, emp_no⟩, ws1, ds1, fun z => z, fs1, al.kp, q'⟩, ?_⟩
      rintro i m H2 ⟨ρ2, S2, F2, acc, vsV, A, rfl, hi', he2, hz2, hD2, ra2, w2, d2, nA2, fr2, kp2, q2⟩
      by_cases hlt : i < l.length
      · have hd : l.drop i = l[i] :: l.drop (i + 1) := List.drop_eq_getElem_cons hlt
        rw [hd] at q2
        refine .inr ⟨wk.go i H2 S2 kp2 hlt, fun H3 => ∃ ρ2 S2 F2 acc vsV A, RepE C H3 S2 (L2.wipe σ vs) ρ2 F2 ∧ (∀ v ∈ vs, ρ2[v]? = some none) ∧ H3 D = some (.lst vsV) ∧ RepOs C H3 S2 vsV acc A ∧ Wf H3 S2 (Un' (Un' (fun b => b = D) A) F2) ∧
            Dj (Un' (fun b => b = D) A) F2 ∧ ¬ A D ∧ Fr H S F H3 S2 (Un' (Un' (fun b => b = D) A) F2) ∧ Kp H1 S1 H3 S2 ∧ PLc C Q σ H S F ρ1 vs (lcG t tt te vs (l.drop (i + 1)) ρ2 acc),
          fun H3 ⟨a1, a2, a3, a4, a5, a6, b⟩ => ⟨l.length - (i + 1), by omega, a1, a2, a3, a4, a5, a6, rfl, hlt, b⟩, fun x H3 y => ?_⟩
        obtain ⟨S3, al3, rx⟩ := wk.yld i x H2 S2 H3 l[i] kp2 w2.so (by simp [hlt]) y
        obtain ⟨he3, w3, fr3⟩ := alc_fr he2 w2.drop al3
        -- the list that is being made, over the step
        obtain ⟨ka3, d3, w3', fr3', k3⟩ := fr_tmp w2 d2 fr2 fr3 w3
        have hD3 : H3 D = some (.lst vsV) := by rw [ka3 D (.inl rfl)]; exact hD2
        have ra3 := ra2.mono k3 fun b z => ka3 b (.inr z)
        have q2 : PLc C Q σ H S F ρ1 vs (match t l[i] ρ2 with
          | none => .bad
          | some ρ1 => (tt ρ1).bind fun b ρ2 => if b = true then (te ρ2).bind fun o ρ3 => if acc.length < big then lcG t tt te vs (l.drop (i + 1)) (wipeE ρ3 vs) (acc ++ [o]) else .bad
            else lcG t tt te vs (l.drop (i + 1)) (wipeE ρ2 vs) acc) := q2
        cases et : t l[i] ρ2 with
        | none => rw [et] at q2; exact q2.elim
        | some ρ3 =>
          simp only [et] at q2
          refine ht (L2.wipe σ vs) H3 S3 F2 ρ2 x l[i] ρ3 _ he3 w3 (fun j hj => by cases hj) rx et fun σ3 F3 he4 w4 p4 sub n4 l4 => ?_
          have lenw : (L2.wipe σ vs).length = σ.length := L2.wipe_length σ vs
          have l3 : σ3.length = σ.length := l4.trans lenw
          have ew : L2.wipe σ3 vs = L2.wipe σ vs := wipe_eq l3 fun j hj => by
            rw [n4 j fun z => hj (hts j z), wipe_get hj]
          refine ⟨ew, ρ3, S3, F3, he4, w4, ?_⟩
          have w3s : Wf H3 S3 (Un' (Un' (fun b => b = D) A) F3) := ⟨fun a z => w3'.mu a (z.elim .inl fun z => .inr (sub a z)), fun a z => w3'.ns a (z.elim .inl fun z => .inr (sub a z)), w3'.so⟩
          have d3s : Dj (Un' (fun b => b = D) A) F3 := fun a x y => d3 a x (sub a y)
          have fr3s : Fr H S F H3 S3 (Un' (Un' (fun b => b = D) A) F3) := fr3'.less fun a z => z.elim .inl fun z => .inr (sub a z)
          have kp3 := kp_trans kp2 k3
          cases ett : tt ρ3 with
          | bad => rw [ett] at q2; exact q2.elim
          | exc x ρ' => rw [ett] at q2; exact q2.elim
          | ok b ρ4 =>
            rw [ett] at q2
            simp only [bind_ok] at q2
            intro H4 S4 F4 he5 w5 fr5
            obtain ⟨ka5, d5, w5', fr5', k5⟩ := fr_tmp w3s d3s fr3s fr5 w5
            have hD4 : H4 D = some (.lst vsV) := by rw [ka5 D (.inl rfl)]; exact hD3
            have ra4 := ra3.mono k5 fun b z => ka5 b (.inr z)
            have kp4 := kp_trans kp3 k5
            cases b with
            | false =>
              simp only [Bool.false_eq_true, if_false] at q2 ⊢
              obtain ⟨F5, hw5, sub5⟩ := he5.wipe vs
              rw [ew] at hw5
              exact ⟨wipeE ρ4 vs, S4, F5, acc, vsV, A, hw5, fun v hv => wipeE_none hv (by rw [← he5.len, l3, lenσ]; exact len1 v hv), hD4, ra4,
                ⟨fun a z => w5'.mu a (z.elim .inl fun z => .inr (sub5 a z)), fun a z => w5'.ns a (z.elim .inl fun z => .inr (sub5 a z)), w5'.so⟩, fun a x y => d5 a x (sub5 a y), nA2, fr5'.less (fun a z => z.elim .inl fun z => .inr (sub5 a z)), kp4, q2⟩
            | true =>
              simp only [if_true] at q2 ⊢
              refine ⟨ρ4, S4, F4, he5, w5, ?_⟩
              cases ete : te ρ4 with
              | bad => rw [ete] at q2; exact q2.elim
              | exc x ρ' => rw [ete] at q2; exact q2.elim
              | ok o ρ5 =>
                rw [ete] at q2
                simp only [bind_ok] at q2
                intro y' H5 S5 F5 Y he6 r6 w6 d6 fr6
                obtain ⟨ka6, d6', w6', fr6', k6⟩ := fr_tmp w5' d5 fr5' fr6 w6
                have hD5 : H5 D = some (.lst vsV) := by rw [ka6 D (.inl rfl)]; exact hD4
                have ra5 := ra4.mono k6 fun b z => ka6 b (.inr z)
                by_cases hbig : acc.length < big
                · simp only [hbig, if_true] at q2
                  refine ⟨vsV, hD5, by rw [ra5.len]; exact Nat.lt_of_lt_of_le hbig (big_line (Nat.le_refl _)), ?_⟩
                  obtain ⟨F6, hw6, sub6⟩ := he6.wipe vs
                  rw [ew] at hw6
                  have lessU : ∀ a, Un' (Un' (fun b => b = D) A) (Un' Y F6) a → Un' (Un' (fun b => b = D) A) (Un' Y F5) a := fun a z => z.elim .inl fun z => .inr (z.elim .inl fun z => .inr (sub6 a z))
                  obtain ⟨z1, z2, z3, z4, z5, z6, z7⟩ := tmp_snoc hD5 ra5 r6 ⟨fun a z => w6'.mu a (lessU a z), fun a z => w6'.ns a (lessU a z), w6'.so⟩ (fun a x y => d6' a x (y.elim .inl fun y => .inr (sub6 a y))) (fun a x y => d6 a x (sub6 a y)) nA2 hw6 (fr6'.less lessU)
                  exact ⟨wipeE ρ5 vs, S5, F6, acc ++ [o], vsV ++ [y'], Un' A Y, z1, fun v hv => wipeE_none hv (by rw [← he6.len, l3, lenσ]; exact len1 v hv), upd_same, z2, z3, z4, z5, z6, kp_trans (kp_trans kp4 k6) z7, q2⟩
                · simp only [hbig, if_false] at q2
                  exact q2.elim
      · have e : i = l.length := by omega
        subst e
        rw [List.drop_length] at q2
        have he7 := RepE.back he1 kp2 hn hsh he2 hz2
        refine .inl ⟨wk.stop H2 S2 kp2, ?_⟩
        have eu : Un' (fun b => b = D) A = fun b => b = D ∨ A b := rfl
        exact q2 (.ref D) H2 S2 F2 _ he7 ⟨D, vsV, A, rfl, hD2, ra2, fun b => Iff.rfl, fun b e z => nA2 (e ▸ z)⟩ w2 d2 fr2
    · simp only [hsh] at q
      exact q.elim
theorem de_lc {elt iter : Expr} {ifs : List Expr} {scope : Scope} {own : List (Str × Nat)} {fi : Env' → Out (List D)} {g : TG} {t : D → Env' → Option Env'} {ts : List Nat} {tt : Env' → Out Bool} {te : Fe} (ok : OkX C X) (hi : DI C E X tg iter fi)
    (hb : BlkOk X.N X.env.scope scope own) (hn : (own.map (·.2)).Nodup)
    (hg : ∀ (s : Shared) (H : Hp) (D : Addr) (cl : List (Str × Addr)) (fp : List Addr), PG (X.blk s H scope (compEnvC scope cl D X.env) fp) tg g) (ht : TgtOk C ⟨[], []⟩ g t ts) (hts : ∀ j ∈ ts, j ∈ own.map (·.2))
    (htt : ∀ (s : Shared) (H : Hp) (D : Addr) (cl : List (Str × Addr)) (fp : List Addr), DTs C Ef (X.blk s H scope (compEnvC scope cl D X.env) fp) ifs tt)
    (he : ∀ (s : Shared) (H : Hp) (D : Addr) (cl : List (Str × Addr)) (fp : List Addr), DE C Ef (X.blk s H scope (compEnvC scope cl D X.env) fp) elt te) (hs : ∀ x, foldedSetIterable iter X.env x = pure x := by intro _; rfl) :
    DE C E X (.ListComp elt [⟨tg, iter, ifs, 0⟩] scope pos) (eLc fi t tt te (own.map (·.2))) :=
  pe_imp (pe_lc ok.calm ok.nd hi hb hg htt he hs) fun _ _ _ q => lc_of hn ht hts q
/-- x = [.. for ..] -/
theorem ds_setLc {i : Nat} {y : Str} {py spos : Pos} {elt iter : Expr} {ifs : List Expr} {scope : Scope} {own : List (Str × Nat)} {fi : Env' → Out (List D)} {g : TG} {t : D → Env' → Option Env'} {ts : List Nat} {tt : Env' → Out Bool} {te : Fe} (ok : OkX C X) (hp : i ∉ P.pi) (hi : DI C E X tg iter fi)
    (hb : BlkOk X.N X.env.scope scope own) (hn : (own.map (·.2)).Nodup)
    (hg : ∀ (s : Shared) (H : Hp) (D : Addr) (cl : List (Str × Addr)) (fp : List Addr), PG (X.blk s H scope (compEnvC scope cl D X.env) fp) tg g) (ht : TgtOk C ⟨[], []⟩ g t ts) (hts : ∀ j ∈ ts, j ∈ own.map (·.2))
    (htt : ∀ (s : Shared) (H : Hp) (D : Addr) (cl : List (Str × Addr)) (fp : List Addr), DTs C Ef (X.blk s H scope (compEnvC scope cl D X.env) fp) ifs tt)
    (he : ∀ (s : Shared) (H : Hp) (D : Addr) (cl : List (Str × Addr)) (fp : List Addr), DE C Ef (X.blk s H scope (compEnvC scope cl D X.env) fp) elt te)
    (hy : X.N[i]? = some y := by rfl) (hyl : X.env.scope.names.lookup y = some .local := by rfl) (hsw : swapsWith (.ListComp elt [⟨tg, iter, ifs, 0⟩] scope pos) (some (.Name y py)) spos.line X.env = pure true := by rfl) (hs : ∀ x, foldedSetIterable iter X.env x = pure x := by intro _; rfl) :
    DS C P E X (.Assign [.Name y py] (.ListComp elt [⟨tg, iter, ifs, 0⟩] scope pos) spos) (sSet i (eLc fi t tt te (own.map (·.2)))) :=
  ps_imp (ps_setLc ok.calm ok.nd hy hyl hsw hi hb hg htt he hs) fun D σ H ⟨ρ, S, F, he, w, p, q⟩ => lc_of hn ht hts (rE_then he w p q fun o ρ1 ef v H' S' F' A a b c d fr q => by
    by_cases hl : i < ρ1.length
    · simp only [hl, if_true] at q
      obtain ⟨F2, h1, h2, h3⟩ := slot_set a b c d hl
      exact q _ H' S' F2 h1 h2 (Fx.set p hp) (fr.less h3)
    · simp only [hl, if_false] at q
      exact q.elim)
end
end G
end

section
set_option maxRecDepth 100000
set_option maxHeartbeats 2000000
open PySem PySem.Spec PyProof.Rows L2
namespace G
/-! calls: a def over data takes what is owned of its parameters and gives it back -/
abbrev Fn := List O → Out O
def spD (C : Cn) (n : Nat) (g : Fn) : Sp := fun vs H Q E => ∃ os S A, vs.length = n ∧ RepOs C H S vs os A ∧ Wf H S A ∧ match g os with
  | .ok o ps => ∀ v H' S' A' B, RepE C H' S' (vs.map some) ps A' → RepO C H' S' v o B → Wf H' S' (Un' B A') → Dj B A' → Fr H S A H' S' (Un' B A') → Q v H'
  | .exc x ps => ∀ c d H' S' A', RepE C H' S' (vs.map some) ps A' → Wf H' S' A' → Fr H S A H' S' A' → RepXn C H' S' x c d → E c d H'
  | .bad => False
/-- the parameters that are given back -/
def keepL : List Bool → Env' → Env'
  | [], _ => []
  | k :: ks, ρ => (if k = true then (ρ.head?).getD none else none) :: keepL ks ρ.tail
def fnG (N : Nat) (ks : List Bool) (body : Fs) : Fn := fun os => match body (os.map some ++ List.replicate (N - os.length) none) with
  | .nx ρ => .ok (.sh .non) (keepL ks ρ)
  | .ret o ρ => .ok o (keepL ks ρ)
  | .exc x ρ => .exc x (keepL ks ρ)
  | _ => .bad
def piOf : List Bool → Nat → List Nat
  | [], _ => []
  | true :: ks, i => i :: piOf ks (i + 1)
  | false :: ks, i => piOf ks (i + 1)
/-- arguments: ms tells which slots are lent -/
def takeL : List (Option Nat) → List O → Env' → Option (List O × Env')
  | [], [], ρ => some ([], ρ)
  | none :: ms, o :: os, ρ => (takeL ms os ρ).map fun p => (o :: p.1, p.2)
  | some i :: ms, os, ρ => match ρ[i]? with
    | some (some o) => (takeL ms os (ρ.set i none)).map fun p => (o :: p.1, p.2)
    | _ => none
  | _, _, _ => none
def putL : List (Option Nat) → Env' → Env' → Option Env'
  | [], [], ρ => some ρ
  | none :: ms, _ :: ps, ρ => putL ms ps ρ
  | some i :: ms, r :: ps, ρ => match ρ[i]? with
    | some none => putL ms ps (ρ.set i r)
    | _ => none
  | _, _, _ => none
def eCall (g : Fn) (ms : List (Option Nat)) (fa : Fa) : Fe := fun ρ => (fa ρ).bind fun os ρ1 => match takeL ms os ρ1 with
  | some (os', ρ2) => match g os' with
    | .ok o ps => match putL ms ps ρ2 with
      | some ρ3 => .ok o ρ3
      | none => .bad
    | .exc x ps => match putL ms ps ρ2 with
      | some ρ3 => .exc x ρ3
      | none => .bad
    | .bad => .bad
  | none => .bad
section
variable (C : Cn) (H : Hp) (S : Set') (σ : L2.St)
def RepM : List (Option Nat) → List V → List O → Set' → Prop
  | [], [], [], A => Emp A
  | none :: ms, v :: vs, o :: os, A => ∃ A1 A2, RepO C H S v o A1 ∧ RepM ms vs os A2 ∧ Sum' A A1 A2
  | some i :: ms, v :: vs, os, A => σ[i]? = some (some v) ∧ RepM ms vs os A
  | _, _, _, _ => False
end
section
variable {C : Cn} {P : Fx} {E : WX} {X : Cx} {σ : L2.St} {H H1 H' : Hp} {S S1 S' F F1 A B : Set'} {ρ : Env'} {pos : Pos} {f : Fe}
theorem RepM.mono (k : Kp H S H' S') : ∀ {ms : List (Option Nat)} {vs : List V} {os : List O} {A : Set'}, (∀ a, A a → H' a = H a) → RepM C H S σ ms vs os A → RepM C H' S' σ ms vs os A
  | [], [], [], _, _, h => h
  | none :: ms, v :: vs, o :: os, A, ka, ⟨A1, A2, h1, h2, s⟩ => ⟨A1, A2, h1.mono k fun a z => ka a (s.l z), RepM.mono k (fun a z => ka a (s.r z)) h2, s⟩
  | some i :: ms, v :: vs, os, A, ka, ⟨e, h⟩ => ⟨e, RepM.mono k ka h⟩
  | [], [], _ :: _, _, _, h => h.elim
  | [], _ :: _, _, _, _, h => by cases ‹List O› <;> exact h.elim
  | none :: ms, [], _, _, _, h => by cases ‹List O› <;> exact h.elim
  | none :: ms, _ :: _, [], _, _, h => h.elim
  | some i :: ms, [], _, _, _, h => by cases ‹List O› <;> exact h.elim
theorem RepM.len : ∀ {ms : List (Option Nat)} {vs : List V} {os : List O} {A : Set'}, RepM C H S σ ms vs os A → vs.length = ms.length
  | [], [], _, _, h => rfl
  | none :: ms, v :: vs, o :: os, A, ⟨A1, A2, h1, h2, s⟩ => by rw [List.length_cons, List.length_cons, h2.len]
  | some i :: ms, v :: vs, os, A, ⟨e, h⟩ => by rw [List.length_cons, List.length_cons, h.len]
  | [], _ :: _, os, _, h => by cases os <;> exact h.elim
  | none :: ms, [], os, _, h => by cases os <;> exact h.elim
  | none :: ms, _ :: _, [], _, h => h.elim
  | some i :: ms, [], os, _, h => by cases os <;> exact h.elim
theorem take_rep : ∀ {ms : List (Option Nat)} {vs : List V} {os os' : List O} {ρ ρ' : Env'} {A F : Set'}, RepM C H S σ ms vs os A → RepE C H S σ ρ F → Dj A F → takeL ms os ρ = some (os', ρ') →
    ∃ A' F', RepOs C H S vs os' A' ∧ RepE C H S σ ρ' F' ∧ Dj A' F' ∧ (∀ a, Un' A' F' a → Un' A F a) ∧ (∀ a, F' a → F a)
  | [], [], [], os', ρ, ρ', A, F, h, he, d, e => by
    simp only [takeL, Option.some.injEq, Prod.mk.injEq] at e
    obtain ⟨rfl, rfl⟩ := e
    exact ⟨A, F, ⟨rfl, h⟩, he, d, fun _ z => z, fun _ z => z⟩
  | none :: ms, v :: vs, o :: os, os', ρ, ρ', A, F, ⟨A1, A2, h1, h2, s⟩, he, d, e => by
    simp only [takeL] at e
    obtain ⟨p, ep, e⟩ := Option.map_eq_some_iff.mp e
    obtain ⟨rfl, rfl⟩ := Prod.mk.inj e
    obtain ⟨A', F', g1, g2, g3, g4, g5⟩ := take_rep h2 he (fun a x y => d a (s.r x) y) ep
    refine ⟨Un' A1 A', F', ⟨v, vs, A1, A', rfl, h1, g1, ⟨fun a => Iff.rfl, fun a x y => ?_⟩⟩, g2, fun a x y => ?_, fun a z => ?_, g5⟩
    · rcases g4 a (.inl y) with z | z
      · exact s.2 a x z
      · exact d a (s.l x) z
    · rcases x with x | x
      · exact d a (s.l x) (g5 a y)
      · exact g3 a x y
    · rcases z with (z | z) | z
      · exact .inl (s.l z)
      · exact (g4 a (.inl z)).elim (fun z => .inl (s.r z)) .inr
      · exact (g4 a (.inr z)).elim (fun z => .inl (s.r z)) .inr
  | some i :: ms, v :: vs, os, os', ρ, ρ', A, F, ⟨ev, h⟩, he, d, e => by
    have e' : (match ρ[i]? with
      | some (some o) => (takeL ms os (ρ.set i none)).map fun p => (o :: p.1, p.2)
      | _ => none) = some (os', ρ') := by
      cases os <;> exact e
    split at e'
    · next o eo =>
      obtain ⟨p, ep, e2⟩ := Option.map_eq_some_iff.mp e'
      obtain ⟨rfl, rfl⟩ := Prod.mk.inj e2
      obtain ⟨x, B1, B2, ex, ⟨v', rfl, r1⟩, r2, s⟩ := he.take eo
      rw [ev] at ex
      obtain rfl : v = v' := by simpa using ex
      obtain ⟨A', F', g1, g2, g3, g4, g5⟩ := take_rep h r2 (fun a x y => d a x (s.r y)) ep
      refine ⟨Un' B1 A', F', ⟨v, vs, B1, A', rfl, r1, g1, ⟨fun a => Iff.rfl, fun a x y => ?_⟩⟩, g2, fun a x y => ?_, fun a z => ?_, fun a z => s.r (g5 a z)⟩
      · rcases g4 a (.inl y) with z | z
        · exact d a z (s.l x)
        · exact s.2 a x z
      · rcases x with x | x
        · exact s.2 a x (g5 a y)
        · exact g3 a x y
      · rcases z with (z | z) | z
        · exact .inr (s.l z)
        · exact (g4 a (.inl z)).elim .inl fun z => .inr (s.r z)
        · exact (g4 a (.inr z)).elim .inl fun z => .inr (s.r z)
    · cases e'
  | [], [], _ :: _, _, _, _, _, _, h, _, _, _ => h.elim
  | [], _ :: _, os, _, _, _, _, _, h, _, _, _ => by cases os <;> exact h.elim
  | none :: ms, [], os, _, _, _, _, _, h, _, _, _ => by cases os <;> exact h.elim
  | none :: ms, _ :: _, [], _, _, _, _, _, h, _, _, _ => h.elim
  | some i :: ms, [], os, _, _, _, _, _, h, _, _, _ => by cases os <;> exact h.elim
theorem put_rep : ∀ {ms : List (Option Nat)} {vs : List V} {ps ρ ρ' : Env'} {os : List O} {A0 A F : Set'} {H0 : Hp} {S0 : Set'}, RepM C H0 S0 σ ms vs os A0 → RepE C H S (vs.map some) ps A → RepE C H S σ ρ F → Dj A F → putL ms ps ρ = some ρ' →
    ∃ F', RepE C H S σ ρ' F' ∧ ∀ a, F' a → Un' A F a
  | [], [], ps, ρ, ρ', os, A0, A, F, H0, S0, h, hp, he, d, e => by
    cases ps with
    | nil =>
      simp only [putL, Option.some.injEq] at e
      subst e
      exact ⟨F, he, fun a z => .inr z⟩
    | cons r ps => simp [putL] at e
  | none :: ms, v :: vs, ps, ρ, ρ', o :: os, A0, A, F, H0, S0, ⟨A1, A2, h1, h2, s⟩, hp, he, d, e => by
    cases ps with
    | nil => simp [putL] at e
    | cons r ps =>
      simp only [putL] at e
      obtain ⟨x, t, B1, B2, ex, r1, r2, sB⟩ := hp
      obtain ⟨rfl, rfl⟩ := List.cons.inj ex
      obtain ⟨F', g1, g2⟩ := put_rep h2 r2 he (fun a x y => d a (sB.r x) y) e
      exact ⟨F', g1, fun a z => (g2 a z).elim (fun z => .inl (sB.r z)) .inr⟩
  | some i :: ms, v :: vs, ps, ρ, ρ', os, A0, A, F, H0, S0, ⟨ev, h⟩, hp, he, d, e => by
    cases ps with
    | nil => simp [putL] at e
    | cons r ps =>
      have e' : (match ρ[i]? with
        | some none => putL ms ps (ρ.set i r)
        | _ => none) = some ρ' := e
      obtain ⟨x, t, B1, B2, ex, r1, r2, sB⟩ := hp
      obtain ⟨rfl, rfl⟩ := List.cons.inj ex
      split at e'
      · next eo =>
        have q := he.put (i := i) (F := Un' B1 F) (A := B1) (x := some v) (r := r) eo r1 ⟨fun a => Iff.rfl, fun a x y => d a (sB.l x) y⟩
        rw [set_at ev] at q
        obtain ⟨F', g1, g2⟩ := put_rep h r2 q (fun a x y => y.elim (fun y => sB.2 a y x) fun y => d a (sB.r x) y) e'
        exact ⟨F', g1, fun a z => (g2 a z).elim (fun z => .inl (sB.r z)) fun z => z.elim (fun z => .inl (sB.l z)) .inr⟩
      · cases e'
  | [], _ :: _, _, _, _, os, _, _, _, _, _, h, _, _, _, _ => by cases os <;> exact h.elim
  | none :: ms, [], _, _, _, os, _, _, _, _, _, h, _, _, _, _ => by cases os <;> exact h.elim
  | none :: ms, _ :: _, _, _, _, [], _, _, _, _, _, h, _, _, _, _ => h.elim
  | some i :: ms, [], _, _, _, os, _, _, _, _, _, h, _, _, _, _ => by cases os <;> exact h.elim
/-! argument lists with lent slots -/
def rM (C : Cn) (E : WX) (ms : List (Option Nat)) (f : Fa) : TA := fun σ H Q => ∃ ρ S F, RepE C H S σ ρ F ∧ Wf H S F ∧ match f ρ with
  | .ok os ρ' => ∀ vs H' S' F' A, RepE C H' S' σ ρ' F' → RepM C H' S' σ ms vs os A → Wf H' S' (Un' A F') → Dj A F' → Fr H S F H' S' (Un' A F') → Q vs H'
  | .exc x ρ' => ∀ c d H' S' F', RepE C H' S' σ ρ' F' → Wf H' S' F' → Fr H S F H' S' F' → RepXn C H' S' x c d → E c d σ H'
  | .bad => False
abbrev DM (C : Cn) (E : WX) (X : Cx) (es : List Expr) (ms : List (Option Nat)) (f : Fa) : Prop := PA X es (rM C E ms f)
theorem dm_nil : DM C E X [] [] eNil := by
  refine pa_imp pa_nil fun σ H Q ⟨ρ, S, F, he, w, q⟩ => ?_
  exact q [] H S F No he emp_no (wf_no w) dj_no (fr_no .refl)
theorem dm_val {e : Expr} {es : List Expr} {ms : List (Option Nat)} {f : Fe} {g : Fa} (h1 : DE C E X e f) (h2 : DM C E X es ms g) (hs : starEach (e :: es) X.env = (false, eval e X.env) :: starEach es X.env := by rfl) : DM C E X (e :: es) (none :: ms) (eCons f g) := by
  refine pa_imp (pa_cons h1 h2 hs) fun σ H Q ⟨ρ, S, F, he, w, q⟩ => ⟨ρ, S, F, he, w, ?_⟩
  unfold eCons at q
  cases ef : f ρ with
  | bad => rw [ef] at q; exact q
  | exc x ρ' => rw [ef] at q; exact q
  | ok o ρ1 =>
    rw [ef] at q
    intro v H1 S1 F1 A he1 r1 w1 d1 fr1
    refine ⟨ρ1, S1, F1, he1, w1.drop, ?_⟩
    simp only [bind_ok] at q
    cases eg : g ρ1 with
    | bad => rw [eg] at q; exact q
    | exc x ρ' =>
      rw [eg] at q
      intro c d H2 S2 F2 he2 w2 fr2 rx
      exact q c d H2 S2 F2 he2 w2 (fr1.drop.trans fr2) rx
    | ok os ρ2 =>
      rw [eg] at q
      intro vs H2 S2 F2 B he2 r2 w2 d2 fr2
      obtain ⟨ka, d3, w3, fr3, k⟩ := fr_tmp w1 d1 fr1 fr2 w2
      obtain ⟨d4, d5⟩ := dj_un d3 d2
      have r1' := r1.mono k ka
      rw [un_assoc] at w3 fr3
      exact q (v :: vs) H2 S2 F2 (Un' A B) he2 ⟨A, B, r1', r2, ⟨fun a => Iff.rfl, d4⟩⟩ w3 d5 fr3
/-- a slot is lent: what it holds is taken at the call -/
def eLend (i : Nat) (g : Fa) : Fa := fun ρ => match ρ[i]? with
  | some (some _) => g ρ
  | _ => .bad
theorem dm_lend {i : Nat} {x : Str} {p : Pos} {es : List Expr} {ms : List (Option Nat)} {g : Fa} (h2 : DM C E X es ms g) (hN : X.N[i]? = some x := by rfl) (hv : Vis X.env.scope x := by first | exact Or.inl rfl | exact Or.inr (Or.inl rfl) | exact Or.inr (Or.inr rfl)) (hd : (x == ("__debug__" : Str)) = false := by decide)
    (hcd : (x == ("__classdict__" : Str)) = false := by decide) (hs : starEach (.Name x p :: es) X.env = (false, eval (.Name x p) X.env) :: starEach es X.env := by rfl) : DM C E X (.Name x p :: es) (some i :: ms) (eLend i g) := by
  refine pa_imp (pa_cons (pe_var hN hv hd hcd) h2 hs) fun σ H Q ⟨ρ, S, F, he, w, q⟩ => ?_
  unfold eLend at q
  cases e : ρ[i]? with
  | none => rw [e] at q; exact q.elim
  | some r =>
    cases r with
    | none => rw [e] at q; exact q.elim
    | some o =>
      rw [e] at q
      obtain ⟨x, A, B, e1, ⟨v, rfl, h1⟩, _, _⟩ := he.take e
      refine ⟨v, e1, ρ, S, F, he, w, ?_⟩
      cases eg : g ρ with
      | bad => simp only [eg] at q
      | exc x ρ' => simp only [eg] at q; exact q
      | ok os ρ2 => simp only [eg] at q; exact fun vs H2 S2 F2 B he2 r2 w2 d2 fr2 => q (v :: vs) H2 S2 F2 B he2 ⟨e1, r2⟩ w2 d2 fr2
/-- behind a call -/
theorem call_ok {k : Nat} {fd : FuncData} {g : Fn} {ms : List (Option Nat)} {fa : Fa} {n : Nat} {Q : VK} (hn : ms.length = n) (q : rE C E (eCall g ms fa) σ H Q) : rM C E ms fa σ H (fun vs H1 => spD C n g vs H1 Q (WE E σ)) := by
  obtain ⟨ρ, S, F, he, w, q⟩ := q
  refine ⟨ρ, S, F, he, w, ?_⟩
  unfold eCall at q
  cases ef : fa ρ with
  | bad => rw [ef] at q; exact q
  | exc x ρ' => rw [ef] at q; exact q
  | ok os ρ1 =>
    rw [ef] at q
    simp only [bind_ok] at q
    intro vs H1 S1 F1 A he1 r1 w1 d1 fr1
    cases et : takeL ms os ρ1 with
    | none => rw [et] at q; exact q.elim
    | some p =>
      obtain ⟨os', ρ2⟩ := p
      simp only [et] at q
      obtain ⟨A', F', g1, g2, g3, g4, g5⟩ := take_rep r1 he1 d1 et
      have wA : Wf H1 S1 (Un' F' A') := ⟨fun a z => w1.mu a (g4 a z.symm), fun a z => w1.ns a (g4 a z.symm), w1.so⟩
      have dA : Dj F' A' := fun a x y => g3 a y x
      have frA : Fr H S F H1 S1 (Un' F' A') := ⟨fr1.keep, fr1.sub, fr1.new, fun a z => fr1.fnew a (g4 a z.symm)⟩
      refine ⟨os', S1, A', r1.len.trans hn, g1, wA.drop, ?_⟩
      cases eg : g os' with
      | bad => simp only [eg] at q
      | exc x ps =>
        simp only [eg] at q
        cases ep : putL ms ps ρ2 with
        | none => simp only [ep] at q
        | some ρ3 =>
          simp only [ep] at q
          intro c d H2 S2 A2 hp w2 fr2 rx
          obtain ⟨ka, d3, w3, fr3, k⟩ := fr_tmp wA dA frA fr2 w2
          obtain ⟨F3, z1, z2⟩ := put_rep r1 hp (g2.mono k ka) (fun a x y => d3 a y x) ep
          have less : ∀ a, F3 a → Un' F' A2 a := fun a z => (z2 a z).symm
          exact q c d H2 S2 F3 z1 ⟨fun a z => w3.mu a (less a z), fun a z => w3.ns a (less a z), w3.so⟩ (fr3.less less) rx
      | ok o ps =>
        simp only [eg] at q
        cases ep : putL ms ps ρ2 with
        | none => simp only [ep] at q
        | some ρ3 =>
          simp only [ep] at q
          intro v H2 S2 A2 B hp r2 w2 d2 fr2
          obtain ⟨ka, d3, w3, fr3, k⟩ := fr_tmp wA dA frA fr2 w2
          obtain ⟨F3, z1, z2⟩ := put_rep r1 hp (g2.mono k ka) (fun a x y => d3 a y (.inr x)) ep
          have less : ∀ a, Un' B F3 a → Un' F' (Un' B A2) a := fun a z => z.elim (fun z => .inr (.inl z)) fun z => (z2 a z).elim (fun z => .inr (.inr z)) .inl
          exact q v H2 S2 F3 B z1 r2 ⟨fun a z => w3.mu a (less a z), fun a z => w3.ns a (less a z), w3.so⟩ (fun a x y => (z2 a y).elim (fun y => d2 a x y) fun y => d3 a y (.inl x)) (fr3.less less)
theorem de_call {k : Nat} {f : Addr} {fd : FuncData} {ps : List Str} {x : Str} {p : Pos} {e : Expr} {es : List Expr} {g : Fn} {ms : List (Option Nat)} {fa : Fa} (Fk : FnOk X.prog X.w X.K X.mg X.base (L2.CX X.prog X.w) k f fd ps (spD C ps.length g)) (hr : Room k X.A)
    (hm : X.mg x = some (.ref f)) (hk : PySem.W.keepIn X.K (.ref f) = true) (hb : Binds X.K fd ps []) (tk : Takes X E) (ha : DM C E X (e :: es) ms fa) (hn : ms.length = ps.length := by rfl) (hg : Gl X x := by rfl)
    (hdb : (x == ("__debug__" : Str)) = false := by decide) (he : starEach (e :: es) X.env = (false, eval e X.env) :: starEach es X.env := by rfl) (hpl : (backTo pos (starEach es X.env)).any (·.1) = false := by rfl) :
    DE C E X (.Call (.Name x p) (e :: es) [] pos) (eCall g ms fa) :=
  pe_imp (pe_callS Fk hr hg hm hk hb (fun σ => passAt tk σ) ha hdb he hpl) fun σ H Q q => call_ok (k := k) (fd := fd) hn q
/-! a def, by its body -/
theorem keep_rep : ∀ {ks : List Bool} {vs : List V} {σ : L2.St} {ρ : Env'} {F : Set'}, ks.length = vs.length → RepE C H S σ ρ F → (∀ (p : Nat) (v : V), ks[p]? = some true → vs[p]? = some v → σ[p]? = some (some v)) →
    ∃ F', RepE C H S (vs.map some) (keepL ks ρ) F' ∧ ∀ a, F' a → F a
  | [], [], σ, ρ, F, _, _, _ => ⟨No, ⟨rfl, emp_no⟩, fun _ z => z.elim⟩
  | k :: ks, v :: vs, σ, [], F, hl, he, h => by
    have e := he.1
    subst e
    cases k with
    | true => have := h 0 v rfl rfl; cases this
    | false =>
      obtain ⟨F', g1, g2⟩ := keep_rep (ks := ks) (vs := vs) (σ := []) (ρ := []) (by simpa using hl) he fun p v h1 h2 => by
        have := h (p + 1) v (by simpa using h1) (by simpa using h2)
        cases this
      exact ⟨F', ⟨some v, vs.map some, No, F', rfl, emp_no, g1, ⟨fun a => ⟨.inr, fun z => z.elim False.elim id⟩, fun a z => z.elim⟩⟩, g2⟩
  | k :: ks, v :: vs, σ, r :: ρ, F, hl, he, h => by
    obtain ⟨x, t, A, B, rfl, r1, r2, s⟩ := he
    obtain ⟨F', g1, g2⟩ := keep_rep (ks := ks) (vs := vs) (σ := t) (ρ := ρ) (by simpa using hl) r2 fun p v h1 h2 => by
      have := h (p + 1) v (by simpa using h1) (by simpa using h2)
      simpa using this
    cases k with
    | true =>
      have ex := h 0 v rfl rfl
      have ex : x = some v := by simpa using ex
      subst ex
      refine ⟨Un' A F', ⟨some v, vs.map some, A, F', rfl, r1, g1, ⟨fun a => Iff.rfl, fun a x y => s.2 a x (g2 a y)⟩⟩, fun a z => z.elim (fun z => s.l z) fun z => s.r (g2 a z)⟩
    | false => exact ⟨F', ⟨some v, vs.map some, No, F', rfl, emp_no, g1, ⟨fun a => ⟨.inr, fun z => z.elim False.elim id⟩, fun a z => z.elim⟩⟩, fun a z => s.r (g2 a z)⟩
  | [], _ :: _, _, _, _, hl, _, _ => by cases hl
  | _ :: _, [], _, _, _, hl, _, _ => by cases hl
theorem mem_pi : ∀ {ks : List Bool} {i p : Nat}, ks[p]? = some true → i + p ∈ piOf ks i
  | [], _, _, h => by simp at h
  | true :: ks, i, 0, h => by simp [piOf]
  | false :: ks, i, 0, h => by simp at h
  | k :: ks, i, p + 1, h => by
    have q := mem_pi (ks := ks) (i := i + 1) (p := p) (by simpa using h)
    rw [show i + (p + 1) = i + 1 + p by omega]
    cases k with
    | true => exact List.mem_cons_of_mem _ q
    | false => exact q
theorem repE_nones : ∀ n, RepE C H S (List.replicate n none) (List.replicate n none) No
  | 0 => ⟨rfl, emp_no⟩
  | n + 1 => ⟨none, List.replicate n none, No, No, rfl, emp_no, repE_nones n, ⟨fun a => ⟨fun z => z.elim, fun z => z.elim id id⟩, fun a z => z.elim⟩⟩
theorem repE_start {N : Nat} : ∀ {vs : List V} {os : List O} {A : Set'}, RepOs C H S vs os A → RepE C H S (vs.map some ++ List.replicate N none) (os.map some ++ List.replicate N none) A
  | vs, [], A, h => by
    obtain ⟨rfl, h⟩ := h
    have : A = No := funext fun a => propext ⟨h a, False.elim⟩
    subst this
    exact repE_nones N
  | vs, o :: os, A, h => by
    obtain ⟨v, t, P, R, rfl, h1, h2, s⟩ := h
    exact ⟨some v, _, P, R, rfl, ⟨v, rfl, h1⟩, repE_start h2, s⟩
theorem fn_end {N : Nat} {ks : List Bool} {body : Fs} {vs : List V} {Q : VK} {E : XK} {M : List Str} (hl : ks.length = vs.length) (hN : N = M.length) (q : spD C ks.length (fnG N ks body) vs H Q E) :
    rS C ⟨piOf ks 0, vs.map some⟩ (fun c d _ H => E c d H) body { nx := fun _ H' => Q .non H', rt := Q } (L2.start M vs) H := by
  obtain ⟨os, S, A, ln, r, w, q⟩ := q
  subst hN
  have el : vs.length = os.length := r.len
  refine ⟨os.map some ++ List.replicate (M.length - os.length) none, S, A, by unfold L2.start; rw [el]; exact repE_start r, w, fun j hj => ?_, ?_⟩
  · unfold L2.start
    have : j < vs.length := by
      rw [← hl]
      clear q r w
      suffices ∀ (ks : List Bool) i, j ∈ piOf ks i → j < i + ks.length by simpa using this ks 0 hj
      intro ks
      induction ks with
      | nil => intro i h; simp [piOf] at h
      | cons k ks ih =>
        intro i h
        cases k with
        | true =>
          rcases List.mem_cons.mp h with h | h
          · rw [List.length_cons]; omega
          · have := ih (i + 1) h; rw [List.length_cons]; omega
        | false => have := ih (i + 1) h; rw [List.length_cons]; omega
    exact List.getElem?_append_left (by simpa using this)
  · have kp : ∀ {σ' : L2.St}, Fx.at ⟨piOf ks 0, vs.map some⟩ σ' → ∀ (p : Nat) (v : V), ks[p]? = some true → vs[p]? = some v → σ'[p]? = some (some v) := fun h p v h1 h2 => by
      have := h p (by simpa using mem_pi (i := 0) h1)
      rw [this]
      show (vs.map some)[p]? = _
      rw [List.getElem?_map, h2]; rfl
    unfold fnG at q
    cases eb : body (os.map some ++ List.replicate (M.length - os.length) none) with
    | bad => rw [eb] at q; exact q.elim
    | brk ρ => rw [eb] at q; exact q.elim
    | cnt ρ => rw [eb] at q; exact q.elim
    | nx ρ =>
      rw [eb] at q
      intro σ' H' S' F' a b c d
      obtain ⟨F2, z1, z2⟩ := keep_rep hl a (kp c)
      refine q .non H' S' F2 No z1 ⟨emp_no, rfl⟩ (wf_no ⟨fun a z => b.mu a (z2 a z), fun a z => b.ns a (z2 a z), b.so⟩) dj_no (fr_no (d.less z2))
    | ret o ρ =>
      rw [eb] at q
      intro v σ' H' S' F' B a r b dj c d
      obtain ⟨F2, z1, z2⟩ := keep_rep hl a (kp c)
      have less : ∀ a, Un' B F2 a → Un' B F' a := fun a z => z.elim .inl fun z => .inr (z2 a z)
      exact q v H' S' F2 B z1 r ⟨fun a z => b.mu a (less a z), fun a z => b.ns a (less a z), b.so⟩ (fun a x y => dj a x (z2 a y)) (d.less less)
    | exc x ρ =>
      rw [eb] at q
      intro c0 d0 σ' H' S' F' a b c d rx
      obtain ⟨F2, z1, z2⟩ := keep_rep hl a (kp c)
      exact q c0 d0 H' S' F2 z1 ⟨fun a z => b.mu a (z2 a z), fun a z => b.ns a (z2 a z), b.so⟩ (d.less z2) rx
/-- THE RULE for a def -/
theorem fn_def {P : Program} {w : World} {K : PySem.W.Frag} {mg : Str → Option Value} {base : Heap} {x qual : Str} {st : Stmt} {f : Addr} {fd : FuncData} {N ps : List Str} {k : Nat} {ks : List Bool} {body : Fs} (Fd : Fun K x qual st f fd) (Sc : FnScope N ps (defScope st)) (hk : ks.length = ps.length)
    (hb : ∀ (cdv : Value) (A : Around) (outer : List Env) (s : Shared) (H : Hp) (E : XK) (σ0 : L2.St), Room k (A.deeper (envOfC qual (defScope st) s.heap.objs.size f cdv)) →
      DSs C ⟨piOf ks 0, σ0⟩ (fun c d _ H => E c d H) (cxOf (L2.CX P w) P w K mg base N qual (defScope st) f cdv A outer s H E) (defBody st) body) :
    FnOk P w K mg base (L2.CX P w) (k + 1) f fd ps (spD C ps.length (fnG N.length ks body)) := by
  refine Fd.okX Sc (fun vs H Q E h => ?_) fun cdv A outer s H vs Q E hr h => ⟨_, hb cdv A outer s H E (vs.map some) hr, fn_end ?_ rfl (by rw [hk]; exact h)⟩
  · obtain ⟨_, _, _, e, _⟩ := h; exact e
  · obtain ⟨_, _, _, e, _⟩ := h; exact hk.trans e.symm
end
end G
end

section
set_option maxRecDepth 100000
set_option maxHeartbeats 2000000
open PySem PySem.W PySem.Calls PyProof.Rows PySem.HandSPX
/-! an own exception whose maker says super().__init__(text) and stores one field -/
namespace GX
def iArgs (p : Str) (p1 p2 : Pos) : Arguments := { posonlyargs := [], args := [{ arg := "self", annotation := none, pos := p1 }, { arg := p, annotation := none, pos := p2 }], vararg := none, kwonlyargs := [], kw_defaults := [], kwarg := none, defaults := [] }
def iBody (p msg : Str) (j : Nat) (q : Nat → Pos) : List Stmt := [.Expr (.Call (.Attribute (.Call (.Name "super" (q 0)) [] [] (q 1)) "__init__" (q 2)) [.Constant (.str msg) j (q 3)] [] (q 4)) (q 5),
  .Assign [.Attribute (.Name "self" (q 6)) p (q 7)] (.Name p (q 8)) (q 9)]
def iScope (p : Str) : Scope := { kind := .function, names := [(PySem.Str.ofString "self", .local), (p, .local), (PySem.Str.ofString "__class__", .free), (PySem.Str.ofString "super", .globalImplicit)], isGenerator := false, isCoroutine := false, more := [] }
theorem mc_eq {o : Expr} {name : Str} {apos pos : Pos} {env : Env} {ov : Value} {n : Nat} {args : List (Bool × Sem Value)} {kws : List (Option Str × Sem Value)} (hf : methodCallForm n args kws = true) (hl : (apos.endLine == pos.line) = true) :
    methodCall o name apos pos env ov n args kws = (do
      let (f, first) ← holding [ov] (getMethod ov name (do return (← importBound o env).getD true))
      callWith pos f first args kws) := by
  unfold methodCall methodCallPos calleeOf
  simp only [hf, hl, Bool.not_true, Bool.false_or, if_true, pure_bind]
/-- what the written part says of such a class -/
structure SupTxt (prog : Program) (K : Frag) (mg : Str → Option Value) (x : Str) (C fI : Addr) (p : Str) (B newId initId : String) (bmB : List Value) : Prop where
  gC : mg x = some (.ref C)
  gS : mg "super" = none
  xi : excInitIn K C bmB newId = true
  cls : ∃ cd, clsIn K C = some cd ∧ refsVE cd.mro = true ∧ cd.hasDict = true
  sa : findIn K (.ref C) "__setattr__" = some (some (.builtin "object.__setattr__"))
  noN : findIn K (.ref C) p = some none
  iC : findIn K (.ref C) "__init__" = some (some (.ref fI))
  tC : typeIn K (.ref fI) = some (.type "function")
  kC : keepIn K (.ref C) = true
  exC : subIn K (.ref C) (.type "BaseException") = some true
  tyC : typeIn K (.ref C) = some (.type "type")
  hB : subIn K (.ref C) (.type B) = some true
  me : mroIn K C (.ref C) = some true
  sup : ks_superIn K C C "__init__" = some (some (.builtin initId))
  op : nsIn K cStatics "thirdparty.any" = some none
  fn : ∃ (oc : Value) (od : Option Addr) (qual : Str) (dV kV doc pm : Value) (an : Option Addr) (cda : Addr) (ct : Value) (cc : Addr) (osl : Array (Option Value)) (msg : Str) (j : Nat) (p1 p2 : Pos) (q : Nat → Pos) (cl : Value) (cld : Option Addr) (csl : Array (Option Value))
      (ccl : Value) (cdd : Option Addr) (vs : Array Value) (ccs : Array (Option Value)) (file : Str) (tf : Tok),
    K.lookup fI = some ⟨oc, od, .func (ksFn "__init__" qual (iArgs p p1 p2) (iBody p msg j q) (iScope p) dV kV doc pm an (.ref cda) ct cc), osl⟩ ∧ dV = .none ∧ codeIn K (.ref cda) qual = true ∧
    K.lookup cc = some ⟨cl, cld, .cell (some (.ref C)), csl⟩ ∧ K.lookup cda = some ⟨ccl, cdd, .fields vs, ccs⟩ ∧ vs[2]? = some (.str file tf) ∧ ((prog.main.file : Str) == file) = true ∧ ((q 2).endLine == (q 4).line) = true
  top : (prog.main.scope.names.lookup ("super" : Str)).isSome = false
theorem one_size (v : Value) : [v].length ≤ sizeLine := by
  rw [sizeLine_eq]
  exact (by decide : 1 ≤ 16777216)
theorem ldC {M : Model} {s : Shared} {env : Env} {m : Str → Option Value} {x : Str} {pos : Pos} {v : Value} {Q : Value → Shared → Prop} {A : Around} {E : Value → Shared → Prop} (hn : s.heap.Ns env.locals m) (hv : m x = some v) (h : Q v s)
    (hk : env.scope.kind = .function) (hl : env.kindOf x = some .local) (hd : (x == ("__debug__" : Str)) = false) : wpAny M A (eval (.Name x pos) env) Q E s := wpAny_Name (wpAny_loadName_local hk hl hn hv h) hd
/-- what the maker leaves of a fresh exception at x -/
structure InitEnd (h h' : Heap) (x C dx t1 : Addr) (p : Str) (v : Value) : Prop where
  keep : ∀ b o, b ≠ x → h.get? b = some o → h'.get? b = some o
  obj : h'.get? x = some { cls := .ref C, dict := some dx, data := .fields #[.ref t1, .none, .none, .none, .bool false, .none] }
  dbig : h.objs.size ≤ dx
  dne : dx ≠ x
  ns : h'.Ns1 dx (fun y => if y = p then some v else none)
structure OwnMade (h h' : Heap) (e C d : Addr) (p : Str) (v : Value) : Prop where
  keep : ∀ b o, h.get? b = some o → h'.get? b = some o
  new : h.objs.size ≤ e
  obj : ∃ oe vs, h'.get? e = some oe ∧ oe.cls = .ref C ∧ oe.dict = some d ∧ oe.data = .fields vs ∧ vs[1]? = some .none
  dbig : h.objs.size ≤ d
  dne : d ≠ e
  ns : h'.Ns1 d (fun y => if y = p then some v else none)
/-- what a name must be -/
structure Nm (p : Str) : Prop where
  l : (iScope p).names.lookup p = some .local
  d : (p == ("__debug__" : Str)) = false
  s : ¬ (p = "self")
  c : (iScope p).names.lookup ("__class__" : Str) = some .free
  u : (iScope p).names.lookup ("super" : Str) = some .globalImplicit
  b : ∀ (qual : Str) (p1 p2 : Pos) (msg : Str) (j : Nat) (q : Nat → Pos) (kV doc pm : Value) (an : Option Addr) (cdv ct : Value) (cc : Addr) (a v : Value), bindArgs (ksFn "__init__" qual (iArgs p p1 p2) (iBody p msg j q) (iScope p) .none kV doc pm an cdv ct cc) ⟨[a, v], []⟩ = pure [(("self" : Str), a), (p, v)]
theorem nm_line : Nm "line" := ⟨by rfl, by decide, by decide +kernel, by rfl, by rfl, fun _ _ _ _ _ _ _ _ _ _ _ _ _ _ _ => by first | rfl | with_unfolding_all rfl⟩
section
variable {prog : Program} {w : World} {A : Around} {E : Value → Shared → Prop} {R : Result → Shared → Prop} {s : Shared} {K : Frag} {mg mb : Str → Option Value} {x : Str} {C fI : Addr} {p : Str} {B newId initId : String} {bmB : List Value}
theorem sup_init (T : SupTxt prog K mg x C fI p B newId initId bmB) (np : Nm p) (KF : KxsFacts B initId) (FB : ExcBaseFacts B newId initId bmB) {e t0 : Addr} {v : Value} (X : K.In s.heap) (hg : s.heap.Ns mainGlobals mg) (hb : s.heap.Ns builtinsNs mb) (hmb : mb "super" = bootBuiltins "super")
    (hlim : s.heap.NoLimit) (hx : s.heap.get? e = some (excO C t0)) (hnx : K.lookup e = none) (hroom : A.depth < recursionLimit)
    (hq : ∀ h' tk dx t1, InitEnd s.heap h' e C dx t1 p v → R (.ok (.ret .none)) { s with heap := h', toks := tk }) :
    codeAny (model prog w) A (.call (.ref fI) ⟨[.ref e, v], []⟩) R s := by
  obtain ⟨oc, od, qual, dV, kV, doc, pm, an, cda, ct, cc, osl, msg, j, p1, p2, q, cl, cld, csl, ccl, cdd, vs, ccs, file, tf, ho, rfl, hcd, hcell, hcode, hvs, hfile, hline⟩ := T.fn
  obtain ⟨cd, hcl, hbm, hhd⟩ := T.cls
  have hbind : BindsTo s (ksFn "__init__" qual (iArgs p p1 p2) (iBody p msg j q) (iScope p) .none kV doc pm an (.ref cda) ct cc) ⟨[.ref e, v], []⟩ [(("self" : Str), Value.ref e), (p, v)] := BindsTo.of_eq (np.b _ _ _ _ _ _ _ _ _ _ _ _ _ _ _)
  refine ks_codeAny_call_defAt (fd := ksFn "__init__" qual (iArgs p p1 p2) (iBody p msg j q) (iScope p) .none kV doc pm an (.ref cda) ct cc) (body := iBody p msg j q) hroom (X _ _ ho) rfl hlim (codeRec_of X hcd) rfl hbind ?_ ?_ (fun h₁ hns hk₁ => ?_) rfl rfl rfl
  · intro y hy
    have hy : y ∈ [(PySem.Str.ofString "self", NameKind.local), (p, NameKind.local), (PySem.Str.ofString "__class__", NameKind.free), (PySem.Str.ofString "super", NameKind.globalImplicit)] := hy
    simp only [List.mem_cons, List.not_mem_nil, or_false] at hy
    rcases hy with rfl | rfl | rfl | rfl <;> exact fun z => by cases z
  · intro y hy
    simp only [List.mem_cons, List.not_mem_nil, or_false] at hy
    rcases hy with rfl | rfl
    · rfl
    · exact np.l
  · have X₁ : K.In h₁ := X.keeps hk₁
    have hx₁ := hk₁ _ _ hx
    have hL := hns.lt
    have eL : s.heap.objs.size ≠ e := Nat.ne_of_gt (Heap.lt_size hx)
    obtain ⟨hp, g, d, t, os⟩ := s
    have xC : e ≠ C := by
      obtain ⟨nm, N', qn, bs, bm, hdct, sn, sub, ab, col, dd, k0, k1, k2, k3, k5, hC, hT⟩ := excInit_of X T.xi
      rintro rfl
      rw [hC] at hx
      cases hx
    have hself : ([(("self" : Str), Value.ref e), (p, v)]).reverse.lookup ("self" : Str) = some (Value.ref e) := by
      have q1 : (("self" : Str) == p) = false := by simpa using fun z : ("self" : Str) = p => np.s z.symm
      simp [List.lookup, q1]
    have hp' : ([(("self" : Str), Value.ref e), (p, v)]).reverse.lookup p = some v := by
      simp [List.lookup]
    refine ks_wpAt_execs_cons (ks_wpAt_Expr_any (ks_wpAt_MethodCall ?_ (bind_congr fun ov => bind_congr fun _ => mc_eq rfl hline)))
    have nsb : h₁.Ns builtinsNs mb := hb.keeps hk₁
    have nsg : h₁.Ns mainGlobals mg := hg.keeps hk₁
    refine ks_wpAt_super_base (env := ksEnv qual (iScope p) hp.objs.size fI (.ref cda) cc) np.u np.c rfl rfl (X₁ _ _ ho) rfl rfl rfl (X₁ _ _ hcode) rfl hvs hfile T.top ?_
    refine ks_loadName_global rfl np.u (loadGlobal_builtin (env := ksEnv qual (iScope p) hp.objs.size fI (.ref cda) cc) nsg T.gS nsb (hmb.trans (by first | boot_by_name | rfl | kernel_rfl)) ⟨rfl, ?_⟩)
    refine wpAny_loadName_free rfl np.c rfl ⟨_, X₁ _ _ hcell, rfl⟩ ?_
    refine wpAny_loadName_local rfl rfl hns hself ?_
    obtain ⟨oD, hD1, hD2⟩ : ∃ oD, h₁.get? C = some oD ∧ oD.data = .cls cd := by
      unfold clsIn at hcl
      split at hcl
      · rename_i c d cd' sl ho
        cases hcl
        exact ⟨_, X₁ _ _ ho, rfl⟩
      · cases hcl
    refine ks_wpAny_isType_cls hD1 hD2 ⟨rfl, ?_⟩
    refine ks_wpAny_call_super hD1 hD2 hx₁ rfl (fun c z => by cases z) (looks_mroIn X₁ T.me) (fun h2 e2 k2 => ?_)
    have X2 : K.In h2 := X₁.keeps k2
    have hx2 := k2 _ _ hx₁
    have I2 : InstAt h2 e (excO C t0) C none := ⟨hx2, rfl, rfl, trivial⟩
    have hm := T.sup
    unfold ks_superIn at hm
    rw [hcl] at hm
    refine kxs_getMethod KF e2 (looks_opaque X2 T.op) (l₀ := cd.mro) (fun A Q E s k q => wpAny_bind ((looks_clsIn X2 hcl) A _ E s k (wpAny_pure q))) rfl X2 hm (I2.type.andThen (looks_subIn X2 T.hB)) xC rfl ?_
    have k3 : ∀ b o, h2.get? b = some o → (h2.push (kxs_mw initId e)).get? b = some o := fun b o z => Heap.get?_push_of_some _ z
    have hu3 : (h2.push (kxs_mw initId e)).get? h2.objs.size = some (kxs_mw initId e) := Heap.get?_push_at rfl rfl
    have hx3 := k3 _ _ hx2
    have X3 : K.In (h2.push (kxs_mw initId e)) := X2.keeps k3
    refine kxs_callWith (i := initId) (x := e) rfl ?_
    refine evalArgs_plain ?_
    refine Calls.spliced_cons (wpAny_Constant_str (k := j) (pos := q 3) (Calls.spliced_nil ⟨hu3, ?_⟩))
    obtain ⟨nm, N', qn, bs, bm, hdct, sn, sub, ab, col, dd, m0, m1, m2, m3, m5, hC, hT⟩ := excInit_of X3 T.xi
    refine wpAny_call (codeAny_of_tree ?_)
    show wpAny _ _ (callAny (.ref h2.objs.size) ⟨_, []⟩) _ _ _
    simp only [callAny]
    refine wpAny_bind (wpAny_load hu3 ?_)
    simp only [kxs_mw, show (Value.type "method-wrapper" == Value.type "method" || Value.type "method-wrapper" == Value.type "builtin_function_or_method" || Value.type "method-wrapper" == Value.type "method-wrapper") = true by decide, if_true]
    refine KFB.if_so (by decide) ?_
    refine wpAny_bind (check_bound_init FB.toExcCallFacts hC hx3 rfl ?_)
    refine wpAny_bind (wpAny_pure (wpAny_pure ?_))
    refine ⟨plainId_quiet FB.init.plain _, codeAny_builtin FB.initEntry ?_⟩
    refine exc_init_tree (cls := .ref C) (t0 := t0) (dv := none) (c2 := .none) (c3 := .none) (b4 := .bool false) hx3 (one_size _) (fun h4 k4 hx4 _ => ?_)
    -- self.f = f
    have X4 : K.In h4 := fun b o z => k4 b o (fun y => by rw [y, hnx] at z; cases z) (X3 b o z)
    have hns4 : h4.Ns hp.objs.size (fun y => [(("self" : Str), Value.ref e), (p, v)].reverse.lookup y) := by
      obtain ⟨oL, es, ep, hL', r⟩ := hns
      exact ⟨oL, es, ep, k4 _ _ eL (k3 _ _ (k2 _ _ hL')), r⟩
    show PySem.wpAt _ _ _ (execs _ _) _ _ _
    refine ks_wpAt_execs_cons (ks_wpAt_Assign_Attr (wpAt_of_wpAny ?_) (by rfl))
    refine ldC (v := v) hns4 hp' (ldC (v := .ref e) hns4 hself ?_ rfl rfl (by decide)) rfl np.l np.d
    refine set_plain X4 (ox := excO C _) (od := none) ⟨hx4, rfl, rfl, trivial⟩ T.sa ?_
    refine exc_osa X4 hx4 hcl hbm hhd T.noN (fun h₃ tk₃ dx k₃ dn dne hx₃ hn₃ => ?_)
    show PySem.wpAt _ _ _ (execs _ _) _ _ _
    refine wpAt_of_wpAny (wpAny_execs_nil ?_)
    have old : ∀ b o, hp.get? b = some o → (h2.push (kxs_mw initId e)).get? b = some o := fun b o z => k3 b o (k2 b o (hk₁ b o z))
    refine hq h₃ tk₃ dx _ ⟨fun b o hb z => k₃ b o hb (k4 b o hb (old b o z)), hx₃, ?_, dne, hn₃⟩
    have z1 : hp.objs.size < h4.objs.size := hns4.lt
    exact Nat.le_of_lt (Nat.lt_of_lt_of_le z1 dn)
theorem sup_made (T : SupTxt prog K mg x C fI p B newId initId bmB) (np : Nm p) (KF : KxsFacts B initId) (FB : ExcBaseFacts B newId initId bmB) {v : Value} (X : K.In s.heap) (hg : s.heap.Ns mainGlobals mg) (hb : s.heap.Ns builtinsNs mb) (hmb : mb "super" = bootBuiltins "super")
    (hlim : s.heap.NoLimit) (hroom : A.depth + 1 < recursionLimit)
    (hq : ∀ h' tk e d, OwnMade s.heap h' e C d p v → R (.ok (.ret (.ref e))) { s with heap := h', toks := tk }) :
    codeAny (model prog w) A (.call (.ref C) ⟨[v], []⟩) R s := by
  obtain ⟨nm, N', qn, bs, bm, hdct, sn, sub, ab, col, dd, m0, m1, m2, m3, m5, hC, hT⟩ := excInit_of X T.xi
  obtain ⟨hp, g, dr, tk, os⟩ := s
  have k : ∀ b o, hp.get? b = some o → ((hp.push (kdv_tup [v])).push (excO C hp.objs.size)).get? b = some o := fun b o e => Heap.get?_push_of_some _ (Heap.get?_push_of_some _ e)
  have hget : ((hp.push (kdv_tup [v])).push (excO C hp.objs.size)).get? (hp.objs.size + 1) = some (excO C hp.objs.size) := by heap_get
  have hnx : K.lookup (hp.objs.size + 1) = none := by
    cases e : K.lookup (hp.objs.size + 1) with
    | none => rfl
    | some o =>
      have z : hp.get? (hp.objs.size + 1) = some o := X _ _ e
      exact absurd (Nat.lt_of_succ_lt (Heap.lt_size z)) (Nat.lt_irrefl _)
  refine call_own FB hT hC (looks_findIn X T.iC) (fun self => bind_fn X self T.tC) (one_size v) ?_
  refine sup_init (s := ⟨(hp.push (kdv_tup [v])).push (excO C hp.objs.size), g, dr, tk, os⟩) T np KF FB (X.keeps k) (hg.keeps k) (hb.keeps k) hmb (hlim.keeps k) hget hnx ?_ fun h' tk' dx t1 ⟨k', hx, dn, dne, hns⟩ => ?_
  · show A.depth + 1 < recursionLimit
    exact hroom
  · have old : ∀ b o, hp.get? b = some o → h'.get? b = some o := fun b o e => k' b o (Nat.ne_of_lt (Nat.lt_succ_of_lt (Heap.lt_size e))) (k b o e)
    have z : hp.objs.size + 1 + 1 ≤ dx := by
      first
        | (simpa only [Heap.size_push] using dn)
        | exact dn
        | (have q := dn; rw [Heap.size_push, Heap.size_push] at q; exact q)
    exact ⟨rfl, hq h' tk' (hp.objs.size + 1) dx ⟨old, Nat.le_succ _, ⟨_, _, hx, rfl, rfl, rfl, rfl⟩, Nat.le_trans (Nat.le_trans (Nat.le_succ _) (Nat.le_succ _)) z, dne, hns⟩⟩
end
end GX
namespace G
open PySem.Spec L2
theorem relO_one {v : V} {v' : Value} {p : Str} (r : RelV v v') (f : Str) : RelO (List.lookup f [(p, v)]) (if f = p then some v' else none) := by
  by_cases hw : f = p
  · subst hw
    rw [if_pos rfl]
    have q : List.lookup f [(f, v)] = some v := by simp [List.lookup]
    rw [q]
    exact r
  · rw [if_neg hw]
    have qw : (f == p) = false := by simpa using hw
    have q2 : List.lookup f [(p, v)] = none := by simp [List.lookup, qw]
    rw [q2]
    trivial
section
variable {X : Cx} {C fI : Addr} {p : Str} {B newId initId : String} {bmB : List Value}
def tMkS (C : Addr) (p : Str) (ta : TA) : L2.St → Hp → XK → Prop := fun σ H Q => ta σ H fun vs H1 => ∃ v, vs = [v] ∧ ∀ d, H1 d = none → Q (.ref C) (some d) (upd H1 d (.xd [(p, v)]))
theorem pmk_sup {x : Str} {a : Expr} {ta : TA} {p1 pos : Pos} {k : Nat} (T : GX.SupTxt X.prog X.K X.mg x C fI p B newId initId bmB) (np : GX.Nm p) (KF : KxsFacts B initId) (FB : ExcBaseFacts B newId initId bmB) (hr : Room k X.A) (ha : PA X [a] ta) (hg : Gl X x := by rfl)
    (hdb : (x == ("__debug__" : Str)) = false := by decide) (he : starEach (a :: []) X.env = (false, eval a X.env) :: starEach [] X.env := by rfl) (hpl : (backTo pos (starEach [] X.env)).any (·.1) = false := by rfl) :
    PMk X (.Call (.Name x p1) [a] [] pos) (tMkS C p ta) := by
  intro pins s σ H Q I h
  refine wpAny_Call_Name_kw (ld_glob I hg T.gC ?_ hdb)
  refine PySem.W.callWith_K (h₀ := X.base) I.ok.mod.kin T.kC (thn (ha.run pos pins s σ H _ I h) fun us s1 hh => ?_) he hpl
  obtain ⟨vs, H1, I1, r1, v, ev, q1⟩ := hh
  subst ev
  refine ⟨I1.kIn, ?_⟩
  cases r1 with
  | cons rv rn =>
    rename_i v' us'
    cases rn
    show wpAny _ _ (call (.ref C) [v']) _ _ _
    have hlim := I1.nolimit
    have nsg : s1.heap.Ns mainGlobals X.mg := I1.ok.mod.glob.keeps I1.bk
    obtain ⟨mb, nb, hmb⟩ := I1.ok.mod.blt
    have nsb : s1.heap.Ns builtinsNs mb := nb.keeps I1.bk
    have hmb' := hmb "super" (by decide)
    have hkin := I1.kIn
    obtain ⟨hp, g, dr, tk, os⟩ := s1
    refine wpAny_call (GX.sup_made T np KF FB hkin nsg nsb hmb' hlim (by have := hr.dp; omega) fun h' tk' e d M => ?_)
    show MkP X pins σ Q (.ref e) ⟨h', g, dr, tk', os⟩
    obtain ⟨oe, fv, hoe, hc, hd, hdat, h1⟩ := M.obj
    have hns := M.ns
    obtain ⟨G', g1, g2⟩ := restrict h' fun b => decide (b ≠ e)
    have gk : ∀ b, b ≠ e → G'.get? b = h'.get? b := fun b hb => g1 b (decide_eq_true hb)
    have ge : G'.get? e = none := g2 e (by simp)
    have old : ∀ b o, hp.get? b = some o → G'.get? b = some o := fun b o q => (gk b (Nat.ne_of_lt (Nat.lt_of_lt_of_le (Heap.lt_size q) M.new))).trans (M.keep b o q)
    have ob : ObjOk X.prog X.w (upd H1 d (.xd [(p, v)])) G' d (.xd [(p, v)]) :=
      ⟨_, hns.at (fun o q => (gk d M.dne).trans q), fun f => relO_one rv f⟩
    have J : Inv X pins σ (upd H1 d (.xd [(p, v)])) ⟨G', g, dr, tk', os⟩ := I1.laid (t' := tk') old M.dbig ob
    refine ⟨e, oe, fv, ⟨G', g, dr, tk', os⟩, _, .ref C, some d, rfl, J, fun b o q => ?_, ge, hoe, ⟨hc, hd⟩, hdat, h1, ?_, rfl, I1.bare, raises_own T.exC T.tyC, q1 d (I1.hok.fresh M.dbig)⟩
    · by_cases hb : b = e
      · have q' : G'.get? b = some o := q
        rw [hb, ge] at q'; cases q'
      · exact (gk b hb).symm.trans q
    · rw [upd_ne (Ne.symm M.dne)]
      exact I1.hok.fresh M.new
end
end G
end

section
set_option maxRecDepth 100000
set_option maxHeartbeats 2000000
open PySem PySem.Spec PyProof.Rows L2
namespace G
/-! raise, try -/
def rX (C : Cn) (E : WX) (f : Env' → Out Xn) : L2.St → Hp → XK → Prop := fun σ H Q => ∃ ρ S F, RepE C H S σ ρ F ∧ Wf H S F ∧ match f ρ with
  | .ok x ρ' => ∀ c d H' S' F', RepE C H' S' σ ρ' F' → Wf H' S' F' → Fr H S F H' S' F' → RepXn C H' S' x c d → Q c d H'
  | .exc x ρ' => ∀ c d H' S' F', RepE C H' S' σ ρ' F' → Wf H' S' F' → Fr H S F H' S' F' → RepXn C H' S' x c d → E c d σ H'
  | .bad => False
abbrev DX (C : Cn) (E : WX) (X : Cx) (e : Expr) (f : Env' → Out Xn) : Prop := PMk X e (rX C E f)
def eOwn (n : Nat) : Env' → Out Xn := fun ρ => .ok ⟨n, []⟩ ρ
def eSup (n : Nat) (f : Fe) : Env' → Out Xn := fun ρ => (f ρ).bind fun o ρ1 => .ok ⟨n, [o.toD]⟩ ρ1
def sRaise (f : Env' → Out Xn) : Fs := fun ρ => match f ρ with
  | .ok x ρ' => .exc x ρ'
  | .exc x ρ' => .exc x ρ'
  | .bad => .bad
def noXs : SO → SO
  | .exc _ _ => .bad
  | o => o
/-- one clause -/
def sTry1 (b : Fs) (m : Nat → Bool) (g : Xn → Fs) : Fs := fun ρ => match b ρ with
  | .exc x ρ' => if m x.cls = true then noXs (g x ρ') else .exc x ρ'
  | o => o
section
variable {C : Cn} {P : Fx} {E : WX} {X : Cx} {σ : L2.St} {H H1 H' : Hp} {S S1 S' F F1 A B : Set'} {ρ : Env'} {e : Expr} {pos : Pos} {f : Fe}
theorem OkX.tr (ok : OkX C X) (pn : List (Addr × Obj)) (xe : Value → Shared → Prop) : OkX C (X.tr pn xe) := ⟨ok.K, ok.calm, ok.un, ok.nd⟩
theorem RepXn.mono {x : Xn} {c : Value} {d : Option Addr} (k : Kp H S H' S') (r : RepXn C H S x c d) : RepXn C H' S' x c d := by
  obtain ⟨r1, r2⟩ := r
  refine ⟨r1, r2.imp id ?_⟩
  rintro ⟨a, vs, e, s, h, rd⟩
  exact ⟨a, vs, e, k.sub a s, k.sh a _ s h, rd.mono k⟩
theorem pmk_imp {t t' : L2.St → Hp → XK → Prop} (h : PMk X e t) (hi : ∀ σ H Q, t' σ H Q → t σ H Q) : PMk X e t' := fun pins s σ H Q I q => h pins s σ H Q I (hi σ H Q q)
/-- X('m'), a class without a maker of its own -/
theorem dx_own {n : Nat} {Cl : Addr} {bmB : List Value} {Bt newId initId : String} {x m : Str} {j : Nat} {p p2 : Pos} (hn : C.ecl n = .ref Cl) (Fb : ExcBaseFacts Bt newId initId bmB) (q : PySem.W.excIn X.K Cl bmB newId = true) (gC : X.mg x = some (.ref Cl)) (kC : PySem.W.keepIn X.K (.ref Cl) = true) (r : Raises X (.ref Cl)) (hg : Gl X x := by rfl)
    (hdb : (x == ("__debug__" : Str)) = false := by decide) : DX C E X (.Call (.Name x p) [.Constant (.str m) j p2] [] pos) (eOwn n) :=
  pmk_imp (pmk_own Fb q gC kC r hg hdb) fun σ H Q ⟨ρ, S, F, he, w, q⟩ => q (.ref Cl) none H S F he w .refl ⟨hn.symm, .inl rfl⟩
theorem dx_sup {n k : Nat} {Cl fI : Addr} {bmB : List Value} {Bt newId initId : String} {x p : Str} {a : Expr} {p1 : Pos} (hn : C.ecl n = .ref Cl) (hf : C.fld n = [p]) (T : GX.SupTxt X.prog X.K X.mg x Cl fI p Bt newId initId bmB) (np : GX.Nm p) (KF : PySem.W.KxsFacts Bt initId) (FB : ExcBaseFacts Bt newId initId bmB) (hr : Room k X.A)
    (ha : DE C E X a f) (hg : Gl X x := by rfl) (hdb : (x == ("__debug__" : Str)) = false := by decide) (he : starEach (a :: []) X.env = (false, eval a X.env) :: starEach [] X.env := by rfl) (hpl : (backTo pos (starEach [] X.env)).any (·.1) = false := by rfl) :
    DX C E X (.Call (.Name x p1) [a] [] pos) (eSup n f) := by
  refine pmk_imp (pmk_sup T np KF FB hr (pa_cons ha pa_nil he) hg hdb he hpl) fun σ H Q ⟨ρ, S, F, he, w, q⟩ => ⟨ρ, S, F, he, w, ?_⟩
  unfold eSup at q
  cases ef : f ρ with
  | bad => rw [ef] at q; exact q
  | exc x ρ' => rw [ef] at q; exact q
  | ok o ρ1 =>
    rw [ef] at q
    simp only [bind_ok] at q
    intro v H1 S1 F1 A he1 r1 w1 d1 fr1
    refine ⟨v, rfl, fun d hd => ?_⟩
    have w2 := w1.share d1
    have he2 : RepE C H1 (Un' S1 A) σ ρ1 F1 := he1.mono kp_sh fun _ _ => rfl
    have rx := r1.share (S' := Un' S1 A) (fun _ z => .inl z) fun _ z => .inr z
    have al := Alc.shr (o := .xd [(p, v)]) w2.so hd
    obtain ⟨z1, z2, _, z4⟩ := alc_step he2 w2 fr1.share al
    refine q (.ref Cl) (some d) _ _ F1 z1 z2.drop z4.drop ⟨hn.symm, .inr ⟨d, [v], rfl, .inr rfl, ?_, v, [], rfl, rx.mono al.kp, rfl⟩⟩
    rw [upd_same]
    show _ = some (HO.xd ((C.fld n).zip [v]))
    rw [hf]; rfl
theorem ds_raise {f : Env' → Out Xn} (ok : OkX C X) (tk : Takes X E) (he : DX C E X e f) : DS C P E X (.Raise (some e) none pos) (sRaise f) := by
  refine ps_imp (ps_raise ok.calm tk he) fun D σ H ⟨ρ, S, F, he, w, p, q⟩ => ⟨ρ, S, F, he, w, ?_⟩
  unfold sRaise at q
  cases ef : f ρ with
  | bad => rw [ef] at q; exact q
  | exc x ρ' => rw [ef] at q; exact fun c d H' S' F' a b fr r => q c d σ H' S' F' a b p fr r
  | ok x ρ' => rw [ef] at q; exact fun c d H' S' F' a b fr r => q c d σ H' S' F' a b p fr r
theorem PSO.noXs {E' : WX} {D : Ends} {o : SO} (q : PSO C P E D H S F (noXs o)) : PSO C P E' D H S F o := by
  cases o <;> first | exact q | exact q.elim
/-- try: body / except Name: suite -/
theorem ds_try1 {x : Str} {c : Value} {body suite : List Stmt} {b₀ : Stmt} {np pos' : Pos} {b : Fs} {m : Nat → Bool} {g : Xn → Fs} (ok : OkX C X) (tk : Takes X E) (hc : Names X x c) (hm : ∀ n, PySem.W.exmOne X.K (C.ecl n) c = some (m n))
    (hb : ∀ (W : WX) (pn : List (Addr × Obj)) (xe : Value → Shared → Prop), Takes (X.tr pn xe) W → PassesOwn (model X.prog X.w) X.A X.env xe → DSs C P W (X.tr pn xe) body b)
    (hsu : ∀ (a : Addr) (oe : Obj) (cls : Value) (d : Option Addr) (pn : List (Addr × Obj)) (x : Xn), Zc cls d oe → (∃ vs, oe.data = .fields vs) → DSs C P Ef (X.suite a ((a, oe) :: pn)) (b₀ :: suite) (g x))
    (hs : X.stack = X.env :: X.outer := by rfl) (hf : X.env.frame = some X.env.locals := by rfl) :
    DS C P E X (.Try body [.ExceptHandler (some (.Name x np)) none (b₀ :: suite) pos'] [] [] pos) (sTry1 b m g) := by
  refine ps_imp (ps_try_only (tb := fun W => rS C P W b) (ts := fun a cls d => fun D σ H => ∃ (x : Xn), rS C P Ef (g x) D σ H) (Wout := E) hs hf hc tk hb (fun a oe cls d pn z1 z2 => ?_)) fun D σ H ⟨ρ, S, F, he, w, p, q⟩ => ⟨ρ, S, F, he, w, p, ?_⟩
  · exact ⟨fun pins s σ H D I ⟨x, q⟩ => (hsu a oe cls d pn x z1 z2).run pins s σ H D I q⟩
  · unfold sTry1 at q
    cases eb : b ρ with
    | exc x ρ' =>
      rw [eb] at q
      intro c' d σ' H' S' F' a' b' pa fr r
      refine ⟨m x.cls, by rw [r.1]; exact hm x.cls, fun hmx a na => ⟨x, ρ', S', F', a', b', pa, ?_⟩, fun hmx => ?_⟩
      · simp only [hmx, if_true] at q
        exact (q.noXs (E' := Ef)).trans fr
      · simp only [hmx, Bool.false_eq_true, if_false] at q
        exact q c' d σ' H' S' F' a' b' pa fr r
    | nx ρ' => rw [eb] at q; exact q
    | ret o ρ' => rw [eb] at q; exact q
    | brk ρ' => rw [eb] at q; exact q
    | cnt ρ' => rw [eb] at q; exact q
    | bad => rw [eb] at q; exact q
end
end G
end

section
set_option maxRecDepth 100000
set_option maxHeartbeats 2000000
open PySem PySem.Spec PyProof.Rows L2
namespace G
/-! methods of texts -/
def rMs (C : Cn) (g : Str → List D → Option O) : V → List V → Hp → VK → Prop := fun x xs H Q => ∃ a, x = .str a ∧ rVn C (g a) xs H Q
def eMs (g : Str → List D → Option O) (f : Fe) (fa : Fa) : Fe := fun ρ => (f ρ).bind fun o ρ1 => match o.toD with
  | .str a => eN (g a) fa ρ1
  | _ => .bad
def strsD : List D → Option (List Str)
  | [] => some []
  | .str a :: l => (strsD l).map (a :: ·)
  | _ => none
def joinG (a : Str) : List D → Option O
  | [.lst l] => (strsD l).bind fun ys => if (ys.map (·.length)).sum + ys.length * a.length ≤ 16777216 then some (sO (Txt.join a ys)) else none
  | [.tup l] => (strsD l).bind fun ys => if (ys.map (·.length)).sum + ys.length * a.length ≤ 16777216 then some (sO (Txt.join a ys)) else none
  | _ => none
def splitG (a : Str) : List D → Option O
  | [.str b] => if (b.length == 0) = false ∧ a.length ≤ big then some (.lst ((Txt.split a b).map sO)) else none
  | _ => none
def upperG (a : Str) : List D → Option O
  | [] => if a.length ≤ big then some (sO (Txt.upper a)) else none
  | _ => none
def lowerG (a : Str) : List D → Option O
  | [] => if a.length ≤ big then some (sO (Txt.lower a)) else none
  | _ => none
def startsG (a : Str) : List D → Option O
  | [.str b] => some (bO (Txt.startswith a b))
  | _ => none
section
variable {C : Cn} {P : Fx} {E : WX} {X : Cx} {σ : L2.St} {H H1 H' : Hp} {S S1 S' F F1 A B : Set'} {ρ : Env'} {pos : Pos} {f : Fe} {e : Expr}
theorem strs_rep : ∀ {l : List D} {ys : List Str} {vs : List V}, strsD l = some ys → RepDs C H S vs l → vs = ys.map V.str
  | [], ys, vs, e, r => by
    simp only [strsD, Option.some.injEq] at e
    subst e
    exact r
  | d :: l, ys, vs, e, r => by
    obtain ⟨v, t, rfl, r1, r2⟩ := r
    cases d with
    | str a =>
      simp only [strsD] at e
      obtain ⟨zs, ez, rfl⟩ := Option.map_eq_some_iff.mp e
      rw [List.map_cons, ← strs_rep ez r2, show v = V.str a from r1]
    | _ => cases e
theorem ms_of {g : Str → List D → Option O} {fa : Fa} {Q : VK} (q : rE C E (eMs g f fa) σ H Q) : rE C E f σ H (fun x H1 => tyV X.K "str" x H1 ∧ rA C E fa σ H1 fun xs H2 => rMs C g x xs H2 Q) := by
  obtain ⟨ρ, S, F, he, w, q⟩ := q
  refine ⟨ρ, S, F, he, w, ?_⟩
  unfold eMs at q
  cases ef : f ρ with
  | bad => rw [ef] at q; exact q
  | exc x ρ' => rw [ef] at q; exact q
  | ok o ρ1 =>
    rw [ef] at q
    simp only [bind_ok] at q
    intro v H1 S1 F1 A he1 r1 w1 d1 fr1
    cases eo : o.toD with
    | str a =>
      simp only [eo] at q
      have rv := r1.share (S' := Un' S1 A) (fun _ z => .inl z) fun _ z => .inr z
      rw [eo] at rv
      have ev : v = .str a := rv
      subst ev
      refine ⟨rfl, ?_⟩
      have q2 : rE C E (eN (g a) fa) σ H1 Q := by
        refine ⟨ρ1, S1, F1, he1, w1.drop, ?_⟩
        cases eq : eN (g a) fa ρ1 with
        | bad => rw [eq] at q; exact q
        | exc x ρ' => rw [eq] at q; exact fun c d H' S' F' a' b fr r => q c d H' S' F' a' b (fr1.drop.trans fr) r
        | ok o' ρ' => rw [eq] at q; exact fun v H' S' F' A' a' b c d fr => q v H' S' F' A' a' b c d (fr1.drop.trans fr)
      obtain ⟨ρ', S', F', he', w', q3⟩ := rn_of q2
      refine ⟨ρ', S', F', he', w', ?_⟩
      cases efa : fa ρ' with
      | bad => rw [efa] at q3; exact q3
      | exc x ρ'' => rw [efa] at q3; exact q3
      | ok os ρ'' => rw [efa] at q3; exact fun vs H' S' F' A' a' b c d fr => ⟨a, rfl, q3 vs H' S' F' A' a' b c d fr⟩
    | _ => simp only [eo] at q
theorem de_ms {id : String} {m : Str} {o : Expr} {es : List Expr} {apos : Pos} {g : Str → List D → Option O} {fa : Fa} (slot : Slot "str" m id) (hty : typeOf (.builtin id) = pure (.type "method_descriptor")) (hm : MtR X id (rMs C g)) (ho : DE C E X o f) (ha : DA C E X (e :: es) fa)
    (hbase : attributeBase o m X.env (eval o X.env) = eval o X.env := by rfl)
    (hfew : ((backTo pos (starEach (e :: es) X.env)).all (fun x => !x.1) && (backToKw pos (keywordEach [] X.env)).all (fun x => x.1.isSome)
      && decide ((e :: es).length + ([] : List Keyword).length + (if ([] : List Keyword).isEmpty then 0 else 1) < 30)) = true := by rfl)
    (hline : (apos.endLine == pos.line) = true := by rfl) (hs : starEach (e :: es) X.env = (false, eval e X.env) :: starEach es X.env := by rfl) (hplain : (backTo pos (starEach es X.env)).any (·.1) = false := by rfl) :
    DE C E X (.Call (.Attribute o m apos) (e :: es) [] pos) (eMs g f fa) :=
  pe_imp (pe_bm PySem.F.plainAttrs_str slot hty hm ho ha hbase hfew hline hs hplain) fun _ _ _ q => ms_of q
theorem de_ms0 {id : String} {m : Str} {o : Expr} {apos : Pos} {g : Str → List D → Option O} (slot : Slot "str" m id) (hty : typeOf (.builtin id) = pure (.type "method_descriptor")) (hm : MtR X id (rMs C g)) (ho : DE C E X o f)
    (hbase : attributeBase o m X.env (eval o X.env) = eval o X.env := by rfl) (hline : (apos.endLine == pos.line) = true := by rfl) :
    DE C E X (.Call (.Attribute o m apos) [] [] pos) (eMs g f eNil) :=
  pe_imp (pe_bm0 PySem.F.plainAttrs_str slot hty hm ho hbase hline) fun σ H Q q => by
    obtain ⟨ρ, S, F, he, w, q⟩ := ms_of (X := X) q
    refine ⟨ρ, S, F, he, w, ?_⟩
    cases ef : f ρ with
    | bad => rw [ef] at q; exact q
    | exc x ρ' => rw [ef] at q; exact q
    | ok o ρ1 =>
      rw [ef] at q
      intro v H' S' F' A a b c d fr
      obtain ⟨z1, ρ2, S2, F2, he2, w2, z2⟩ := q v H' S' F' A a b c d fr
      exact ⟨z1, z2 [] H' S2 F2 No he2 ⟨rfl, emp_no⟩ (wf_no w2) dj_no (fr_no .refl)⟩
theorem og_join (ok : OkX C X) : MtR X "str.join" (rMs C joinG) := by
  intro pins s σ H x xs v us Q I rx rs ⟨a, ex, S, ds, so, rd, o, eo, q⟩
  unfold joinG at eo
  split at eo
  · obtain ⟨ys, ey, eo⟩ := Option.bind_eq_some_iff.mp eo
    split at eo
    · next h =>
      obtain ⟨x1, rfl, p, vs, rfl, h1, hr⟩ := reps1 rd
      have := strs_rep ey hr
      subst this
      exact mt_join pins s σ H x _ v us Q I rx rs ⟨a, p, ys, ex, rfl, .inl (lst_sq ok.K h1), h, q_sc so q (Option.some.inj eo).symm rfl⟩
    · cases eo
  · obtain ⟨ys, ey, eo⟩ := Option.bind_eq_some_iff.mp eo
    split at eo
    · next h =>
      obtain ⟨x1, rfl, p, vs, rfl, h1, hr⟩ := reps1 rd
      have := strs_rep ey hr
      subst this
      exact mt_join pins s σ H x _ v us Q I rx rs ⟨a, p, ys, ex, rfl, .inr (tup_sq ok.K h1), h, q_sc so q (Option.some.inj eo).symm rfl⟩
    · cases eo
  · cases eo
theorem reps_strs : ∀ {ys : List Str}, RepOs C H S (ys.map V.str) (ys.map sO) No
  | [] => ⟨rfl, emp_no⟩
  | y :: ys => ⟨_, _, No, No, rfl, ⟨emp_no, rfl⟩, reps_strs, ⟨fun a => ⟨fun z => z.elim, fun z => z.elim id id⟩, fun a z => z.elim⟩⟩
theorem line2 {n : Nat} (h : n ≤ big) : n + 2 ≤ sizeLine := by
  have : big = 1000000 := rfl
  rw [sizeLine_eq]; omega
theorem og_split (ok : OkX C X) : MtR X "str.split" (rMs C splitG) := by
  intro pins s σ H x xs v us Q I rx rs ⟨a, ex, S, ds, so, rd, o, eo, q⟩
  unfold splitG at eo
  split at eo
  · split at eo
    · next b h =>
      obtain ⟨x1, rfl, r1⟩ := reps1 rd
      have e1 : x1 = .str _ := r1
      subst e1
      have eo := Option.some.inj eo
      subst eo
      refine mt_split pins s σ H x _ v us Q I rx rs ⟨a, _, ex, rfl, h.1, line2 h.2, fun p hp => ?_⟩
      exact q (.ref p) _ S _ (Alc.own so hp trivial) ⟨p, _, No, rfl, upd_same, reps_strs, fun b => ⟨.inl, fun z => z.elim id False.elim⟩, fun b _ z => z⟩
    · cases eo
  · cases eo
theorem big_up {n : Nat} (h : n ≤ big) : n ≤ 5592405 := by
  have : big = 1000000 := rfl
  omega
theorem og_upper (ok : OkX C X) : MtR X "str.upper" (rMs C upperG) := by
  intro pins s σ H x xs v us Q I rx rs ⟨a, ex, S, ds, so, rd, o, eo, q⟩
  unfold upperG at eo
  split at eo
  · split at eo
    · next h =>
      have e1 : xs = [] := rd
      subst e1
      exact mt_upper pins s σ H x _ v us Q I rx rs ⟨a, ex, rfl, big_up h, q_sc so q (Option.some.inj eo).symm rfl⟩
    · cases eo
  · cases eo
theorem og_lower (ok : OkX C X) : MtR X "str.lower" (rMs C lowerG) := by
  intro pins s σ H x xs v us Q I rx rs ⟨a, ex, S, ds, so, rd, o, eo, q⟩
  unfold lowerG at eo
  split at eo
  · split at eo
    · next h =>
      have e1 : xs = [] := rd
      subst e1
      exact mt_lower pins s σ H x _ v us Q I rx rs ⟨a, ex, rfl, big_up h, q_sc so q (Option.some.inj eo).symm rfl⟩
    · cases eo
  · cases eo
theorem og_starts (ok : OkX C X) : MtR X "str.startswith" (rMs C startsG) := by
  intro pins s σ H x xs v us Q I rx rs ⟨a, ex, S, ds, so, rd, o, eo, q⟩
  unfold startsG at eo
  split at eo
  · obtain ⟨x1, rfl, r1⟩ := reps1 rd
    have e1 : x1 = .str _ := r1
    subst e1
    exact mt_startswith pins s σ H x _ v us Q I rx rs ⟨a, _, ex, rfl, q_sc so q (Option.some.inj eo).symm rfl⟩
  · cases eo
end
/-! a, b = x, y -/
def sPar (i j : Nat) (fa : Fa) : Fs := fun ρ => (fa ρ).then' fun os ρ1 => match os with
  | [o1, o2] => if i < ρ1.length ∧ j < ρ1.length then .nx ((ρ1.set i (some o1)).set j (some o2)) else .bad
  | _ => .bad
/-! while -/
def whF (c : Env' → Out Bool) (b : Fs) : Nat → Env' → SO
  | 0, _ => .bad
  | n + 1, ρ => match c ρ with
    | .ok true ρ1 => match b ρ1 with
      | .nx ρ2 => whF c b n ρ2
      | .cnt ρ2 => whF c b n ρ2
      | .brk ρ2 => .nx ρ2
      | o => o
    | .ok false ρ1 => .nx ρ1
    | .exc x ρ1 => .exc x ρ1
    | .bad => .bad
def fuel : Nat := 1000000
def sWhile (c : Env' → Out Bool) (b : Fs) : Fs := whF c b fuel
/-! x.pop(), x.pop(k) -/
def ePop (i : Nat) : Fe := fun ρ => match lstAt i ρ with
  | some os => match os[os.length - 1]? with
    | some o => .ok o (ρ.set i (some (.lst os.dropLast)))
    | none => .bad
  | none => .bad
def ePopA (i : Nat) (f : Fe) : Fe := fun ρ => match lstAt i ρ with
  | some _ => (f ρ).bind fun k ρ1 => match lstAt i ρ1 with
    | some os => match intD k.toD with
      | some n => match seqIndex? n os.length with
        | some j => if sm n = true then match os[j]? with
          | some o => .ok o (ρ1.set i (some (.lst (os.eraseIdx j))))
          | none => .bad
          else .bad
        | none => .bad
      | none => .bad
    | none => .bad
  | none => .bad
section
variable {C : Cn} {P : Fx} {E : WX} {X : Cx} {σ : L2.St} {H H1 H' : Hp} {S S1 S' F F1 A B : Set'} {ρ : Env'} {pos : Pos} {f : Fe} {e : Expr}
theorem rA_then {fa : Fa} {k : List O → Env' → SO} {D : Ends} {Q : List V → Hp → Prop} (he : RepE C H S σ ρ F) (w : Wf H S F) (p : P.at σ) (q : PSO C P E D H S F ((fa ρ).then' k))
    (h : ∀ os ρ1, fa ρ = .ok os ρ1 → ∀ vs H' S' F' A, RepE C H' S' σ ρ1 F' → RepOs C H' S' vs os A → Wf H' S' (Un' A F') → Dj A F' → Fr H S F H' S' (Un' A F') → PSO C P E D H S F (k os ρ1) → Q vs H') : rA C E fa σ H Q := by
  refine ⟨ρ, S, F, he, w, ?_⟩
  cases ef : fa ρ with
  | bad => rw [ef] at q; exact q
  | exc x ρ1 => rw [ef] at q; exact fun c d H' S' F' a b fr r => q c d σ H' S' F' a b p fr r
  | ok os ρ1 => rw [ef] at q; exact fun vs H' S' F' A a b c d fr => h os ρ1 ef vs H' S' F' A a b c d fr q
theorem ds_par {i j : Nat} {x y : Str} {a b : Expr} {fa : Fa} {px py pt : Pos} {kt k2 pt2} (ok : OkX C X) (hi : X.N[i]? = some x) (hj : X.N[j]? = some y) (hx : X.env.scope.names.lookup x = some .local) (hy : X.env.scope.names.lookup y = some .local)
    (hij : i ≠ j) (hpi : i ∉ P.pi) (hpj : j ∉ P.pi) (ha : DA C E X [a, b] fa)
    (hw : swappedStores [.Tuple [.Name x px, .Name y py] kt pt] (.Tuple [a, b] k2 pt2) X.env = pure (some [x, y]))
    (hs : swapsWithSole [.Tuple [.Name x px, .Name y py] kt pt] (.Tuple [a, b] k2 pt2) pos.line X.env = pure false := by rfl) :
    DS C P E X (.Assign [.Tuple [.Name x px, .Name y py] kt pt] (.Tuple [a, b] k2 pt2) pos) (sPar i j fa) := by
  refine ps_imp (ps_par ok.calm ok.nd hi hj hij hx hy ha hw hs) fun D σ H ⟨ρ, S, F, he, w, p, q⟩ => rA_then he w p q fun os ρ1 ef vs H' S' F' A a b c d fr q => ?_
  cases os with
  | nil => exact q.elim
  | cons o1 os =>
    cases os with
    | nil => exact q.elim
    | cons o2 os =>
      cases os with
      | cons _ _ => exact q.elim
      | nil =>
        obtain ⟨v, t, A1, A2, rfl, r1, ⟨w', t', B1, B2, rfl, r2, ⟨rfl, e3⟩, s2⟩, s1⟩ := b
        refine ⟨v, w', rfl, ?_⟩
        by_cases hl : i < ρ1.length ∧ j < ρ1.length
        · simp only [hl, and_self, if_true] at q
          have d1 : Dj A1 F' := fun a x y => d a (s1.l x) y
          have d2 : Dj B1 F' := fun a x y => d a (s1.r (s2.l x)) y
          have d12 : Dj A1 B1 := fun a x y => s1.2 a x (s2.l y)
          have w1 : Wf H' S' (Un' A1 F') := ⟨fun a z => c.mu a (z.imp (fun z => s1.l z) id), fun a z => c.ns a (z.imp (fun z => s1.l z) id), c.so⟩
          obtain ⟨F2, g1, g2, g3⟩ := slot_set (o := o1) a r1 w1 d1 hl.1
          have w2 : Wf H' S' (Un' B1 F2) := ⟨fun a z => z.elim (fun z => c.mu a (.inl (s1.r (s2.l z)))) fun z => g2.mu a z, fun a z => z.elim (fun z => c.ns a (.inl (s1.r (s2.l z)))) fun z => g2.ns a z, c.so⟩
          obtain ⟨F3, k1, k2, k3⟩ := slot_set (o := o2) g1 r2 w2 (fun a x y => (g3 a y).elim (fun y => d12 a y x) fun y => d2 a x y) (show j < (ρ1.set i (some o1)).length by rw [List.length_set]; exact hl.2)
          refine q _ H' S' F3 k1 k2 (Fx.set (Fx.set p hpi) hpj) (fr.less fun a z => ?_)
          rcases k3 a z with z | z
          · exact .inl (s1.r (s2.l z))
          · exact (g3 a z).elim (fun z => .inl (s1.l z)) .inr
        · simp only [if_neg hl] at q
          exact q.elim
theorem ds_while {c : Expr} {body : List Stmt} {tc : Env' → Out Bool} {b : Fs} (hp : PassesOwn (model X.prog X.w) X.A X.env X.xe) (hc : DT C E X c tc) (hb : DSs C P E X body b) : DS C P E X (.While c body [] pos) (sWhile tc b) := by
  refine ps_imp (ps_while hp hc hb) fun D σ H ⟨ρ, S, F, he, w, p, q⟩ => ?_
  unfold sWhile at q
  refine ⟨fun m σ2 H2 => ∃ ρ2 S2 F2, RepE C H2 S2 σ2 ρ2 F2 ∧ Wf H2 S2 F2 ∧ P.at σ2 ∧ Fr H S F H2 S2 F2 ∧ PSO C P E D H S F (whF tc b m ρ2), ⟨fuel, ρ, S, F, he, w, p, .refl, q⟩, ?_⟩
  rintro m σ2 H2 ⟨ρ2, S2, F2, he2, w2, p2, fr2, q2⟩
  refine ⟨ρ2, S2, F2, he2, w2, ?_⟩
  cases m with
  | zero => exact q2.elim
  | succ m =>
    unfold whF at q2
    cases ec : tc ρ2 with
    | bad => rw [ec] at q2; exact q2.elim
    | exc x ρ3 => rw [ec] at q2; exact fun c d H' S' F' a b fr r => q2 c d σ2 H' S' F' a b p2 (fr2.trans fr) r
    | ok bb ρ3 =>
      rw [ec] at q2
      intro H3 S3 F3 he3 w3 fr3
      have fr4 := fr2.trans fr3
      cases bb with
      | false => exact q2 σ2 H3 S3 F3 he3 w3 p2 fr4
      | true =>
        simp only [if_true] at q2 ⊢
        refine ⟨fun σ' H' => ∃ ρ2 S2 F2, RepE C H' S2 σ' ρ2 F2 ∧ Wf H' S2 F2 ∧ P.at σ' ∧ Fr H S F H' S2 F2 ∧ PSO C P E D H S F (whF tc b m ρ2), fun σ' H' z => ⟨m, Nat.lt_succ_self m, z⟩, ρ3, S3, F3, he3, w3, p2, ?_⟩
        cases eb : b ρ3 with
        | nx ρ4 => simp only [eb] at q2; exact fun σ' H' S' F' a b' c d => ⟨ρ4, S', F', a, b', c, fr4.trans d, q2⟩
        | cnt ρ4 => simp only [eb] at q2; exact fun σ' H' S' F' a b' c d => ⟨ρ4, S', F', a, b', c, fr4.trans d, q2⟩
        | brk ρ4 => simp only [eb] at q2; exact fun σ' H' S' F' a b' c d => q2 σ' H' S' F' a b' c (fr4.trans d)
        | ret o ρ4 => simp only [eb] at q2; exact fun v σ' H' S' F' A a b' c d e f => q2 v σ' H' S' F' A a b' c d e (fr4.trans f)
        | exc x ρ4 => simp only [eb] at q2; exact fun c d σ' H' S' F' a b' e f g => q2 c d σ' H' S' F' a b' e (fr4.trans f) g
        | bad => simp only [eb] at q2; exact q2.elim
theorem RepOs.takeAt : ∀ {vs : List V} {os : List O} {j : Nat} {o : O} {A : Set'}, RepOs C H S vs os A → os[j]? = some o → ∃ v A1 A2, vs[j]? = some v ∧ RepO C H S v o A1 ∧ RepOs C H S (vs.eraseIdx j) (os.eraseIdx j) A2 ∧ Sum' A A1 A2
  | vs, [], j, o, A, r, e => by simp at e
  | vs, o' :: os, 0, o, A, r, e => by
    obtain ⟨v, t, P, R, rfl, r1, r2, s⟩ := r
    simp at e; subst e
    exact ⟨v, P, R, rfl, r1, r2, s⟩
  | vs, o' :: os, j + 1, o, A, r, e => by
    obtain ⟨v, t, P, R, rfl, r1, r2, s⟩ := r
    obtain ⟨u, A1, A2, e1, h1, h2, s2⟩ := RepOs.takeAt r2 (j := j) (o := o) (by simpa using e)
    refine ⟨u, A1, Un' P A2, by simpa using e1, h1, ⟨v, t.eraseIdx j, P, A2, rfl, r1, h2, ⟨fun a => Iff.rfl, fun a x y => s.2 a x (s2.r y)⟩⟩, fun a => ?_, fun a x y => y.elim (fun y => s.2 a y (s2.l x)) fun y => s2.2 a x y⟩
    rw [s.1 a, s2.1 a]
    constructor
    · rintro (z | z | z)
      · exact .inr (.inl z)
      · exact .inl z
      · exact .inr (.inr z)
    · rintro (z | z | z)
      · exact .inr (.inl z)
      · exact .inl z
      · exact .inr (.inr z)
theorem dropLast_eq {α : Type} (l : List α) : l.dropLast = l.eraseIdx (l.length - 1) := by
  rw [List.dropLast_eq_take, List.eraseIdx_eq_take_drop_succ]
  cases l with
  | nil => rfl
  | cons a l => simp
/-- an item leaves the owned list at slot i -/
theorem pop_end {i j : Nat} {os : List O} {o : O} {Q : VK} {ρ1 : Env'} (he : RepE C H1 S1 σ ρ1 F1) (w : Wf H1 S1 F1) (fr : Fr H S F H1 S1 F1) (el : lstAt i ρ1 = some os) (eo : os[j]? = some o)
    (q : ∀ v H' S' F' A, RepE C H' S' σ (ρ1.set i (some (.lst (os.eraseIdx j)))) F' → RepO C H' S' v o A → Wf H' S' (Un' A F') → Dj A F' → Fr H S F H' S' (Un' A F') → Q v H') :
    ∃ a vs v, σ[i]? = some (some (.ref a)) ∧ H1 a = some (.lst vs) ∧ vs.length = os.length ∧ vs[j]? = some v ∧ Q v (upd H1 a (.lst (vs.eraseIdx j))) := by
  obtain ⟨v0, A, B, ev, r, s, h2, hl⟩ := own_at he (lstAt_eq el)
  obtain ⟨a, vs, G, rfl, h0, r0, sG⟩ := r
  obtain ⟨v, Y, G2, evs, ry, r2, sY⟩ := r0.takeAt eo
  refine ⟨a, vs, v, ev, h0, r0.len, evs, ?_⟩
  have nG : ¬ G a := fun z => sG.2 a rfl z
  have nB : ¬ B a := fun z => s.2 a (sG.l rfl) z
  have memF : ∀ b, Un' (fun b => b = a) (Un' G2 B) b → F1 b := fun b z => by
    rcases z with z | z | z
    · exact s.l (sG.l z)
    · exact s.l (sG.r (sY.r z))
    · exact s.r z
  have dYB : Dj Y B := fun b x y => s.2 b (sG.r (sY.l x)) y
  have dYG : Dj Y G2 := fun b x y => sY.2 b x y
  have nY : ¬ Y a := fun z => nG (sY.l z)
  obtain ⟨k1, k2, k3⟩ := own_write (u := .lst (vs.eraseIdx j)) (o := .lst (os.eraseIdx j)) (G := G2) h2 hl ev trivial ⟨fun b z => w.mu b (memF b z), fun b z => w.ns b (memF b z), w.so⟩ (fun z => nG (sY.r z)) nB (fun b x y => s.2 b (sG.r (sY.r x)) y) (fr.less memF) fun k kk =>
    ⟨a, vs.eraseIdx j, G2, rfl, upd_same, r2.mono k kk, fun b => Iff.rfl, fun b e z => nG (sY.r (e ▸ z))⟩
  have kp : Kp H1 S1 (upd H1 a (.lst (vs.eraseIdx j))) S1 := kp_upd (w.mu a (s.l (sG.l rfl))) (w.ns a (s.l (sG.l rfl)))
  have kY : ∀ b, Y b → upd H1 a (.lst (vs.eraseIdx j)) b = H1 b := fun b z => upd_ne fun e => nY (e ▸ z)
  have FY : ∀ b, Y b → F1 b := fun b z => s.l (sG.r (sY.l z))
  refine q v _ S1 _ Y k1 (ry.mono kp kY) ⟨fun b z => ?_, fun b z => ?_, k2.so⟩ (fun b x y => ?_) ⟨k3.keep, k3.sub, k3.new, fun b z => ?_⟩
  · rcases z with z | z
    · rw [kY b z]; exact w.mu b (FY b z)
    · exact k2.mu b z
  · rcases z with z | z
    · exact w.ns b (FY b z)
    · exact k2.ns b z
  · rcases y with (y | y) | y
    · exact nY (y ▸ x)
    · exact dYG b x y
    · exact dYB b x y
  · rcases z with z | z
    · exact fr.fnew b (FY b z)
    · exact k3.fnew b z
theorem de_pop {i : Nat} {x : Str} {p1 apos : Pos} (hN : X.N[i]? = some x) (hv : Vis X.env.scope x) (hd : (x == ("__debug__" : Str)) = false := by decide) (hcd : (x == ("__classdict__" : Str)) = false := by decide)
    (hbase : attributeBase (.Name x p1) "pop" X.env (eval (.Name x p1) X.env) = eval (.Name x p1) X.env := by rfl) (hline : (apos.endLine == pos.line) = true := by rfl) :
    DE C E X (.Call (.Attribute (.Name x p1) "pop" apos) [] [] pos) (ePop i) := by
  refine pe_imp (pe_bm0 PySem.F.plainAttrs_list PySem.F.slot_list_pop PySem.F.type_list_pop mt_pop (pe_var hN hv hd hcd) hbase hline) fun σ H Q ⟨ρ, S, F, he, w, q⟩ => ?_
  unfold ePop at q
  cases e1 : lstAt i ρ with
  | none => rw [e1] at q; exact q.elim
  | some os =>
    rw [e1] at q
    cases e2 : os[os.length - 1]? with
    | none => simp only [e2] at q
    | some o =>
      simp only [e2] at q
      rw [dropLast_eq] at q
      obtain ⟨a, vs, v, ev, h0, hl, hv, q2⟩ := pop_end he w .refl e1 e2 q
      exact ⟨.ref a, ev, .inl ⟨rfl, vs, SqL.of h0⟩, a, vs, v, rfl, rfl, h0, by rw [hl]; exact hv, by rw [dropLast_eq, hl]; exact q2⟩
theorem de_popA {i : Nat} {x : Str} {p1 apos : Pos} (hN : X.N[i]? = some x) (hv : Vis X.env.scope x) (he : DE C E X e f) (hd : (x == ("__debug__" : Str)) = false := by decide) (hcd : (x == ("__classdict__" : Str)) = false := by decide)
    (hbase : attributeBase (.Name x p1) "pop" X.env (eval (.Name x p1) X.env) = eval (.Name x p1) X.env := by rfl)
    (hfew : ((backTo pos (starEach [e] X.env)).all (fun x => !x.1) && (backToKw pos (keywordEach [] X.env)).all (fun x => x.1.isSome)
      && decide ([e].length + ([] : List Keyword).length + (if ([] : List Keyword).isEmpty then 0 else 1) < 30)) = true := by rfl)
    (hline : (apos.endLine == pos.line) = true := by rfl) (hs : starEach [e] X.env = (false, eval e X.env) :: starEach [] X.env := by rfl) (hplain : (backTo pos (starEach [] X.env)).any (·.1) = false := by rfl) :
    DE C E X (.Call (.Attribute (.Name x p1) "pop" apos) [e] [] pos) (ePopA i f) := by
  refine pe_imp (pe_bm PySem.F.plainAttrs_list PySem.F.slot_list_pop PySem.F.type_list_pop mt_popAt (pe_var hN hv hd hcd) (pa_cons he pa_nil hs) hbase hfew hline hs hplain) fun σ H Q ⟨ρ, S, F, he, w, q⟩ => ?_
  unfold ePopA at q
  cases e0 : lstAt i ρ with
  | none => rw [e0] at q; exact q.elim
  | some os0 =>
    rw [e0] at q
    obtain ⟨v0, A0, B0, ev, r0, _, _, _⟩ := own_at he (lstAt_eq e0)
    obtain ⟨a, vs0, A1, rfl, h0, _, _⟩ := r0
    refine ⟨.ref a, ev, .inl ⟨rfl, vs0, SqL.of h0⟩, ρ, S, F, he, w, ?_⟩
    cases ef : f ρ with
    | bad => rw [ef] at q; exact q
    | exc x ρ' => rw [ef] at q; exact q
    | ok ko ρ1 =>
      rw [ef] at q
      simp only [bind_ok] at q
      intro kv H1 S1 F1 Z he1 rk w1 d1 fr1
      have rkd := rk.share (S' := Un' S1 Z) (fun _ => .inl) fun _ => .inr
      cases e1 : lstAt i ρ1 with
      | none => rw [e1] at q; exact q.elim
      | some os =>
        rw [e1] at q
        cases en : intD ko.toD with
        | none => simp only [en] at q
        | some n =>
          simp only [en] at q
          cases ej : seqIndex? n os.length with
          | none => simp only [ej] at q
          | some j =>
            simp only [ej] at q
            by_cases hb : sm n = true
            · simp only [hb, if_true] at q
              cases eo : os[j]? with
              | none => simp only [eo] at q
              | some o =>
                simp only [eo] at q
                rw [intD_eq en] at rkd
                obtain ⟨a', vs, v, ev', h1, hl, hv, q2⟩ := pop_end he1 w1.drop fr1.drop e1 eo q
                rw [ev] at ev'
                cases ev'
                have hb' := sm_iff hb
                exact ⟨a, vs, n, j, v, rfl, by rw [show kv = .int n from rkd], h1, by omega, by omega, by rw [hl]; exact ej, hv, q2⟩
            · simp only [hb] at q
              exact q.elim
end
end G
end

section
set_option maxRecDepth 100000
set_option maxHeartbeats 2000000
open PySem PySem.Spec PyProof.Rows L2
namespace G
/-! dicts: storing -/
def putKr {κ : Type} [DecidableEq κ] : List (κ × V) → κ → V → List (κ × V)
  | [], k, v => [(k, v)]
  | (i, x) :: r, k, v => if i = k then (k, v) :: r else (i, x) :: putKr r k v
theorem map_no {κ : Type} [DecidableEq κ] {k : κ} {v : V} : ∀ {r : List (κ × V)}, k ∉ r.map (·.1) → r.map (fun kv => if kv.1 = k then (kv.1, v) else kv) = r
  | [], _ => rfl
  | (i, x) :: r, h => by
    have h1 : ¬ i = k := fun e => h (by simp [e])
    have h2 : k ∉ r.map (·.1) := fun e => h (List.mem_cons_of_mem _ e)
    rw [List.map_cons, map_no h2, if_neg h1]
theorem any_no {κ : Type} [DecidableEq κ] {k : κ} : ∀ {r : List (κ × V)}, k ∉ r.map (·.1) → (r.any fun kv => decide (kv.1 = k)) = false
  | [], _ => rfl
  | (i, x) :: r, h => by
    have h1 : ¬ i = k := fun e => h (by simp [e])
    have h2 : k ∉ r.map (·.1) := fun e => h (List.mem_cons_of_mem _ e)
    rw [List.any_cons, any_no h2]
    simp [h1]
theorem putK_eq {κ : Type} [DecidableEq κ] {k : κ} {v : V} : ∀ {r : List (κ × V)}, (r.map (·.1)).Nodup → putK r k v = putKr r k v
  | [], _ => rfl
  | (i, x) :: r, h => by
    have h' := List.nodup_cons.mp (show ((i : κ) :: r.map (·.1)).Nodup from h)
    have ih := putK_eq (k := k) (v := v) h'.2
    unfold putK at ih ⊢
    show _ = if i = k then (k, v) :: r else (i, x) :: putKr r k v
    by_cases e : i = k
    · subst e
      simp only [List.any_cons, decide_true, Bool.true_or, if_true, List.map_cons]
      rw [map_no h'.1]
    · simp only [List.any_cons, e, decide_false, Bool.false_or, if_false, List.map_cons]
      rw [← ih]
      by_cases ha : (r.any fun kv => decide (kv.1 = k)) = true
      · rw [if_pos ha, if_pos ha]
      · rw [if_neg ha, if_neg ha]; rfl
def putO : List (Kd × O) → Kd → O → List (Kd × O)
  | [], k, o => [(k, o)]
  | (j, p) :: r, k, o => if j = k then (k, o) :: r else (j, p) :: putO r k o
theorem putO_mem {k x : Kd} {o : O} : ∀ {l : List (Kd × O)}, x ∈ (putO l k o).map (·.1) → x = k ∨ x ∈ l.map (·.1)
  | [], h => by
    have : x = k := by simpa [putO] using h
    exact .inl this
  | (j, p) :: l, h => by
    unfold putO at h
    split at h
    · next e =>
      rcases List.mem_cons.mp (show x ∈ k :: l.map (·.1) from h) with h | h
      · exact .inl h
      · exact .inr (List.mem_cons_of_mem _ h)
    · rcases List.mem_cons.mp (show x ∈ j :: (putO l k o).map (·.1) from h) with h | h
      · exact .inr (by rw [h]; exact List.mem_cons_self)
      · exact (putO_mem h).imp id fun z => List.mem_cons_of_mem _ z
theorem putO_nd {k : Kd} {o : O} : ∀ {l : List (Kd × O)}, (l.map (·.1)).Nodup → ((putO l k o).map (·.1)).Nodup
  | [], _ => by simp [putO]
  | (j, p) :: l, h => by
    have h' := List.nodup_cons.mp (show (j :: l.map (·.1)).Nodup from h)
    unfold putO
    split
    · next e =>
      subst e
      exact List.nodup_cons.mpr ⟨h'.1, h'.2⟩
    · next e =>
      refine List.nodup_cons.mpr ⟨fun z => ?_, putO_nd h'.2⟩
      rcases putO_mem z with z | z
      · exact e z
      · exact h'.1 z
theorem putO_len {k : Kd} {o : O} : ∀ {l : List (Kd × O)}, (putO l k o).length ≤ l.length + 1
  | [] => Nat.le_refl _
  | (j, p) :: l => by
    unfold putO
    split
    · exact Nat.le_succ _
    · exact Nat.succ_le_succ (putO_len (l := l))
section
variable {C : Cn} {P : Fx} {E : WX} {X : Cx} {σ : L2.St} {H H1 H' : Hp} {S S1 S' F F1 A B Y : Set'} {ρ : Env'} {tg : Expr} {pos : Pos} {f : Fe}
theorem RepOK.keys : ∀ {vs : List (Key × V)} {os : List (Kd × O)} {A : Set'}, RepOK C H S vs os A → os.map (·.1) = vs.map (fun p => (Sum.inl p.1 : Kd))
  | vs, [], A, h => by rw [h.1]; rfl
  | vs, (k, o) :: os, A, h => by
    obtain ⟨j, v, r, P, R, rfl, rfl, _, h2, _⟩ := h
    rw [List.map_cons, List.map_cons, h2.keys]
theorem RepOK.nd {vs : List (Key × V)} {os : List (Kd × O)} (h : RepOK C H S vs os A) (n : (os.map (·.1)).Nodup) : (vs.map (·.1)).Nodup := by
  rw [h.keys] at n
  have : vs.map (fun p => (Sum.inl p.1 : Kd)) = (vs.map (·.1)).map Sum.inl := by rw [List.map_map]; rfl
  rw [this] at n
  exact (List.pairwise_map.mp n).imp fun h e => h (congrArg _ e)
theorem RepOT.keys : ∀ {vs : List (List Key × V)} {os : List (Kd × O)} {A : Set'}, RepOT C H S vs os A → os.map (·.1) = vs.map (fun p => (Sum.inr p.1 : Kd))
  | vs, [], A, h => by rw [h.1]; rfl
  | vs, (k, o) :: os, A, h => by
    obtain ⟨j, v, r, P, R, rfl, rfl, _, h2, _⟩ := h
    rw [List.map_cons, List.map_cons, h2.keys]
theorem RepOT.nd {vs : List (List Key × V)} {os : List (Kd × O)} (h : RepOT C H S vs os A) (n : (os.map (·.1)).Nodup) : (vs.map (·.1)).Nodup := by
  rw [h.keys] at n
  have : vs.map (fun p => (Sum.inr p.1 : Kd)) = (vs.map (·.1)).map Sum.inr := by rw [List.map_map]; rfl
  rw [this] at n
  exact (List.pairwise_map.mp n).imp fun h e => h (congrArg _ e)
theorem RepOK.put0 {k : Key} {y : V} {o : O} : ∀ {vs : List (Key × V)} {os : List (Kd × O)} {A : Set'}, RepOK C H S vs os A → RepO C H S y o Y → Dj A Y → ∃ Z, RepOK C H S (putKr vs k y) (putO os (.inl k) o) Z ∧ ∀ a, Z a → Un' A Y a
  | vs, [], A, h, ry, d => by
    obtain ⟨rfl, e⟩ := h
    exact ⟨Y, ⟨k, y, [], Y, No, rfl, rfl, ry, ⟨rfl, emp_no⟩, ⟨fun a => ⟨.inl, fun z => z.elim id False.elim⟩, fun a _ z => z⟩⟩, fun a z => .inr z⟩
  | vs, (j', o') :: os, A, h, ry, d => by
    obtain ⟨j, v, r, P, R, rfl, rfl, h1, h2, s⟩ := h
    unfold putKr putO
    by_cases e : j = k
    · subst e
      simp only [if_true]
      exact ⟨Un' Y R, ⟨j, y, r, Y, R, rfl, rfl, ry, h2, ⟨fun a => Iff.rfl, fun a x z => d a (s.r z) x⟩⟩, fun a z => z.elim .inr fun z => .inl (s.r z)⟩
    · have e' : ¬ (Sum.inl j : Kd) = .inl k := fun z => e (Sum.inl.inj z)
      simp only [if_neg e, if_neg e']
      obtain ⟨Z, z1, z2⟩ := RepOK.put0 h2 ry (fun a x z => d a (s.r x) z) (k := k)
      refine ⟨Un' P Z, ⟨j, v, putKr r k y, P, Z, rfl, rfl, h1, z1, ⟨fun a => Iff.rfl, fun a x z => ?_⟩⟩, fun a z => z.elim (fun z => .inl (s.l z)) fun z => (z2 a z).elim (fun z => .inl (s.r z)) .inr⟩
      rcases z2 a z with z | z
      · exact s.2 a x z
      · exact d a (s.l x) z
theorem RepOK.put {k : Key} {y : V} {o : O} {vs : List (Key × V)} {os : List (Kd × O)} (h : RepOK C H S vs os A) (n : (os.map (·.1)).Nodup) (ry : RepO C H S y o Y) (d : Dj A Y) : ∃ Z, RepOK C H S (putK vs k y) (putO os (.inl k) o) Z ∧ ∀ a, Z a → Un' A Y a := by
  rw [putK_eq (h.nd n)]
  exact h.put0 ry d
theorem RepOK.len : ∀ {vs : List (Key × V)} {os : List (Kd × O)} {A : Set'}, RepOK C H S vs os A → vs.length = os.length
  | vs, [], A, h => by rw [h.1]; rfl
  | vs, (k, o) :: os, A, h => by
    obtain ⟨j, v, r, P, R, rfl, rfl, _, h2, _⟩ := h
    rw [List.length_cons, List.length_cons, h2.len]
theorem RepOT.put0 {k : List Key} {y : V} {o : O} : ∀ {vs : List (List Key × V)} {os : List (Kd × O)} {A : Set'}, RepOT C H S vs os A → RepO C H S y o Y → Dj A Y → ∃ Z, RepOT C H S (putKr vs k y) (putO os (.inr k) o) Z ∧ ∀ a, Z a → Un' A Y a
  | vs, [], A, h, ry, d => by
    obtain ⟨rfl, e⟩ := h
    exact ⟨Y, ⟨k, y, [], Y, No, rfl, rfl, ry, ⟨rfl, emp_no⟩, ⟨fun a => ⟨.inl, fun z => z.elim id False.elim⟩, fun a _ z => z⟩⟩, fun a z => .inr z⟩
  | vs, (j', o') :: os, A, h, ry, d => by
    obtain ⟨j, v, r, P, R, rfl, rfl, h1, h2, s⟩ := h
    unfold putKr putO
    by_cases e : j = k
    · subst e
      simp only [if_true]
      exact ⟨Un' Y R, ⟨j, y, r, Y, R, rfl, rfl, ry, h2, ⟨fun a => Iff.rfl, fun a x z => d a (s.r z) x⟩⟩, fun a z => z.elim .inr fun z => .inl (s.r z)⟩
    · have e' : ¬ (Sum.inr j : Kd) = .inr k := fun z => e (Sum.inr.inj z)
      simp only [if_neg e, if_neg e']
      obtain ⟨Z, z1, z2⟩ := RepOT.put0 h2 ry (fun a x z => d a (s.r x) z) (k := k)
      refine ⟨Un' P Z, ⟨j, v, putKr r k y, P, Z, rfl, rfl, h1, z1, ⟨fun a => Iff.rfl, fun a x z => ?_⟩⟩, fun a z => z.elim (fun z => .inl (s.l z)) fun z => (z2 a z).elim (fun z => .inl (s.r z)) .inr⟩
      rcases z2 a z with z | z
      · exact s.2 a x z
      · exact d a (s.l x) z
theorem RepOT.put {k : List Key} {y : V} {o : O} {vs : List (List Key × V)} {os : List (Kd × O)} (h : RepOT C H S vs os A) (n : (os.map (·.1)).Nodup) (ry : RepO C H S y o Y) (d : Dj A Y) : ∃ Z, RepOT C H S (putK vs k y) (putO os (.inr k) o) Z ∧ ∀ a, Z a → Un' A Y a := by
  rw [putK_eq (h.nd n)]
  exact h.put0 ry d
theorem RepOT.len : ∀ {vs : List (List Key × V)} {os : List (Kd × O)} {A : Set'}, RepOT C H S vs os A → vs.length = os.length
  | vs, [], A, h => by rw [h.1]; rfl
  | vs, (k, o) :: os, A, h => by
    obtain ⟨j, v, r, P, R, rfl, rfl, _, h2, _⟩ := h
    rw [List.length_cons, List.length_cons, h2.len]
/-- a pair more for the dict that is being made -/
theorem tmp_dput {D : Addr} {vs : List (Key × V)} {acc : List (Kd × O)} {k : Key} {y : V} {o : O} {H0 : Hp} {S0 F0 : Set'} (hD : H D = some (.dK vs)) (nd : (acc.map (·.1)).Nodup) (r : RepOK C H S vs acc A) (ry : RepO C H S y o Y) (w : Wf H S (Un' (Un' (fun b => b = D) A) (Un' Y F)))
    (d : Dj (Un' (fun b => b = D) A) (Un' Y F)) (dy : Dj Y F) (nA : ¬ A D) (he : RepE C H S σ ρ F) (fr : Fr H0 S0 F0 H S (Un' (Un' (fun b => b = D) A) (Un' Y F))) :
    ∃ Z, RepE C (upd H D (.dK (putK vs k y))) S σ ρ F ∧ RepOK C (upd H D (.dK (putK vs k y))) S (putK vs k y) (putO acc (.inl k) o) Z ∧ Wf (upd H D (.dK (putK vs k y))) S (Un' (Un' (fun b => b = D) Z) F) ∧
      Dj (Un' (fun b => b = D) Z) F ∧ ¬ Z D ∧ Fr H0 S0 F0 (upd H D (.dK (putK vs k y))) S (Un' (Un' (fun b => b = D) Z) F) ∧ Kp H S (upd H D (.dK (putK vs k y))) S := by
  have kp : Kp H S (upd H D (.dK (putK vs k y))) S := kp_upd (w.mu D (.inl (.inl rfl))) (w.ns D (.inl (.inl rfl)))
  have ne : ∀ b, b ≠ D → upd H D (.dK (putK vs k y)) b = H b := fun b h => upd_ne h
  have nY : ¬ Y D := fun z => d D (.inl rfl) (.inl z)
  have nF : ¬ F D := fun z => d D (.inl rfl) (.inr z)
  obtain ⟨Z, z1, z2⟩ := RepOK.put (k := k) (r.mono kp fun b z => ne b fun e => nA (e ▸ z)) nd (ry.mono kp fun b z => ne b fun e => nY (e ▸ z)) fun b x z => d b (.inr x) (.inl z)
  have nZ : ¬ Z D := fun z => (z2 D z).elim nA nY
  have mem : ∀ b, Un' (Un' (fun b => b = D) Z) F b → Un' (Un' (fun b => b = D) A) (Un' Y F) b := fun b z => by
    rcases z with (z | z) | z
    · exact .inl (.inl z)
    · exact (z2 b z).elim (fun z => .inl (.inr z)) fun z => .inr (.inl z)
    · exact .inr (.inr z)
  refine ⟨Z, he.mono kp fun b z => ne b fun e => nF (e ▸ z), z1, ⟨fun b z => ?_, fun b z => w.ns b (mem b z), fun b s => ?_⟩, fun b x z => ?_, nZ, ⟨fun b x e nf => ?_, fr.sub, fr.new, fun b z => fr.fnew b (mem b z)⟩, kp⟩
  · by_cases e : b = D
    · rw [e, upd_same]; trivial
    · rw [ne b e]; exact w.mu b (mem b z)
  · obtain ⟨x, e⟩ := w.so b s
    exact ⟨x, kp.sh b x s e⟩
  · rcases x with x | x
    · exact nF (x ▸ z)
    · exact (z2 b x).elim (fun x => d b (.inr x) (.inr z)) fun x => dy b x z
  · have q := fr.keep b x e nf
    rw [ne b (fun z => by
      have := fr.fnew D (.inl (.inl rfl))
      rw [← z] at this
      exact this.elim nf fun n => by rw [e] at n; cases n)]
    exact q
def keyD : D → Option Key
  | .int i => some (.inl i)
  | .str x => some (.inr x)
  | _ => none
theorem keyD_rep {d : D} {k : Key} {v : V} (h : keyD d = some k) (r : RepD C H S v d) : v = kV k := by
  cases d <;> simp [keyD] at h <;> subst h <;> exact r
def dcG (t : D → Env' → Option Env') (tt : Env' → Out Bool) (tk tv : Fe) (vs : List Nat) : List D → Env' → List (Kd × O) → Out (List (Kd × O))
  | [], ρ, acc => .ok acc ρ
  | d :: l, ρ, acc => match t d ρ with
    | none => .bad
    | some ρ1 => (tt ρ1).bind fun b ρ2 => if b = true then (tk ρ2).bind fun k ρ3 => match keyD k.toD with
        | some j => (tv ρ3).bind fun o ρ4 => if acc.length < big then dcG t tt tk tv vs l (wipeE ρ4 vs) (putO acc (.inl j) o) else .bad
        | none => .bad
      else dcG t tt tk tv vs l (wipeE ρ2 vs) acc
def eDc (fi : Env' → Out (List D)) (t : D → Env' → Option Env') (tt : Env' → Out Bool) (tk tv : Fe) (vs : List Nat) : Fe := fun ρ => (fi ρ).bind fun l ρ1 =>
  if shAll ρ1 vs = true then (noX (dcG t tt tk tv vs l (wipeE ρ1 vs) [])).bind fun acc ρ2 => .ok (.dct acc) (backE ρ1 ρ2 vs) else .bad
def PDc (C : Cn) (Q : VK) (σ : L2.St) (H : Hp) (S F : Set') (ρ1 : Env') (vs : List Nat) (r : Out (List (Kd × O))) : Prop := match r with
  | .ok acc ρ' => ∀ v H' S' F' A, RepE C H' S' σ (backE ρ1 ρ' vs) F' → RepO C H' S' v (.dct acc) A → Wf H' S' (Un' A F') → Dj A F' → Fr H S F H' S' (Un' A F') → Q v H'
  | _ => False
theorem de_dc {kx vx iter : Expr} {ifs : List Expr} {scope : Scope} {own : List (Str × Nat)} {fi : Env' → Out (List D)} {g : TG} {t : D → Env' → Option Env'} {ts : List Nat} {tt : Env' → Out Bool} {tk tv : Fe} (ok : OkX C X) (hi : DI C E X tg iter fi)
    (hb : BlkOk X.N X.env.scope scope own) (hn : (own.map (·.2)).Nodup)
    (hg : ∀ (s : Shared) (H : Hp) (D : Addr) (cl : List (Str × Addr)) (fp : List Addr), PG (X.blk s H scope (compEnvC scope cl D X.env) fp) tg g) (ht : TgtOk C ⟨[], []⟩ g t ts) (hts : ∀ j ∈ ts, j ∈ own.map (·.2))
    (htt : ∀ (s : Shared) (H : Hp) (D : Addr) (cl : List (Str × Addr)) (fp : List Addr), DTs C Ef (X.blk s H scope (compEnvC scope cl D X.env) fp) ifs tt)
    (hk : ∀ (s : Shared) (H : Hp) (D : Addr) (cl : List (Str × Addr)) (fp : List Addr), DE C Ef (X.blk s H scope (compEnvC scope cl D X.env) fp) kx tk)
    (he : ∀ (s : Shared) (H : Hp) (D : Addr) (cl : List (Str × Addr)) (fp : List Addr), DE C Ef (X.blk s H scope (compEnvC scope cl D X.env) fp) vx tv) (hs : ∀ x, foldedSetIterable iter X.env x = pure x := by intro _; rfl) :
    DE C E X (.DictComp kx vx [⟨tg, iter, ifs, 0⟩] scope pos) (eDc fi t tt tk tv (own.map (·.2))) := by
  refine pe_imp (pe_dc ok.calm ok.nd hi hb hg htt hk he hs) fun σ H Q ⟨ρ, S, F, he0, w0, q⟩ => ⟨ρ, S, F, he0, w0, ?_⟩
  generalize hvs : own.map (·.2) = vs at *
  unfold eDc at q
  cases ei : fi ρ with
  | bad => rw [ei] at q; exact q
  | exc x ρ' => rw [ei] at q; exact q
  | ok l ρ1 =>
    rw [ei] at q
    simp only [bind_ok] at q
    by_cases hsh : shAll ρ1 vs = true
    · simp only [hsh, if_true] at q
      intro J H1 S1 F1 he1 w1 fr1 wk D hD
      have q' : PDc C Q σ H S F ρ1 vs (dcG t tt tk tv vs l (wipeE ρ1 vs) []) := by
        cases el : dcG t tt tk tv vs l (wipeE ρ1 vs) [] with
        | ok acc ρ' => rw [el] at q; exact q
        | exc x ρ' => rw [el] at q; exact q
        | bad => rw [el] at q; exact q
      have al := Alc.own (o := .dK []) w1.so hD trivial
      obtain ⟨F1', hw1, sub1⟩ := he1.wipe vs
      have wl : Wf H1 S1 F1' := ⟨fun a z => w1.mu a (sub1 a z), fun a z => w1.ns a (sub1 a z), w1.so⟩
      obtain ⟨hs1, ws1, ds1, fs1⟩ := alc_step hw1 wl (fr1.trans (fr_sub sub1)) al
      have un0 : Un' (fun b => b = D) F1' = Un' (Un' (fun b => b = D) No) F1' := by
        funext a; apply propext; constructor
        · rintro (z | z)
          · exact .inl (.inl z)
          · exact .inr z
        · rintro ((z | z) | z)
          · exact .inl z
          · exact z.elim
          · exact .inr z
      rw [un0] at ws1 fs1
      have ds1 : Dj (Un' (fun b => b = D) No) F1' := fun a x y => x.elim (fun x => ds1 a x y) False.elim
      have len1 : ∀ v ∈ vs, v < ρ1.length := fun v hv => by
        rcases shAll_mem hsh hv with ⟨d, e⟩ | e
        · exact (List.getElem?_eq_some_iff.mp e).1
        · exact (List.getElem?_eq_some_iff.mp e).1
      have lenσ : σ.length = ρ1.length := he1.len
      refine ⟨fun i m H2 => ∃ ρ2 S2 F2 acc vsV A, m = l.length - i ∧ i ≤ l.length ∧ RepE C H2 S2 (L2.wipe σ vs) ρ2 F2 ∧ (∀ v ∈ vs, ρ2[v]? = some none) ∧ H2 D = some (.dK vsV) ∧ (acc.map (·.1)).Nodup ∧ RepOK C H2 S2 vsV acc A ∧ Wf H2 S2 (Un' (Un' (fun b => b = D) A) F2) ∧
          Dj (Un' (fun b => b = D) A) F2 ∧ ¬ A D ∧ Fr H S F H2 S2 (Un' (Un' (fun b => b = D) A) F2) ∧ Kp H1 S1 H2 S2 ∧ PDc C Q σ H S F ρ1 vs (dcG t tt tk tv vs (l.drop i) ρ2 acc),
        ⟨l.length, wipeE ρ1 vs, S1, F1', [], [], No, (Nat.sub_zero _).symm, Nat.zero_le _, hs1, fun v hv => wipeE_none hv (len1 v hv), upd_same, List.nodup_nil, ⟨rfl, emp_no⟩, ws1, ds1, fun z => z, fs1, al.kp, q'⟩, ?_⟩
      rintro i m H2 ⟨ρ2, S2, F2, acc, vsV, A, rfl, hi', he2, hz2, hD2, nd2, ra2, w2, d2, nA2, fr2, kp2, q2⟩
      by_cases hlt : i < l.length
      · have hd : l.drop i = l[i] :: l.drop (i + 1) := List.drop_eq_getElem_cons hlt
        rw [hd] at q2
        refine .inr ⟨wk.go i H2 S2 kp2 hlt, fun H3 => ∃ ρ2 S2 F2 acc vsV A, RepE C H3 S2 (L2.wipe σ vs) ρ2 F2 ∧ (∀ v ∈ vs, ρ2[v]? = some none) ∧ H3 D = some (.dK vsV) ∧ (acc.map (·.1)).Nodup ∧ RepOK C H3 S2 vsV acc A ∧ Wf H3 S2 (Un' (Un' (fun b => b = D) A) F2) ∧
            Dj (Un' (fun b => b = D) A) F2 ∧ ¬ A D ∧ Fr H S F H3 S2 (Un' (Un' (fun b => b = D) A) F2) ∧ Kp H1 S1 H3 S2 ∧ PDc C Q σ H S F ρ1 vs (dcG t tt tk tv vs (l.drop (i + 1)) ρ2 acc),
          fun H3 ⟨a1, a2, a3, a4, a5, a6, b⟩ => ⟨l.length - (i + 1), by omega, a1, a2, a3, a4, a5, a6, rfl, hlt, b⟩, fun x H3 y => ?_⟩
        obtain ⟨S3, al3, rx⟩ := wk.yld i x H2 S2 H3 l[i] kp2 w2.so (by simp [hlt]) y
        obtain ⟨he3, w3, fr3⟩ := alc_fr he2 w2.drop al3
        -- the list that is being made, over the step
        obtain ⟨ka3, d3, w3', fr3', k3⟩ := fr_tmp w2 d2 fr2 fr3 w3
        have hD3 : H3 D = some (.dK vsV) := by rw [ka3 D (.inl rfl)]; exact hD2
        have ra3 := ra2.mono k3 fun b z => ka3 b (.inr z)
        have q2 : PDc C Q σ H S F ρ1 vs (match t l[i] ρ2 with
          | none => .bad
          | some ρ1 => (tt ρ1).bind fun b ρ2 => if b = true then (tk ρ2).bind fun k ρ3 => match keyD k.toD with
              | some j => (tv ρ3).bind fun o ρ4 => if acc.length < big then dcG t tt tk tv vs (l.drop (i + 1)) (wipeE ρ4 vs) (putO acc (.inl j) o) else .bad
              | none => .bad
            else dcG t tt tk tv vs (l.drop (i + 1)) (wipeE ρ2 vs) acc) := q2
        cases et : t l[i] ρ2 with
        | none => rw [et] at q2; exact q2.elim
        | some ρ3 =>
          simp only [et] at q2
          refine ht (L2.wipe σ vs) H3 S3 F2 ρ2 x l[i] ρ3 _ he3 w3 (fun j hj => by cases hj) rx et fun σ3 F3 he4 w4 p4 sub n4 l4 => ?_
          have lenw : (L2.wipe σ vs).length = σ.length := L2.wipe_length σ vs
          have l3 : σ3.length = σ.length := l4.trans lenw
          have ew : L2.wipe σ3 vs = L2.wipe σ vs := wipe_eq l3 fun j hj => by
            rw [n4 j fun z => hj (hts j z), wipe_get hj]
          refine ⟨ew, ρ3, S3, F3, he4, w4, ?_⟩
          have w3s : Wf H3 S3 (Un' (Un' (fun b => b = D) A) F3) := ⟨fun a z => w3'.mu a (z.elim .inl fun z => .inr (sub a z)), fun a z => w3'.ns a (z.elim .inl fun z => .inr (sub a z)), w3'.so⟩
          have d3s : Dj (Un' (fun b => b = D) A) F3 := fun a x y => d3 a x (sub a y)
          have fr3s : Fr H S F H3 S3 (Un' (Un' (fun b => b = D) A) F3) := fr3'.less fun a z => z.elim .inl fun z => .inr (sub a z)
          have kp3 := kp_trans kp2 k3
          cases ett : tt ρ3 with
          | bad => rw [ett] at q2; exact q2.elim
          | exc x ρ' => rw [ett] at q2; exact q2.elim
          | ok b ρ4 =>
            rw [ett] at q2
            simp only [bind_ok] at q2
            intro H4 S4 F4 he5 w5 fr5
            obtain ⟨ka5, d5, w5', fr5', k5⟩ := fr_tmp w3s d3s fr3s fr5 w5
            have hD4 : H4 D = some (.dK vsV) := by rw [ka5 D (.inl rfl)]; exact hD3
            have ra4 := ra3.mono k5 fun b z => ka5 b (.inr z)
            have kp4 := kp_trans kp3 k5
            cases b with
            | false =>
              simp only [Bool.false_eq_true, if_false] at q2 ⊢
              obtain ⟨F5, hw5, sub5⟩ := he5.wipe vs
              rw [ew] at hw5
              exact ⟨wipeE ρ4 vs, S4, F5, acc, vsV, A, hw5, fun v hv => wipeE_none hv (by rw [← he5.len, l3, lenσ]; exact len1 v hv), hD4, nd2, ra4,
                ⟨fun a z => w5'.mu a (z.elim .inl fun z => .inr (sub5 a z)), fun a z => w5'.ns a (z.elim .inl fun z => .inr (sub5 a z)), w5'.so⟩, fun a x y => d5 a x (sub5 a y), nA2, fr5'.less (fun a z => z.elim .inl fun z => .inr (sub5 a z)), kp4, q2⟩
            | true =>
              simp only [if_true] at q2 ⊢
              refine ⟨ρ4, S4, F4, he5, w5, ?_⟩
              cases etk : tk ρ4 with
              | bad => rw [etk] at q2; exact q2.elim
              | exc x ρ' => rw [etk] at q2; exact q2.elim
              | ok ko ρk =>
                rw [etk] at q2
                simp only [bind_ok] at q2
                intro yk Hk Sk Fk Yk hek rk wk' dk frk0
                cases ekd : keyD ko.toD with
                | none => simp only [ekd] at q2; exact q2.elim
                | some kk =>
                  simp only [ekd] at q2
                  have eyk := keyD_rep ekd (rk.share (S' := Un' Sk Yk) (fun _ z => .inl z) fun _ z => .inr z)
                  have frk := frk0.drop
                  obtain ⟨kak, dk', wk2, frk', kk'⟩ := fr_tmp w5' d5 fr5' frk wk'.drop
                  have hDk : Hk D = some (.dK vsV) := by rw [kak D (.inl rfl)]; exact hD4
                  have rak := ra4.mono kk' fun b z => kak b (.inr z)
                  have kpk := kp_trans kp4 kk'
                  refine ⟨ρk, Sk, Fk, hek, wk'.drop, ?_⟩
                  cases ete : tv ρk with
                  | bad => rw [ete] at q2; exact q2.elim
                  | exc x ρ' => rw [ete] at q2; exact q2.elim
                  | ok o ρ5 =>
                    rw [ete] at q2
                    simp only [bind_ok] at q2
                    intro y' H5 S5 F5 Y he6 r6 w6 d6 fr6
                    obtain ⟨ka6, d6', w6', fr6', k6⟩ := fr_tmp wk2 dk' frk' fr6 w6
                    have hD5 : H5 D = some (.dK vsV) := by rw [ka6 D (.inl rfl)]; exact hDk
                    have ra5 := rak.mono k6 fun b z => ka6 b (.inr z)
                    by_cases hbig : acc.length < big
                    · simp only [hbig, if_true] at q2
                      refine ⟨vsV, kk, eyk, hD5, by rw [ra5.len]; exact Nat.lt_of_lt_of_le hbig (big_line (Nat.le_refl _)), ?_⟩
                      obtain ⟨F6, hw6, sub6⟩ := he6.wipe vs
                      rw [ew] at hw6
                      have lessU : ∀ a, Un' (Un' (fun b => b = D) A) (Un' Y F6) a → Un' (Un' (fun b => b = D) A) (Un' Y F5) a := fun a z => z.elim .inl fun z => .inr (z.elim .inl fun z => .inr (sub6 a z))
                      obtain ⟨Z, z1, z2, z3, z4, z5, z6, z7⟩ := tmp_dput (k := kk) hD5 nd2 ra5 r6 ⟨fun a z => w6'.mu a (lessU a z), fun a z => w6'.ns a (lessU a z), w6'.so⟩ (fun a x y => d6' a x (y.elim .inl fun y => .inr (sub6 a y))) (fun a x y => d6 a x (sub6 a y)) nA2 hw6 (fr6'.less lessU)
                      exact ⟨wipeE ρ5 vs, S5, F6, putO acc (.inl kk) o, putK vsV kk y', Z, z1, fun v hv => wipeE_none hv (by rw [← he6.len, l3, lenσ]; exact len1 v hv), upd_same, putO_nd nd2, z2, z3, z4, z5, z6, kp_trans (kp_trans kpk k6) z7, q2⟩
                    · simp only [hbig, if_false] at q2
                      exact q2.elim
      · have e : i = l.length := by omega
        subst e
        rw [List.drop_length] at q2
        have he7 := RepE.back he1 kp2 hn hsh he2 hz2
        refine .inl ⟨wk.stop H2 S2 kp2, ?_⟩
        have eu : Un' (fun b => b = D) A = fun b => b = D ∨ A b := rfl
        exact q2 (.ref D) H2 S2 F2 _ he7 ⟨D, A, rfl, nd2, .inl ⟨vsV, hD2, ra2⟩, fun b => Iff.rfl, fun b e z => nA2 (e ▸ z)⟩ w2 d2 fr2
    · simp only [hsh] at q
      exact q.elim
end
end G
end

section
set_option maxRecDepth 100000
set_option maxHeartbeats 2000000
open PySem PySem.Spec PyProof.Rows L2
namespace G
/-! comparisons as tests; the left side a view; a slot given away; what a derivation leans on -/
abbrev eK (d : D) : Fe := fun ρ => .ok (.sh d) ρ
def oB : O → Option Bool
  | .sh (.bl b) => some b
  | _ => none
theorem oB_eq {o : O} {b : Bool} (h : oB o = some b) : o = .sh (.bl b) := by
  unfold oB at h
  split at h
  · rw [Option.some.inj h]
  · cases h
def eB (f : Fe) : Env' → Out Bool := fun ρ => (f ρ).bind fun o ρ1 => match oB o with
  | some b => .ok b ρ1
  | none => .bad
def e2w (i : Nat) (g : D → D → Option O) (h : Fe) : Fe := fun ρ => match vVar i ρ with
  | some _ => (h ρ).bind fun b ρ1 => e1v (fun d => g d b.toD) (vVar i) ρ1
  | none => .bad
def eMove (i : Nat) : Fe := fun ρ => match ρ[i]? with
  | some (some o) => .ok o (ρ.set i none)
  | _ => .bad
structure Bx (C : Cn) (k : Nat) (X : Cx) (E : WX) : Prop where
  ok : OkX C X
  tk : Takes X E
  rm : Room k X.A
section
variable {C : Cn} {P : Fx} {E : WX} {X : Cx} {σ : L2.St} {H H1 H' : Hp} {S S1 S' F F1 A B Y : Set'} {ρ : Env'} {a b c : Expr} {pos : Pos} {f h k : Fe}
theorem tb_of {Q : Bool → Hp → Prop} (q : rT C E (eB f) σ H Q) : rE C E f σ H (fun x H1 => ∃ k, x = .bl k ∧ Q k H1) := by
  obtain ⟨ρ, S, F, he, w, q⟩ := q
  refine ⟨ρ, S, F, he, w, ?_⟩
  unfold eB at q
  cases ef : f ρ with
  | bad => rw [ef] at q; exact q
  | exc x ρ' => rw [ef] at q; exact q
  | ok o ρ1 =>
    rw [ef] at q
    simp only [bind_ok] at q
    intro v H1 S1 F1 A he1 r1 w1 d1 fr1
    cases eb : oB o with
    | none => rw [eb] at q; exact q.elim
    | some b =>
      rw [eb] at q
      rw [oB_eq eb] at r1
      exact ⟨b, r1.2, q H1 S1 F1 he1 w1.drop fr1.drop⟩
theorem dt_cmp {op : CmpOp} {g : D → D → Option O} (ho : OpR X (compareOp op) (rV2 C g)) (ha : DE C E X a f) (hb : DE C E X b h) (hm : behindInMarks op b = false) : DT C E X (.Compare a [op] [b] pos) (eB (e2 g f h)) :=
  pt_imp (pt_cmpR ho ha hb hm) fun _ _ _ q => r2_of (tb_of q)
theorem dt_cmpV {op : CmpOp} {g : D → D → Option O} {h : Env' → Option D} (ho : OpR X (compareOp op) (rV2 C g)) (ha : DE C E X a f) (hb : DV C X b h) (hm : behindInMarks op b = false) : DT C E X (.Compare a [op] [b] pos) (eB (e2v g f h)) :=
  pt_imp (pt_cmpR ho ha hb hm) fun _ _ _ q => r2v_of (tb_of q)
theorem dt_chn {op op' : CmpOp} {g g' : D → D → Option O} (ho : OpR X (compareOp op) (rV2 C g)) (ho' : OpR X (compareOp op') (rV2 C g')) (ha : DE C E X a f) (hb : DE C E X b h) (hc : DE C E X c k)
    (hm : lastMarks [op, op'] [b, c] = false := by with_unfolding_all rfl) : DT C E X (.Compare a [op, op'] [b, c] pos) (eB (eChn g g' f h k)) :=
  pt_imp (pt_chain ho ho' ha hb hc hm) fun _ _ _ q => chn_of (tb_of q)
theorem r2w_of {i : Nat} {g : D → D → Option O} {Q : VK} (q : rE C E (e2w i g h) σ H Q) : tVar i σ H (fun x H1 => rE C E h σ H1 fun y H2 => rV2 C g x y H2 Q) := by
  obtain ⟨ρ, S, F, he, w, q⟩ := q
  unfold e2w at q
  cases ev : vVar i ρ with
  | none => rw [ev] at q; exact q.elim
  | some d0 =>
    rw [ev] at q
    have e0 : ∃ o, ρ[i]? = some (some o) := by
      unfold vVar at ev
      split at ev
      · next o e => exact ⟨o, e⟩
      · cases ev
    obtain ⟨o0, e0⟩ := e0
    obtain ⟨v, A0, B0, eσ, _, _, _, _⟩ := own_at he e0
    refine ⟨v, eσ, ρ, S, F, he, w, ?_⟩
    cases eh : h ρ with
    | bad => rw [eh] at q; exact q
    | exc x ρ' => rw [eh] at q; exact q
    | ok b ρ1 =>
      rw [eh] at q
      simp only [bind_ok] at q
      intro y H1 S1 F1 A he1 r1 w1 d1 fr1
      have w2 := w1.share d1
      have he2 : RepE C H1 (Un' S1 A) σ ρ1 F1 := he1.mono kp_sh fun _ _ => rfl
      have fr2 := fr1.share
      have ry := r1.share (S' := Un' (Un' S1 A) F1) (fun _ z => .inl (.inl z)) fun _ z => .inl (.inr z)
      unfold e1v at q
      cases ed : vVar i ρ1 with
      | none => rw [ed] at q; exact q.elim
      | some d =>
        rw [ed] at q
        obtain ⟨o1, e1, rfl⟩ : ∃ o1, ρ1[i]? = some (some o1) ∧ o1.toD = d := by
          unfold vVar at ed
          split at ed
          · next o e => exact ⟨o, e, Option.some.inj ed⟩
          · cases ed
        obtain ⟨v', A1, B1, eσ', rO, sF, _, _⟩ := own_at he2 e1
        rw [eσ] at eσ'
        cases eσ'
        have rx := rO.share (S' := Un' (Un' S1 A) F1) (fun _ z => .inl z) fun a z => .inr (sF.l z)
        cases eg : g o1.toD b.toD with
        | none => simp only [Option.bind_some, eg] at q
        | some o' =>
          simp only [Option.bind_some, eg] at q
          cases o' with
          | lst l => exact q.elim
          | dct l => exact q.elim
          | ins c l => exact q.elim
          | sh d =>
            by_cases hc : scD d = true
            · simp only [hc, if_true] at q
              refine ⟨Un' (Un' S1 A) F1, o1.toD, b.toD, un_so w2, rx, ry, _, eg, fun v' H' S' A' al ro => ?_⟩
              have ka : ∀ b, F1 b → H' b = H1 b := fun b z => by
                obtain ⟨u, e⟩ := mut_some (w2.mu b z)
                rw [e]; exact al.keep b u e
              have kp : Kp H1 (Un' S1 A) H' (Un' S1 A) := ⟨fun b u _ e => al.keep b u e, fun b u _ e => al.keep b u e, fun _ h => h⟩
              exact q v' H' (Un' S1 A) F1 No (he2.mono kp ka) ⟨emp_no, sc_rep hc ro.2⟩ (wf_no ⟨fun b z => by rw [ka b z]; exact w2.mu b z, w2.ns, fun b s => by
                obtain ⟨u, e⟩ := w2.so b s
                exact ⟨u, al.keep b u e⟩⟩) dj_no (fr_no (fr2.trans ⟨fun b u e _ => al.keep b u e, fun _ h => h, fun _ h => .inl h, fun _ h => .inl h⟩))
            · simp only [hc] at q
              exact q.elim
theorem de_cmpW {i : Nat} {x : Str} {p : Pos} {op : CmpOp} {g : D → D → Option O} (ho : OpR X (compareOp op) (rV2 C g)) (hb : DE C E X b h) (hm : behindInMarks op b = false) (hN : X.N[i]? = some x := by rfl) (hv : Vis X.env.scope x := by first | exact Or.inl rfl | exact Or.inr (Or.inl rfl) | exact Or.inr (Or.inr rfl))
    (hd : (x == ("__debug__" : Str)) = false := by decide) (hcd : (x == ("__classdict__" : Str)) = false := by decide) : DE C E X (.Compare (.Name x p) [op] [b] pos) (e2w i g h) :=
  pe_imp (pe_cmpR ho (pe_var hN hv hd hcd) hb hm) fun _ _ _ q => r2w_of q
theorem dt_cmpW {i : Nat} {x : Str} {p : Pos} {op : CmpOp} {g : D → D → Option O} (ho : OpR X (compareOp op) (rV2 C g)) (hb : DE C E X b h) (hm : behindInMarks op b = false) (hN : X.N[i]? = some x := by rfl) (hv : Vis X.env.scope x := by first | exact Or.inl rfl | exact Or.inr (Or.inl rfl) | exact Or.inr (Or.inr rfl))
    (hd : (x == ("__debug__" : Str)) = false := by decide) (hcd : (x == ("__classdict__" : Str)) = false := by decide) : DT C E X (.Compare (.Name x p) [op] [b] pos) (eB (e2w i g h)) :=
  pt_imp (pt_cmpR ho (pe_var hN hv hd hcd) hb hm) fun _ _ _ q => r2w_of (tb_of q)
/-- a name, in short -/
theorem lv (i : Nat) {x : Str} (hN : X.N[i]? = some x := by rfl) (hv : Vis X.env.scope x := by first | exact Or.inl rfl | exact Or.inr (Or.inl rfl) | exact Or.inr (Or.inr rfl)) (hd : (x == ("__debug__" : Str)) = false := by decide)
    (hcd : (x == ("__classdict__" : Str)) = false := by decide) : DE C E X (.Name x pos) (eVar i) := de_var hN hv hd hcd
theorem vv (i : Nat) {x : Str} (hN : X.N[i]? = some x := by rfl) (hv : Vis X.env.scope x := by first | exact Or.inl rfl | exact Or.inr (Or.inl rfl) | exact Or.inr (Or.inr rfl)) (hd : (x == ("__debug__" : Str)) = false := by decide)
    (hcd : (x == ("__classdict__" : Str)) = false := by decide) : DV C X (.Name x pos) (vVar i) := dv_var hN hv hd hcd
theorem mv (i : Nat) {x : Str} (hN : X.N[i]? = some x := by rfl) (hv : Vis X.env.scope x := by first | exact Or.inl rfl | exact Or.inr (Or.inl rfl) | exact Or.inr (Or.inr rfl)) (hd : (x == ("__debug__" : Str)) = false := by decide)
    (hcd : (x == ("__classdict__" : Str)) = false := by decide) : DE C E X (.Name x pos) (eMove i) := by
  refine pe_imp (pe_var hN hv hd hcd) fun σ H Q ⟨ρ, S, F, he, w, q⟩ => ?_
  unfold eMove at q
  cases e : ρ[i]? with
  | none => rw [e] at q; exact q.elim
  | some r =>
    cases r with
    | none => rw [e] at q; exact q.elim
    | some o =>
      rw [e] at q
      obtain ⟨v, A, B, eσ, r, s, h2, _⟩ := own_at he e
      have eu := s.un
      subst eu
      exact ⟨v, eσ, q v H S B A h2 r w s.2 .refl⟩
/-- a module's constants -/
theorem lgi {x : Str} {i : Int} (hm : ∃ t, X.mg x = some (.int i t)) (hg : Gl X x := by rfl) (hd : (x == ("__debug__" : Str)) = false := by decide) : DE C E X (.Name x pos) (eK (.int i)) := de_gint hg hm.choose_spec hd
theorem lgs {x y : Str} (hm : ∃ t, X.mg x = some (.str y t)) (hg : Gl X x := by rfl) (hd : (x == ("__debug__" : Str)) = false := by decide) : DE C E X (.Name x pos) (eK (.str y)) := de_gstr hg hm.choose_spec hd
theorem Bx.tr {k : Nat} (b : Bx C k X E) {W : WX} {pn : List (Addr × Obj)} {xe : Value → Shared → Prop} (t : Takes (X.tr pn xe) W) : Bx C k (X.tr pn xe) W := ⟨b.ok.tr pn xe, t, b.rm⟩
theorem Bx.blk {k : Nat} (b : Bx C k X E) {s : Shared} {H : Hp} {sc : Scope} {ce : PySem.Env} {fp : List Addr} : Bx C k (X.blk s H sc ce fp) Ef := ⟨b.ok.blk s H sc ce fp, takes0, b.rm⟩
theorem Bx.def {k : Nat} {P : Program} {w : World} {K : PySem.W.Frag} {mg : Str → Option Value} {base : Heap} {N : List Str} {qual : Str} {scope : Scope} {f : Addr} {cd : Value} {A : Around} {outer : List PySem.Env} {s : Shared} {H : Hp} {E : XK} (hK : K = C.K) (nd : N.Nodup) (hr : Room k (A.deeper (envOfC qual scope s.heap.objs.size f cd))) :
    Bx C k (cxOf (L2.CX P w) P w K mg base N qual scope f cd A outer s H E) (fun c d _ H => E c d H) :=
  ⟨⟨hK, rfl, by have := hr.un; show (A.deeper (envOfC qual scope s.heap.objs.size f cd)).units + 200 < cLine; omega, nd⟩, takes_of rfl rfl rfl rfl, hr⟩
end
end G
end

section
set_option maxRecDepth 100000
set_option maxHeartbeats 2000000
open PySem PySem.Spec PyProof.Rows L2
namespace G
/-! the text's parts, bundled -/
/-- a def that may be called -/
structure Cl (P : Program) (w : World) (K : PySem.W.Frag) (mg : Str → Option Value) (base : Heap) (C : Cn) (k : Nat) (x : Str) (n : Nat) (g : Fn) : Prop where
  ex : ∃ (f : Addr) (fd : FuncData) (ps : List Str), ps.length = n ∧ FnOk P w K mg base (L2.CX P w) k f fd ps (spD C ps.length g) ∧ mg x = some (.ref f) ∧ PySem.W.keepIn K (.ref f) = true ∧ Binds K fd ps []
/-- a def of the text -/
structure Df (K : PySem.W.Frag) (mg : Str → Option Value) (x : Str) (st : Stmt) (ps : List Str) : Prop where
  ex : ∃ (f : Addr) (fd : FuncData), Fun K x x st f fd ∧ mg x = some (.ref f) ∧ Binds K fd ps []
structure OwnX (K : PySem.W.Frag) (mg : Str → Option Value) (C : Cn) (x : Str) (n : Nat) : Prop where
  ex : ∃ (Cl : Addr) (Bt newId initId : String) (bmB : List Value), C.ecl n = .ref Cl ∧ ExcBaseFacts Bt newId initId bmB ∧ PySem.W.excIn K Cl bmB newId = true ∧ mg x = some (.ref Cl) ∧ PySem.W.keepIn K (.ref Cl) = true ∧
    PySem.W.subIn K (.ref Cl) (.type "BaseException") = some true ∧ PySem.W.typeIn K (.ref Cl) = some (.type "type")
structure SupX (P : Program) (K : PySem.W.Frag) (mg : Str → Option Value) (C : Cn) (x p : Str) (n : Nat) : Prop where
  ex : ∃ (Cl fI : Addr) (Bt newId initId : String) (bmB : List Value), C.ecl n = .ref Cl ∧ C.fld n = [p] ∧ GX.SupTxt P K mg x Cl fI p Bt newId initId bmB ∧ GX.Nm p ∧ PySem.W.KxsFacts Bt initId ∧ ExcBaseFacts Bt newId initId bmB
/-- a class that a clause names -/
structure Hnd (K : PySem.W.Frag) (mg : Str → Option Value) (C : Cn) (x : Str) (m : Nat → Bool) : Prop where
  ex : ∃ c, mg x = some c ∧ ∀ n, PySem.W.exmOne K (C.ecl n) c = some (m n)
section
variable {C : Cn} {P : Fx} {E : WX} {X : Cx} {e : Expr} {es : List Expr} {pos : Pos} {f : Fe} {j k n : Nat}
theorem de_cl {x : Str} {p : Pos} {g : Fn} {ms : List (Option Nat)} {fa : Fa} (c : Cl X.prog X.w X.K X.mg X.base C k x n g) (b : Bx C j X E) (ha : DM C E X (e :: es) ms fa) (hjk : k ≤ j := by decide) (hn : ms.length = n := by rfl) (hg : Gl X x := by rfl)
    (hdb : (x == ("__debug__" : Str)) = false := by decide) (he : starEach (e :: es) X.env = (false, eval e X.env) :: starEach es X.env := by rfl) (hpl : (backTo pos (starEach es X.env)).any (·.1) = false := by rfl) :
    DE C E X (.Call (.Name x p) (e :: es) [] pos) (eCall g ms fa) := by
  obtain ⟨f, fd, ps, hl, F, hm, hk, hb⟩ := c.ex
  exact de_call F (b.rm.mono hjk) hm hk hb b.tk ha (hn.trans hl.symm) hg hdb he hpl
theorem dx_ow {x m : Str} {i : Nat} {p p2 : Pos} (o : OwnX X.K X.mg C x n) (hg : Gl X x := by rfl) (hdb : (x == ("__debug__" : Str)) = false := by decide) : DX C E X (.Call (.Name x p) [.Constant (.str m) i p2] [] pos) (eOwn n) := by
  obtain ⟨Cl, Bt, newId, initId, bmB, h1, h2, h3, h4, h5, h6, h7⟩ := o.ex
  exact dx_own h1 h2 h3 h4 h5 (raises_own h6 h7) hg hdb
theorem dx_sp {x p : Str} {a : Expr} {p1 : Pos} (o : SupX X.prog X.K X.mg C x p n) (b : Bx C j X E) (ha : DE C E X a f) (hg : Gl X x := by rfl) (hdb : (x == ("__debug__" : Str)) = false := by decide) (he : starEach (a :: []) X.env = (false, eval a X.env) :: starEach [] X.env := by rfl)
    (hpl : (backTo pos (starEach [] X.env)).any (·.1) = false := by rfl) : DX C E X (.Call (.Name x p1) [a] [] pos) (eSup n f) := by
  obtain ⟨Cl, fI, Bt, newId, initId, bmB, h1, h2, h3, h4, h5, h6⟩ := o.ex
  exact dx_sup h1 h2 h3 h4 h5 h6 b.rm ha hg hdb he hpl
theorem ds_rs {f : Env' → Out Xn} (b : Bx C j X E) (he : DX C E X e f) : DS C P E X (.Raise (some e) none pos) (sRaise f) := ds_raise b.ok b.tk he
theorem ds_tr {x : Str} {body suite : List Stmt} {b₀ : Stmt} {np pos' : Pos} {b : Fs} {m : Nat → Bool} {g : Fs} (bx : Bx C j X E) (hh : Hnd X.K X.mg C x m)
    (hb : ∀ (W : WX) (pn : List (Addr × Obj)) (xe : Value → Shared → Prop), Bx C j (X.tr pn xe) W → PassesOwn (model X.prog X.w) X.A X.env xe → DSs C P W (X.tr pn xe) body b)
    (hsu : ∀ (a : Addr) (oe : Obj) (pn : List (Addr × Obj)), DSs C P Ef (X.suite a ((a, oe) :: pn)) (b₀ :: suite) g) (hg : Gl X x := by rfl) (hdb : (x == ("__debug__" : Str)) = false := by decide)
    (hs : X.stack = X.env :: X.outer := by rfl) (hf : X.env.frame = some X.env.locals := by rfl) :
    DS C P E X (.Try body [.ExceptHandler (some (.Name x np)) none (b₀ :: suite) pos'] [] [] pos) (sTry1 b m fun _ => g) := by
  obtain ⟨c, h1, h2⟩ := hh.ex
  exact ds_try1 bx.ok bx.tk ⟨hg, hdb, .inl h1⟩ h2 (fun W pn xe t p => hb W pn xe (bx.tr t) p) (fun a oe _ _ pn _ _ _ => hsu a oe pn) hs hf
theorem cl_def {P : Program} {w : World} {K : PySem.W.Frag} {mg : Str → Option Value} {base : Heap} {x : Str} {st : Stmt} {N ps : List Str} {ks : List Bool} {body : Fs} (d : Df K mg x st ps) (hK : K = C.K) (Sc : FnScope N ps (defScope st)) (hk : ks.length = ps.length)
    (hb : ∀ (f : Addr) (cdv : Value) (A : Around) (outer : List PySem.Env) (s : Shared) (H : Hp) (E : XK) (σ0 : L2.St), Bx C k (cxOf (L2.CX P w) P w K mg base N x (defScope st) f cdv A outer s H E) (fun c d _ H => E c d H) →
      DSs C ⟨piOf ks 0, σ0⟩ (fun c d _ H => E c d H) (cxOf (L2.CX P w) P w K mg base N x (defScope st) f cdv A outer s H E) (defBody st) body) :
    Cl P w K mg base C (k + 1) x ps.length (fnG N.length ks body) := by
  obtain ⟨f, fd, F, h1, h2⟩ := d.ex
  exact ⟨f, fd, ps, rfl, fn_def F Sc hk fun cdv A outer s H E σ0 hr => hb f cdv A outer s H E σ0 (Bx.def hK Sc.nd hr), h1, F.kp, h2⟩
/-! the law's own promise -/
/-- of a script: the law says True -/
def spLaw (K : PySem.W.Frag) (m : Nat) : Sp := fun vs H Q _ => ∃ (a : Addr) (ns : List Int), vs = [.ref a] ∧ ns.length ≤ m ∧ Only H ∧ (Rd H a (.lst (ns.map V.int)) ∨ KL K a (ns.map V.int)) ∧ ∀ H', Q (.bl true) H'
theorem reps_ints {H : Hp} {S : Set'} : ∀ ns : List Int, RepDs C H S (ns.map V.int) (ns.map D.int)
  | [] => rfl
  | n :: ns => ⟨.int n, ns.map V.int, rfl, rfl, reps_ints ns⟩
theorem law_sp {g : Fn} {m : Nat} (h : ∀ ns : List Int, ns.length ≤ m → ∃ ps, g [.sh (.lst (ns.map D.int))] = .ok (.sh (.bl true)) ps) (vs : List V) (H : Hp) (Q : VK) (E : XK) (q : spLaw C.K m vs H Q E) : spD C 1 g vs H Q E := by
  obtain ⟨a, ns, rfl, hl, ho, hr, q⟩ := q
  obtain ⟨ps, eg⟩ := h ns hl
  refine ⟨[.sh (.lst (ns.map D.int))], fun b => b = a ∧ ∃ u, H b = some u, No, rfl, ⟨.ref a, [], No, No, rfl, ⟨emp_no, a, ns.map V.int, rfl, ?_, reps_ints ns⟩, ⟨rfl, emp_no⟩, ⟨fun _ => ⟨fun z => z.elim, fun z => z.elim id id⟩, fun _ z => z.elim⟩⟩, ⟨fun _ z => z.elim, fun _ z => z.elim, fun b z => z.2⟩, ?_⟩
  · rcases hr with hr | hr
    · refine .inl ⟨⟨rfl, ?_⟩, hr⟩
      rcases hr with h | ⟨o, h⟩
      · exact ⟨_, h⟩
      · exact ⟨_, h⟩
    · exact .inr hr
  · rw [eg]
    intro v H' S' A' B _ r _ _ _
    have e : v = .bl true := r.2
    rw [e]
    exact q H'
end
/-- the end: as walk_of, the script's own record told -/
theorem walk_D {l : PySem.W.OpenLaw} {n k : Nat} {q : Program} {loose : List Str} {XP : (Str → Option Value) → Heap → Prop} {YP : World → Heap → Prop} {d : DefRec} {K : Params → PySem.W.Frag} {x : Str}
    (hn : l.most = some n) (hn2 : n ≤ sizeLine) (hdf : d.params.defaults = []) (hr : Room k callerA)
    (hY : ∀ (w : World) (h : Heap), YP w h → (K w.params).In h)
    (F : ∀ (w : World) (mg : Str → Option Value) (fa : Addr) (h : Heap), (K w.params).In h → h.Ns mainGlobals mg → mg d.name = some (.ref fa) →
      ∃ fd : FuncData, (∀ (s : Shared) (u : Value), BindsTo s fd ⟨[u], []⟩ [(x, u)]) ∧
        ∀ base : Heap, (K w.params).In base → base.Ns mainGlobals mg → FnOk l.prog w (K w.params) mg base (L2.CX l.prog w) k fa fd [x] (spLaw (K w.params) n)) :
    PySem.W.WalkO q loose XP YP l.row.toRowW d [] (fun f vs => PySem.call f vs) := by
  refine Att.attach_call hn hdf fun w s₀ s₁ mg mb fa o pm cd doc a vs ns G Y ho hd hcd hmg hobj hints hlen hg => ?_
  have KX := hY w _ Y
  obtain ⟨fd, hb, hF⟩ := F w mg fa _ KX G.T.g hmg
  refine law_call KX G.T.g G.T.b G.T.builtins G.T.nolimit hg hobj hints (Nat.le_trans hlen hn2) hr hF hb (fun H hO hS => ⟨a, ns, rfl, hlen, hO, ?_, fun _ => rfl⟩) fun H e s' h => ?_
  · rcases hS with h | ⟨o, its, m, h1, _, _, _, _, _⟩
    · exact .inl h
    · have e := (KX a o h1).symm.trans hobj
      cases e
      exact .inr ⟨by rw [List.length_map]; exact Nat.le_trans hlen hn2, vs, _, vals_ints hints, h1⟩
  · obtain ⟨_, _, _, _, _, _, _, _, _, _, _, _, z⟩ := h
    exact z
end G
end

section
set_option maxRecDepth 100000
set_option maxHeartbeats 2000000
open PySem PySem.Spec PyProof.Rows L2
namespace G
theorem bt_len : bootBuiltins "len" = some (.builtin "len") := by first | boot_by_name | rfl | kernel_rfl
theorem bt_abs : bootBuiltins "abs" = some (.builtin "abs") := by first | boot_by_name | rfl | kernel_rfl
theorem bt_max : bootBuiltins "max" = some (.builtin "max") := by first | boot_by_name | rfl | kernel_rfl
theorem bt_min : bootBuiltins "min" = some (.builtin "min") := by first | boot_by_name | rfl | kernel_rfl
theorem bt_all : bootBuiltins "all" = some (.builtin "all") := by first | boot_by_name | rfl | kernel_rfl
theorem bt_any : bootBuiltins "any" = some (.builtin "any") := by first | boot_by_name | rfl | kernel_rfl
theorem bt_int : bootBuiltins "int" = some (.type "int") := by first | boot_by_name | rfl | kernel_rfl
theorem bt_str : bootBuiltins "str" = some (.type "str") := by first | boot_by_name | rfl | kernel_rfl
theorem bt_bool : bootBuiltins "bool" = some (.type "bool") := by first | boot_by_name | rfl | kernel_rfl
theorem bt_tuple : bootBuiltins "tuple" = some (.type "tuple") := by first | boot_by_name | rfl | kernel_rfl
theorem bt_list : bootBuiltins "list" = some (.type "list") := by first | boot_by_name | rfl | kernel_rfl
theorem bt_dict : bootBuiltins "dict" = some (.type "dict") := by first | boot_by_name | rfl | kernel_rfl
section
variable {C : Cn} {P : Fx} {E : WX} {X : Cx} {e k : Expr} {es : List Expr} {pos : Pos} {f h : Fe} {j : Nat}
theorem pl_ix {i : Expr} (h : ∀ ov iv, subscripted i false ov iv = operate [ov, iv] (getItem ov iv)) : PlainIx i := h
/-- len(x), x looked at -/
theorem dlenV {i : Nat} {x : Str} {p1 p : Pos} (b : Bx C j X E) (hm : X.mg "len" = none) (hN : X.N[i]? = some x := by rfl) (hv : Vis X.env.scope x := by first | exact Or.inl rfl | exact Or.inr (Or.inl rfl) | exact Or.inr (Or.inr rfl)) (hd : (x == ("__debug__" : Str)) = false := by decide)
    (hcd : (x == ("__classdict__" : Str)) = false := by decide) (hg : Gl X "len" := by rfl) (he : starEach [.Name x p1] X.env = (false, eval (.Name x p1) X.env) :: starEach [] X.env := by rfl) (hpl : (backTo pos (starEach [] X.env)).any (·.1) = false := by rfl) :
    DE C E X (.Call (.Name "len" p) [.Name x p1] [] pos) (e1l lenG (vVar i)) := de_callV (og_len b.ok) hg hm bt_len (vv i hN hv hd hcd) (by decide) (by decide) he hpl
theorem dappV {i : Nat} {x : Str} {p1 apos : Pos} (he : DE C E X e f) (hN : X.N[i]? = some x := by rfl) (hv : Vis X.env.scope x := by first | exact Or.inl rfl | exact Or.inr (Or.inl rfl) | exact Or.inr (Or.inr rfl))
    (hd : (x == ("__debug__" : Str)) = false := by decide) (hcd : (x == ("__classdict__" : Str)) = false := by decide)
    (hbase : attributeBase (.Name x p1) "append" X.env (eval (.Name x p1) X.env) = eval (.Name x p1) X.env := by rfl)
    (hfew : ((backTo pos (starEach [e] X.env)).all (fun x => !x.1) && (backToKw pos (keywordEach [] X.env)).all (fun x => x.1.isSome)
      && decide ([e].length + ([] : List Keyword).length + (if ([] : List Keyword).isEmpty then 0 else 1) < 30)) = true := by rfl)
    (hline : (apos.endLine == pos.line) = true := by rfl) (hs : starEach [e] X.env = (false, eval e X.env) :: starEach [] X.env := by rfl) (hplain : (backTo pos (starEach [] X.env)).any (·.1) = false := by rfl) :
    DE C E X (.Call (.Attribute (.Name x p1) "append" apos) [e] [] pos) (eApp i f) := de_app hN hv he hd hcd hbase hfew hline hs hplain
theorem dpop {i : Nat} {x : Str} {p1 apos : Pos} (hN : X.N[i]? = some x := by rfl) (hv : Vis X.env.scope x := by first | exact Or.inl rfl | exact Or.inr (Or.inl rfl) | exact Or.inr (Or.inr rfl)) (hd : (x == ("__debug__" : Str)) = false := by decide) (hcd : (x == ("__classdict__" : Str)) = false := by decide)
    (hbase : attributeBase (.Name x p1) "pop" X.env (eval (.Name x p1) X.env) = eval (.Name x p1) X.env := by rfl) (hline : (apos.endLine == pos.line) = true := by rfl) :
    DE C E X (.Call (.Attribute (.Name x p1) "pop" apos) [] [] pos) (ePop i) := de_pop hN hv hd hcd hbase hline
theorem dpopA {i : Nat} {x : Str} {p1 apos : Pos} (he : DE C E X e f) (hN : X.N[i]? = some x := by rfl) (hv : Vis X.env.scope x := by first | exact Or.inl rfl | exact Or.inr (Or.inl rfl) | exact Or.inr (Or.inr rfl)) (hd : (x == ("__debug__" : Str)) = false := by decide) (hcd : (x == ("__classdict__" : Str)) = false := by decide)
    (hbase : attributeBase (.Name x p1) "pop" X.env (eval (.Name x p1) X.env) = eval (.Name x p1) X.env := by rfl)
    (hfew : ((backTo pos (starEach [e] X.env)).all (fun x => !x.1) && (backToKw pos (keywordEach [] X.env)).all (fun x => x.1.isSome)
      && decide ([e].length + ([] : List Keyword).length + (if ([] : List Keyword).isEmpty then 0 else 1) < 30)) = true := by rfl)
    (hline : (apos.endLine == pos.line) = true := by rfl) (hs : starEach [e] X.env = (false, eval e X.env) :: starEach [] X.env := by rfl) (hplain : (backTo pos (starEach [] X.env)).any (·.1) = false := by rfl) :
    DE C E X (.Call (.Attribute (.Name x p1) "pop" apos) [e] [] pos) (ePopA i f) := de_popA hN hv he hd hcd hbase hfew hline hs hplain
theorem ditO {i : Nat} {x : Str} {p1 : Pos} (b : Bx C j X E) (hk : DE C E X k h) (hs : PlainIx k) (hN : X.N[i]? = some x := by rfl) (hv : Vis X.env.scope x := by first | exact Or.inl rfl | exact Or.inr (Or.inl rfl) | exact Or.inr (Or.inr rfl)) (hd : (x == ("__debug__" : Str)) = false := by decide) (hcd : (x == ("__classdict__" : Str)) = false := by decide) :
    DE C E X (.Subscript (.Name x p1) k pos) (eItemO i h) := de_itemO b.ok hN hv hk hs hd hcd
theorem dset {i : Nat} {x : Str} {pos' : Pos} (b : Bx C j X E) (hp : i ∉ P.pi) (he : DE C E X e f) (hi : X.N[i]? = some x := by rfl) (hx : Loc X.env.scope x := by first | exact Or.inl rfl | exact Or.inr rfl) (hs : swapsWith e (some (.Name x pos')) pos.line X.env = pure false := by rfl)
    (hf : X.fn x = true ∨ X.env.scope.names.lookup x = some .local := by first | exact .inl rfl | exact .inr rfl | assumption) : DS C P E X (.Assign [.Name x pos'] e pos) (sSet i f) := ds_set b.ok.nd hi hx hp he hs hf
/-- a target of several names, the value not written as such, or some name captured -/
def sUnp (t : D → Env' → Option Env') (f : Fe) : Fs := fun ρ => (f ρ).then' fun o ρ1 => match t o.toD ρ1 with
  | some ρ2 => .nx ρ2
  | none => .bad
theorem ds_unp {tg : Expr} {g : TG} {t : D → Env' → Option Env'} {ts : List Nat} (hg : PG X tg g) (ht : TgtOk C P g t ts) (he : DE C E X e f) (hs : swapsWithSole [tg] e pos.line X.env = pure false := by rfl) (hw : swappedStores [tg] e X.env = pure none := by rfl)
    (h1 : (assignEach [tg] X.env).map (·.2) = [assign tg X.env] := by rfl) : DS C P E X (.Assign [tg] e pos) (sUnp t f) := by
  refine ps_imp (ps_asg he hg hs hw h1) fun D σ H ⟨ρ, S, F, he, w, p, q⟩ => rE_then he w p q fun o ρ1 ef v H' S' F' A a b c d fr q => ?_
  cases et : t o.toD ρ1 with
  | none => simp only [et] at q; exact q.elim
  | some ρ2 =>
    simp only [et] at q
    refine ht σ H' (Un' S' A) F' ρ1 v o.toD ρ2 D.nx (a.mono kp_sh fun _ _ => rfl) (c.share d) p (b.share (fun _ z => .inl z) fun _ z => .inr z) et fun σ3 F3 he3 w3 p3 sub _ _ => q σ3 H' (Un' S' A) F3 he3 w3 p3 (fr.share.trans (fr_sub sub))
theorem tgt_tk {K : PySem.W.Frag} {n : Nat} {gs : TGs} {u : List D → Env' → Option Env'} {ts : List Nat} (hK : K = C.K) (h : TgsOk C P gs u ts) : TgtOk C P (gTup K n gs) (tT n u) ts := by
  subst hK
  exact tgt_tup h
end
/-- the law's own def -/
theorem fn_top {C : Cn} {k : Nat} {P : Program} {w : World} {K : PySem.W.Frag} {mg : Str → Option Value} {base : Heap} {x : Str} {st : Stmt} {N : List Str} {p : Str} {ks : List Bool} {body : Fs} {f : Addr} {fd : FuncData} (Fd : Fun K x x st f fd) (hK : K = C.K) (Sc : FnScope N [p] (defScope st)) (hk : ks.length = 1)
    (hb : ∀ (f : Addr) (cdv : Value) (A : Around) (outer : List PySem.Env) (s : Shared) (H : Hp) (E : XK) (σ0 : L2.St), Bx C k (cxOf (L2.CX P w) P w K mg base N x (defScope st) f cdv A outer s H E) (fun c d _ H => E c d H) →
      DSs C ⟨piOf ks 0, σ0⟩ (fun c d _ H => E c d H) (cxOf (L2.CX P w) P w K mg base N x (defScope st) f cdv A outer s H E) (defBody st) body)
    {m : Nat} (hp : ∀ ns : List Int, ns.length ≤ m → ∃ ps, fnG N.length ks body [.sh (.lst (ns.map D.int))] = .ok (.sh (.bl true)) ps) :
    FnOk P w K mg base (L2.CX P w) (k + 1) f fd [p] (spLaw K m) := by
  have F := fn_def (base := base) (mg := mg) (P := P) (w := w) Fd Sc hk fun cdv A outer s H E σ0 hr => hb f cdv A outer s H E σ0 (Bx.def hK Sc.nd hr)
  refine F.imp fun vs H Q E q => ?_
  rw [hK] at q
  exact law_sp hp vs H Q E q
theorem exm_of {K : PySem.W.Frag} {S D : Addr} {b : Bool} (h1 : PySem.W.subIn K (.ref D) (.type "BaseException") = some true) (h2 : PySem.W.isClsIn K D = true) (h3 : PySem.W.typeIn K (.ref D) = some (.type "type")) (h4 : PySem.W.subIn K (.ref S) (.ref D) = some b) :
    PySem.W.exmOne K (.ref S) (.ref D) = some b := by
  have e1 : (PySem.W.subIn K (.ref D) (.type "BaseException") == some true) = true := by rw [h1] <;> rfl
  have e2 : ((PySem.W.clsIn K D).isSome && PySem.W.typeIn K (.ref D) == some (.type "type")) = true := by
    have h2' : (PySem.W.clsIn K D).isSome = true := h2
    rw [h2', h3] <;> rfl
  show (if (PySem.W.subIn K (.ref D) (.type "BaseException") == some true) = true then (if ((PySem.W.clsIn K D).isSome && PySem.W.typeIn K (.ref D) == some (.type "type")) = true then PySem.W.subIn K (.ref S) (.ref D) else none) else none) = some b
  rw [if_pos e1, if_pos e2]
  exact h4
end G
end

section
set_option maxRecDepth 100000
set_option maxHeartbeats 4000000
open PySem PySem.Spec PyProof.Rows
namespace GS
/-! sets of texts, any number of them -/
def met (l : List Str) (x : Str) : List Str := if x ∈ l then l else l ++ [x]
/-- the different ones, as first met -/
def dl (ys : List Str) : List Str := ys.foldl met []
theorem met_any (l : List Str) (x k : Str) : (met l x).any (· == k) = (l.any (· == k) || decide (k = x)) := by
  unfold met
  by_cases h : x ∈ l
  · rw [if_pos h]
    by_cases e : k = x
    · subst e
      have : l.any (· == k) = true := List.any_eq_true.mpr ⟨k, h, by simp⟩
      simp [this]
    · simp [e]
  · rw [if_neg h, List.any_append]
    congr 1
    by_cases e : k = x
    · subst e; simp
    · have hb : (x == k) = false := by simpa [beq_iff_eq] using (fun h' : x = k => e h'.symm)
      simp [hb, e]
theorem met_len (l : List Str) (x : Str) : (met l x).length = if l.any (· == x) = true then l.length else l.length + 1 := by
  unfold met
  by_cases h : x ∈ l
  · have : l.any (· == x) = true := List.any_eq_true.mpr ⟨x, h, by simp⟩
    rw [if_pos h, if_pos this]
  · have : ¬ l.any (· == x) = true := fun z => by
      obtain ⟨y, hy, e⟩ := List.any_eq_true.mp z
      have : y = x := by simpa using e
      exact h (this ▸ hy)
    rw [if_neg h, if_neg this, List.length_append]; rfl
theorem met_le (l : List Str) (x : Str) : (met l x).length ≤ l.length + 1 := by
  rw [met_len]; split <;> omega
theorem dl_take_succ {ys : List Str} {i : Nat} (h : i < ys.length) : dl (ys.take (i + 1)) = met (dl (ys.take i)) (ys.getD i Str.empty) := by
  unfold dl
  have e : ys.take (i + 1) = ys.take i ++ [ys[i]] := by rw [List.take_succ]; simp [h]
  rw [e, List.foldl_append]
  simp [List.getD, h]
theorem dl_le : ∀ (ys l : List Str), (ys.foldl met l).length ≤ l.length + ys.length
  | [], l => Nat.le_refl _
  | y :: ys, l => by
    have := dl_le ys (met l y)
    have := met_le l y
    show (ys.foldl met (met l y)).length ≤ _
    rw [List.length_cons]; omega
/-- the set at a holds the texts l, and can be walked -/
structure TxS (P : Program) (w : World) (h : Heap) (a : Addr) (l : List Str) : Prop where
  ex : ∃ D : Froz.SD, h.get? a = some (Froz.sObj "set" D) ∧ Froz.TxOk P w D l ∧ L2.Ris D.2.2.place.toList ∧ (w.params.followText "set-order" = true ∨ D.2.2.led = true)
theorem TxS.keep {P : Program} {w : World} {h h' : Heap} {a : Addr} {l : List Str} (R : TxS P w h a l) (k : ∀ o, h.get? a = some o → h'.get? a = some o) : TxS P w h' a l := by
  obtain ⟨D, h1, r⟩ := R.ex
  exact ⟨D, k _ h1, r⟩
theorem tail_ris {ep : Nat} {es : Array (Int × Value)} {t : SetTable} {b : Bool} (r : L2.Ris t.place.toList) : L2.Ris (Froz.tailTx ep es t b).2.2.place.toList := by
  unfold Froz.tailTx
  split
  · exact L2.relayAll_ris _ _ _
  · exact r
theorem tail_led {ep : Nat} {es : Array (Int × Value)} {t : SetTable} {b : Bool} : (Froz.tailTx ep es t b).2.2.led = t.led := by
  unfold Froz.tailTx
  split
  · exact L2.relayAll_led _ _ _
  · rfl
theorem add_ris {v : Int} {x : Value} {D : Froz.SD} (r : L2.Ris D.2.2.place.toList) : L2.Ris (Froz.addTx v x D).2.2.place.toList := by
  have q := L2.layNew_ris D.2.2 D.1 v x r
  unfold Froz.addTx
  refine tail_ris ?_
  split
  · exact q
  · exact q
theorem add_led {v : Int} {x : Value} {D : Froz.SD} : (Froz.addTx v x D).2.2.led = D.2.2.led := by
  have q := L2.layNew_led D.2.2 D.1 v x
  unfold Froz.addTx
  refine tail_led.trans ?_
  split
  · exact q
  · exact q
theorem tx_end {P : Program} {w : World} {D : Froz.SD} {l : List Str} {k : Str} (F : Froz.TxOk P w D (k :: l)) : Froz.TxOk P w D (l ++ [k]) where
  el := F.el
  mem := fun z => by rw [← F.mem z]; simp [or_comm]
  sz := by rw [F.sz]; simp
  fit := F.fit
section
variable {P : Program} {w : World} {A : Around} {E : Value → Shared → Prop} {s : Shared}
/-- one more text -/
theorem TxS.add {a : Addr} {l : List Str} {k : Str} {u : Tok} {Q : Bool → Shared → Prop} (R : TxS P w s.heap a l) (hb : l.length + 1 < scanBound)
    (h : ∀ h' b, Heap.SameBut a s.heap h' → TxS P w h' a (met l k) → Q b { s with heap := h' }) : wpAny (model P w) A (setAddHashed a (.str k u) (hashStr w k)) Q E s := by
  obtain ⟨D, ho, F, hr, hl⟩ := R.ex
  by_cases hk : k ∈ l
  · have e : met l k = l := if_pos hk
    rw [e] at h
    obtain ⟨es, ep, t⟩ := D
    have fit : t.fits es.size = true := F.fit
    have els : ElemsOf (PySem.strKind P w) es.toList := F.el
    have few : es.size < scanBound := by
      have z : es.size = l.length := F.sz
      omega
    have is : (PySem.strKind P w).is k (.str k u) = true := Froz.is_str k u
    have same : Q false s := h s.heap false (Heap.SameBut.refl a s.heap) R
    unfold setAddHashed setAddHashedIn
    refine wpAny_holding (wpAny_bind (wpAny_setState_of ho rfl fit ?_))
    dsimp only
    rw [byScan_of rfl few els]
    simp only [↓reduceIte]
    unfold setAddByScan
    refine wpAny_bind (wpAny_bind (wpAny_rule (wpAny_bind (wpAny_setScan_of (knd := PySem.strKind P w) (k := k) is ho rfl fit els ?_))))
    cases hf : List.findIdx? (fun e => (PySem.strKind P w).is k e.2) es.toList with
    | some j => exact wpAny_pure (wpAny_pure same)
    | none =>
      exfalso
      obtain ⟨e, he, q⟩ := (F.mem k).mp hk
      have c := List.findIdx?_eq_none_iff.mp hf e he
      rw [q] at c
      cases c
  · have e : met l k = l ++ [k] := if_neg hk
    rw [e] at h
    refine Froz.add_x ho F hk hb (h _ true (Heap.SameBut.update s.heap a _) ⟨_, Froz.get_upd _ ho rfl, tx_end (Froz.add_ok u F), add_ris hr, hl.imp id fun z => by rw [add_led]; exact z⟩)
end
section
variable {prog : Program} {w : World} {A : Around} {R : Result → Shared → Prop} {I : Addr} {fp wr : List Addr} {G : Array GenState → Array GenState → Prop} {n : Nat} {P : Nat → Value → Prop} {St : Nat → Shared → Prop}
/-- a text put in -/
theorem put_text {prog : Program} {w : World} {A : Around} {E : Value → Shared → Prop} {s : Shared} {S : Addr} {l : List Str} {x : Str} {t : Tok} {Q : Bool → Shared → Prop} (T : TxS prog w s.heap S l) (room : l.length + 1 < scanBound)
    (q : ∀ h' b, Heap.SameBut S s.heap h' → TxS prog w h' S (met l x) → Q b { s with heap := h', toks := s.toks + 1 }) : wpAny (model prog w) A (holding [.str x t] (setAdd S (.str x t))) Q E s := by
  unfold setAdd
  exact wpAny_holding (wpAny_holding (wpAny_bind ((PySem.strKind prog w).pyHash (k := x) (strKind_is _ _ _ _) (TxS.add (s := { s with toks := s.toks + 1 }) T room q))))
theorem loopS (W : WalksS prog w A.in1 I fp wr G n P St) (S : Addr) (hSf : S ∉ fp) (xs : List Str) (hsz : xs.length = n) (hn1 : n + 1 < scanBound)
    (hval : ∀ i v, P i v → ∃ t, v = .str (xs.getD i Str.empty) t) :
    ∀ (k i : Nat) (s : Shared), n - i = k → i ≤ n → St i s →
      TxS prog w s.heap S (dl (xs.take i)) →
      (∀ s', Moved (S :: wr) G s s' → TxS prog w s'.heap S (dl xs) → R (.ok (.ret .none)) s') →
      codeAny (model prog w) A (.builtin "set.update.loop" ⟨[.ref S, .ref I], []⟩) R s
  | k, i, s => by
    intro left le st T fin
    have apart : S ∉ wr := fun z => hSf (W.sub S z)
    have more : ∀ {b}, b ∈ wr → b ∈ S :: wr := List.mem_cons_of_mem S
    refine codeAny_builtin PyProof.Rows.F.entry_set_update_loop ?_
    rw [Around.under_plainId PyProof.Rows.F.plain_set_update_loop _]
    by_cases lt : i < n
    · have few : (dl (xs.take i)).length + 1 < scanBound := by
        have u := dl_le (xs.take i) []
        rw [List.length_take] at u
        unfold dl
        simp only [List.length_nil] at u
        omega
      refine wpAny_bind (m := pyNext (.ref I)) (W.item i s _ _ lt st fun v s1 pv st1 m1 => ?_)
      obtain ⟨t, rfl⟩ := hval i v pv
      refine wpAny_bind (m := holding [Value.str (xs.getD i Str.empty) t] (setAdd S (.str (xs.getD i Str.empty) t))) (put_text (T.keep fun o e => m1.heap S o apart e) few fun h' _ sb T' => ?_)
      rw [← dl_take_succ (by omega)] at T'
      have st2 := W.frame _ s1 h' (s1.toks + 1) st1 (Nat.le_succ _) fun b hb o e => (sb.2 b fun z : b = S => hSf (z ▸ hb)).trans e
      refine wpAny_pure ⟨plainId_quiet PyProof.Rows.F.plain_set_update_loop _, loopS W S hSf xs hsz hn1 hval (n - (i + 1)) (i + 1) _ rfl lt st2 T' fun s2 m2 T2 => fin s2 ?_ T2⟩
      exact Moved.trans W.gtrans ((m1.mono fun _ => more).then_heap (Nat.le_succ _) fun b o hb e => (sb.2 b fun z : b = S => hb (z ▸ List.mem_cons_self)).trans e) m2
    · have e : i = n := by omega
      subst e
      refine wpAny_bind (m := pyNext (.ref I)) (W.done s _ _ st fun s1 m1 => wpAny_pure (fin s1 (m1.mono fun _ => more) ?_))
      rw [show xs.take i = xs from List.take_of_length_le (Nat.le_of_eq hsz)] at T
      exact T.keep fun o e => m1.heap S o apart e
  termination_by k i s => n - i
end
section
variable {prog : Program} {w : World} {A : Around} {E : Value → Shared → Prop} {s : Shared}
set_option maxHeartbeats 3200000 in
theorem set_list {l : Addr} {items : Array Value} {xs : List Str} {Q : Value → Shared → Prop} (nohandler : A.handled = none) (at_l : s.heap.IsList l items) (texts : PyProof.Rows.StrsAre items.toList xs) (few : xs.length + 1 < scanBound)
    (h : ∀ (h' : Heap) (tk : Nat), TxS prog w h' s.heap.objs.size (dl xs) → (∀ b o, b < s.heap.objs.size → s.heap.get? b = some o → h'.get? b = some o) → Q (.ref s.heap.objs.size) { s with heap := h', toks := tk }) :
    wpAny (model prog w) A (call (.type "set") [.ref l]) Q E s := by
  obtain ⟨c0, tl0, m0⟩ := PySem.F.called_set.mro
  have f1 := PySem.F.called_set.made; have f2 := PySem.F.called_set.sub
  refine wpAny_call (codeAny_of_tree (?_ : wpAny _ _ (callAny (.type "set") _) _ _ _))
  refine wpAny_pure ⟨Code.quiet_builtin _ (by decide +kernel), codeAny_builtin PySem.F.entry_type_call ?_⟩
  rw [Around.under_plain (weight_type_call_type "set" [.ref l] []) rfl]
  have f3 := PySem.F.called_set.notType; have f4 := PySem.F.called_set.canCreate; have f5 := PySem.F.typeCall_set_1 (.ref l)
  repeat (any_goals (first | assumption | wp_step))
  refine codeAny_mono (L2.code_set_led1 (.ref l) (E := E) (Q₁ := fun ob t₁ => ob = .ref s.heap.objs.size ∧ t₁ = { s with heap := (s.heap.push { cls := .type "set", dict := none, data := .set #[] 0 (.fresh 0 0 (!w.params.followText "set-order")) }) }) ⟨rfl, rfl⟩) fun r t₁ hr => ?_
  cases r with
  | error e => exact hr
  | ok fl =>
    cases fl with
    | ret ob =>
      obtain ⟨rfl, rfl⟩ := hr
      have at_S : (s.heap.push { cls := .type "set", dict := none, data := .set #[] 0 (.fresh 0 0 (!w.params.followText "set-order")) }).get? s.heap.objs.size = some { cls := .type "set", dict := none, data := .set #[] 0 (.fresh 0 0 (!w.params.followText "set-order")) } := Heap.get?_push_size _ rfl
      have ty_S : Shared.TypeIs { s with heap := (s.heap.push { cls := .type "set", dict := none, data := .set #[] 0 (.fresh 0 0 (!w.params.followText "set-order")) }) } (.ref s.heap.objs.size) "set" := ⟨_, at_S, rfl⟩
      have g1 := PySem.F.called_set.init.lookup; have g2 := PySem.F.called_set.init.bind (.ref s.heap.objs.size)
      repeat (any_goals (first | assumption | wp_step))
      refine codeAny_mono (codeAny_call_builtin (R := wants (fun r t₂ => r = .none ∧ ∃ h' tk, t₂ = { s with heap := h', toks := tk } ∧ TxS prog w h' s.heap.objs.size (dl xs) ∧
          (∀ b o, b < s.heap.objs.size → s.heap.get? b = some o → h'.get? b = some o)) E) PySem.F.called_set.init.plain PySem.F.entry_set_init (check_set_init_1 ty_S ?_)) fun r₂ t₂ hr₂ => ?_
      · obtain ⟨⟨oc, od, odt, osl⟩, ol_at, ol_c, nl, ol_d⟩ := at_l
        simp only at ol_c ol_d
        subst ol_c; subst ol_d
        have up_l : (s.heap.push { cls := .type "set", dict := none, data := .set #[] 0 (.fresh 0 0 (!w.params.followText "set-order")) }).get? l = some { cls := .type "list", dict := od, data := .seq items nl, slots := osl } := Heap.get?_push_of_some _ ol_at
        have k1 := PySem.F.sub_list_set; have k2 := PySem.F.sub_list_frozenset
        have k3 : (Value.type "list" == Value.type "dict") = false := by decide
        have seq_l : (s.heap.push { cls := .type "set", dict := none, data := .set #[] 0 (.fresh 0 0 (!w.params.followText "set-order")) }).IsList l items := ⟨_, up_l, rfl, nl, rfl⟩
        unfold Builtin.«set.__init__» noKeywords Builtin.Frozenset.updateFrom
        generalize kept : pyIter = PI
        wp_walk
        subst kept
        refine wpAny_pyIter_list seq_l (wpAny_bind (wpAny_runValue ?_))
        have l_lt : l < s.heap.objs.size := Heap.lt_size ol_at
        have nh : A.in1.in1.in1.handled = none := by simp [nohandler]
        have l_ne : l ≠ (s.heap.push { cls := .type "set", dict := none, data := .set #[] 0 (.fresh 0 0 (!w.params.followText "set-order")) }).objs.size := by
          rw [Heap.size_push]; exact Nat.ne_of_lt (Nat.lt_succ_of_lt l_lt)
        have S_no : s.heap.objs.size ∉ [(s.heap.push { cls := .type "set", dict := none, data := .set #[] 0 (.fresh 0 0 (!w.params.followText "set-order")) }).objs.size, l] := by
          rw [Heap.size_push]; simp only [List.mem_cons, List.not_mem_nil, or_false, not_or]; exact ⟨Nat.ne_of_lt (Nat.lt_succ_self _), Nat.ne_of_gt l_lt⟩
        have n_is : xs.length = items.size := by rw [← StrsAre.len_eq texts, Array.length_toList]
        have vals : ∀ (i : Nat) (v : Value), items[i]? = some v → ∃ t, v = .str (xs.getD i Str.empty) t := fun i v hv => SS.strs_at texts i v (by rw [Array.getElem?_toList]; exact hv)
        refine loopS ((Walks.list nh _ l l_ne items).toS) s.heap.objs.size S_no xs n_is (by rw [← n_is]; exact few) vals (items.size - 0) 0 _ (by omega) (Nat.zero_le _) ⟨⟨_, Heap.get?_push_size _ rfl, rfl, rfl⟩, (seq_l.push _)⟩ ?start ?stop
        case start =>
          have still : ((s.heap.push { cls := .type "set", dict := none, data := .set #[] 0 (.fresh 0 0 (!w.params.followText "set-order")) }).push { cls := .type "list_iterator", data := .fields #[.ref l, .int 0 0] }).get? s.heap.objs.size = some { cls := .type "set", dict := none, data := .set #[] 0 (.fresh 0 0 (!w.params.followText "set-order")) } := Heap.get?_push_of_some _ at_S
          refine ⟨(#[], 0, .fresh 0 0 (!w.params.followText "set-order")), still, Froz.TxOk.nil rfl, List.Pairwise.nil, ?_⟩
          cases w.params.followText "set-order" with
          | true => exact .inl rfl
          | false => exact .inr rfl
        case stop =>
          intro s' mv hS'
          obtain ⟨h', g', d', tk', os'⟩ := s'
          obtain rfl : g' = s.gens := mv.gens
          obtain rfl : d' = s.drawn := mv.drawn
          obtain rfl : os' = s.os := mv.os
          show wpAny _ _ _ _ _ _
          refine wpAny_pure (?_ : wpAny _ _ (ret Value.none) _ _ _)
          refine wpAny_pure ⟨rfl, h', tk', rfl, hS', fun b o hb e => mv.heap b o ?_ (Heap.get?_push_of_some _ (Heap.get?_push_of_some _ e))⟩
          simp only [List.mem_cons, List.not_mem_nil, or_false, not_or]
          rw [Heap.size_push]
          exact ⟨Nat.ne_of_lt hb, Nat.ne_of_lt (Nat.lt_succ_of_lt hb)⟩
      · cases r₂ with
        | error e => exact hr₂
        | ok fl₂ =>
          cases fl₂ with
          | ret r =>
            obtain ⟨rfl, h', tk, rfl, hS', keep⟩ := hr₂
            repeat (any_goals (first | assumption | wp_step))
            exact h _ _ hS' keep
          | _ => exact hr₂.elim
    | _ => exact hr.elim
set_option maxHeartbeats 3200000 in
theorem set_tuple {l : Addr} {items : Array Value} {xs : List Str} {Q : Value → Shared → Prop} (nohandler : A.handled = none) (at_l : s.heap.IsTuple l items) (texts : PyProof.Rows.StrsAre items.toList xs) (few : xs.length + 1 < scanBound)
    (h : ∀ (h' : Heap) (tk : Nat), TxS prog w h' s.heap.objs.size (dl xs) → (∀ b o, b < s.heap.objs.size → s.heap.get? b = some o → h'.get? b = some o) → Q (.ref s.heap.objs.size) { s with heap := h', toks := tk }) :
    wpAny (model prog w) A (call (.type "set") [.ref l]) Q E s := by
  obtain ⟨c0, tl0, m0⟩ := PySem.F.called_set.mro
  have f1 := PySem.F.called_set.made; have f2 := PySem.F.called_set.sub
  refine wpAny_call (codeAny_of_tree (?_ : wpAny _ _ (callAny (.type "set") _) _ _ _))
  refine wpAny_pure ⟨Code.quiet_builtin _ (by decide +kernel), codeAny_builtin PySem.F.entry_type_call ?_⟩
  rw [Around.under_plain (weight_type_call_type "set" [.ref l] []) rfl]
  have f3 := PySem.F.called_set.notType; have f4 := PySem.F.called_set.canCreate; have f5 := PySem.F.typeCall_set_1 (.ref l)
  repeat (any_goals (first | assumption | wp_step))
  refine codeAny_mono (L2.code_set_led1 (.ref l) (E := E) (Q₁ := fun ob t₁ => ob = .ref s.heap.objs.size ∧ t₁ = { s with heap := (s.heap.push { cls := .type "set", dict := none, data := .set #[] 0 (.fresh 0 0 (!w.params.followText "set-order")) }) }) ⟨rfl, rfl⟩) fun r t₁ hr => ?_
  cases r with
  | error e => exact hr
  | ok fl =>
    cases fl with
    | ret ob =>
      obtain ⟨rfl, rfl⟩ := hr
      have at_S : (s.heap.push { cls := .type "set", dict := none, data := .set #[] 0 (.fresh 0 0 (!w.params.followText "set-order")) }).get? s.heap.objs.size = some { cls := .type "set", dict := none, data := .set #[] 0 (.fresh 0 0 (!w.params.followText "set-order")) } := Heap.get?_push_size _ rfl
      have ty_S : Shared.TypeIs { s with heap := (s.heap.push { cls := .type "set", dict := none, data := .set #[] 0 (.fresh 0 0 (!w.params.followText "set-order")) }) } (.ref s.heap.objs.size) "set" := ⟨_, at_S, rfl⟩
      have g1 := PySem.F.called_set.init.lookup; have g2 := PySem.F.called_set.init.bind (.ref s.heap.objs.size)
      repeat (any_goals (first | assumption | wp_step))
      refine codeAny_mono (codeAny_call_builtin (R := wants (fun r t₂ => r = .none ∧ ∃ h' tk, t₂ = { s with heap := h', toks := tk } ∧ TxS prog w h' s.heap.objs.size (dl xs) ∧
          (∀ b o, b < s.heap.objs.size → s.heap.get? b = some o → h'.get? b = some o)) E) PySem.F.called_set.init.plain PySem.F.entry_set_init (check_set_init_1 ty_S ?_)) fun r₂ t₂ hr₂ => ?_
      · obtain ⟨⟨oc, od, odt, osl⟩, ol_at, ol_c, nl, ol_d⟩ := at_l
        simp only at ol_c ol_d
        subst ol_c; subst ol_d
        have up_l : (s.heap.push { cls := .type "set", dict := none, data := .set #[] 0 (.fresh 0 0 (!w.params.followText "set-order")) }).get? l = some { cls := .type "tuple", dict := od, data := .seq items nl, slots := osl } := Heap.get?_push_of_some _ ol_at
        have k1 := PySem.F.sub_tuple_set; have k2 := PySem.F.sub_tuple_frozenset
        have k3 : (Value.type "tuple" == Value.type "dict") = false := by decide
        have seq_l : (s.heap.push { cls := .type "set", dict := none, data := .set #[] 0 (.fresh 0 0 (!w.params.followText "set-order")) }).IsTuple l items := ⟨_, up_l, rfl, nl, rfl⟩
        unfold Builtin.«set.__init__» noKeywords Builtin.Frozenset.updateFrom
        generalize kept : pyIter = PI
        wp_walk
        subst kept
        refine wpAny_pyIter_tuple seq_l (wpAny_bind (wpAny_runValue ?_))
        have l_lt : l < s.heap.objs.size := Heap.lt_size ol_at
        have nh : A.in1.in1.in1.handled = none := by simp [nohandler]
        have l_ne : l ≠ (s.heap.push { cls := .type "set", dict := none, data := .set #[] 0 (.fresh 0 0 (!w.params.followText "set-order")) }).objs.size := by
          rw [Heap.size_push]; exact Nat.ne_of_lt (Nat.lt_succ_of_lt l_lt)
        have S_no : s.heap.objs.size ∉ [(s.heap.push { cls := .type "set", dict := none, data := .set #[] 0 (.fresh 0 0 (!w.params.followText "set-order")) }).objs.size, l] := by
          rw [Heap.size_push]; simp only [List.mem_cons, List.not_mem_nil, or_false, not_or]; exact ⟨Nat.ne_of_lt (Nat.lt_succ_self _), Nat.ne_of_gt l_lt⟩
        have n_is : xs.length = items.size := by rw [← StrsAre.len_eq texts, Array.length_toList]
        have vals : ∀ (i : Nat) (v : Value), items[i]? = some v → ∃ t, v = .str (xs.getD i Str.empty) t := fun i v hv => SS.strs_at texts i v (by rw [Array.getElem?_toList]; exact hv)
        refine loopS ((Walks.tuple nh _ l l_ne items).toS) s.heap.objs.size S_no xs n_is (by rw [← n_is]; exact few) vals (items.size - 0) 0 _ (by omega) (Nat.zero_le _) ⟨⟨_, Heap.get?_push_size _ rfl, rfl, rfl⟩, (seq_l.push _)⟩ ?start ?stop
        case start =>
          have still : ((s.heap.push { cls := .type "set", dict := none, data := .set #[] 0 (.fresh 0 0 (!w.params.followText "set-order")) }).push { cls := .type "tuple_iterator", data := .fields #[.ref l, .int 0 0] }).get? s.heap.objs.size = some { cls := .type "set", dict := none, data := .set #[] 0 (.fresh 0 0 (!w.params.followText "set-order")) } := Heap.get?_push_of_some _ at_S
          refine ⟨(#[], 0, .fresh 0 0 (!w.params.followText "set-order")), still, Froz.TxOk.nil rfl, List.Pairwise.nil, ?_⟩
          cases w.params.followText "set-order" with
          | true => exact .inl rfl
          | false => exact .inr rfl
        case stop =>
          intro s' mv hS'
          obtain ⟨h', g', d', tk', os'⟩ := s'
          obtain rfl : g' = s.gens := mv.gens
          obtain rfl : d' = s.drawn := mv.drawn
          obtain rfl : os' = s.os := mv.os
          show wpAny _ _ _ _ _ _
          refine wpAny_pure (?_ : wpAny _ _ (ret Value.none) _ _ _)
          refine wpAny_pure ⟨rfl, h', tk', rfl, hS', fun b o hb e => mv.heap b o ?_ (Heap.get?_push_of_some _ (Heap.get?_push_of_some _ e))⟩
          simp only [List.mem_cons, List.not_mem_nil, or_false, not_or]
          rw [Heap.size_push]
          exact ⟨Nat.ne_of_lt hb, Nat.ne_of_lt (Nat.lt_succ_of_lt hb)⟩
      · cases r₂ with
        | error e => exact hr₂
        | ok fl₂ =>
          cases fl₂ with
          | ret r =>
            obtain ⟨rfl, h', tk, rfl, hS', keep⟩ := hr₂
            repeat (any_goals (first | assumption | wp_step))
            exact h _ _ hS' keep
          | _ => exact hr₂.elim
    | _ => exact hr.elim
end
end GS
end

section
set_option maxRecDepth 100000
set_option maxHeartbeats 2000000
open PySem PySem.Spec PyProof.Rows L2
namespace G
/-! x.extend(a list just made) -/
def eExt (i : Nat) (f : Fe) : Fe := fun ρ => match lstAt i ρ with
  | some _ => (f ρ).bind fun o ρ1 => match o with
    | .lst zs => match lstAt i ρ1 with
      | some os => if os.length + zs.length ≤ big then .ok (.sh .non) (ρ1.set i (some (.lst (os ++ zs)))) else .bad
      | none => .bad
    | _ => .bad
  | none => .bad
section
variable {C : Cn} {P : Fx} {E : WX} {X : Cx} {σ : L2.St} {H H1 H' : Hp} {S S1 S' F F1 A B : Set'} {ρ : Env'} {pos : Pos} {f : Fe} {e : Expr}
theorem RepOs.app : ∀ {vs ws : List V} {os zs : List O} {A Y : Set'}, RepOs C H S vs os A → RepOs C H S ws zs Y → Dj A Y → RepOs C H S (vs ++ ws) (os ++ zs) (Un' A Y)
  | vs, ws, [], zs, A, Y, r, ro, d => by
    obtain ⟨rfl, em⟩ := r
    have : Un' A Y = Y := funext fun a => propext ⟨fun z => z.elim (fun z => (em a z).elim) id, .inr⟩
    rw [this]; exact ro
  | vs, ws, o :: os, zs, A, Y, r, ro, d => by
    obtain ⟨v, t, P, R, rfl, r1, r2, s⟩ := r
    refine ⟨v, t ++ ws, P, Un' R Y, rfl, r1, RepOs.app r2 ro (fun a x y => d a (s.r x) y), fun a => ?_, fun a x y => y.elim (fun y => s.2 a x y) fun y => d a (s.l x) y⟩
    constructor
    · rintro (z | z)
      · exact ((s.1 a).mp z).elim .inl fun z => .inr (.inl z)
      · exact .inr (.inr z)
    · rintro (z | z | z)
      · exact .inl (s.l z)
      · exact .inl (s.r z)
      · exact .inr z
theorem de_ext {i : Nat} {x : Str} {p1 apos : Pos} (he : DE C E X e f) (hN : X.N[i]? = some x := by rfl) (hv : Vis X.env.scope x := by first | exact Or.inl rfl | exact Or.inr (Or.inl rfl) | exact Or.inr (Or.inr rfl))
    (hd : (x == ("__debug__" : Str)) = false := by decide) (hcd : (x == ("__classdict__" : Str)) = false := by decide)
    (hbase : attributeBase (.Name x p1) "extend" X.env (eval (.Name x p1) X.env) = eval (.Name x p1) X.env := by rfl)
    (hfew : ((backTo pos (starEach [e] X.env)).all (fun x => !x.1) && (backToKw pos (keywordEach [] X.env)).all (fun x => x.1.isSome)
      && decide ([e].length + ([] : List Keyword).length + (if ([] : List Keyword).isEmpty then 0 else 1) < 30)) = true := by rfl)
    (hline : (apos.endLine == pos.line) = true := by rfl) (hs : starEach [e] X.env = (false, eval e X.env) :: starEach [] X.env := by rfl) (hplain : (backTo pos (starEach [] X.env)).any (·.1) = false := by rfl) :
    DE C E X (.Call (.Attribute (.Name x p1) "extend" apos) [e] [] pos) (eExt i f) := by
  refine pe_imp (pe_bm PySem.F.plainAttrs_list PySem.F.slot_list_extend PySem.F.type_list_extend mt_extend (pe_var hN hv hd hcd) (pa_cons he pa_nil hs) hbase hfew hline hs hplain) fun σ H Q ⟨ρ, S, F, he, w, q⟩ => ?_
  unfold eExt at q
  cases e0 : lstAt i ρ with
  | none => rw [e0] at q; exact q.elim
  | some os0 =>
    rw [e0] at q
    obtain ⟨v0, A0, B0, ev, r0, _, _, _⟩ := own_at he (lstAt_eq e0)
    obtain ⟨a, vs0, A1, rfl, h0, _, _⟩ := r0
    refine ⟨.ref a, ev, .inl ⟨rfl, vs0, SqL.of h0⟩, ρ, S, F, he, w, ?_⟩
    cases ef : f ρ with
    | bad => rw [ef] at q; exact q
    | exc x ρ' => rw [ef] at q; exact q
    | ok o ρ1 =>
      rw [ef] at q
      simp only [bind_ok] at q
      intro v H1 S1 F1 Y he1 r1 w1 d1 fr1
      cases o with
      | sh d => exact q.elim
      | dct l => exact q.elim
      | ins c l => exact q.elim
      | lst zs =>
        simp only [] at q
        cases e1 : lstAt i ρ1 with
        | none => rw [e1] at q; exact q.elim
        | some os =>
          rw [e1] at q
          by_cases hl : os.length + zs.length ≤ big
          · simp only [hl, if_true] at q
            obtain ⟨b, ws, Z, rfl, hb, rz, sY⟩ := r1
            obtain ⟨v', A, B, ev', r, rfl, dAB, he2, hi, dYA, dYB⟩ := tmp_own he1 d1 w1 (lstAt_eq e1)
            rw [ev] at ev'
            cases ev'
            obtain ⟨a', vs, G, ea, h1, r2, sG⟩ := r
            injection ea with ea
            subst ea
            have eA := sG.un
            subst eA
            refine ⟨a, b, vs, ws, rfl, rfl, h1, hb, by rw [r2.len, rz.len]; exact big_line hl, ?_⟩
            have dGZ : Dj G Z := fun c x y => dYA c (sY.r y) (.inr x)
            have mem : ∀ c, Un' (fun c => c = a) (Un' (Un' G Z) B) c → Un' Y (Un' (Un' (fun c => c = a) G) B) c := fun c z => by
              rcases z with z | (z | z) | z
              · exact .inr (.inl (.inl z))
              · exact .inr (.inl (.inr z))
              · exact .inl (sY.r z)
              · exact .inr (.inr z)
            have nG : ¬ Un' G Z a := fun z => z.elim (fun z => sG.2 a rfl z) fun z => dYA a (sY.r z) (.inl rfl)
            have nB : ¬ B a := fun z => dAB a (.inl rfl) z
            obtain ⟨k1, k2, k3⟩ := own_write (u := .lst (vs ++ ws)) (o := .lst (os ++ zs)) (G := Un' G Z) he2 hi ev trivial ⟨fun c z => w1.mu c (mem c z), fun c z => w1.ns c (mem c z), w1.so⟩ nG nB (fun c x y => x.elim (fun x => dAB c (.inr x) y) fun x => dYB c (sY.r x) y) (fr1.less mem) fun k kk =>
              ⟨a, vs ++ ws, Un' G Z, rfl, upd_same, RepOs.app (r2.mono k fun c z => kk c (.inl z)) (rz.mono k fun c z => kk c (.inr z)) dGZ, fun c => Iff.rfl, fun c z1 z2 => nG (z1 ▸ z2)⟩
            exact q .non _ S1 _ No k1 ⟨emp_no, rfl⟩ (wf_no k2) dj_no (fr_no k3)
          · simp only [hl, if_false] at q
end
end G
end

section
set_option maxRecDepth 100000
set_option maxHeartbeats 2000000
open PySem PySem.Spec PyProof.Rows L2
namespace G
/-! repr, str of scalars -/
def reprG : List D → Option O
  | [.non] => some (sO "None")
  | [.bl b] => some (sO (if b then "True" else "False"))
  | [.int i] => if i.natAbs.log2 < 1920 then some (sO (toString i)) else none
  | [.str x] => if (reprText x).length ≤ big then some (sO (reprText x)) else none
  | _ => none
def strG : List D → Option O
  | [.non] => some (sO "None")
  | [.bl b] => some (sO (if b then "True" else "False"))
  | [.int i] => if i.natAbs.log2 < 1920 then some (sO (toString i)) else none
  | [.str x] => some (sO x)
  | _ => none
theorem bt_repr : bootBuiltins "repr" = some (.builtin "repr") := by first | boot_by_name | rfl | kernel_rfl
section
variable {C : Cn} {X : Cx} {σ : L2.St} {H : Hp} {S : Set'}
theorem og_repr (ok : OkX C X) : CallR X (.builtin "repr") (rVn C reprG) := by
  intro pins s σ H xs us Q I r ⟨S, ds, so, rd, o, eo, q⟩
  unfold reprG at eo
  split at eo
  · obtain ⟨x, rfl, r1⟩ := reps1 rd
    have e1 : x = .non := r1
    subst e1
    obtain ⟨u, rfl, ru⟩ := vals1 r
    obtain rfl : u = Value.none := ru
    exact PySem.P.repr_of_none ⟨.str _, H, I.tok _, ⟨_, rfl⟩, q_sc so q (Option.some.inj eo).symm rfl⟩
  · obtain ⟨x, rfl, r1⟩ := reps1 rd
    have e1 : x = .bl _ := r1
    subst e1
    obtain ⟨u, rfl, ru⟩ := vals1 r
    obtain rfl : u = Value.bool _ := ru
    exact PySem.P.repr_of_bool ⟨.str _, H, I.tok _, ⟨_, rfl⟩, q_sc so q (Option.some.inj eo).symm rfl⟩
  · split at eo
    · next h =>
      obtain ⟨x, rfl, r1⟩ := reps1 rd
      have e1 : x = .int _ := r1
      subst e1
      obtain ⟨u, rfl, t, rfl⟩ := vals1 r
      exact PySem.P.repr_of_int h ⟨.str _, H, I.tok _, ⟨_, rfl⟩, q_sc so q (Option.some.inj eo).symm rfl⟩
    · cases eo
  · split at eo
    · next h =>
      obtain ⟨x, rfl, r1⟩ := reps1 rd
      have e1 : x = .str _ := r1
      subst e1
      obtain ⟨u, rfl, t, rfl⟩ := vals1 r
      exact PySem.P.repr_of_str ⟨.str _, H, I.tok _, ⟨_, rfl⟩, q_sc so q (Option.some.inj eo).symm rfl⟩ (big_line h)
    · cases eo
  · cases eo
theorem og_str (ok : OkX C X) : CallR X (.type "str") (rVn C strG) := by
  intro pins s σ H xs us Q I r ⟨S, ds, so, rd, o, eo, q⟩
  unfold strG at eo
  split at eo
  · obtain ⟨x, rfl, r1⟩ := reps1 rd
    have e1 : x = .non := r1
    subst e1
    obtain ⟨u, rfl, ru⟩ := vals1 r
    obtain rfl : u = Value.none := ru
    exact PySem.P.str_of_none ⟨.str _, H, I.tok _, ⟨_, rfl⟩, q_sc so q (Option.some.inj eo).symm rfl⟩
  · obtain ⟨x, rfl, r1⟩ := reps1 rd
    have e1 : x = .bl _ := r1
    subst e1
    obtain ⟨u, rfl, ru⟩ := vals1 r
    obtain rfl : u = Value.bool _ := ru
    exact PySem.P.str_of_bool ⟨.str _, H, I.tok _, ⟨_, rfl⟩, q_sc so q (Option.some.inj eo).symm rfl⟩
  · split at eo
    · next h =>
      obtain ⟨x, rfl, r1⟩ := reps1 rd
      have e1 : x = .int _ := r1
      subst e1
      obtain ⟨u, rfl, t, rfl⟩ := vals1 r
      exact PySem.P.str_of_int h ⟨.str _, H, I.tok _, ⟨_, rfl⟩, q_sc so q (Option.some.inj eo).symm rfl⟩
    · cases eo
  · obtain ⟨x, rfl, r1⟩ := reps1 rd
    have e1 : x = .str _ := r1
    subst e1
    obtain ⟨u, rfl, t, rfl⟩ := vals1 r
    exact PySem.P.str_of_str ⟨.str _, H, I, ⟨t, rfl⟩, q_sc so q (Option.some.inj eo).symm rfl⟩
  · cases eo
end
end G
end

section
set_option maxRecDepth 100000
set_option maxHeartbeats 2000000
open PySem PySem.Spec PyProof.Rows L2
namespace G
/-! len(set(x)), x a list or tuple of texts: the set itself is not kept -/
def tLenS (K : PySem.W.Frag) (ta : TE) : TE := fun σ H Q => ta σ H fun x H1 => ∃ l, ∃ ys : List Str, x = .ref l ∧ (SqL K H1 l (ys.map V.str) ∨ SqT K H1 l (ys.map V.str)) ∧ ys.length + 1 < scanBound ∧ Q (.int (GS.dl ys).length) H1
def setB : Nat := 4000
def lenSetG : D → Option O
  | .lst l => (strsD l).bind fun ys => if ys.length < setB then some (iO (GS.dl ys).length) else none
  | .tup l => (strsD l).bind fun ys => if ys.length < setB then some (iO (GS.dl ys).length) else none
  | _ => none
section
variable {C : Cn} {E : WX} {X : Cx} {a : Expr} {ta : TE} {p p2 q pos : Pos} {f : Fe}
theorem pe_lenS (hc : X.calm = true) (hg : Gl X "len") (hm : X.mg "len" = none) (hg2 : Gl X "set") (hm2 : X.mg "set" = none) (ha : PE X a ta)
    (na : starEach [a] X.env = (false, eval a X.env) :: starEach [] X.env := by rfl) : PE X (.Call (.Name "len" p) [.Call (.Name "set" p2) [a] [] q] [] pos) (tLenS X.K ta) := by
  refine ⟨fun pins s σ H Q I h => Call_ (ld_blt I hg hm boot_len ?_)⟩
  refine PyProof.Rows.callWith_builtin1 (PyProof.Rows.args_cons (Call_ (ld_blt I hg2 hm2 boot_set ?_)) rfl) rfl rfl
  refine PyProof.Rows.callWith_type1 (PyProof.Rows.args_cons (thn (ha.run pins s σ H _ I h) fun v s1 ⟨x, H1, I1, r1, q1⟩ => PyProof.Rows.args_nil ?_) na) na rfl
  obtain ⟨l, xs, rfl, hq, h1, q1⟩ := q1
  cases r1
  have last : ∀ (h' : Heap) (tk : Nat), GS.TxS X.prog X.w h' s1.heap.objs.size (GS.dl xs) → (∀ b o, b < s1.heap.objs.size → s1.heap.get? b = some o → h'.get? b = some o) →
      wpAny (model X.prog X.w) X.A (spliced (backTo pos (starEach [] X.env))) (fun vs s₂ => wpAny (model X.prog X.w) X.A (call (.builtin "len") (Value.ref s1.heap.objs.size :: vs)) (EP X pins σ Q) X.xe s₂) X.xe { s1 with heap := h', toks := tk } := fun h' tk hS hk => by
    refine PyProof.Rows.args_nil ?_
    obtain ⟨⟨es, ep, t⟩, ho, F, _, _⟩ := hS.ex
    have hn : es.size = (GS.dl xs).length := F.sz
    have I2 : Inv X pins σ H1 { s1 with heap := h', toks := tk } := I1.kept fun b o e => hk b o (Heap.lt_size e) e
    have lt : (GS.dl xs).length < 2 ^ 62 := by
      have := GS.dl_le xs []
      have hb : scanBound ≤ 2 ^ 62 := by decide
      unfold GS.dl
      simp at this
      omega
    refine call_len_set ho ⟨rfl, rfl, rfl⟩ rfl F.fit (by rw [hn]; omega) ⟨.int (GS.dl xs).length, H1, I2.tok _, ⟨_, by rw [hn]⟩, q1⟩
  rcases hq with hq | hq
  · obtain ⟨its, r, pl, _⟩ := I1.list hq
    exact GS.set_list (I1.ok.hd hc) pl.isList (by simpa using strsAre_of r) h1 last
  · obtain ⟨its, r, pl, _⟩ := I1.tuple hq
    exact GS.set_tuple (I1.ok.hd hc) pl (by simpa using strsAre_of r) h1 last
theorem big_scan {n : Nat} (h : n < setB) : n + 1 < scanBound := Nat.lt_of_le_of_lt (Nat.succ_le_of_lt h) (by decide)
theorem de_lenS (ok : OkX C X) (hm : X.mg "len" = none) (hm2 : X.mg "set" = none) (ha : DE C E X a f) (hg : Gl X "len" := by rfl) (hg2 : Gl X "set" := by rfl)
    (na : starEach [a] X.env = (false, eval a X.env) :: starEach [] X.env := by rfl) : DE C E X (.Call (.Name "len" p) [.Call (.Name "set" p2) [a] [] q] [] pos) (e1 lenSetG f) := by
  refine pe_imp (pe_lenS ok.calm hg hm hg2 hm2 ha na) fun σ H Q q => ?_
  have q' := r1_of q
  obtain ⟨ρ, S, F, he, w, q'⟩ := q'
  refine ⟨ρ, S, F, he, w, ?_⟩
  cases ef : f ρ with
  | bad => rw [ef] at q'; exact q'
  | exc x ρ' => rw [ef] at q'; exact q'
  | ok o ρ1 =>
    rw [ef] at q'
    intro v H' S' F' A a1 a2 a3 a4 a5
    obtain ⟨S2, d, so, rd, o', eo, q2⟩ := q' v H' S' F' A a1 a2 a3 a4 a5
    unfold lenSetG at eo
    split at eo
    · obtain ⟨ys, ey, eo⟩ := Option.bind_eq_some_iff.mp eo
      split at eo
      · next hl =>
        obtain ⟨b, vs, rfl, h1, hr⟩ := rd
        have := strs_rep ey hr
        subst this
        exact ⟨b, ys, rfl, .inl (lst_sq ok.K h1), big_scan hl, q_sc so q2 (Option.some.inj eo).symm rfl⟩
      · cases eo
    · obtain ⟨ys, ey, eo⟩ := Option.bind_eq_some_iff.mp eo
      split at eo
      · next hl =>
        obtain ⟨b, vs, rfl, h1, hr⟩ := rd
        have := strs_rep ey hr
        subst this
        exact ⟨b, ys, rfl, .inr (tup_sq ok.K h1), big_scan hl, q_sc so q2 (Option.some.inj eo).symm rfl⟩
      · cases eo
    · cases eo
end
end G
end

section
set_option maxRecDepth 100000
set_option maxHeartbeats 2000000
open PySem PySem.Spec PyProof.Rows L2
namespace G
/-! dicts under a name: an empty one is taken for either kind of keys -/
section
variable {X : Cx} {pins : List (Addr × Obj)} {σ : L2.St} {H : Hp} {s : Shared} {a : Addr}
theorem pairs_nil {prog : Program} {w : World} {K : Type} [DecidableEq K] {knd : PySem.KeyKind prog w K} : ∀ {l : List DictEntry}, Pairs knd l [] → l = []
  | [], _ => rfl
  | _ :: _, h => nomatch h
theorem cast_T (I : Inv X pins σ H s) (e : H a = some (.dK [])) : Inv X pins σ (upd H a (.dT [])) s := by
  obtain ⟨z, hd, vs, rel, o, es, ep, h1, h2, h3, _, h4, h5⟩ := dk_of I.hok e
  cases rel
  exact d_write (t' := s.toks) I (by rw [e]; exact True.intro) ⟨rfl, fun b _ => rfl⟩ ⟨o, h1⟩ ⟨Nat.zero_le _, hd, [], .nil, o, es, ep, h1, h2, h3, pairs_nil h4, List.nodup_nil⟩
theorem cast_K (I : Inv X pins σ H s) (e : H a = some (.dT [])) : Inv X pins σ (upd H a (.dK [])) s := by
  obtain ⟨z, hd, vs, rel, o, es, ep, h1, h2, h3, h4, _, h5⟩ := dt_of I.hok e
  cases rel
  have h6 : es = #[] := Array.toList_inj.mp (show es.toList = [] from h4)
  subst h6
  exact d_write (t' := s.toks) I (by rw [e]; exact True.intro) ⟨rfl, fun b _ => rfl⟩ ⟨o, h1⟩ ⟨Nat.zero_le _, hd, [], .nil, o, #[], ep, h1, h2, h3, fun x hx => absurd hx (by simp), .nil, List.nodup_nil⟩
/-- after e, an empty dict somewhere is taken for one with keys of the other kind -/
def tCast (td : TE) : TE := fun σ H Q => td σ H fun x H1 => Q x H1 ∨ ∃ a, (H1 a = some (.dK []) ∧ Q x (upd H1 a (.dT []))) ∨ (H1 a = some (.dT []) ∧ Q x (upd H1 a (.dK [])))
theorem pe_cast {e : Expr} {td : TE} (h : PE X e td) : PE X e (tCast td) := ⟨fun pins s σ H Q I q => thn (h.run pins s σ H _ I q) fun v s1 ⟨x, H1, I1, r1, q1⟩ => by
  rcases q1 with q1 | ⟨a, ⟨e1, q1⟩ | ⟨e1, q1⟩⟩
  · exact ⟨x, H1, I1, r1, q1⟩
  · exact ⟨_, _, cast_T I1 e1, r1, q1⟩
  · exact ⟨_, _, cast_K I1 e1, r1, q1⟩⟩
end
end G
end

section
set_option maxRecDepth 100000
set_option maxHeartbeats 2000000
open PySem PySem.Spec PyProof.Rows L2
namespace G
/-! {} -/
def eDnew : Fe := fun ρ => .ok (.dct []) ρ
section
variable {C : Cn} {E : WX} {X : Cx} {pos : Pos}
theorem de_dnew : DE C E X (.Dict [] [] pos) eDnew := pe_imp pe_dnewK fun σ H Q ⟨ρ, S, F, he, w, q⟩ p hp => by
  obtain ⟨h1, w1, d1, f1⟩ := alc_step he w Fr.refl (Alc.own (o := .dK []) w.so hp trivial)
  exact q _ _ _ _ _ h1 ⟨p, No, rfl, List.nodup_nil, .inl ⟨[], upd_same, rfl, emp_no⟩, ⟨fun a => ⟨.inl, fun z => z.elim id False.elim⟩, fun a _ z => z⟩⟩ w1 d1 f1
end
end G
end

section
set_option maxRecDepth 100000
set_option maxHeartbeats 2000000
open PySem PySem.Spec PyProof.Rows L2
namespace G
/-! x[k] = e, x a slot with an owned dict -/
def keysD : List D → Option (List Key)
  | [] => some []
  | d :: l => (keyD d).bind fun k => (keysD l).map (k :: ·)
def kdD : D → Option Kd
  | .tup l => (keysD l).map .inr
  | d => (keyD d).map .inl
theorem keysD_rep {C : Cn} {H : Hp} {S : Set'} : ∀ {l : List D} {ks : List Key} {vs : List V}, keysD l = some ks → RepDs C H S vs l → vs = ks.map kV
  | [], ks, vs, h, r => by cases h; exact r
  | d :: l, ks, vs, h, r => by
    obtain ⟨v, q, rfl, r1, r2⟩ := r
    obtain ⟨k, e1, e2⟩ := Option.bind_eq_some_iff.mp h
    obtain ⟨k2, e3, e4⟩ := Option.map_eq_some_iff.mp e2
    subst e4
    rw [List.map_cons, ← keysD_rep e3 r2, keyD_rep e1 r1]
def dctAt (i : Nat) (ρ : Env') : Option (List (Kd × O)) := match ρ[i]? with
  | some (some (.dct os)) => some os
  | _ => none
theorem dctAt_eq {i : Nat} {ρ : Env'} {os : List (Kd × O)} (h : dctAt i ρ = some os) : ρ[i]? = some (some (.dct os)) := by
  unfold dctAt at h
  split at h
  · next e => cases h; exact e
  · cases h
def sideOk (j : Kd) (os : List (Kd × O)) : Bool := os.all fun p => p.1.isLeft == j.isLeft
def sPutD (i : Nat) (fk fe : Fe) : Fs := fun ρ => (fe ρ).then' fun o ρ1 => match dctAt i ρ1 with
  | some _ => (fk ρ1).then' fun k ρ2 => match dctAt i ρ2 with
    | some os => match kdD k.toD with
      | some j => if sideOk j os = true ∧ os.length < big then .nx (ρ2.set i (some (.dct (putO os j o)))) else .bad
      | none => .bad
    | none => .bad
  | none => .bad
section
variable {C : Cn} {H : Hp} {S A : Set'} {os : List (Kd × O)}
theorem side_T {vs : List (List Key × V)} {j : Key} (r : RepOT C H S vs os A) (h : sideOk (.inl j) os = true) : os = [] ∧ vs = [] := by
  cases os with
  | nil => exact ⟨rfl, r.1⟩
  | cons p os =>
    obtain ⟨k, o⟩ := p
    obtain ⟨j', v, q, P, R, rfl, rfl, _⟩ := r
    simp [sideOk] at h
theorem side_K {vs : List (Key × V)} {j : List Key} (r : RepOK C H S vs os A) (h : sideOk (.inr j) os = true) : os = [] ∧ vs = [] := by
  cases os with
  | nil => exact ⟨rfl, r.1⟩
  | cons p os =>
    obtain ⟨k, o⟩ := p
    obtain ⟨j', v, q, P, R, rfl, rfl, _⟩ := r
    simp [sideOk] at h
theorem upd_upd {a : Addr} {u w : HO} : upd (upd H a u) a w = upd H a w := by
  funext b
  by_cases e : b = a
  · subst e; rw [upd_same, upd_same]
  · rw [upd_ne e, upd_ne e, upd_ne e]
end
end G
end

section
set_option maxRecDepth 100000
set_option maxHeartbeats 2000000
open PySem PySem.Spec PyProof.Rows L2
namespace G
section
variable {C : Cn} {P : Fx} {E : WX} {X : Cx} {σ : L2.St} {H H1 : Hp} {S S1 F F1 A B : Set'} {ρ : Env'} {e k : Expr} {pos : Pos} {f h : Fe}
theorem ds_putD {i : Nat} {x : Str} {p1 tpos : Pos} (hu : X.A.units + 1 < cLine) (hN : X.N[i]? = some x) (hv : Vis X.env.scope x) (he : DE C E X e f) (hk : DE C E X k h)
    (hd : (x == ("__debug__" : Str)) = false := by decide) (hcd : (x == ("__classdict__" : Str)) = false := by decide)
    (hs : swapsWith e (some (.Subscript (.Name x p1) k tpos)) pos.line X.env = pure false := by rfl) :
    DS C P E X (.Assign [.Subscript (.Name x p1) k tpos] e pos) (sPutD i h f) := by
  refine ps_imp (ps_dput hu (pe_var hN hv hd hcd) (pe_cast hk) he hs) fun D σ H ⟨ρ, S, F, he, w, p, q⟩ => rE_then he w p q fun o ρ1 ef y H1 S1 F1 Y he1 r1 w1 d1 fr1 q => ?_
  cases e0 : dctAt i ρ1 with
  | none => rw [e0] at q; exact q.elim
  | some os0 =>
    rw [e0] at q
    obtain ⟨v0, A0, B0, ev, r0, _, _, _⟩ := own_at he1 (dctAt_eq e0)
    obtain ⟨a, A1, rfl, _⟩ := r0
    refine ⟨.ref a, ev, ρ1, S1, F1, he1, w1.drop, ?_⟩
    cases eh : h ρ1 with
    | bad => rw [eh] at q; exact q.elim
    | exc x ρ' =>
      rw [eh] at q
      exact fun c d H2 S2 F2 he2 w2 fr2 rx => q c d σ H2 S2 F2 he2 w2 p (fr1.drop.trans fr2) rx
    | ok ko ρ2 =>
      rw [eh] at q
      simp only [then_ok] at q
      intro kv H2 S2 F2 Z he2 rk w2 d2 fr2
      obtain ⟨ka, d3, w3, fr3, kp⟩ := fr_tmp w1 d1 fr1 fr2.drop w2.drop
      have ry := r1.mono kp ka
      have rkd := rk.share (S' := Un' S2 Z) (fun _ => .inl) fun _ => .inr
      cases e1 : dctAt i ρ2 with
      | none => rw [e1] at q; exact q.elim
      | some os =>
        rw [e1] at q
        cases ei : kdD ko.toD with
        | none => simp only [ei] at q; exact q.elim
        | some j =>
          simp only [ei] at q
          split at q
          · next hc =>
            obtain ⟨hsd, hbig⟩ := hc
            obtain ⟨v', A, B, ev', r, rfl, dAB, he3, hi, dYA, dYB⟩ := tmp_own he2 d3 w3 (dctAt_eq e1)
            rw [ev] at ev'
            cases ev'
            obtain ⟨a', G, ea, nd, r2, sG⟩ := r
            injection ea with ea
            subst ea
            have eA := sG.un
            subst eA
            have dGY : Dj G Y := fun b x y => dYA b y (.inr x)
            have eq1 : Un' Y (Un' (Un' (fun b => b = a) G) B) = Un' (fun b => b = a) (Un' (Un' G Y) B) := by
              funext b; apply propext; constructor
              · rintro (h | (h | h) | h)
                · exact .inr (.inl (.inr h))
                · exact .inl h
                · exact .inr (.inl (.inl h))
                · exact .inr (.inr h)
              · rintro (h | (h | h) | h)
                · exact .inr (.inl (.inl h))
                · exact .inr (.inl (.inr h))
                · exact .inl h
                · exact .inr (.inr h)
            rw [eq1] at w3 fr3
            have nG0 : ¬ Un' G Y a := fun z => z.elim (fun z => sG.2 a rfl z) fun z => dYA a z (.inl rfl)
            have nB : ¬ B a := fun z => dAB a (.inl rfl) z
            have fin : ∀ (u : HO) (G' : Set'), Mut (some u) → (∀ b, G' b → Un' G Y b) → (Kp H2 S2 (upd H2 a u) S2 → (∀ b, G' b → upd H2 a u b = H2 b) → RepO C (upd H2 a u) S2 (.ref a) (.dct (putO os j o)) (fun b => b = a ∨ G' b)) → D.nx σ (upd H2 a u) := fun u G' mu sub new => by
              have lessU : ∀ b, Un' (fun b => b = a) (Un' G' B) b → Un' (fun b => b = a) (Un' (Un' G Y) B) b := fun b z => z.elim .inl fun z => .inr (z.elim (fun z => .inl (sub b z)) .inr)
              have nG : ¬ G' a := fun z => nG0 (sub a z)
              have dGB : Dj G' B := fun b x y => (sub b x).elim (fun x => dAB b (.inr x) y) fun x => dYB b x y
              obtain ⟨k1, k2, k3⟩ := own_write (u := u) (o := .dct (putO os j o)) (G := G') he3 hi ev mu ⟨fun b z => w3.mu b (lessU b z), fun b z => w3.ns b (lessU b z), w3.so⟩ nG nB dGB (fr3.less lessU) new
              exact q σ _ S2 _ k1 k2 p k3
            have line : os.length < sizeLine := Nat.lt_of_lt_of_le hbig (big_line (Nat.le_refl _))
            cases j with
            | inl j =>
              have ey : kv = kV j := by
                generalize hko : ko.toD = kd at ei rkd
                cases kd <;> simp [kdD, keysD] at ei
                all_goals exact keyD_rep (by first | exact ei | (simp [keyD]; exact ei)) rkd
              rcases r2 with ⟨kvs, hl, r2⟩ | ⟨kvs, hl, r2⟩
              · obtain ⟨G', rs, sub⟩ := RepOK.put (k := j) r2 nd ry dGY
                exact .inl ⟨a, _, rfl, .inl ⟨kvs, j, hl, ey, by rw [r2.len]; exact line, rfl⟩, fin _ G' trivial sub fun kk k => ⟨a, G', rfl, putO_nd nd, .inl ⟨_, upd_same, rs.mono kk k⟩, fun b => Iff.rfl, fun b z1 z2 => nG0 (sub a (z1 ▸ z2))⟩⟩
              · obtain ⟨rfl, rfl⟩ := side_T r2 hsd
                have r3 : RepOK C H2 S2 [] [] G := ⟨rfl, r2.2⟩
                obtain ⟨G', rs, sub⟩ := RepOK.put (k := j) r3 nd ry dGY
                exact .inr ⟨a, .inr ⟨hl, a, _, rfl, .inl ⟨[], j, upd_same, ey, Nat.lt_of_le_of_lt (Nat.zero_le _) line, rfl⟩, by
                  rw [upd_upd]
                  exact fin _ G' trivial sub fun kk k => ⟨a, G', rfl, putO_nd nd, .inl ⟨_, upd_same, rs.mono kk k⟩, fun b => Iff.rfl, fun b z1 z2 => nG0 (sub a (z1 ▸ z2))⟩⟩⟩
            | inr j =>
              have ey : ∃ b, kv = .ref b ∧ H2 b = some (.tup (j.map kV)) := by
                generalize hko : ko.toD = kd at ei rkd
                cases kd <;> simp [kdD, keyD] at ei
                obtain ⟨b, vs, rfl, hb, rr⟩ := rkd
                exact ⟨b, rfl, by rw [hb, keysD_rep ei rr]⟩
              obtain ⟨b, rfl, hb⟩ := ey
              rcases r2 with ⟨kvs, hl, r2⟩ | ⟨kvs, hl, r2⟩
              · obtain ⟨rfl, rfl⟩ := side_K r2 hsd
                have r3 : RepOT C H2 S2 [] [] G := ⟨rfl, r2.2⟩
                obtain ⟨G', rs, sub⟩ := RepOT.put (k := j) r3 nd ry dGY
                have nb : b ≠ a := fun z => by rw [z, hl] at hb; cases hb
                exact .inr ⟨a, .inl ⟨hl, a, _, rfl, .inr ⟨[], j, b, upd_same, rfl, by rw [upd_ne nb]; exact hb, Nat.lt_of_le_of_lt (Nat.zero_le _) line, rfl⟩, by
                  rw [upd_upd]
                  exact fin _ G' trivial sub fun kk k => ⟨a, G', rfl, putO_nd nd, .inr ⟨_, upd_same, rs.mono kk k⟩, fun b => Iff.rfl, fun b z1 z2 => nG0 (sub a (z1 ▸ z2))⟩⟩⟩
              · obtain ⟨G', rs, sub⟩ := RepOT.put (k := j) r2 nd ry dGY
                exact .inl ⟨a, _, rfl, .inr ⟨kvs, j, b, hl, rfl, hb, by rw [r2.len]; exact line, rfl⟩, fin _ G' trivial sub fun kk k => ⟨a, G', rfl, putO_nd nd, .inr ⟨_, upd_same, rs.mono kk k⟩, fun b => Iff.rfl, fun b z1 z2 => nG0 (sub a (z1 ▸ z2))⟩⟩
          · exact q.elim
end
end G
end

section
set_option maxRecDepth 100000
set_option maxHeartbeats 2000000
open PySem PySem.Spec PyProof.Rows L2
namespace G
/-! k in x, x a dict that may be empty -/
def gInD (x y : D) : Option O := match y with
  | .dct [] => (kdOf x).map fun _ => bO false
  | y => gIn x y
def gNinD (x y : D) : Option O := match y with
  | .dct [] => (kdOf x).map fun _ => bO true
  | y => gNin x y
section
variable {C : Cn} {X : Cx} {pins : List (Addr × Obj)} {σ : L2.St} {H : Hp} {S : Set'} {s : Shared} {a : Addr}
theorem emp_KT (I : Inv X pins σ H s) (e : Rd H a (.dK []) ∨ Rd H a (.dT [])) : (a == sysModules) = false ∧ s.heap.DictOf (mixKind X.prog X.w) a [] ∧ s.heap.DictOfH (tupleKind (mixKind X.prog X.w)) a [] := by
  rcases e with e | e
  · obtain ⟨z, hd, vs, rel, dd⟩ := dk_rd I.hok e
    cases rel
    obtain ⟨o, es, ep, h1, h2, h3, _, h4, h5⟩ := id dd
    exact ⟨hd, dd, o, es, ep, h1, h2, h3, pairs_nil h4, fun x hx => (List.not_mem_nil hx).elim, List.nodup_nil⟩
  · obtain ⟨z, hd, xs, rel, dd⟩ := dt_rd I.hok e
    cases rel
    obtain ⟨o, es, ep, h1, h2, h3, h4, h5⟩ := id dd
    have h6 : es = #[] := Array.toList_inj.mp (show es.toList = [] from h4)
    subst h6
    exact ⟨hd, ⟨o, #[], ep, h1, h2, h3, fun x hx => absurd hx (by simp), .nil, List.nodup_nil⟩, dd⟩
/-- a key, as a value -/
theorem key_cases {d : D} {k : Kd} {y : V} {v : Value} (I : Inv X pins σ H s) (ek : kdOf d = some k) (rk : RepD C H S y d) (ry : RelV y v) :
    (∃ k : Key, (mixKind X.prog X.w).is k v = true) ∨ ∃ (ks : List Key) (b : Addr), v = .ref b ∧ (tupleKind (mixKind X.prog X.w)).is s.heap ks b := by
  cases k with
  | inl k =>
    have ey : y = kV k := by
      cases d <;> simp [kdOf] at ek
      · subst ek; exact rk
      · subst ek; exact rk
    subst ey
    exact .inl ⟨k, kV_is ry⟩
  | inr ks =>
    have ey : ∃ m, d = .tup m ∧ optAll keyOf m = some ks := by
      cases d <;> simp [kdOf] at ek
      exact ⟨_, rfl, ek⟩
    obtain ⟨m, rfl, hm⟩ := ey
    obtain ⟨b, vs, rfl, hb, hr2⟩ := rk
    have e2 := keys_rep hr2 hm
    subst e2
    exact .inr ⟨ks, b, (by cases ry; rfl), key_of I.hok hb⟩
end
section
variable {C : Cn} {X : Cx}
theorem emp_rep {H : Hp} {S : Set'} {a : Addr} (h : (∃ kvs, Rd H a (.dK kvs) ∧ RepK C H S kvs []) ∨ (∃ kvs, Rd H a (.dT kvs) ∧ RepT C H S kvs [])) : Rd H a (.dK []) ∨ Rd H a (.dT []) := by
  rcases h with ⟨kvs, h, e⟩ | ⟨kvs, h, e⟩
  · cases (show kvs = [] from e); exact .inl h
  · cases (show kvs = [] from e); exact .inr h
theorem og_inD (ok : OkX C X) : OpR X (compareOp .In) (rV2 C gInD) := by
  intro pins s σ H x y v u Q I rx ry ⟨S, dx, dy, so, r1, r2, o, eo, q⟩
  by_cases he : dy = .dct []
  · subst he
    simp only [gInD, Option.map_eq_some_iff] at eo
    obtain ⟨k, ek, rfl⟩ := eo
    obtain ⟨a, ea, hh⟩ := id r2
    subst ea
    cases ry
    obtain ⟨hd, d1, d2⟩ := emp_KT I (emp_rep hh.2)
    rcases key_cases I ek r1 rx with ⟨k, hk⟩ | ⟨ks, b, rfl, hb⟩
    · exact wpAny_in_of hk hd d1.mapOf ⟨.bl _, H, I.tok _, rfl, q_sc so q rfl rfl⟩
    · exact wpAny_in_heap (tupleKind_room_in1 (by have := ok.un; omega)) hb hd d2 ⟨.bl _, H, I.tok _, rfl, q_sc so q rfl rfl⟩
  · have e3 : gInD dx dy = gIn dx dy := by
      unfold gInD; split
      · exact absurd rfl he
      · rfl
    rw [e3] at eo
    exact og_in ok pins s σ H x y v u Q I rx ry ⟨S, dx, dy, so, r1, r2, o, eo, q⟩
theorem og_ninD (ok : OkX C X) : OpR X (compareOp .NotIn) (rV2 C gNinD) := by
  intro pins s σ H x y v u Q I rx ry ⟨S, dx, dy, so, r1, r2, o, eo, q⟩
  by_cases he : dy = .dct []
  · subst he
    simp only [gNinD, Option.map_eq_some_iff] at eo
    obtain ⟨k, ek, rfl⟩ := eo
    obtain ⟨a, ea, hh⟩ := id r2
    subst ea
    cases ry
    obtain ⟨hd, d1, d2⟩ := emp_KT I (emp_rep hh.2)
    rcases key_cases I ek r1 rx with ⟨k, hk⟩ | ⟨ks, b, rfl, hb⟩
    · exact wpAny_notIn_of hk hd d1.mapOf ⟨.bl _, H, I.tok _, rfl, q_sc so q rfl rfl⟩
    · exact wpAny_notIn_heap (tupleKind_room_in1 (by have := ok.un; omega)) hb hd d2 ⟨.bl _, H, I.tok _, rfl, q_sc so q rfl rfl⟩
  · have e3 : gNinD dx dy = gNin dx dy := by
      unfold gNinD; split
      · exact absurd rfl he
      · rfl
    rw [e3] at eo
    exact og_nin ok pins s σ H x y v u Q I rx ry ⟨S, dx, dy, so, r1, r2, o, eo, q⟩
end
end G
end

section
set_option maxRecDepth 100000
set_option maxHeartbeats 4000000
open PySem PySem.Spec PyProof.Rows L2
namespace G
/-! sorted(x), x a list or tuple of plain data that are alike -/
mutual
def D.enc : D → PyData
  | .non => .none
  | .bl b => .bool b
  | .int i => .int i
  | .str x => .str x
  | .tup l => .tuple (encs l)
  | .lst l => .list (encs l)
  | _ => .none
def encs : List D → List PyData
  | [] => []
  | d :: l => d.enc :: encs l
end
theorem encs_map : ∀ l : List D, encs l = l.map D.enc
  | [] => rfl
  | d :: l => by show d.enc :: encs l = _; rw [encs_map l]; rfl
mutual
theorem enc_depth : ∀ (n : Nat) (d : D), d.pl n = true → d.enc.depth ≤ n
  | _, .non, _ => Nat.zero_le _
  | _, .bl b, _ => Nat.zero_le _
  | _, .int i, _ => Nat.zero_le _
  | _, .str x, _ => Nat.zero_le _
  | n + 1, .tup l, h => Nat.succ_le_succ (encs_depth n l h)
  | n + 1, .lst l, h => Nat.succ_le_succ (encs_depth n l h)
  | 0, .tup l, h => by simp [D.pl] at h
  | 0, .lst l, h => by simp [D.pl] at h
  | _, .dct l, h => by simp [D.pl] at h
  | _, .ins c l, h => by simp [D.pl] at h
  | _, .exn c l, h => by simp [D.pl] at h
theorem encs_depth : ∀ (n : Nat) (l : List D), plAll n l = true → PyData.depthAll (encs l) ≤ n
  | _, [], _ => Nat.zero_le _
  | n, d :: l, h => by
    have h' : d.pl n = true ∧ plAll n l = true := by simpa [plAll] using h
    have a := enc_depth n d h'.1
    have b := encs_depth n l h'.2
    exact Nat.max_le.mpr ⟨a, b⟩
end
section
variable {C : Cn} {X : Cx} {pins : List (Addr × Obj)} {σ : L2.St} {H : Hp} {S : Set'} {s : Shared}
mutual
theorem rep_reads (I : Inv X pins σ H s) (hK : X.K = C.K) : ∀ (n : Nat) (d : D) (x : V) (v : Value), d.pl n = true → RepD C H S x d → RelV x v → ∃ as, Reads s.heap v d.enc as
  | _, .non, x, v, _, r, rv => by cases (show x = .non from r); cases rv; exact ⟨_, .none⟩
  | _, .bl b, x, v, _, r, rv => by cases (show x = .bl b from r); cases rv; exact ⟨_, .bool b⟩
  | _, .int i, x, v, _, r, rv => by cases (show x = .int i from r); obtain ⟨t, rfl⟩ := rv; exact ⟨_, .int i t⟩
  | _, .str y, x, v, _, r, rv => by cases (show x = .str y from r); obtain ⟨t, rfl⟩ := rv; exact ⟨_, .str y t⟩
  | n + 1, .tup l, x, v, h, r, rv => by
    obtain ⟨a, vs, rfl, h1, hr⟩ := r
    cases rv
    obtain ⟨its, rr, ⟨o, ho, hc, k, hd⟩, _⟩ := I.tuple (tup_sq hK h1)
    obtain ⟨as, q⟩ := reps_reads I hK n l vs its h hr rr
    exact ⟨as, .tuple ho hc hd (by simpa using q)⟩
  | n + 1, .lst l, x, v, h, r, rv => by
    obtain ⟨a, vs, rfl, h1, hr⟩ := r
    cases rv
    obtain ⟨its, rr, p, _⟩ := I.list (lst_sq hK h1)
    obtain ⟨o, ho, hc, k, hd⟩ := p.isList
    obtain ⟨as, q⟩ := reps_reads I hK n l vs its h hr rr
    exact ⟨a :: as, .list ho hc hd (by simpa using q)⟩
  | 0, .tup l, _, _, h, _, _ => by simp [D.pl] at h
  | 0, .lst l, _, _, h, _, _ => by simp [D.pl] at h
  | _, .dct l, _, _, h, _, _ => by simp [D.pl] at h
  | _, .ins c l, _, _, h, _, _ => by simp [D.pl] at h
  | _, .exn c l, _, _, h, _, _ => by simp [D.pl] at h
theorem reps_reads (I : Inv X pins σ H s) (hK : X.K = C.K) : ∀ (n : Nat) (l : List D) (vs : List V) (us : List Value), plAll n l = true → RepDs C H S vs l → Vals vs us → ∃ as, ReadsAll s.heap us (encs l) as
  | _, [], vs, us, _, r, rv => by
    cases (show vs = [] from r); cases rv; exact ⟨_, .nil⟩
  | n, d :: l, vs, us, h, r, rv => by
    obtain ⟨v, q, rfl, r1, r2⟩ := r
    have h' : d.pl n = true ∧ plAll n l = true := by simpa [plAll] using h
    cases rv with
    | cons e t =>
      obtain ⟨as, q1⟩ := rep_reads I hK n d _ _ h'.1 r1 e
      obtain ⟨bs, q2⟩ := reps_reads I hK n l _ _ h'.2 r2 t
      exact ⟨as ++ bs, .cons q1 q2⟩
end
end
/-- x before or like y -/
noncomputable def leD (x y : D) : Bool := W.dataLe false D.enc x y
def isTup1 : D → Bool
  | .tup (_ :: _) => true
  | _ => false
def notNT : D → Bool
  | .non => false
  | .tup _ => false
  | _ => true
/-- data that sorted takes -/
def srtOk (l : List D) : Bool := plAll 60 l && (l.all fun x => l.all fun y => W.alike x.enc y.enc) && (l.all isTup1 || l.all notNT)
open Classical in
noncomputable def sortedG : List D → Option O
  | [.lst l] => if srtOk l = true ∧ l.length ≤ big then some (OL (l.mergeSort leD)) else none
  | [.tup l] => if srtOk l = true ∧ l.length ≤ big then some (OL (l.mergeSort leD)) else none
  | _ => none
theorem srt_able {l : List D} (h : srtOk l = true) : plAll 60 l = true ∧ W.AllAlike (l.map D.enc) ∧ W.Sortable (l.map D.enc) := by
  unfold srtOk at h
  simp only [Bool.and_eq_true, Bool.or_eq_true, List.all_eq_true] at h
  obtain ⟨⟨h1, h2⟩, h3⟩ := h
  refine ⟨h1, fun d hd d' hd' => ?_, ?_⟩
  · obtain ⟨x, hx, rfl⟩ := List.mem_map.mp hd
    obtain ⟨y, hy, rfl⟩ := List.mem_map.mp hd'
    exact h2 x hx y hy
  · rcases h3 with h3 | h3
    · refine .inl fun d hd => ?_
      obtain ⟨x, hx, rfl⟩ := List.mem_map.mp hd
      have := h3 x hx
      unfold isTup1 at this
      split at this
      · exact ⟨_, _, rfl⟩
      · cases this
    · refine .inr fun d hd => ?_
      obtain ⟨x, hx, rfl⟩ := List.mem_map.mp hd
      have := h3 x hx
      have hp := plAll_mem h1 hx
      cases x <;> simp [notNT, D.pl] at this hp <;> exact ⟨by simp [D.enc], fun xs => by simp [D.enc]⟩
end G
end

section
set_option maxRecDepth 100000
set_option maxHeartbeats 4000000
open PySem PySem.Spec PyProof.Rows PySem.W PySem.Calls L2
namespace G
section
variable {prog : Program} {w : World} {A : Around} {E : Value → Shared → Prop} {s : Shared}
/-- the items of a tuple, gathered -/
theorem coll_tuple {l : Addr} {vs : List Value} {Q : List Value → Shared → Prop} (hl : s.heap.IsTuple l vs.toArray) (hz : vs.length ≤ sizeLine)
    (h : Q vs { s with heap := (s.heap.push (seqObj "list" #[] 0)).update s.heap.objs.size (Obj.mapSeq (· ++ vs.toArray)) }) : wpAny (model prog w) A (collect (.ref l)) Q E s := by
  obtain ⟨o, ho, hc, n, hd⟩ := id hl
  have up : (s.heap.push (seqObj "list" #[] 0)).get? l = some o := Heap.get?_push_of_some _ ho
  have top : (s.heap.push (seqObj "list" #[] 0)).get? s.heap.objs.size = some (seqObj "list" #[] 0) := Heap.get?_push_size _ rfl
  unfold collect
  refine wpAny_bind (wpAny_runValue (codeAny_builtin entry_proto_collect' (?_ : wpAny _ _ (do again (.builtin "list.__iadd__" ⟨[← newList [], .ref l], []⟩)) _ _ s)))
  refine wpAny_bind (wpAny_newList (wpAny_pure ⟨Code.quiet_builtin _ (by decide +kernel), codeAny_builtin entry_list_iadd' (?_ : wpAny _ _ (Builtin.List.listExtendWith (.ref s.heap.objs.size) (.ref l) (.ref s.heap.objs.size)) _ _ { s with heap := s.heap.push (seqObj "list" #[] 0) })⟩))
  unfold Builtin.List.listExtendWith
  refine wpAny_bind (wpAny_typeOf (T := "tuple") ⟨o, up, hc⟩ ?_)
  have ht : (Value.type "tuple" == Value.type "tuple") = true := by rfl
  rw [if_pos (by rw [ht]; simp)]
  refine wpAny_bind (listItems_at up hd (wpAny_bind (listItems_at (xs := #[]) (n := 0) top rfl ?_)))
  rw [if_neg (by simp)]
  refine wpAny_bind (listUpdate_at (xs := #[]) (n := 0) top rfl ?_ (Nat.zero_le _) (by show (#[] ++ vs.toArray).size ≤ sizeLine + 1; simp; omega))
  refine wpAny_pure (wpAny_bind (wpAny_load (get?_update_seq top _) ?_))
  have e : ((#[] : Array Value) ++ vs.toArray).toList = vs := by simp
  refine wpAny_pure (?_ : Q ((#[] : Array Value) ++ vs.toArray).toList _)
  rw [e]; exact h
/-- sorted, behind the gathering of its items -/
theorem sorted_coll {β : Type} {R : Value → β → Prop} {enc : β → PyData} {P : List β → Prop} {v : Value} {Q : Value → Shared → Prop}
    (hc : ∀ K : List Value → Shared → Prop, (∀ vs bs s1, (∀ b o, s.heap.get? b = some o → s1.heap.get? b = some o) → s.heap.objs.size ≤ s1.heap.objs.size → s1.gens = s.gens → s1.os = s.os → P bs → EachIs R vs bs → EachIs (fun v b => ∃ as, Reads s1.heap v (enc b) as) vs bs → K vs s1) →
      wpAny (model prog w) A.in1 (collect v) K E s)
    (hok : ∀ bs, P bs → AllAlike (bs.map enc) ∧ Sortable (bs.map enc) ∧ bs.length ≤ sizeLine ∧ ∀ b ∈ bs, A.units + 2 + (enc b).depth < cLine)
    (h : ∀ bs out s' d n, P bs → (∀ b o, s.heap.get? b = some o → s'.heap.get? b = some o) → s'.gens = s.gens → s'.os = s.os → s.heap.objs.size ≤ d → s'.heap.get? d = some (seqObj "list" (List.toArray out) n) → out.length = bs.length → EachIs R out (bs.mergeSort (dataLe false enc)) →
      Q (.ref d) s') : wpAny (model prog w) A (call (.builtin "sorted") [v]) Q E s := by
  refine Calls.call_function_entry kind_sorted plain_sorted entry_sorted (args_sorted1 _) ?_
  unfold Builtin.«sorted»
  refine wpAny_bind (m := checkCount "sorted" 1 1 _) (wpAny_pure (wpAny_bind (hc _ fun vs bs s1 k1 z1 g1 o1 p e er => ?_)))
  obtain ⟨hal, hk, hL, hu⟩ := hok bs p
  have lv : vs.length = bs.length := e.length
  refine wpAny_bind (wpAny_newList ?_ (by rw [lv]; exact hL))
  have hoL : (s1.heap.push (seqObj "list" vs.toArray 0)).get? s1.heap.objs.size = some (seqObj "list" vs.toArray 0) := Heap.get?_push_size _ rfl
  have k2 : ∀ b o, s1.heap.get? b = some o → (sortingHeap (s1.heap.push (seqObj "list" vs.toArray 0)) s1.heap.objs.size vs).get? b = some o := fun b o q => sortingHeap_old (Nat.ne_of_lt (Heap.lt_size q)) (Heap.get?_push_of_some _ q)
  have er' : EachIs (fun v b => ∃ as, Reads (sortingHeap (s1.heap.push (seqObj "list" vs.toArray 0)) s1.heap.objs.size vs) v (enc b) as) vs bs := er.mono fun _ _ ⟨as, r⟩ => ⟨as, PyProof.Rows.Reads.keeps k2 r⟩
  have S : SortsAt prog w A.in1.in1 { s1 with heap := sortingHeap (s1.heap.push (seqObj "list" vs.toArray 0)) s1.heap.objs.size vs } (dataKind (sortingHeap (s1.heap.push (seqObj "list" vs.toArray 0)) s1.heap.objs.size vs) (bs.map enc)) vs :=
    SortsAt.data (s := { s1 with heap := sortingHeap (s1.heap.push (seqObj "list" vs.toArray 0)) s1.heap.objs.size vs }) (each_map (R := fun v d => ∃ as, Reads (sortingHeap (s1.heap.push (seqObj "list" vs.toArray 0)) s1.heap.objs.size vs) v d as) enc er') hal hk (fun d hd => by
      obtain ⟨b, hb, rfl⟩ := List.mem_map.mp hd
      exact hu b hb)
  refine wpAny_bind (wpAny_holding (wpAny_call_entry slot_list_sort ⟨_, hoL, rfl⟩ entry_list_sort (list_sort_vals (s := { s1 with heap := s1.heap.push (seqObj "list" vs.toArray 0) }) hoL S (by rw [lv]; exact hL) ⟨_, rfl, ?_⟩) (args_list_sort _)))
  obtain ⟨c, hc'⟩ := sortedHeap_at (vs := vs) (out := (sortVals (dataKind (sortingHeap (s1.heap.push (seqObj "list" vs.toArray 0)) s1.heap.objs.size vs) (bs.map enc)) false vs vs).toArray) hoL
  refine wpAny_pure ⟨_, rfl, h bs _ _ s1.heap.objs.size c p (fun b o q => ?_) g1 o1 z1 hc' (by rw [sortVals_length false rfl]; exact lv) (sortVals_data false e er' hal)⟩
  have q1 := k1 b o q
  have hlt := Heap.lt_size q1
  show (sortedHeap (s1.heap.push (seqObj "list" vs.toArray 0)) s1.heap.objs.size vs _).get? b = some o
  rw [sortedHeap_old (Nat.ne_of_lt hlt) (by rw [size_push']; exact Nat.lt_succ_of_lt hlt)]
  exact Heap.get?_push_of_some _ q1
end
end G
end

section
set_option maxRecDepth 100000
set_option maxHeartbeats 4000000
open PySem PySem.Spec PyProof.Rows L2
namespace G
section
variable {C : Cn} {X : Cx} {pins : List (Addr × Obj)} {σ : L2.St} {H : Hp} {S : Set'} {s : Shared}
/-- a value stands for an abstract value and its data -/
def RB (C : Cn) (H : Hp) (S : Set') (u : Value) (b : V × D) : Prop := RelV b.1 u ∧ RepD C H S b.1 b.2
theorem rb_zip : ∀ {vs : List V} {us : List Value} {l : List D}, Vals vs us → RepDs C H S vs l → W.EachIs (RB C H S) us (vs.zip l)
  | _, _, [], .nil, _ => .nil
  | _, _, [], .cons _ _, r => by cases (show _ :: _ = [] from r)
  | _, _, d :: l, .nil, r => by obtain ⟨v, q, e, _⟩ := r; cases e
  | _, _, d :: l, .cons e t, r => by
    obtain ⟨v, q, e', r1, r2⟩ := r
    cases e'
    exact .cons ⟨e, r1⟩ (rb_zip t r2)
theorem rb_out : ∀ {us : List Value} {bs : List (V × D)}, W.EachIs (RB C H S) us bs → Vals (bs.map (·.1)) us ∧ RepDs C H S (bs.map (·.1)) (bs.map (·.2))
  | _, _, .nil => ⟨.nil, rfl⟩
  | _, _, .cons h t => ⟨.cons h.1 (rb_out t).1, _, _, rfl, h.2, (rb_out t).2⟩
theorem rep_len : ∀ {vs : List V} {l : List D}, RepDs C H S vs l → vs.length = l.length := fun r => r.len
theorem rb_reads (I : Inv X pins σ H s) (hK : X.K = C.K) {us : List Value} {bs : List (V × D)} (e : W.EachIs (RB C H S) us bs) (hp : ∀ b ∈ bs, b.2.pl 60 = true) : W.EachIs (fun v b => ∃ as, Reads s.heap v (b.2.enc) as) us bs :=
  (W.each_mem e).mono fun v b ⟨⟨h1, h2⟩, hb⟩ => rep_reads I hK 60 b.2 b.1 v (hp b hb) h2 h1
/-- the core: from a gathering of the items to the list -/
theorem sort_core {u : Value} {Q : VK} {l : List D} (Pb : List (V × D) → Prop) (ok : OkX C X) (I : Inv X pins σ H s) (so : ∀ a, S a → ∃ o, H a = some o) (hs : srtOk l = true) (hb : l.length ≤ big)
    (hc : ∀ K : List Value → Shared → Prop, (∀ us s1 (bs : List (V × D)), (∀ b o, s.heap.get? b = some o → s1.heap.get? b = some o) → s.heap.objs.size ≤ s1.heap.objs.size → s1.gens = s.gens → s1.os = s.os → Pb bs → W.EachIs (RB C H S) us bs → K us s1) → wpAny (model X.prog X.w) X.A.in1 (collect u) K X.xe s)
    (hu : ∀ bs : List (V × D), Pb bs → (bs.map (·.2)).Perm l ∧ (bs.map (·.2)).mergeSort leD = l.mergeSort leD)
    (q : ∀ ys p, RepDs C H S ys (l.mergeSort leD) → H p = none → Q (.ref p) (upd H p (.lst ys))) : wpAny (model X.prog X.w) X.A (call (.builtin "sorted") [u]) (EP X pins σ Q) X.xe s := by
  obtain ⟨hpl, hal, hk⟩ := srt_able hs
  have hB : big = 1000000 := rfl
  have hun := ok.un
  have memP : ∀ {bs : List (V × D)}, Pb bs → ∀ b ∈ bs, b.2 ∈ l := fun p b hb => (hu _ p).1.mem_iff.mp (List.mem_map_of_mem hb)
  refine sorted_coll (R := RB C H S) (enc := fun b => b.2.enc) (P := Pb) (fun K hK => hc K fun us s1 bs k1 z1 g1 o1 p e => hK us bs s1 k1 z1 g1 o1 p e ?_) (fun bs p => ⟨fun d hd d' hd' => ?_, ?_, ?_, fun b hb => ?_⟩) fun bs out s' d n p k g o z hg ho e => ?_
  · exact (rb_reads I ok.K e fun b hb => plAll_mem hpl (memP p b hb)).mono fun _ _ ⟨as, r⟩ => ⟨as, PyProof.Rows.Reads.keeps k1 r⟩
  · obtain ⟨b, hb, rfl⟩ := List.mem_map.mp hd
    obtain ⟨b', hb', rfl⟩ := List.mem_map.mp hd'
    exact hal _ (List.mem_map_of_mem (memP p b hb)) _ (List.mem_map_of_mem (memP p b' hb'))
  · rcases hk with hk | hk
    · refine .inl fun d hd => ?_
      obtain ⟨b, hb, rfl⟩ := List.mem_map.mp hd
      exact hk _ (List.mem_map_of_mem (memP p b hb))
    · refine .inr fun d hd => ?_
      obtain ⟨b, hb, rfl⟩ := List.mem_map.mp hd
      exact hk _ (List.mem_map_of_mem (memP p b hb))
  · have := (hu _ p).1.length_eq
    rw [List.length_map] at this
    rw [sizeLine_eq]; omega
  · have := enc_depth 60 b.2 (plAll_mem hpl (memP p b hb))
    show X.A.units + 2 + b.2.enc.depth < cLine
    omega
  · obtain ⟨r1, r2⟩ := rb_out e
    have e2 : (bs.mergeSort (W.dataLe false fun b => b.2.enc)).map (·.2) = l.mergeSort leD := by
      have em := List.map_mergeSort (r := W.dataLe false fun b : V × D => b.2.enc) (s := leD) (f := fun b : V × D => b.2) (l := bs) fun a _ b _ => rfl
      exact em.trans (hu bs p).2
    rw [e2] at r2
    have hn : H d = none := I.hok.fresh z
    have hz : ((bs.mergeSort (W.dataLe false fun b => b.2.enc)).map (·.1)).length ≤ sizeLine := by
      have := r2.len
      rw [List.length_mergeSort] at this
      rw [this, sizeLine_eq]; omega
    have J : Inv X pins σ (upd H d (.lst ((bs.mergeSort (W.dataLe false fun b => b.2.enc)).map (·.1)))) { s with heap := s'.heap, gens := s'.gens, drawn := s'.drawn, toks := s'.toks } :=
      I.call (ch := []) (Un.laid k z hn) (I.hok.laid k z ⟨hz, out, n, r1, hg⟩) (by rw [g]; exact I.bare) (fun _ h => nomatch h)
    have es : s' = { s with heap := s'.heap, gens := s'.gens, drawn := s'.drawn, toks := s'.toks } := by
      cases s'; cases s; cases o; rfl
    rw [es]
    exact ⟨.ref d, _, J, rfl, q _ d r2 hn⟩
theorem og_sorted (ok : OkX C X) : CallR X (.builtin "sorted") (rVn C sortedG) := by
  intro pins s σ H xs us Q I r ⟨S, ds, so, rd, o, eo, q⟩
  unfold sortedG at eo
  split at eo
  · rename_i l
    obtain ⟨x, rfl, a, vs, rfl, h1, hr⟩ := reps1 rd
    split at eo
    · next hs =>
      cases eo
      obtain ⟨its, rr, p, hz⟩ := I.list (lst_sq ok.K h1)
      rw [Vals.ref1 r]
      refine sort_core (u := .ref a) (fun bs => bs = vs.zip l) ok I so hs.1 hs.2 (fun K hK => ?_) (fun bs pm => ?_) fun ys p r2 hp => q_lst so hp r2 q
      · exact collect_list p.isList (hK its _ _ (fun b o e => by
          rw [Heap.get?_update_ne _ _ _ _ (Nat.ne_of_lt (Heap.lt_size e))]
          exact Heap.get?_push_of_some _ e) (by rw [Heap.size_update, size_push']; exact Nat.le_succ _) rfl rfl rfl (rb_zip rr hr)) (by rw [← rr.length]; exact hz)
      · subst pm
        rw [List.map_snd_zip (by rw [hr.len]; exact Nat.le_refl _)]
        exact ⟨List.Perm.refl _, rfl⟩
    · cases eo
  · rename_i l
    obtain ⟨x, rfl, a, vs, rfl, h1, hr⟩ := reps1 rd
    split at eo
    · next hs =>
      cases eo
      obtain ⟨its, rr, p, hz⟩ := I.tuple (tup_sq ok.K h1)
      rw [Vals.ref1 r]
      refine sort_core (u := .ref a) (fun bs => bs = vs.zip l) ok I so hs.1 hs.2 (fun K hK => ?_) (fun bs pm => ?_) fun ys p r2 hp => q_lst so hp r2 q
      · exact coll_tuple p (by rw [← rr.length]; exact hz) (hK its _ _ (fun b o e => by
          rw [Heap.get?_update_ne _ _ _ _ (Nat.ne_of_lt (Heap.lt_size e))]
          exact Heap.get?_push_of_some _ e) (by rw [Heap.size_update, size_push']; exact Nat.le_succ _) rfl rfl rfl (rb_zip rr hr))
      · subst pm
        rw [List.map_snd_zip (by rw [hr.len]; exact Nat.le_refl _)]
        exact ⟨List.Perm.refl _, rfl⟩
    · cases eo
  · cases eo
end
end G
end

section
set_option maxRecDepth 100000
set_option maxHeartbeats 4000000
open PySem PySem.Spec PyProof.Rows L2
namespace G
/-! sorted(set(x)), x a list or tuple of texts: the set itself is not kept -/
theorem le_str (x y : Str) : leD (.str x) (.str y) = decide (x.cps.toList ≤ y.cps.toList) := by
  have h := congrFun (congrFun (W.dataLe_str (fun d : D => match d with | .str z => z | _ => x)) (.str x)) (.str y)
  exact h
theorem le_antis {x y : Str} (h1 : leD (.str x) (.str y) = true) (h2 : leD (.str y) (.str x) = true) : x = y := by
  rw [le_str, decide_eq_true_eq] at h1 h2
  exact W.str_of_cps (List.le_antisymm h1 h2)
theorem le_trans' (a b c : Str) (h1 : leD (.str a) (.str b) = true) (h2 : leD (.str b) (.str c) = true) : leD (.str a) (.str c) = true := by
  rw [le_str, decide_eq_true_eq] at h1 h2 ⊢
  exact List.le_trans h1 h2
theorem le_total' (a b : Str) : (leD (.str a) (.str b) || leD (.str b) (.str a)) = true := by
  rw [le_str, le_str, Bool.or_eq_true, decide_eq_true_eq, decide_eq_true_eq]
  exact List.le_total _ _
/-- sorted texts -/
noncomputable def srtS (ys : List Str) : List Str := ys.mergeSort fun x y => leD (.str x) (.str y)
theorem srt_strs (ys : List Str) : (ys.map D.str).mergeSort leD = (srtS ys).map D.str := (List.map_mergeSort (r := fun x y => leD (.str x) (.str y)) (s := leD) (f := D.str) (l := ys) fun a _ b _ => rfl).symm
theorem srtS_perm (ys : List Str) : (srtS ys).Perm ys := List.mergeSort_perm _ _
theorem srtS_uniq {xs ys : List Str} (h : xs.Perm ys) : srtS xs = srtS ys := by
  refine List.Perm.eq_of_pairwise (le := fun x y => leD (.str x) (.str y) = true) (fun a b _ _ h1 h2 => le_antis h1 h2) ?_ ?_ ((srtS_perm xs).trans (h.trans (srtS_perm ys).symm))
  · exact List.pairwise_mergeSort le_trans' le_total' xs
  · exact List.pairwise_mergeSort le_trans' le_total' ys
theorem perm_nodup {α : Type} [DecidableEq α] : ∀ {l m : List α}, l.Nodup → (∀ x ∈ l, x ∈ m) → m.length = l.length → m.Perm l
  | [], m, _, _, h => by rw [List.length_eq_zero_iff.mp h]
  | x :: l, m, hn, hs, h => by
    obtain ⟨h1, h2⟩ := List.nodup_cons.mp hn
    have hx := hs x List.mem_cons_self
    have p := List.perm_cons_erase hx
    have hl := p.length_eq
    rw [List.length_cons] at hl h
    refine p.trans (List.Perm.cons x (perm_nodup h2 (fun y hy => ?_) (by omega)))
    refine (List.mem_erase_of_ne ?_).mpr (hs y (List.mem_cons_of_mem _ hy))
    exact fun e => h1 (e ▸ hy)
theorem met_nodup {l : List Str} {x : Str} (h : l.Nodup) : (GS.met l x).Nodup := by
  unfold GS.met
  split
  · exact h
  · next hx =>
    rw [List.nodup_append]
    refine ⟨h, by simp, fun a ha b hb e => ?_⟩
    rw [List.mem_singleton.mp hb] at e
    exact hx (e ▸ ha)
theorem dl_nd : ∀ (ys l : List Str), l.Nodup → (ys.foldl GS.met l).Nodup
  | [], _, h => h
  | y :: ys, l, h => dl_nd ys (GS.met l y) (met_nodup h)
def txV : Value → Str
  | .str x _ => x
  | _ => Str.empty
theorem txs_perm {P : Program} {w : World} {D : Froz.SD} {l : List Str} (F : Froz.TxOk P w D l) (hn : l.Nodup) {us : List Value} (hp : us.Perm (D.1.toList.map (·.2))) : (us.map txV).Perm l ∧ ∀ u ∈ us, ∃ t, u = .str (txV u) t := by
  have sh : ∀ u ∈ us, ∃ t, u = .str (txV u) t := fun u hu => by
    obtain ⟨e, he, rfl⟩ := List.mem_map.mp (hp.mem_iff.mp hu)
    obtain ⟨⟨k, hk, _⟩, _⟩ := F.el e he
    obtain ⟨t, q⟩ := Value.isStrOf_shape hk
    exact ⟨t, by rw [q]; rfl⟩
  refine ⟨perm_nodup hn (fun k hk => ?_) ?_, sh⟩
  · obtain ⟨e, he, q⟩ := (F.mem k).mp hk
    obtain ⟨t, q'⟩ := Value.isStrOf_shape q
    exact List.mem_map.mpr ⟨e.2, hp.mem_iff.mpr (List.mem_map_of_mem he), by rw [q']; rfl⟩
  · have z : D.1.size = l.length := F.sz
    rw [List.length_map, hp.length_eq, List.length_map, Array.length_toList, z]
theorem rb_strs {C : Cn} {H : Hp} {S : Set'} : ∀ {us : List Value}, (∀ u ∈ us, ∃ t, u = .str (txV u) t) → W.EachIs (RB C H S) us (us.map fun u => (V.str (txV u), D.str (txV u)))
  | [], _ => .nil
  | u :: us, h => by
    obtain ⟨t, e⟩ := h u List.mem_cons_self
    exact .cons ⟨⟨t, e⟩, rfl⟩ (rb_strs fun v hv => h v (List.mem_cons_of_mem _ hv))
theorem srtOk_strs (ys : List Str) : srtOk (ys.map D.str) = true := by
  unfold srtOk
  have h1 : ∀ zs : List Str, plAll 60 (zs.map D.str) = true := fun zs => by
    induction zs with
    | nil => rfl
    | cons z zs ih => simp [plAll, D.pl, ih]
  have h2 : ((ys.map D.str).all fun x => (ys.map D.str).all fun y => W.alike x.enc y.enc) = true := by
    rw [List.all_eq_true]
    intro x hx
    rw [List.all_eq_true]
    intro y hy
    obtain ⟨a, _, rfl⟩ := List.mem_map.mp hx
    obtain ⟨b, _, rfl⟩ := List.mem_map.mp hy
    rfl
  have h3 : (ys.map D.str).all notNT = true := by
    rw [List.all_eq_true]
    intro x hx
    obtain ⟨a, _, rfl⟩ := List.mem_map.mp hx
    rfl
  rw [h1, h2, h3]; simp
noncomputable def sortSetG : D → Option O
  | .lst l => (strsD l).bind fun ys => if ys.length < setB then some (OL ((srtS (GS.dl ys)).map D.str)) else none
  | .tup l => (strsD l).bind fun ys => if ys.length < setB then some (OL ((srtS (GS.dl ys)).map D.str)) else none
  | _ => none
def tSortS (C : Cn) (ta : TE) : TE := fun σ H Q => ta σ H fun x H1 => ∃ l, ∃ ys : List Str, x = .ref l ∧ (SqL C.K H1 l (ys.map V.str) ∨ SqT C.K H1 l (ys.map V.str)) ∧ ys.length < setB ∧
  ∃ S, So H1 S ∧ ∀ vs p, RepDs C H1 S vs ((srtS (GS.dl ys)).map D.str) → H1 p = none → Q (.ref p) (upd H1 p (.lst vs))
section
variable {C : Cn} {E : WX} {X : Cx} {a : Expr} {ta : TE} {p p2 q pos : Pos} {f : Fe}
theorem pe_sortS (ok : OkX C X) (hg : Gl X "sorted") (hm : X.mg "sorted" = none) (hg2 : Gl X "set") (hm2 : X.mg "set" = none) (ha : PE X a ta)
    (na : starEach [a] X.env = (false, eval a X.env) :: starEach [] X.env := by rfl) : PE X (.Call (.Name "sorted" p) [.Call (.Name "set" p2) [a] [] q] [] pos) (tSortS C ta) := by
  refine ⟨fun pins s σ H Q I h => Call_ (ld_blt I hg hm boot_sorted ?_)⟩
  refine PyProof.Rows.callWith_builtin1 (PyProof.Rows.args_cons (Call_ (ld_blt I hg2 hm2 boot_set ?_)) rfl) rfl rfl
  refine PyProof.Rows.callWith_type1 (PyProof.Rows.args_cons (thn (ha.run pins s σ H _ I h) fun v s1 ⟨x, H1, I1, r1, q1⟩ => PyProof.Rows.args_nil ?_) na) na rfl
  obtain ⟨l, xs, rfl, hq, hl, S, so, q1⟩ := q1
  cases r1
  have hdl := GS.dl_le xs []
  have h0 : setB = 4000 := rfl
  have hsc : scanBound = 4096 := rfl
  have hdl' : (GS.dl xs).length ≤ xs.length := by unfold GS.dl; simpa using hdl
  have last : ∀ (h' : Heap) (tk : Nat), GS.TxS X.prog X.w h' s1.heap.objs.size (GS.dl xs) → (∀ b o, b < s1.heap.objs.size → s1.heap.get? b = some o → h'.get? b = some o) →
      wpAny (model X.prog X.w) X.A (spliced (backTo pos (starEach [] X.env))) (fun vs s₂ => wpAny (model X.prog X.w) X.A (call (.builtin "sorted") (Value.ref s1.heap.objs.size :: vs)) (EP X pins σ Q) X.xe s₂) X.xe { s1 with heap := h', toks := tk } := fun h' tk hS hk => by
    refine PyProof.Rows.args_nil ?_
    obtain ⟨Dd, ho, F, hr, hled⟩ := hS.ex
    have I2 : Inv X pins σ H1 { s1 with heap := h', toks := tk } := I1.kept fun b o e => hk b o (Heap.lt_size e) e
    have hn : (GS.dl xs).Nodup := dl_nd xs [] List.nodup_nil
    have hB : big = 1000000 := rfl
    refine sort_core (s := { s1 with heap := h', toks := tk }) (l := (GS.dl xs).map D.str) (u := .ref s1.heap.objs.size) (fun bs => ∃ zs : List Str, zs.Perm (GS.dl xs) ∧ bs = zs.map fun z => (V.str z, D.str z)) ok I2 so (srtOk_strs _) (by rw [List.length_map]; omega) (fun K hK => ?_) (fun bs ⟨zs, pm, e⟩ => ?_) fun ys p r2 hp => q1 ys p (by rw [srt_strs] at r2; exact r2) hp
    · refine collect_set (A := X.A.in1) (by simpa using I2.ok.hd ok.calm) ⟨_, ho, rfl, rfl⟩ F.fit (by have z : Dd.1.size = (GS.dl xs).length := F.sz; omega) hr hled fun s2 out k2 z2 g2 o2 pm => ?_
      obtain ⟨p1, p2⟩ := txs_perm F hn pm
      exact hK out s2 _ k2 z2 g2 o2 ⟨out.map txV, p1, by rw [List.map_map]; rfl⟩ (rb_strs p2)
    · subst e
      have e2 : (zs.map fun z => (V.str z, D.str z)).map (·.2) = zs.map D.str := by rw [List.map_map]; rfl
      rw [e2]
      exact ⟨pm.map _, by rw [srt_strs, srt_strs, srtS_uniq pm]⟩
  rcases hq with hq | hq
  · obtain ⟨its, r, pl, _⟩ := I1.list (ok.K ▸ hq)
    exact GS.set_list (I1.ok.hd ok.calm) pl.isList (by simpa using strsAre_of r) (by omega) last
  · obtain ⟨its, r, pl, _⟩ := I1.tuple (ok.K ▸ hq)
    exact GS.set_tuple (I1.ok.hd ok.calm) pl (by simpa using strsAre_of r) (by omega) last
theorem de_sortS (ok : OkX C X) (hm : X.mg "sorted" = none) (hm2 : X.mg "set" = none) (ha : DE C E X a f) (hg : Gl X "sorted" := by rfl) (hg2 : Gl X "set" := by rfl)
    (na : starEach [a] X.env = (false, eval a X.env) :: starEach [] X.env := by rfl) : DE C E X (.Call (.Name "sorted" p) [.Call (.Name "set" p2) [a] [] q] [] pos) (e1 sortSetG f) := by
  refine pe_imp (pe_sortS ok hg hm hg2 hm2 ha na) fun σ H Q q => ?_
  have q' := r1_of q
  obtain ⟨ρ, S, F, he, w, q'⟩ := q'
  refine ⟨ρ, S, F, he, w, ?_⟩
  cases ef : f ρ with
  | bad => rw [ef] at q'; exact q'
  | exc x ρ' => rw [ef] at q'; exact q'
  | ok o ρ1 =>
    rw [ef] at q'
    intro v H' S' F' A a1 a2 a3 a4 a5
    obtain ⟨S2, d, so, rd, o', eo, q2⟩ := q' v H' S' F' A a1 a2 a3 a4 a5
    unfold sortSetG at eo
    split at eo
    · obtain ⟨ys, ey, eo⟩ := Option.bind_eq_some_iff.mp eo
      split at eo
      · next hl =>
        cases eo
        obtain ⟨b, vs, rfl, h1, hr⟩ := rd
        have := strs_rep ey hr
        subst this
        exact ⟨b, ys, rfl, .inl (ok.K ▸ lst_sq ok.K h1), hl, S2, so, fun vs p r hp => q_lst so hp r q2⟩
      · cases eo
    · obtain ⟨ys, ey, eo⟩ := Option.bind_eq_some_iff.mp eo
      split at eo
      · next hl =>
        cases eo
        obtain ⟨b, vs, rfl, h1, hr⟩ := rd
        have := strs_rep ey hr
        subst this
        exact ⟨b, ys, rfl, .inr (ok.K ▸ tup_sq ok.K h1), hl, S2, so, fun vs p r hp => q_lst so hp r q2⟩
      · cases eo
    · cases eo
end
end G
end

section
set_option maxRecDepth 100000
set_option maxHeartbeats 4000000
open PySem PySem.Spec PyProof.Rows L2
namespace G
/-! {k: v, ..}, keys ints and texts -/
def prsO : List O → Option (List (Key × O))
  | [] => some []
  | k :: v :: l => (keyD k.toD).bind fun j => (prsO l).map ((j, v) :: ·)
  | _ => none
def putsO (l : List (Kd × O)) (ps : List (Key × O)) : List (Kd × O) := ps.foldl (fun l p => putO l (.inl p.1) p.2) l
def eDsp (fa : Fa) : Fe := fun ρ => (fa ρ).bind fun os ρ1 => match prsO os with
  | some l => if l.length ≤ 15 then .ok (.dct (putsO [] l)) ρ1 else .bad
  | none => .bad
def pairUp : List V → List (V × V)
  | k :: v :: l => (k, v) :: pairUp l
  | _ => []
structure DPs (C : Cn) (E : WX) (X : Cx) (pos : Pos) (keys : List (Option Expr)) (vals : List Expr) (fa : Fa) : Prop where
  ex : ∃ trs, PPs X pos keys vals trs ∧ ∀ σ H Q, rA C E fa σ H (fun vs H => Q (pairUp vs) H) → tPairs trs σ H Q
section
variable {C : Cn} {E : WX} {X : Cx} {pos : Pos} {σ : L2.St} {H : Hp}
theorem rE_mono {f : Fe} {Q R : VK} (h : rE C E f σ H Q) (k : ∀ v H', Q v H' → R v H') : rE C E f σ H R := by
  obtain ⟨ρ, S, F, he, w, q⟩ := h
  refine ⟨ρ, S, F, he, w, ?_⟩
  cases ef : f ρ with
  | bad => rw [ef] at q; exact q
  | exc x ρ' => rw [ef] at q; exact q
  | ok o ρ1 =>
    rw [ef] at q
    exact fun v H' S' F' A a1 a2 a3 a4 a5 => k _ _ (q v H' S' F' A a1 a2 a3 a4 a5)
theorem ra_cons {f : Fe} {g : Fa} {Q : List V → Hp → Prop} (h : rA C E (eCons f g) σ H Q) : rE C E f σ H fun v H1 => rA C E g σ H1 fun vs H2 => Q (v :: vs) H2 := by
  obtain ⟨ρ, S, F, he, w, q⟩ := h
  refine ⟨ρ, S, F, he, w, ?_⟩
  unfold eCons at q
  cases ef : f ρ with
  | bad => rw [ef] at q; exact q
  | exc x ρ' => rw [ef] at q; exact q
  | ok o ρ1 =>
    rw [ef] at q
    intro v H1 S1 F1 A he1 r1 w1 d1 fr1
    refine ⟨ρ1, S1, F1, he1, w1.drop, ?_⟩
    simp only [bind_ok] at q
    cases eg : g ρ1 with
    | bad => rw [eg] at q; exact q
    | exc x ρ' =>
      rw [eg] at q
      exact fun c d H2 S2 F2 he2 w2 fr2 rx => q c d H2 S2 F2 he2 w2 (fr1.drop.trans fr2) rx
    | ok os ρ2 =>
      rw [eg] at q
      intro vs H2 S2 F2 B he2 r2 w2 d2 fr2
      obtain ⟨ka, d3, w3, fr3, k⟩ := fr_tmp w1 d1 fr1 fr2 w2
      obtain ⟨d4, d5⟩ := dj_un d3 d2
      rw [un_assoc] at w3 fr3
      exact q (v :: vs) H2 S2 F2 (Un' A B) he2 ⟨v, vs, A, B, rfl, r1.mono k ka, r2, ⟨fun a => Iff.rfl, d4⟩⟩ w3 d5 fr3
theorem dp_nil : DPs C E X pos [] [] eNil := ⟨[], pps_nil, fun σ H Q ⟨ρ, S, F, he, w, q⟩ => by
  have := q [] H S F No he ⟨rfl, emp_no⟩ (by rw [show Un' No F = F from funext fun a => propext ⟨fun h => h.elim False.elim id, .inr⟩]; exact w) (fun a h _ => h) (by rw [show Un' No F = F from funext fun a => propext ⟨fun h => h.elim False.elim id, .inr⟩]; exact Fr.refl)
  exact this⟩
theorem dp_cons {k v : Expr} {ks : List (Option Expr)} {vs : List Expr} {fk fv : Fe} {fa : Fa} (hk : DE C E X k fk) (hv : DE C E X v fv) (hr : DPs C E X pos ks vs fa) : DPs C E X pos (some k :: ks) (v :: vs) (eCons fk (eCons fv fa)) := by
  obtain ⟨trs, pp, imp⟩ := hr.ex
  refine ⟨(rE C E fk, rE C E fv) :: trs, pps_cons hk hv pp, fun σ H Q q => ?_⟩
  refine rE_mono (ra_cons q) fun x H1 q1 => rE_mono (ra_cons q1) fun y H2 q2 => ?_
  exact imp σ H2 _ q2
theorem prsO_rep {S : Set'} : ∀ {os : List O} {l : List (Key × O)} {vs : List V} {A : Set'}, prsO os = some l → RepOs C H S vs os A →
    ∃ kvs : List (Key × V), pairUp vs = kvs.map (fun kv => (kV kv.1, kv.2)) ∧ kvs.length = l.length ∧ ∀ (os0 : List (Kd × O)) (kv0 : List (Key × V)) (Z : Set'), RepOK C H S kv0 os0 Z → (os0.map (·.1)).Nodup → Dj Z A → ∃ Z', RepOK C H S (mergeK kv0 kvs) (putsO os0 l) Z' ∧ ((putsO os0 l).map (·.1)).Nodup ∧ ∀ a, Z' a → Un' Z A a
  | [], l, vs, A, h, r => by
    cases h
    obtain ⟨rfl, em⟩ := r
    exact ⟨[], rfl, rfl, fun os0 kv0 Z r0 n d => ⟨Z, r0, n, fun a => .inl⟩⟩
  | [o], l, vs, A, h, r => by simp [prsO] at h
  | k :: o :: os, l, vs, A, h, r => by
    obtain ⟨j, e1, e2⟩ := Option.bind_eq_some_iff.mp h
    obtain ⟨l', e3, rfl⟩ := Option.map_eq_some_iff.mp e2
    obtain ⟨x, r1, P, R, rfl, rk, rr, s1⟩ := r
    obtain ⟨y, r2, P2, R2, rfl, ry, rr2, s2⟩ := rr
    obtain ⟨kvs, e4, e5, ih⟩ := prsO_rep e3 rr2
    have rkd := rk.share (S' := Un' S P) (fun _ => .inl) fun _ => .inr
    have ex : x = kV j := keyD_rep e1 rkd
    subst ex
    refine ⟨(j, y) :: kvs, by rw [pairUp, e4]; rfl, by rw [List.length_cons, List.length_cons, e5], fun os0 kv0 Z r0 n d => ?_⟩
    have hA : ∀ a, P2 a → A a := fun a z => (s1.1 a).mpr (.inr ((s2.1 a).mpr (.inl z)))
    have hR : ∀ a, R2 a → A a := fun a z => (s1.1 a).mpr (.inr ((s2.1 a).mpr (.inr z)))
    obtain ⟨Z1, q1, q2⟩ := RepOK.put (k := j) r0 n ry fun a z1 z2 => d a z1 (hA a z2)
    obtain ⟨Z2, p1, p2, p3⟩ := ih (putO os0 (.inl j) o) (putK kv0 j y) Z1 q1 (putO_nd n) fun a z1 z2 => (q2 a z1).elim (fun z => d a z (hR a z2)) fun z => s2.2 a z z2
    exact ⟨Z2, p1, p2, fun a z => (p3 a z).elim (fun z => (q2 a z).elim .inl fun z => .inr (hA a z)) fun z => .inr (hR a z)⟩
theorem de_disp {keys : List (Option Expr)} {vals : List Expr} {fa : Fa} (h : DPs C E X pos keys vals fa) (hall : keys.all (·.isSome) = true := by rfl) (hl : keys.length = vals.length := by rfl) (h0 : keys ≠ [] := by simp)
    (h15 : keys.length ≤ 15 := by decide) : DE C E X (.Dict keys vals pos) (eDsp fa) := by
  obtain ⟨trs, pp, imp⟩ := h.ex
  refine pe_imp (pe_disp pp hall hl h0 h15) fun σ H Q ⟨ρ, S, F, he, w, q⟩ p hp => imp σ _ _ ?_
  have al := Alc.own (o := .dK []) w.so hp trivial
  obtain ⟨k1, k2, k3, k4⟩ := alc_step he w Fr.refl al
  have nF : ¬ F p := fun z => by
    obtain ⟨u, e⟩ := mut_some (w.mu p z)
    rw [hp] at e; cases e
  have nS : ¬ S p := fun z => by
    obtain ⟨u, e⟩ := w.so p z
    rw [hp] at e; cases e
  refine ⟨ρ, S, F, k1, k2.drop, ?_⟩
  unfold eDsp at q
  cases ef : fa ρ with
  | bad => rw [ef] at q; exact q
  | exc x ρ' =>
    rw [ef] at q
    exact fun c d H' S' F' a1 a2 a3 a4 => q c d H' S' F' a1 a2 (k4.drop.trans a3) a4
  | ok os ρ1 =>
    rw [ef] at q
    simp only [bind_ok] at q
    cases el : prsO os with
    | none => rw [el] at q; exact q.elim
    | some l =>
      rw [el] at q
      intro vs H2 S2 F2 A he2 r2 w2 d2 fr2
      by_cases h15' : l.length ≤ 15
      · simp only [if_pos h15'] at q
        have at_p : H2 p = some (.dK []) := fr2.keep p _ upd_same nF
        have np : ∀ a, Un' A F2 a → a ≠ p := fun a z e => by
          subst e
          rcases fr2.fnew a z with z | z
          · exact nF z
          · rw [upd_same] at z; cases z
        have nS2 : ¬ S2 p := fun z => by
          rcases fr2.new p z with z | z | z
          · exact nS z
          · exact nF z
          · rw [upd_same] at z; cases z
        obtain ⟨kvs, e1, e2, e3⟩ := prsO_rep el r2
        obtain ⟨Z, r3, n3, s3⟩ := e3 [] [] No ⟨rfl, emp_no⟩ List.nodup_nil (fun a z _ => z)
        refine ⟨at_p, kvs, e1, by omega, ?_⟩
        have sZ : ∀ a, Z a → A a := fun a z => (s3 a z).elim False.elim id
        have kp : Kp H2 S2 (upd H2 p (.dK (mergeK [] kvs))) S2 := ⟨fun a u s e => by rw [upd_ne (fun z : a = p => nS2 (by rw [← z]; exact s))]; exact e, fun a u m e => by
          have : a ≠ p := fun z => by rw [z, at_p] at e; cases e; exact m trivial
          rw [upd_ne this]; exact e, fun a z => z⟩
        have kf : ∀ a, F2 a → upd H2 p (.dK (mergeK [] kvs)) a = H2 a := fun a z => upd_ne (np a (.inr z))
        have kz : ∀ a, Z a → upd H2 p (.dK (mergeK [] kvs)) a = H2 a := fun a z => upd_ne (np a (.inl (sZ a z)))
        refine q (.ref p) (upd H2 p (.dK (mergeK [] kvs))) S2 F2 (Un' (fun a => a = p) Z) (he2.mono kp kf) ⟨p, Z, rfl, n3, .inl ⟨_, upd_same, r3.mono kp kz⟩, ⟨fun a => Iff.rfl, fun a z1 z2 => np a (.inl (sZ a z2)) z1⟩⟩ ⟨fun a z => ?_, fun a z s => ?_, fun a s => ?_⟩ (fun a z1 z2 => ?_) ⟨fun a u e nf => ?_, fun a s => fr2.sub a s, fun a s => ?_, fun a z => ?_⟩
        · rcases z with (z | z) | z
          · subst z; rw [upd_same]; exact trivial
          · rw [kz a z]; exact w2.mu a (.inl (sZ a z))
          · rw [kf a z]; exact w2.mu a (.inr z)
        · rcases z with (z | z) | z
          · subst z; exact nS2 s
          · exact w2.ns a (.inl (sZ a z)) s
          · exact w2.ns a (.inr z) s
        · obtain ⟨u, e⟩ := w2.so a s
          exact ⟨u, by rw [upd_ne (fun z : a = p => nS2 (by rw [← z]; exact s))]; exact e⟩
        · rcases z1 with z1 | z1
          · exact np a (.inr z2) z1
          · exact d2 a (sZ a z1) z2
        · have ne : a ≠ p := ne_of_none e hp
          rw [upd_ne ne]
          exact fr2.keep a u (by rw [upd_ne ne]; exact e) nf
        · rcases fr2.new a s with z | z | z
          · exact .inl z
          · exact .inr (.inl z)
          · by_cases ne : a = p
            · subst ne; rw [upd_same] at z; cases z
            · rw [upd_ne ne] at z; exact .inr (.inr z)
        · rcases z with (z | z) | z
          · subst z; exact .inr hp
          · rcases fr2.fnew a (.inl (sZ a z)) with z | y
            · exact .inl z
            · by_cases ne : a = p
              · subst ne; exact .inr hp
              · rw [upd_ne ne] at y; exact .inr y
          · rcases fr2.fnew a (.inr z) with z | y
            · exact .inl z
            · by_cases ne : a = p
              · subst ne; exact .inr hp
              · rw [upd_ne ne] at y; exact .inr y
      · simp only [if_neg h15'] at q
end
theorem bt_sorted : bootBuiltins "sorted" = some (.builtin "sorted") := by first | boot_by_name | rfl | kernel_rfl
end G
end

section
set_option maxRecDepth 100000
set_option maxHeartbeats 4000000
open PySem PySem.Spec PyProof.Rows L2 G
namespace Kx
noncomputable section
def top (i : Nat) : Stmt := PySem.Challenge.pw_groupclocks_k01_integers_and_names_judge.main.body.getD i (.Pass ⟨0, 0, 0, 0⟩)
abbrev s_is_name : Stmt := top 5
def b_is_name : Fs := (sSeq (sIf (tOr' (tNt (eTru (e1 (isG "str") (eVar 0)))) (tNt (eB (eChn gLe gLe (eK (.int 1)) (eN lenG (eCons (eVar 0) eNil)) (eK (.int 8))))))
  (sRet (eK (.bl false)))
  sNil)
  (sRet (eN allG (eCons (eLc (iSeq (eVar 0)) (tN 1) ttY (eChn gLe gLe (eK (.str ("a" : Str))) (eVar 1) (eK (.str ("z" : Str)))) [1]) eNil))))
def f_is_name : Fn := fnG 2 [false] b_is_name
abbrev s_are_different_names : Stmt := top 6
def b_are_different_names : Fs := (sRet (eAnd (eN allG (eCons (eLc (iSeq (eVar 0)) (tN 1) ttY (eCall f_is_name [none] (eCons (eVar 1) eNil)) [1]) eNil)) (e2 gEq (eN lenG (eCons (eDc (iSeq (eVar 0)) (tN 1) ttY (eVar 1) (eK (.bl true)) [1]) eNil)) (eN lenG (eCons (eVar 0) eNil)))))
def f_are_different_names : Fn := fnG 2 [false] b_are_different_names
abbrev s_is_names : Stmt := top 7
def b_is_names : Fs := (sRet (eAnd (e1 (isG "tuple") (eVar 0)) (eAnd (e2 gLe (eN lenG (eCons (eVar 0) eNil)) (eK (.int 16))) (eCall f_are_different_names [none] (eCons (eVar 0) eNil)))))
def f_is_names : Fn := fnG 1 [false] b_is_names
abbrev s__law_tape : Stmt := top 9
def b__law_tape : Fs := (sSeq (sSet 2 (eIf (eB (e2 gLt (eVar 1) (eN lenG (eCons (eVar 0) eNil)))) (e2 itemG (eVar 0) (eVar 1)) (e2 addG (e2 mulG (eK (.int 83)) (eVar 1)) (eK (.int 17)))))
  (sSeq (sSet 3 (e2 modG (eN intG (eCons (eN absG (eCons (eVar 2) eNil)) eNil)) (e2 powG (e2 powG (eK (.int 10)) (eK (.int 57))) (eK (.int 10)))))
  (sSeq (sSet 4 (e2 addG (e2 addG (e2 addG (e2 mulG (eVar 3) (eK (.int 1000193))) (e2 mulG (eK (.int 8221)) (eVar 1))) (e2 mulG (eK (.int 41)) (eN intG (eCons (e2 gLt (eVar 2) (eK (.int 0))) eNil)))) (eK (.int 5))))
  (sRet (eLst (eCons (eN maxG (eCons (eK (.int 0)) (eCons (e2 subG (eVar 3) (e2 powG (eK (.int 10)) (eK (.int 18)))) eNil))) (eCons (e2 modG (eN intG (eCons (eVar 4) eNil)) (eK (.int 2305843009213693907))) (eCons (eK (.int 0)) eNil))))))))
def f__law_tape : Fn := fnG 5 [false, false] b__law_tape
abbrev s__law_roll : Stmt := top 10
def b__law_roll : Fs := (sSeq (sIf (eB (e2 gGt (eItemO 0 (eK (.int 0))) (eK (.int 0))))
  (sSeq (sSet 2 (e2 modG (eN intG (eCons (eItemO 0 (eK (.int 0))) eNil)) (eVar 1)))
  (sSeq (sPutI 0 (eK (.int 0)) (e2 fdivG (eItemO 0 (eK (.int 0))) (eVar 1)))
  (sRet (eVar 2))))
  sNil)
  (sSeq (sPutI 0 (eK (.int 2)) (e2 addG (eItemO 0 (eK (.int 2))) (eK (.int 1))))
  (sSeq (sSet 3 (e2 modG (eN intG (eCons (e2 addG (eItemO 0 (eK (.int 1))) (e2 mulG (eK (.int 900107)) (eItemO 0 (eK (.int 2))))) eNil)) (eK (.int 2305843009213693951))))
  (sSeq (sSet 4 (e2 addG (e2 mulG (e2 modG (eN intG (eCons (e2 mulG (eVar 3) (eVar 3)) eNil)) (eK (.int 1152921504606846883))) (eVar 3)) (e2 mulG (eK (.int 7919)) (eItemO 0 (eK (.int 2))))))
  (sRet (e2 modG (eN intG (eCons (e2 fdivG (e2 modG (eN intG (eCons (e2 addG (eVar 4) (eItemO 0 (eK (.int 1)))) eNil)) (eK (.int 4398046511093))) (eK (.int 32))) eNil)) (eVar 1)))))))
def f__law_roll : Fn := fnG 5 [true, false] b__law_roll
abbrev s__law_pick : Stmt := top 11
def b__law_pick : Fs := (sRet (e2 itemG (eVar 1) (eCall f__law_roll [some 0, none] (eLend 0 (eCons (eN lenG (eCons (eVar 1) eNil)) eNil)))))
def f__law_pick : Fn := fnG 2 [true, false] b__law_pick
abbrev s__law_word_drawn : Stmt := top 12
def b__law_word_drawn : Fs := (sSeq (sSet 1 (eCall f__law_pick [some 0, none] (eLend 0 (eCons (eLst (eCons (eK (.int 1)) (eCons (eK (.int 1)) (eCons (eK (.int 2)) (eCons (eK (.int 3)) (eCons (eK (.int 5)) (eCons (eK (.int 8)) eNil))))))) eNil))))
  (sRet (eMs joinG (eK (.str ("" : Str))) (eCons (eLc (iRng1 (eVar 1)) (tN 2) ttY (eCall f__law_pick [some 0, none] (eLend 0 (eCons (eK (.str ("abcdefghijklmnopqrstuvwxyz" : Str))) eNil))) [2]) eNil))))
def f__law_word_drawn : Fn := fnG 3 [true] b__law_word_drawn
abbrev s__law_words_drawn : Stmt := top 13
def b__law_words_drawn : Fs := (sSeq (sSet 2 (eLst eNil))
  (sSeq (sFor (iRng1 (eVar 1)) (tN 3)
  (sSeq (sSet 4 (eCall f__law_word_drawn [some 0] (eLend 0 eNil)))
  (sSeq (sSet 5 (eLc (iSeq (eK (.str ("abcdefghijklmnopqrstuvwxyz" : Str)))) (tN 6) (eB (e2v gNin (eVar 6) (vVar 2))) (eVar 6) [6]))
  (sExpr (eApp 2 (eIf (eB (e2v gNin (eVar 4) (vVar 2))) (eVar 4) (e2 itemG (eVar 5) (eK (.int 0)))))))))
  (sRet (eMove 2))))
def f__law_words_drawn : Fn := fnG 7 [true, false] b__law_words_drawn
abbrev s__law_is_name : Stmt := top 14
def b__law_is_name : Fs := (sSeq (sIf (tOr' (tNt (eTru (e1 (isG "str") (eVar 0)))) (tOr' (eB (e2 gEq (eVar 0) (eK (.str ("" : Str))))) (eB (e2 gGt (eN lenG (eCons (eVar 0) eNil)) (eK (.int 8))))))
  (sRet (eK (.bl false)))
  sNil)
  (sRet (e2 gEq (eLc (iSeq (eVar 0)) (tN 1) (eB (e2 gNin (eVar 1) (eN listG (eCons (eK (.str ("abcdefghijklmnopqrstuvwxyz" : Str))) eNil)))) (eVar 1) [1]) (eLst eNil))))
def f__law_is_name : Fn := fnG 2 [false] b__law_is_name
abbrev s__law_is_names : Stmt := top 15
def b__law_is_names : Fs := (sSeq (sIf (tOr' (tNt (eTru (e1 (isG "tuple") (eVar 0)))) (tOr' (eB (e2 gGt (eN lenG (eCons (eVar 0) eNil)) (eK (.int 16)))) (eB (e2 gNe (eLc (iSeq (eVar 0)) (tN 1) (tNt (eTru (eCall f__law_is_name [none] (eCons (eVar 1) eNil)))) (eVar 1) [1]) (eLst eNil)))))
  (sRet (eK (.bl false)))
  sNil)
  (sRet (e2 gEq (e1 sortSetG (eVar 0)) (eN sortedG (eCons (eVar 0) eNil)))))
def f__law_is_names : Fn := fnG 2 [false] b__law_is_names
abbrev s__law_near : Stmt := top 16
def b__law_near : Fs := (sSeq (sSet 2 (eCall f__law_roll [some 0, none] (eLend 0 (eCons (e2 addG (eN lenG (eCons (eVar 1) eNil)) (eK (.int 1))) eNil))))
  (sSeq (sSet 3 (eCall f__law_pick [some 0, none] (eLend 0 (eCons (eLst (eCons (eK (.str ("A" : Str))) (eCons (eK (.str ("Z" : Str))) (eCons (eK (.str ("{" : Str))) (eCons (eK (.str ("`" : Str))) (eCons (eK (.str (" " : Str))) (eCons (eK (.str ("-" : Str))) (eCons (eK (.str ("_" : Str))) (eCons (eK (.str ("0" : Str))) (eCons (eK (.str ("a" : Str))) (eCons (eK (.str ("z" : Str))) (eCons (eK (.str ("" : Str))) (eCons (eK (.str ("\n" : Str))) eNil))))))))))))) eNil))))
  (sSeq (sSet 4 (eLst (eCons (e2 addG (e2 addG (eCut (eVar 1) none (some (eVar 2))) (eVar 3)) (eCut (eVar 1) (some (eVar 2)) none)) (eCons (eMs upperG (eVar 1) eNil) (eCons (e2 addG (eVar 1) (eVar 1)) (eCons (eTup (eCons (eVar 1) eNil)) (eCons (eLst (eCons (eVar 1) eNil)) (eCons (eK .non) (eCons (eN lenG (eCons (eVar 1) eNil)) (eCons (eK (.str ("" : Str))) (eCons (eCut (eVar 1) (some (eK (.int 1))) none) eNil)))))))))))
  (sRet (eCall f__law_pick [some 0, none] (eLend 0 (eCons (e2 addG (eVar 4) (eLst (eCons (e2 addG (eVar 1) (eK (.str ("aaaaaaaa" : Str)))) (eCons (e2 addG (eVar 1) (eK (.str (" " : Str)))) (eCons (eDsp (eCons (eVar 1) (eCons (eVar 1) eNil))) (eCons (e2 addG (eVar 1) (eK (.str ("\n" : Str)))) (eCons (e2 addG (eK (.str ("\n" : Str))) (eVar 1)) eNil))))))) eNil)))))))
def f__law_near : Fn := fnG 5 [true, false] b__law_near
abbrev s__law_cell_right : Stmt := top 17
def b__law_cell_right : Fs := (sSeq (sSet 1 (eCall f__law_word_drawn [some 0] (eLend 0 eNil)))
  (sSeq (sFor (iRng1 (eK (.int 8))) (tN 2)
  (sSeq (sSet 3 (eIf (eB (e2 gGt (eVar 2) (eK (.int 0)))) (eCall f__law_near [some 0, none] (eLend 0 (eCons (eVar 1) eNil))) (eVar 1)))
  (sIf (eB (e2 gNe (eN reprG (eCons (eCall f_is_name [none] (eCons (eVar 3) eNil)) eNil)) (eN reprG (eCons (eCall f__law_is_name [none] (eCons (eVar 3) eNil)) eNil))))
  (sRet (eK (.bl false)))
  sNil)))
  (sSeq (sSet 4 (eCall f__law_words_drawn [some 0, none] (eLend 0 (eCons (eCall f__law_pick [some 0, none] (eLend 0 (eCons (eLst (eCons (eK (.int 0)) (eCons (eK (.int 1)) (eCons (eK (.int 2)) (eCons (eK (.int 3)) (eCons (eK (.int 15)) (eCons (eK (.int 16)) (eCons (eK (.int 17)) eNil)))))))) eNil))) eNil))))
  (sSeq (sSet 5 (eLst (eCons (eN tupleG (eCons (eVar 4) eNil)) (eCons (eVar 4) (eCons (eN tupleG (eCons (e2 addG (eVar 4) (eCut (eVar 4) none (some (eK (.int 1))))) eNil)) (eCons (eN tupleG (eCons (e2 addG (eVar 4) (eLst (eCons (eCall f__law_near [some 0, none] (eLend 0 (eCons (eVar 1) eNil))) eNil))) eNil)) (eCons (eN tupleG (eCons (eCut (eVar 4) (some (eK (.int 1))) none) eNil)) eNil)))))))
  (sSeq (sSet 5 (e2 addG (eVar 5) (eLst (eCons (eN tupleG (eCons (e2 addG (eVar 4) (eLst (eCons (eK .non) eNil))) eNil)) (eCons (eN tupleG (eCons (e2 addG (eVar 4) (eLst (eCons (eLst (eCons (eK (.str ("a" : Str))) eNil)) eNil))) eNil)) (eCons (eMs joinG (eK (.str ("" : Str))) (eCons (eVar 4) eNil)) (eCons eDnew (eCons (eK .non) (eCons (eK (.int 5)) (eCons (eTup (eCons (eN tupleG (eCons (eVar 4) eNil)) eNil)) eNil))))))))))
  (sSeq (sFor (iSeq (eVar 5)) (tN 3)
  (sIf (eB (e2 gNe (eN reprG (eCons (eCall f_is_names [none] (eCons (eVar 3) eNil)) eNil)) (eN reprG (eCons (eCall f__law_is_names [none] (eCons (eVar 3) eNil)) eNil))))
  (sRet (eK (.bl false)))
  sNil))
  (sRet (eK (.bl true)))))))))
def f__law_cell_right : Fn := fnG 6 [true] b__law_cell_right
abbrev s_is_integer : Stmt := top 4
def b_is_integer : Fs := (sRet (eAnd (e1 (isG "int") (eVar 0)) (eAnd (eNot (e1 (isG "bool") (eVar 0))) (eChn gLe gLe (e1 negG (eK (.int 999999999999999999999999999999999999999999999999999999999999))) (eVar 0) (eK (.int 999999999999999999999999999999999999999999999999999999999999))))))
def f_is_integer : Fn := fnG 1 [false] b_is_integer
abbrev s__law_integers_right : Stmt := top 18
def b__law_integers_right : Fs := (sSeq (sSet 1 (e2 mulG (eCall f__law_roll [some 0, none] (eLend 0 (eCons (e2 powG (eK (.int 10)) (eK (.int 6))) eNil))) (eCall f__law_pick [some 0, none] (eLend 0 (eCons (eLst (eCons (eK (.int 1)) (eCons (e1 negG (eK (.int 1))) (eCons (e2 powG (eK (.int 10)) (eK (.int 54))) (eCons (e1 negG (e2 powG (eK (.int 10)) (eK (.int 54)))) (eCons (e2 powG (eK (.int 10)) (eK (.int 55))) eNil)))))) eNil)))))
  (sSeq (sFor (iSeq (eLst (eCons (eVar 1) (eCons (e2 subG (e2 powG (eK (.int 10)) (eK (.int 60))) (eK (.int 1))) (eCons (e2 powG (eK (.int 10)) (eK (.int 60))) (eCons (e2 subG (eK (.int 1)) (e2 powG (eK (.int 10)) (eK (.int 60)))) (eCons (e1 negG (e2 powG (eK (.int 10)) (eK (.int 60)))) (eCons (eK (.int 0)) (eCons (e2 mulG (e2 powG (eK (.int 10)) (eK (.int 60))) (e2 powG (eK (.int 10)) (eK (.int 39)))) eNil))))))))) (tN 2)
  (sIf (eB (e2 gNe (eN reprG (eCons (eCall f_is_integer [none] (eCons (eVar 2) eNil)) eNil)) (eN reprG (eCons (eChn gLt gLt (e1 negG (e2 powG (eK (.int 10)) (eK (.int 60)))) (eVar 2) (e2 powG (eK (.int 10)) (eK (.int 60)))) eNil))))
  (sRet (eK (.bl false)))
  sNil))
  (sSeq (sSet 3 (eLst (eCons (eK (.bl true)) (eCons (eK (.bl false)) (eCons (eK .non) (eCons (eK (.str ("1" : Str))) (eCons (eTup (eCons (eK (.int 1)) eNil)) (eCons (eLst (eCons (eK (.int 1)) eNil)) (eCons eDnew (eCons (eTup eNil) (eCons (eK (.str ("" : Str))) (eCons (eN strG (eCons (eVar 1) eNil)) eNil))))))))))))
  (sRet (e2 gEq (eLc (iSeq (eVar 3)) (tN 2) (eB (e2 gIsn (eCall f_is_integer [none] (eCons (eVar 2) eNil)) (eK (.bl false)))) (eVar 2) [2]) (eLst eNil))))))
def f__law_integers_right : Fn := fnG 4 [true] b__law_integers_right
abbrev s_law : Stmt := top 19
def b_law : Fs := (sSeq (sFor (iRng1 (eN maxG (eCons (eK (.int 1)) (eCons (eN minG (eCons (eK (.int 8)) (eCons (eN lenG (eCons (eVar 0) eNil)) eNil))) eNil)))) (tN 1)
  (sSeq (sSet 2 (eCall f__law_tape [none, none] (eCons (eVar 0) (eCons (eVar 1) eNil))))
  (sIf (tOr' (tNt (eTru (eCall f__law_cell_right [some 2] (eLend 2 eNil)))) (tNt (eTru (eCall f__law_integers_right [some 2] (eLend 2 eNil)))))
  (sRet (eK (.bl false)))
  sNil)))
  (sSeq (sSet 3 (eLc (iSeq (eLst (eCons (eK (.str ("a" : Str))) (eCons (eK (.str ("abcdefgh" : Str))) (eCons (eK (.str ("abcdefghi" : Str))) (eCons (eK (.str ("" : Str))) (eCons (eK (.str ("A" : Str))) (eCons (eK (.str ("a1" : Str))) (eCons (eK (.str ("a b" : Str))) (eCons (eK (.str ("-" : Str))) eNil)))))))))) (tN 4) ttY (eCall f_is_name [none] (eCons (eVar 4) eNil)) [4]))
  (sSeq (sSet 5 (eN tupleG (eCons (eN listG (eCons (eK (.str ("abcdefghijklmnopq" : Str))) eNil)) eNil)))
  (sSeq (sSet 3 (e2 addG (eVar 3) (eLst (eCons (eCall f_is_names [none] (eCons (eCut (eVar 5) none (some (eK (.int 16)))) eNil)) (eCons (eCall f_is_names [none] (eCons (eVar 5) eNil)) (eCons (eCall f_is_names [none] (eCons (eTup eNil) eNil)) (eCons (eCall f_is_name [none] (eCons (eK (.str ("ask\n" : Str))) eNil)) (eCons (eCall f_is_names [none] (eCons (eTup (eCons (eK (.str ("ask\n" : Str))) eNil)) eNil)) eNil))))))))
  (sSeq (sSet 6 (eLst (eCons (eK (.bl true)) (eCons (eK (.bl true)) (eCons (eK (.bl false)) (eCons (eK (.bl false)) (eCons (eK (.bl false)) (eCons (eK (.bl false)) (eCons (eK (.bl false)) (eCons (eK (.bl false)) (eCons (eK (.bl true)) (eCons (eK (.bl false)) (eCons (eK (.bl true)) (eCons (eK (.bl false)) (eCons (eK (.bl false)) eNil)))))))))))))))
  (sRet (eAnd (e2 gEq (eVar 3) (eVar 6)) (e2 gEq (eLst (eCons (eK (.int 8)) (eCons (eK (.int 16)) eNil))) (eLst (eCons (eK (.int 8)) (eCons (eK (.int 16)) eNil)))))))))))
def f_law : Fn := fnG 7 [false] b_law
/-- the text, by its parts -/
structure Tx (P : Program) (K : PySem.W.Frag) (mg : Str → Option Value) (C : Cn) : Prop where
  hK : K = C.K
  d_is_name : Df K mg "is_name" s_is_name ["value"]
  d_are_different_names : Df K mg "are_different_names" s_are_different_names ["values"]
  d_is_names : Df K mg "is_names" s_is_names ["value"]
  d__law_tape : Df K mg "_law_tape" s__law_tape ["script", "spot"]
  d__law_roll : Df K mg "_law_roll" s__law_roll ["tape", "total"]
  d__law_pick : Df K mg "_law_pick" s__law_pick ["tape", "items"]
  d__law_word_drawn : Df K mg "_law_word_drawn" s__law_word_drawn ["tape"]
  d__law_words_drawn : Df K mg "_law_words_drawn" s__law_words_drawn ["tape", "lots"]
  d__law_is_name : Df K mg "_law_is_name" s__law_is_name ["value"]
  d__law_is_names : Df K mg "_law_is_names" s__law_is_names ["value"]
  d__law_near : Df K mg "_law_near" s__law_near ["tape", "name"]
  d__law_cell_right : Df K mg "_law_cell_right" s__law_cell_right ["tape"]
  d_is_integer : Df K mg "is_integer" s_is_integer ["value"]
  d__law_integers_right : Df K mg "_law_integers_right" s__law_integers_right ["tape"]
  n_abs : mg "abs" = none
  n_all : mg "all" = none
  n_bool : mg "bool" = none
  n_int : mg "int" = none
  n_isinstance : mg "isinstance" = none
  n_len : mg "len" = none
  n_list : mg "list" = none
  n_max : mg "max" = none
  n_min : mg "min" = none
  n_range : mg "range" = none
  n_repr : mg "repr" = none
  n_set : mg "set" = none
  n_sorted : mg "sorted" = none
  n_str : mg "str" = none
  n_tuple : mg "tuple" = none
  c_GREATEST : ∃ t, mg "GREATEST" = some (.int 999999999999999999999999999999999999999999999999999999999999 t)
  c_MAX_LETTERS : ∃ t, mg "MAX_LETTERS" = some (.int 8 t)
  c_MAX_NAMES : ∃ t, mg "MAX_NAMES" = some (.int 16 t)
section
variable {P : Program} {w : World} {K : PySem.W.Frag} {mg : Str → Option Value} {base : Heap} {C : Cn}
theorem c_is_name : FnScope ["value", "letter"] ["value"] (defScope s_is_name) := ⟨rfl, rfl, rfl, by decide +kernel, rfl, by decide +kernel, by decide +kernel⟩
theorem k_is_name (T : Tx P K mg C) : Cl P w K mg base C 1 "is_name" 1 f_is_name := by
  exact cl_def (k := 0) (ks := [false]) T.d_is_name T.hK c_is_name rfl fun f cdv A outer s H E σ0 b =>
  (dss_cons (ds_if (dt_w (dw_or (dt_not (dt_tru b.ok (de_isi b.ok (by decide) (lv 0) (by rfl) T.n_isinstance (by rfl) T.n_str bt_str))) (dw_or1 (dt_not (dt_chn (og_le b.ok) (og_le b.ok) de_int (de_callB (og_len b.ok) (by rfl) T.n_len bt_len (da_cons (lv 0) da_nil)) (lgi T.c_MAX_LETTERS))))))
  (dss_one (ds_ret de_bl))
  dss_nil)
  (dss_one (ds_ret (de_callB (og_all b.ok) (by rfl) T.n_all bt_all (da_cons (de_lc (own := [(("letter" : Str), 1)]) b.ok (di_seq b.ok (lv 0)) (blkOk_by (by rfl)) (by decide) (fun _ _ _ _ _ => (pg_name (i := 1) b.blk.ok.nd rfl (by first | exact Or.inl rfl | exact Or.inr rfl))) (tgt_name (by simp)) (by decide) (fun _ _ _ _ _ => dts_nil) (fun _ _ _ _ _ => (de_chn (og_le b.blk.ok) (og_le b.blk.ok) de_str (lv 1) de_str))) da_nil)))))
theorem c_are_different_names : FnScope ["values", "value"] ["values"] (defScope s_are_different_names) := ⟨rfl, rfl, rfl, by decide +kernel, rfl, by decide +kernel, by decide +kernel⟩
theorem k_are_different_names (T : Tx P K mg C) : Cl P w K mg base C 2 "are_different_names" 1 f_are_different_names := by
  have k_is_name : Cl P w K mg base C 1 "is_name" 1 f_is_name := k_is_name T
  exact cl_def (k := 1) (ks := [false]) T.d_are_different_names T.hK c_are_different_names rfl fun f cdv A outer s H E σ0 b =>
  (dss_one (ds_ret (de_and (de_callB (og_all b.ok) (by rfl) T.n_all bt_all (da_cons (de_lc (own := [(("value" : Str), 1)]) b.ok (di_seq b.ok (lv 0)) (blkOk_by (by rfl)) (by decide) (fun _ _ _ _ _ => (pg_name (i := 1) b.blk.ok.nd rfl (by first | exact Or.inl rfl | exact Or.inr rfl))) (tgt_name (by simp)) (by decide) (fun _ _ _ _ _ => dts_nil) (fun _ _ _ _ _ => (de_cl k_is_name b.blk (dm_val (lv 1) dm_nil)))) da_nil)) (de_one (de_cmp (og_eq b.ok) (de_callB (og_len b.ok) (by rfl) T.n_len bt_len (da_cons (de_dc (own := [(("value" : Str), 1)]) b.ok (di_seq b.ok (lv 0)) (blkOk_by (by rfl)) (by decide) (fun _ _ _ _ _ => (pg_name (i := 1) b.blk.ok.nd rfl (by first | exact Or.inl rfl | exact Or.inr rfl))) (tgt_name (by simp)) (by decide) (fun _ _ _ _ _ => dts_nil) (fun _ _ _ _ _ => (lv 1)) (fun _ _ _ _ _ => de_bl)) da_nil)) (de_callB (og_len b.ok) (by rfl) T.n_len bt_len (da_cons (lv 0) da_nil)) (nomark _))))))
theorem c_is_names : FnScope ["value"] ["value"] (defScope s_is_names) := ⟨rfl, rfl, rfl, by decide +kernel, rfl, by decide +kernel, by decide +kernel⟩
theorem k_is_names (T : Tx P K mg C) : Cl P w K mg base C 3 "is_names" 1 f_is_names := by
  have k_are_different_names : Cl P w K mg base C 2 "are_different_names" 1 f_are_different_names := k_are_different_names T
  exact cl_def (k := 2) (ks := [false]) T.d_is_names T.hK c_is_names rfl fun f cdv A outer s H E σ0 b =>
  (dss_one (ds_ret (de_and (de_isi b.ok (by decide) (lv 0) (by rfl) T.n_isinstance (by rfl) T.n_tuple bt_tuple) (de_and (de_cmp (og_le b.ok) (de_callB (og_len b.ok) (by rfl) T.n_len bt_len (da_cons (lv 0) da_nil)) (lgi T.c_MAX_NAMES) (nomark _)) (de_one (de_cl k_are_different_names b (dm_val (lv 0) dm_nil)))))))
theorem c__law_tape : FnScope ["script", "spot", "cell", "great", "begin"] ["script", "spot"] (defScope s__law_tape) := ⟨rfl, rfl, rfl, by decide +kernel, rfl, by decide +kernel, by decide +kernel⟩
theorem k__law_tape (T : Tx P K mg C) : Cl P w K mg base C 1 "_law_tape" 2 f__law_tape := by
  exact cl_def (k := 0) (ks := [false, false]) T.d__law_tape T.hK c__law_tape rfl fun f cdv A outer s H E σ0 b =>
  (dss_cons (dset (i := 2) b (by exact (show ¬ (2 ∈ piOf [false, false] 0) by decide)) (de_if (dt_cmp (og_lt b.ok) (lv 1) (de_callB (og_len b.ok) (by rfl) T.n_len bt_len (da_cons (lv 0) da_nil)) (nomark _)) (de_item b.ok (lv 0) (lv 1) (pl_ix fun _ _ => rfl)) (de_op (og_add b.ok) (de_op (og_mul b.ok) de_int (lv 1)) de_int)))
  (dss_cons (dset (i := 3) b (by exact (show ¬ (3 ∈ piOf [false, false] 0) by decide)) (de_op (og_mod b.ok) (de_callTy (og_int b.ok) (by rfl) T.n_int bt_int (da_cons (de_callB (og_abs b.ok) (by rfl) T.n_abs bt_abs (da_cons (lv 2) da_nil)) da_nil)) (de_op (og_pow b.ok) (de_op (og_pow b.ok) de_int de_int) de_int)))
  (dss_cons (dset (i := 4) b (by exact (show ¬ (4 ∈ piOf [false, false] 0) by decide)) (de_op (og_add b.ok) (de_op (og_add b.ok) (de_op (og_add b.ok) (de_op (og_mul b.ok) (lv 3) de_int) (de_op (og_mul b.ok) de_int (lv 1))) (de_op (og_mul b.ok) de_int (de_callTy (og_int b.ok) (by rfl) T.n_int bt_int (da_cons (de_cmp (og_lt b.ok) (lv 2) de_int (nomark _)) da_nil)))) de_int))
  (dss_one (ds_ret (de_lst (da_cons (de_callB (og_max b.ok) (by rfl) T.n_max bt_max (da_cons de_int (da_cons (de_op (og_sub b.ok) (lv 3) (de_op (og_pow b.ok) de_int de_int)) da_nil))) (da_cons (de_op (og_mod b.ok) (de_callTy (og_int b.ok) (by rfl) T.n_int bt_int (da_cons (lv 4) da_nil)) de_int) (da_cons de_int da_nil)))))))))
theorem c__law_roll : FnScope ["tape", "total", "found", "one", "two"] ["tape", "total"] (defScope s__law_roll) := ⟨rfl, rfl, rfl, by decide +kernel, rfl, by decide +kernel, by decide +kernel⟩
theorem k__law_roll (T : Tx P K mg C) : Cl P w K mg base C 1 "_law_roll" 2 f__law_roll := by
  exact cl_def (k := 0) (ks := [true, false]) T.d__law_roll T.hK c__law_roll rfl fun f cdv A outer s H E σ0 b =>
  (dss_cons (ds_if (dt_cmp (og_gt b.ok) (ditO (i := 0) b de_int (pl_ix fun _ _ => rfl)) de_int (nomark _))
  (dss_cons (dset (i := 2) b (by exact (show ¬ (2 ∈ piOf [true, false] 0) by decide)) (de_op (og_mod b.ok) (de_callTy (og_int b.ok) (by rfl) T.n_int bt_int (da_cons (ditO (i := 0) b de_int (pl_ix fun _ _ => rfl)) da_nil)) (lv 1)))
  (dss_cons (ds_putI (i := 0) rfl (by first | exact Or.inl rfl | exact Or.inr (Or.inl rfl)) (de_op (og_fdiv b.ok) (ditO (i := 0) b de_int (pl_ix fun _ _ => rfl)) (lv 1)) de_int)
  (dss_one (ds_ret (lv 2)))))
  dss_nil)
  (dss_cons (ds_putI (i := 0) rfl (by first | exact Or.inl rfl | exact Or.inr (Or.inl rfl)) (de_op (og_add b.ok) (ditO (i := 0) b de_int (pl_ix fun _ _ => rfl)) de_int) de_int)
  (dss_cons (dset (i := 3) b (by exact (show ¬ (3 ∈ piOf [true, false] 0) by decide)) (de_op (og_mod b.ok) (de_callTy (og_int b.ok) (by rfl) T.n_int bt_int (da_cons (de_op (og_add b.ok) (ditO (i := 0) b de_int (pl_ix fun _ _ => rfl)) (de_op (og_mul b.ok) de_int (ditO (i := 0) b de_int (pl_ix fun _ _ => rfl)))) da_nil)) de_int))
  (dss_cons (dset (i := 4) b (by exact (show ¬ (4 ∈ piOf [true, false] 0) by decide)) (de_op (og_add b.ok) (de_op (og_mul b.ok) (de_op (og_mod b.ok) (de_callTy (og_int b.ok) (by rfl) T.n_int bt_int (da_cons (de_op (og_mul b.ok) (lv 3) (lv 3)) da_nil)) de_int) (lv 3)) (de_op (og_mul b.ok) de_int (ditO (i := 0) b de_int (pl_ix fun _ _ => rfl)))))
  (dss_one (ds_ret (de_op (og_mod b.ok) (de_callTy (og_int b.ok) (by rfl) T.n_int bt_int (da_cons (de_op (og_fdiv b.ok) (de_op (og_mod b.ok) (de_callTy (og_int b.ok) (by rfl) T.n_int bt_int (da_cons (de_op (og_add b.ok) (lv 4) (ditO (i := 0) b de_int (pl_ix fun _ _ => rfl))) da_nil)) de_int) de_int) da_nil)) (lv 1))))))))
theorem c__law_pick : FnScope ["tape", "items"] ["tape", "items"] (defScope s__law_pick) := ⟨rfl, rfl, rfl, by decide +kernel, rfl, by decide +kernel, by decide +kernel⟩
theorem k__law_pick (T : Tx P K mg C) : Cl P w K mg base C 2 "_law_pick" 2 f__law_pick := by
  have k__law_roll : Cl P w K mg base C 1 "_law_roll" 2 f__law_roll := k__law_roll T
  exact cl_def (k := 1) (ks := [true, false]) T.d__law_pick T.hK c__law_pick rfl fun f cdv A outer s H E σ0 b =>
  (dss_one (ds_ret (de_item b.ok (lv 1) (de_cl k__law_roll b (dm_lend (dm_val (de_callB (og_len b.ok) (by rfl) T.n_len bt_len (da_cons (lv 1) da_nil)) dm_nil))) (pl_ix fun _ _ => rfl))))
theorem c__law_word_drawn : FnScope ["tape", "lots", "turn"] ["tape"] (defScope s__law_word_drawn) := ⟨rfl, rfl, rfl, by decide +kernel, rfl, by decide +kernel, by decide +kernel⟩
theorem k__law_word_drawn (T : Tx P K mg C) : Cl P w K mg base C 3 "_law_word_drawn" 1 f__law_word_drawn := by
  have k__law_pick : Cl P w K mg base C 2 "_law_pick" 2 f__law_pick := k__law_pick T
  exact cl_def (k := 2) (ks := [true]) T.d__law_word_drawn T.hK c__law_word_drawn rfl fun f cdv A outer s H E σ0 b =>
  (dss_cons (dset (i := 1) b (by exact (show ¬ (1 ∈ piOf [true] 0) by decide)) (de_cl k__law_pick b (dm_lend (dm_val (de_lst (da_cons de_int (da_cons de_int (da_cons de_int (da_cons de_int (da_cons de_int (da_cons de_int da_nil))))))) dm_nil))))
  (dss_one (ds_ret (de_ms PySem.F.slot_str_join PySem.F.type_str_join (og_join b.ok) de_str (da_cons (de_lc (own := [(("turn" : Str), 2)]) b.ok (di_rng1 (by rfl) T.n_range (lv 1)) (blkOk_by (by rfl)) (by decide) (fun _ _ _ _ _ => (pg_name (i := 2) b.blk.ok.nd rfl (by first | exact Or.inl rfl | exact Or.inr rfl))) (tgt_name (by simp)) (by decide) (fun _ _ _ _ _ => dts_nil) (fun _ _ _ _ _ => (de_cl k__law_pick b.blk (dm_lend (dm_val de_str dm_nil))))) da_nil)))))
theorem c__law_words_drawn : FnScope ["tape", "lots", "found", "turn", "word", "left", "sign"] ["tape", "lots"] (defScope s__law_words_drawn) := ⟨rfl, rfl, rfl, by decide +kernel, rfl, by decide +kernel, by decide +kernel⟩
theorem k__law_words_drawn (T : Tx P K mg C) : Cl P w K mg base C 4 "_law_words_drawn" 2 f__law_words_drawn := by
  have k__law_word_drawn : Cl P w K mg base C 3 "_law_word_drawn" 1 f__law_word_drawn := k__law_word_drawn T
  exact cl_def (k := 3) (ks := [true, false]) T.d__law_words_drawn T.hK c__law_words_drawn rfl fun f cdv A outer s H E σ0 b =>
  (dss_cons (dset (i := 2) b (by exact (show ¬ (2 ∈ piOf [true, false] 0) by decide)) (de_lst da_nil))
  (dss_cons (ds_for b.ok (passes_of rfl) (di_rng1 (by rfl) T.n_range (lv 1)) (pg_name (i := 3) b.ok.nd rfl (by first | exact Or.inl rfl | exact Or.inr rfl)) (tgt_name (by exact (show ¬ (3 ∈ piOf [true, false] 0) by decide)))
  (dss_cons (dset (i := 4) b (by exact (show ¬ (4 ∈ piOf [true, false] 0) by decide)) (de_cl k__law_word_drawn b (dm_lend dm_nil)))
  (dss_cons (ds_setLc (own := [(("sign" : Str), 6)]) b.ok (by exact (show ¬ (5 ∈ piOf [true, false] 0) by decide)) (di_seq b.ok de_str) (blkOk_by (by rfl)) (by decide) (fun _ _ _ _ _ => (pg_name (i := 6) b.blk.ok.nd rfl (by first | exact Or.inl rfl | exact Or.inr rfl))) (tgt_name (by simp)) (by decide) (fun _ _ _ _ _ => (dts_one (dt_cmpV (og_nin b.blk.ok) (lv 6) (vv 2) (by with_unfolding_all rfl)))) (fun _ _ _ _ _ => (lv 6)))
  (dss_one (ds_expr (dappV (de_if (dt_cmpV (og_nin b.ok) (lv 4) (vv 2) (by with_unfolding_all rfl)) (lv 4) (de_item b.ok (lv 5) de_int (pl_ix fun _ _ => rfl)))))))))
  (dss_one (ds_ret (mv 2)))))
theorem c__law_is_name : FnScope ["value", "sign"] ["value"] (defScope s__law_is_name) := ⟨rfl, rfl, rfl, by decide +kernel, rfl, by decide +kernel, by decide +kernel⟩
theorem k__law_is_name (T : Tx P K mg C) : Cl P w K mg base C 1 "_law_is_name" 1 f__law_is_name := by
  exact cl_def (k := 0) (ks := [false]) T.d__law_is_name T.hK c__law_is_name rfl fun f cdv A outer s H E σ0 b =>
  (dss_cons (ds_if (dt_w (dw_or (dt_not (dt_tru b.ok (de_isi b.ok (by decide) (lv 0) (by rfl) T.n_isinstance (by rfl) T.n_str bt_str))) (dw_or (dt_cmp (og_eq b.ok) (lv 0) de_str (nomark _)) (dw_or1 (dt_cmp (og_gt b.ok) (de_callB (og_len b.ok) (by rfl) T.n_len bt_len (da_cons (lv 0) da_nil)) de_int (nomark _))))))
  (dss_one (ds_ret de_bl))
  dss_nil)
  (dss_one (ds_ret (de_cmp (og_eq b.ok) (de_lc (own := [(("sign" : Str), 1)]) b.ok (di_seq b.ok (lv 0)) (blkOk_by (by rfl)) (by decide) (fun _ _ _ _ _ => (pg_name (i := 1) b.blk.ok.nd rfl (by first | exact Or.inl rfl | exact Or.inr rfl))) (tgt_name (by simp)) (by decide) (fun _ _ _ _ _ => (dts_one (dt_cmp (og_nin b.blk.ok) (lv 1) (de_callTy (og_list b.blk.ok) (by rfl) T.n_list bt_list (da_cons de_str da_nil)) (by with_unfolding_all rfl)))) (fun _ _ _ _ _ => (lv 1))) (de_lst da_nil) (nomark _)))))
theorem c__law_is_names : FnScope ["value", "one"] ["value"] (defScope s__law_is_names) := ⟨rfl, rfl, rfl, by decide +kernel, rfl, by decide +kernel, by decide +kernel⟩
theorem k__law_is_names (T : Tx P K mg C) : Cl P w K mg base C 2 "_law_is_names" 1 f__law_is_names := by
  have k__law_is_name : Cl P w K mg base C 1 "_law_is_name" 1 f__law_is_name := k__law_is_name T
  exact cl_def (k := 1) (ks := [false]) T.d__law_is_names T.hK c__law_is_names rfl fun f cdv A outer s H E σ0 b =>
  (dss_cons (ds_if (dt_w (dw_or (dt_not (dt_tru b.ok (de_isi b.ok (by decide) (lv 0) (by rfl) T.n_isinstance (by rfl) T.n_tuple bt_tuple))) (dw_or (dt_cmp (og_gt b.ok) (de_callB (og_len b.ok) (by rfl) T.n_len bt_len (da_cons (lv 0) da_nil)) de_int (nomark _)) (dw_or1 (dt_cmp (og_ne b.ok) (de_lc (own := [(("one" : Str), 1)]) b.ok (di_seq b.ok (lv 0)) (blkOk_by (by rfl)) (by decide) (fun _ _ _ _ _ => (pg_name (i := 1) b.blk.ok.nd rfl (by first | exact Or.inl rfl | exact Or.inr rfl))) (tgt_name (by simp)) (by decide) (fun _ _ _ _ _ => (dts_one (dt_not (dt_tru b.blk.ok (de_cl k__law_is_name b.blk (dm_val (lv 1) dm_nil)))))) (fun _ _ _ _ _ => (lv 1))) (de_lst da_nil) (nomark _))))))
  (dss_one (ds_ret de_bl))
  dss_nil)
  (dss_one (ds_ret (de_cmp (og_eq b.ok) (de_sortS b.ok T.n_sorted T.n_set (lv 0)) (de_callB (og_sorted b.ok) (by rfl) T.n_sorted bt_sorted (da_cons (lv 0) da_nil)) (nomark _)))))
theorem c__law_near : FnScope ["tape", "name", "at", "sign", "odd"] ["tape", "name"] (defScope s__law_near) := ⟨rfl, rfl, rfl, by decide +kernel, rfl, by decide +kernel, by decide +kernel⟩
theorem k__law_near (T : Tx P K mg C) : Cl P w K mg base C 3 "_law_near" 2 f__law_near := by
  have k__law_roll : Cl P w K mg base C 1 "_law_roll" 2 f__law_roll := k__law_roll T
  have k__law_pick : Cl P w K mg base C 2 "_law_pick" 2 f__law_pick := k__law_pick T
  exact cl_def (k := 2) (ks := [true, false]) T.d__law_near T.hK c__law_near rfl fun f cdv A outer s H E σ0 b =>
  (dss_cons (dset (i := 2) b (by exact (show ¬ (2 ∈ piOf [true, false] 0) by decide)) (de_cl k__law_roll b (dm_lend (dm_val (de_op (og_add b.ok) (de_callB (og_len b.ok) (by rfl) T.n_len bt_len (da_cons (lv 1) da_nil)) de_int) dm_nil))))
  (dss_cons (dset (i := 3) b (by exact (show ¬ (3 ∈ piOf [true, false] 0) by decide)) (de_cl k__law_pick b (dm_lend (dm_val (de_lst (da_cons de_str (da_cons de_str (da_cons de_str (da_cons de_str (da_cons de_str (da_cons de_str (da_cons de_str (da_cons de_str (da_cons de_str (da_cons de_str (da_cons de_str (da_cons de_str da_nil))))))))))))) dm_nil))))
  (dss_cons (dset (i := 4) b (by exact (show ¬ (4 ∈ piOf [true, false] 0) by decide)) (de_lst (da_cons (de_op (og_add b.ok) (de_op (og_add b.ok) (de_cut b.ok (lv 1) dp_none (dp_some (lv 2))) (lv 3)) (de_cut b.ok (lv 1) (dp_some (lv 2)) dp_none)) (da_cons (de_ms0 PySem.F.slot_str_upper PySem.F.type_str_upper (og_upper b.ok) (lv 1)) (da_cons (de_op (og_add b.ok) (lv 1) (lv 1)) (da_cons (de_tup (da_cons (lv 1) da_nil)) (da_cons (de_lst (da_cons (lv 1) da_nil)) (da_cons de_non (da_cons (de_callB (og_len b.ok) (by rfl) T.n_len bt_len (da_cons (lv 1) da_nil)) (da_cons de_str (da_cons (de_cut b.ok (lv 1) (dp_some de_int) dp_none) da_nil)))))))))))
  (dss_one (ds_ret (de_cl k__law_pick b (dm_lend (dm_val (de_op (og_add b.ok) (lv 4) (de_lst (da_cons (de_op (og_add b.ok) (lv 1) de_str) (da_cons (de_op (og_add b.ok) (lv 1) de_str) (da_cons (de_disp (dp_cons (lv 1) (lv 1) dp_nil)) (da_cons (de_op (og_add b.ok) (lv 1) de_str) (da_cons (de_op (og_add b.ok) de_str (lv 1)) da_nil))))))) dm_nil))))))))
theorem c__law_cell_right : FnScope ["tape", "name", "turn", "value", "names", "odd"] ["tape"] (defScope s__law_cell_right) := ⟨rfl, rfl, rfl, by decide +kernel, rfl, by decide +kernel, by decide +kernel⟩
theorem k__law_cell_right (T : Tx P K mg C) : Cl P w K mg base C 5 "_law_cell_right" 1 f__law_cell_right := by
  have k_is_name : Cl P w K mg base C 1 "is_name" 1 f_is_name := k_is_name T
  have k_is_names : Cl P w K mg base C 3 "is_names" 1 f_is_names := k_is_names T
  have k__law_pick : Cl P w K mg base C 2 "_law_pick" 2 f__law_pick := k__law_pick T
  have k__law_word_drawn : Cl P w K mg base C 3 "_law_word_drawn" 1 f__law_word_drawn := k__law_word_drawn T
  have k__law_words_drawn : Cl P w K mg base C 4 "_law_words_drawn" 2 f__law_words_drawn := k__law_words_drawn T
  have k__law_is_name : Cl P w K mg base C 1 "_law_is_name" 1 f__law_is_name := k__law_is_name T
  have k__law_is_names : Cl P w K mg base C 2 "_law_is_names" 1 f__law_is_names := k__law_is_names T
  have k__law_near : Cl P w K mg base C 3 "_law_near" 2 f__law_near := k__law_near T
  exact cl_def (k := 4) (ks := [true]) T.d__law_cell_right T.hK c__law_cell_right rfl fun f cdv A outer s H E σ0 b =>
  (dss_cons (dset (i := 1) b (by exact (show ¬ (1 ∈ piOf [true] 0) by decide)) (de_cl k__law_word_drawn b (dm_lend dm_nil)))
  (dss_cons (ds_for b.ok (passes_of rfl) (di_rng1 (by rfl) T.n_range de_int) (pg_name (i := 2) b.ok.nd rfl (by first | exact Or.inl rfl | exact Or.inr rfl)) (tgt_name (by exact (show ¬ (2 ∈ piOf [true] 0) by decide)))
  (dss_cons (dset (i := 3) b (by exact (show ¬ (3 ∈ piOf [true] 0) by decide)) (de_if (dt_cmp (og_gt b.ok) (lv 2) de_int (nomark _)) (de_cl k__law_near b (dm_lend (dm_val (lv 1) dm_nil))) (lv 1)))
  (dss_one (ds_if (dt_cmp (og_ne b.ok) (de_callB (og_repr b.ok) (by rfl) T.n_repr bt_repr (da_cons (de_cl k_is_name b (dm_val (lv 3) dm_nil)) da_nil)) (de_callB (og_repr b.ok) (by rfl) T.n_repr bt_repr (da_cons (de_cl k__law_is_name b (dm_val (lv 3) dm_nil)) da_nil)) (nomark _))
  (dss_one (ds_ret de_bl))
  dss_nil))))
  (dss_cons (dset (i := 4) b (by exact (show ¬ (4 ∈ piOf [true] 0) by decide)) (de_cl k__law_words_drawn b (dm_lend (dm_val (de_cl k__law_pick b (dm_lend (dm_val (de_lst (da_cons de_int (da_cons de_int (da_cons de_int (da_cons de_int (da_cons de_int (da_cons de_int (da_cons de_int da_nil)))))))) dm_nil))) dm_nil))))
  (dss_cons (dset (i := 5) b (by exact (show ¬ (5 ∈ piOf [true] 0) by decide)) (de_lst (da_cons (de_callTy (og_tuple b.ok) (by rfl) T.n_tuple bt_tuple (da_cons (lv 4) da_nil)) (da_cons (lv 4) (da_cons (de_callTy (og_tuple b.ok) (by rfl) T.n_tuple bt_tuple (da_cons (de_op (og_add b.ok) (lv 4) (de_cut b.ok (lv 4) dp_none (dp_some de_int))) da_nil)) (da_cons (de_callTy (og_tuple b.ok) (by rfl) T.n_tuple bt_tuple (da_cons (de_op (og_add b.ok) (lv 4) (de_lst (da_cons (de_cl k__law_near b (dm_lend (dm_val (lv 1) dm_nil))) da_nil))) da_nil)) (da_cons (de_callTy (og_tuple b.ok) (by rfl) T.n_tuple bt_tuple (da_cons (de_cut b.ok (lv 4) (dp_some de_int) dp_none) da_nil)) da_nil)))))))
  (dss_cons (dset (i := 5) b (by exact (show ¬ (5 ∈ piOf [true] 0) by decide)) (de_op (og_add b.ok) (lv 5) (de_lst (da_cons (de_callTy (og_tuple b.ok) (by rfl) T.n_tuple bt_tuple (da_cons (de_op (og_add b.ok) (lv 4) (de_lst (da_cons de_non da_nil))) da_nil)) (da_cons (de_callTy (og_tuple b.ok) (by rfl) T.n_tuple bt_tuple (da_cons (de_op (og_add b.ok) (lv 4) (de_lst (da_cons (de_lst (da_cons de_str da_nil)) da_nil))) da_nil)) (da_cons (de_ms PySem.F.slot_str_join PySem.F.type_str_join (og_join b.ok) de_str (da_cons (lv 4) da_nil)) (da_cons de_dnew (da_cons de_non (da_cons de_int (da_cons (de_tup (da_cons (de_callTy (og_tuple b.ok) (by rfl) T.n_tuple bt_tuple (da_cons (lv 4) da_nil)) da_nil)) da_nil))))))))))
  (dss_cons (ds_for b.ok (passes_of rfl) (di_seq b.ok (lv 5)) (pg_name (i := 3) b.ok.nd rfl (by first | exact Or.inl rfl | exact Or.inr rfl)) (tgt_name (by exact (show ¬ (3 ∈ piOf [true] 0) by decide)))
  (dss_one (ds_if (dt_cmp (og_ne b.ok) (de_callB (og_repr b.ok) (by rfl) T.n_repr bt_repr (da_cons (de_cl k_is_names b (dm_val (lv 3) dm_nil)) da_nil)) (de_callB (og_repr b.ok) (by rfl) T.n_repr bt_repr (da_cons (de_cl k__law_is_names b (dm_val (lv 3) dm_nil)) da_nil)) (nomark _))
  (dss_one (ds_ret de_bl))
  dss_nil)))
  (dss_one (ds_ret de_bl))))))))
theorem c_is_integer : FnScope ["value"] ["value"] (defScope s_is_integer) := ⟨rfl, rfl, rfl, by decide +kernel, rfl, by decide +kernel, by decide +kernel⟩
theorem k_is_integer (T : Tx P K mg C) : Cl P w K mg base C 1 "is_integer" 1 f_is_integer := by
  exact cl_def (k := 0) (ks := [false]) T.d_is_integer T.hK c_is_integer rfl fun f cdv A outer s H E σ0 b =>
  (dss_one (ds_ret (de_and (de_isi b.ok (by decide) (lv 0) (by rfl) T.n_isinstance (by rfl) T.n_int bt_int) (de_and (de_not b.ok (de_isi b.ok (by decide) (lv 0) (by rfl) T.n_isinstance (by rfl) T.n_bool bt_bool)) (de_one (de_chn (og_le b.ok) (og_le b.ok) (de_un (og_neg b.ok) (lgi T.c_GREATEST)) (lv 0) (lgi T.c_GREATEST)))))))
theorem c__law_integers_right : FnScope ["tape", "many", "value", "odd"] ["tape"] (defScope s__law_integers_right) := ⟨rfl, rfl, rfl, by decide +kernel, rfl, by decide +kernel, by decide +kernel⟩
theorem k__law_integers_right (T : Tx P K mg C) : Cl P w K mg base C 3 "_law_integers_right" 1 f__law_integers_right := by
  have k__law_roll : Cl P w K mg base C 1 "_law_roll" 2 f__law_roll := k__law_roll T
  have k__law_pick : Cl P w K mg base C 2 "_law_pick" 2 f__law_pick := k__law_pick T
  have k_is_integer : Cl P w K mg base C 1 "is_integer" 1 f_is_integer := k_is_integer T
  exact cl_def (k := 2) (ks := [true]) T.d__law_integers_right T.hK c__law_integers_right rfl fun f cdv A outer s H E σ0 b =>
  (dss_cons (dset (i := 1) b (by exact (show ¬ (1 ∈ piOf [true] 0) by decide)) (de_op (og_mul b.ok) (de_cl k__law_roll b (dm_lend (dm_val (de_op (og_pow b.ok) de_int de_int) dm_nil))) (de_cl k__law_pick b (dm_lend (dm_val (de_lst (da_cons de_int (da_cons (de_un (og_neg b.ok) de_int) (da_cons (de_op (og_pow b.ok) de_int de_int) (da_cons (de_un (og_neg b.ok) (de_op (og_pow b.ok) de_int de_int)) (da_cons (de_op (og_pow b.ok) de_int de_int) da_nil)))))) dm_nil)))))
  (dss_cons (ds_for b.ok (passes_of rfl) (di_seq b.ok (de_lst (da_cons (lv 1) (da_cons (de_op (og_sub b.ok) (de_op (og_pow b.ok) de_int de_int) de_int) (da_cons (de_op (og_pow b.ok) de_int de_int) (da_cons (de_op (og_sub b.ok) de_int (de_op (og_pow b.ok) de_int de_int)) (da_cons (de_un (og_neg b.ok) (de_op (og_pow b.ok) de_int de_int)) (da_cons de_int (da_cons (de_op (og_mul b.ok) (de_op (og_pow b.ok) de_int de_int) (de_op (og_pow b.ok) de_int de_int)) da_nil))))))))) (pg_name (i := 2) b.ok.nd rfl (by first | exact Or.inl rfl | exact Or.inr rfl)) (tgt_name (by exact (show ¬ (2 ∈ piOf [true] 0) by decide)))
  (dss_one (ds_if (dt_cmp (og_ne b.ok) (de_callB (og_repr b.ok) (by rfl) T.n_repr bt_repr (da_cons (de_cl k_is_integer b (dm_val (lv 2) dm_nil)) da_nil)) (de_callB (og_repr b.ok) (by rfl) T.n_repr bt_repr (da_cons (de_chn (og_lt b.ok) (og_lt b.ok) (de_un (og_neg b.ok) (de_op (og_pow b.ok) de_int de_int)) (lv 2) (de_op (og_pow b.ok) de_int de_int)) da_nil)) (nomark _))
  (dss_one (ds_ret de_bl))
  dss_nil)))
  (dss_cons (dset (i := 3) b (by exact (show ¬ (3 ∈ piOf [true] 0) by decide)) (de_lst (da_cons de_bl (da_cons de_bl (da_cons de_non (da_cons de_str (da_cons (de_tup (da_cons de_int da_nil)) (da_cons (de_lst (da_cons de_int da_nil)) (da_cons de_dnew (da_cons (de_tup da_nil) (da_cons de_str (da_cons (de_callTy (og_str b.ok) (by rfl) T.n_str bt_str (da_cons (lv 1) da_nil)) da_nil))))))))))))
  (dss_one (ds_ret (de_cmp (og_eq b.ok) (de_lc (own := [(("value" : Str), 2)]) b.ok (di_seq b.ok (lv 3)) (blkOk_by (by rfl)) (by decide) (fun _ _ _ _ _ => (pg_name (i := 2) b.blk.ok.nd rfl (by first | exact Or.inl rfl | exact Or.inr rfl))) (tgt_name (by simp)) (by decide) (fun _ _ _ _ _ => (dts_one (dt_cmp (og_isn b.blk.ok) (de_cl k_is_integer b.blk (dm_val (lv 2) dm_nil)) de_bl (nomark _)))) (fun _ _ _ _ _ => (lv 2))) (de_lst da_nil) (nomark _)))))))
theorem c_law : FnScope ["script", "at", "tape", "told", "value", "many", "due"] ["script"] (defScope s_law) := ⟨rfl, rfl, rfl, by decide +kernel, rfl, by decide +kernel, by decide +kernel⟩
theorem k_law {fa : Addr} {fd : FuncData} (T : Tx P K mg C) (Fd : Fun K "law" "law" s_law fa fd) (hp : ∀ ns : List Int, ns.length ≤ 63 → ∃ ps, f_law [.sh (.lst (ns.map D.int))] = .ok (.sh (.bl true)) ps) : FnOk P w K mg base (L2.CX P w) 6 fa fd ["script"] (spLaw K 63) := by
  have k_is_name : Cl P w K mg base C 1 "is_name" 1 f_is_name := k_is_name T
  have k_is_names : Cl P w K mg base C 3 "is_names" 1 f_is_names := k_is_names T
  have k__law_tape : Cl P w K mg base C 1 "_law_tape" 2 f__law_tape := k__law_tape T
  have k__law_cell_right : Cl P w K mg base C 5 "_law_cell_right" 1 f__law_cell_right := k__law_cell_right T
  have k__law_integers_right : Cl P w K mg base C 3 "_law_integers_right" 1 f__law_integers_right := k__law_integers_right T
  exact fn_top (k := 5) (ks := [false]) Fd T.hK c_law rfl (fun f cdv A outer s H E σ0 b =>
  (dss_cons (ds_for b.ok (passes_of rfl) (di_rng1 (by rfl) T.n_range (de_callB (og_max b.ok) (by rfl) T.n_max bt_max (da_cons de_int (da_cons (de_callB (og_min b.ok) (by rfl) T.n_min bt_min (da_cons de_int (da_cons (de_callB (og_len b.ok) (by rfl) T.n_len bt_len (da_cons (lv 0) da_nil)) da_nil))) da_nil)))) (pg_name (i := 1) b.ok.nd rfl (by first | exact Or.inl rfl | exact Or.inr rfl)) (tgt_name (by exact (show ¬ (1 ∈ piOf [false] 0) by decide)))
  (dss_cons (dset (i := 2) b (by exact (show ¬ (2 ∈ piOf [false] 0) by decide)) (de_cl k__law_tape b (dm_val (lv 0) (dm_val (lv 1) dm_nil))))
  (dss_one (ds_if (dt_w (dw_or (dt_not (dt_tru b.ok (de_cl k__law_cell_right b (dm_lend dm_nil)))) (dw_or1 (dt_not (dt_tru b.ok (de_cl k__law_integers_right b (dm_lend dm_nil)))))))
  (dss_one (ds_ret de_bl))
  dss_nil))))
  (dss_cons (ds_setLc (own := [(("value" : Str), 4)]) b.ok (by exact (show ¬ (3 ∈ piOf [false] 0) by decide)) (di_seq b.ok (de_lst (da_cons de_str (da_cons de_str (da_cons de_str (da_cons de_str (da_cons de_str (da_cons de_str (da_cons de_str (da_cons de_str da_nil)))))))))) (blkOk_by (by rfl)) (by decide) (fun _ _ _ _ _ => (pg_name (i := 4) b.blk.ok.nd rfl (by first | exact Or.inl rfl | exact Or.inr rfl))) (tgt_name (by simp)) (by decide) (fun _ _ _ _ _ => dts_nil) (fun _ _ _ _ _ => (de_cl k_is_name b.blk (dm_val (lv 4) dm_nil))))
  (dss_cons (dset (i := 5) b (by exact (show ¬ (5 ∈ piOf [false] 0) by decide)) (de_callTy (og_tuple b.ok) (by rfl) T.n_tuple bt_tuple (da_cons (de_callTy (og_list b.ok) (by rfl) T.n_list bt_list (da_cons de_str da_nil)) da_nil)))
  (dss_cons (dset (i := 3) b (by exact (show ¬ (3 ∈ piOf [false] 0) by decide)) (de_op (og_add b.ok) (lv 3) (de_lst (da_cons (de_cl k_is_names b (dm_val (de_cut b.ok (lv 5) dp_none (dp_some de_int)) dm_nil)) (da_cons (de_cl k_is_names b (dm_val (lv 5) dm_nil)) (da_cons (de_cl k_is_names b (dm_val (de_tup da_nil) dm_nil)) (da_cons (de_cl k_is_name b (dm_val de_str dm_nil)) (da_cons (de_cl k_is_names b (dm_val (de_tup (da_cons de_str da_nil)) dm_nil)) da_nil))))))))
  (dss_cons (dset (i := 6) b (by exact (show ¬ (6 ∈ piOf [false] 0) by decide)) (de_lst (da_cons de_bl (da_cons de_bl (da_cons de_bl (da_cons de_bl (da_cons de_bl (da_cons de_bl (da_cons de_bl (da_cons de_bl (da_cons de_bl (da_cons de_bl (da_cons de_bl (da_cons de_bl (da_cons de_bl da_nil)))))))))))))))
  (dss_one (ds_ret (de_and (de_cmp (og_eq b.ok) (lv 3) (lv 6) (nomark _)) (de_one (de_cmp (og_eq b.ok) (de_lst (da_cons (lgi T.c_MAX_LETTERS) (da_cons (lgi T.c_MAX_NAMES) da_nil))) (de_lst (da_cons de_int (da_cons de_int da_nil))) (nomark _)))))))))))) hp
end
end
end Kx
end

section
set_option maxRecDepth 100000
set_option maxHeartbeats 4000000
open PySem PySem.Spec PyProof.Rows L2 G
namespace Kx
theorem met_mem {l : List Str} {x y : Str} : y ∈ GS.met l x ↔ y ∈ l ∨ y = x := by
  unfold GS.met
  split
  · next h => exact ⟨.inl, fun e => e.elim id fun e => e ▸ h⟩
  · simp
theorem met_len {l : List Str} {x : Str} : (GS.met l x).length = l.length + 1 ↔ x ∉ l := by
  unfold GS.met
  split
  · next h => simp [h]
  · next h => simp [h]
theorem dl_len : ∀ (ys l : List Str), (ys.foldl GS.met l).length = l.length + ys.length ↔ ys.Nodup ∧ ∀ y ∈ ys, y ∉ l
  | [], l => by simp
  | y :: ys, l => by
    have ih := dl_len ys (GS.met l y)
    have hle := GS.dl_le ys (GS.met l y)
    have hm : (GS.met l y).length ≤ l.length + 1 := by unfold GS.met; split <;> simp
    rw [List.foldl_cons, List.length_cons, List.nodup_cons]
    constructor
    · intro e
      have e1 : (GS.met l y).length = l.length + 1 := by omega
      obtain ⟨n1, n2⟩ := ih.mp (by omega)
      have n3 := met_len.mp e1
      refine ⟨⟨fun h => n2 y h (met_mem.mpr (.inr rfl)), n1⟩, fun z hz => ?_⟩
      rcases List.mem_cons.mp hz with rfl | hz
      · exact n3
      · exact fun h => n2 z hz (met_mem.mpr (.inl h))
    · rintro ⟨⟨n1, n2⟩, n3⟩
      have e1 := met_len.mpr (n3 y List.mem_cons_self)
      have := ih.mpr ⟨n2, fun z hz h => by
        rcases met_mem.mp h with h | h
        · exact n3 z (List.mem_cons_of_mem _ hz) h
        · subst h; exact n1 hz⟩
      omega
theorem dl_nodup (ys : List Str) : (GS.dl ys).length = ys.length ↔ ys.Nodup := by
  have := dl_len ys []
  simpa [GS.dl] using this
theorem dl_mem : ∀ (ys l : List Str) (x : Str), x ∈ ys.foldl GS.met l ↔ x ∈ l ∨ x ∈ ys
  | [], l, x => by simp
  | y :: ys, l, x => by
    rw [List.foldl_cons, dl_mem ys (GS.met l y) x, met_mem, List.mem_cons]
    constructor
    · rintro ((h | h) | h)
      · exact .inl h
      · exact .inr (.inl h)
      · exact .inr (.inr h)
    · rintro (h | h | h)
      · exact .inl (.inl h)
      · exact .inl (.inr h)
      · exact .inr h
theorem srt_dl (ys : List Str) : srtS (GS.dl ys) = srtS ys ↔ ys.Nodup := by
  constructor
  · intro h
    have h1 := (srtS_perm (GS.dl ys)).length_eq
    have h2 := (srtS_perm ys).length_eq
    rw [h] at h1
    exact (dl_nodup ys).mp (by omega)
  · intro h
    exact (srtS_uniq (perm_nodup (dl_nd ys [] List.nodup_nil) (fun x hx => ((dl_mem ys [] x).mp hx).elim (fun h => by simp at h) id) ((dl_nodup ys).mpr h).symm)).symm
end Kx
end

section
set_option maxRecDepth 100000
set_option maxHeartbeats 4000000
open PySem PySem.Spec PyProof.Rows L2
namespace G
/-! reckoning: what the parts are at data that are written out -/
section
variable {ρ : Env'} {f g h k : Fe} {fa : Fa} {t th : Env' → Out Bool} {i j : Nat}
@[simp] theorem ev_sNil : sNil ρ = .nx ρ := rfl
@[simp] theorem ev_sSeq {f g : Fs} : sSeq f g ρ = match f ρ with | .nx ρ1 => g ρ1 | o => o := rfl
@[simp] theorem ev_sIf {f g : Fs} : sIf t f g ρ = (t ρ).then' fun b ρ1 => if b = true then f ρ1 else g ρ1 := rfl
@[simp] theorem ev_sSet : sSet i f ρ = (f ρ).then' fun o ρ1 => if i < ρ1.length then .nx (ρ1.set i (some o)) else .bad := rfl
@[simp] theorem ev_sRet : sRet f ρ = (f ρ).then' fun o ρ1 => .ret o ρ1 := rfl
@[simp] theorem ev_sRetN : sRetN ρ = .ret (.sh .non) ρ := rfl
@[simp] theorem ev_sExpr : sExpr f ρ = (f ρ).then' fun _ ρ1 => .nx ρ1 := rfl
@[simp] theorem ev_sBrk : sBrk ρ = .brk ρ := rfl
@[simp] theorem ev_sCnt : sCnt ρ = .cnt ρ := rfl
@[simp] theorem ev_sPutI : sPutI i f g ρ = (g ρ).then' fun o ρ1 => match lstAt i ρ1 with
    | some _ => (f ρ1).then' fun ko ρ2 => match lstAt i ρ2 with
      | some os => match (intD ko.toD).bind (ixN os.length) with
        | some j => .nx (ρ2.set i (some (.lst (os.set j o))))
        | none => .bad
      | none => .bad
    | none => .bad := rfl
@[simp] theorem ev_sPar : sPar i j fa ρ = (fa ρ).then' fun os ρ1 => match os with
    | [o1, o2] => if i < ρ1.length ∧ j < ρ1.length then .nx ((ρ1.set i (some o1)).set j (some o2)) else .bad
    | _ => .bad := rfl
@[simp] theorem ev_sUnp {t : D → Env' → Option Env'} : sUnp t f ρ = (f ρ).then' fun o ρ1 => match t o.toD ρ1 with | some ρ2 => .nx ρ2 | none => .bad := rfl
@[simp] theorem ev_sFor {fi : Env' → Out (List D)} {t : D → Env' → Option Env'} {b : Fs} : sFor fi t b ρ = (fi ρ).then' fun l ρ1 => forG t b l ρ1 := rfl
@[simp] theorem ev_sRaise {f : Env' → Out Xn} : sRaise f ρ = match f ρ with | .ok x ρ' => .exc x ρ' | .exc x ρ' => .exc x ρ' | .bad => .bad := rfl
@[simp] theorem ev_sTry1 {b : Fs} {m : Nat → Bool} {g : Xn → Fs} : sTry1 b m g ρ = match b ρ with | .exc x ρ' => if m x.cls = true then noXs (g x ρ') else .exc x ρ' | o => o := rfl
@[simp] theorem ev_noXs_ret {o : O} : noXs (.ret o ρ) = .ret o ρ := rfl
@[simp] theorem ev_noXs_nx : noXs (.nx ρ) = .nx ρ := rfl
@[simp] theorem ev_eOwn {n : Nat} : eOwn n ρ = .ok ⟨n, []⟩ ρ := rfl
@[simp] theorem ev_eSup {n : Nat} : eSup n f ρ = (f ρ).bind fun o ρ1 => .ok ⟨n, [o.toD]⟩ ρ1 := rfl
@[simp] theorem ev_eVar : eVar i ρ = match ρ[i]? with
    | some (some (.sh d)) => .ok (.sh d) ρ
    | some (some o) => .ok (.sh o.toD) (ρ.set i (some (.sh o.toD)))
    | _ => .bad := rfl
@[simp] theorem ev_eMove : eMove i ρ = match ρ[i]? with
    | some (some o) => .ok o (ρ.set i none)
    | _ => .bad := rfl
@[simp] theorem ev_eNil : eNil ρ = .ok [] ρ := rfl
@[simp] theorem ev_eCons : eCons f fa ρ = (f ρ).bind fun o ρ1 => (fa ρ1).bind fun os ρ2 => .ok (o :: os) ρ2 := rfl
@[simp] theorem ev_e1 {g : D → Option O} : e1 g f ρ = (f ρ).bind fun a ρ1 => fin (g a.toD) ρ1 := rfl
@[simp] theorem ev_e2 {g : D → D → Option O} : e2 g f h ρ = (f ρ).bind fun a ρ1 => (h ρ1).bind fun b ρ2 => fin (g a.toD b.toD) ρ2 := rfl
@[simp] theorem ev_eN {g : List D → Option O} : eN g fa ρ = (fa ρ).bind fun as ρ1 => fin (g (toDs as)) ρ1 := rfl
@[simp] theorem ev_eTup : eTup fa ρ = (fa ρ).bind fun os ρ1 => if os.length ≤ 1000 then .ok (.sh (.tup (toDs os))) ρ1 else .bad := rfl
@[simp] theorem ev_eLst : eLst fa ρ = (fa ρ).bind fun os ρ1 => if os.length ≤ 1000 then .ok (.lst os) ρ1 else .bad := rfl
@[simp] theorem ev_eTru : eTru f ρ = (f ρ).bind fun o ρ1 => match truG o.toD with | some b => .ok b ρ1 | none => .bad := rfl
@[simp] theorem ev_tNt : tNt t ρ = (t ρ).bind fun b ρ1 => .ok (!b) ρ1 := rfl
@[simp] theorem ev_tAn : tAn t th ρ = (t ρ).bind fun b ρ1 => if b = true then th ρ1 else .ok false ρ1 := rfl
@[simp] theorem ev_tOr : tOr' t th ρ = (t ρ).bind fun b ρ1 => if b = true then .ok true ρ1 else th ρ1 := rfl
@[simp] theorem ev_eIf : eIf t f h ρ = (t ρ).bind fun b ρ1 => if b = true then f ρ1 else h ρ1 := rfl
@[simp] theorem ev_eNot : eNot f ρ = (f ρ).bind fun o ρ1 => match truG o.toD with | some b => .ok (bO (!b)) ρ1 | none => .bad := rfl
@[simp] theorem ev_eAnd : eAnd f h ρ = (f ρ).bind fun o ρ1 => match blD o.toD with | some true => h ρ1 | some false => .ok (bO false) ρ1 | none => .bad := rfl
@[simp] theorem ev_eOr : eOr f h ρ = (f ρ).bind fun o ρ1 => match blD o.toD with | some true => .ok (bO true) ρ1 | some false => h ρ1 | none => .bad := rfl
@[simp] theorem ev_eChn {g g' : D → D → Option O} : eChn g g' f h k ρ = (f ρ).bind fun a ρ1 => (h ρ1).bind fun b ρ2 => match bO? (g a.toD b.toD) with
    | some true => (k ρ2).bind fun c ρ3 => fin (g' b.toD c.toD) ρ3
    | some false => .ok (bO false) ρ2
    | none => .bad := rfl
@[simp] theorem ev_eB : eB f ρ = (f ρ).bind fun o ρ1 => match oB o with | some b => .ok b ρ1 | none => .bad := rfl
@[simp] theorem ev_e1v {g : D → Option O} {v : Env' → Option D} : e1v g v ρ = match (v ρ).bind g with | some (.sh d) => if scD d = true then .ok (.sh d) ρ else .bad | _ => .bad := rfl
@[simp] theorem ev_e1l {g : List D → Option O} {v : Env' → Option D} : e1l g v ρ = match (v ρ).bind fun d => g [d] with | some (.sh d) => if scD d = true then .ok (.sh d) ρ else .bad | _ => .bad := rfl
@[simp] theorem ev_e2v {g : D → D → Option O} {v : Env' → Option D} : e2v g f v ρ = (f ρ).bind fun a ρ1 => e1v (g a.toD) v ρ1 := rfl
@[simp] theorem ev_e2w {g : D → D → Option O} : e2w i g h ρ = match vVar i ρ with | some _ => (h ρ).bind fun b ρ1 => e1v (fun d => g d b.toD) (vVar i) ρ1 | none => .bad := rfl
@[simp] theorem ev_vVar : vVar i ρ = match ρ[i]? with | some (some o) => some o.toD | _ => none := rfl
@[simp] theorem ev_lstAt : lstAt i ρ = match ρ[i]? with | some (some (.lst os)) => some os | _ => none := rfl
@[simp] theorem ev_eItemO : eItemO i f ρ = match lstAt i ρ with
    | some _ => (f ρ).bind fun k ρ1 => match lstAt i ρ1 with
      | some os => match (intD k.toD).bind (atI os) with
        | some (.sh d) => .ok (.sh d) ρ1
        | _ => .bad
      | none => .bad
    | none => .bad := rfl
@[simp] theorem ev_eApp : eApp i f ρ = match lstAt i ρ with
    | some _ => (f ρ).bind fun o ρ1 => match lstAt i ρ1 with
      | some os => if os.length < big then .ok (.sh .non) (ρ1.set i (some (.lst (os ++ [o])))) else .bad
      | none => .bad
    | none => .bad := rfl
@[simp] theorem ev_ePopA : ePopA i f ρ = match lstAt i ρ with
    | some _ => (f ρ).bind fun k ρ1 => match lstAt i ρ1 with
      | some os => match intD k.toD with
        | some n => match seqIndex? n os.length with
          | some j => if sm n = true then match os[j]? with
            | some o => .ok o (ρ1.set i (some (.lst (os.eraseIdx j))))
            | none => .bad
            else .bad
          | none => .bad
        | none => .bad
      | none => .bad
    | none => .bad := rfl
@[simp] theorem ev_eMs {g : Str → List D → Option O} : eMs g f fa ρ = (f ρ).bind fun o ρ1 => match o.toD with | .str a => eN (g a) fa ρ1 | _ => .bad := rfl
@[simp] theorem ev_eCut {lo hi : Option Fe} : eCut f lo hi ρ = (f ρ).bind fun o ρ1 => (ePart lo ρ1).bind fun i ρ2 => (ePart hi ρ2).bind fun j ρ3 => fin (cutG o.toD i j) ρ3 := rfl
@[simp] theorem ev_iSeq : iSeq f ρ = (f ρ).bind fun o ρ1 => match itD o.toD with | some l => .ok l ρ1 | none => .bad := rfl
@[simp] theorem ev_iRng1 : iRng1 f ρ = (f ρ).bind fun o ρ1 => match intD o.toD with
    | some j => if sm j = true then .ok ((List.range j.toNat).map fun (k : Nat) => .int k) ρ1 else .bad
    | none => .bad := rfl
@[simp] theorem ev_eLend : eLend i fa ρ = match ρ[i]? with | some (some _) => fa ρ | _ => .bad := rfl
@[simp] theorem ev_tN {d : D} : tN i d ρ = if i < ρ.length then some (ρ.set i (some (.sh d))) else none := rfl
@[simp] theorem ev_ttY : ttY ρ = .ok true ρ := rfl
@[simp] theorem ev_eCall {g : Fn} {ms : List (Option Nat)} : eCall g ms fa ρ = (fa ρ).bind fun os ρ1 => match takeL ms os ρ1 with
  | some (os', ρ2) => match g os' with
    | .ok o ps => match putL ms ps ρ2 with
      | some ρ3 => .ok o ρ3
      | none => .bad
    | .exc x ps => match putL ms ps ρ2 with
      | some ρ3 => .exc x ρ3
      | none => .bad
    | .bad => .bad
  | none => .bad := rfl
@[simp] theorem toD_lst {l : List O} : (O.lst l).toD = .lst (toDs l) := rfl
@[simp] theorem toD_dct {l : List (Kd × O)} : (O.dct l).toD = .dct (toDk l) := rfl
@[simp] theorem toDs_nil : toDs [] = [] := rfl
@[simp] theorem toDs_cons {o : O} {l : List O} : toDs (o :: l) = o.toD :: toDs l := rfl
@[simp] theorem intD_int {n : Int} : G.intD (.int n) = some n := rfl
@[simp] theorem blD_bl {b : Bool} : blD (.bl b) = some b := rfl
@[simp] theorem oB_bl {b : Bool} : oB (.sh (.bl b)) = some b := rfl
@[simp] theorem bO?_bl {b : Bool} : bO? (some (.sh (.bl b))) = some b := rfl
@[simp] theorem scD_int {n : Int} : scD (.int n) = true := rfl
@[simp] theorem scD_bl {b : Bool} : scD (.bl b) = true := rfl
@[simp] theorem scD_str {x : Str} : scD (.str x) = true := rfl
@[simp] theorem truG_bl {b : Bool} : truG (.bl b) = some b := rfl
@[simp] theorem addG_ii {a b : Int} : addG (.int a) (.int b) = some (iO (a + b)) := rfl
@[simp] theorem subG_ii {a b : Int} : subG (.int a) (.int b) = some (iO (a - b)) := rfl
theorem mulG_ok {a b : Int} (h : a.natAbs.log2 + b.natAbs.log2 < 1000000) : mulG (.int a) (.int b) = some (iO (a * b)) := if_pos h
@[simp] theorem modG_ii {a b : Int} : modG (.int a) (.int b) = if 0 < b then some (iO (a % b)) else none := rfl
theorem fdivG_ok {a b : Int} (h : 0 < b) (h2 : b.natAbs.log2 < 9000) : fdivG (.int a) (.int b) = some (iO (a / b)) := if_pos ⟨h, h2⟩
@[simp] theorem negG_i {a : Int} : negG (.int a) = some (iO (-a)) := rfl
@[simp] theorem gLt_ii {a b : Int} : gLt (.int a) (.int b) = some (bO (decide (a < b))) := rfl
@[simp] theorem gGt_ii {a b : Int} : gGt (.int a) (.int b) = some (bO (decide (b < a))) := rfl
@[simp] theorem gLe_ii {a b : Int} : gLe (.int a) (.int b) = some (bO (!decide (b < a))) := rfl
@[simp] theorem gGe_ii {a b : Int} : gGe (.int a) (.int b) = some (bO (!decide (a < b))) := rfl
@[simp] theorem gEq_ii {a b : Int} : gEq (.int a) (.int b) = some (bO (a == b)) := rfl
@[simp] theorem gNe_ii {a b : Int} : gNe (.int a) (.int b) = some (bO (!(a == b))) := rfl
@[simp] theorem gEq_ss {a b : Str} : gEq (.str a) (.str b) = some (bO (a == b)) := rfl
@[simp] theorem gNe_ss {a b : Str} : gNe (.str a) (.str b) = some (bO (!(a == b))) := rfl
@[simp] theorem gEq_bb {a b : Bool} : gEq (.bl a) (.bl b) = some (bO (a == b)) := rfl
@[simp] theorem gNe_bb {a b : Bool} : gNe (.bl a) (.bl b) = some (bO (!(a == b))) := rfl
@[simp] theorem lenG_l {l : List D} : lenG [.lst l] = some (iO l.length) := rfl
@[simp] theorem lenG_t {l : List D} : lenG [.tup l] = some (iO l.length) := rfl
@[simp] theorem lenG_d {l : List (Kd × D)} : lenG [.dct l] = some (iO l.length) := rfl
@[simp] theorem lenG_s {x : Str} : lenG [.str x] = if x.length ≤ big then some (iO x.length) else none := rfl
@[simp] theorem absG_i {i : Int} : absG [.int i] = some (iO (if i < 0 then -i else i)) := rfl
@[simp] theorem maxG_ii {i j : Int} : maxG [.int i, .int j] = some (iO (if j > i then j else i)) := rfl
@[simp] theorem minG_ii {i j : Int} : minG [.int i, .int j] = some (iO (if j < i then j else i)) := rfl
@[simp] theorem intG_i {i : Int} : intG [.int i] = some (iO i) := rfl
@[simp] theorem intG_b {b : Bool} : intG [.bl b] = some (iO (if b then 1 else 0)) := rfl
@[simp] theorem itemG_li {l : List D} {i : Int} : itemG (.lst l) (.int i) = (atI l i).map .sh := rfl
@[simp] theorem itemG_ti {l : List D} {i : Int} : itemG (.tup l) (.int i) = (atI l i).map .sh := rfl
end
theorem fnG_eq {N : Nat} {ks : List Bool} {body : Fs} {os : List O} : fnG N ks body os = match body (os.map some ++ List.replicate (N - os.length) none) with
 | .nx ρ => .ok (.sh .non) (keepL ks ρ)
 | .ret o ρ => .ok o (keepL ks ρ)
 | .exc x ρ => .exc x (keepL ks ρ)
 | _ => .bad := rfl
@[simp] theorem keepL_nil {ρ : Env'} : keepL [] ρ = [] := rfl
@[simp] theorem keepL_t {ks : List Bool} {r : Option O} {ρ : Env'} : keepL (true :: ks) (r :: ρ) = r :: keepL ks ρ := rfl
@[simp] theorem keepL_f {ks : List Bool} {r : Option O} {ρ : Env'} : keepL (false :: ks) (r :: ρ) = none :: keepL ks ρ := rfl
@[simp] theorem takeL_nil {ρ : Env'} : takeL [] [] ρ = some ([], ρ) := rfl
@[simp] theorem takeL_none {ms : List (Option Nat)} {o : O} {os : List O} {ρ : Env'} : takeL (none :: ms) (o :: os) ρ = (takeL ms os ρ).map fun p => (o :: p.1, p.2) := rfl
@[simp] theorem takeL_some {ms : List (Option Nat)} {i : Nat} {os : List O} {ρ : Env'} : takeL (some i :: ms) os ρ = match ρ[i]? with
    | some (some o) => (takeL ms os (ρ.set i none)).map fun p => (o :: p.1, p.2)
    | _ => none := by cases os <;> rfl
@[simp] theorem putL_nil {ρ : Env'} : putL [] [] ρ = some ρ := rfl
@[simp] theorem putL_none {ms : List (Option Nat)} {r : Option O} {ps ρ : Env'} : putL (none :: ms) (r :: ps) ρ = putL ms ps ρ := rfl
@[simp] theorem putL_some {ms : List (Option Nat)} {i : Nat} {r : Option O} {ps ρ : Env'} : putL (some i :: ms) (r :: ps) ρ = match ρ[i]? with
    | some none => putL ms ps (ρ.set i r)
    | _ => none := rfl
/-! a comprehension whose parts change nothing -/
theorem lcG_pure {i : Nat} {tt : Env' → Out Bool} {te : Fe} {ρ : Env'} {p : D → Bool} {v : D → O} (h0 : ρ[i]? = some none) : ∀ {l : List D} {acc : List O}, (∀ d ∈ l, tt (ρ.set i (some (.sh d))) = .ok (p d) (ρ.set i (some (.sh d)))) →
    (∀ d ∈ l, p d = true → te (ρ.set i (some (.sh d))) = .ok (v d) (ρ.set i (some (.sh d)))) → acc.length + l.length < big → lcG (tN i) tt te [i] l ρ acc = .ok (acc ++ (l.filter p).map v) ρ
  | [], acc, _, _, _ => by simp [lcG]
  | d :: l, acc, ht, he, hb => by
    have hi : i < ρ.length := (List.getElem?_eq_some_iff.mp h0).1
    have hw : ∀ x, wipeE (ρ.set i x) [i] = ρ := fun x => by
      show (ρ.set i x).set i none = ρ
      rw [List.set_set, set_at h0]
    have hb' : acc.length < big := by simp at hb; omega
    unfold lcG
    simp only [ev_tN, hi, if_true, ht d List.mem_cons_self, bind_ok, hw]
    cases hp : p d with
    | true =>
      simp only [he d List.mem_cons_self hp, if_true, bind_ok, hb', hw]
      rw [lcG_pure h0 (fun x hx => ht x (List.mem_cons_of_mem _ hx)) (fun x hx => he x (List.mem_cons_of_mem _ hx)) (by simp at hb ⊢; omega), List.filter_cons_of_pos hp]
      simp
    | false =>
      simp only [Bool.false_eq_true, if_false]
      rw [lcG_pure h0 (fun x hx => ht x (List.mem_cons_of_mem _ hx)) (fun x hx => he x (List.mem_cons_of_mem _ hx)) (by simp at hb ⊢; omega), List.filter_cons_of_neg (by simp [hp])]
theorem eLc_pure {i : Nat} {fi : Env' → Out (List D)} {tt : Env' → Out Bool} {te : Fe} {ρ : Env'} {l : List D} {p : D → Bool} {v : D → O} (hf : fi ρ = .ok l ρ) (h0 : ρ[i]? = some none ∨ ∃ d, ρ[i]? = some (some (.sh d)))
    (ht : ∀ d ∈ l, tt (ρ.set i (some (.sh d))) = .ok (p d) (ρ.set i (some (.sh d)))) (he : ∀ d ∈ l, p d = true → te (ρ.set i (some (.sh d))) = .ok (v d) (ρ.set i (some (.sh d)))) (hb : l.length < big) :
    eLc fi (tN i) tt te [i] ρ = .ok (.lst ((l.filter p).map v)) ρ := by
  have hi : i < ρ.length := by
    rcases h0 with h | ⟨d, h⟩
    · exact (List.getElem?_eq_some_iff.mp h).1
    · exact (List.getElem?_eq_some_iff.mp h).1
  have hs : shAll ρ [i] = true := by
    rcases h0 with h | ⟨d, h⟩ <;> simp [shAll, h]
  have e := lcG_pure (ρ := ρ.set i none) (tt := tt) (te := te) (p := p) (v := v) (l := l) (acc := []) (i := i) (by simp [hi]) (fun d hd => by rw [List.set_set]; exact ht d hd) (fun d hd hp => by rw [List.set_set]; exact he d hd hp) (by simpa using hb)
  unfold eLc
  have ew : wipeE ρ [i] = ρ.set i none := rfl
  rw [hf]
  simp only [bind_ok, hs, if_true, ew, e, noX, List.nil_append]
  have eb : backE ρ (ρ.set i none) [i] = ρ := by
    show (ρ.set i none).set i (ρ[i]?.getD none) = ρ
    rw [List.set_set]
    rcases h0 with h | ⟨d, h⟩ <;> (rw [h]; exact set_at h)
  rw [eb]
end G
end

section
set_option maxRecDepth 100000
set_option maxHeartbeats 4000000
open PySem PySem.Spec PyProof.Rows L2 G
namespace Kx
/-! the drawing of what a law looks at -/
def Tp (k : Nat) (o : O) : Prop := ∃ g b t : Int, o = .lst [iO g, iO b, iO t] ∧ 0 ≤ g ∧ 0 ≤ b ∧ b < 2 ^ 62 ∧ 0 ≤ t ∧ t ≤ k
theorem log_lt {a : Int} {n : Nat} (h1 : 0 ≤ a) (h2 : a < 2 ^ n) : a.natAbs.log2 < n + 1 := by
  by_cases e : a.natAbs = 0
  · rw [e]; simp
  · have : a.natAbs < 2 ^ n := by
      have : (a.natAbs : Int) < ((2 ^ n : Nat) : Int) := by
        rw [Int.natAbs_of_nonneg h1]; simpa using h2
      exact Int.ofNat_lt.mp this
    have := (Nat.log2_lt e).mpr this
    omega
theorem ix0 {x y z : O} : atI [x, y, z] 0 = some x := rfl
theorem ix1 {x y z : O} : atI [x, y, z] 1 = some y := rfl
theorem ix2 {x y z : O} : atI [x, y, z] 2 = some z := rfl
theorem ixn0 : ixN 3 0 = some 0 := rfl
theorem ixn1 : ixN 3 1 = some 1 := rfl
theorem ixn2 : ixN 3 2 = some 2 := rfl
theorem roll {k : Nat} {o : O} {n : Int} (h : Tp k o) (hk : k < 2 ^ 40) (h0 : 0 < n) (h1 : n < 2 ^ 100) : ∃ r o', f__law_roll [o, .sh (.int n)] = .ok (.sh (.int r)) [some o', none] ∧ 0 ≤ r ∧ r < n ∧ Tp (k + 1) o' := by
  obtain ⟨g, b, t, rfl, hg, hb, hb2, ht, ht2⟩ := h
  by_cases c : 0 < g
  · refine ⟨g % n, .lst [iO (g / n), iO b, iO t], ?_, Int.emod_nonneg _ (by omega), Int.emod_lt_of_pos _ h0, g / n, b, t, rfl, Int.ediv_nonneg hg (by omega), hb, hb2, ht, by push_cast; omega⟩
    have l1 : fdivG (.int g) (.int n) = some (iO (g / n)) := fdivG_ok h0 (by have := log_lt (Int.le_of_lt h0) h1; omega)
    simp [f__law_roll, fnG_eq, b__law_roll, ix0, ixn0, c, h0, l1]
  · have e : g = 0 := by omega
    subst e
    have t1 : t + 1 < 2 ^ 41 := by
      have : (k : Int) < 2 ^ 40 := by exact_mod_cast hk
      omega
    have one0 : 0 ≤ (b + 900107 * (t + 1)) % 2305843009213693951 := Int.emod_nonneg _ (by decide)
    have one1 : (b + 900107 * (t + 1)) % 2305843009213693951 < 2 ^ 62 := Int.lt_trans (Int.emod_lt_of_pos _ (by decide)) (by decide)
    generalize hone : (b + 900107 * (t + 1)) % 2305843009213693951 = one at one0 one1
    have sq0 : 0 ≤ one * one % 1152921504606846883 := Int.emod_nonneg _ (by decide)
    have sq1 : one * one % 1152921504606846883 < 2 ^ 62 := Int.lt_trans (Int.emod_lt_of_pos _ (by decide)) (by decide)
    generalize hsq : one * one % 1152921504606846883 = sq at sq0 sq1
    have l1 := log_lt (by omega : 0 ≤ t + 1) t1
    have l2 := log_lt one0 one1
    have l3 := log_lt sq0 sq1
    have m1 : (900107 : Int).natAbs.log2 = 19 := by decide
    have m2 : (7919 : Int).natAbs.log2 = 12 := by decide
    have c1 : mulG (.int 900107) (.int (t + 1)) = some (iO (900107 * (t + 1))) := mulG_ok (by omega)
    have c2 : mulG (.int one) (.int one) = some (iO (one * one)) := mulG_ok (by omega)
    have c3 : mulG (.int sq) (.int one) = some (iO (sq * one)) := mulG_ok (by omega)
    have c4 : mulG (.int 7919) (.int (t + 1)) = some (iO (7919 * (t + 1))) := mulG_ok (by omega)
    have c5 : ∀ x, fdivG (.int x) (.int 32) = some (iO (x / 32)) := fun x => fdivG_ok (by decide) (by decide)
    refine ⟨(sq * one + 7919 * (t + 1) + b) % 4398046511093 / 32 % n, .lst [iO 0, iO b, iO (t + 1)], ?_, Int.emod_nonneg _ (by omega), Int.emod_lt_of_pos _ h0, 0, b, t + 1, rfl, by decide, hb, hb2, by omega, by push_cast; omega⟩
    simp [f__law_roll, fnG_eq, b__law_roll, ix0, ix1, ix2, ixn0, ixn1, ixn2, h0, c1, c2, c3, c4, c5, hone, hsq]
theorem powG_ok {a b : Int} (h : 0 ≤ b ∧ (Builtin.Int.intBits a : Int) * b ≤ 2 ^ 27) : powG (.int a) (.int b) = some (iO (a ^ b.toNat)) := if_pos h
def T57 : Int := 10 ^ 57
def T570 : Int := T57 ^ 10
def T18 : Int := 10 ^ 18
theorem pow1 : powG (.int 10) (.int 57) = some (iO T57) := powG_ok (a := 10) (b := 57) (by decide +kernel)
theorem pow2 : powG (.int T57) (.int 10) = some (iO T570) := powG_ok (a := T57) (b := 10) (by decide +kernel)
theorem pow3 : powG (.int 10) (.int 18) = some (iO T18) := powG_ok (a := 10) (b := 18) (by decide +kernel)
theorem T570_pos : 0 < T570 := by decide +kernel
theorem T570_lt : T570 < 2 ^ 2000 := by decide +kernel
theorem at_nat {α : Type} {l : List α} {j : Nat} (h : j < l.length) : atI l (j : Int) = some l[j] := by
  unfold atI ixN
  rw [if_pos (Int.natCast_nonneg j), if_pos (by exact_mod_cast h)]
  simp [h]
theorem tape {ns : List Int} {j : Nat} (hj : j < 64) : ∃ o, f__law_tape [.sh (.lst (ns.map D.int)), .sh (.int j)] = .ok o [none, none] ∧ Tp 0 o := by
  have hj' : (j : Int) < 2 ^ 20 := by omega
  obtain ⟨c, hc⟩ : ∃ c : Int, (if (j : Int) < ns.length then atI (ns.map D.int) j = some (.int c) else c = 83 * j + 17) := by
    by_cases h : j < ns.length
    · refine ⟨ns[j], ?_⟩
      rw [if_pos (by exact_mod_cast h), at_nat (by simpa using h)]
      simp
    · exact ⟨_, by rw [if_neg (by exact_mod_cast h)]⟩
  have gr0 : 0 ≤ (if c < 0 then -c else c) % T570 := Int.emod_nonneg _ (by have := T570_pos; omega)
  have gr1 : (if c < 0 then -c else c) % T570 < 2 ^ 2000 := Int.lt_trans (Int.emod_lt_of_pos _ T570_pos) T570_lt
  generalize hgr : (if c < 0 then -c else c) % T570 = great at gr0 gr1
  have l1 := log_lt gr0 gr1
  have l2 := log_lt (Int.natCast_nonneg j) hj'
  have k1 : (1000193 : Int).natAbs.log2 = 19 := by decide
  have k2 : (8221 : Int).natAbs.log2 = 13 := by decide
  have k3 : (83 : Int).natAbs.log2 = 6 := by decide
  have m1 : mulG (.int great) (.int 1000193) = some (iO (great * 1000193)) := mulG_ok (by omega)
  have m2 : mulG (.int 8221) (.int j) = some (iO (8221 * j)) := mulG_ok (by omega)
  have m3 : mulG (.int 83) (.int j) = some (iO (83 * j)) := mulG_ok (by omega)
  have m4 : mulG (.int 41) (.int (if c < 0 then 1 else 0)) = some (iO (41 * (if c < 0 then 1 else 0))) := mulG_ok (by split <;> decide)
  have p0 := T570_pos
  have fin' : ∀ b : Int, (∃ o, o = O.lst [iO (if great - T18 > 0 then great - T18 else 0), iO (b % 2305843009213693907), iO 0] ∧ Tp 0 o) := fun b => ⟨_, rfl, _, _, _, rfl, by split <;> omega, Int.emod_nonneg _ (by decide), Int.lt_trans (Int.emod_lt_of_pos _ (by decide)) (by decide), Int.le_refl _, by simp⟩
  obtain ⟨o, eo, ho⟩ := fin' (great * 1000193 + 8221 * j + 41 * (if c < 0 then 1 else 0) + 5)
  refine ⟨o, ?_, ho⟩
  subst eo
  by_cases h : (j : Int) < ns.length
  · rw [if_pos h] at hc
    simp [f__law_tape, fnG_eq, b__law_tape, h, hc, pow1, pow2, pow3, m1, m2, m3, m4, p0, hgr]
  · rw [if_neg h] at hc
    simp [f__law_tape, fnG_eq, b__law_tape, h, ← hc, pow1, pow2, pow3, m1, m2, m3, m4, p0, hgr]
end Kx
end

section
set_option maxRecDepth 100000
set_option maxHeartbeats 4000000
open PySem PySem.Spec PyProof.Rows L2 G
namespace Kx
theorem nat_of {r : Int} {n : Nat} (h0 : 0 ≤ r) (h1 : r < (n : Int)) : ∃ j : Nat, r = (j : Int) ∧ j < n := ⟨r.toNat, by omega, by omega⟩
theorem pick_l {k : Nat} {o : O} {l : List D} (h : Tp k o) (hk : k < 2 ^ 40) (hl : 0 < l.length) (h1 : l.length < 2 ^ 60) : ∃ d o', f__law_pick [o, .lst (l.map O.sh)] = .ok (.sh d) [some o', none] ∧ d ∈ l ∧ Tp (k + 1) o' := by
  obtain ⟨r, o', er, r0, r1, ht⟩ := roll (n := (l.length : Int)) h hk (by exact_mod_cast hl) (by omega)
  obtain ⟨j, rfl, hj⟩ := nat_of r0 r1
  refine ⟨l[j], o', ?_, List.getElem_mem hj, ht⟩
  simp [f__law_pick, fnG_eq, b__law_pick, toDs_sh, er, at_nat hj]
theorem pick_sl {k : Nat} {o : O} {l : List D} (h : Tp k o) (hk : k < 2 ^ 40) (hl : 0 < l.length) (h1 : l.length < 2 ^ 60) : ∃ d o', f__law_pick [o, .sh (.lst l)] = .ok (.sh d) [some o', none] ∧ d ∈ l ∧ Tp (k + 1) o' := by
  obtain ⟨r, o', er, r0, r1, ht⟩ := roll (n := (l.length : Int)) h hk (by exact_mod_cast hl) (by omega)
  obtain ⟨j, rfl, hj⟩ := nat_of r0 r1
  refine ⟨l[j], o', ?_, List.getElem_mem hj, ht⟩
  simp [f__law_pick, fnG_eq, b__law_pick, er, at_nat hj]
theorem itemG_s {x : Str} {i : Int} (h : x.length ≤ big) : itemG (.str x) (.int i) = (atI x.cps.toList i).map fun c => sO ⟨#[c]⟩ := if_pos h
theorem pick_s {k : Nat} {o : O} {x : Str} (h : Tp k o) (hk : k < 2 ^ 40) (hl : 0 < x.length) (h1 : x.length ≤ big) : ∃ c o', f__law_pick [o, .sh (.str x)] = .ok (sO ⟨#[c]⟩) [some o', none] ∧ c ∈ x.cps.toList ∧ Tp (k + 1) o' := by
  have hb : big = 1000000 := rfl
  obtain ⟨r, o', er, r0, r1, ht⟩ := roll (n := (x.length : Int)) h hk (by exact_mod_cast hl) (by omega)
  obtain ⟨j, rfl, hj⟩ := nat_of r0 r1
  have hj' : j < x.cps.toList.length := by rw [Array.length_toList]; exact hj
  refine ⟨x.cps.toList[j], o', ?_, List.getElem_mem hj', ht⟩
  simp [f__law_pick, fnG_eq, b__law_pick, er, h1, itemG_s h1, at_nat hj']
/-! words -/
def Ltr (c : Nat) : Prop := 97 ≤ c ∧ c ≤ 122
def Wd (x : Str) : Prop := 1 ≤ x.length ∧ x.length ≤ 8 ∧ ∀ c ∈ x.cps.toList, Ltr c
abbrev abc : Str := "abcdefghijklmnopqrstuvwxyz"
theorem abc_l : abc.cps.toList = (List.range 26).map (97 + ·) := by decide +kernel
theorem abc_len : abc.length = 26 := by decide +kernel
theorem abc_ltr {c : Nat} : c ∈ abc.cps.toList ↔ Ltr c := by
  rw [abc_l, List.mem_map]
  constructor
  · rintro ⟨a, h, rfl⟩
    have := List.mem_range.mp h
    constructor <;> omega
  · rintro ⟨h1, h2⟩
    exact ⟨c - 97, List.mem_range.mpr (by omega), by omega⟩
theorem pick_abc {k : Nat} {o : O} (h : Tp k o) (hk : k < 2 ^ 40) : ∃ c o', f__law_pick [o, .sh (.str abc)] = .ok (sO ⟨#[c]⟩) [some o', none] ∧ Ltr c ∧ Tp (k + 1) o' := by
  obtain ⟨c, o', e, hc, ht⟩ := pick_s (x := abc) h hk (by rw [abc_len]; decide) (by rw [abc_len]; decide)
  exact ⟨c, o', e, abc_ltr.mp hc, ht⟩
def one (c : Nat) : Str := ⟨#[c]⟩
/-- the signs of a word are drawn -/
theorem word_loop : ∀ (n i k : Nat) (o : O) (lots : O) (acc : List Nat), Tp k o → k + n < 2 ^ 40 → acc.length + n < 1000 → (∀ c ∈ acc, Ltr c) → ∃ o' cs, cs.length = n ∧ (∀ c ∈ cs, Ltr c) ∧ Tp (k + n) o' ∧
    lcG (tN 2) ttY (eCall f__law_pick [some 0, none] (eLend 0 (eCons (eK (.str abc)) eNil))) [2] ((List.range' i n).map fun (k : Nat) => D.int k) [some o, some lots, none] (acc.map fun c => sO (one c)) = .ok ((acc ++ cs).map fun c => sO (one c)) [some o', some lots, none]
  | 0, i, k, o, lots, acc, h, hk, hl, ha => ⟨o, [], rfl, by simp, h, by simp [lcG]⟩
  | n + 1, i, k, o, lots, acc, h, hk, hl, ha => by
    obtain ⟨c, o1, e1, hc, h1⟩ := pick_abc h (by omega)
    obtain ⟨o', cs, hn, hcs, ht, e2⟩ := word_loop n (i + 1) (k + 1) o1 lots (acc ++ [c]) h1 (by omega) (by simp; omega) (fun x hx => by
      rcases List.mem_append.mp hx with hx | hx
      · exact ha x hx
      · rw [List.mem_singleton.mp hx]; exact hc)
    refine ⟨o', c :: cs, by simp [hn], fun x hx => ?_, by rw [show k + (n + 1) = k + 1 + n by omega]; exact ht, ?_⟩
    · rcases List.mem_cons.mp hx with rfl | hx
      · exact hc
      · exact hcs x hx
    · have hb : acc.length < big := by have : big = 1000000 := rfl; omega
      rw [List.range'_succ, List.map_cons]
      unfold lcG
      simp [e1, hb, wipeE]
      simp at e2
      exact e2
theorem strsD_map : ∀ ys : List Str, strsD (ys.map D.str) = some ys
  | [] => rfl
  | y :: ys => by
    show (strsD (ys.map D.str)).map (y :: ·) = some (y :: ys)
    rw [strsD_map ys]; rfl
theorem toDs_str : ∀ ys : List Str, toDs (ys.map sO) = ys.map D.str
  | [] => rfl
  | y :: ys => by
    show D.str y :: toDs (ys.map sO) = D.str y :: ys.map D.str
    rw [toDs_str ys]
theorem joinG_l {a : Str} {ys : List Str} (h : (ys.map (·.length)).sum + ys.length * a.length ≤ 16777216) : joinG a [.lst (ys.map D.str)] = some (sO (Txt.join a ys)) := by
  show (strsD (ys.map D.str)).bind _ = _
  rw [strsD_map]
  exact if_pos h
theorem join_one : ∀ cs : List Nat, (Str.join ⟨#[]⟩ (cs.map one)).cps.toList = cs
  | [] => rfl
  | [c] => rfl
  | c :: d :: r => by
    have ih := join_one (d :: r)
    show TL.tl (one c ++ (⟨#[]⟩ : Str) ++ Str.join ⟨#[]⟩ ((d :: r).map one)) = _
    rw [TL.tl_append, TL.tl_append]
    show [c] ++ [] ++ (Str.join ⟨#[]⟩ ((d :: r).map one)).cps.toList = _
    rw [ih]
    rfl
theorem empty_str : (Str.ofString "") = ⟨#[]⟩ := by decide +kernel
theorem sm_small {m : Nat} (h : m < 1000000) : sm (m : Int) = true := Nat.ble_eq_true_of_le (by simp; omega)
theorem ones_sum : ∀ l : List Nat, ((l.map one).map (·.length)).sum = l.length
  | [] => rfl
  | a :: l => by
    have ih := ones_sum l
    simp only [List.map_cons, List.sum_cons, ih, List.length_cons]
    show 1 + l.length = l.length + 1
    omega
theorem join_ones {cs : List Nat} (h : cs.length < 1000) : joinG (Str.ofString "") [.lst (cs.map fun c => D.str (one c))] = some (sO (Txt.join (Str.ofString "") (cs.map one))) := by
  have e : (cs.map fun c => D.str (one c)) = (cs.map one).map D.str := by rw [List.map_map]; rfl
  rw [e]
  refine joinG_l ?_
  rw [ones_sum, empty_str, List.length_map]
  show cs.length + cs.length * 0 ≤ 16777216
  omega
theorem drawn_m {d : D} (hd : d ∈ [D.int 1, .int 1, .int 2, .int 3, .int 5, .int 8]) : ∃ m : Nat, d = .int m ∧ 1 ≤ m ∧ m ≤ 8 := by
  simp only [List.mem_cons, List.not_mem_nil, or_false] at hd
  rcases hd with rfl | rfl | rfl | rfl | rfl | rfl
  · exact ⟨1, rfl, by decide, by decide⟩
  · exact ⟨1, rfl, by decide, by decide⟩
  · exact ⟨2, rfl, by decide, by decide⟩
  · exact ⟨3, rfl, by decide, by decide⟩
  · exact ⟨5, rfl, by decide, by decide⟩
  · exact ⟨8, rfl, by decide, by decide⟩
theorem pick6 {k : Nat} {o : O} (h : Tp k o) (hk : k < 2 ^ 40) : ∃ d o', f__law_pick [o, .lst [iO 1, iO 1, iO 2, iO 3, iO 5, iO 8]] = .ok (.sh d) [some o', none] ∧ d ∈ [D.int 1, .int 1, .int 2, .int 3, .int 5, .int 8] ∧ Tp (k + 1) o' :=
  pick_l (l := [.int 1, .int 1, .int 2, .int 3, .int 5, .int 8]) h hk (Nat.succ_pos _) (by show 6 < 2 ^ 60; omega)
theorem Tp.up {k j : Nat} {o : O} (h : Tp k o) (hj : k ≤ j) : Tp j o := by
  obtain ⟨g, b, t, e, q1, q2, q3, q4, q5⟩ := h
  exact ⟨g, b, t, e, q1, q2, q3, q4, Int.le_trans q5 (by exact_mod_cast hj)⟩
theorem toDs_ones (cs : List Nat) : toDs (cs.map fun c => sO (one c)) = cs.map fun c => D.str (one c) := by
  have := toDs_str (cs.map one)
  simpa [List.map_map, Function.comp_def] using this
end Kx
end

section
set_option maxRecDepth 100000
set_option maxHeartbeats 4000000
open PySem PySem.Spec PyProof.Rows L2 G
namespace Kx
theorem w_s1 {o o1 : O} {m : Nat} (e1 : f__law_pick [o, .lst [iO 1, iO 1, iO 2, iO 3, iO 5, iO 8]] = .ok (.sh (.int m)) [some o1, none]) :
  sSet 1 (eCall f__law_pick [some 0, none] (eLend 0 (eCons (eLst (eCons (eK (.int 1)) (eCons (eK (.int 1)) (eCons (eK (.int 2)) (eCons (eK (.int 3)) (eCons (eK (.int 5)) (eCons (eK (.int 8)) eNil))))))) eNil))) [some o, none, none] = .nx [some o1, some (iO m), none] := by
    simp [e1]
theorem lc_rng {te : Fe} {o1 o' : O} {m : Nat} {os : List O} (hsm : sm (m : Int) = true)
    (e2 : lcG (tN 2) ttY te [2] ((List.range' 0 m).map fun (k : Nat) => D.int k) [some o1, some (iO m), none] [] = .ok os [some o', some (iO m), none]) :
   eLc (iRng1 (eVar 1)) (tN 2) ttY te [2] [some o1, some (iO m), none] = .ok (.lst os) [some o', some (iO m), none] := by
    unfold eLc
    simp [hsm, shAll, wipeE, List.range_eq_range', e2, noX, backE]
theorem word_eval {o o1 o' : O} {m : Nat} {cs : List Nat} (e1 : f__law_pick [o, .lst [iO 1, iO 1, iO 2, iO 3, iO 5, iO 8]] = .ok (.sh (.int m)) [some o1, none]) (hsm : sm (m : Int) = true)
    (e2 : lcG (tN 2) ttY (eCall f__law_pick [some 0, none] (eLend 0 (eCons (eK (.str abc)) eNil))) [2] ((List.range' 0 m).map fun (k : Nat) => D.int k) [some o1, some (iO m), none] [] = .ok (cs.map fun c => sO (one c)) [some o', some (iO m), none])
    (hj : joinG (Str.ofString "") [.lst (cs.map fun c => D.str (one c))] = some (sO (Txt.join (Str.ofString "") (cs.map one)))) :
    f__law_word_drawn [o] = .ok (sO (Txt.join (Str.ofString "") (cs.map one))) [some o'] := by
  have s1 := w_s1 e1
  have s2 := lc_rng hsm e2
  have s3 : b__law_word_drawn [some o, none, none] = .ret (sO (Txt.join (Str.ofString "") (cs.map one))) [some o', some (iO m), none] := by
    unfold b__law_word_drawn
    rw [ev_sSeq, s1]
    show sRet _ _ = _
    rw [ev_sRet, ev_eMs]
    show (((Out.ok (O.sh (D.str (Str.ofString ""))) [some o1, some (iO m), none] : Out O).bind _) : Out O).then' _ = _
    rw [bind_ok]
    show (eN (joinG (Str.ofString "")) _ _).then' _ = _
    rw [ev_eN, ev_eCons]
    rw [s2]
    simp only [bind_ok, ev_eNil, toDs_cons, toD_lst, toDs_nil, toDs_ones, hj, fin_some, then_ok]
  unfold f__law_word_drawn
  rw [fnG_eq]
  show (match b__law_word_drawn [some o, none, none] with | .nx ρ => _ | .ret o ρ => _ | .exc x ρ => _ | _ => _) = _
  rw [s3]
  rfl
theorem tl_ones (cs : List Nat) : (Txt.join (Str.ofString "") (cs.map one)).cps.toList = cs := by rw [TL.join_eq, empty_str, join_one]
theorem len_ones (cs : List Nat) : (Txt.join (Str.ofString "") (cs.map one)).length = cs.length := by
  have := congrArg List.length (tl_ones cs)
  rw [Array.length_toList] at this
  exact this
theorem word {k : Nat} {o : O} (h : Tp k o) (hk : k + 20 < 2 ^ 40) : ∃ x o', f__law_word_drawn [o] = .ok (sO x) [some o'] ∧ Wd x ∧ Tp (k + 9) o' := by
  obtain ⟨d, o1, e1, hd, h1⟩ := pick6 h (by omega)
  obtain ⟨m, rfl, m1, m8⟩ := drawn_m hd
  obtain ⟨o', cs, hn, hc, ht, e2⟩ := word_loop m 0 (k + 1) o1 (iO m) [] h1 (by omega) (by simp; omega) (by simp)
  refine ⟨Txt.join (Str.ofString "") (cs.map one), o', word_eval e1 (sm_small (by omega)) e2 (join_ones (by omega)), ⟨?_, ?_, by rw [tl_ones]; exact hc⟩, ht.up (by omega)⟩
  · rw [len_ones]; omega
  · rw [len_ones]; omega
end Kx
end

section
set_option maxRecDepth 100000
set_option maxHeartbeats 4000000
open PySem PySem.Spec PyProof.Rows L2 G
namespace Kx
theorem pl_strs : ∀ ys : List Str, plAll 60 (ys.map D.str) = true
  | [] => rfl
  | y :: ys => by
    show (true && plAll 60 (ys.map D.str)) = true
    rw [pl_strs ys]; rfl
theorem any_strs (x : Str) : ∀ ys : List Str, ((ys.map D.str).any fun z => z.eqD (.str x)) = decide (x ∈ ys)
  | [] => rfl
  | y :: ys => by
    show ((y == x) || (ys.map D.str).any fun z => z.eqD (.str x)) = _
    rw [any_strs x ys]
    by_cases h : y = x
    · subst h; simp
    · have h' : ¬ x = y := fun e => h e.symm
      simp [h, h']
theorem inG_l {x : Str} {ys : List Str} : inG (.str x) (.lst (ys.map D.str)) = some (decide (x ∈ ys)) := by
  have : inG (.str x) (.lst (ys.map D.str)) = if ((D.str x).pl 60 && plAll 60 (ys.map D.str)) = true then some ((ys.map D.str).any fun z => z.eqD (.str x)) else none := rfl
  rw [this, pl_strs, any_strs]
  rfl
theorem inG_t {x : Str} {ys : List Str} : inG (.str x) (.tup (ys.map D.str)) = some (decide (x ∈ ys)) := by
  have : inG (.str x) (.tup (ys.map D.str)) = if ((D.str x).pl 60 && plAll 60 (ys.map D.str)) = true then some ((ys.map D.str).any fun z => z.eqD (.str x)) else none := rfl
  rw [this, pl_strs, any_strs]
  rfl
theorem gNin_l {x : Str} {ys : List Str} : gNin (.str x) (.lst (ys.map D.str)) = some (bO (!decide (x ∈ ys))) := by unfold gNin; rw [inG_l]; rfl
theorem nodup_len {α : Type} [DecidableEq α] : ∀ {l m : List α}, l.Nodup → (∀ x ∈ l, x ∈ m) → l.length ≤ m.length
  | [], m, _, _ => Nat.zero_le _
  | a :: l, m, h, hs => by
    have h' := List.nodup_cons.mp h
    have ih := nodup_len (m := m.erase a) h'.2 fun x hx => (List.mem_erase_of_ne (fun e : x = a => h'.1 (by rw [← e]; exact hx))).mpr (hs x (List.mem_cons_of_mem _ hx))
    have := List.length_erase_of_mem (hs a List.mem_cons_self)
    have hp : 0 < m.length := List.length_pos_of_mem (hs a List.mem_cons_self)
    rw [List.length_cons]; omega
theorem one_inj {a b : Nat} (h : one a = one b) : a = b := by
  have := congrArg (fun x : Str => x.cps.toList) h
  simpa [one] using this
/-- the signs that are not taken -/
def freeS (A : Str) (xs : List Str) : List D := (A.cps.toList.map fun c => D.str (one c)).filter fun d => match d with | .str x => !decide (x ∈ xs) | _ => false
theorem free_ne {A : Str} {xs : List Str} (hA : A.cps.toList.Nodup) (h : xs.length < A.length) : ∃ c l, freeS A xs = .str (one c) :: l ∧ c ∈ A.cps.toList ∧ one c ∉ xs := by
  cases e : freeS A xs with
  | cons d l =>
    have hm : d ∈ freeS A xs := by rw [e]; exact List.mem_cons_self
    obtain ⟨h1, h2⟩ := List.mem_filter.mp hm
    obtain ⟨c, hc, rfl⟩ := List.mem_map.mp h1
    exact ⟨c, l, rfl, hc, by simpa using h2⟩
  | nil =>
    have all : ∀ c ∈ A.cps.toList, one c ∈ xs := fun c hc => by
      have q := List.filter_eq_nil_iff.mp e (.str (one c)) (List.mem_map.mpr ⟨c, hc, rfl⟩)
      simpa using q
    have : (A.cps.toList.map one).length ≤ xs.length := nodup_len (List.pairwise_map.mpr (hA.imp fun h e => h (one_inj e))) fun x hx => by
      obtain ⟨c, hc, rfl⟩ := List.mem_map.mp hx
      exact all c hc
    rw [List.length_map, Array.length_toList] at this
    have : A.length ≤ xs.length := this
    omega
theorem wd_one {c : Nat} (h : Ltr c) : Wd (one c) := ⟨Nat.le_refl _, (by show 1 ≤ 8; decide), fun x hx => by
  have : x = c := by simpa [one] using hx
  rw [this]; exact h⟩
def wTest (A : Str) : Env' → Out Bool := eB (e2v gNin (eVar 6) (vVar 2))
theorem left_eval {A : Str} {o lots w : O} {xs : List Str} {x3 x5 : Option O} (hA : A.length < 1000) :
    eLc (iSeq (eK (.str A))) (tN 6) (eB (e2v gNin (eVar 6) (vVar 2))) (eVar 6) [6] [some o, some lots, some (.lst (xs.map sO)), x3, some w, x5, none] = .ok (.lst ((freeS A xs).map O.sh)) [some o, some lots, some (.lst (xs.map sO)), x3, some w, x5, none] := by
  have hl : (A.cps.toList.map fun c => D.str (one c)).length < big := by
    rw [List.length_map, Array.length_toList]
    have : big = 1000000 := rfl
    have : A.cps.size = A.length := rfl
    omega
  refine eLc_pure (l := A.cps.toList.map fun c => D.str (one c)) (p := fun d => match d with | .str x => !decide (x ∈ xs) | _ => false) (v := O.sh) rfl (.inl rfl) (fun d hd => ?_) (fun d hd _ => ?_) hl
  · obtain ⟨c, _, rfl⟩ := List.mem_map.mp hd
    simp [toDs_str, gNin_l]
  · obtain ⟨c, _, rfl⟩ := List.mem_map.mp hd
    simp
theorem words_loop {A : Str} (hA : A.cps.toList.Nodup) (hA1 : A.length < 1000) (hA2 : ∀ c ∈ A.cps.toList, Ltr c) : ∀ (n i k : Nat) (o lots : O) (xs : List Str) (x3 x4 x5 : Option O), Tp k o → k + 20 * n + 20 < 2 ^ 40 → xs.length + n < A.length → (∀ x ∈ xs, Wd x) → xs.Nodup →
    ∃ (o' : O) (ys : List Str) (x3' x4' x5' : Option O), ys.length = xs.length + n ∧ (∀ x ∈ ys, Wd x) ∧ ys.Nodup ∧ Tp (k + 9 * n) o' ∧
    forG (tN 3) (sSeq (sSet 4 (eCall f__law_word_drawn [some 0] (eLend 0 eNil))) (sSeq (sSet 5 (eLc (iSeq (eK (.str A))) (tN 6) (eB (e2v gNin (eVar 6) (vVar 2))) (eVar 6) [6])) (sExpr (eApp 2 (eIf (eB (e2v gNin (eVar 4) (vVar 2))) (eVar 4) (e2 itemG (eVar 5) (eK (.int 0))))))))
      ((List.range' i n).map fun (k : Nat) => D.int k) [some o, some lots, some (.lst (xs.map sO)), x3, x4, x5, none] = .nx [some o', some lots, some (.lst (ys.map sO)), x3', x4', x5', none]
  | 0, i, k, o, lots, xs, x3, x4, x5, h, hk, hl, hw, hn => ⟨o, xs, x3, x4, x5, rfl, hw, hn, h, rfl⟩
  | n + 1, i, k, o, lots, xs, x3, x4, x5, h, hk, hl, hw, hn => by
    obtain ⟨w, o1, e1, wd, h1⟩ := word h (by omega)
    obtain ⟨c, l, ef, hc, hnc⟩ := free_ne hA (show xs.length < A.length by omega)
    have hb : xs.length < big := by have : big = 1000000 := rfl; omega
    have el := left_eval (A := A) (o := o1) (lots := lots) (w := sO w) (xs := xs) (x3 := some (iO i)) (x5 := x5) hA1
    have item : itemG (.lst (D.str (one c) :: l)) (.int 0) = some (sO (one c)) := by
      show (atI _ _).map O.sh = _
      have : atI (D.str (one c) :: l) 0 = some (.str (one c)) := by
        have := at_nat (l := D.str (one c) :: l) (j := 0) (by simp)
        simpa using this
      rw [this]; rfl
    have body : ∃ (y : Str) (x5' : Option O), Wd y ∧ y ∉ xs ∧ (sSeq (sSet 4 (eCall f__law_word_drawn [some 0] (eLend 0 eNil))) (sSeq (sSet 5 (eLc (iSeq (eK (.str A))) (tN 6) (eB (e2v gNin (eVar 6) (vVar 2))) (eVar 6) [6])) (sExpr (eApp 2 (eIf (eB (e2v gNin (eVar 4) (vVar 2))) (eVar 4) (e2 itemG (eVar 5) (eK (.int 0)))))))) [some o, some lots, some (.lst (xs.map sO)), some (iO i), x4, x5, none]
        = .nx [some o1, some lots, some (.lst ((xs ++ [y]).map sO)), some (iO i), some (sO w), x5', none] := by
      by_cases hin : w ∈ xs
      · refine ⟨one c, some (.sh (.lst (D.str (one c) :: l))), wd_one (hA2 c hc), hnc, ?_⟩
        simp [e1, el, ef, toDs_str, toDs_sh, gNin_l, hin, hb, item]
      · refine ⟨w, some (.lst ((freeS A xs).map O.sh)), wd, hin, ?_⟩
        simp [e1, el, toDs_str, gNin_l, hin, hb]
    obtain ⟨y, x5', wy, ny, eb⟩ := body
    obtain ⟨o', ys, x3', x4', x5'', hl', hw', hn', ht', e'⟩ := words_loop hA hA1 hA2 n (i + 1) (k + 9) o1 lots (xs ++ [y]) (some (iO i)) (some (sO w)) x5' h1 (by omega) (by simp; omega) (fun x hx => by
      rcases List.mem_append.mp hx with hx | hx
      · exact hw x hx
      · rw [List.mem_singleton.mp hx]; exact wy) (List.nodup_append.mpr ⟨hn, by simp, fun a ha b hb e => by
        have := List.mem_singleton.mp hb
        subst this
        exact ny (e ▸ ha)⟩)
    refine ⟨o', ys, x3', x4', x5'', by rw [hl']; simp; omega, hw', hn', ht'.up (by omega), ?_⟩
    rw [List.range'_succ, List.map_cons]
    unfold forG
    have et : tN 3 (.int i) [some o, some lots, some (.lst (xs.map sO)), x3, x4, x5, none] = some [some o, some lots, some (.lst (xs.map sO)), some (iO i), x4, x5, none] := by simp
    rw [et]
    simp only []
    rw [eb]
    exact e'
end Kx
end

section
set_option maxRecDepth 100000
set_option maxHeartbeats 4000000
open PySem PySem.Spec PyProof.Rows L2 G
namespace Kx
theorem abc_nd : abc.cps.toList.Nodup := by rw [abc_l]; decide
theorem words {k n : Nat} {o : O} (h : Tp k o) (hk : k + 1000 < 2 ^ 40) (hn : n ≤ 20) : ∃ (o' : O) (ys : List Str), f__law_words_drawn [o, iO n] = .ok (.lst (ys.map sO)) [some o', none] ∧ ys.length = n ∧ (∀ x ∈ ys, Wd x) ∧ ys.Nodup ∧ Tp (k + 9 * n) o' := by
  obtain ⟨o', ys, x3, x4, x5, hl, hw, hd, ht, e⟩ := words_loop abc_nd (by rw [abc_len]; decide) (fun c hc => abc_ltr.mp hc) n 0 k o (iO n) [] none none none h (by omega) (by rw [abc_len]; simp; omega) (by simp) List.nodup_nil
  refine ⟨o', ys, ?_, by simpa using hl, hw, hd, ht⟩
  have hsm : sm (n : Int) = true := sm_small (by omega)
  simp only [List.map_nil] at e
  have s3 : b__law_words_drawn [some o, some (iO n), none, none, none, none, none] = .ret (.lst (ys.map sO)) [some o', some (iO n), none, x3, x4, x5, none] := by
    unfold b__law_words_drawn
    rw [ev_sSeq]
    have q : sSet 2 (eLst eNil) [some o, some (iO n), none, none, none, none, none] = .nx [some o, some (iO n), some (.lst []), none, none, none, none] := by simp
    rw [q]
    show sSeq _ _ _ = _
    rw [ev_sSeq, ev_sFor, ev_iRng1]
    have q2 : eVar 1 [some o, some (iO n), some (.lst []), none, none, none, none] = .ok (iO n) [some o, some (iO n), some (.lst []), none, none, none, none] := rfl
    rw [q2]
    simp only [bind_ok, sh_toD, intD_int, hsm, if_true, then_ok, Int.toNat_natCast, List.range_eq_range']
    rw [e]
    rfl
  unfold f__law_words_drawn
  rw [fnG_eq]
  show (match b__law_words_drawn [some o, some (iO n), none, none, none, none, none] with | .nx ρ => _ | .ret o ρ => _ | .exc x ρ => _ | _ => _) = _
  rw [s3]
  rfl
/-! some of them, in any order -/
theorem gNe_nil {ys : List Str} : gNe (.lst (ys.map D.str)) (.lst []) = some (bO (!ys.isEmpty)) := by
  rw [gNe_l0]; cases ys <;> rfl
theorem gEq_lnil {ys : List Str} : gEq (.lst (ys.map D.str)) (.lst []) = some (bO ys.isEmpty) := by
  rw [gEq_l0]; cases ys <;> rfl
theorem gNe_tnil {ys : List Str} : gNe (.tup (ys.map D.str)) (.tup []) = some (bO (!ys.isEmpty)) := by
  rw [gNe_t0]; cases ys <;> rfl
theorem eqDs_strs : ∀ xs ys : List Str, eqDs (xs.map D.str) (ys.map D.str) = decide (xs = ys)
  | [], [] => rfl
  | [], _ :: _ => rfl
  | _ :: _, [] => rfl
  | x :: xs, y :: ys => by
    show ((x == y) && eqDs (xs.map D.str) (ys.map D.str)) = _
    rw [eqDs_strs xs ys, Bool.eq_iff_iff]
    simp
theorem pl2 (xs ys : List Str) : (plAll 60 (xs.map D.str) && plAll 60 (ys.map D.str)) = true := by rw [pl_strs, pl_strs]; rfl
theorem gNe_tt {ys : List Str} : gNe (.tup (ys.map D.str)) (.tup (ys.map D.str)) = some (bO false) := by rw [gNe_tup (pl2 ys ys), eqDs_strs]; simp
theorem gNe_ll {ys : List Str} : gNe (.lst (ys.map D.str)) (.lst (ys.map D.str)) = some (bO false) := by rw [gNe_lst (pl2 ys ys), eqDs_strs]; simp
theorem gEq_ll {ys : List Str} : gEq (.lst (ys.map D.str)) (.lst (ys.map D.str)) = some (bO true) := by rw [gEq_lst (pl2 ys ys), eqDs_strs]; simp
theorem gEq_tt {ys : List Str} : gEq (.tup (ys.map D.str)) (.tup (ys.map D.str)) = some (bO true) := by rw [gEq_tup (pl2 ys ys), eqDs_strs]; simp
end Kx
end

section
set_option maxRecDepth 100000
set_option maxHeartbeats 4000000
open PySem PySem.Spec PyProof.Rows L2 G
namespace Kx
/-! the program's words -/
def nmB (x : Str) : Bool := decide (1 ≤ x.length) && decide (x.length ≤ 8) && x.cps.toList.all fun c => !decide (c < 97) && !decide (122 < c)
theorem nmB_wd {x : Str} : nmB x = true ↔ Wd x := by
  unfold nmB Wd Ltr
  simp only [Bool.and_eq_true, decide_eq_true_eq, List.all_eq_true, Bool.not_eq_true', decide_eq_false_iff_not, Nat.not_lt]
  constructor
  · rintro ⟨⟨h1, h2⟩, h3⟩
    exact ⟨h1, h2, h3⟩
  · rintro ⟨h1, h2, h3⟩
    exact ⟨⟨h1, h2⟩, h3⟩
theorem isG_s {x : Str} : isG "str" (.str x) = some (bO true) := rfl
theorem isG_t {l : List D} : isG "tuple" (.tup l) = some (bO true) := rfl
theorem ltG_s {a b : Str} : ltG (.str a) (.str b) = some (decide (a.cps.toList < b.cps.toList)) := rfl
theorem gLe_s {a b : Str} : gLe (.str a) (.str b) = some (bO (!decide (b.cps.toList < a.cps.toList))) := rfl
theorem chr_a : (Str.ofString "a").cps.toList = [97] := by decide +kernel
theorem chr_z : (Str.ofString "z").cps.toList = [122] := by decide +kernel
theorem one_lt {a b : Nat} : (([a] : List Nat) < [b]) ↔ a < b := by
  constructor
  · intro h
    cases h with
    | rel h => exact h
    | cons h => cases h
  · intro h; exact .rel h
theorem le_a {c : Nat} : gLe (.str (Str.ofString "a")) (.str (one c)) = some (bO (!decide (c < 97))) := by
  rw [gLe_s, chr_a]
  have : decide ((one c).cps.toList < [97]) = decide (c < 97) := decide_eq_decide.mpr one_lt
  rw [this]
theorem le_z {c : Nat} : gLe (.str (one c)) (.str (Str.ofString "z")) = some (bO (!decide (122 < c))) := by
  rw [gLe_s, chr_z]
  have : decide (([122] : List Nat) < (one c).cps.toList) = decide (122 < c) := decide_eq_decide.mpr one_lt
  rw [this]
theorem optAll_bl : ∀ bs : List Bool, optAll blOf (bs.map D.bl) = some bs
  | [] => rfl
  | b :: bs => by simp only [List.map_cons, optAll, optAll_bl bs, blOf]
theorem allG_l {bs : List Bool} : allG [.lst (bs.map D.bl)] = some (bO (bs.all id)) := by
  show (optAll blOf (bs.map D.bl)).map _ = _
  rw [optAll_bl]; rfl
theorem toDs_bl : ∀ bs : List Bool, toDs (bs.map bO) = bs.map D.bl
  | [] => rfl
  | b :: bs => by
    show D.bl b :: toDs (bs.map bO) = D.bl b :: bs.map D.bl
    rw [toDs_bl bs]
theorem filter_true {α : Type} (l : List α) : l.filter (fun _ => true) = l := by simp
theorem is_name {x : Str} (h : x.length < big) : f_is_name [sO x] = .ok (bO (nmB x)) [none] := by
  have hb : big = 1000000 := rfl
  have c1 : ∀ ρ : Env', eChn gLe gLe (eK (.int 1)) (eN lenG (eCons (eVar 0) eNil)) (eK (.int 8)) [some (sO x), none] = .ok (bO (decide (1 ≤ x.length) && decide (x.length ≤ 8))) [some (sO x), none] := fun _ => by
    have hl : x.length ≤ big := by omega
    by_cases h1 : (x.length : Int) < 1
    · have : ¬ 1 ≤ x.length := by omega
      simp [hl, h1, this]
    · have h1' : 1 ≤ x.length := by omega
      by_cases h8 : (8 : Int) < x.length
      · have : ¬ x.length ≤ 8 := by omega
        simp [hl, h1, h8, h1', this]
      · have : x.length ≤ 8 := by omega
        simp [hl, h1, h8, h1', this]
  have e2 : eLc (iSeq (eVar 0)) (tN 1) ttY (eChn gLe gLe (eK (.str (Str.ofString "a"))) (eVar 1) (eK (.str (Str.ofString "z")))) [1] [some (sO x), none] =
      .ok (.lst ((x.cps.toList.map fun c => !decide (c < 97) && !decide (122 < c)).map bO)) [some (sO x), none] := by
    have q := eLc_pure (i := 1) (fi := iSeq (eVar 0)) (tt := ttY) (te := eChn gLe gLe (eK (.str (Str.ofString "a"))) (eVar 1) (eK (.str (Str.ofString "z")))) (ρ := [some (sO x), none]) (l := x.cps.toList.map fun c => D.str (one c)) (p := fun _ => true)
      (v := fun d => match d with | .str y => bO ((y.cps.toList.all fun c => !decide (c < 97) && !decide (122 < c))) | _ => bO false) rfl (.inl rfl) (fun d _ => rfl) (fun d hd _ => by
        obtain ⟨c, _, rfl⟩ := List.mem_map.mp hd
        have lz := le_z (c := c)
        have la := le_a (c := c)
        have hv : ((one c).cps.toList.all fun c => !decide (c < 97) && !decide (122 < c)) = (!decide (c < 97) && !decide (122 < c)) := by simp [one]
        show _ = Out.ok (bO ((one c).cps.toList.all fun c => !decide (c < 97) && !decide (122 < c))) _
        rw [hv]
        by_cases h1 : c < 97
        · rw [decide_eq_true h1] at la
          have : (!decide (c < 97)) = false := by simp [h1]
          rw [this, Bool.false_and]
          simp [la]
        · rw [decide_eq_false h1] at la
          have : (!decide (c < 97)) = true := by simp [h1]
          rw [this, Bool.true_and]
          simp [la, lz]) (by rw [List.length_map, Array.length_toList]; exact h)
    rw [q, filter_true, List.map_map, List.map_map]
    congr 2
    apply List.map_congr_left
    intro c _
    simp [one]
  have hs : b_is_name [some (sO x), none] = .ret (bO (nmB x)) [some (sO x), none] := by
    unfold b_is_name
    rw [ev_sSeq, ev_sIf, ev_tOr]
    have t1 : tNt (eTru (e1 (isG "str") (eVar 0))) [some (sO x), none] = .ok false [some (sO x), none] := by simp [isG_s]
    rw [t1]
    simp only [bind_ok, Bool.false_eq_true, if_false]
    rw [ev_tNt, ev_eB, c1 []]
    simp only [bind_ok, oB_bl]
    by_cases hn : (decide (1 ≤ x.length) && decide (x.length ≤ 8)) = true
    · simp only [hn, Bool.not_true, then_ok, Bool.false_eq_true, if_false, ev_sNil]
      rw [ev_sRet, ev_eN, ev_eCons, e2]
      simp only [bind_ok, ev_eNil, toDs_cons, toD_lst, toDs_nil, toDs_bl, allG_l, fin_some, then_ok]
      unfold nmB
      rw [hn, Bool.true_and, List.all_map]
      rfl
    · have hn' : (decide (1 ≤ x.length) && decide (x.length ≤ 8)) = false := by simpa using hn
      simp only [hn', Bool.not_false, then_ok, if_true]
      unfold nmB
      rw [hn', Bool.false_and]
      rfl
  unfold f_is_name
  rw [fnG_eq]
  show (match b_is_name [some (sO x), none] with | .nx ρ => _ | .ret o ρ => _ | .exc x ρ => _ | _ => _) = _
  rw [hs]
  rfl
/-! different ones -/
theorem all_names {ys : List Str} {l : D} (hl : itD l = some (ys.map D.str)) (hy : ∀ y ∈ ys, y.length < big) (hb : ys.length < big) :
    eLc (iSeq (eVar 0)) (tN 1) ttY (eCall f_is_name [none] (eCons (eVar 1) eNil)) [1] [some (.sh l), none] = .ok (.lst ((ys.map nmB).map bO)) [some (.sh l), none] := by
  have q := eLc_pure (i := 1) (fi := iSeq (eVar 0)) (tt := ttY) (te := eCall f_is_name [none] (eCons (eVar 1) eNil)) (ρ := [some (.sh l), none]) (l := ys.map D.str) (p := fun _ => true)
    (v := fun d => match d with | .str y => bO (nmB y) | _ => bO false) (by simp [hl]) (.inl rfl) (fun d _ => rfl) (fun d hd _ => by
      obtain ⟨y, h, rfl⟩ := List.mem_map.mp hd
      simp [is_name (hy y h)]) (by rw [List.length_map]; exact hb)
  rw [q, filter_true, List.map_map, List.map_map]
  rfl
def addK (acc : List (Kd × O)) (y : Str) : List (Kd × O) := putO acc (.inl (.inr y)) (bO true)
theorem dc_names {ρ : Env'} (h0 : ρ[1]? = some none) : ∀ {ys : List Str} {acc : List (Kd × O)}, acc.length + ys.length < big → dcG (tN 1) ttY (eVar 1) (eK (.bl true)) [1] (ys.map D.str) ρ acc = .ok (ys.foldl addK acc) ρ
  | [], acc, _ => rfl
  | y :: ys, acc, hb => by
    have hi : 1 < ρ.length := (List.getElem?_eq_some_iff.mp h0).1
    have hw : ∀ x, wipeE (ρ.set 1 x) [1] = ρ := fun x => by
      show (ρ.set 1 x).set 1 none = ρ
      rw [List.set_set, set_at h0]
    have hb' : acc.length < big := by simp at hb; omega
    have ev : eVar 1 (ρ.set 1 (some (.sh (.str y)))) = .ok (sO y) (ρ.set 1 (some (.sh (.str y)))) := by
      rw [ev_eVar, List.getElem?_set_self hi]
    rw [List.map_cons]
    unfold dcG
    simp only [ev_tN, hi, if_true, ev_ttY, bind_ok, ev, sh_toD]
    simp only [show keyD (.str y) = some (.inr y) from rfl, hb', if_true, hw]
    rw [dc_names h0 (by have := putO_len (l := acc) (k := .inl (.inr y)) (o := O.sh (.bl true)); simp at hb ⊢; omega)]
    rfl
theorem putO_old {k : Kd} {o : O} : ∀ {l : List (Kd × O)}, k ∈ l.map (·.1) → (putO l k o).length = l.length ∧ ∀ x, x ∈ (putO l k o).map (·.1) ↔ x ∈ l.map (·.1)
  | (j, p) :: l, h => by
    unfold putO
    by_cases e : j = k
    · subst e; simp
    · have h' : k ∈ l.map (·.1) := by
        rcases List.mem_cons.mp h with h | h
        · exact absurd h.symm e
        · exact h
      obtain ⟨h1, h2⟩ := putO_old (o := o) h'
      simp only [if_neg e, List.length_cons, h1, true_and]
      intro x
      simp only [List.map_cons, List.mem_cons, h2 x]
  | [], h => by simp at h
theorem putO_new {k : Kd} {o : O} : ∀ {l : List (Kd × O)}, k ∉ l.map (·.1) → (putO l k o).length = l.length + 1 ∧ ∀ x, x ∈ (putO l k o).map (·.1) ↔ x ∈ l.map (·.1) ∨ x = k
  | [], _ => by simp [putO]
  | (j, p) :: l, h => by
    have e : ¬ j = k := fun e => h (by simp [e])
    have h' : k ∉ l.map (·.1) := fun z => h (List.mem_cons_of_mem _ z)
    obtain ⟨h1, h2⟩ := putO_new (o := o) h'
    unfold putO
    simp only [if_neg e, List.length_cons, h1, true_and]
    intro x
    simp only [List.map_cons, List.mem_cons, h2 x, or_assoc]
theorem fold_len : ∀ (ys : List Str) (acc : List (Kd × O)), (ys.foldl addK acc).length ≤ acc.length + ys.length ∧ ((ys.foldl addK acc).length = acc.length + ys.length ↔ ys.Nodup ∧ ∀ y ∈ ys, (Sum.inl (Sum.inr y) : Kd) ∉ acc.map (·.1))
  | [], acc => by simp
  | y :: ys, acc => by
    obtain ⟨ih1, ih2⟩ := fold_len ys (addK acc y)
    show (ys.foldl addK (addK acc y)).length ≤ _ ∧ ((ys.foldl addK (addK acc y)).length = _ ↔ _)
    by_cases h : (Sum.inl (Sum.inr y) : Kd) ∈ acc.map (·.1)
    · obtain ⟨h1, h2⟩ := putO_old (o := bO true) h
      have h1' : (addK acc y).length = acc.length := h1
      rw [h1'] at ih1 ih2
      refine ⟨by simp; omega, ⟨fun e => ?_, fun e => absurd h (e.2 y List.mem_cons_self)⟩⟩
      simp at e; omega
    · obtain ⟨h1, h2⟩ := putO_new (o := bO true) h
      have h1' : (addK acc y).length = acc.length + 1 := h1
      have h2' : ∀ x, x ∈ (addK acc y).map (·.1) ↔ x ∈ acc.map (·.1) ∨ x = .inl (.inr y) := h2
      rw [h1'] at ih1 ih2
      refine ⟨by simp; omega, ?_⟩
      have : (ys.foldl addK (addK acc y)).length = acc.length + (y :: ys).length ↔ (ys.foldl addK (addK acc y)).length = acc.length + 1 + ys.length := by simp; omega
      rw [this, ih2, List.nodup_cons]
      constructor
      · rintro ⟨n, q⟩
        refine ⟨⟨fun hy => q y hy ((h2' _).mpr (.inr rfl)), n⟩, fun z hz => ?_⟩
        rcases List.mem_cons.mp hz with rfl | hz
        · exact h
        · exact fun hm => q z hz ((h2' _).mpr (.inl hm))
      · rintro ⟨⟨hy, n⟩, q⟩
        refine ⟨n, fun z hz hm => ?_⟩
        rcases (h2' _).mp hm with hm | e
        · exact q z (List.mem_cons_of_mem _ hz) hm
        · have : z = y := by injection e with e; injection e
          exact hy (this ▸ hz)
end Kx
end

section
set_option maxRecDepth 100000
set_option maxHeartbeats 4000000
open PySem PySem.Spec PyProof.Rows L2 G
namespace Kx
/-- a whole of different names -/
def nmsB (ys : List Str) : Bool := ys.all nmB && decide ys.Nodup
def Nms (ys : List Str) : Prop := (∀ y ∈ ys, Wd y) ∧ ys.Nodup ∧ ys.length ≤ 16
theorem ret_fn {N : Nat} {ks : List Bool} {body : Fs} {os : List O} {o : O} {ρ : Env'} (h : body (os.map some ++ List.replicate (N - os.length) none) = .ret o ρ) : fnG N ks body os = .ok o (keepL ks ρ) := by rw [fnG_eq, h]
theorem exc_fn {N : Nat} {ks : List Bool} {body : Fs} {os : List O} {x : Xn} {ρ : Env'} (h : body (os.map some ++ List.replicate (N - os.length) none) = .exc x ρ) : fnG N ks body os = .exc x (keepL ks ρ) := by rw [fnG_eq, h]
theorem toDk_len : ∀ l : List (Kd × O), (toDk l).length = l.length
  | [] => rfl
  | (k, o) :: l => by show (toDk l).length + 1 = _; rw [toDk_len l]; rfl
theorem differ {ys : List Str} (hy : ∀ y ∈ ys, y.length < big) (hb : ys.length < big) : f_are_different_names [.sh (.tup (ys.map D.str))] = .ok (bO (nmsB ys)) [none] := by
  have e1 := all_names (l := .tup (ys.map D.str)) rfl hy hb
  have hs : b_are_different_names [some (.sh (.tup (ys.map D.str))), none] = .ret (bO (nmsB ys)) [some (.sh (.tup (ys.map D.str))), none] := by
    unfold b_are_different_names
    rw [ev_sRet, ev_eAnd, ev_eN, ev_eCons, e1]
    simp only [bind_ok, ev_eNil, toDs_cons, toD_lst, toDs_nil, toDs_bl, allG_l, fin_some, sh_toD, blD_bl]
    unfold nmsB
    have ea : (ys.map nmB).all id = ys.all nmB := by rw [List.all_map]; rfl
    rw [ea]
    cases h : ys.all nmB with
    | false => simp
    | true =>
      have ed : eDc (iSeq (eVar 0)) (tN 1) ttY (eVar 1) (eK (.bl true)) [1] [some (.sh (.tup (ys.map D.str))), none] = .ok (.dct (ys.foldl addK [])) [some (.sh (.tup (ys.map D.str))), none] := by
        have q := dc_names (ρ := [some (.sh (.tup (ys.map D.str))), none]) rfl (ys := ys) (acc := []) (by simpa using hb)
        unfold eDc
        have i1 : iSeq (eVar 0) [some (.sh (.tup (ys.map D.str))), none] = .ok (ys.map D.str) [some (.sh (.tup (ys.map D.str))), none] := rfl
        rw [i1]
        simp only [bind_ok]
        have i2 : shAll [some (.sh (.tup (ys.map D.str))), none] [1] = true := rfl
        have i3 : wipeE [some (.sh (.tup (ys.map D.str))), none] [1] = [some (.sh (.tup (ys.map D.str))), none] := rfl
        rw [i2, i3, q]
        rfl
      simp only [Bool.true_and]
      rw [ev_e2, ev_eN, ev_eCons, ed]
      simp only [bind_ok, ev_eNil, toDs_cons, toD_dct, toDs_nil, lenG_d, toDk_len, fin_some, sh_toD]
      have el : eN lenG (eCons (eVar 0) eNil) [some (.sh (.tup (ys.map D.str))), none] = .ok (iO ys.length) [some (.sh (.tup (ys.map D.str))), none] := by simp
      rw [el]
      simp only [bind_ok, sh_toD, gEq_ii, fin_some, then_ok]
      have hf := (fold_len ys []).2
      by_cases hn : ys.Nodup
      · have := hf.mpr ⟨hn, by simp⟩
        simp at this
        rw [this]; simp [hn]
      · have : ¬ (ys.foldl addK []).length = ys.length := fun e => hn (hf.mp (by simpa using e)).1
        have h2 : ((((ys.foldl addK []).length : Nat) : Int) == (ys.length : Int)) = false := by
          simp only [beq_eq_false_iff_ne, ne_eq]
          exact fun e => this (by exact_mod_cast e)
        rw [h2]; simp [hn]
  exact ret_fn hs
def nB (ys : List Str) : Bool := decide (ys.length ≤ 16) && nmsB ys
theorem nB_iff {ys : List Str} : nB ys = true ↔ Nms ys := by
  unfold nB nmsB Nms
  simp only [Bool.and_eq_true, decide_eq_true_eq, List.all_eq_true, nmB_wd]
  constructor
  · rintro ⟨h1, h2, h3⟩; exact ⟨h2, h3, h1⟩
  · rintro ⟨h1, h2, h3⟩; exact ⟨h3, h1, h2⟩
theorem is_names {ys : List Str} (hy : ∀ y ∈ ys, y.length < big) (hb : ys.length < big) : f_is_names [.sh (.tup (ys.map D.str))] = .ok (bO (nB ys)) [none] := by
  have hd := differ hy hb
  have hs : b_is_names [some (.sh (.tup (ys.map D.str)))] = .ret (bO (nB ys)) [some (.sh (.tup (ys.map D.str)))] := by
    unfold b_is_names nB
    by_cases h : ys.length ≤ 16
    · have h' : ¬ ((16 : Int) < ys.length) := by omega
      simp [isG_t, h, h', hd]
    · have h' : (16 : Int) < ys.length := by omega
      simp [isG_t, h, h']
  exact ret_fn hs
end Kx
end

section
set_option maxRecDepth 100000
set_option maxHeartbeats 4000000
open PySem PySem.Spec PyProof.Rows L2 G
namespace Kx
@[simp] theorem itD_lst {l : List D} : itD (.lst l) = some l := rfl
@[simp] theorem itD_tup {l : List D} : itD (.tup l) = some l := rfl
@[simp] theorem itD_str {x : Str} : itD (.str x) = some (x.cps.toList.map fun c => D.str ⟨#[c]⟩) := rfl
/-! values of any kind, as names -/
def okD : D → Bool
  | .str x => decide (x.length < 1000)
  | .ins _ _ => false
  | .exn _ _ => false
  | _ => true
def isnD : D → Bool
  | .str x => nmB x
  | _ => false
theorem is_nameD {d : D} (h : okD d = true) : f_is_name [.sh d] = .ok (bO (isnD d)) [none] := by
  cases d with
  | str x =>
    have hl : x.length < 1000 := by simpa [okD] using h
    exact is_name (Nat.lt_trans hl (by decide))
  | ins c l => simp [okD] at h
  | exn c l => simp [okD] at h
  | non =>
    have g : isG "str" .non = some (bO false) := rfl
    exact ret_fn (by unfold b_is_name; simp [g]; exact ⟨rfl, rfl⟩)
  | bl b =>
    have g : isG "str" (.bl b) = some (bO false) := rfl
    exact ret_fn (by unfold b_is_name; simp [g]; exact ⟨rfl, rfl⟩)
  | int i =>
    have g : isG "str" (.int i) = some (bO false) := rfl
    exact ret_fn (by unfold b_is_name; simp [g]; exact ⟨rfl, rfl⟩)
  | tup l =>
    have g : isG "str" (.tup l) = some (bO false) := rfl
    exact ret_fn (by unfold b_is_name; simp [g]; exact ⟨rfl, rfl⟩)
  | lst l =>
    have g : isG "str" (.lst l) = some (bO false) := rfl
    exact ret_fn (by unfold b_is_name; simp [g]; exact ⟨rfl, rfl⟩)
  | dct l =>
    have g : isG "str" (.dct l) = some (bO false) := rfl
    exact ret_fn (by unfold b_is_name; simp [g]; exact ⟨rfl, rfl⟩)
theorem eLc_pure1 {i : Nat} {fi : Env' → Out (List D)} {tt : Env' → Out Bool} {te : Fe} {ρ0 ρ : Env'} {l : List D} {p : D → Bool} {v : D → O} (hf : fi ρ0 = .ok l ρ) (h0 : ρ[i]? = some none ∨ ∃ d, ρ[i]? = some (some (.sh d)))
    (ht : ∀ d ∈ l, tt (ρ.set i (some (.sh d))) = .ok (p d) (ρ.set i (some (.sh d)))) (he : ∀ d ∈ l, p d = true → te (ρ.set i (some (.sh d))) = .ok (v d) (ρ.set i (some (.sh d)))) (hb : l.length < big) :
    eLc fi (tN i) tt te [i] ρ0 = .ok (.lst ((l.filter p).map v)) ρ := by
  have h : eLc fi (tN i) tt te [i] ρ0 = eLc (fun _ => .ok l ρ) (tN i) tt te [i] ρ := by
    unfold eLc; rw [hf]
  rw [h]
  exact eLc_pure rfl h0 ht he hb
theorem strsD_inv : ∀ {l : List D} {ys : List Str}, strsD l = some ys → l = ys.map D.str
  | [], ys, h => by cases h; rfl
  | .str a :: l, ys, h => by
    obtain ⟨zs, e, rfl⟩ := Option.map_eq_some_iff.mp h
    rw [strsD_inv e]; rfl
  | .non :: _, _, h => by simp [strsD] at h
  | .bl _ :: _, _, h => by simp [strsD] at h
  | .int _ :: _, _, h => by simp [strsD] at h
  | .tup _ :: _, _, h => by simp [strsD] at h
  | .lst _ :: _, _, h => by simp [strsD] at h
  | .dct _ :: _, _, h => by simp [strsD] at h
  | .ins _ _ :: _, _, h => by simp [strsD] at h
  | .exn _ _ :: _, _, h => by simp [strsD] at h
theorem strsD_none : ∀ {l : List D}, strsD l = none → l.all isnD = false
  | [], h => by simp [strsD] at h
  | .str a :: l, h => by
    have : strsD l = none := by simpa [strsD] using h
    rw [List.all_cons, strsD_none this, Bool.and_false]
  | .non :: _, _ => rfl
  | .bl _ :: _, _ => rfl
  | .int _ :: _, _ => rfl
  | .tup _ :: _, _ => rfl
  | .lst _ :: _, _ => rfl
  | .dct _ :: _, _ => rfl
  | .ins _ _ :: _, _ => rfl
  | .exn _ _ :: _, _ => rfl
def nsD : D → Bool
  | .tup l => match strsD l with
    | some ys => nB ys
    | none => false
  | _ => false
def okT : D → Bool
  | .tup l => l.all okD && decide (l.length < 1000)
  | d => okD d
theorem all_isnD (ys : List Str) : (ys.map D.str).all isnD = ys.all nmB := by rw [List.all_map]; rfl
theorem names_comp {l : List D} (h : l.all okD = true) (hb : l.length < 1000) : eLc (iSeq (eVar 0)) (tN 1) ttY (eCall f_is_name [none] (eCons (eVar 1) eNil)) [1] [some (.sh (.tup l)), none] = .ok (.lst ((l.map isnD).map bO)) [some (.sh (.tup l)), none] := by
  have q := eLc_pure (i := 1) (fi := iSeq (eVar 0)) (tt := ttY) (te := eCall f_is_name [none] (eCons (eVar 1) eNil)) (ρ := [some (.sh (.tup l)), none]) (l := l) (p := fun _ => true)
    (v := fun d => bO (isnD d)) (by simp) (.inl rfl) (fun d _ => rfl) (fun d hd _ => by
      have := is_nameD (List.all_eq_true.mp h d hd)
      simp [this]) (Nat.lt_trans hb (by decide))
  rw [q, filter_true, List.map_map]
  rfl
theorem is_namesD {d : D} (h : okT d = true) : f_is_names [.sh d] = .ok (bO (nsD d)) [none] := by
  cases d with
  | tup l =>
    obtain ⟨h1, h2⟩ : l.all okD = true ∧ l.length < 1000 := by simpa [okT] using h
    cases es : strsD l with
    | some ys =>
      have e := strsD_inv es
      subst e
      have e2 : nsD (.tup (ys.map D.str)) = nB ys := by show (match strsD (ys.map D.str) with | some ys => nB ys | none => false) = _; rw [es]
      rw [e2]
      refine is_names (fun y hy => ?_) (by rw [List.length_map] at h2; exact Nat.lt_trans h2 (by decide))
      have := List.all_eq_true.mp h1 (.str y) (List.mem_map_of_mem hy)
      have hl : y.length < 1000 := by simpa [okD] using this
      exact Nat.lt_trans hl (by decide)
    | none =>
      have e2 : nsD (.tup l) = false := by show (match strsD l with | some ys => nB ys | none => false) = _; rw [es]
      rw [e2]
      have hc := names_comp h1 h2
      have ha : (l.map isnD).all id = false := by rw [List.all_map]; exact strsD_none es
      have hd : f_are_different_names [.sh (.tup l)] = .ok (bO false) [none] := by
        refine ret_fn (ρ := [some (.sh (.tup l)), none]) ?_
        show b_are_different_names [some (.sh (.tup l)), none] = _
        unfold b_are_different_names
        rw [ev_sRet, ev_eAnd, ev_eN, ev_eCons, hc]
        simp only [bind_ok, ev_eNil, toDs_cons, toD_lst, toDs_nil, toDs_bl, allG_l, fin_some, sh_toD, blD_bl, ha, then_ok]
      refine ret_fn (ρ := [some (.sh (.tup l))]) ?_
      show b_is_names [some (.sh (.tup l))] = _
      unfold b_is_names
      by_cases hl : l.length ≤ 16
      · have h' : ¬ ((16 : Int) < l.length) := by omega
        simp [isG_t, h', hd]
      · have h' : (16 : Int) < l.length := by omega
        simp [isG_t, h']
  | str x =>
    have g : isG "tuple" (.str x) = some (bO false) := rfl
    exact ret_fn (by unfold b_is_names; simp [g]; exact ⟨rfl, rfl⟩)
  | ins c l => simp [okT, okD] at h
  | exn c l => simp [okT, okD] at h
  | non =>
    have g : isG "tuple" .non = some (bO false) := rfl
    exact ret_fn (by unfold b_is_names; simp [g]; exact ⟨rfl, rfl⟩)
  | bl b =>
    have g : isG "tuple" (.bl b) = some (bO false) := rfl
    exact ret_fn (by unfold b_is_names; simp [g]; exact ⟨rfl, rfl⟩)
  | int i =>
    have g : isG "tuple" (.int i) = some (bO false) := rfl
    exact ret_fn (by unfold b_is_names; simp [g]; exact ⟨rfl, rfl⟩)
  | lst l =>
    have g : isG "tuple" (.lst l) = some (bO false) := rfl
    exact ret_fn (by unfold b_is_names; simp [g]; exact ⟨rfl, rfl⟩)
  | dct l =>
    have g : isG "tuple" (.dct l) = some (bO false) := rfl
    exact ret_fn (by unfold b_is_names; simp [g]; exact ⟨rfl, rfl⟩)
end Kx
end

section
set_option maxRecDepth 100000
set_option maxHeartbeats 4000000
open PySem PySem.Spec PyProof.Rows L2 G
namespace Kx
/-! the law's own judges -/
theorem list_abc : listG [.str abc] = some (OL (abc.cps.toList.map fun c => D.str (one c))) := by
  show (if abc.length ≤ big then some (OL (abc.cps.toList.map fun c => D.str ⟨#[c]⟩)) else none) = _
  exact if_pos (by decide +kernel)
theorem abc_strs : (abc.cps.toList.map fun c => D.str (one c)) = (abc.cps.toList.map one).map D.str := by rw [List.map_map]; rfl
theorem in_abc {c : Nat} : decide (one c ∈ abc.cps.toList.map one) = (!decide (c < 97) && !decide (122 < c)) := by
  have : one c ∈ abc.cps.toList.map one ↔ Ltr c := by
    rw [← abc_ltr]
    constructor
    · intro h
      obtain ⟨d, hd, e⟩ := List.mem_map.mp h
      exact one_inj e ▸ hd
    · exact fun h => List.mem_map_of_mem h
  unfold Ltr at this
  rw [Bool.eq_iff_iff]
  simp [this]
abbrev lnT : Env' → Out Bool := (eB (e2 gNin (eVar 1) (eN listG (eCons (eK (.str ("abcdefghijklmnopqrstuvwxyz" : Str))) eNil))))
theorem lawname_str {x : Str} (h : x.length < 1000) : f__law_is_name [sO x] = .ok (bO (nmB x)) [none] := by
  have hb : big = 1000000 := rfl
  have hl : x.length ≤ big := by omega
  have q := eLc_pure (i := 1) (fi := iSeq (eVar 0)) (tt := lnT) (te := eVar 1) (ρ := [some (sO x), none]) (l := (x.cps.toList.map one).map D.str) (p := fun d => match d with | .str y => !decide (y ∈ abc.cps.toList.map one) | _ => false)
    (v := fun d => .sh d) (by simp [List.map_map]; intro a _; rfl) (.inl rfl) (fun d hd => by
      obtain ⟨y, _, rfl⟩ := List.mem_map.mp hd
      have l1 : listG [.str (Str.ofString "abcdefghijklmnopqrstuvwxyz")] = some (OL ((abc.cps.toList.map one).map D.str)) := by rw [← abc_strs]; exact list_abc
      have g := gNin_l (x := y) (ys := abc.cps.toList.map one)
      generalize (abc.cps.toList.map one).map D.str = L at *
      unfold lnT
      simp [l1, OL, g]
      have : toDs (L.map O.sh) = L := toDs_sh L
      simp [this, g]) (fun d hd _ => by
      obtain ⟨y, _, rfl⟩ := List.mem_map.mp hd
      simp) (by simp; show x.length < big; omega)
  have hE : (((x.cps.toList.map one).map D.str).filter (fun d => match d with | .str y => !decide (y ∈ abc.cps.toList.map one) | _ => false)).isEmpty = x.cps.toList.all fun c => !decide (c < 97) && !decide (122 < c) := by
    rw [Bool.eq_iff_iff, List.isEmpty_iff, List.filter_eq_nil_iff, List.all_eq_true]
    constructor
    · intro h c hc
      have := h (.str (one c)) (List.mem_map_of_mem (List.mem_map_of_mem hc))
      rw [← in_abc]
      simpa using this
    · intro h d hd
      obtain ⟨y, hy, rfl⟩ := List.mem_map.mp hd
      obtain ⟨c, hc, rfl⟩ := List.mem_map.mp hy
      have := h c hc
      rw [← in_abc] at this
      simpa using this
  refine ret_fn (ρ := [some (sO x), none]) ?_
  show b__law_is_name [some (sO x), none] = _
  unfold b__law_is_name
  by_cases h0 : x = Str.ofString ""
  · subst h0
    have : nmB (Str.ofString "") = false := by decide +kernel
    simp [isG_s, this]
  · have h0' : (x == Str.ofString "") = false := by simpa using h0
    by_cases h8 : 8 < x.length
    · have : (8 : Int) < x.length := by omega
      have n : nmB x = false := by
        have : ¬ x.length ≤ 8 := by omega
        unfold nmB; simp [this]
      simp [isG_s, h0', hl, this, n]
    · have h8' : ¬ (8 : Int) < x.length := by omega
      have h1 : 1 ≤ x.length := by
        rcases Nat.eq_zero_or_pos x.length with z | z
        · exfalso
          apply h0
          rw [empty_str]
          apply TL.ext_tl
          have : (TL.tl x).length = 0 := by rw [← TL.len_tl]; exact z
          rw [List.length_eq_zero_iff.mp this]
        · exact z
      have n : nmB x = x.cps.toList.all fun c => !decide (c < 97) && !decide (122 < c) := by
        have a : decide (1 ≤ x.length) = true := decide_eq_true h1
        have b : decide (x.length ≤ 8) = true := decide_eq_true (by omega)
        unfold nmB; rw [a, b]; rfl
      rw [n, ← hE]
      rw [ev_sSeq, ev_sIf]
      have t0 : (tOr' (tNt (eTru (e1 (isG "str") (eVar 0)))) (tOr' (eB (e2 gEq (eVar 0) (eK (.str ("" : Str))))) (eB (e2 gGt (eN lenG (eCons (eVar 0) eNil)) (eK (.int 8)))))) [some (sO x), none] = .ok false [some (sO x), none] := by
        simp [isG_s, h0', hl, h8']
      rw [t0]
      simp only [then_ok, Bool.false_eq_true, if_false, ev_sNil]
      rw [ev_sRet, ev_e2]
      have q' : eLc (iSeq (eVar 0)) (tN 1) (eB (e2 gNin (eVar 1) (eN listG (eCons (eK (.str ("abcdefghijklmnopqrstuvwxyz" : Str))) eNil)))) (eVar 1) [1] [some (sO x), none] = _ := q
      rw [q']
      have : eLst eNil [some (sO x), none] = .ok (.lst []) [some (sO x), none] := by simp
      simp only [bind_ok, this, toD_lst, toDs_sh, toDs_nil, gEq_l0, fin_some, then_ok]
theorem lawname {d : D} (h : okD d = true) : f__law_is_name [.sh d] = .ok (bO (isnD d)) [none] := by
  cases d with
  | str x =>
    have hl : x.length < 1000 := by simpa [okD] using h
    exact lawname_str hl
  | ins c l => simp [okD] at h
  | exn c l => simp [okD] at h
  | non =>
    have g : isG "str" .non = some (bO false) := rfl
    exact ret_fn (by unfold b__law_is_name; simp [g]; exact ⟨rfl, rfl⟩)
  | bl b =>
    have g : isG "str" (.bl b) = some (bO false) := rfl
    exact ret_fn (by unfold b__law_is_name; simp [g]; exact ⟨rfl, rfl⟩)
  | int i =>
    have g : isG "str" (.int i) = some (bO false) := rfl
    exact ret_fn (by unfold b__law_is_name; simp [g]; exact ⟨rfl, rfl⟩)
  | tup l =>
    have g : isG "str" (.tup l) = some (bO false) := rfl
    exact ret_fn (by unfold b__law_is_name; simp [g]; exact ⟨rfl, rfl⟩)
  | lst l =>
    have g : isG "str" (.lst l) = some (bO false) := rfl
    exact ret_fn (by unfold b__law_is_name; simp [g]; exact ⟨rfl, rfl⟩)
  | dct l =>
    have g : isG "str" (.dct l) = some (bO false) := rfl
    exact ret_fn (by unfold b__law_is_name; simp [g]; exact ⟨rfl, rfl⟩)
theorem lawnames_tup {l : List D} (h1 : l.all okD = true) (h2 : l.length < 1000) : f__law_is_names [.sh (.tup l)] = .ok (bO (nsD (.tup l))) [none] := by
  have hb : big = 1000000 := rfl
  have q := eLc_pure (i := 1) (fi := iSeq (eVar 0)) (tt := tNt (eTru (eCall f__law_is_name [none] (eCons (eVar 1) eNil)))) (te := eVar 1) (ρ := [some (.sh (.tup l)), none]) (l := l) (p := fun d => !isnD d)
    (v := fun d => .sh d) (by simp) (.inl rfl) (fun d hd => by
      have := lawname (List.all_eq_true.mp h1 d hd)
      simp [this]) (fun d hd _ => by simp) (by omega)
  suffices hs : ∃ ρ, b__law_is_names [some (.sh (.tup l)), none] = .ret (bO (nsD (.tup l))) ρ ∧ keepL [false] ρ = [none] by
    obtain ⟨ρ, e1, e2⟩ := hs
    have := ret_fn (N := 2) (ks := [false]) (body := b__law_is_names) (os := [.sh (.tup l)]) e1
    rw [e2] at this
    exact this
  have eE : (l.filter fun d => !isnD d).isEmpty = l.all isnD := by
    rw [Bool.eq_iff_iff, List.isEmpty_iff, List.filter_eq_nil_iff, List.all_eq_true]
    simp
  unfold b__law_is_names
  refine ⟨[some (.sh (.tup l)), none], ?_, rfl⟩
  rw [ev_sSeq, ev_sIf]
  by_cases hl : 16 < l.length
  · have h' : (16 : Int) < l.length := by omega
    have n : nsD (.tup l) = false := by
      show (match strsD l with | some ys => nB ys | none => false) = _
      cases es : strsD l with
      | none => rfl
      | some ys =>
        have : l.length = ys.length := by rw [strsD_inv es, List.length_map]
        have : ¬ ys.length ≤ 16 := by omega
        show nB ys = false
        unfold nB; simp [this]
    simp [isG_t, h', n]
  · have h' : ¬ (16 : Int) < l.length := by omega
    have tc : (eB (e2 gNe (eLc (iSeq (eVar 0)) (tN 1) (tNt (eTru (eCall f__law_is_name [none] (eCons (eVar 1) eNil)))) (eVar 1) [1]) (eLst eNil))) [some (.sh (.tup l)), none] = .ok (!(l.all isnD)) [some (.sh (.tup l)), none] := by
      rw [ev_eB, ev_e2, q]
      have : eLst eNil [some (.sh (.tup l)), none] = .ok (.lst []) [some (.sh (.tup l)), none] := by simp
      simp only [bind_ok, this, toD_lst, toDs_sh, toDs_nil, gNe_l0, fin_some, eE, oB_bl]
    have t0 : (tOr' (tNt (eTru (e1 (isG "tuple") (eVar 0)))) (tOr' (eB (e2 gGt (eN lenG (eCons (eVar 0) eNil)) (eK (.int 16)))) (eB (e2 gNe (eLc (iSeq (eVar 0)) (tN 1) (tNt (eTru (eCall f__law_is_name [none] (eCons (eVar 1) eNil)))) (eVar 1) [1]) (eLst eNil))))) [some (.sh (.tup l)), none] = .ok (!(l.all isnD)) [some (.sh (.tup l)), none] := by
      rw [ev_tOr]
      have a1 : tNt (eTru (e1 (isG "tuple") (eVar 0))) [some (.sh (.tup l)), none] = .ok false [some (.sh (.tup l)), none] := by simp [isG_t]
      rw [a1]
      simp only [bind_ok, Bool.false_eq_true, if_false]
      rw [ev_tOr]
      have a2 : (eB (e2 gGt (eN lenG (eCons (eVar 0) eNil)) (eK (.int 16)))) [some (.sh (.tup l)), none] = .ok false [some (.sh (.tup l)), none] := by simp [h']
      rw [a2]
      simp only [bind_ok, Bool.false_eq_true, if_false]
      exact tc
    rw [t0]
    cases ha : l.all isnD with
    | false =>
      have n : nsD (.tup l) = false := by
        show (match strsD l with | some ys => nB ys | none => false) = _
        cases es : strsD l with
        | none => rfl
        | some ys =>
          rw [strsD_inv es, all_isnD] at ha
          show nB ys = false
          unfold nB nmsB; simp [ha]
      rw [n]
      simp
    | true =>
      cases es : strsD l with
      | none => rw [strsD_none es] at ha; cases ha
      | some ys =>
        have e := strsD_inv es
        subst e
        rw [all_isnD] at ha
        have n : nsD (.tup (ys.map D.str)) = decide ys.Nodup := by
          show (match strsD (ys.map D.str) with | some ys => nB ys | none => false) = _
          rw [es]
          have : ys.length ≤ 16 := by rw [List.length_map] at hl; omega
          show nB ys = _
          unfold nB nmsB; simp [ha, this]
        rw [List.length_map] at h2
        have s1 : sortSetG (.tup (ys.map D.str)) = some (OL ((srtS (GS.dl ys)).map D.str)) := by
          show (strsD (ys.map D.str)).bind _ = _
          rw [es]
          exact if_pos (by have : setB = 4000 := rfl; omega)
        have s2 : sortedG [.tup (ys.map D.str)] = some (OL ((srtS ys).map D.str)) := by
          show (if srtOk (ys.map D.str) = true ∧ (ys.map D.str).length ≤ big then some (OL ((ys.map D.str).mergeSort leD)) else none) = _
          rw [if_pos ⟨srtOk_strs ys, by rw [List.length_map]; omega⟩, srt_strs]
        have s3 : gEq (.lst ((srtS (GS.dl ys)).map D.str)) (.lst ((srtS ys).map D.str)) = some (bO (decide ys.Nodup)) := by
          rw [gEq_lst (pl2 _ _), eqDs_strs]
          congr 2
          exact decide_eq_decide.mpr (srt_dl ys)
        rw [n]
        generalize ys.map D.str = L at *
        generalize (srtS (GS.dl ys)).map D.str = A at *
        generalize (srtS ys).map D.str = B at *
        simp [s1, s2, OL, s3]
        have h1 : toDs (A.map O.sh) = A := toDs_sh A
        have h2 : toDs (B.map O.sh) = B := toDs_sh B
        simp [h1, h2, s3]
theorem lawnames {d : D} (h : okT d = true) : f__law_is_names [.sh d] = .ok (bO (nsD d)) [none] := by
  cases d with
  | tup l =>
    obtain ⟨h1, h2⟩ : l.all okD = true ∧ l.length < 1000 := by simpa [okT] using h
    exact lawnames_tup h1 h2
  | ins c l => simp [okT, okD] at h
  | exn c l => simp [okT, okD] at h
  | str x =>
    have g : isG "tuple" (.str x) = some (bO false) := rfl
    exact ret_fn (by unfold b__law_is_names; simp [g]; exact ⟨rfl, rfl⟩)
  | non =>
    have g : isG "tuple" .non = some (bO false) := rfl
    exact ret_fn (by unfold b__law_is_names; simp [g]; exact ⟨rfl, rfl⟩)
  | bl b =>
    have g : isG "tuple" (.bl b) = some (bO false) := rfl
    exact ret_fn (by unfold b__law_is_names; simp [g]; exact ⟨rfl, rfl⟩)
  | int i =>
    have g : isG "tuple" (.int i) = some (bO false) := rfl
    exact ret_fn (by unfold b__law_is_names; simp [g]; exact ⟨rfl, rfl⟩)
  | lst l =>
    have g : isG "tuple" (.lst l) = some (bO false) := rfl
    exact ret_fn (by unfold b__law_is_names; simp [g]; exact ⟨rfl, rfl⟩)
  | dct l =>
    have g : isG "tuple" (.dct l) = some (bO false) := rfl
    exact ret_fn (by unfold b__law_is_names; simp [g]; exact ⟨rfl, rfl⟩)
end Kx
end

section
set_option maxRecDepth 100000
set_option maxHeartbeats 4000000
open PySem PySem.Spec PyProof.Rows L2 G
namespace Kx
theorem cutS_len {x : Str} {lo hi : Option Int} : (cutS x lo hi).length ≤ x.length := by
  have : (cutS x lo hi).length = ((x.cps.toList.drop (HT.sIx x.length 0 lo)).take (HT.sIx x.length x.length hi - HT.sIx x.length 0 lo)).length := by
    rw [TL.len_tl]; rfl
  rw [this, List.length_take, List.length_drop, Array.length_toList]
  show min _ (x.length - _) ≤ x.length
  omega
theorem cutG_s {x : Str} {lo hi : Option Int} (h : x.length ≤ big) : cutG (.str x) lo hi = some (sO (cutS x lo hi)) := by
  show (if x.length ≤ big then some (sO (cutS x lo hi)) else none) = _
  exact if_pos h
def signs12 : List Str := [Str.ofString "A", Str.ofString "Z", Str.ofString "{", Str.ofString "`", Str.ofString " ", Str.ofString "-", Str.ofString "_", Str.ofString "0", Str.ofString "a", Str.ofString "z", Str.ofString "", Str.ofString "\n"]
theorem signs12_len : ∀ y ∈ signs12, y.length ≤ 1 := by decide +kernel
theorem addG_s {a b : Str} (h : a.length + b.length ≤ big) : addG (.str a) (.str b) = some (sO (a ++ b)) := if_pos h
theorem len_app (a b : Str) : (a ++ b).length = a.length + b.length := Str.length_append a b
theorem addG_ll {l m : List D} (h : l.length + m.length ≤ big) : addG (.lst l) (.lst m) = some (OL (l ++ m)) := if_pos h
theorem near {k : Nat} {o : O} {x : Str} (h : Tp k o) (hk : k + 10 < 2 ^ 40) (wx : Wd x) : ∃ (d : D) (o' : O), f__law_near [o, sO x] = .ok (.sh d) [some o', none] ∧ okD d = true ∧ Tp (k + 3) o' := by
  have hb : big = 1000000 := rfl
  have l8 : x.length ≤ 8 := wx.2.1
  obtain ⟨r, o1, h1, r0, r1, t1⟩ := roll (n := (x.length : Int) + 1) h (by omega) (by omega) (by omega)
  obtain ⟨q, rfl, hq⟩ := nat_of (n := x.length + 1) r0 (by push_cast; exact r1)
  obtain ⟨d2, o2, h2, m2, t2⟩ := pick_l (l := signs12.map D.str) t1 (by omega) (by decide) (by decide)
  obtain ⟨y, hy, rfl⟩ := List.mem_map.mp m2
  have ly := signs12_len y hy
  unfold signs12 at h2
  simp only [List.map_cons, List.map_nil] at h2
  have c1 := cutG_s (x := x) (lo := none) (hi := some (q : Int)) (by omega)
  have c2 := cutG_s (x := x) (lo := some (q : Int)) (hi := none) (by omega)
  have c3 := cutG_s (x := x) (lo := some 1) (hi := none) (by omega)
  have n1 := cutS_len (x := x) (lo := none) (hi := some (q : Int))
  have n2 := cutS_len (x := x) (lo := some (q : Int)) (hi := none)
  have n3 := cutS_len (x := x) (lo := some 1) (hi := none)
  generalize cutS x none (some (q : Int)) = u1 at *
  generalize cutS x (some (q : Int)) none = u2 at *
  generalize cutS x (some 1) none = u3 at *
  have a1 : addG (.str u1) (.str y) = some (sO (u1 ++ y)) := addG_s (by omega)
  have a2 : addG (.str (u1 ++ y)) (.str u2) = some (sO (u1 ++ y ++ u2)) := addG_s (by rw [len_app]; omega)
  have up : upperG x [] = some (sO (Txt.upper x)) := by
    show (if x.length ≤ big then some (sO (Txt.upper x)) else none) = _
    exact if_pos (by omega)
  have lu : (Txt.upper x).length ≤ 3 * x.length := PyProof.Rows.len_upper x
  have a3 : addG (.str x) (.str x) = some (sO (x ++ x)) := addG_s (by omega)
  have hx : x.length ≤ big := by omega
  have s8 : (Str.ofString "aaaaaaaa").length = 8 := by decide +kernel
  have s1 : (Str.ofString " ").length = 1 := by decide +kernel
  have sn : (Str.ofString "\n").length = 1 := by decide +kernel
  have s0 : (Str.ofString "").length = 0 := by decide +kernel
  have b1 : addG (.str x) (.str (Str.ofString "aaaaaaaa")) = some (sO (x ++ Str.ofString "aaaaaaaa")) := addG_s (by omega)
  have b2 : addG (.str x) (.str (Str.ofString " ")) = some (sO (x ++ Str.ofString " ")) := addG_s (by omega)
  have b3 : addG (.str x) (.str (Str.ofString "\n")) = some (sO (x ++ Str.ofString "\n")) := addG_s (by omega)
  have b4 : addG (.str (Str.ofString "\n")) (.str x) = some (sO (Str.ofString "\n" ++ x)) := addG_s (by omega)
  let A : List D := [.str (u1 ++ y ++ u2), .str (Txt.upper x), .str (x ++ x), .tup [.str x], .lst [.str x], .non, .int x.length, .str (Str.ofString ""), .str u3]
  let B : List D := [.str (x ++ Str.ofString "aaaaaaaa"), .str (x ++ Str.ofString " "), .dct [(.inl (.inr x), .str x)], .str (x ++ Str.ofString "\n"), .str (Str.ofString "\n" ++ x)]
  have all : ∀ d ∈ A ++ B, okD d = true := by
    have : (A ++ B).all okD = true := by
      simp [A, B, okD, len_app, s8, s1, sn, s0]
      omega
    exact fun d hd => List.all_eq_true.mp this d hd
  obtain ⟨d, o3, h3, m3, t3⟩ := pick_l (l := A ++ B) t2 (by omega) (by simp [A, B]) (by simp [A, B])
  refine ⟨d, o3, ?_, all d m3, t3⟩
  have ad : addG (.lst A) (.lst B) = some (OL (A ++ B)) := addG_ll (by simp [A, B]; omega)
  have e3' : f__law_pick [o2, OL (A ++ B)] = .ok (.sh d) [some o3, none] := h3
  have st1 : sSet 2 (eCall f__law_roll [some 0, none] (eLend 0 (eCons (e2 addG (eN lenG (eCons (eVar 1) eNil)) (eK (.int 1))) eNil))) [some o, some (sO x), none, none, none] = .nx [some o1, some (sO x), some (iO q), none, none] := by
    simp [hx, h1]
  have st2 : sSet 3 (eCall f__law_pick [some 0, none] (eLend 0 (eCons (eLst (eCons (eK (.str ("A" : Str))) (eCons (eK (.str ("Z" : Str))) (eCons (eK (.str ("{" : Str))) (eCons (eK (.str ("`" : Str))) (eCons (eK (.str (" " : Str))) (eCons (eK (.str ("-" : Str))) (eCons (eK (.str ("_" : Str))) (eCons (eK (.str ("0" : Str))) (eCons (eK (.str ("a" : Str))) (eCons (eK (.str ("z" : Str))) (eCons (eK (.str ("" : Str))) (eCons (eK (.str ("\n" : Str))) eNil))))))))))))) eNil))) [some o1, some (sO x), some (iO q), none, none] = .nx [some o2, some (sO x), some (iO q), some (sO y), none] := by
    simp [h2]
  have st3 : sSet 4 (eLst (eCons (e2 addG (e2 addG (eCut (eVar 1) none (some (eVar 2))) (eVar 3)) (eCut (eVar 1) (some (eVar 2)) none)) (eCons (eMs upperG (eVar 1) eNil) (eCons (e2 addG (eVar 1) (eVar 1)) (eCons (eTup (eCons (eVar 1) eNil)) (eCons (eLst (eCons (eVar 1) eNil)) (eCons (eK .non) (eCons (eN lenG (eCons (eVar 1) eNil)) (eCons (eK (.str ("" : Str))) (eCons (eCut (eVar 1) (some (eK (.int 1))) none) eNil)))))))))) [some o2, some (sO x), some (iO q), some (sO y), none]
      = .nx [some o2, some (sO x), some (iO q), some (sO y), some (.lst [sO (u1 ++ y ++ u2), sO (Txt.upper x), sO (x ++ x), .sh (.tup [.str x]), .lst [sO x], .sh .non, iO x.length, sO (Str.ofString ""), sO u3])] := by
    simp [ePart, c1, c2, c3, a1, a2, a3, up, hx]
  have hs : b__law_near [some o, some (sO x), none, none, none] = .ret (.sh d) [some o3, some (sO x), some (iO q), some (sO y), some (.sh (.lst A))] := by
    unfold b__law_near
    rw [ev_sSeq, st1]; dsimp only
    rw [ev_sSeq, st2]; dsimp only
    rw [ev_sSeq, st3]; dsimp only
    have ds : ∀ ρ : Env', ρ[1]? = some (some (sO x)) → eDsp (eCons (eVar 1) (eCons (eVar 1) eNil)) ρ = .ok (.dct [(.inl (.inr x), sO x)]) ρ := fun ρ hρ => by
      unfold eDsp
      simp [hρ, prsO, keyD, putsO, putO]
    have lb : eLst (eCons (e2 addG (eVar 1) (eK (.str ("aaaaaaaa" : Str)))) (eCons (e2 addG (eVar 1) (eK (.str (" " : Str)))) (eCons (eDsp (eCons (eVar 1) (eCons (eVar 1) eNil))) (eCons (e2 addG (eVar 1) (eK (.str ("\n" : Str)))) (eCons (e2 addG (eK (.str ("\n" : Str))) (eVar 1)) eNil))))) [some o2, some (sO x), some (iO q), some (sO y), some (.sh (.lst A))]
      = .ok (.lst [sO (x ++ Str.ofString "aaaaaaaa"), sO (x ++ Str.ofString " "), .dct [(.inl (.inr x), sO x)], sO (x ++ Str.ofString "\n"), sO (Str.ofString "\n" ++ x)]) [some o2, some (sO x), some (iO q), some (sO y), some (.sh (.lst A))] := by
      simp [b1, b2, b3, b4, ds]
    have va : eVar 4 [some o2, some (sO x), some (iO q), some (sO y), some (.lst [sO (u1 ++ y ++ u2), sO (Txt.upper x), sO (x ++ x), .sh (.tup [.str x]), .lst [sO x], .sh .non, iO x.length, sO (Str.ofString ""), sO u3])] = .ok (.sh (.lst A)) [some o2, some (sO x), some (iO q), some (sO y), some (.sh (.lst A))] := by
      simp [A]
    have tb : (O.lst [sO (x ++ Str.ofString "aaaaaaaa"), sO (x ++ Str.ofString " "), .dct [(.inl (.inr x), sO x)], sO (x ++ Str.ofString "\n"), sO (Str.ofString "\n" ++ x)]).toD = .lst B := rfl
    rw [ev_sRet, ev_eCall, ev_eLend]
    simp only [List.getElem?_cons_zero]
    rw [ev_eCons, ev_e2, va]
    simp only [bind_ok]
    rw [lb]
    simp only [bind_ok, tb, sh_toD, ad, fin_some, ev_eNil]
    simp [e3']
  exact ret_fn (N := 5) (ks := [true, false]) (body := b__law_near) (os := [o, sO x]) hs
end Kx
end

section
set_option maxRecDepth 100000
set_option maxHeartbeats 4000000
open PySem PySem.Spec PyProof.Rows L2 G
namespace Kx
theorem sum8 : ∀ {ys : List Str}, (∀ y ∈ ys, Wd y) → (ys.map (·.length)).sum ≤ 8 * ys.length
  | [], _ => Nat.le_refl _
  | y :: ys, h => by
    have := sum8 (ys := ys) fun z hz => h z (List.mem_cons_of_mem _ hz)
    have := (h y List.mem_cons_self).2.1
    simp only [List.map_cons, List.sum_cons, List.length_cons]
    omega
theorem repr_b (b : Bool) : reprG [.bl b] = some (sO (if b then "True" else "False")) := rfl
theorem gNe_self (x : Str) : gNe (.str x) (.str x) = some (bO false) := by rw [gNe_ss]; simp
abbrev CB : Fs := (sSeq (sSet 3 (eIf (eB (e2 gGt (eVar 2) (eK (.int 0)))) (eCall f__law_near [some 0, none] (eLend 0 (eCons (eVar 1) eNil))) (eVar 1)))
  (sIf (eB (e2 gNe (eN reprG (eCons (eCall f_is_name [none] (eCons (eVar 3) eNil)) eNil)) (eN reprG (eCons (eCall f__law_is_name [none] (eCons (eVar 3) eNil)) eNil))))
  (sRet (eK (.bl false)))
  sNil))
theorem cb {k j : Nat} {o : O} {x : Str} {r3 : Option O} (h : Tp k o) (hk : k + 10 < 2 ^ 40) (wx : Wd x) : ∃ (o' : O) (d : D), CB [some o, some (sO x), some (iO j), r3, none, none] = .nx [some o', some (sO x), some (iO j), some (.sh d), none, none] ∧ Tp (k + 3) o' := by
  have fin : ∀ (o' : O) (d : D), okD d = true → (sIf (eB (e2 gNe (eN reprG (eCons (eCall f_is_name [none] (eCons (eVar 3) eNil)) eNil)) (eN reprG (eCons (eCall f__law_is_name [none] (eCons (eVar 3) eNil)) eNil)))) (sRet (eK (.bl false))) sNil) [some o', some (sO x), some (iO j), some (.sh d), none, none] = .nx [some o', some (sO x), some (iO j), some (.sh d), none, none] := fun o' d hd => by
    have a := is_nameD hd
    have b := lawname hd
    simp [a, b, repr_b, gNe_self]
  by_cases hj : 0 < (j : Int)
  · obtain ⟨d, o', e, hd, t⟩ := near h hk wx
    refine ⟨o', d, ?_, t⟩
    unfold CB
    have s1 : sSet 3 (eIf (eB (e2 gGt (eVar 2) (eK (.int 0)))) (eCall f__law_near [some 0, none] (eLend 0 (eCons (eVar 1) eNil))) (eVar 1)) [some o, some (sO x), some (iO j), r3, none, none] = .nx [some o', some (sO x), some (iO j), some (.sh d), none, none] := by
      have : (0 : Int) < j := hj
      simp only [ev_sSet, ev_eIf, ev_eB, ev_e2, ev_eVar, List.getElem?_cons_succ, List.getElem?_cons_zero, bind_ok, sh_toD, gGt_ii, fin_some, oB_bl, decide_eq_true this, if_true]
      simp [e]
    rw [ev_sSeq, s1]
    exact fin o' d hd
  · refine ⟨o, .str x, ?_, h.up (by omega)⟩
    unfold CB
    have s1 : sSet 3 (eIf (eB (e2 gGt (eVar 2) (eK (.int 0)))) (eCall f__law_near [some 0, none] (eLend 0 (eCons (eVar 1) eNil))) (eVar 1)) [some o, some (sO x), some (iO j), r3, none, none] = .nx [some o, some (sO x), some (iO j), some (sO x), none, none] := by
      simp only [ev_sSet, ev_eIf, ev_eB, ev_e2, ev_eVar, List.getElem?_cons_succ, List.getElem?_cons_zero, bind_ok, sh_toD, gGt_ii, fin_some, oB_bl, decide_eq_false hj]
      simp
    rw [ev_sSeq, s1]
    exact fin o (.str x) (by have := wx.2.1; simp [okD]; omega)
theorem cb_loop {x : Str} (wx : Wd x) : ∀ (n i k : Nat) (o : O) (r2 r3 : Option O), Tp k o → k + 3 * n + 10 < 2 ^ 40 → ∃ (o' : O) (q2 q3 : Option O), forG (tN 2) CB ((List.range' i n).map fun (k : Nat) => D.int k) [some o, some (sO x), r2, r3, none, none]
    = .nx [some o', some (sO x), q2, q3, none, none] ∧ Tp (k + 3 * n) o'
  | 0, i, k, o, r2, r3, h, _ => ⟨o, r2, r3, rfl, h⟩
  | n + 1, i, k, o, r2, r3, h, hk => by
    obtain ⟨o1, d, e, t1⟩ := cb (j := i) (r3 := r3) h (by omega) wx
    obtain ⟨o2, q2, q3, e', t2⟩ := cb_loop wx n (i + 1) (k + 3) o1 (some (iO i)) (some (.sh d)) t1 (by omega)
    refine ⟨o2, q2, q3, ?_, t2.up (by omega)⟩
    rw [List.range'_succ, List.map_cons]
    unfold forG
    have et : tN 2 (.int i) [some o, some (sO x), r2, r3, none, none] = some [some o, some (sO x), some (iO i), r3, none, none] := by simp
    rw [et]
    dsimp only
    rw [e]
    exact e'
noncomputable abbrev CC : Fs := (sIf (eB (e2 gNe (eN reprG (eCons (eCall f_is_names [none] (eCons (eVar 3) eNil)) eNil)) (eN reprG (eCons (eCall f__law_is_names [none] (eCons (eVar 3) eNil)) eNil))))
  (sRet (eK (.bl false)))
  sNil)
theorem cc_loop {r0 r1 r2 r4 r5 : Option O} : ∀ (l : List D) (r3 : Option O), (∀ d ∈ l, okT d = true) → ∃ q3, forG (tN 3) CC l [r0, r1, r2, r3, r4, r5] = .nx [r0, r1, r2, q3, r4, r5]
  | [], r3, _ => ⟨r3, rfl⟩
  | d :: l, r3, h => by
    obtain ⟨q3, e⟩ := cc_loop (r0 := r0) (r1 := r1) (r2 := r2) (r4 := r4) (r5 := r5) l (some (.sh d)) fun x hx => h x (List.mem_cons_of_mem _ hx)
    refine ⟨q3, ?_⟩
    unfold forG
    have et : tN 3 d [r0, r1, r2, r3, r4, r5] = some [r0, r1, r2, some (.sh d), r4, r5] := by simp
    rw [et]
    dsimp only
    have a := is_namesD (h d List.mem_cons_self)
    have b := lawnames (h d List.mem_cons_self)
    have : CC [r0, r1, r2, some (.sh d), r4, r5] = .nx [r0, r1, r2, some (.sh d), r4, r5] := by
      unfold CC
      simp [a, b, repr_b, gNe_self]
    rw [this]
    exact e
theorem cut_mem {l : List D} {a b : Option Int} {d : D} (h : d ∈ cutL l a b) : d ∈ l := List.mem_of_mem_drop (List.mem_of_mem_take h)
theorem cut_len {l : List D} {a b : Option Int} : (cutL l a b).length ≤ l.length := by
  unfold cutL
  rw [List.length_take, List.length_drop]; omega
theorem okT_tup {l : List D} (h : ∀ d ∈ l, okD d = true) (hl : l.length < 1000) : okT (.tup l) = true := by
  show (l.all okD && decide (l.length < 1000)) = true
  rw [List.all_eq_true.mpr h, decide_eq_true hl]; rfl
abbrev C1 : Fs := (sSet 1 (eCall f__law_word_drawn [some 0] (eLend 0 eNil)))
abbrev C3 : Fs := (sSet 4 (eCall f__law_words_drawn [some 0, none] (eLend 0 (eCons (eCall f__law_pick [some 0, none] (eLend 0 (eCons (eLst (eCons (eK (.int 0)) (eCons (eK (.int 1)) (eCons (eK (.int 2)) (eCons (eK (.int 3)) (eCons (eK (.int 15)) (eCons (eK (.int 16)) (eCons (eK (.int 17)) eNil)))))))) eNil))) eNil))))
abbrev C4 : Fs := (sSet 5 (eLst (eCons (eN tupleG (eCons (eVar 4) eNil)) (eCons (eVar 4) (eCons (eN tupleG (eCons (e2 addG (eVar 4) (eCut (eVar 4) none (some (eK (.int 1))))) eNil)) (eCons (eN tupleG (eCons (e2 addG (eVar 4) (eLst (eCons (eCall f__law_near [some 0, none] (eLend 0 (eCons (eVar 1) eNil))) eNil))) eNil)) (eCons (eN tupleG (eCons (eCut (eVar 4) (some (eK (.int 1))) none) eNil)) eNil)))))))
abbrev C5 : Fs := (sSet 5 (e2 addG (eVar 5) (eLst (eCons (eN tupleG (eCons (e2 addG (eVar 4) (eLst (eCons (eK .non) eNil))) eNil)) (eCons (eN tupleG (eCons (e2 addG (eVar 4) (eLst (eCons (eLst (eCons (eK (.str ("a" : Str))) eNil)) eNil))) eNil)) (eCons (eMs joinG (eK (.str ("" : Str))) (eCons (eVar 4) eNil)) (eCons eDnew (eCons (eK .non) (eCons (eK (.int 5)) (eCons (eTup (eCons (eN tupleG (eCons (eVar 4) eNil)) eNil)) eNil))))))))))
theorem b_cell_is : b__law_cell_right = sSeq C1 (sSeq (sFor (iRng1 (eK (.int 8))) (tN 2) CB) (sSeq C3 (sSeq C4 (sSeq C5 (sSeq (sFor (iSeq (eVar 5)) (tN 3) CC) (sRet (eK (.bl true)))))))) := rfl
theorem tupleG_l (l : List D) : tupleG [.lst l] = some (.sh (.tup l)) := rfl
theorem cell {k : Nat} {o : O} (h : Tp k o) (hk : k + 2000 < 2 ^ 40) : ∃ o', f__law_cell_right [o] = .ok (bO true) [some o'] ∧ Tp (k + 400) o' := by
  have hb : big = 1000000 := rfl
  obtain ⟨x, o1, h1, wx, t1⟩ := word h (by omega)
  obtain ⟨o2, q2, q3, h2, t2⟩ := cb_loop wx 8 0 (k + 9) o1 none none t1 (by omega)
  obtain ⟨d3, o3, h3, m3, t3⟩ := pick_l (l := [D.int 0, .int 1, .int 2, .int 3, .int 15, .int 16, .int 17]) t2 (by omega) (by decide) (by decide)
  obtain ⟨n, rfl, hn⟩ : ∃ n : Nat, d3 = .int n ∧ n ≤ 17 := by
    simp only [List.mem_cons, List.not_mem_nil, or_false] at m3
    rcases m3 with rfl | rfl | rfl | rfl | rfl | rfl | rfl
    · exact ⟨0, rfl, by omega⟩
    · exact ⟨1, rfl, by omega⟩
    · exact ⟨2, rfl, by omega⟩
    · exact ⟨3, rfl, by omega⟩
    · exact ⟨15, rfl, by omega⟩
    · exact ⟨16, rfl, by omega⟩
    · exact ⟨17, rfl, by omega⟩
  obtain ⟨o4, ys, h4, ly, wy, dy, t4⟩ := words (n := n) t3 (by omega) (by omega)
  obtain ⟨dn, o5, h5, kn, t5⟩ := near t4 (by omega) wx
  simp only [List.map_cons, List.map_nil] at h3
  have sy := sum8 wy
  have js : joinG (Str.ofString "") [.lst (ys.map D.str)] = some (sO (Txt.join (Str.ofString "") ys)) := joinG_l (by
    have : (Str.ofString "").length = 0 := by decide +kernel
    rw [this]; omega)
  have jl : (Txt.join (Str.ofString "") ys).length < 1000 := by
    rw [TL.join_eq]
    have := StrLaws.join_length_le (Str.ofString "") ys
    have z : (Str.ofString "").length = 0 := by decide +kernel
    rw [z] at this
    omega
  have okL : ∀ d ∈ ys.map D.str, okD d = true := fun d hd => by
    obtain ⟨y, hy, rfl⟩ := List.mem_map.mp hd
    have := (wy y hy).2.1
    simp [okD]; omega
  have lL : (ys.map D.str).length ≤ 17 := by rw [List.length_map]; omega
  have td : toDs (ys.map sO) = ys.map D.str := toDs_str ys
  generalize ys.map D.str = L at *
  have cg1 : cutG (.lst L) none (some 1) = some (OL (cutL L none (some 1))) := rfl
  have cg2 : cutG (.lst L) (some 1) none = some (OL (cutL L (some 1) none)) := rfl
  have m1 : ∀ d ∈ cutL L none (some 1), okD d = true := fun d hd => okL d (cut_mem hd)
  have m2 : ∀ d ∈ cutL L (some 1) none, okD d = true := fun d hd => okL d (cut_mem hd)
  have l1 : (cutL L none (some 1)).length ≤ 17 := Nat.le_trans cut_len lL
  have l2 : (cutL L (some 1) none).length ≤ 17 := Nat.le_trans cut_len lL
  generalize cutL L none (some 1) = M1 at *
  generalize cutL L (some 1) none = M2 at *
  generalize Txt.join (Str.ofString "") ys = J at *
  have ad1 : addG (.lst L) (.lst M1) = some (OL (L ++ M1)) := addG_ll (by omega)
  have ad2 : addG (.lst L) (.lst [dn]) = some (OL (L ++ [dn])) := addG_ll (by simp; omega)
  have ad3 : addG (.lst L) (.lst [.non]) = some (OL (L ++ [.non])) := addG_ll (by simp; omega)
  have ad4 : addG (.lst L) (.lst [.lst [.str (Str.ofString "a")]]) = some (OL (L ++ [.lst [.str (Str.ofString "a")]])) := addG_ll (by simp; omega)
  have tdO : ∀ l : List D, toDs (l.map O.sh) = l := toDs_sh
  let V1 : List D := [.tup L, .lst L, .tup (L ++ M1), .tup (L ++ [dn]), .tup M2]
  let V2 : List D := [.tup (L ++ [.non]), .tup (L ++ [.lst [.str (Str.ofString "a")]]), .str J, .dct [], .non, .int 5, .tup [.tup L]]
  have ad5 : addG (.lst V1) (.lst V2) = some (OL (V1 ++ V2)) := addG_ll (by simp [V1, V2]; omega)
  have s1 : C1 [some o, none, none, none, none, none] = .nx [some o1, some (sO x), none, none, none, none] := by
    unfold C1; simp [h1]
  have s2 : sFor (iRng1 (eK (.int 8))) (tN 2) CB [some o1, some (sO x), none, none, none, none] = .nx [some o2, some (sO x), q2, q3, none, none] := by
    have hsm : sm (8 : Int) = true := sm_small (m := 8) (by omega)
    have fi : iRng1 (eK (.int 8)) [some o1, some (sO x), none, none, none, none] = .ok ((List.range' 0 8).map fun (k : Nat) => D.int k) [some o1, some (sO x), none, none, none, none] := by
      simp [hsm, List.range_eq_range']
    rw [ev_sFor, fi]
    exact h2
  have s3 : C3 [some o2, some (sO x), q2, q3, none, none] = .nx [some o4, some (sO x), q2, q3, some (.lst (ys.map sO)), none] := by
    unfold C3; simp [h3, h4]
  have s4 : C4 [some o4, some (sO x), q2, q3, some (.lst (ys.map sO)), none] = .nx [some o5, some (sO x), q2, q3, some (.sh (.lst L)), some (.lst (V1.map O.sh))] := by
    unfold C4
    simp [-List.map_append, td, tupleG_l, cg1, cg2, ad1, ad2, OL, tdO, ePart, h5, V1]
  have s5 : C5 [some o5, some (sO x), q2, q3, some (.sh (.lst L)), some (.lst (V1.map O.sh))] = .nx [some o5, some (sO x), q2, q3, some (.sh (.lst L)), some (OL (V1 ++ V2))] := by
    have lb : eLst (eCons (eN tupleG (eCons (e2 addG (eVar 4) (eLst (eCons (eK .non) eNil))) eNil)) (eCons (eN tupleG (eCons (e2 addG (eVar 4) (eLst (eCons (eLst (eCons (eK (.str ("a" : Str))) eNil)) eNil))) eNil)) (eCons (eMs joinG (eK (.str ("" : Str))) (eCons (eVar 4) eNil)) (eCons eDnew (eCons (eK .non) (eCons (eK (.int 5)) (eCons (eTup (eCons (eN tupleG (eCons (eVar 4) eNil)) eNil)) eNil))))))) [some o5, some (sO x), q2, q3, some (.sh (.lst L)), some (.sh (.lst V1))]
      = .ok (.lst [.sh (.tup (L ++ [.non])), .sh (.tup (L ++ [.lst [.str (Str.ofString "a")]])), sO J, .dct [], .sh .non, iO 5, .sh (.tup [.tup L])]) [some o5, some (sO x), q2, q3, some (.sh (.lst L)), some (.sh (.lst V1))] := by
      have dn : ∀ ρ, eDnew ρ = .ok (.dct []) ρ := fun _ => rfl
      simp [-List.map_append, ad3, ad4, OL, tdO, tupleG_l, js, dn]
    have va : eVar 5 [some o5, some (sO x), q2, q3, some (.sh (.lst L)), some (.lst (V1.map O.sh))] = .ok (.sh (.lst V1)) [some o5, some (sO x), q2, q3, some (.sh (.lst L)), some (.sh (.lst V1))] := by
      simp [tdO]
    have tb : (O.lst [.sh (.tup (L ++ [.non])), .sh (.tup (L ++ [.lst [.str (Str.ofString "a")]])), sO J, .dct [], .sh .non, iO 5, .sh (.tup [.tup L])]).toD = .lst V2 := rfl
    unfold C5
    rw [ev_sSet, ev_e2, va]
    simp only [bind_ok]
    rw [lb]
    simp only [bind_ok, tb, sh_toD, ad5, fin_some, then_ok]
    rfl
  have okV : ∀ d ∈ V1 ++ V2, okT d = true := fun d hd => by
    simp only [V1, V2, List.cons_append, List.nil_append, List.mem_cons, List.not_mem_nil, or_false] at hd
    rcases hd with rfl | rfl | rfl | rfl | rfl | rfl | rfl | rfl | rfl | rfl | rfl | rfl
    · exact okT_tup okL (by omega)
    · rfl
    · exact okT_tup (fun d hd => (List.mem_append.mp hd).elim (okL d) (m1 d)) (by rw [List.length_append]; omega)
    · exact okT_tup (fun d hd => (List.mem_append.mp hd).elim (okL d) fun e => by rw [List.mem_singleton.mp e]; exact kn) (by rw [List.length_append]; simp; omega)
    · exact okT_tup m2 (by omega)
    · exact okT_tup (fun d hd => (List.mem_append.mp hd).elim (okL d) fun e => by rw [List.mem_singleton.mp e]; rfl) (by rw [List.length_append]; simp; omega)
    · exact okT_tup (fun d hd => (List.mem_append.mp hd).elim (okL d) fun e => by rw [List.mem_singleton.mp e]; rfl) (by rw [List.length_append]; simp; omega)
    · simp [okT, okD]; exact jl
    · rfl
    · rfl
    · rfl
    · rfl
  obtain ⟨q3', e6⟩ := cc_loop (r0 := some o5) (r1 := some (sO x)) (r2 := q2) (r4 := some (.sh (.lst L))) (r5 := some (.sh (.lst (V1 ++ V2)))) (V1 ++ V2) q3 okV
  have s6 : sFor (iSeq (eVar 5)) (tN 3) CC [some o5, some (sO x), q2, q3, some (.sh (.lst L)), some (OL (V1 ++ V2))] = .nx [some o5, some (sO x), q2, q3', some (.sh (.lst L)), some (.sh (.lst (V1 ++ V2)))] := by
    have fi : iSeq (eVar 5) [some o5, some (sO x), q2, q3, some (.sh (.lst L)), some (OL (V1 ++ V2))] = .ok (V1 ++ V2) [some o5, some (sO x), q2, q3, some (.sh (.lst L)), some (.sh (.lst (V1 ++ V2)))] := by
      generalize V1 ++ V2 = W at *
      simp [OL, tdO]
    rw [ev_sFor, fi]
    exact e6
  refine ⟨o5, ?_, t5.up (by omega)⟩
  have hs : b__law_cell_right [some o, none, none, none, none, none] = .ret (bO true) [some o5, some (sO x), q2, q3', some (.sh (.lst L)), some (.sh (.lst (V1 ++ V2)))] := by
    rw [b_cell_is]
    rw [ev_sSeq, s1]; dsimp only
    rw [ev_sSeq, s2]; dsimp only
    rw [ev_sSeq, s3]; dsimp only
    rw [ev_sSeq, s4]; dsimp only
    rw [ev_sSeq, s5]; dsimp only
    rw [ev_sSeq, s6]; dsimp only
    rfl
  exact ret_fn (N := 6) (ks := [true]) (body := b__law_cell_right) (os := [o]) hs
end Kx
end

section
set_option maxRecDepth 100000
set_option maxHeartbeats 4000000
open PySem PySem.Spec PyProof.Rows L2 G
namespace Kx
/-! integers -/
def T60 : Int := 10 ^ 60
def T54 : Int := 10 ^ 54
def T55 : Int := 10 ^ 55
def T39 : Int := 10 ^ 39
def T6 : Int := 10 ^ 6
theorem pow60 : powG (.int 10) (.int 60) = some (iO T60) := powG_ok (a := 10) (b := 60) (by decide +kernel)
theorem pow54 : powG (.int 10) (.int 54) = some (iO T54) := powG_ok (a := 10) (b := 54) (by decide +kernel)
theorem pow55 : powG (.int 10) (.int 55) = some (iO T55) := powG_ok (a := 10) (b := 55) (by decide +kernel)
theorem pow39 : powG (.int 10) (.int 39) = some (iO T39) := powG_ok (a := 10) (b := 39) (by decide +kernel)
theorem pow6 : powG (.int 10) (.int 6) = some (iO T6) := powG_ok (a := 10) (b := 6) (by decide +kernel)
def GG : Int := T60 - 1
theorem lit60 : (999999999999999999999999999999999999999999999999999999999999 : Int) = GG := by decide +kernel
def iB (v : Int) : Bool := decide (-T60 < v) && decide (v < T60)
def b_isint : Fs := (sRet (eAnd (e1 (isG "int") (eVar 0)) (eAnd (eNot (e1 (isG "bool") (eVar 0))) (eChn gLe gLe (e1 negG (eK (.int GG))) (eVar 0) (eK (.int GG))))))
theorem b_isint_is : b_is_integer = b_isint := by unfold b_is_integer b_isint; rw [lit60]
theorem is_int (v : Int) : f_is_integer [iO v] = .ok (bO (iB v)) [none] := by
  have g1 : isG "int" (.int v) = some (bO true) := rfl
  have g2 : isG "bool" (.int v) = some (bO false) := rfl
  have hs : b_is_integer [some (iO v)] = .ret (bO (iB v)) [some (iO v)] := by
    rw [b_isint_is]
    unfold b_isint iB
    have eG : GG = T60 - 1 := rfl
    by_cases h1 : -T60 < v
    · have n1 : ¬ v < -GG := by omega
      by_cases h2 : v < T60
      · have n2 : ¬ GG < v := by omega
        simp [g1, g2, n1, n2, h1, h2]
      · have n2 : GG < v := by omega
        simp [g1, g2, n1, n2, h1, h2]
    · have n1 : v < -GG := by omega
      simp [g1, g2, n1, h1]
  exact ret_fn hs
theorem is_int_no {d : D} (h : match d with | .int _ => False | .ins _ _ => False | .exn _ _ => False | _ => True) : f_is_integer [.sh d] = .ok (bO false) [none] := by
  cases d with
  | int i => exact h.elim
  | ins c l => exact h.elim
  | exn c l => exact h.elim
  | bl b =>
    have g1 : isG "int" (.bl b) = some (bO true) := rfl
    have g2 : isG "bool" (.bl b) = some (bO true) := rfl
    exact ret_fn (ρ := [some (.sh (.bl b))]) (by rw [b_isint_is]; unfold b_isint; simp [g1, g2])
  | str x =>
    have g1 : isG "int" (.str x) = some (bO false) := rfl
    exact ret_fn (ρ := [some (.sh (.str x))]) (by rw [b_isint_is]; unfold b_isint; simp [g1])
  | non =>
    have g1 : isG "int" .non = some (bO false) := rfl
    exact ret_fn (ρ := [some (.sh .non)]) (by rw [b_isint_is]; unfold b_isint; simp [g1])
  | tup l =>
    have g1 : isG "int" (.tup l) = some (bO false) := rfl
    exact ret_fn (ρ := [some (.sh (.tup l))]) (by rw [b_isint_is]; unfold b_isint; simp [g1])
  | lst l =>
    have g1 : isG "int" (.lst l) = some (bO false) := rfl
    exact ret_fn (ρ := [some (.sh (.lst l))]) (by rw [b_isint_is]; unfold b_isint; simp [g1])
  | dct l =>
    have g1 : isG "int" (.dct l) = some (bO false) := rfl
    exact ret_fn (ρ := [some (.sh (.dct l))]) (by rw [b_isint_is]; unfold b_isint; simp [g1])
abbrev IB : Fs := (sIf (eB (e2 gNe (eN reprG (eCons (eCall f_is_integer [none] (eCons (eVar 2) eNil)) eNil)) (eN reprG (eCons (eChn gLt gLt (e1 negG (e2 powG (eK (.int 10)) (eK (.int 60)))) (eVar 2) (e2 powG (eK (.int 10)) (eK (.int 60)))) eNil))))
  (sRet (eK (.bl false)))
  sNil)
theorem ib {r0 r1 r3 : Option O} {v : Int} : IB [r0, r1, some (iO v), r3] = .nx [r0, r1, some (iO v), r3] := by
  have a := is_int v
  have ch : (eChn gLt gLt (e1 negG (e2 powG (eK (.int 10)) (eK (.int 60)))) (eVar 2) (e2 powG (eK (.int 10)) (eK (.int 60)))) [r0, r1, some (iO v), r3] = .ok (bO (iB v)) [r0, r1, some (iO v), r3] := by
    unfold iB
    by_cases h1 : -T60 < v
    · by_cases h2 : v < T60
      · simp [pow60, h1, h2]
      · simp [pow60, h1, h2]
    · simp [pow60, h1]
  unfold IB
  rw [ev_sIf, ev_eB, ev_e2, ev_eN, ev_eCons]
  have e0 : eCall f_is_integer [none] (eCons (eVar 2) eNil) [r0, r1, some (iO v), r3] = .ok (bO (iB v)) [r0, r1, some (iO v), r3] := by simp [a]
  rw [e0]
  simp only [bind_ok, ev_eNil, toDs_cons, sh_toD, toDs_nil, repr_b, fin_some]
  rw [ev_eN, ev_eCons, ch]
  simp only [bind_ok, ev_eNil, toDs_cons, sh_toD, toDs_nil, repr_b, fin_some, gNe_self, oB_bl, then_ok, Bool.false_eq_true, if_false, ev_sNil]
theorem ib_loop {r0 r1 r3 : Option O} : ∀ (l : List Int) (r2 : Option O), (r2 = none ∨ ∃ d, r2 = some (.sh d)) → ∃ q2, (q2 = none ∨ ∃ d, q2 = some (.sh d)) ∧ forG (tN 2) IB (l.map D.int) [r0, r1, r2, r3] = .nx [r0, r1, q2, r3]
  | [], r2, h => ⟨r2, h, rfl⟩
  | v :: l, r2, h => by
    obtain ⟨q2, hq, e⟩ := ib_loop (r0 := r0) (r1 := r1) (r3 := r3) l (some (iO v)) (.inr ⟨_, rfl⟩)
    refine ⟨q2, hq, ?_⟩
    rw [List.map_cons]
    unfold forG
    have et : tN 2 (.int v) [r0, r1, r2, r3] = some [r0, r1, some (iO v), r3] := by simp
    rw [et]
    dsimp only
    rw [ib]
    exact e
abbrev I1 : Fs := (sSet 1 (e2 mulG (eCall f__law_roll [some 0, none] (eLend 0 (eCons (e2 powG (eK (.int 10)) (eK (.int 6))) eNil))) (eCall f__law_pick [some 0, none] (eLend 0 (eCons (eLst (eCons (eK (.int 1)) (eCons (e1 negG (eK (.int 1))) (eCons (e2 powG (eK (.int 10)) (eK (.int 54))) (eCons (e1 negG (e2 powG (eK (.int 10)) (eK (.int 54)))) (eCons (e2 powG (eK (.int 10)) (eK (.int 55))) eNil)))))) eNil)))))
abbrev IF : Env' → Out (List D) := (iSeq (eLst (eCons (eVar 1) (eCons (e2 subG (e2 powG (eK (.int 10)) (eK (.int 60))) (eK (.int 1))) (eCons (e2 powG (eK (.int 10)) (eK (.int 60))) (eCons (e2 subG (eK (.int 1)) (e2 powG (eK (.int 10)) (eK (.int 60)))) (eCons (e1 negG (e2 powG (eK (.int 10)) (eK (.int 60)))) (eCons (eK (.int 0)) (eCons (e2 mulG (e2 powG (eK (.int 10)) (eK (.int 60))) (e2 powG (eK (.int 10)) (eK (.int 39)))) eNil)))))))))
abbrev I3 : Fs := (sSet 3 (eLst (eCons (eK (.bl true)) (eCons (eK (.bl false)) (eCons (eK .non) (eCons (eK (.str ("1" : Str))) (eCons (eTup (eCons (eK (.int 1)) eNil)) (eCons (eLst (eCons (eK (.int 1)) eNil)) (eCons eDnew (eCons (eTup eNil) (eCons (eK (.str ("" : Str))) (eCons (eN strG (eCons (eVar 1) eNil)) eNil))))))))))))
abbrev I4 : Fs := (sRet (e2 gEq (eLc (iSeq (eVar 3)) (tN 2) (eB (e2 gIsn (eCall f_is_integer [none] (eCons (eVar 2) eNil)) (eK (.bl false)))) (eVar 2) [2]) (eLst eNil)))
theorem b_ints_is : b__law_integers_right = sSeq I1 (sSeq (sFor IF (tN 2) IB) (sSeq I3 I4)) := rfl
theorem mul6039 : mulG (.int T60) (.int T39) = some (iO (T60 * T39)) := mulG_ok (by decide +kernel)
theorem integers {k : Nat} {o : O} (h : Tp k o) (hk : k + 10 < 2 ^ 40) : ∃ o', f__law_integers_right [o] = .ok (bO true) [some o'] ∧ Tp (k + 2) o' := by
  have hb : big = 1000000 := rfl
  obtain ⟨r, o1, h1, r0, r1, t1⟩ := roll (n := T6) h (by omega) (by decide) (by decide)
  obtain ⟨d2, o2, h2, m2, t2⟩ := pick_l (l := [D.int 1, .int (-1), .int T54, .int (-T54), .int T55]) t1 (by omega) (by decide) (by decide)
  obtain ⟨m, rfl, hm⟩ : ∃ m : Int, d2 = .int m ∧ m.natAbs < 2 ^ 200 := by
    simp only [List.mem_cons, List.not_mem_nil, or_false] at m2
    rcases m2 with rfl | rfl | rfl | rfl | rfl
    · exact ⟨_, rfl, by decide +kernel⟩
    · exact ⟨_, rfl, by decide +kernel⟩
    · exact ⟨_, rfl, by decide +kernel⟩
    · exact ⟨_, rfl, by decide +kernel⟩
    · exact ⟨_, rfl, by decide +kernel⟩
  simp only [List.map_cons, List.map_nil] at h2
  have hr : r.natAbs < 2 ^ 20 := by
    have e6 : T6 = 1000000 := by decide +kernel
    rw [e6] at r1
    omega
  have lg : ∀ (n : Nat) (b : Nat), n < 2 ^ b → n.log2 ≤ b := fun n b hn => by
    by_cases z : n = 0
    · rw [z]; simp
    · exact Nat.le_of_lt ((Nat.log2_lt z).mpr hn)
  have l1 := lg _ _ hr
  have l2 := lg _ _ hm
  have mu : mulG (.int r) (.int m) = some (iO (r * m)) := mulG_ok (by omega)
  have lm : (r * m).natAbs.log2 < 1920 := by
    have : (r * m).natAbs < 2 ^ 220 := by
      rw [Int.natAbs_mul, show (2 : Nat) ^ 220 = 2 ^ 20 * 2 ^ 200 by rw [← Nat.pow_add]]
      exact Nat.mul_lt_mul_of_lt_of_le hr (Nat.le_of_lt hm) (Nat.lt_of_le_of_lt (Nat.zero_le _) hm)
    have := lg _ _ this
    omega
  generalize r * m = v at *
  have st : strG [.int v] = some (sO (toString v)) := by
    show (if v.natAbs.log2 < 1920 then some (sO (toString v)) else none) = _
    exact if_pos lm
  have s1 : I1 [some o, none, none, none] = .nx [some o2, some (iO v), none, none] := by
    unfold I1; simp [pow6, h1, pow54, pow55, h2, mu]
  obtain ⟨q2, hq, e2'⟩ := ib_loop (r0 := some o2) (r1 := some (iO v)) (r3 := none) [v, T60 - 1, T60, 1 - T60, -T60, 0, T60 * T39] none (.inl rfl)
  have s2 : sFor IF (tN 2) IB [some o2, some (iO v), none, none] = .nx [some o2, some (iO v), q2, none] := by
    have fi : IF [some o2, some (iO v), none, none] = .ok ([v, T60 - 1, T60, 1 - T60, -T60, 0, T60 * T39].map D.int) [some o2, some (iO v), none, none] := by
      unfold IF
      simp [pow60, pow39, mul6039]
    rw [ev_sFor, fi]
    exact e2'
  let V : List D := [.bl true, .bl false, .non, .str (Str.ofString "1"), .tup [.int 1], .lst [.int 1], .dct [], .tup [], .str (Str.ofString ""), .str (toString v)]
  have s3 : I3 [some o2, some (iO v), q2, none] = .nx [some o2, some (iO v), q2, some (.lst [bO true, bO false, .sh .non, sO (Str.ofString "1"), .sh (.tup [.int 1]), .lst [iO 1], .dct [], .sh (.tup []), sO (Str.ofString ""), sO (toString v)])] := by
    have dn : ∀ ρ, eDnew ρ = .ok (.dct []) ρ := fun _ => rfl
    unfold I3; simp [st, dn]
  have tv : (O.lst [bO true, bO false, .sh .non, sO (Str.ofString "1"), .sh (.tup [.int 1]), .lst [iO 1], .dct [], .sh (.tup []), sO (Str.ofString ""), sO (toString v)]).toD = .lst V := rfl
  have nI : ∀ d ∈ V, f_is_integer [.sh d] = .ok (bO false) [none] := fun d hd => by
    simp only [V, List.mem_cons, List.not_mem_nil, or_false] at hd
    rcases hd with rfl | rfl | rfl | rfl | rfl | rfl | rfl | rfl | rfl | rfl <;> exact is_int_no trivial
  have fi : iSeq (eVar 3) [some o2, some (iO v), q2, some (.lst [bO true, bO false, .sh .non, sO (Str.ofString "1"), .sh (.tup [.int 1]), .lst [iO 1], .dct [], .sh (.tup []), sO (Str.ofString ""), sO (toString v)])] = .ok V [some o2, some (iO v), q2, some (.sh (.lst V))] := by
    rw [ev_iSeq, ev_eVar]
    simp only [List.getElem?_cons_succ, List.getElem?_cons_zero, bind_ok]
    rw [tv]
    simp
  have q := eLc_pure1 (i := 2) (fi := iSeq (eVar 3)) (tt := eB (e2 gIsn (eCall f_is_integer [none] (eCons (eVar 2) eNil)) (eK (.bl false)))) (te := eVar 2) (ρ := [some o2, some (iO v), q2, some (.sh (.lst V))]) (l := V) (p := fun _ => false) (v := fun d => .sh d) fi
    (by rcases hq with h | ⟨d, h⟩ <;> subst h <;> simp) (fun d hd => by
      have a := nI d hd
      have g : gIsn (.bl false) (.bl false) = some (bO false) := rfl
      simp [a, g]) (fun d hd hp => by cases hp) (by simp [V, hb])
  refine ⟨o2, ?_, t2⟩
  have hs : b__law_integers_right [some o, none, none, none] = .ret (bO true) [some o2, some (iO v), q2, some (.sh (.lst V))] := by
    rw [b_ints_is]
    rw [ev_sSeq, s1]; dsimp only
    rw [ev_sSeq, s2]; dsimp only
    rw [ev_sSeq, s3]; dsimp only
    unfold I4
    rw [ev_sRet, ev_e2, q]
    have ee : eLst eNil [some o2, some (iO v), q2, some (.sh (.lst V))] = .ok (.lst []) [some o2, some (iO v), q2, some (.sh (.lst V))] := by simp
    have ef : (V.filter fun _ => false).map (fun d => O.sh d) = [] := by simp
    simp only [bind_ok, ee, ef, toD_lst, toDs_nil, gEq_l0, fin_some, then_ok]
    rfl
  exact ret_fn (N := 4) (ks := [true]) (body := b__law_integers_right) (os := [o]) hs
end Kx
end

section
set_option maxRecDepth 100000
set_option maxHeartbeats 4000000
open PySem PySem.Spec PyProof.Rows L2 G
namespace Kx
noncomputable abbrev N1 : Fs := (sSet 2 (eCall f__law_tape [none, none] (eCons (eVar 0) (eCons (eVar 1) eNil))))
noncomputable abbrev N2 : Fs := (sIf (tOr' (tNt (eTru (eCall f__law_cell_right [some 2] (eLend 2 eNil)))) (tNt (eTru (eCall f__law_integers_right [some 2] (eLend 2 eNil)))))
  (sRet (eK (.bl false)))
  sNil)
noncomputable abbrev NB : Fs := sSeq N1 N2
noncomputable abbrev NF : Env' → Out (List D) := (iRng1 (eN maxG (eCons (eK (.int 1)) (eCons (eN minG (eCons (eK (.int 8)) (eCons (eN lenG (eCons (eVar 0) eNil)) eNil))) eNil))))
noncomputable abbrev E1 : Fs := (sSet 3 (eLc (iSeq (eLst (eCons (eK (.str ("a" : Str))) (eCons (eK (.str ("abcdefgh" : Str))) (eCons (eK (.str ("abcdefghi" : Str))) (eCons (eK (.str ("" : Str))) (eCons (eK (.str ("A" : Str))) (eCons (eK (.str ("a1" : Str))) (eCons (eK (.str ("a b" : Str))) (eCons (eK (.str ("-" : Str))) eNil)))))))))) (tN 4) ttY (eCall f_is_name [none] (eCons (eVar 4) eNil)) [4]))
noncomputable abbrev E2 : Fs := (sSet 5 (eN tupleG (eCons (eN listG (eCons (eK (.str ("abcdefghijklmnopq" : Str))) eNil)) eNil)))
noncomputable abbrev E3 : Fs := (sSet 3 (e2 addG (eVar 3) (eLst (eCons (eCall f_is_names [none] (eCons (eCut (eVar 5) none (some (eK (.int 16)))) eNil)) (eCons (eCall f_is_names [none] (eCons (eVar 5) eNil)) (eCons (eCall f_is_names [none] (eCons (eTup eNil) eNil)) (eCons (eCall f_is_name [none] (eCons (eK (.str ("ask\n" : Str))) eNil)) (eCons (eCall f_is_names [none] (eCons (eTup (eCons (eK (.str ("ask\n" : Str))) eNil)) eNil)) eNil))))))))
noncomputable abbrev E4 : Fs := (sSet 6 (eLst (eCons (eK (.bl true)) (eCons (eK (.bl true)) (eCons (eK (.bl false)) (eCons (eK (.bl false)) (eCons (eK (.bl false)) (eCons (eK (.bl false)) (eCons (eK (.bl false)) (eCons (eK (.bl false)) (eCons (eK (.bl true)) (eCons (eK (.bl false)) (eCons (eK (.bl true)) (eCons (eK (.bl false)) (eCons (eK (.bl false)) eNil)))))))))))))))
noncomputable abbrev E5 : Fs := (sRet (eAnd (e2 gEq (eVar 3) (eVar 6)) (e2 gEq (eLst (eCons (eK (.int 8)) (eCons (eK (.int 16)) eNil))) (eLst (eCons (eK (.int 8)) (eCons (eK (.int 16)) eNil))))))
theorem b_law_is : b_law = sSeq (sFor NF (tN 1) NB) (sSeq E1 (sSeq E2 (sSeq E3 (sSeq E4 E5)))) := rfl
theorem law_turn {ns : List Int} {j : Nat} (hj : j < 64) {x2 x3 x4 x5 x6 : Option O} : ∃ y2 : Option O, NB [some (.sh (.lst (ns.map D.int))), some (iO j), x2, x3, x4, x5, x6] = .nx [some (.sh (.lst (ns.map D.int))), some (iO j), y2, x3, x4, x5, x6] := by
  obtain ⟨o0, h0, t0⟩ := tape (ns := ns) hj
  obtain ⟨o1, h1, t1⟩ := cell t0 (by decide)
  obtain ⟨o2, h2, t2⟩ := integers t1 (by decide)
  refine ⟨some o2, ?_⟩
  have s1 : N1 [some (.sh (.lst (ns.map D.int))), some (iO j), x2, x3, x4, x5, x6] = .nx [some (.sh (.lst (ns.map D.int))), some (iO j), some o0, x3, x4, x5, x6] := by
    unfold N1; simp [h0]
  unfold NB
  rw [ev_sSeq, s1]; dsimp only
  unfold N2
  simp [h1, h2]
theorem law_loop {ns : List Int} {x3 x4 x5 x6 : Option O} : ∀ (n i : Nat), i + n ≤ 64 → ∀ (x1 x2 : Option O), ∃ y1 y2 : Option O, forG (tN 1) NB ((List.range' i n).map fun (k : Nat) => D.int k) [some (.sh (.lst (ns.map D.int))), x1, x2, x3, x4, x5, x6]
    = .nx [some (.sh (.lst (ns.map D.int))), y1, y2, x3, x4, x5, x6]
  | 0, i, _, x1, x2 => ⟨x1, x2, rfl⟩
  | n + 1, i, h, x1, x2 => by
    obtain ⟨y2, e⟩ := law_turn (ns := ns) (j := i) (by omega) (x2 := x2) (x3 := x3) (x4 := x4) (x5 := x5) (x6 := x6)
    obtain ⟨z1, z2, e'⟩ := law_loop (ns := ns) (x3 := x3) (x4 := x4) (x5 := x5) (x6 := x6) n (i + 1) (by omega) (some (iO i)) y2
    refine ⟨z1, z2, ?_⟩
    rw [List.range'_succ, List.map_cons]
    unfold forG
    have et : tN 1 (.int i) [some (.sh (.lst (ns.map D.int))), x1, x2, x3, x4, x5, x6] = some [some (.sh (.lst (ns.map D.int))), some (iO i), x2, x3, x4, x5, x6] := by simp
    rw [et]
    dsimp only
    rw [e]
    exact e'
def q17 : List D := (Str.ofString "abcdefghijklmnopq").cps.toList.map fun c => D.str ⟨#[c]⟩
theorem list_q : listG [.str (Str.ofString "abcdefghijklmnopq")] = some (OL q17) := by
  show (if (Str.ofString "abcdefghijklmnopq").length ≤ big then some (OL q17) else none) = _
  exact if_pos (by decide +kernel)
def words8 : List Str := [Str.ofString "a", Str.ofString "abcdefgh", Str.ofString "abcdefghi", Str.ofString "", Str.ofString "A", Str.ofString "a1", Str.ofString "a b", Str.ofString "-"]
theorem words8_ok : ∀ d ∈ words8.map D.str, okD d = true := by
  have : (words8.map D.str).all okD = true := by decide +kernel
  exact fun d hd => List.all_eq_true.mp this d hd
theorem words8_is : (words8.map D.str).map isnD = [true, true, false, false, false, false, false, false] := by decide +kernel
theorem a1 : f_is_names [.sh (.tup (cutL q17 none (some 16)))] = .ok (bO true) [none] := by
  have h := is_namesD (d := .tup (cutL q17 none (some 16))) (by decide +kernel)
  have : nsD (.tup (cutL q17 none (some 16))) = true := by decide +kernel
  rw [this] at h; exact h
theorem a2 : f_is_names [.sh (.tup q17)] = .ok (bO false) [none] := by
  have h := is_namesD (d := .tup q17) (by decide +kernel)
  have : nsD (.tup q17) = false := by decide +kernel
  rw [this] at h; exact h
theorem a3 : f_is_names [.sh (.tup [])] = .ok (bO true) [none] := by
  have h := is_namesD (d := .tup []) (by decide +kernel)
  have : nsD (.tup []) = true := by decide +kernel
  rw [this] at h; exact h
theorem a4 : f_is_name [sO (Str.ofString "ask\n")] = .ok (bO false) [none] := by
  have h := is_nameD (d := .str (Str.ofString "ask\n")) (by decide +kernel)
  have : isnD (.str (Str.ofString "ask\n")) = false := by decide +kernel
  rw [this] at h; exact h
theorem a5 : f_is_names [.sh (.tup [.str (Str.ofString "ask\n")])] = .ok (bO false) [none] := by
  have h := is_namesD (d := .tup [.str (Str.ofString "ask\n")]) (by decide +kernel)
  have : nsD (.tup [.str (Str.ofString "ask\n")]) = false := by decide +kernel
  rw [this] at h; exact h
theorem law_end {r0 r1 r2 : Option O} : ∃ ρ, sSeq E1 (sSeq E2 (sSeq E3 (sSeq E4 E5))) [r0, r1, r2, none, none, none, none] = .ret (.sh (.bl true)) ρ := by
  have q := eLc_pure1 (i := 4) (fi := (iSeq (eLst (eCons (eK (.str ("a" : Str))) (eCons (eK (.str ("abcdefgh" : Str))) (eCons (eK (.str ("abcdefghi" : Str))) (eCons (eK (.str ("" : Str))) (eCons (eK (.str ("A" : Str))) (eCons (eK (.str ("a1" : Str))) (eCons (eK (.str ("a b" : Str))) (eCons (eK (.str ("-" : Str))) eNil))))))))))) (tt := ttY) (te := eCall f_is_name [none] (eCons (eVar 4) eNil))
    (ρ0 := [r0, r1, r2, none, none, none, none]) (ρ := [r0, r1, r2, none, none, none, none]) (l := words8.map D.str) (p := fun _ => true) (v := fun d => bO (isnD d)) (by simp [words8]) (.inl rfl) (fun d _ => rfl) (fun d hd _ => by
      have a := is_nameD (words8_ok d hd)
      simp [a]) (by decide)
  rw [filter_true] at q
  have q' : (words8.map D.str).map (fun d => bO (isnD d)) = [bO true, bO true, bO false, bO false, bO false, bO false, bO false, bO false] := by
    have := congrArg (List.map bO) words8_is
    rw [List.map_map] at this
    exact this
  rw [q'] at q
  have s1 : E1 [r0, r1, r2, none, none, none, none] = .nx [r0, r1, r2, some (.lst [bO true, bO true, bO false, bO false, bO false, bO false, bO false, bO false]), none, none, none] := by
    unfold E1
    rw [ev_sSet, q]
    simp
  have tdO : ∀ l : List D, toDs (l.map O.sh) = l := toDs_sh
  have s2 : E2 [r0, r1, r2, some (.lst [bO true, bO true, bO false, bO false, bO false, bO false, bO false, bO false]), none, none, none] = .nx [r0, r1, r2, some (.lst [bO true, bO true, bO false, bO false, bO false, bO false, bO false, bO false]), none, some (.sh (.tup q17)), none] := by
    unfold E2
    simp [list_q, OL, tdO, tupleG_l]
  have cg : cutG (.tup q17) none (some 16) = some (.sh (.tup (cutL q17 none (some 16)))) := rfl
  have ad : addG (.lst [.bl true, .bl true, .bl false, .bl false, .bl false, .bl false, .bl false, .bl false]) (.lst [.bl true, .bl false, .bl true, .bl false, .bl false]) = some (OL [.bl true, .bl true, .bl false, .bl false, .bl false, .bl false, .bl false, .bl false, .bl true, .bl false, .bl true, .bl false, .bl false]) := addG_ll (by decide)
  have s3 : E3 [r0, r1, r2, some (.lst [bO true, bO true, bO false, bO false, bO false, bO false, bO false, bO false]), none, some (.sh (.tup q17)), none] = .nx [r0, r1, r2, some (OL [.bl true, .bl true, .bl false, .bl false, .bl false, .bl false, .bl false, .bl false, .bl true, .bl false, .bl true, .bl false, .bl false]), none, some (.sh (.tup q17)), none] := by
    unfold E3
    simp [ePart, cg, a1, a2, a3, a4, a5, ad]
  have s4 : E4 [r0, r1, r2, some (OL [.bl true, .bl true, .bl false, .bl false, .bl false, .bl false, .bl false, .bl false, .bl true, .bl false, .bl true, .bl false, .bl false]), none, some (.sh (.tup q17)), none] = .nx [r0, r1, r2, some (OL [.bl true, .bl true, .bl false, .bl false, .bl false, .bl false, .bl false, .bl false, .bl true, .bl false, .bl true, .bl false, .bl false]), none, some (.sh (.tup q17)), some (.lst [bO true, bO true, bO false, bO false, bO false, bO false, bO false, bO false, bO true, bO false, bO true, bO false, bO false])] := by
    unfold E4
    simp
  have g1 : gEq (.lst [.bl true, .bl true, .bl false, .bl false, .bl false, .bl false, .bl false, .bl false, .bl true, .bl false, .bl true, .bl false, .bl false]) (.lst [.bl true, .bl true, .bl false, .bl false, .bl false, .bl false, .bl false, .bl false, .bl true, .bl false, .bl true, .bl false, .bl false]) = some (bO true) := rfl
  have g2 : gEq (.lst [.int 8, .int 16]) (.lst [.int 8, .int 16]) = some (bO true) := rfl
  refine ⟨[r0, r1, r2, some (.sh (.lst [.bl true, .bl true, .bl false, .bl false, .bl false, .bl false, .bl false, .bl false, .bl true, .bl false, .bl true, .bl false, .bl false])), none, some (.sh (.tup q17)), some (.sh (.lst [.bl true, .bl true, .bl false, .bl false, .bl false, .bl false, .bl false, .bl false, .bl true, .bl false, .bl true, .bl false, .bl false]))], ?_⟩
  rw [ev_sSeq, s1]; dsimp only
  rw [ev_sSeq, s2]; dsimp only
  rw [ev_sSeq, s3]; dsimp only
  rw [ev_sSeq, s4]; dsimp only
  unfold E5 OL
  simp [g1, g2]
theorem pure_law (ns : List Int) (_h : ns.length ≤ 63) : ∃ ps, f_law [.sh (.lst (ns.map D.int))] = .ok (.sh (.bl true)) ps := by
  obtain ⟨m, hm, hm8⟩ : ∃ m : Nat, (if (if (ns.length : Int) < 8 then (ns.length : Int) else 8) > 1 then (if (ns.length : Int) < 8 then (ns.length : Int) else 8) else 1) = (m : Int) ∧ m ≤ 8 := by
    by_cases h6 : (ns.length : Int) < 8
    · rw [if_pos h6]
      by_cases h1 : (ns.length : Int) > 1
      · exact ⟨ns.length, by rw [if_pos h1], by omega⟩
      · exact ⟨1, by rw [if_neg h1]; rfl, by omega⟩
    · rw [if_neg h6]
      exact ⟨8, by rw [if_pos (by decide)]; rfl, Nat.le_refl _⟩
  obtain ⟨y1, y2, e⟩ := law_loop (ns := ns) (x3 := none) (x4 := none) (x5 := none) (x6 := none) m 0 (by omega) none none
  have hsm : sm (m : Int) = true := sm_small (by omega)
  have hf : NF [some (.sh (.lst (ns.map D.int))), none, none, none, none, none, none] = .ok ((List.range' 0 m).map fun (k : Nat) => D.int k) [some (.sh (.lst (ns.map D.int))), none, none, none, none, none, none] := by
    unfold NF
    simp only [ev_iRng1, ev_eN, ev_eCons, ev_eNil, ev_eVar, List.getElem?_cons_zero, bind_ok, toDs_cons, toDs_nil, sh_toD, lenG_l, List.length_map, fin_some, minG_ii, maxG_ii, hm, intD_int, hsm, if_true, Int.toNat_natCast, List.range_eq_range']
  obtain ⟨ρ, el⟩ := law_end (r0 := some (.sh (.lst (ns.map D.int)))) (r1 := y1) (r2 := y2)
  have hs : b_law [some (.sh (.lst (ns.map D.int))), none, none, none, none, none, none] = .ret (.sh (.bl true)) ρ := by
    rw [b_law_is, ev_sSeq, ev_sFor, hf]
    simp only [then_ok]
    rw [e]
    dsimp only
    exact el
  exact ⟨_, ret_fn hs⟩
end Kx
end

section
set_option maxRecDepth 100000
set_option maxHeartbeats 4000000
open PySem PySem.Spec PyProof.Rows L2 G
namespace Kx
end Kx
namespace Kx
theorem all_mk {P : Program} {w : World} {K : PySem.W.Frag} {h : Heap} {mg : Str → Option Value} {fa : Addr} (X : K.In h) (G : h.Ns mainGlobals mg) (hfa : mg "law" = some (.ref fa))
    {a_is_name a_are_different_names a_is_names a__law_tape a__law_roll a__law_pick a__law_word_drawn a__law_words_drawn a__law_is_name a__law_is_names a__law_near a__law_cell_right a_is_integer a__law_integers_right a_law : Addr}
    {od_is_name an_is_name : Option Addr} {sl_is_name : Array (Option Value)} {oc_is_name kV_is_name dc_is_name pm_is_name cd_is_name ct_is_name : Value}
    {od_are_different_names an_are_different_names : Option Addr} {sl_are_different_names : Array (Option Value)} {oc_are_different_names kV_are_different_names dc_are_different_names pm_are_different_names cd_are_different_names ct_are_different_names : Value}
    {od_is_names an_is_names : Option Addr} {sl_is_names : Array (Option Value)} {oc_is_names kV_is_names dc_is_names pm_is_names cd_is_names ct_is_names : Value}
    {od__law_tape an__law_tape : Option Addr} {sl__law_tape : Array (Option Value)} {oc__law_tape kV__law_tape dc__law_tape pm__law_tape cd__law_tape ct__law_tape : Value}
    {od__law_roll an__law_roll : Option Addr} {sl__law_roll : Array (Option Value)} {oc__law_roll kV__law_roll dc__law_roll pm__law_roll cd__law_roll ct__law_roll : Value}
    {od__law_pick an__law_pick : Option Addr} {sl__law_pick : Array (Option Value)} {oc__law_pick kV__law_pick dc__law_pick pm__law_pick cd__law_pick ct__law_pick : Value}
    {od__law_word_drawn an__law_word_drawn : Option Addr} {sl__law_word_drawn : Array (Option Value)} {oc__law_word_drawn kV__law_word_drawn dc__law_word_drawn pm__law_word_drawn cd__law_word_drawn ct__law_word_drawn : Value}
    {od__law_words_drawn an__law_words_drawn : Option Addr} {sl__law_words_drawn : Array (Option Value)} {oc__law_words_drawn kV__law_words_drawn dc__law_words_drawn pm__law_words_drawn cd__law_words_drawn ct__law_words_drawn : Value}
    {od__law_is_name an__law_is_name : Option Addr} {sl__law_is_name : Array (Option Value)} {oc__law_is_name kV__law_is_name dc__law_is_name pm__law_is_name cd__law_is_name ct__law_is_name : Value}
    {od__law_is_names an__law_is_names : Option Addr} {sl__law_is_names : Array (Option Value)} {oc__law_is_names kV__law_is_names dc__law_is_names pm__law_is_names cd__law_is_names ct__law_is_names : Value}
    {od__law_near an__law_near : Option Addr} {sl__law_near : Array (Option Value)} {oc__law_near kV__law_near dc__law_near pm__law_near cd__law_near ct__law_near : Value}
    {od__law_cell_right an__law_cell_right : Option Addr} {sl__law_cell_right : Array (Option Value)} {oc__law_cell_right kV__law_cell_right dc__law_cell_right pm__law_cell_right cd__law_cell_right ct__law_cell_right : Value}
    {od_is_integer an_is_integer : Option Addr} {sl_is_integer : Array (Option Value)} {oc_is_integer kV_is_integer dc_is_integer pm_is_integer cd_is_integer ct_is_integer : Value}
    {od__law_integers_right an__law_integers_right : Option Addr} {sl__law_integers_right : Array (Option Value)} {oc__law_integers_right kV__law_integers_right dc__law_integers_right pm__law_integers_right cd__law_integers_right ct__law_integers_right : Value}
    {od_law an_law : Option Addr} {sl_law : Array (Option Value)} {oc_law kV_law dc_law pm_law cd_law ct_law : Value}
    {tk_GREATEST : Tok}
    {tk_MAX_LETTERS : Tok}
    {tk_MAX_NAMES : Tok}
    (g_is_name : PySem.W.nsIn K mainGlobals "is_name" = some (some (.ref a_is_name)))
    (l_is_name : K.lookup a_is_name = some ⟨oc_is_name, od_is_name, .func (PySem.W.fnOf "is_name" "is_name" (defArgs s_is_name) (defBody s_is_name) (defScope s_is_name) .none kV_is_name dc_is_name pm_is_name an_is_name cd_is_name ct_is_name), sl_is_name⟩)
    (c0_is_name : PySem.W.codeIn K cd_is_name "is_name" = true)
    (p_is_name : PySem.W.keepIn K (.ref a_is_name) = true)
    (g_are_different_names : PySem.W.nsIn K mainGlobals "are_different_names" = some (some (.ref a_are_different_names)))
    (l_are_different_names : K.lookup a_are_different_names = some ⟨oc_are_different_names, od_are_different_names, .func (PySem.W.fnOf "are_different_names" "are_different_names" (defArgs s_are_different_names) (defBody s_are_different_names) (defScope s_are_different_names) .none kV_are_different_names dc_are_different_names pm_are_different_names an_are_different_names cd_are_different_names ct_are_different_names), sl_are_different_names⟩)
    (c0_are_different_names : PySem.W.codeIn K cd_are_different_names "are_different_names" = true)
    (p_are_different_names : PySem.W.keepIn K (.ref a_are_different_names) = true)
    (g_is_names : PySem.W.nsIn K mainGlobals "is_names" = some (some (.ref a_is_names)))
    (l_is_names : K.lookup a_is_names = some ⟨oc_is_names, od_is_names, .func (PySem.W.fnOf "is_names" "is_names" (defArgs s_is_names) (defBody s_is_names) (defScope s_is_names) .none kV_is_names dc_is_names pm_is_names an_is_names cd_is_names ct_is_names), sl_is_names⟩)
    (c0_is_names : PySem.W.codeIn K cd_is_names "is_names" = true)
    (p_is_names : PySem.W.keepIn K (.ref a_is_names) = true)
    (g__law_tape : PySem.W.nsIn K mainGlobals "_law_tape" = some (some (.ref a__law_tape)))
    (l__law_tape : K.lookup a__law_tape = some ⟨oc__law_tape, od__law_tape, .func (PySem.W.fnOf "_law_tape" "_law_tape" (defArgs s__law_tape) (defBody s__law_tape) (defScope s__law_tape) .none kV__law_tape dc__law_tape pm__law_tape an__law_tape cd__law_tape ct__law_tape), sl__law_tape⟩)
    (c0__law_tape : PySem.W.codeIn K cd__law_tape "_law_tape" = true)
    (p__law_tape : PySem.W.keepIn K (.ref a__law_tape) = true)
    (g__law_roll : PySem.W.nsIn K mainGlobals "_law_roll" = some (some (.ref a__law_roll)))
    (l__law_roll : K.lookup a__law_roll = some ⟨oc__law_roll, od__law_roll, .func (PySem.W.fnOf "_law_roll" "_law_roll" (defArgs s__law_roll) (defBody s__law_roll) (defScope s__law_roll) .none kV__law_roll dc__law_roll pm__law_roll an__law_roll cd__law_roll ct__law_roll), sl__law_roll⟩)
    (c0__law_roll : PySem.W.codeIn K cd__law_roll "_law_roll" = true)
    (p__law_roll : PySem.W.keepIn K (.ref a__law_roll) = true)
    (g__law_pick : PySem.W.nsIn K mainGlobals "_law_pick" = some (some (.ref a__law_pick)))
    (l__law_pick : K.lookup a__law_pick = some ⟨oc__law_pick, od__law_pick, .func (PySem.W.fnOf "_law_pick" "_law_pick" (defArgs s__law_pick) (defBody s__law_pick) (defScope s__law_pick) .none kV__law_pick dc__law_pick pm__law_pick an__law_pick cd__law_pick ct__law_pick), sl__law_pick⟩)
    (c0__law_pick : PySem.W.codeIn K cd__law_pick "_law_pick" = true)
    (p__law_pick : PySem.W.keepIn K (.ref a__law_pick) = true)
    (g__law_word_drawn : PySem.W.nsIn K mainGlobals "_law_word_drawn" = some (some (.ref a__law_word_drawn)))
    (l__law_word_drawn : K.lookup a__law_word_drawn = some ⟨oc__law_word_drawn, od__law_word_drawn, .func (PySem.W.fnOf "_law_word_drawn" "_law_word_drawn" (defArgs s__law_word_drawn) (defBody s__law_word_drawn) (defScope s__law_word_drawn) .none kV__law_word_drawn dc__law_word_drawn pm__law_word_drawn an__law_word_drawn cd__law_word_drawn ct__law_word_drawn), sl__law_word_drawn⟩)
    (c0__law_word_drawn : PySem.W.codeIn K cd__law_word_drawn "_law_word_drawn" = true)
    (p__law_word_drawn : PySem.W.keepIn K (.ref a__law_word_drawn) = true)
    (g__law_words_drawn : PySem.W.nsIn K mainGlobals "_law_words_drawn" = some (some (.ref a__law_words_drawn)))
    (l__law_words_drawn : K.lookup a__law_words_drawn = some ⟨oc__law_words_drawn, od__law_words_drawn, .func (PySem.W.fnOf "_law_words_drawn" "_law_words_drawn" (defArgs s__law_words_drawn) (defBody s__law_words_drawn) (defScope s__law_words_drawn) .none kV__law_words_drawn dc__law_words_drawn pm__law_words_drawn an__law_words_drawn cd__law_words_drawn ct__law_words_drawn), sl__law_words_drawn⟩)
    (c0__law_words_drawn : PySem.W.codeIn K cd__law_words_drawn "_law_words_drawn" = true)
    (p__law_words_drawn : PySem.W.keepIn K (.ref a__law_words_drawn) = true)
    (g__law_is_name : PySem.W.nsIn K mainGlobals "_law_is_name" = some (some (.ref a__law_is_name)))
    (l__law_is_name : K.lookup a__law_is_name = some ⟨oc__law_is_name, od__law_is_name, .func (PySem.W.fnOf "_law_is_name" "_law_is_name" (defArgs s__law_is_name) (defBody s__law_is_name) (defScope s__law_is_name) .none kV__law_is_name dc__law_is_name pm__law_is_name an__law_is_name cd__law_is_name ct__law_is_name), sl__law_is_name⟩)
    (c0__law_is_name : PySem.W.codeIn K cd__law_is_name "_law_is_name" = true)
    (p__law_is_name : PySem.W.keepIn K (.ref a__law_is_name) = true)
    (g__law_is_names : PySem.W.nsIn K mainGlobals "_law_is_names" = some (some (.ref a__law_is_names)))
    (l__law_is_names : K.lookup a__law_is_names = some ⟨oc__law_is_names, od__law_is_names, .func (PySem.W.fnOf "_law_is_names" "_law_is_names" (defArgs s__law_is_names) (defBody s__law_is_names) (defScope s__law_is_names) .none kV__law_is_names dc__law_is_names pm__law_is_names an__law_is_names cd__law_is_names ct__law_is_names), sl__law_is_names⟩)
    (c0__law_is_names : PySem.W.codeIn K cd__law_is_names "_law_is_names" = true)
    (p__law_is_names : PySem.W.keepIn K (.ref a__law_is_names) = true)
    (g__law_near : PySem.W.nsIn K mainGlobals "_law_near" = some (some (.ref a__law_near)))
    (l__law_near : K.lookup a__law_near = some ⟨oc__law_near, od__law_near, .func (PySem.W.fnOf "_law_near" "_law_near" (defArgs s__law_near) (defBody s__law_near) (defScope s__law_near) .none kV__law_near dc__law_near pm__law_near an__law_near cd__law_near ct__law_near), sl__law_near⟩)
    (c0__law_near : PySem.W.codeIn K cd__law_near "_law_near" = true)
    (p__law_near : PySem.W.keepIn K (.ref a__law_near) = true)
    (g__law_cell_right : PySem.W.nsIn K mainGlobals "_law_cell_right" = some (some (.ref a__law_cell_right)))
    (l__law_cell_right : K.lookup a__law_cell_right = some ⟨oc__law_cell_right, od__law_cell_right, .func (PySem.W.fnOf "_law_cell_right" "_law_cell_right" (defArgs s__law_cell_right) (defBody s__law_cell_right) (defScope s__law_cell_right) .none kV__law_cell_right dc__law_cell_right pm__law_cell_right an__law_cell_right cd__law_cell_right ct__law_cell_right), sl__law_cell_right⟩)
    (c0__law_cell_right : PySem.W.codeIn K cd__law_cell_right "_law_cell_right" = true)
    (p__law_cell_right : PySem.W.keepIn K (.ref a__law_cell_right) = true)
    (g_is_integer : PySem.W.nsIn K mainGlobals "is_integer" = some (some (.ref a_is_integer)))
    (l_is_integer : K.lookup a_is_integer = some ⟨oc_is_integer, od_is_integer, .func (PySem.W.fnOf "is_integer" "is_integer" (defArgs s_is_integer) (defBody s_is_integer) (defScope s_is_integer) .none kV_is_integer dc_is_integer pm_is_integer an_is_integer cd_is_integer ct_is_integer), sl_is_integer⟩)
    (c0_is_integer : PySem.W.codeIn K cd_is_integer "is_integer" = true)
    (p_is_integer : PySem.W.keepIn K (.ref a_is_integer) = true)
    (g__law_integers_right : PySem.W.nsIn K mainGlobals "_law_integers_right" = some (some (.ref a__law_integers_right)))
    (l__law_integers_right : K.lookup a__law_integers_right = some ⟨oc__law_integers_right, od__law_integers_right, .func (PySem.W.fnOf "_law_integers_right" "_law_integers_right" (defArgs s__law_integers_right) (defBody s__law_integers_right) (defScope s__law_integers_right) .none kV__law_integers_right dc__law_integers_right pm__law_integers_right an__law_integers_right cd__law_integers_right ct__law_integers_right), sl__law_integers_right⟩)
    (c0__law_integers_right : PySem.W.codeIn K cd__law_integers_right "_law_integers_right" = true)
    (p__law_integers_right : PySem.W.keepIn K (.ref a__law_integers_right) = true)
    (g_law : PySem.W.nsIn K mainGlobals "law" = some (some (.ref a_law)))
    (l_law : K.lookup a_law = some ⟨oc_law, od_law, .func (PySem.W.fnOf "law" "law" (defArgs s_law) (defBody s_law) (defScope s_law) .none kV_law dc_law pm_law an_law cd_law ct_law), sl_law⟩)
    (c0_law : PySem.W.codeIn K cd_law "law" = true)
    (p_law : PySem.W.keepIn K (.ref a_law) = true)
    (z_abs : PySem.W.nsIn K mainGlobals "abs" = some none)
    (z_all : PySem.W.nsIn K mainGlobals "all" = some none)
    (z_bool : PySem.W.nsIn K mainGlobals "bool" = some none)
    (z_int : PySem.W.nsIn K mainGlobals "int" = some none)
    (z_isinstance : PySem.W.nsIn K mainGlobals "isinstance" = some none)
    (z_len : PySem.W.nsIn K mainGlobals "len" = some none)
    (z_list : PySem.W.nsIn K mainGlobals "list" = some none)
    (z_max : PySem.W.nsIn K mainGlobals "max" = some none)
    (z_min : PySem.W.nsIn K mainGlobals "min" = some none)
    (z_range : PySem.W.nsIn K mainGlobals "range" = some none)
    (z_repr : PySem.W.nsIn K mainGlobals "repr" = some none)
    (z_set : PySem.W.nsIn K mainGlobals "set" = some none)
    (z_sorted : PySem.W.nsIn K mainGlobals "sorted" = some none)
    (z_str : PySem.W.nsIn K mainGlobals "str" = some none)
    (z_tuple : PySem.W.nsIn K mainGlobals "tuple" = some none)
    (v_GREATEST : PySem.W.nsIn K mainGlobals "GREATEST" = some (some (.int 999999999999999999999999999999999999999999999999999999999999 tk_GREATEST)))
    (v_MAX_LETTERS : PySem.W.nsIn K mainGlobals "MAX_LETTERS" = some (some (.int 8 tk_MAX_LETTERS)))
    (v_MAX_NAMES : PySem.W.nsIn K mainGlobals "MAX_NAMES" = some (some (.int 16 tk_MAX_NAMES)))
    : ∃ fd : FuncData, (∀ (s : Shared) (v : Value), BindsTo s fd ⟨[v], []⟩ [("script", v)]) ∧ ∀ base : Heap, K.In base → base.Ns mainGlobals mg → FnOk P w K mg base (L2.CX P w) 6 fa fd ["script"] (spLaw K 63) := by
  have e := hfa.symm.trans (PySem.W.mg_of X G g_law)
  cases e
  let C : Cn := { K := K, cls := fun _ => 0, ecl := fun n => match n with  | _ => .none, fld := fun n => match n with  | _ => [] }
  have F_is_name := fun_mk (st := s_is_name) l_is_name c0_is_name p_is_name
  have B_is_name := F_is_name.binds (ps := ["value"]) fun _ _ _ _ _ _ us hl => match us, hl with | [_], _ => rfl
  have F_are_different_names := fun_mk (st := s_are_different_names) l_are_different_names c0_are_different_names p_are_different_names
  have B_are_different_names := F_are_different_names.binds (ps := ["values"]) fun _ _ _ _ _ _ us hl => match us, hl with | [_], _ => rfl
  have F_is_names := fun_mk (st := s_is_names) l_is_names c0_is_names p_is_names
  have B_is_names := F_is_names.binds (ps := ["value"]) fun _ _ _ _ _ _ us hl => match us, hl with | [_], _ => rfl
  have F__law_tape := fun_mk (st := s__law_tape) l__law_tape c0__law_tape p__law_tape
  have B__law_tape := F__law_tape.binds (ps := ["script", "spot"]) fun _ _ _ _ _ _ us hl => match us, hl with | [_, _], _ => rfl
  have F__law_roll := fun_mk (st := s__law_roll) l__law_roll c0__law_roll p__law_roll
  have B__law_roll := F__law_roll.binds (ps := ["tape", "total"]) fun _ _ _ _ _ _ us hl => match us, hl with | [_, _], _ => rfl
  have F__law_pick := fun_mk (st := s__law_pick) l__law_pick c0__law_pick p__law_pick
  have B__law_pick := F__law_pick.binds (ps := ["tape", "items"]) fun _ _ _ _ _ _ us hl => match us, hl with | [_, _], _ => rfl
  have F__law_word_drawn := fun_mk (st := s__law_word_drawn) l__law_word_drawn c0__law_word_drawn p__law_word_drawn
  have B__law_word_drawn := F__law_word_drawn.binds (ps := ["tape"]) fun _ _ _ _ _ _ us hl => match us, hl with | [_], _ => rfl
  have F__law_words_drawn := fun_mk (st := s__law_words_drawn) l__law_words_drawn c0__law_words_drawn p__law_words_drawn
  have B__law_words_drawn := F__law_words_drawn.binds (ps := ["tape", "lots"]) fun _ _ _ _ _ _ us hl => match us, hl with | [_, _], _ => rfl
  have F__law_is_name := fun_mk (st := s__law_is_name) l__law_is_name c0__law_is_name p__law_is_name
  have B__law_is_name := F__law_is_name.binds (ps := ["value"]) fun _ _ _ _ _ _ us hl => match us, hl with | [_], _ => rfl
  have F__law_is_names := fun_mk (st := s__law_is_names) l__law_is_names c0__law_is_names p__law_is_names
  have B__law_is_names := F__law_is_names.binds (ps := ["value"]) fun _ _ _ _ _ _ us hl => match us, hl with | [_], _ => rfl
  have F__law_near := fun_mk (st := s__law_near) l__law_near c0__law_near p__law_near
  have B__law_near := F__law_near.binds (ps := ["tape", "name"]) fun _ _ _ _ _ _ us hl => match us, hl with | [_, _], _ => rfl
  have F__law_cell_right := fun_mk (st := s__law_cell_right) l__law_cell_right c0__law_cell_right p__law_cell_right
  have B__law_cell_right := F__law_cell_right.binds (ps := ["tape"]) fun _ _ _ _ _ _ us hl => match us, hl with | [_], _ => rfl
  have F_is_integer := fun_mk (st := s_is_integer) l_is_integer c0_is_integer p_is_integer
  have B_is_integer := F_is_integer.binds (ps := ["value"]) fun _ _ _ _ _ _ us hl => match us, hl with | [_], _ => rfl
  have F__law_integers_right := fun_mk (st := s__law_integers_right) l__law_integers_right c0__law_integers_right p__law_integers_right
  have B__law_integers_right := F__law_integers_right.binds (ps := ["tape"]) fun _ _ _ _ _ _ us hl => match us, hl with | [_], _ => rfl
  have F_law := fun_mk (st := s_law) l_law c0_law p_law
  have T : Tx P K mg C := {
    hK := rfl
    d_is_name := ⟨a_is_name, _, F_is_name, PySem.W.mg_of X G g_is_name, B_is_name⟩
    d_are_different_names := ⟨a_are_different_names, _, F_are_different_names, PySem.W.mg_of X G g_are_different_names, B_are_different_names⟩
    d_is_names := ⟨a_is_names, _, F_is_names, PySem.W.mg_of X G g_is_names, B_is_names⟩
    d__law_tape := ⟨a__law_tape, _, F__law_tape, PySem.W.mg_of X G g__law_tape, B__law_tape⟩
    d__law_roll := ⟨a__law_roll, _, F__law_roll, PySem.W.mg_of X G g__law_roll, B__law_roll⟩
    d__law_pick := ⟨a__law_pick, _, F__law_pick, PySem.W.mg_of X G g__law_pick, B__law_pick⟩
    d__law_word_drawn := ⟨a__law_word_drawn, _, F__law_word_drawn, PySem.W.mg_of X G g__law_word_drawn, B__law_word_drawn⟩
    d__law_words_drawn := ⟨a__law_words_drawn, _, F__law_words_drawn, PySem.W.mg_of X G g__law_words_drawn, B__law_words_drawn⟩
    d__law_is_name := ⟨a__law_is_name, _, F__law_is_name, PySem.W.mg_of X G g__law_is_name, B__law_is_name⟩
    d__law_is_names := ⟨a__law_is_names, _, F__law_is_names, PySem.W.mg_of X G g__law_is_names, B__law_is_names⟩
    d__law_near := ⟨a__law_near, _, F__law_near, PySem.W.mg_of X G g__law_near, B__law_near⟩
    d__law_cell_right := ⟨a__law_cell_right, _, F__law_cell_right, PySem.W.mg_of X G g__law_cell_right, B__law_cell_right⟩
    d_is_integer := ⟨a_is_integer, _, F_is_integer, PySem.W.mg_of X G g_is_integer, B_is_integer⟩
    d__law_integers_right := ⟨a__law_integers_right, _, F__law_integers_right, PySem.W.mg_of X G g__law_integers_right, B__law_integers_right⟩
    n_abs := PySem.W.mg_none_of X G z_abs
    n_all := PySem.W.mg_none_of X G z_all
    n_bool := PySem.W.mg_none_of X G z_bool
    n_int := PySem.W.mg_none_of X G z_int
    n_isinstance := PySem.W.mg_none_of X G z_isinstance
    n_len := PySem.W.mg_none_of X G z_len
    n_list := PySem.W.mg_none_of X G z_list
    n_max := PySem.W.mg_none_of X G z_max
    n_min := PySem.W.mg_none_of X G z_min
    n_range := PySem.W.mg_none_of X G z_range
    n_repr := PySem.W.mg_none_of X G z_repr
    n_set := PySem.W.mg_none_of X G z_set
    n_sorted := PySem.W.mg_none_of X G z_sorted
    n_str := PySem.W.mg_none_of X G z_str
    n_tuple := PySem.W.mg_none_of X G z_tuple
    c_GREATEST := ⟨tk_GREATEST, PySem.W.mg_of X G v_GREATEST⟩
    c_MAX_LETTERS := ⟨tk_MAX_LETTERS, PySem.W.mg_of X G v_MAX_LETTERS⟩
    c_MAX_NAMES := ⟨tk_MAX_NAMES, PySem.W.mg_of X G v_MAX_NAMES⟩
  }
  exact ⟨_, fun s v => .of_eq rfl, fun base _ _ => k_law T F_law pure_law⟩
end Kx
open PySem PySem.W PyProof.Rows in
set_option maxRecDepth 100000 in
set_option maxHeartbeats 0 in
theorem PySem.Challenge.cw_groupclocks_k01_integers_and_names_judge_holds : PySem.Challenge.rw_groupclocks_k01_integers_and_names_judge.Holds := by
  w_on; o_law; k_head; (case hw => w_witness2)
  k_fill
  refine G.walk_D (l := PySem.Challenge.rw_groupclocks_k01_integers_and_names_judge) (k := 6) (n := 63) (x := "script") rfl (by decide) rfl ⟨rfl, by decide, by decide⟩ (fun w h Y => PySem.W.kIn_of Y) ?F
  case F =>
    intro w mg fa h KX G hmg
    refine' Kx.all_mk KX G hmg ?g_is_name ?l_is_name ?c0_is_name ?p_is_name ?g_are_different_names ?l_are_different_names ?c0_are_different_names ?p_are_different_names ?g_is_names ?l_is_names ?c0_is_names ?p_is_names ?g__law_tape ?l__law_tape ?c0__law_tape ?p__law_tape ?g__law_roll ?l__law_roll ?c0__law_roll ?p__law_roll ?g__law_pick ?l__law_pick ?c0__law_pick ?p__law_pick ?g__law_word_drawn ?l__law_word_drawn ?c0__law_word_drawn ?p__law_word_drawn ?g__law_words_drawn ?l__law_words_drawn ?c0__law_words_drawn ?p__law_words_drawn ?g__law_is_name ?l__law_is_name ?c0__law_is_name ?p__law_is_name ?g__law_is_names ?l__law_is_names ?c0__law_is_names ?p__law_is_names ?g__law_near ?l__law_near ?c0__law_near ?p__law_near ?g__law_cell_right ?l__law_cell_right ?c0__law_cell_right ?p__law_cell_right ?g_is_integer ?l_is_integer ?c0_is_integer ?p_is_integer ?g__law_integers_right ?l__law_integers_right ?c0__law_integers_right ?p__law_integers_right ?g_law ?l_law ?c0_law ?p_law ?z_abs ?z_all ?z_bool ?z_int ?z_isinstance ?z_len ?z_list ?z_max ?z_min ?z_range ?z_repr ?z_set ?z_sorted ?z_str ?z_tuple ?v_GREATEST ?v_MAX_LETTERS ?v_MAX_NAMES
    (case g_is_name => k_is)
    (case l_is_name => k_is)
    (case c0_is_name => k_is)
    (case p_is_name => k_is)
    (case g_are_different_names => k_is)
    (case l_are_different_names => k_is)
    (case c0_are_different_names => k_is)
    (case p_are_different_names => k_is)
    (case g_is_names => k_is)
    (case l_is_names => k_is)
    (case c0_is_names => k_is)
    (case p_is_names => k_is)
    (case g__law_tape => k_is)
    (case l__law_tape => k_is)
    (case c0__law_tape => k_is)
    (case p__law_tape => k_is)
    (case g__law_roll => k_is)
    (case l__law_roll => k_is)
    (case c0__law_roll => k_is)
    (case p__law_roll => k_is)
    (case g__law_pick => k_is)
    (case l__law_pick => k_is)
    (case c0__law_pick => k_is)
    (case p__law_pick => k_is)
    (case g__law_word_drawn => k_is)
    (case l__law_word_drawn => k_is)
    (case c0__law_word_drawn => k_is)
    (case p__law_word_drawn => k_is)
    (case g__law_words_drawn => k_is)
    (case l__law_words_drawn => k_is)
    (case c0__law_words_drawn => k_is)
    (case p__law_words_drawn => k_is)
    (case g__law_is_name => k_is)
    (case l__law_is_name => k_is)
    (case c0__law_is_name => k_is)
    (case p__law_is_name => k_is)
    (case g__law_is_names => k_is)
    (case l__law_is_names => k_is)
    (case c0__law_is_names => k_is)
    (case p__law_is_names => k_is)
    (case g__law_near => k_is)
    (case l__law_near => k_is)
    (case c0__law_near => k_is)
    (case p__law_near => k_is)
    (case g__law_cell_right => k_is)
    (case l__law_cell_right => k_is)
    (case c0__law_cell_right => k_is)
    (case p__law_cell_right => k_is)
    (case g_is_integer => k_is)
    (case l_is_integer => k_is)
    (case c0_is_integer => k_is)
    (case p_is_integer => k_is)
    (case g__law_integers_right => k_is)
    (case l__law_integers_right => k_is)
    (case c0__law_integers_right => k_is)
    (case p__law_integers_right => k_is)
    (case g_law => k_is)
    (case l_law => k_is)
    (case c0_law => k_is)
    (case p_law => k_is)
    (case z_abs => k_is)
    (case z_all => k_is)
    (case z_bool => k_is)
    (case z_int => k_is)
    (case z_isinstance => k_is)
    (case z_len => k_is)
    (case z_list => k_is)
    (case z_max => k_is)
    (case z_min => k_is)
    (case z_range => k_is)
    (case z_repr => k_is)
    (case z_set => k_is)
    (case z_sorted => k_is)
    (case z_str => k_is)
    (case z_tuple => k_is)
    (case v_GREATEST => k_is)
    (case v_MAX_LETTERS => k_is)
    (case v_MAX_NAMES => k_is)
end
