import PyProof.Rows.All
import HandS.ForExc
import HandS.Slots
import HandS.Lambda
import KE.KEqNest
import HandS.Wide
import HandS.Text
import HandS.IsInst
import HandS.More
import HandS.TupLen
import HandS.Style
import PyProof.Rows.StrTemp
import HandS.Iter
import HandS.Comp
import HandS.DictComp
import HandS.ExcCtx
import KE.KExcSuper
import HandS.RaiseFrom
import HandS.TryOnly
import HandS.EndTab
import HandS.Strs
import HandS.Set
import HandS.SetTxt0
import HandS.SetFor
import KE.SortData
import HandS.TryMany
import HandS.ExcField
import HandS.SlotsOwn
import HandS.ClsMeth
import PyProof.InstNe
import KE.KCallOwn
import KE.KFmtOwn
import HandS.FStr
import HandS.ReplaceLit
import HandS.SuiteRaise
import KE.KTryMore
import PyProof.Rows.StrSplitAre
import PyProof.Rows.StrLawsPart
import KE.KStrOpen
import PyProof.StrLawsReplace
import KE.KExcLine
import PySem.Challenge.RW_groupclocks_k05_actions_and_their_lines
set_option Elab.async false
set_option linter.all false
section
set_option maxRecDepth 100000
set_option maxHeartbeats 2000000
open PySem PySem.Spec PyProof.Rows L2
namespace G
/-! data, owned data, environments -/
abbrev Kd := Sum Key (List Key)
inductive D where
  | non | bl (b : Bool) | int (i : Int) | str (x : Str)
  | tup (l : List D) | lst (l : List D) | dct (l : List (Kd × D)) | ins (c : Nat) (l : List D) | exn (c : Nat) (l : List D) | cl (c : Nat)
inductive O where
  | sh (d : D) | lst (l : List O) | dct (l : List (Kd × O)) | ins (c : Nat) (l : List O)
mutual
def O.toD : O → D
  | .sh d => d
  | .lst l => .lst (toDs l)
  | .dct l => .dct (toDk l)
  | .ins c l => .ins c (toDs l)
def toDs : List O → List D
  | [] => []
  | o :: l => o.toD :: toDs l
def toDk : List (Kd × O) → List (Kd × D)
  | [] => []
  | (k, o) :: l => (k, o.toD) :: toDk l
end
abbrev Env' := List (Option O)
/-- what the text has: the written part, the classes' addresses by number, the fields of the exceptions' classes -/
structure Cn where
  K : PySem.W.Frag
  cls : Nat → Addr
  ecl : Nat → Value
  fld : Nat → List Str
  tabs : List (Addr × Str) := []
/-- an exception: its class, its fields -/
structure Xn where
  cls : Nat
  fs : List D
inductive Out (α : Type) where
  | ok (a : α) (ρ : Env') | exc (x : Xn) (ρ : Env') | bad
abbrev Fe := Env' → Out O
abbrev Fa := Env' → Out (List O)
def Out.bind {α β : Type} (x : Out α) (k : α → Env' → Out β) : Out β := match x with
  | .ok a ρ => k a ρ
  | .exc x ρ => .exc x ρ
  | .bad => .bad
@[simp] theorem bind_ok {α β : Type} (a : α) (ρ : Env') (k : α → Env' → Out β) : (Out.ok a ρ).bind k = k a ρ := rfl
@[simp] theorem bind_exc {α β : Type} (x : Xn) (ρ : Env') (k : α → Env' → Out β) : (Out.exc x ρ : Out α).bind k = .exc x ρ := rfl
@[simp] theorem bind_bad {α β : Type} (k : α → Env' → Out β) : (Out.bad : Out α).bind k = .bad := rfl

section
variable (C : Cn) (H : Hp) (S : Addr → Prop)
/-- a list of the written part -/
def KL (K : PySem.W.Frag) (a : Addr) (vs : List V) : Prop := vs.length ≤ sizeLine ∧ ∃ (its : List Value) (n : Nat), Vals vs its ∧ K.lookup a = some { cls := .type "list", data := .seq its.toArray n }
def LstD (K : PySem.W.Frag) (H : Hp) (S : Addr → Prop) (a : Addr) (vs : List V) : Prop := (S a ∧ Rd H a (.lst vs)) ∨ KL K a vs
mutual
def RepD : V → D → Prop
  | v, .non => v = .non
  | v, .bl b => v = .bl b
  | v, .int i => v = .int i
  | v, .str x => v = .str x
  | v, .tup l => ∃ a vs, v = .ref a ∧ H a = some (.tup vs) ∧ RepDs vs l
  | v, .lst l => ∃ a vs, v = .ref a ∧ LstD C.K H S a vs ∧ RepDs vs l
  | v, .dct l => ∃ a, v = .ref a ∧ S a ∧ ((∃ kvs, Rd H a (.dK kvs) ∧ RepK kvs l) ∨ (∃ kvs, Rd H a (.dT kvs) ∧ RepT kvs l))
  | v, .ins c l => ∃ a dx vs, v = .ref a ∧ S a ∧ S dx ∧ SlX.Slt H a (C.cls c) dx (vs.map some) ∧ RepDs vs l
  | v, .exn c l => False
  | v, .cl c => v = .ref (C.cls c)
def RepDs : List V → List D → Prop
  | vs, [] => vs = []
  | vs, d :: ds => ∃ v r, vs = v :: r ∧ RepD v d ∧ RepDs r ds
def RepK : List (Key × V) → List (Kd × D) → Prop
  | vs, [] => vs = []
  | vs, (k, d) :: ds => ∃ j v r, vs = (j, v) :: r ∧ k = .inl j ∧ RepD v d ∧ RepK r ds
def RepT : List (List Key × V) → List (Kd × D) → Prop
  | vs, [] => vs = []
  | vs, (k, d) :: ds => ∃ j v r, vs = (j, v) :: r ∧ k = .inr j ∧ RepD v d ∧ RepT r ds
end
abbrev Set' := Addr → Prop
/-- a disjoint sum -/
def Sum' (F A B : Set') : Prop := (∀ a, F a ↔ A a ∨ B a) ∧ ∀ a, A a → ¬ B a
def Emp (F : Set') : Prop := ∀ a, ¬ F a
mutual
def RepO : V → O → Set' → Prop
  | v, .sh d, F => Emp F ∧ RepD C H S v d
  | v, .lst l, F => ∃ a vs A, v = .ref a ∧ H a = some (.lst vs) ∧ RepOs vs l A ∧ Sum' F (fun b => b = a) A
  | v, .dct l, F => ∃ a A, v = .ref a ∧ (l.map (·.1)).Nodup ∧ ((∃ kvs, H a = some (.dK kvs) ∧ RepOK kvs l A) ∨ (∃ kvs, H a = some (.dT kvs) ∧ RepOT kvs l A)) ∧ Sum' F (fun b => b = a) A
  | v, .ins c l, F => ∃ a dx vs A, v = .ref a ∧ dx ≠ a ∧ SlX.Slt H a (C.cls c) dx (vs.map some) ∧ RepOs vs l A ∧ Sum' F (fun b => b = a ∨ b = dx) A
def RepOs : List V → List O → Set' → Prop
  | vs, [], F => vs = [] ∧ Emp F
  | vs, o :: os, F => ∃ v r A B, vs = v :: r ∧ RepO v o A ∧ RepOs r os B ∧ Sum' F A B
def RepOK : List (Key × V) → List (Kd × O) → Set' → Prop
  | vs, [], F => vs = [] ∧ Emp F
  | vs, (k, o) :: os, F => ∃ j v r A B, vs = (j, v) :: r ∧ k = .inl j ∧ RepO v o A ∧ RepOK r os B ∧ Sum' F A B
def RepOT : List (List Key × V) → List (Kd × O) → Set' → Prop
  | vs, [], F => vs = [] ∧ Emp F
  | vs, (k, o) :: os, F => ∃ j v r A B, vs = (j, v) :: r ∧ k = .inr j ∧ RepO v o A ∧ RepOT r os B ∧ Sum' F A B
end
def RepX : Option V → Option O → Set' → Prop
  | _, none, F => Emp F
  | x, some o, F => ∃ v, x = some v ∧ RepO C H S v o F
def RepE : List (Option V) → Env' → Set' → Prop
  | σ, [], F => σ = [] ∧ Emp F
  | σ, r :: ρ, F => ∃ x t A B, σ = x :: t ∧ RepX C H S x r A ∧ RepE t ρ B ∧ Sum' F A B
end
/-- what may be owned -/
def Mo : Option HO → Prop
  | some (.lst _) => True
  | some (.dK _) => True
  | some (.dT _) => True
  | some (.ins _ _ _) => True
  | some (.own _) => True
  | some (.xd _) => True
  | some (.ext φ) => ∃ a C dx vs, HO.ext φ = SlX.SlO a C dx vs
  | _ => False
theorem code_ne {c : Addr} {q : Str} : ¬ Mo (some (LamX.CodeO c q)) := fun ⟨a, C, dx, vs, e⟩ => by
  unfold SlX.SlO at e
  injection e with e
  let co : Obj := { cls := .none, data := .fields #[.none, .str q 0] }
  let h : Heap := { ({} : Heap) with objs := Array.replicate (c + 1) co }
  have at_ : h.get? c = some co := Heap.get?_some_iff.mpr ⟨by simp [h], rfl⟩
  have z : (fun h : Heap => ∃ sl : Array (Option Value), h.get? a = some { PySem.W.instObj C dx with slots := sl } ∧ SlX.SlR vs sl) h := by
    rw [← e]
    exact ⟨co, _, 0, at_, rfl, rfl⟩
  obtain ⟨sl, hx, _⟩ := z
  have hx' := (Heap.get?_some_iff.mp hx).1
  have : (Array.replicate (c + 1) co)[a]? = some { PySem.W.instObj C dx with slots := sl } := hx'
  rw [Array.getElem?_replicate] at this
  split at this
  · have e2 := congrArg Obj.data (Option.some.inj this)
    cases e2
  · cases this
/-- any object but a table of code objects -/
def NT : HO → Prop
  | .tbl _ => False
  | _ => True
theorem Mo.nt {u : HO} (h : Mo (some u)) : NT u := by
  cases u <;> first | exact trivial | exact h
theorem nt_of {u : HO} (h : ∀ ps, u ≠ .tbl ps) : NT u := by
  cases u <;> first | exact trivial | exact h _ rfl
theorem NT.ne {u : HO} (h : NT u) (ps : Array Value) : u ≠ .tbl ps := fun e => by rw [e] at h; exact h
/-- tables stay tables -/
structure Tk (C : Cn) (H H' : Hp) : Prop where
  tb : ∀ a ps, H a = some (.tbl ps) → ∃ qs, H' a = some (.tbl qs)
  tabs : LamX.Tabs C.tabs H → LamX.Tabs C.tabs H'
theorem Tk.refl {C : Cn} {H : Hp} : Tk C H H := ⟨fun _ ps e => ⟨ps, e⟩, fun h => h⟩
theorem Tk.trans {C : Cn} {H H1 H2 : Hp} (x : Tk C H H1) (y : Tk C H1 H2) : Tk C H H2 := ⟨fun a ps e => by
  obtain ⟨qs, e1⟩ := x.tb a ps e
  exact y.tb a qs e1, fun h => y.tabs (x.tabs h)⟩
theorem Tk.all {C : Cn} {H H' : Hp} (k : ∀ a u, H a = some u → H' a = some u) : Tk C H H' := ⟨fun a ps e => ⟨ps, k _ _ e⟩, fun h => h.ext k⟩
theorem Tk.upd {C : Cn} {H : Hp} {a : Addr} {u : HO} (m : Mo (H a)) : Tk C H (upd H a u) := by
  have ne : ∀ b ps, H b = some (.tbl ps) → b ≠ a := fun b ps e z => by rw [z] at e; rw [e] at m; exact m
  refine ⟨fun b ps e => ⟨ps, by rw [upd_ne (ne b ps e)]; exact e⟩, fun h p hp => ?_⟩
  obtain ⟨ps, h1, h2, h3⟩ := h p hp
  refine ⟨ps, by rw [upd_ne (ne p.1 ps h1)]; exact h1, h2, fun pos cv hc => ?_⟩
  obtain ⟨c, e1, e2⟩ := h3 pos cv hc
  have nc : c ≠ a := fun z => by
    rw [z] at e2; rw [e2] at m; exact code_ne m
  exact ⟨c, e1, by rw [upd_ne nc]; exact e2⟩
structure Wf (C : Cn) (H : Hp) (S F : Set') : Prop where
  mu : ∀ a, F a → Mo (H a)
  ns : ∀ a, F a → ¬ S a
  so : ∀ a, S a → ∃ u, H a = some u
  tb : LamX.Tabs C.tabs H
structure Fr (C : Cn) (H : Hp) (S F : Set') (H' : Hp) (S' F' : Set') : Prop where
  keep : ∀ a u, H a = some u → ¬ F a → NT u → H' a = some u
  sub : ∀ a, S a → S' a
  new : ∀ a, S' a → S a ∨ F a ∨ H a = none
  fnew : ∀ a, F' a → F a ∨ H a = none
  tk : Tk C H H'
theorem mut_some {o : Option HO} (h : Mo o) : ∃ u, o = some u := by
  cases o with
  | none => exact h.elim
  | some u => exact ⟨u, rfl⟩
theorem Fr.refl {C : Cn} {H : Hp} {S F : Set'} : Fr C H S F H S F := ⟨fun _ _ e _ _ => e, fun _ h => h, fun _ h => .inl h, fun _ h => .inl h, .refl⟩
theorem Fr.nn {C : Cn} {H H1 : Hp} {S S1 F F1 : Set'} (x : Fr C H S F H1 S1 F1) {a : Addr} (e : H1 a = none) : F a ∨ H a = none := by
  by_cases f : F a
  · exact .inl f
  · cases q : H a with
    | none => exact .inr rfl
    | some u =>
      by_cases t : NT u
      · rw [x.keep a u q f t] at e; cases e
      · cases u <;> first | exact absurd trivial t | skip
        obtain ⟨qs, z⟩ := x.tk.tb a _ q
        rw [z] at e; cases e
theorem Fr.trans {C : Cn} {H H1 H2 : Hp} {S S1 S2 F F1 F2 : Set'} (x : Fr C H S F H1 S1 F1) (y : Fr C H1 S1 F1 H2 S2 F2) : Fr C H S F H2 S2 F2 := by
  have nn : ∀ a, H1 a = none → F a ∨ H a = none := fun a e => x.nn e
  refine ⟨fun a u e nf nt => y.keep a u (x.keep a u e nf nt) (fun f1 => ?_) nt, fun a h => y.sub a (x.sub a h), fun a h => ?_, fun a h => ?_, x.tk.trans y.tk⟩
  · rcases x.fnew a f1 with f | f
    · exact nf f
    · rw [e] at f; cases f
  · rcases y.new a h with h | h | h
    · exact x.new a h
    · exact .inr (x.fnew a h)
    · exact .inr (nn a h)
  · rcases y.fnew a h with h | h
    · exact x.fnew a h
    · exact nn a h
/-- what shared data lean on is kept -/
structure Kp (H : Hp) (S : Set') (H' : Hp) (S' : Set') : Prop where
  sh : ∀ a u, S a → NT u → H a = some u → H' a = some u
  tp : ∀ a u, ¬ Mo (some u) → NT u → H a = some u → H' a = some u
  sub : ∀ a, S a → S' a
theorem Fr.kp {C : Cn} {H H' : Hp} {S S' F F' : Set'} (w : Wf C H S F) (x : Fr C H S F H' S' F') : Kp H S H' S' :=
  ⟨fun a u s nt e => x.keep a u e (fun f => w.ns a f s) nt, fun a u n nt e => x.keep a u e (fun f => n (by rw [← e]; exact w.mu a f)) nt, x.sub⟩
section
variable {C : Cn} {H H' : Hp} {S S' : Set'}
theorem Kp.rds (k : Kp H S H' S') {a : Addr} {u : HO} (s : S a) (h : Rd H a u) (nt : NT u := by trivial) : Rd H' a u := by
  rcases h with h | ⟨o, h⟩
  · exact .inl (k.sh _ _ s nt h)
  · exact .inr ⟨o, k.sh _ _ s trivial h⟩
theorem Kp.lst {K : PySem.W.Frag} (k : Kp H S H' S') {a : Addr} {xs : List V} (h : LstD K H S a xs) : LstD K H' S' a xs := by
  rcases h with ⟨s, h⟩ | h
  · exact .inl ⟨k.sub a s, k.rds s h⟩
  · exact .inr h
theorem Kp.slat (k : Kp H S H' S') {a D dx : Addr} {vs : List (Option V)} (s : S a) (s2 : S dx) (h : SlX.Slt H a D dx vs) : SlX.Slt H' a D dx vs := by
  rcases h with ⟨h1, h2⟩ | ⟨h1, h2⟩
  · exact .inl ⟨k.sh _ _ s trivial h1, h2⟩
  · exact .inr ⟨k.sh _ _ s trivial h1, k.sh _ _ s2 trivial h2⟩
theorem slt_same {H H' : Hp} {a D dx : Addr} {vs : List (Option V)} (s : H' a = H a) (s2 : H' dx = H dx) (h : SlX.Slt H a D dx vs) : SlX.Slt H' a D dx vs := by
  rcases h with ⟨h1, h2⟩ | ⟨h1, h2⟩
  · exact .inl ⟨by rw [s]; exact h1, h2⟩
  · exact .inr ⟨by rw [s]; exact h1, by rw [s2]; exact h2⟩
mutual
theorem RepD.mono (k : Kp H S H' S') : ∀ {v : V} {d : D}, RepD C H S v d → RepD C H' S' v d
  | _, .non, h => h
  | _, .bl _, h => h
  | _, .int _, h => h
  | _, .str _, h => h
  | _, .tup l, h => by
    obtain ⟨a, vs, e, h1, h2⟩ := h
    exact ⟨a, vs, e, k.tp _ _ (fun z => z) trivial h1, RepDs.mono k h2⟩
  | _, .lst l, h => by
    obtain ⟨a, vs, e, h1, h2⟩ := h
    exact ⟨a, vs, e, k.lst h1, RepDs.mono k h2⟩
  | _, .dct l, h => by
    obtain ⟨a, e, s, h⟩ := h
    refine ⟨a, e, k.sub a s, ?_⟩
    rcases h with ⟨kvs, h1, h2⟩ | ⟨kvs, h1, h2⟩
    · exact .inl ⟨kvs, k.rds s h1, RepK.mono k h2⟩
    · exact .inr ⟨kvs, k.rds s h1, RepT.mono k h2⟩
  | _, .ins _ l, h => by
    obtain ⟨a, dx, vs, e, s, s2, h1, h2⟩ := h
    exact ⟨a, dx, vs, e, k.sub a s, k.sub dx s2, k.slat s s2 h1, RepDs.mono k h2⟩
  | _, .cl _, h => h
theorem RepDs.mono (k : Kp H S H' S') : ∀ {vs : List V} {ds : List D}, RepDs C H S vs ds → RepDs C H' S' vs ds
  | _, [], h => h
  | _, d :: ds, h => by
    obtain ⟨v, r, e, h1, h2⟩ := h
    exact ⟨v, r, e, RepD.mono k h1, RepDs.mono k h2⟩
theorem RepK.mono (k : Kp H S H' S') : ∀ {vs : List (Key × V)} {ds : List (Kd × D)}, RepK C H S vs ds → RepK C H' S' vs ds
  | _, [], h => h
  | _, (i, d) :: ds, h => by
    obtain ⟨j, v, r, e, e2, h1, h2⟩ := h
    exact ⟨j, v, r, e, e2, RepD.mono k h1, RepK.mono k h2⟩
theorem RepT.mono (k : Kp H S H' S') : ∀ {vs : List (List Key × V)} {ds : List (Kd × D)}, RepT C H S vs ds → RepT C H' S' vs ds
  | _, [], h => h
  | _, (i, d) :: ds, h => by
    obtain ⟨j, v, r, e, e2, h1, h2⟩ := h
    exact ⟨j, v, r, e, e2, RepD.mono k h1, RepT.mono k h2⟩
end
theorem Sum'.l {F A B : Set'} (s : Sum' F A B) {a : Addr} (h : A a) : F a := (s.1 a).mpr (.inl h)
theorem Sum'.r {F A B : Set'} (s : Sum' F A B) {a : Addr} (h : B a) : F a := (s.1 a).mpr (.inr h)
mutual
theorem RepO.mono (k : Kp H S H' S') : ∀ {v : V} {o : O} {A : Set'}, (∀ a, A a → H' a = H a) → RepO C H S v o A → RepO C H' S' v o A
  | _, .sh d, A, _, h => ⟨h.1, RepD.mono k h.2⟩
  | _, .lst l, A, ka, h => by
    obtain ⟨a, vs, B, e, h1, h2, s⟩ := h
    exact ⟨a, vs, B, e, by rw [ka a (s.l rfl)]; exact h1, RepOs.mono k (fun b hb => ka b (s.r hb)) h2, s⟩
  | _, .dct l, A, ka, h => by
    obtain ⟨a, B, e, nd, h1, s⟩ := h
    refine ⟨a, B, e, nd, ?_, s⟩
    rcases h1 with ⟨kvs, h1, h2⟩ | ⟨kvs, h1, h2⟩
    · exact .inl ⟨kvs, by rw [ka a (s.l rfl)]; exact h1, RepOK.mono k (fun b hb => ka b (s.r hb)) h2⟩
    · exact .inr ⟨kvs, by rw [ka a (s.l rfl)]; exact h1, RepOT.mono k (fun b hb => ka b (s.r hb)) h2⟩
  | _, .ins _ l, A, ka, h => by
    obtain ⟨a, dx, vs, B, e, nd, h1, h2, s⟩ := h
    exact ⟨a, dx, vs, B, e, nd, slt_same (ka a (s.l (.inl rfl))) (ka dx (s.l (.inr rfl))) h1, RepOs.mono k (fun b hb => ka b (s.r hb)) h2, s⟩
theorem RepOs.mono (k : Kp H S H' S') : ∀ {vs : List V} {os : List O} {A : Set'}, (∀ a, A a → H' a = H a) → RepOs C H S vs os A → RepOs C H' S' vs os A
  | _, [], A, _, h => h
  | _, o :: os, A, ka, h => by
    obtain ⟨v, r, B, C, e, h1, h2, s⟩ := h
    exact ⟨v, r, B, C, e, RepO.mono k (fun b hb => ka b (s.l hb)) h1, RepOs.mono k (fun b hb => ka b (s.r hb)) h2, s⟩
theorem RepOK.mono (k : Kp H S H' S') : ∀ {vs : List (Key × V)} {os : List (Kd × O)} {A : Set'}, (∀ a, A a → H' a = H a) → RepOK C H S vs os A → RepOK C H' S' vs os A
  | _, [], A, _, h => h
  | _, (i, o) :: os, A, ka, h => by
    obtain ⟨j, v, r, B, C, e, e2, h1, h2, s⟩ := h
    exact ⟨j, v, r, B, C, e, e2, RepO.mono k (fun b hb => ka b (s.l hb)) h1, RepOK.mono k (fun b hb => ka b (s.r hb)) h2, s⟩
theorem RepOT.mono (k : Kp H S H' S') : ∀ {vs : List (List Key × V)} {os : List (Kd × O)} {A : Set'}, (∀ a, A a → H' a = H a) → RepOT C H S vs os A → RepOT C H' S' vs os A
  | _, [], A, _, h => h
  | _, (i, o) :: os, A, ka, h => by
    obtain ⟨j, v, r, B, C, e, e2, h1, h2, s⟩ := h
    exact ⟨j, v, r, B, C, e, e2, RepO.mono k (fun b hb => ka b (s.l hb)) h1, RepOT.mono k (fun b hb => ka b (s.r hb)) h2, s⟩
end
theorem RepX.mono (k : Kp H S H' S') : ∀ {x : Option V} {o : Option O} {A : Set'}, (∀ a, A a → H' a = H a) → RepX C H S x o A → RepX C H' S' x o A
  | _, none, A, _, h => h
  | _, some o, A, ka, ⟨v, e, h⟩ => ⟨v, e, h.mono k ka⟩
theorem RepE.mono (k : Kp H S H' S') : ∀ {σ : List (Option V)} {ρ : Env'} {A : Set'}, (∀ a, A a → H' a = H a) → RepE C H S σ ρ A → RepE C H' S' σ ρ A
  | _, [], A, _, h => h
  | _, r :: ρ, A, ka, h => by
    obtain ⟨x, t, B, C, e, h1, h2, s⟩ := h
    exact ⟨x, t, B, C, e, h1.mono k (fun b hb => ka b (s.l hb)), RepE.mono k (fun b hb => ka b (s.r hb)) h2, s⟩
/-! owned data become shared -/
mutual
theorem RepO.share : ∀ {v : V} {o : O} {A : Set'} {S' : Set'}, (∀ a, S a → S' a) → (∀ a, A a → S' a) → RepO C H S v o A → RepD C H S' v o.toD
  | _, .sh d, A, S', ks, ka, h => RepD.mono ⟨fun _ _ _ _ e => e, fun _ _ _ _ e => e, ks⟩ h.2
  | _, .lst l, A, S', ks, ka, h => by
    obtain ⟨a, vs, B, e, h1, h2, s⟩ := h
    exact ⟨a, vs, e, .inl ⟨ka a (s.l rfl), .inl h1⟩, RepOs.share ks (fun b hb => ka b (s.r hb)) h2⟩
  | _, .dct l, A, S', ks, ka, h => by
    obtain ⟨a, B, e, nd, h1, s⟩ := h
    refine ⟨a, e, ka a (s.l rfl), ?_⟩
    rcases h1 with ⟨kvs, h1, h2⟩ | ⟨kvs, h1, h2⟩
    · exact .inl ⟨kvs, .inl h1, RepOK.share ks (fun b hb => ka b (s.r hb)) h2⟩
    · exact .inr ⟨kvs, .inl h1, RepOT.share ks (fun b hb => ka b (s.r hb)) h2⟩
  | _, .ins _ l, A, S', ks, ka, h => by
    obtain ⟨a, dx, vs, B, e, nd, h1, h2, s⟩ := h
    exact ⟨a, dx, vs, e, ka a (s.l (.inl rfl)), ka dx (s.l (.inr rfl)), h1, RepOs.share ks (fun b hb => ka b (s.r hb)) h2⟩
theorem RepOs.share : ∀ {vs : List V} {os : List O} {A : Set'} {S' : Set'}, (∀ a, S a → S' a) → (∀ a, A a → S' a) → RepOs C H S vs os A → RepDs C H S' vs (toDs os)
  | _, [], A, S', _, _, h => h.1
  | _, o :: os, A, S', ks, ka, h => by
    obtain ⟨v, r, B, C, e, h1, h2, s⟩ := h
    exact ⟨v, r, e, RepO.share ks (fun b hb => ka b (s.l hb)) h1, RepOs.share ks (fun b hb => ka b (s.r hb)) h2⟩
theorem RepOK.share : ∀ {vs : List (Key × V)} {os : List (Kd × O)} {A : Set'} {S' : Set'}, (∀ a, S a → S' a) → (∀ a, A a → S' a) → RepOK C H S vs os A → RepK C H S' vs (toDk os)
  | _, [], A, S', _, _, h => h.1
  | _, (i, o) :: os, A, S', ks, ka, h => by
    obtain ⟨j, v, r, B, C, e, e2, h1, h2, s⟩ := h
    exact ⟨j, v, r, e, e2, RepO.share ks (fun b hb => ka b (s.l hb)) h1, RepOK.share ks (fun b hb => ka b (s.r hb)) h2⟩
theorem RepOT.share : ∀ {vs : List (List Key × V)} {os : List (Kd × O)} {A : Set'} {S' : Set'}, (∀ a, S a → S' a) → (∀ a, A a → S' a) → RepOT C H S vs os A → RepT C H S' vs (toDk os)
  | _, [], A, S', _, _, h => h.1
  | _, (i, o) :: os, A, S', ks, ka, h => by
    obtain ⟨j, v, r, B, C, e, e2, h1, h2, s⟩ := h
    exact ⟨j, v, r, e, e2, RepO.share ks (fun b hb => ka b (s.l hb)) h1, RepOT.share ks (fun b hb => ka b (s.r hb)) h2⟩
end
end
abbrev Un' (A B : Set') : Set' := fun a => A a ∨ B a
def Dj (A B : Set') : Prop := ∀ a, A a → ¬ B a
section
variable {C : Cn} {H H' H1 H2 : Hp} {S S' S1 S2 F F' F1 F2 A B : Set'}
theorem Wf.share (w : Wf C H S (Un' A F)) (d : Dj A F) : Wf C H (Un' S A) F :=
  ⟨fun a f => w.mu a (.inr f), fun a f s => s.elim (fun s => w.ns a (.inr f) s) fun s => d a s f, fun a s => s.elim (fun s => w.so a s) fun s => mut_some (w.mu a (.inl s)), w.tb⟩
theorem Wf.drop (w : Wf C H S (Un' A F)) : Wf C H S F := ⟨fun a f => w.mu a (.inr f), fun a f => w.ns a (.inr f), w.so, w.tb⟩
theorem Fr.share (x : Fr C H S F H' S' (Un' A F')) : Fr C H S F H' (Un' S' A) F' :=
  ⟨x.keep, fun a s => .inl (x.sub a s), fun a s => s.elim (fun s => x.new a s) fun s => .inr (x.fnew a (.inl s)), fun a f => x.fnew a (.inr f), x.tk⟩
theorem Fr.drop (x : Fr C H S F H' S' (Un' A F')) : Fr C H S F H' S' F' := ⟨x.keep, x.sub, x.new, fun a f => x.fnew a (.inr f), x.tk⟩
/-- a temporary (A) beside what runs from F1 to B and F2 -/
theorem fr_tmp (w1 : Wf C H1 S1 (Un' A F1)) (d1 : Dj A F1) (x : Fr C H S F H1 S1 (Un' A F1)) (y : Fr C H1 S1 F1 H2 S2 F2) (w2 : Wf C H2 S2 F2) :
    (∀ a, A a → H2 a = H1 a) ∧ Dj A F2 ∧ Wf C H2 S2 (Un' A F2) ∧ Fr C H S F H2 S2 (Un' A F2) ∧ Kp H1 S1 H2 S2 := by
  have nn : ∀ a, A a → H1 a ≠ none := fun a h e => by
    obtain ⟨u, q⟩ := mut_some (w1.mu a (.inl h))
    rw [q] at e; cases e
  have ka : ∀ a, A a → H2 a = H1 a := fun a h => by
    obtain ⟨u, q⟩ := mut_some (w1.mu a (.inl h))
    rw [q]; exact y.keep a u q (d1 a h) (Mo.nt (by rw [← q]; exact w1.mu a (.inl h)))
  have dj : Dj A F2 := fun a h f => (y.fnew a f).elim (fun f => d1 a h f) fun e => nn a h e
  have x' : Fr C H S F H1 S1 (Un' A F1) := x
  have y' : Fr C H1 S1 (Un' A F1) H2 S2 (Un' A F2) :=
    ⟨fun a u e nf nt => y.keep a u e (fun f => nf (.inr f)) nt, y.sub, fun a s => (y.new a s).elim .inl fun h => h.elim (fun f => .inr (.inl (.inr f))) fun e => .inr (.inr e),
      fun a f => f.elim (fun f => .inl (.inl f)) fun f => (y.fnew a f).elim (fun f => .inl (.inr f)) .inr, y.tk⟩
  refine ⟨ka, dj, ⟨fun a f => ?_, fun a f s => ?_, w2.so, w2.tb⟩, x'.trans y', y.kp w1.drop⟩
  · rcases f with f | f
    · rw [ka a f]; exact w1.mu a (.inl f)
    · exact w2.mu a f
  · rcases f with f | f
    · rcases y.new a s with q | q | q
      · exact w1.ns a (.inl f) q
      · exact d1 a f q
      · exact nn a f q
    · exact w2.ns a f s
end
end G
end

section
set_option maxRecDepth 100000
set_option maxHeartbeats 2000000
open PySem PySem.Spec PyProof.Rows L2
namespace G
/-! environments by slot -/
section
variable {C : Cn} {H : Hp} {S : Set'}
theorem Sum'.symm {F A B : Set'} (s : Sum' F A B) : Sum' F B A := ⟨fun a => (s.1 a).trans ⟨Or.symm, Or.symm⟩, fun a hb ha => s.2 a ha hb⟩
theorem RepE.len : ∀ {σ : List (Option V)} {ρ : Env'} {F : Set'}, RepE C H S σ ρ F → σ.length = ρ.length
  | _, [], _, h => by rw [h.1]; rfl
  | _, r :: ρ, _, h => by
    obtain ⟨x, t, A, B, e, _, h2, _⟩ := h
    rw [e, List.length_cons, List.length_cons, h2.len]
theorem RepE.take : ∀ {σ : List (Option V)} {ρ : Env'} {F : Set'} {i : Nat} {r : Option O}, RepE C H S σ ρ F → ρ[i]? = some r →
    ∃ x A B, σ[i]? = some x ∧ RepX C H S x r A ∧ RepE C H S σ (ρ.set i none) B ∧ Sum' F A B
  | _, [], _, i, _, _, e => by simp at e
  | _, r :: ρ, F, 0, r', h, e => by
    obtain ⟨x, t, A, B, e1, h1, h2, s⟩ := h
    have er : r = r' := by simpa using e
    subst er
    exact ⟨x, A, B, by rw [e1]; rfl, h1, ⟨x, t, fun _ => False, B, e1, fun a z => z, h2, ⟨fun a => ⟨.inr, fun q => q.elim False.elim id⟩, fun a z => z.elim⟩⟩, s⟩
  | _, r :: ρ, F, i + 1, r', h, e => by
    obtain ⟨x, t, A, B, e1, h1, h2, s⟩ := h
    obtain ⟨y, P, R, e2, h3, h4, s2⟩ := RepE.take h2 (i := i) (r := r') (by simpa using e)
    refine ⟨y, P, fun a => A a ∨ R a, by rw [e1]; simpa using e2, h3, ⟨x, t, A, R, e1, h1, h4, ⟨fun a => Iff.rfl, fun a z1 z2 => s.2 a z1 (s2.r z2)⟩⟩, ?_⟩
    constructor
    · intro a
      rw [s.1 a, s2.1 a]
      constructor
      · rintro (z | z | z)
        · exact .inr (.inl z)
        · exact .inl z
        · exact .inr (.inr z)
      · rintro (z | z | z)
        · exact .inr (.inl z)
        · exact .inl z
        · exact .inr (.inr z)
    · rintro a z (z2 | z2)
      · exact s.2 a z2 (s2.l z)
      · exact s2.2 a z z2
theorem RepE.put : ∀ {σ : List (Option V)} {ρ : Env'} {F A B : Set'} {i : Nat} {x : Option V} {r : Option O}, RepE C H S σ ρ B → ρ[i]? = some none → RepX C H S x r A → Sum' F A B →
    RepE C H S (σ.set i x) (ρ.set i r) F
  | _, [], _, _, _, i, _, _, _, e, _, _ => by simp at e
  | _, r :: ρ, F, P, B, 0, y, r', h, e, hx, s => by
    obtain ⟨x, t, A, R, e1, h1, h2, s1⟩ := h
    have er : r = none := by simpa using e
    subst er
    subst e1
    refine ⟨y, t, P, R, rfl, hx, h2, ?_, ?_⟩
    · intro a
      rw [s.1 a, s1.1 a]
      constructor
      · rintro (z | z | z)
        · exact .inl z
        · exact (h1 a z).elim
        · exact .inr z
      · rintro (z | z)
        · exact .inl z
        · exact .inr (.inr z)
    · exact fun a z1 z2 => s.2 a z1 (s1.r z2)
  | _, r :: ρ, F, P, B, i + 1, y, r', h, e, hx, s => by
    obtain ⟨x, t, A, R, e1, h1, h2, s1⟩ := h
    subst e1
    have q := RepE.put (F := fun a => P a ∨ R a) h2 (i := i) (x := y) (r := r') (by simpa using e) hx ⟨fun a => Iff.rfl, fun a z1 z2 => s.2 a z1 (s1.r z2)⟩
    refine ⟨x, t.set i y, A, fun a => P a ∨ R a, rfl, h1, q, ?_, ?_⟩
    · intro a
      rw [s.1 a, s1.1 a]
      constructor
      · rintro (z | z | z)
        · exact .inr (.inl z)
        · exact .inl z
        · exact .inr (.inr z)
      · rintro (z | z | z)
        · exact .inr (.inl z)
        · exact .inl z
        · exact .inr (.inr z)
    · rintro a z1 (z2 | z2)
      · exact s.2 a z2 (s1.l z1)
      · exact s1.2 a z1 z2
end
theorem RepK.len {C : Cn} {H : Hp} {S : Set'} : ∀ {vs : List (Key × V)} {ds : List (Kd × D)}, RepK C H S vs ds → vs.length = ds.length
  | _, [], h => by rw [show _ = [] from h]; rfl
  | _, (k, d) :: ds, h => by
    obtain ⟨j, v, r, rfl, _, _, h2⟩ := h
    rw [List.length_cons, List.length_cons, h2.len]
theorem RepT.len {C : Cn} {H : Hp} {S : Set'} : ∀ {vs : List (List Key × V)} {ds : List (Kd × D)}, RepT C H S vs ds → vs.length = ds.length
  | _, [], h => by rw [show _ = [] from h]; rfl
  | _, (k, d) :: ds, h => by
    obtain ⟨j, v, r, rfl, _, _, h2⟩ := h
    rw [List.length_cons, List.length_cons, h2.len]
theorem set_at {α : Type} : ∀ {l : List α} {i : Nat} {x : α}, l[i]? = some x → l.set i x = l
  | [], _, _, e => by simp at e
  | a :: l, 0, x, e => by have q : a = x := by simpa using e
                          rw [q]; rfl
  | a :: l, i + 1, x, e => by
    have q := set_at (l := l) (i := i) (x := x) (by simpa using e)
    show a :: l.set i x = a :: l
    rw [q]
/-- what a def's body (or a comprehension's block) is in -/
structure OkX (C : Cn) (X : Cx) : Prop where
  K : X.K = C.K
  calm : X.calm = true
  un : X.A.units + 200 < cLine
  nd : X.N.Nodup
def RepXn (C : Cn) (H : Hp) (S : Set') (x : Xn) (c : Value) (d : Option Addr) : Prop :=
  c = C.ecl x.cls ∧ (x.fs = [] ∨ ∃ a vs, d = some a ∧ S a ∧ H a = some (.xd ((C.fld x.cls).zip vs)) ∧ RepDs C H S vs x.fs)
def rE (C : Cn) (E : WX) (f : Fe) : TE := fun σ H Q => ∃ ρ S F, RepE C H S σ ρ F ∧ Wf C H S F ∧ match f ρ with
  | .ok o ρ' => ∀ v H' S' F' A, RepE C H' S' σ ρ' F' → RepO C H' S' v o A → Wf C H' S' (Un' A F') → Dj A F' → Fr C H S F H' S' (Un' A F') → Q v H'
  | .exc x ρ' => ∀ c d H' S' F', RepE C H' S' σ ρ' F' → Wf C H' S' F' → Fr C H S F H' S' F' → RepXn C H' S' x c d → E c d σ H'
  | .bad => False
def rA (C : Cn) (E : WX) (f : Fa) : TA := fun σ H Q => ∃ ρ S F, RepE C H S σ ρ F ∧ Wf C H S F ∧ match f ρ with
  | .ok os ρ' => ∀ vs H' S' F' A, RepE C H' S' σ ρ' F' → RepOs C H' S' vs os A → Wf C H' S' (Un' A F') → Dj A F' → Fr C H S F H' S' (Un' A F') → Q vs H'
  | .exc x ρ' => ∀ c d H' S' F', RepE C H' S' σ ρ' F' → Wf C H' S' F' → Fr C H S F H' S' F' → RepXn C H' S' x c d → E c d σ H'
  | .bad => False
def rT (C : Cn) (E : WX) (f : Env' → Out Bool) : TT := fun σ H Q => ∃ ρ S F, RepE C H S σ ρ F ∧ Wf C H S F ∧ match f ρ with
  | .ok b ρ' => ∀ H' S' F', RepE C H' S' σ ρ' F' → Wf C H' S' F' → Fr C H S F H' S' F' → Q b H'
  | .exc x ρ' => ∀ c d H' S' F', RepE C H' S' σ ρ' F' → Wf C H' S' F' → Fr C H S F H' S' F' → RepXn C H' S' x c d → E c d σ H'
  | .bad => False
abbrev DE (C : Cn) (E : WX) (X : Cx) (e : Expr) (f : Fe) : Prop := PE X e (rE C E f)
abbrev DA (C : Cn) (E : WX) (X : Cx) (es : List Expr) (f : Fa) : Prop := PA X es (rA C E f)
abbrev DT (C : Cn) (E : WX) (X : Cx) (e : Expr) (f : Env' → Out Bool) : Prop := PT X e (rT C E f)
abbrev DW (C : Cn) (E : WX) (X : Cx) (e : Expr) (f : Env' → Out Bool) : Prop := PW X e (rT C E f)
theorem pe_imp {X : Cx} {e : Expr} {t t' : TE} (h : PE X e t) (hi : ∀ σ H Q, t' σ H Q → t σ H Q) : PE X e t' := ⟨fun pins s σ H Q I q => h.run pins s σ H Q I (hi σ H Q q)⟩
theorem pa_imp {X : Cx} {es : List Expr} {t t' : TA} (h : PA X es t) (hi : ∀ σ H Q, t' σ H Q → t σ H Q) : PA X es t' := ⟨fun pos pins s σ H Q I q => h.run pos pins s σ H Q I (hi σ H Q q)⟩
theorem pt_imp {X : Cx} {e : Expr} {t t' : TT} (h : PT X e t) (hi : ∀ σ H Q, t' σ H Q → t σ H Q) : PT X e t' := ⟨fun pins s σ H Q I q => h.run pins s σ H Q I (hi σ H Q q)⟩
theorem pw_imp {X : Cx} {e : Expr} {t t' : TT} (h : PW X e t) (hi : ∀ σ H Q, t' σ H Q → t σ H Q) : PW X e t' := ⟨fun whole pins s σ H Q I q => h.run whole pins s σ H Q I (hi σ H Q q)⟩
abbrev No : Set' := fun _ => False
theorem wf_no {H : Hp} {S F : Set'} (w : Wf C H S F) : Wf C H S (Un' No F) := ⟨fun a f => f.elim False.elim (w.mu a), fun a f => f.elim False.elim (w.ns a), w.so, w.tb⟩
theorem dj_no {F : Set'} : Dj No F := fun _ h => h.elim
theorem emp_no : Emp No := fun _ h => h
theorem fr_no {H H' : Hp} {S S' F F' : Set'} (x : Fr C H S F H' S' F') : Fr C H S F H' S' (Un' No F') := ⟨x.keep, x.sub, x.new, fun a f => f.elim False.elim (x.fnew a), x.tk⟩
section
variable {C : Cn} {E : WX} {X : Cx} {σ : L2.St} {H H1 : Hp} {S S1 F F1 : Set'} {ρ ρ' : Env'}
/-- a shared value is the result -/
theorem ret_sh {Q : VK} {v : V} {d : D} (he : RepE C H1 S1 σ ρ' F1) (w : Wf C H1 S1 F1) (x : Fr C H S F H1 S1 F1) (r : RepD C H1 S1 v d)
    (h : ∀ v H' S' F' A, RepE C H' S' σ ρ' F' → RepO C H' S' v (.sh d) A → Wf C H' S' (Un' A F') → Dj A F' → Fr C H S F H' S' (Un' A F') → Q v H') : Q v H1 :=
  h v H1 S1 F1 No he ⟨emp_no, r⟩ (wf_no w) dj_no (fr_no x)
/-- a scalar constant -/
theorem de_const {e : Expr} {v : V} {d : D} (h : PE X e (tC v)) (r : ∀ H S, RepD C H S v d) : DE C E X e (fun ρ => .ok (.sh d) ρ) :=
  pe_imp h fun σ H Q ⟨ρ, S, F, he, w, q⟩ => ret_sh he w .refl (r H S) q
theorem de_int {i j pos} : DE C E X (.Constant (.int i) j pos) (fun ρ => .ok (.sh (.int i)) ρ) := de_const pe_int fun _ _ => rfl
theorem de_bl {b j pos} : DE C E X (.Constant (.bool b) j pos) (fun ρ => .ok (.sh (.bl b)) ρ) := de_const pe_bl fun _ _ => rfl
theorem de_non {j pos} : DE C E X (.Constant .none j pos) (fun ρ => .ok (.sh .non) ρ) := de_const pe_non fun _ _ => rfl
theorem de_str {x j pos} : DE C E X (.Constant (.str x) j pos) (fun ρ => .ok (.sh (.str x)) ρ) := de_const pe_str fun _ _ => rfl
theorem de_gint {x : Str} {i : Int} {t : Tok} {pos : Pos} (hg : Gl X x) (hm : X.mg x = some (.int i t)) (hd : (x == ("__debug__" : Str)) = false := by decide) : DE C E X (.Name x pos) (fun ρ => .ok (.sh (.int i)) ρ) :=
  de_const (v := .int i) (pe_glob hg hm ⟨t, rfl⟩ hd) fun _ _ => rfl
theorem de_gstr {x y : Str} {t : Tok} {pos : Pos} (hg : Gl X x) (hm : X.mg x = some (.str y t)) (hd : (x == ("__debug__" : Str)) = false := by decide) : DE C E X (.Name x pos) (fun ρ => .ok (.sh (.str y)) ρ) :=
  de_const (v := .str y) (pe_glob hg hm ⟨t, rfl⟩ hd) fun _ _ => rfl
/-- a name: what it holds; owned data are shared from now on -/
def eVar (i : Nat) : Fe := fun ρ => match ρ[i]? with
  | some (some (.sh d)) => .ok (.sh d) ρ
  | some (some o) => .ok (.sh o.toD) (ρ.set i (some (.sh o.toD)))
  | _ => .bad
theorem Sum'.un {F A B : Set'} (s : Sum' F A B) : F = Un' A B := funext fun a => propext (s.1 a)
theorem share_slot {i : Nat} {o : O} (he : RepE C H S σ ρ F) (w : Wf C H S F) (e : ρ[i]? = some (some o)) :
    ∃ v A B, σ[i]? = some (some v) ∧ RepD C H (Un' S A) v o.toD ∧ RepE C H (Un' S A) σ (ρ.set i (some (.sh o.toD))) B ∧ Wf C H (Un' S A) B ∧ Fr C H S F H (Un' S A) B := by
  obtain ⟨x, A, B, e1, ⟨v, rfl, h1⟩, h2, s⟩ := he.take e
  have eu := s.un
  subst eu
  have k : Kp H S H (Un' S A) := ⟨fun _ _ _ _ e => e, fun _ _ _ _ e => e, fun _ => .inl⟩
  have r := RepO.share (S' := Un' S A) (fun _ => .inl) (fun _ => .inr) h1
  have w' := w.share s.2
  refine ⟨v, A, B, e1, r, ?_, w', Fr.share .refl⟩
  have hl : i < ρ.length := (List.getElem?_eq_some_iff.mp e).1
  have h3 : RepE C H (Un' S A) σ (ρ.set i none) B := h2.mono k fun _ _ => rfl
  have q := h3.put (i := i) (F := B) (A := No) (x := some v) (r := some (.sh o.toD)) (by simp [hl]) ⟨v, rfl, emp_no, r⟩ ⟨fun a => ⟨.inr, fun z => z.elim False.elim id⟩, fun a z => z.elim⟩
  rw [set_at e1, List.set_set] at q
  exact q
theorem de_var {i : Nat} {x : Str} {pos : Pos} (hN : X.N[i]? = some x) (hv : Vis X.env.scope x) (hd : (x == ("__debug__" : Str)) = false := by decide) (hcd : (x == ("__classdict__" : Str)) = false := by decide) : DE C E X (.Name x pos) (eVar i) := by
  refine pe_imp (pe_var hN hv hd hcd) fun σ H Q ⟨ρ, S, F, he, w, q⟩ => ?_
  cases e : ρ[i]? with
  | none => unfold eVar at q; rw [e] at q; exact q.elim
  | some r =>
    cases r with
    | none => unfold eVar at q; rw [e] at q; exact q.elim
    | some o =>
      obtain ⟨v, A, B, e1, r, he', w', fr⟩ := share_slot he w e
      refine ⟨v, e1, ?_⟩
      cases o with
      | sh d =>
        have eq : eVar i ρ = .ok (.sh d) ρ := by unfold eVar; rw [e]
        rw [eq] at q
        obtain ⟨x, A, B, e2, ⟨v', ev, h1⟩, _, _⟩ := he.take e
        rw [e1] at e2
        have : some v = x := by simpa using e2
        subst this
        cases ev
        exact ret_sh he w .refl h1.2 q
      | lst l =>
        have eq : eVar i ρ = .ok (.sh (O.lst l).toD) (ρ.set i (some (.sh (O.lst l).toD))) := by unfold eVar; rw [e]
        rw [eq] at q
        exact ret_sh he' w' fr r q
      | dct l =>
        have eq : eVar i ρ = .ok (.sh (O.dct l).toD) (ρ.set i (some (.sh (O.dct l).toD))) := by unfold eVar; rw [e]
        rw [eq] at q
        exact ret_sh he' w' fr r q
      | ins c l =>
        have eq : eVar i ρ = .ok (.sh (O.ins c l).toD) (ρ.set i (some (.sh (O.ins c l).toD))) := by unfold eVar; rw [e]
        rw [eq] at q
        exact ret_sh he' w' fr r q
/-! argument lists -/
def eNil : Fa := fun ρ => .ok [] ρ
def eCons (f : Fe) (g : Fa) : Fa := fun ρ => (f ρ).bind fun o ρ1 => (g ρ1).bind fun os ρ2 => .ok (o :: os) ρ2
theorem da_nil : DA C E X [] eNil := by
  refine pa_imp pa_nil fun σ H Q ⟨ρ, S, F, he, w, q⟩ => ?_
  exact q [] H S F No he ⟨rfl, emp_no⟩ (wf_no w) dj_no (fr_no .refl)
theorem un_assoc {A B D : Set'} : Un' A (Un' B D) = Un' (Un' A B) D := by
  funext a; apply propext; constructor
  · rintro (h | h | h)
    · exact .inl (.inl h)
    · exact .inl (.inr h)
    · exact .inr h
  · rintro ((h | h) | h)
    · exact .inl h
    · exact .inr (.inl h)
    · exact .inr (.inr h)
theorem dj_un {A B D : Set'} (h : Dj A (Un' B D)) (h2 : Dj B D) : Dj A B ∧ Dj (Un' A B) D := ⟨fun a x y => h a x (.inl y), fun a x y => x.elim (fun x => h a x (.inr y)) fun x => h2 a x y⟩
theorem da_cons {e : Expr} {es : List Expr} {f : Fe} {g : Fa} (h1 : DE C E X e f) (h2 : DA C E X es g) (hs : starEach (e :: es) X.env = (false, eval e X.env) :: starEach es X.env := by rfl) : DA C E X (e :: es) (eCons f g) := by
  refine pa_imp (pa_cons h1 h2 hs) fun σ H Q ⟨ρ, S, F, he, w, q⟩ => ⟨ρ, S, F, he, w, ?_⟩
  unfold eCons at q
  cases ef : f ρ with
  | bad => rw [ef] at q; exact q
  | exc x ρ' => rw [ef] at q; exact q
  | ok o ρ1 =>
    rw [ef] at q
    intro v H1 S1 F1 A he1 r1 w1 d1 fr1
    refine ⟨ρ1, S1, F1, he1, w1.drop, ?_⟩
    simp only [bind_ok] at q
    cases eg : g ρ1 with
    | bad => rw [eg] at q; exact q
    | exc x ρ' =>
      rw [eg] at q
      intro c d H2 S2 F2 he2 w2 fr2 rx
      exact q c d H2 S2 F2 he2 w2 (fr1.drop.trans fr2) rx
    | ok os ρ2 =>
      rw [eg] at q
      intro vs H2 S2 F2 B he2 r2 w2 d2 fr2
      obtain ⟨ka, d3, w3, fr3, k⟩ := fr_tmp w1 d1 fr1 fr2 w2
      obtain ⟨d4, d5⟩ := dj_un d3 d2
      have r1' := r1.mono k ka
      rw [un_assoc] at w3 fr3
      exact q (v :: vs) H2 S2 F2 (Un' A B) he2 ⟨v, vs, A, B, rfl, r1', r2, ⟨fun a => Iff.rfl, d4⟩⟩ w3 d5 fr3
end
end G
end

section
set_option maxRecDepth 100000
set_option maxHeartbeats 2000000
open PySem PySem.Spec PyProof.Rows L2
namespace G
structure Alc (H : Hp) (S : Set') (H' : Hp) (S' A : Set') : Prop where
  keep : ∀ a u, H a = some u → H' a = some u
  sub : ∀ a, S a → S' a
  new : ∀ a, S' a → S a ∨ H a = none
  fr : ∀ a, A a → H a = none ∧ Mo (H' a) ∧ ¬ S' a
  so : ∀ a, S' a → ∃ u, H' a = some u
def So (H : Hp) (S : Set') : Prop := ∀ a, S a → ∃ u, H a = some u
theorem Alc.refl {H : Hp} {S : Set'} (so : So H S) : Alc H S H S No := ⟨fun _ _ e => e, fun _ h => h, fun _ h => .inl h, fun _ h => h.elim, so⟩
theorem Alc.tup {H : Hp} {S : Set'} {p : Addr} {o : HO} (so : So H S) (n : H p = none) : Alc H S (upd H p o) S No :=
  ⟨fun a u e => by rw [upd_ne (ne_of_none e n)]; exact e, fun _ h => h, fun _ h => .inl h, fun _ h => h.elim, fun a s => by
    obtain ⟨u, e⟩ := so a s
    exact ⟨u, by rw [upd_ne (ne_of_none e n)]; exact e⟩⟩
/-- a new owned object -/
theorem Alc.own {H : Hp} {S : Set'} {p : Addr} {o : HO} (so : So H S) (n : H p = none) (m : Mo (some o)) : Alc H S (upd H p o) S (fun b => b = p) :=
  ⟨fun a u e => by rw [upd_ne (ne_of_none e n)]; exact e, fun _ h => h, fun _ h => .inl h, fun a h => by
    subst h
    exact ⟨n, by rw [upd_same]; exact m, fun s => by obtain ⟨u, e⟩ := so _ s; rw [n] at e; cases e⟩, fun a s => by
    obtain ⟨u, e⟩ := so a s
    exact ⟨u, by rw [upd_ne (ne_of_none e n)]; exact e⟩⟩
/-- a new shared object -/
theorem Alc.shr {H : Hp} {S : Set'} {p : Addr} {o : HO} (so : So H S) (n : H p = none) : Alc H S (upd H p o) (Un' S fun b => b = p) No :=
  ⟨fun a u e => by rw [upd_ne (ne_of_none e n)]; exact e, fun _ => .inl, fun a h => h.elim .inl fun e => .inr (by rw [e]; exact n), fun _ h => h.elim, fun a s => by
    rcases s with s | s
    · obtain ⟨u, e⟩ := so a s
      exact ⟨u, by rw [upd_ne (ne_of_none e n)]; exact e⟩
    · exact ⟨o, by rw [s, upd_same]⟩⟩
theorem Alc.kp {H H' : Hp} {S S' A : Set'} (x : Alc H S H' S' A) : Kp H S H' S' := ⟨fun a u _ _ e => x.keep a u e, fun a u _ _ e => x.keep a u e, x.sub⟩
section
variable {C : Cn} {E : WX} {X : Cx} {σ : L2.St} {H H1 H' : Hp} {S S1 S' F F1 A : Set'} {ρ ρ' : Env'}
theorem alc_step (he : RepE C H1 S1 σ ρ F1) (w : Wf C H1 S1 F1) (x : Fr C H S F H1 S1 F1) (y : Alc H1 S1 H' S' A) :
    RepE C H' S' σ ρ F1 ∧ Wf C H' S' (Un' A F1) ∧ Dj A F1 ∧ Fr C H S F H' S' (Un' A F1) := by
  have ka : ∀ a, F1 a → H' a = H1 a := fun a f => by
    obtain ⟨u, e⟩ := mut_some (w.mu a f)
    rw [e]; exact y.keep a u e
  have fr : Fr C H1 S1 F1 H' S' (Un' A F1) := ⟨fun a u e _ _ => y.keep a u e, y.sub, fun a s => (y.new a s).elim .inl fun e => .inr (.inr e), fun a f => f.elim (fun f => .inr (y.fr a f).1) .inl, .all y.keep⟩
  refine ⟨he.mono y.kp ka, ⟨fun a f => ?_, fun a f s => ?_, y.so, w.tb.ext y.keep⟩, fun a f g => ?_, x.trans fr⟩
  · rcases f with f | f
    · exact (y.fr a f).2.1
    · rw [ka a f]; exact w.mu a f
  · rcases f with f | f
    · exact (y.fr a f).2.2 s
    · rcases y.new a s with q | q
      · exact w.ns a f q
      · obtain ⟨u, e⟩ := mut_some (w.mu a f)
        rw [q] at e; cases e
  · obtain ⟨u, e⟩ := mut_some (w.mu a g)
    rw [(y.fr a f).1] at e; cases e
def rV2 (C : Cn) (g : D → D → Option O) : R2 := fun x y H Q => ∃ S dx dy, So H S ∧ RepD C H S x dx ∧ RepD C H S y dy ∧ ∃ o, g dx dy = some o ∧ ∀ v H' S' A, Alc H S H' S' A → RepO C H' S' v o A → Q v H'
def rV1 (C : Cn) (g : D → Option O) : V → Hp → VK → Prop := fun x H Q => ∃ S dx, So H S ∧ RepD C H S x dx ∧ ∃ o, g dx = some o ∧ ∀ v H' S' A, Alc H S H' S' A → RepO C H' S' v o A → Q v H'
def rVn (C : Cn) (g : List D → Option O) : List V → Hp → VK → Prop := fun xs H Q => ∃ S ds, So H S ∧ RepDs C H S xs ds ∧ ∃ o, g ds = some o ∧ ∀ v H' S' A, Alc H S H' S' A → RepO C H' S' v o A → Q v H'
def fin (o : Option O) (ρ : Env') : Out O := match o with
  | some o => .ok o ρ
  | none => .bad
@[simp] theorem fin_some (o : O) (ρ : Env') : fin (some o) ρ = .ok o ρ := rfl
@[simp] theorem fin_none (ρ : Env') : fin none ρ = .bad := rfl
def e1 (g : D → Option O) (f : Fe) : Fe := fun ρ => (f ρ).bind fun a ρ1 => fin (g a.toD) ρ1
def e2 (g : D → D → Option O) (f h : Fe) : Fe := fun ρ => (f ρ).bind fun a ρ1 => (h ρ1).bind fun b ρ2 => fin (g a.toD b.toD) ρ2
def eN (g : List D → Option O) (f : Fa) : Fe := fun ρ => (f ρ).bind fun as ρ1 => fin (g (toDs as)) ρ1
/-- behind an operation by values -/
theorem fin_op {Q : VK} {o : O} {og : Option O} (he : RepE C H1 S1 σ ρ F1) (w : Wf C H1 S1 F1) (x : Fr C H S F H1 S1 F1) (eo : og = some o)
    (q : match fin og ρ with
      | .ok o ρ' => ∀ v H' S' F' A, RepE C H' S' σ ρ' F' → RepO C H' S' v o A → Wf C H' S' (Un' A F') → Dj A F' → Fr C H S F H' S' (Un' A F') → Q v H'
      | .exc x ρ' => ∀ c d H' S' F', RepE C H' S' σ ρ' F' → Wf C H' S' F' → Fr C H S F H' S' F' → RepXn C H' S' x c d → E c d σ H'
      | .bad => False) : ∀ v H' S' A, Alc H1 S1 H' S' A → RepO C H' S' v o A → Q v H' := by
  subst eo
  intro v H' S' A y r
  obtain ⟨he', w', d, fr⟩ := alc_step he w x y
  exact q v H' S' F1 A he' r w' d fr
theorem fin_bad {Q : VK} {og : Option O} (q : match fin og ρ with
      | .ok o ρ' => ∀ v H' S' F' A, RepE C H' S' σ ρ' F' → RepO C H' S' v o A → Wf C H' S' (Un' A F') → Dj A F' → Fr C H S F H' S' (Un' A F') → Q v H'
      | .exc x ρ' => ∀ c d H' S' F', RepE C H' S' σ ρ' F' → Wf C H' S' F' → Fr C H S F H' S' F' → RepXn C H' S' x c d → E c d σ H'
      | .bad => False) : ∃ o, og = some o := by
  cases og with
  | none => exact q.elim
  | some o => exact ⟨o, rfl⟩
theorem r1_of {f : Fe} {g : D → Option O} {Q : VK} (q : rE C E (e1 g f) σ H Q) : rE C E f σ H (fun x H1 => rV1 C g x H1 Q) := by
  obtain ⟨ρ, S, F, he, w, q⟩ := q
  refine ⟨ρ, S, F, he, w, ?_⟩
  unfold e1 at q
  cases ef : f ρ with
  | bad => rw [ef] at q; exact q
  | exc x ρ' => rw [ef] at q; exact q
  | ok o ρ1 =>
    rw [ef] at q
    intro v H1 S1 F1 A he1 r1 w1 d1 fr1
    simp only [bind_ok] at q
    obtain ⟨o', eo⟩ := fin_bad q
    have k : Kp H1 S1 H1 (Un' S1 A) := ⟨fun _ _ _ _ e => e, fun _ _ _ _ e => e, fun _ => .inl⟩
    have w2 := w1.share d1
    exact ⟨Un' S1 A, o.toD, w2.so, r1.share (fun _ => .inl) (fun _ => .inr), o', eo, fin_op (he1.mono k fun _ _ => rfl) w2 fr1.share eo q⟩
theorem r2_of {f h : Fe} {g : D → D → Option O} {Q : VK} (q : rE C E (e2 g f h) σ H Q) : rE C E f σ H (fun x H1 => rE C E h σ H1 fun y H2 => rV2 C g x y H2 Q) := by
  obtain ⟨ρ, S, F, he, w, q⟩ := q
  refine ⟨ρ, S, F, he, w, ?_⟩
  unfold e2 at q
  cases ef : f ρ with
  | bad => rw [ef] at q; exact q
  | exc x ρ' => rw [ef] at q; exact q
  | ok o ρ1 =>
    rw [ef] at q
    intro v H1 S1 F1 A he1 r1 w1 d1 fr1
    simp only [bind_ok] at q
    refine ⟨ρ1, S1, F1, he1, w1.drop, ?_⟩
    cases eg : h ρ1 with
    | bad => rw [eg] at q; exact q
    | exc x ρ' =>
      rw [eg] at q
      intro c d H2 S2 F2 he2 w2 fr2 rx
      exact q c d H2 S2 F2 he2 w2 (fr1.drop.trans fr2) rx
    | ok o2 ρ2 =>
      rw [eg] at q
      simp only [bind_ok] at q
      intro v2 H2 S2 F2 B he2 r2 w2 d2 fr2
      obtain ⟨o', eo⟩ := fin_bad q
      obtain ⟨ka, d3, w3, fr3, k⟩ := fr_tmp w1 d1 fr1 fr2 w2
      obtain ⟨d4, d5⟩ := dj_un d3 d2
      have r1' := r1.mono k ka
      rw [un_assoc] at w3 fr3
      have k' : Kp H2 S2 H2 (Un' S2 (Un' A B)) := ⟨fun _ _ _ _ e => e, fun _ _ _ _ e => e, fun _ => .inl⟩
      have w4 := w3.share d5
      exact ⟨Un' S2 (Un' A B), o.toD, o2.toD, w4.so, r1'.share (fun _ => .inl) (fun _ z => .inr (.inl z)), r2.share (fun _ => .inl) (fun _ z => .inr (.inr z)), o', eo,
        fin_op (he2.mono k' fun _ _ => rfl) w4 fr3.share eo q⟩
theorem rn_of {f : Fa} {g : List D → Option O} {Q : VK} (q : rE C E (eN g f) σ H Q) : rA C E f σ H (fun xs H1 => rVn C g xs H1 Q) := by
  obtain ⟨ρ, S, F, he, w, q⟩ := q
  refine ⟨ρ, S, F, he, w, ?_⟩
  unfold eN at q
  cases ef : f ρ with
  | bad => rw [ef] at q; exact q
  | exc x ρ' => rw [ef] at q; exact q
  | ok os ρ1 =>
    rw [ef] at q
    intro v H1 S1 F1 A he1 r1 w1 d1 fr1
    simp only [bind_ok] at q
    obtain ⟨o', eo⟩ := fin_bad q
    have k : Kp H1 S1 H1 (Un' S1 A) := ⟨fun _ _ _ _ e => e, fun _ _ _ _ e => e, fun _ => .inl⟩
    have w2 := w1.share d1
    exact ⟨Un' S1 A, toDs os, w2.so, r1.share (fun _ => .inl) (fun _ => .inr), o', eo, fin_op (he1.mono k fun _ _ => rfl) w2 fr1.share eo q⟩
/-! operators, comparisons, built-in calls by values -/
theorem de_op {a b : Expr} {op : Operator} {pos : Pos} {f h : Fe} {g : D → D → Option O} (ho : OpR X (binaryOp op) (rV2 C g)) (ha : DE C E X a f) (hb : DE C E X b h) : DE C E X (.BinOp a op b pos) (e2 g f h) :=
  pe_imp (pe_op ho ha hb) fun _ _ _ q => r2_of q
theorem de_un {a : Expr} {op : UnaryOp} {pos : Pos} {f : Fe} {g : D → Option O} (ho : UnR X (unaryOp op) (rV1 C g)) (ha : DE C E X a f) : DE C E X (.UnaryOp op a pos) (e1 g f) :=
  pe_imp (pe_un ho ha) fun _ _ _ q => r1_of q
theorem de_cmp {a b : Expr} {op : CmpOp} {pos : Pos} {f h : Fe} {g : D → D → Option O} (ho : OpR X (compareOp op) (rV2 C g)) (ha : DE C E X a f) (hb : DE C E X b h) (hm : behindInMarks op b = false) : DE C E X (.Compare a [op] [b] pos) (e2 g f h) :=
  pe_imp (pe_cmpR ho ha hb hm) fun _ _ _ q => r2_of q
theorem de_callB {x : Str} {p pos : Pos} {e : Expr} {es : List Expr} {id : String} {g : List D → Option O} {f : Fa} (hc : CallR X (.builtin id) (rVn C g)) (hg : Gl X x) (hm : X.mg x = none) (hv : bootBuiltins x = some (.builtin id)) (ha : DA C E X (e :: es) f) (hn : x ≠ "__name__" := by decide) (hdb : (x == ("__debug__" : Str)) = false := by decide)
    (he : starEach (e :: es) X.env = (false, eval e X.env) :: starEach es X.env := by rfl) (hpl : (backTo pos (starEach es X.env)).any (·.1) = false := by rfl) : DE C E X (.Call (.Name x p) (e :: es) [] pos) (eN g f) :=
  pe_imp (pe_callB hc hg hm hv ha hn hdb he hpl) fun _ _ _ q => rn_of q
theorem de_callTy {x : Str} {p pos : Pos} {e : Expr} {es : List Expr} {T : String} {g : List D → Option O} {f : Fa} (hc : CallR X (.type T) (rVn C g)) (hg : Gl X x) (hm : X.mg x = none) (hv : bootBuiltins x = some (.type T)) (ha : DA C E X (e :: es) f) (hn : x ≠ "__name__" := by decide) (hdb : (x == ("__debug__" : Str)) = false := by decide)
    (he : starEach (e :: es) X.env = (false, eval e X.env) :: starEach es X.env := by rfl) (hpl : (backTo pos (starEach es X.env)).any (·.1) = false := by rfl) : DE C E X (.Call (.Name x p) (e :: es) [] pos) (eN g f) :=
  pe_imp (pe_callTy hc hg hm hv ha hn hdb he hpl) fun _ _ _ q => rn_of q
/-! displays -/
theorem one_line {n : Nat} (h : n ≤ 1000) : n ≤ sizeLine := Nat.le_trans h (by decide)
theorem RepOs.len : ∀ {vs : List V} {os : List O} {A : Set'}, RepOs C H S vs os A → vs.length = os.length
  | _, [], _, h => by rw [h.1]; rfl
  | _, o :: os, _, h => by
    obtain ⟨v, r, A, B, e, _, h2, _⟩ := h
    rw [e, List.length_cons, List.length_cons, h2.len]
theorem RepDs.len : ∀ {vs : List V} {ds : List D}, RepDs C H S vs ds → vs.length = ds.length
  | _, [], h => by rw [show _ = [] from h]; rfl
  | _, d :: ds, h => by
    obtain ⟨v, r, e, _, h2⟩ := h
    rw [e, List.length_cons, List.length_cons, h2.len]
def eTup (f : Fa) : Fe := fun ρ => (f ρ).bind fun os ρ1 => if os.length ≤ 1000 then .ok (.sh (.tup (toDs os))) ρ1 else .bad
def eLst (f : Fa) : Fe := fun ρ => (f ρ).bind fun os ρ1 => if os.length ≤ 1000 then .ok (.lst os) ρ1 else .bad
theorem de_tup {es : List Expr} {x1} {pos : Pos} {f : Fa} (h : DA C E X es f) : DE C E X (.Tuple es x1 pos) (eTup f) := by
  refine pe_imp (pe_tup h) fun σ H Q ⟨ρ, S, F, he, w, q⟩ => ⟨ρ, S, F, he, w, ?_⟩
  unfold eTup at q
  cases ef : f ρ with
  | bad => rw [ef] at q; exact q
  | exc x ρ' => rw [ef] at q; exact q
  | ok os ρ1 =>
    rw [ef] at q
    intro vs H1 S1 F1 A he1 r1 w1 d1 fr1
    simp only [bind_ok] at q
    by_cases hl : os.length ≤ 1000
    · rw [if_pos hl] at q
      refine ⟨one_line (by rw [r1.len]; exact hl), fun p hp => ?_⟩
      have k : Kp H1 S1 H1 (Un' S1 A) := ⟨fun _ _ _ _ e => e, fun _ _ _ _ e => e, fun _ => .inl⟩
      have w2 := w1.share d1
      have al := Alc.tup (o := .tup vs) (so := w2.so) hp
      obtain ⟨he', w', d, fr⟩ := alc_step (he1.mono k fun _ _ => rfl) w2 fr1.share al
      exact q (.ref p) _ _ F1 No he' ⟨emp_no, p, vs, rfl, upd_same, (r1.share (fun _ => .inl) fun _ => .inr).mono al.kp⟩ w' d fr
    · rw [if_neg hl] at q; exact q.elim
theorem de_lst {es : List Expr} {pos : Pos} {f : Fa} (h : DA C E X es f) : DE C E X (.List es pos) (eLst f) := by
  refine pe_imp (pe_lst h) fun σ H Q ⟨ρ, S, F, he, w, q⟩ => ⟨ρ, S, F, he, w, ?_⟩
  unfold eLst at q
  cases ef : f ρ with
  | bad => rw [ef] at q; exact q
  | exc x ρ' => rw [ef] at q; exact q
  | ok os ρ1 =>
    rw [ef] at q
    intro vs H1 S1 F1 A he1 r1 w1 d1 fr1
    simp only [bind_ok] at q
    by_cases hl : os.length ≤ 1000
    · rw [if_pos hl] at q
      refine ⟨one_line (by rw [r1.len]; exact hl), fun p hp => ?_⟩
      have al := Alc.own (o := .lst vs) (so := w1.so) hp trivial
      have he2 : RepE C (upd H1 p (.lst vs)) S1 σ ρ1 F1 := he1.mono al.kp fun a f => by
        obtain ⟨u, e⟩ := mut_some (w1.mu a (.inr f))
        rw [e]; exact al.keep a u e
      have kA : ∀ a, A a → upd H1 p (.lst vs) a = H1 a := fun a f => by
        obtain ⟨u, e⟩ := mut_some (w1.mu a (.inl f))
        rw [e]; exact al.keep a u e
      have kF : ∀ a, F1 a → upd H1 p (.lst vs) a = H1 a := fun a f => by
        obtain ⟨u, e⟩ := mut_some (w1.mu a (.inr f))
        rw [e]; exact al.keep a u e
      have np : ∀ a, Un' A F1 a → a ≠ p := fun a f e => by
        obtain ⟨u, q⟩ := mut_some (w1.mu a f)
        rw [e, hp] at q; cases q
      refine q (.ref p) _ S1 F1 (Un' (fun b => b = p) A) he2 ⟨p, vs, A, rfl, upd_same, r1.mono al.kp kA, fun a => Iff.rfl, fun a e f => np a (.inl f) e⟩ ⟨fun a f => ?_, fun a f s => ?_, al.so, w1.tb.ext al.keep⟩ (fun a f g => ?_) ⟨fun a u e n nt => al.keep a u (fr1.keep a u e n nt), fr1.sub, fr1.new, fun a f => ?_, fr1.tk.trans (.all al.keep)⟩
      · rcases f with (f | f) | f
        · exact (al.fr a f).2.1
        · rw [kA a f]; exact w1.mu a (.inl f)
        · rw [kF a f]; exact w1.mu a (.inr f)
      · rcases f with (f | f) | f
        · exact (al.fr a f).2.2 s
        · exact w1.ns a (.inl f) s
        · exact w1.ns a (.inr f) s
      · rcases f with f | f
        · exact np a (.inr g) f
        · exact d1 a f g
      · rcases f with (f | f) | f
        · obtain rfl : a = p := f
          exact fr1.nn hp
        · exact fr1.fnew a (.inl f)
        · exact fr1.fnew a (.inr f)
    · rw [if_neg hl] at q; exact q.elim
end
end G
end

section
set_option maxRecDepth 100000
set_option maxHeartbeats 2000000
open PySem PySem.Spec PyProof.Rows L2
namespace G
/-! == of plain data -/
mutual
def D.eqD : D → D → Bool
  | .non, .non => true
  | .bl a, .bl b => a == b
  | .bl a, .int b => (if a then 1 else 0) == b
  | .int a, .bl b => a == (if b then 1 else 0)
  | .int a, .int b => a == b
  | .str a, .str b => a == b
  | .tup l, .tup m => eqDs l m
  | .lst l, .lst m => eqDs l m
  | _, _ => false
def eqDs : List D → List D → Bool
  | [], [] => true
  | d :: l, e :: m => d.eqD e && eqDs l m
  | _, _ => false
end
mutual
/-- plain data of a depth of at most n -/
def D.pl : Nat → D → Bool
  | _, .non => true
  | _, .bl _ => true
  | _, .int _ => true
  | _, .str _ => true
  | n + 1, .tup l => plAll n l
  | n + 1, .lst l => plAll n l
  | _, _ => false
def plAll : Nat → List D → Bool
  | _, [] => true
  | n, d :: l => d.pl n && plAll n l
end
theorem plAll_mem : ∀ {n : Nat} {l : List D} {d : D}, plAll n l = true → d ∈ l → d.pl n = true
  | n, e :: l, d, h, hm => by
    have h' : e.pl n = true ∧ plAll n l = true := by simpa [plAll] using h
    rcases List.mem_cons.mp hm with rfl | hm
    · exact h'.1
    · exact plAll_mem h'.2 hm
  | n, [], d, h, hm => by simp at hm
mutual
theorem eqD_refl : ∀ (d : D) (n : Nat), d.pl n = true → d.eqD d = true
  | .non, _, _ => rfl
  | .bl b, _, _ => by simp [D.eqD]
  | .int b, _, _ => by simp [D.eqD]
  | .str b, _, _ => by simp [D.eqD]
  | .tup l, 0, h => by simp [D.pl] at h
  | .tup l, n + 1, h => eqDs_refl l n (by simpa [D.pl] using h)
  | .lst l, 0, h => by simp [D.pl] at h
  | .lst l, n + 1, h => eqDs_refl l n (by simpa [D.pl] using h)
  | .dct l, n, h => by simp [D.pl] at h
  | .ins _ l, n, h => by simp [D.pl] at h
  | .exn _ l, n, h => by simp [D.pl] at h
  | .cl _, n, h => by simp [D.pl] at h
theorem eqDs_refl : ∀ (l : List D) (n : Nat), plAll n l = true → eqDs l l = true
  | [], _, _ => rfl
  | d :: l, n, h => by
    have h' : d.pl n = true ∧ plAll n l = true := by simpa [plAll] using h
    simp [eqDs, eqD_refl d n h'.1, eqDs_refl l n h'.2]
end
def eqAtJ (l m : List D) (j : Nat) : Bool := match l[j]?, m[j]? with
  | some d, some e => d.eqD e
  | _, _ => false
theorem eqDs_all : ∀ {l m : List D}, l.length = m.length → eqDs l m = (List.range l.length).all (eqAtJ l m)
  | [], [], _ => rfl
  | d :: l, e :: m, h => by
    have h' : l.length = m.length := by simpa using h
    rw [eqDs, eqDs_all h', List.length_cons, List.range_succ_eq_map, List.all_cons, List.all_map]
    rfl
theorem eqDs_len : ∀ {l m : List D}, l.length ≠ m.length → eqDs l m = false
  | [], [], h => (h rfl).elim
  | [], _ :: _, _ => rfl
  | _ :: _, [], _ => rfl
  | d :: l, e :: m, h => by
    have h' : l.length ≠ m.length := by simpa using h
    rw [eqDs, eqDs_len h', Bool.and_false]
theorem eqDs_min : ∀ {l m : List D}, eqDs l m = ((List.range (min l.length m.length)).all (eqAtJ l m) && l.length == m.length) := by
  intro l m
  by_cases h : l.length = m.length
  · rw [eqDs_all h, ← h, Nat.min_self]; simp
  · rw [eqDs_len h]
    have : (l.length == m.length) = false := by simpa using h
    rw [this, Bool.and_false]
theorem RepDs.get {C : Cn} {H : Hp} {S : Set'} : ∀ {vs : List V} {ds : List D} {i : Nat} {d : D}, RepDs C H S vs ds → ds[i]? = some d → ∃ v, vs[i]? = some v ∧ RepD C H S v d
  | _, [], _, _, _, e => by simp at e
  | _, d :: ds, 0, d', h, e => by
    obtain ⟨v, r, e1, h1, h2⟩ := h
    have q : d = d' := by simpa using e
    subst q
    exact ⟨v, by rw [e1]; rfl, h1⟩
  | _, d :: ds, i + 1, d', h, e => by
    obtain ⟨v, r, e1, h1, h2⟩ := h
    obtain ⟨u, e2, r2⟩ := h2.get (i := i) (d := d') (by simpa using e)
    exact ⟨u, by rw [e1]; simpa using e2, r2⟩
section
variable {C : Cn} {X : Cx} {pins : List (Addr × Obj)} {σ : L2.St} {H : Hp} {s : Shared} {S S' : Set'}
theorem kl_sq {K : PySem.W.Frag} {H : Hp} {a : Addr} {vs : List V} (h : KL K a vs) : SqL K H a vs := by
  obtain ⟨z, its, n, r, e⟩ := h
  exact .inr ⟨_, its.toArray, n, e, rfl, rfl, rfl, by rw [List.size_toArray, ← r.length]; exact z, r⟩
theorem lst_sq0 {K : PySem.W.Frag} {H : Hp} {S : Set'} {a : Addr} {vs : List V} (h : LstD K H S a vs) : SqL K H a vs := h.elim (fun h => .inl h.2) kl_sq
theorem lst_sq (hK : X.K = C.K) {a : Addr} {vs : List V} (h : LstD C.K H S a vs) : SqL X.K H a vs := by rw [hK]; exact lst_sq0 h
theorem tup_sq (hK : X.K = C.K) {a : Addr} {vs : List V} (h : H a = some (.tup vs)) : SqT X.K H a vs := SqT.of h
theorem not_both (I : Inv X pins σ H s) {a : Addr} {vs ws : List V} (h : SqL X.K H a vs) (h' : SqT X.K H a ws) : False := by
  obtain ⟨its, _, ⟨o, n, e, c, _⟩, _⟩ := I.list h
  obtain ⟨its2, _, ⟨o2, e2, c2, _⟩, _⟩ := I.tuple h'
  rw [e] at e2
  have : o = o2 := Option.some.inj e2
  subst this
  rw [c] at c2
  exact absurd c2 (by decide)
mutual
theorem repD_inj (hK : X.K = C.K) (I : Inv X pins σ H s) : ∀ (d e : D) (n m : Nat) (v : V), d.pl n = true → e.pl m = true → RepD C H S v d → RepD C H S' v e → d = e
  | .non, e, n, m, v, h1, h2, r, q => by
    have : v = .non := r
    subst this
    cases e <;> simp [RepD, D.pl] at q h2 ⊢
  | .bl b, e, n, m, v, h1, h2, r, q => by
    have : v = .bl b := r
    subst this
    cases e <;> simp [RepD, D.pl] at q h2 ⊢
    exact q
  | .int b, e, n, m, v, h1, h2, r, q => by
    have : v = .int b := r
    subst this
    cases e <;> simp [RepD, D.pl] at q h2 ⊢
    exact q
  | .str b, e, n, m, v, h1, h2, r, q => by
    have : v = .str b := r
    subst this
    cases e <;> simp [RepD, D.pl] at q h2 ⊢
    exact q
  | .tup l, e, n, m, v, h1, h2, r, q => by
    obtain ⟨a, vs, rfl, ht, hr⟩ := r
    cases n with
    | zero => simp [D.pl] at h1
    | succ n =>
      cases e with
      | non => simp [RepD] at q
      | bl b => simp [RepD] at q
      | int b => simp [RepD] at q
      | str b => simp [RepD] at q
      | tup l' =>
        obtain ⟨b, ws, eb, ht', hr'⟩ := q
        injection eb with eb
        subst eb
        have e1 := I.tuple_inj (tup_sq hK ht) (tup_sq hK ht')
        subst e1
        cases m with
        | zero => simp [D.pl] at h2
        | succ m => rw [repDs_inj hK I l l' n m vs (by simpa [D.pl] using h1) (by simpa [D.pl] using h2) hr hr']
      | lst l' =>
        obtain ⟨b, ws, eb, ht', hr'⟩ := q
        injection eb with eb
        subst eb
        exact (not_both I (lst_sq hK ht') (tup_sq hK ht)).elim
      | dct l' => simp [D.pl] at h2
      | ins c l' => simp [D.pl] at h2
      | exn c l' => simp [D.pl] at h2
      | cl c0 => simp [D.pl] at h2
  | .lst l, e, n, m, v, h1, h2, r, q => by
    obtain ⟨a, vs, rfl, ht, hr⟩ := r
    cases n with
    | zero => simp [D.pl] at h1
    | succ n =>
      cases e with
      | non => simp [RepD] at q
      | bl b => simp [RepD] at q
      | int b => simp [RepD] at q
      | str b => simp [RepD] at q
      | lst l' =>
        obtain ⟨b, ws, eb, ht', hr'⟩ := q
        injection eb with eb
        subst eb
        have e1 := I.list_inj (lst_sq hK ht) (lst_sq hK ht')
        subst e1
        cases m with
        | zero => simp [D.pl] at h2
        | succ m => rw [repDs_inj hK I l l' n m vs (by simpa [D.pl] using h1) (by simpa [D.pl] using h2) hr hr']
      | tup l' =>
        obtain ⟨b, ws, eb, ht', hr'⟩ := q
        injection eb with eb
        subst eb
        exact (not_both I (lst_sq hK ht) (tup_sq hK ht')).elim
      | dct l' => simp [D.pl] at h2
      | ins c l' => simp [D.pl] at h2
      | exn c l' => simp [D.pl] at h2
      | cl c0 => simp [D.pl] at h2
  | .dct l, e, n, m, v, h1, h2, r, q => by simp [D.pl] at h1
  | .ins _ l, e, n, m, v, h1, h2, r, q => by simp [D.pl] at h1
  | .exn _ l, e, n, m, v, h1, h2, r, q => by simp [D.pl] at h1
  | .cl _, e, n, m, v, h1, h2, r, q => by simp [D.pl] at h1
theorem repDs_inj (hK : X.K = C.K) (I : Inv X pins σ H s) : ∀ (l m : List D) (n k : Nat) (vs : List V), plAll n l = true → plAll k m = true → RepDs C H S vs l → RepDs C H S' vs m → l = m
  | [], [], _, _, _, _, _, _, _ => rfl
  | [], e :: m, _, _, vs, _, _, r, q => by
    have : vs = [] := r
    subst this
    obtain ⟨_, _, e, _⟩ := q
    cases e
  | d :: l, [], _, _, vs, _, _, r, q => by
    have : vs = [] := q
    subst this
    obtain ⟨_, _, e, _⟩ := r
    cases e
  | d :: l, e :: m, n, k, vs, h1, h2, r, q => by
    obtain ⟨v, t, rfl, r1, r2⟩ := r
    obtain ⟨v', t', e1, q1, q2⟩ := q
    injection e1 with e1 e2
    subst e1 e2
    have h1' : d.pl n = true ∧ plAll n l = true := by simpa [plAll] using h1
    have h2' : e.pl k = true ∧ plAll k m = true := by simpa [plAll] using h2
    rw [repD_inj hK I d e n k v h1'.1 h2'.1 r1 q1, repDs_inj hK I l m n k t h1'.2 h2'.2 r2 q2]
end
theorem vals_get {vs : List V} {us : List Value} {j : Nat} (r : Vals vs us) {v : V} (e : vs[j]? = some v) (h : j < us.length) : RelV v us[j] := by
  obtain ⟨u, e2, r2⟩ := r.get e
  have : us[j]? = some us[j] := by simp [h]
  rw [this] at e2
  cases e2
  exact r2
open PySem.SeqAt in
theorem eq_at (hK : X.K = C.K) (I : Inv X pins σ H s) : ∀ (n : Nat) (A : Around), A.units + n < cLine → ∀ (d e : D) (v u : V) (v' u' : Value), d.pl n = true → e.pl n = true → RepD C H S v d → RepD C H S' u e → RelV v v' → RelV u u' →
    EqAt A s v' u' (d.eqD e) := by
  intro n
  induction n with
  | zero =>
    intro A hA d e v u v' u' h1 h2 r q rv ru
    cases d <;> simp [D.pl] at h1 <;> simp only [RepD] at r <;> subst r <;> cases e <;> simp [D.pl] at h2 <;> simp only [RepD] at q <;> subst q
    · cases rv; cases ru; exact EqAt.same _
    · cases rv; cases ru; exact EqAt.none_bool _
    · cases rv; obtain ⟨t, rfl⟩ := ru; exact EqAt.none_int _ _
    · cases rv; obtain ⟨t, rfl⟩ := ru; exact EqAt.none_str _ _
    · cases rv; cases ru; exact EqAt.bool_none _
    · cases rv; cases ru; exact EqAt.bool_bool _ _
    · cases rv; obtain ⟨t, rfl⟩ := ru; exact EqAt.bool_int _ _ _
    · cases rv; obtain ⟨t, rfl⟩ := ru; exact EqAt.bool_str _ _ _
    · obtain ⟨t, rfl⟩ := rv; cases ru; exact EqAt.int_none _ _
    · obtain ⟨t, rfl⟩ := rv; cases ru; exact EqAt.int_bool _ _ _
    · obtain ⟨t, rfl⟩ := rv; obtain ⟨t', rfl⟩ := ru; exact EqAt.int_int _ _ _ _
    · obtain ⟨t, rfl⟩ := rv; obtain ⟨t', rfl⟩ := ru; exact EqAt.int_str _ _ _ _
    · obtain ⟨t, rfl⟩ := rv; cases ru; exact EqAt.str_none _ _
    · obtain ⟨t, rfl⟩ := rv; cases ru; exact EqAt.str_bool _ _ _
    · obtain ⟨t, rfl⟩ := rv; obtain ⟨t', rfl⟩ := ru; exact EqAt.str_int _ _ _ _
    · obtain ⟨t, rfl⟩ := rv; obtain ⟨t', rfl⟩ := ru; exact EqAt.str_str _ _ _ _
  | succ n ih =>
    intro A hA d e v u v' u' h1 h2 r q rv ru
    have isL : ∀ {a : Addr} {vs : List V}, LstD C.K H S a vs ∨ LstD C.K H S' a vs → ∃ its : List Value, Vals vs its ∧ s.heap.IsList a its.toArray := fun {a vs} h => by
      obtain ⟨its, rr, p, _⟩ := I.list (a := a) (xs := vs) (h.elim (lst_sq hK) (lst_sq hK))
      exact ⟨its, rr, p.isList⟩
    have isT : ∀ {a : Addr} {vs : List V}, H a = some (.tup vs) → ∃ its : List Value, Vals vs its ∧ s.heap.IsTuple a its.toArray := fun {a vs} h => by
      obtain ⟨its, rr, p, _⟩ := I.tuple (tup_sq hK h)
      exact ⟨its, rr, p⟩
    have lo : A.units < cLine := by omega
    have hA1 : A.in1.units + n < cLine := by show A.units + 1 + n < cLine; omega
    cases d with
    | dct l => simp [D.pl] at h1
    | ins c l => simp [D.pl] at h1
    | exn c l => simp [D.pl] at h1
    | cl c0 => simp [D.pl] at h1
    | non =>
      have : v = .non := r
      subst this
      cases rv
      cases e with
      | dct l => simp [D.pl] at h2
      | ins c l => simp [D.pl] at h2
      | exn c l => simp [D.pl] at h2
      | cl c0 => simp [D.pl] at h2
      | non => have : u = .non := q; subst this; cases ru; exact EqAt.same _
      | bl b => have : u = .bl b := q; subst this; cases ru; exact EqAt.none_bool _
      | int b => have : u = .int b := q; subst this; obtain ⟨t, rfl⟩ := ru; exact EqAt.none_int _ _
      | str b => have : u = .str b := q; subst this; obtain ⟨t, rfl⟩ := ru; exact EqAt.none_str _ _
      | tup l => obtain ⟨a, vs, rfl, ht, _⟩ := q; cases ru; obtain ⟨its, _, p⟩ := isT ht; exact EqAt.none_tuple p lo
      | lst l => obtain ⟨a, vs, rfl, ht, _⟩ := q; cases ru; obtain ⟨its, _, p⟩ := isL (.inr ht); exact EqAt.none_list p lo
    | bl c =>
      have : v = .bl c := r
      subst this
      cases rv
      cases e with
      | dct l => simp [D.pl] at h2
      | ins c l => simp [D.pl] at h2
      | exn c l => simp [D.pl] at h2
      | cl c0 => simp [D.pl] at h2
      | non => have : u = .non := q; subst this; cases ru; exact EqAt.bool_none _
      | bl b => have : u = .bl b := q; subst this; cases ru; exact EqAt.bool_bool _ _
      | int b => have : u = .int b := q; subst this; obtain ⟨t, rfl⟩ := ru; exact EqAt.bool_int _ _ _
      | str b => have : u = .str b := q; subst this; obtain ⟨t, rfl⟩ := ru; exact EqAt.bool_str _ _ _
      | tup l => obtain ⟨a, vs, rfl, ht, _⟩ := q; cases ru; obtain ⟨its, _, p⟩ := isT ht; exact EqAt.bool_tuple _ p lo
      | lst l => obtain ⟨a, vs, rfl, ht, _⟩ := q; cases ru; obtain ⟨its, _, p⟩ := isL (.inr ht); exact EqAt.bool_list _ p lo
    | int c =>
      have : v = .int c := r
      subst this
      obtain ⟨t0, rfl⟩ := rv
      cases e with
      | dct l => simp [D.pl] at h2
      | ins c l => simp [D.pl] at h2
      | exn c l => simp [D.pl] at h2
      | cl c0 => simp [D.pl] at h2
      | non => have : u = .non := q; subst this; cases ru; exact EqAt.int_none _ _
      | bl b => have : u = .bl b := q; subst this; cases ru; exact EqAt.int_bool _ _ _
      | int b => have : u = .int b := q; subst this; obtain ⟨t, rfl⟩ := ru; exact EqAt.int_int _ _ _ _
      | str b => have : u = .str b := q; subst this; obtain ⟨t, rfl⟩ := ru; exact EqAt.int_str _ _ _ _
      | tup l => obtain ⟨a, vs, rfl, ht, _⟩ := q; cases ru; obtain ⟨its, _, p⟩ := isT ht; exact EqAt.int_tuple _ _ p lo
      | lst l => obtain ⟨a, vs, rfl, ht, _⟩ := q; cases ru; obtain ⟨its, _, p⟩ := isL (.inr ht); exact EqAt.int_list _ _ p lo
    | str c =>
      have : v = .str c := r
      subst this
      obtain ⟨t0, rfl⟩ := rv
      cases e with
      | dct l => simp [D.pl] at h2
      | ins c l => simp [D.pl] at h2
      | exn c l => simp [D.pl] at h2
      | cl c0 => simp [D.pl] at h2
      | non => have : u = .non := q; subst this; cases ru; exact EqAt.str_none _ _
      | bl b => have : u = .bl b := q; subst this; cases ru; exact EqAt.str_bool _ _ _
      | int b => have : u = .int b := q; subst this; obtain ⟨t, rfl⟩ := ru; exact EqAt.str_int _ _ _ _
      | str b => have : u = .str b := q; subst this; obtain ⟨t, rfl⟩ := ru; exact EqAt.str_str _ _ _ _
      | tup l => obtain ⟨a, vs, rfl, ht, _⟩ := q; cases ru; obtain ⟨its, _, p⟩ := isT ht; exact EqAt.str_tuple _ _ p lo
      | lst l => obtain ⟨a, vs, rfl, ht, _⟩ := q; cases ru; obtain ⟨its, _, p⟩ := isL (.inr ht); exact EqAt.str_list _ _ p lo
    | tup l =>
      obtain ⟨a, vs, rfl, ht, hr⟩ := id r
      cases rv
      obtain ⟨its, rr, p⟩ := isT ht
      cases e with
      | dct l => simp [D.pl] at h2
      | ins c l => simp [D.pl] at h2
      | exn c l => simp [D.pl] at h2
      | cl c0 => simp [D.pl] at h2
      | non => have : u = .non := q; subst this; cases ru; exact EqAt.tuple_none p lo
      | bl b => have : u = .bl b := q; subst this; cases ru; exact EqAt.tuple_bool _ p lo
      | int b => have : u = .int b := q; subst this; obtain ⟨t, rfl⟩ := ru; exact EqAt.tuple_int _ _ p lo
      | str b => have : u = .str b := q; subst this; obtain ⟨t, rfl⟩ := ru; exact EqAt.tuple_str _ _ p lo
      | lst m => obtain ⟨b, ws, rfl, ht2, _⟩ := q; cases ru; obtain ⟨its2, _, p2⟩ := isL (.inr ht2); exact EqAt.tuple_list p p2 lo
      | tup m =>
        obtain ⟨b, ws, rfl, ht2, hr2⟩ := id q
        cases ru
        obtain ⟨its2, rr2, p2⟩ := isT ht2
        by_cases hab : a = b
        · subst hab
          have := repD_inj hK I (.tup l) (.tup m) (n + 1) (n + 1) (.ref a) h1 h2 r q
          rw [← this, eqD_refl _ (n + 1) h1]
          exact EqAt.same _
        · have el : its.toArray.size = l.length := by rw [List.size_toArray, ← rr.length, hr.len]
          have em : its2.toArray.size = m.length := by rw [List.size_toArray, ← rr2.length, hr2.len]
          have := EqAt.of_refs hab (RcAt.tuples (A := A) (e := eqAtJ l m) p p2 lo fun j j1 j2 => by
            have l1 : j < l.length := by rw [← el]; exact j1
            have l2 : j < m.length := by rw [← em]; exact j2
            obtain ⟨x, ex, rx⟩ := hr.get (i := j) (d := l[j]) (by simp [l1])
            obtain ⟨y, ey, ry⟩ := hr2.get (i := j) (d := m[j]) (by simp [l2])
            have e0 : eqAtJ l m j = (l[j]).eqD (m[j]) := by unfold eqAtJ; simp [l1, l2]
            rw [e0]
            exact ih A.in1 hA1 _ _ x y _ _ (plAll_mem (by simpa [D.pl] using h1) (List.getElem_mem l1)) (plAll_mem (by simpa [D.pl] using h2) (List.getElem_mem l2)) rx ry
              (vals_get rr ex (by simpa using j1)) (vals_get rr2 ey (by simpa using j2)))
          rw [el, em, ← eqDs_min] at this
          exact this
    | lst l =>
      obtain ⟨a, vs, rfl, ht, hr⟩ := id r
      cases rv
      obtain ⟨its, rr, p⟩ := isL (.inl ht)
      cases e with
      | dct l => simp [D.pl] at h2
      | ins c l => simp [D.pl] at h2
      | exn c l => simp [D.pl] at h2
      | cl c0 => simp [D.pl] at h2
      | non => have : u = .non := q; subst this; cases ru; exact EqAt.list_none p lo
      | bl b => have : u = .bl b := q; subst this; cases ru; exact EqAt.list_bool _ p lo
      | int b => have : u = .int b := q; subst this; obtain ⟨t, rfl⟩ := ru; exact EqAt.list_int _ _ p lo
      | str b => have : u = .str b := q; subst this; obtain ⟨t, rfl⟩ := ru; exact EqAt.list_str _ _ p lo
      | tup m => obtain ⟨b, ws, rfl, ht2, _⟩ := q; cases ru; obtain ⟨its2, _, p2⟩ := isT ht2; exact EqAt.list_tuple p p2 lo
      | lst m =>
        obtain ⟨b, ws, rfl, ht2, hr2⟩ := id q
        cases ru
        obtain ⟨its2, rr2, p2⟩ := isL (.inr ht2)
        by_cases hab : a = b
        · subst hab
          have := repD_inj hK I (.lst l) (.lst m) (n + 1) (n + 1) (.ref a) h1 h2 r q
          rw [← this, eqD_refl _ (n + 1) h1]
          exact EqAt.same _
        · have el : its.toArray.size = l.length := by rw [List.size_toArray, ← rr.length, hr.len]
          have em : its2.toArray.size = m.length := by rw [List.size_toArray, ← rr2.length, hr2.len]
          by_cases hlen : l.length = m.length
          · have := EqAt.of_refs hab (RcAt.lists (A := A) (e := eqAtJ l m) p p2 (by rw [el, em, hlen]) lo fun j j1 j2 => by
              have l1 : j < l.length := by rw [← el]; exact j1
              have l2 : j < m.length := by rw [← em]; exact j2
              obtain ⟨x, ex, rx⟩ := hr.get (i := j) (d := l[j]) (by simp [l1])
              obtain ⟨y, ey, ry⟩ := hr2.get (i := j) (d := m[j]) (by simp [l2])
              have e0 : eqAtJ l m j = (l[j]).eqD (m[j]) := by unfold eqAtJ; simp [l1, l2]
              rw [e0]
              exact ih A.in1 hA1 _ _ x y _ _ (plAll_mem (by simpa [D.pl] using h1) (List.getElem_mem l1)) (plAll_mem (by simpa [D.pl] using h2) (List.getElem_mem l2)) rx ry
                (vals_get rr ex (by simpa using j1)) (vals_get rr2 ey (by simpa using j2)))
            rw [el, ← eqDs_all hlen] at this
            exact this
          · have := EqAt.of_refs hab (RcAt.lists_lengths (A := A) p p2 (by rw [el, em]; simpa using hlen) lo)
            rw [show (D.lst l).eqD (.lst m) = false from eqDs_len hlen]
            exact this
end
end G
end

section
set_option maxRecDepth 100000
set_option maxHeartbeats 2000000
open PySem PySem.Spec PyProof.Rows L2
namespace G
abbrev bO (b : Bool) : O := .sh (.bl b)
abbrev iO (i : Int) : O := .sh (.int i)
abbrev sO (x : Str) : O := .sh (.str x)
def big : Nat := 1000000
theorem big_line {n : Nat} (h : n ≤ big) : n ≤ sizeLine := Nat.le_trans h (by decide)
/-- the comparisons' own kinds -/
def eqG : D → D → Option Bool
  | .non, .non => some true
  | .non, .int _ => some false | .int _, .non => some false | .non, .bl _ => some false | .bl _, .non => some false | .non, .str _ => some false | .str _, .non => some false
  | .int a, .int b => some (a == b)
  | .bl a, .bl b => some (a == b)
  | .str a, .str b => some (a == b)
  | .int _, .str _ => some false | .str _, .int _ => some false | .bl _, .str _ => some false | .str _, .bl _ => some false
  | .lst l, .lst m => if (plAll 60 l && plAll 60 m) = true then some (eqDs l m) else if l.length = m.length then none else some false
  | .tup l, .tup m => if (plAll 60 l && plAll 60 m) = true then some (eqDs l m) else if (l.isEmpty || m.isEmpty) = true then some (l.isEmpty && m.isEmpty) else none
  | _, _ => none
def gEq (d e : D) : Option O := (eqG d e).map bO
def gNe (d e : D) : Option O := (eqG d e).map fun b => bO (!b)
theorem eqG_l {l m : List D} : eqG (.lst l) (.lst m) = if (plAll 60 l && plAll 60 m) = true then some (eqDs l m) else if l.length = m.length then none else some false := rfl
theorem eqG_t {l m : List D} : eqG (.tup l) (.tup m) = if (plAll 60 l && plAll 60 m) = true then some (eqDs l m) else if (l.isEmpty || m.isEmpty) = true then some (l.isEmpty && m.isEmpty) else none := rfl
theorem gEq_lst {l m : List D} (h : (plAll 60 l && plAll 60 m) = true) : gEq (.lst l) (.lst m) = some (bO (eqDs l m)) := by
  have : eqG (.lst l) (.lst m) = some (eqDs l m) := if_pos h
  unfold gEq; rw [this]; rfl
theorem gNe_lst {l m : List D} (h : (plAll 60 l && plAll 60 m) = true) : gNe (.lst l) (.lst m) = some (bO (!eqDs l m)) := by
  have : eqG (.lst l) (.lst m) = some (eqDs l m) := if_pos h
  unfold gNe; rw [this]; rfl
theorem gEq_tup {l m : List D} (h : (plAll 60 l && plAll 60 m) = true) : gEq (.tup l) (.tup m) = some (bO (eqDs l m)) := by
  have : eqG (.tup l) (.tup m) = some (eqDs l m) := if_pos h
  unfold gEq; rw [this]; rfl
theorem gNe_tup {l m : List D} (h : (plAll 60 l && plAll 60 m) = true) : gNe (.tup l) (.tup m) = some (bO (!eqDs l m)) := by
  have : eqG (.tup l) (.tup m) = some (eqDs l m) := if_pos h
  unfold gNe; rw [this]; rfl
theorem eqDs_nil0 : ∀ l : List D, eqDs l [] = l.isEmpty
  | [] => rfl
  | _ :: _ => rfl
/-- with [] any list is compared -/
theorem gEq_l0 {l : List D} : gEq (.lst l) (.lst []) = some (bO l.isEmpty) := by
  by_cases h : (plAll 60 l && plAll 60 []) = true
  · rw [gEq_lst h, eqDs_nil0]
  · have : eqG (.lst l) (.lst []) = some l.isEmpty := by
      rw [eqG_l, if_neg h]
      cases l with
      | nil => exact absurd rfl h
      | cons a l => rfl
    unfold gEq; rw [this]; rfl
theorem gNe_l0 {l : List D} : gNe (.lst l) (.lst []) = some (bO (!l.isEmpty)) := by
  by_cases h : (plAll 60 l && plAll 60 []) = true
  · rw [gNe_lst h, eqDs_nil0]
  · have : eqG (.lst l) (.lst []) = some l.isEmpty := by
      rw [eqG_l, if_neg h]
      cases l with
      | nil => exact absurd rfl h
      | cons a l => rfl
    unfold gNe; rw [this]; rfl
theorem gEq_t0 {l : List D} : gEq (.tup l) (.tup []) = some (bO l.isEmpty) := by
  by_cases h : (plAll 60 l && plAll 60 []) = true
  · rw [gEq_tup h, eqDs_nil0]
  · have : eqG (.tup l) (.tup []) = some l.isEmpty := by
      rw [eqG_t, if_neg h, if_pos (by simp)]; simp
    unfold gEq; rw [this]; rfl
theorem gNe_t0 {l : List D} : gNe (.tup l) (.tup []) = some (bO (!l.isEmpty)) := by
  by_cases h : (plAll 60 l && plAll 60 []) = true
  · rw [gNe_tup h, eqDs_nil0]
  · have : eqG (.tup l) (.tup []) = some l.isEmpty := by
      rw [eqG_t, if_neg h, if_pos (by simp)]; simp
    unfold gNe; rw [this]; rfl
section
variable {C : Cn} {X : Cx} {σ : L2.St} {H : Hp} {S : Set'} {Q : VK}
theorem q_sc {o : O} {v : V} {d : D} (so : So H S) (q : ∀ v H' S' A, Alc H S H' S' A → RepO C H' S' v o A → Q v H') (e : o = .sh d) (r : RepD C H S v d) : Q v H := by
  subst e
  exact q v H S No (Alc.refl so) ⟨emp_no, r⟩
theorem eq_scal {x y : V} {d e : D} (hs : scal x y = true) (r1 : RepD C H S x d) (r2 : RepD C H S y e) {b : Bool} (h : eqG d e = some b) : decide (x = y) = b := by
  cases d <;> cases e <;> simp [eqG] at h <;> simp [RepD] at r1 r2 <;> (try subst r1) <;> (try subst r2) <;> (try subst h) <;>
    first
    | exact dec_int
    | exact dec_bl
    | exact dec_str
    | rfl
    | (obtain ⟨a, rfl, _⟩ := r1; simp [scal] at hs)
theorem eq_seq {A : Around} {pins : List (Addr × Obj)} {s : Shared} (ok : OkX C X) (hA : A.units + 100 < cLine) (I : Inv X pins σ H s) {x y : V} {v u : Value} {d e : D} (rx : RelV x v) (ry : RelV y u) (r1 : RepD C H S x d) (r2 : RepD C H S y e)
    (hk : (∃ l m, d = .lst l ∧ e = .lst m) ∨ ∃ l m, d = .tup l ∧ e = .tup m) {b : Bool} (h : eqG d e = some b) :
    SeqAt.RcAt A s v u b ∧ SeqAt.RcNeAt A s v u (!b) := by
  have hA1 : A.in1.units + 60 < cLine := by show A.units + 1 + 60 < cLine; omega
  have lo : A.units < cLine := by omega
  rcases hk with ⟨l, m, rfl, rfl⟩ | ⟨l, m, rfl, rfl⟩
  · obtain ⟨a, vs, rfl, ht, hr⟩ := r1
    obtain ⟨c, ws, rfl, ht2, hr2⟩ := r2
    cases rx; cases ry
    obtain ⟨its, rr, p, _⟩ := I.list (lst_sq ok.K ht)
    obtain ⟨its2, rr2, p2, _⟩ := I.list (lst_sq ok.K ht2)
    have h : (if (plAll 60 l && plAll 60 m) = true then some (eqDs l m) else if l.length = m.length then none else some false) = some b := h
    have el : its.toArray.size = l.length := by rw [List.size_toArray, ← rr.length, hr.len]
    have em : its2.toArray.size = m.length := by rw [List.size_toArray, ← rr2.length, hr2.len]
    split at h
    · next hp =>
      have hp' : plAll 60 l = true ∧ plAll 60 m = true := by simpa using hp
      have eb : eqDs l m = b := Option.some.inj h
      subst eb
      by_cases hlen : l.length = m.length
      · have it : ∀ j (h1 : j < its.toArray.size) (h2 : j < its2.toArray.size), SeqAt.EqAt A.in1 s its.toArray[j] its2.toArray[j] (eqAtJ l m j) := fun j j1 j2 => by
          have l1 : j < l.length := by rw [← el]; exact j1
          have l2 : j < m.length := by rw [← em]; exact j2
          obtain ⟨x, ex, rx⟩ := hr.get (i := j) (d := l[j]) (by simp [l1])
          obtain ⟨y, ey, ry⟩ := hr2.get (i := j) (d := m[j]) (by simp [l2])
          have e0 : eqAtJ l m j = (l[j]).eqD (m[j]) := by unfold eqAtJ; simp [l1, l2]
          rw [e0]
          exact eq_at ok.K I 60 A.in1 hA1 _ _ x y _ _ (plAll_mem hp'.1 (List.getElem_mem l1)) (plAll_mem hp'.2 (List.getElem_mem l2)) rx ry (vals_get rr ex (by simpa using j1)) (vals_get rr2 ey (by simpa using j2))
        have q1 := SeqAt.RcAt.lists (A := A) p.isList p2.isList (by rw [el, em, hlen]) lo it
        have q2 := SeqAt.RcNeAt.lists (A := A) p.isList p2.isList (by rw [el, em, hlen]) lo it
        rw [el, ← eqDs_all hlen] at q1 q2
        exact ⟨q1, q2⟩
      · rw [eqDs_len hlen]
        exact ⟨SeqAt.RcAt.lists_lengths (A := A) p.isList p2.isList (by rw [el, em]; simpa using hlen) lo, SeqAt.RcNeAt.lists_lengths (A := A) p.isList p2.isList (by rw [el, em]; simpa using hlen) lo⟩
    · split at h
      · cases h
      · next hlen =>
        cases h
        exact ⟨SeqAt.RcAt.lists_lengths (A := A) p.isList p2.isList (by rw [el, em]; simpa using hlen) lo, SeqAt.RcNeAt.lists_lengths (A := A) p.isList p2.isList (by rw [el, em]; simpa using hlen) lo⟩
  · obtain ⟨a, vs, rfl, ht, hr⟩ := r1
    obtain ⟨c, ws, rfl, ht2, hr2⟩ := r2
    cases rx; cases ry
    obtain ⟨its, rr, p, _⟩ := I.tuple (tup_sq ok.K ht)
    obtain ⟨its2, rr2, p2, _⟩ := I.tuple (tup_sq ok.K ht2)
    have h : (if (plAll 60 l && plAll 60 m) = true then some (eqDs l m) else if (l.isEmpty || m.isEmpty) = true then some (l.isEmpty && m.isEmpty) else none) = some b := h
    have el : its.toArray.size = l.length := by rw [List.size_toArray, ← rr.length, hr.len]
    have em : its2.toArray.size = m.length := by rw [List.size_toArray, ← rr2.length, hr2.len]
    split at h
    · next hp =>
      have hp' : plAll 60 l = true ∧ plAll 60 m = true := by simpa using hp
      have eb : eqDs l m = b := Option.some.inj h
      subst eb
      have it : ∀ j (h1 : j < its.toArray.size) (h2 : j < its2.toArray.size), SeqAt.EqAt A.in1 s its.toArray[j] its2.toArray[j] (eqAtJ l m j) := fun j j1 j2 => by
        have l1 : j < l.length := by rw [← el]; exact j1
        have l2 : j < m.length := by rw [← em]; exact j2
        obtain ⟨x, ex, rx⟩ := hr.get (i := j) (d := l[j]) (by simp [l1])
        obtain ⟨y, ey, ry⟩ := hr2.get (i := j) (d := m[j]) (by simp [l2])
        have e0 : eqAtJ l m j = (l[j]).eqD (m[j]) := by unfold eqAtJ; simp [l1, l2]
        rw [e0]
        exact eq_at ok.K I 60 A.in1 hA1 _ _ x y _ _ (plAll_mem hp'.1 (List.getElem_mem l1)) (plAll_mem hp'.2 (List.getElem_mem l2)) rx ry (vals_get rr ex (by simpa using j1)) (vals_get rr2 ey (by simpa using j2))
      have q1 := SeqAt.RcAt.tuples (A := A) p p2 lo it
      have q2 := SeqAt.RcNeAt.tuples (A := A) p p2 lo it
      rw [el, em, ← eqDs_min] at q1 q2
      exact ⟨q1, q2⟩
    · split at h
      · next hz =>
        have eb : (l.isEmpty && m.isEmpty) = b := Option.some.inj h
        subst eb
        have z : min l.length m.length = 0 := by
          cases l with
          | nil => simp
          | cons x l => cases m with
            | nil => simp
            | cons y m => simp at hz
        have it : ∀ j (h1 : j < its.toArray.size) (h2 : j < its2.toArray.size), SeqAt.EqAt A.in1 s its.toArray[j] its2.toArray[j] ((fun _ => true) j) := fun j j1 j2 => by
          rw [el] at j1; rw [em] at j2; omega
        have q1 := SeqAt.RcAt.tuples (A := A) p p2 lo it
        have q2 := SeqAt.RcNeAt.tuples (A := A) p p2 lo it
        have e0 : ((List.range (min its.toArray.size its2.toArray.size)).all (fun _ => true) && its.toArray.size == its2.toArray.size) = (l.isEmpty && m.isEmpty) := by
          rw [el, em, z]
          cases l with
          | nil => cases m <;> simp
          | cons x l => cases m <;> simp at hz ⊢
        rw [e0] at q1 q2
        exact ⟨q1, q2⟩
      · cases h
theorem eq_kind {x y : V} {d e : D} {b : Bool} (r1 : RepD C H S x d) (r2 : RepD C H S y e) (h : eqG d e = some b) : scal x y = true ∨ (∃ l m, d = .lst l ∧ e = .lst m) ∨ ∃ l m, d = .tup l ∧ e = .tup m := by
  cases d <;> cases e <;> simp [eqG] at h <;> simp [RepD] at r1 r2 <;> (try subst r1) <;> (try subst r2) <;> simp [scal]
theorem og_eq (ok : OkX C X) : OpR X (compareOp .Eq) (rV2 C gEq) := by
  intro pins s σ H x y v u Q I rx ry ⟨S, dx, dy, so, r1, r2, o, eo, q⟩
  obtain ⟨b, eb, rfl⟩ : ∃ b, eqG dx dy = some b ∧ bO b = o := by simpa [gEq] using eo
  rcases eq_kind r1 r2 eb with hs | hk
  · exact op_eq pins s σ H x y v u Q I rx ry ⟨hs, by rw [eq_scal hs r1 r2 eb]; exact q_sc so q rfl rfl⟩
  · exact (eq_seq ok (by have := ok.un; omega) I rx ry r1 r2 hk eb).1 X.prog X.w _ _ ⟨.bl b, H, I, rfl, q_sc so q rfl rfl⟩
theorem og_ne (ok : OkX C X) : OpR X (compareOp .NotEq) (rV2 C gNe) := by
  intro pins s σ H x y v u Q I rx ry ⟨S, dx, dy, so, r1, r2, o, eo, q⟩
  obtain ⟨b, eb, rfl⟩ : ∃ b, eqG dx dy = some b ∧ bO (!b) = o := by simpa [gNe] using eo
  rcases eq_kind r1 r2 eb with hs | hk
  · exact op_ne pins s σ H x y v u Q I rx ry ⟨hs, by rw [eq_scal hs r1 r2 eb]; exact q_sc so q rfl rfl⟩
  · exact (eq_seq ok (by have := ok.un; omega) I rx ry r1 r2 hk eb).2 X.prog X.w _ _ ⟨.bl (!b), H, I, rfl, q_sc so q rfl rfl⟩
end
end G
end

section
set_option maxRecDepth 100000
set_option maxHeartbeats 2000000
open PySem PySem.Spec PyProof.Rows L2
namespace G
def OL (l : List D) : O := .lst (l.map .sh)
theorem toDs_sh : ∀ l : List D, toDs (l.map O.sh) = l
  | [] => rfl
  | d :: l => by show d :: toDs (l.map O.sh) = d :: l; rw [toDs_sh l]
@[simp] theorem OL_toD (l : List D) : (OL l).toD = .lst l := by show D.lst (toDs (l.map O.sh)) = _; rw [toDs_sh]
@[simp] theorem sh_toD (d : D) : (O.sh d).toD = d := rfl
def addG : D → D → Option O
  | .int a, .int b => some (iO (a + b))
  | .str a, .str b => if a.length + b.length ≤ big then some (sO (a ++ b)) else none
  | .lst l, .lst m => if l.length + m.length ≤ big then some (OL (l ++ m)) else none
  | .tup l, .tup m => if l.length + m.length ≤ big ∧ l ≠ [] then some (.sh (.tup (l ++ m))) else none
  | _, _ => none
def subG : D → D → Option O
  | .int a, .int b => some (iO (a - b))
  | _, _ => none
def mulG : D → D → Option O
  | .int a, .int b => if a.natAbs.log2 + b.natAbs.log2 < 1000000 then some (iO (a * b)) else none
  | _, _ => none
def modG : D → D → Option O
  | .int a, .int b => if 0 < b then some (iO (a % b)) else none
  | _, _ => none
def fdivG : D → D → Option O
  | .int a, .int b => if 0 < b ∧ b.natAbs.log2 < 9000 then some (iO (a / b)) else none
  | _, _ => none
def powG : D → D → Option O
  | .int a, .int b => if 0 ≤ b ∧ (Builtin.Int.intBits a : Int) * b ≤ 2 ^ 27 then some (iO (a ^ b.toNat)) else none
  | _, _ => none
def negG : D → Option O
  | .int a => some (iO (-a))
  | _ => none
def ltG : D → D → Option Bool
  | .int a, .int b => some (decide (a < b))
  | .str a, .str b => some (decide (a.cps.toList < b.cps.toList))
  | _, _ => none
def gLt (d e : D) : Option O := (ltG d e).map bO
def gGt (d e : D) : Option O := (ltG e d).map bO
def gLe (d e : D) : Option O := (ltG e d).map fun b => bO (!b)
def gGe (d e : D) : Option O := (ltG d e).map fun b => bO (!b)
theorem RepDs.app {C : Cn} {H : Hp} {S : Set'} : ∀ {vs ws : List V} {l m : List D}, RepDs C H S vs l → RepDs C H S ws m → RepDs C H S (vs ++ ws) (l ++ m)
  | vs, ws, [], m, r, q => by rw [show vs = [] from r]; exact q
  | vs, ws, d :: l, m, r, q => by
    obtain ⟨v, t, e, r1, r2⟩ := r
    exact ⟨v, t ++ ws, by rw [e]; rfl, r1, r2.app q⟩
theorem RepDs.nil_iff {C : Cn} {H : Hp} {S : Set'} {vs : List V} {l : List D} (r : RepDs C H S vs l) : vs = [] ↔ l = [] := by
  have := r.len
  constructor
  · intro e; subst e; exact List.eq_nil_of_length_eq_zero (by simpa using this.symm)
  · intro e; subst e; exact List.eq_nil_of_length_eq_zero (by simpa using this)
theorem RepOs.of_sh {C : Cn} {H : Hp} {S : Set'} : ∀ {vs : List V} {l : List D}, RepDs C H S vs l → RepOs C H S vs (l.map O.sh) No
  | vs, [], r => ⟨r, emp_no⟩
  | vs, d :: l, r => by
    obtain ⟨v, t, e, r1, r2⟩ := r
    exact ⟨v, t, No, No, e, ⟨emp_no, r1⟩, RepOs.of_sh r2, fun a => ⟨.inl, fun z => z.elim id id⟩, fun a z => z.elim⟩
/-- a new list of shared items -/
theorem q_lst {C : Cn} {H : Hp} {S : Set'} {Q : VK} {p : Addr} {vs : List V} {l : List D} (so : So H S) (hp : H p = none) (r : RepDs C H S vs l)
    (q : ∀ v H' S' A, Alc H S H' S' A → RepO C H' S' v (OL l) A → Q v H') : Q (.ref p) (upd H p (.lst vs)) := by
  have al := Alc.own (o := .lst vs) so hp trivial
  exact q (.ref p) _ S _ al ⟨p, vs, No, rfl, upd_same, RepOs.of_sh (r.mono al.kp), fun a => ⟨.inl, fun z => z.elim id False.elim⟩, fun a _ z => z⟩
/-- a new tuple of shared items -/
theorem q_tup {C : Cn} {H : Hp} {S : Set'} {Q : VK} {p : Addr} {vs : List V} {l : List D} (so : So H S) (hp : H p = none) (r : RepDs C H S vs l)
    (q : ∀ v H' S' A, Alc H S H' S' A → RepO C H' S' v (.sh (.tup l)) A → Q v H') : Q (.ref p) (upd H p (.tup vs)) := by
  have al := Alc.tup (o := .tup vs) so hp
  exact q (.ref p) _ S No al ⟨emp_no, p, vs, rfl, upd_same, r.mono al.kp⟩
section
variable {C : Cn} {X : Cx} {pins : List (Addr × Obj)} {σ : L2.St} {H : Hp} {s : Shared} {S : Set'} {Q : VK}
theorem lst_obj (hK : X.K = C.K) (I : Inv X pins σ H s) {a : Addr} {xs : List V} (h : LstD C.K H S a xs) : ∃ (its : List Value) (n : Nat), Vals xs its ∧ xs.length = its.length ∧ xs.length ≤ sizeLine ∧ s.heap.get? a = some { cls := .type "list", data := .seq its.toArray n } := by
  rcases h with h | ⟨z, its, n, r, e⟩
  · obtain ⟨z, its, n, r, e⟩ := h.2.ok I.hok
    exact ⟨its, n, r, r.length, z, e⟩
  · rw [← hK] at e
    exact ⟨its, n, r, r.length, z, I.kIn a _ e⟩
theorem og_add (ok : OkX C X) : OpR X (binaryOp .Add) (rV2 C addG) := by
  intro pins s σ H x y v u Q I rx ry ⟨S, dx, dy, so, r1, r2, o, eo, q⟩
  cases dx <;> cases dy <;> simp only [addG, reduceCtorEq] at eo
  · have e1 : x = .int _ := r1
    have e2 : y = .int _ := r2
    exact op_add pins s σ H x y v u Q I rx ry ⟨_, _, e1, e2, q_sc so q (Option.some.inj eo).symm rfl⟩
  · have e1 : x = .str _ := r1
    have e2 : y = .str _ := r2
    split at eo
    · next h => exact op_add_str pins s σ H x y v u Q I rx ry ⟨_, _, e1, e2, big_line h, q_sc so q (Option.some.inj eo).symm rfl⟩
    · cases eo
  · obtain ⟨a, vs, rfl, h1, hr1⟩ := r1
    obtain ⟨b, ws, rfl, h2, hr2⟩ := r2
    split at eo
    · next h =>
      have eo' := Option.some.inj eo
      subst eo'
      refine op_catT pins s σ H _ _ v u Q I rx ry ⟨a, b, vs, ws, rfl, rfl, tup_sq ok.K h1, tup_sq ok.K h2, fun e => h.2 (hr1.nil_iff.mp e), by rw [hr1.len, hr2.len]; exact big_line h.1, fun e => ?_, fun e p hp => q_tup so hp (hr1.app hr2) q⟩
      have := hr2.nil_iff.mp e
      subst this
      rw [List.append_nil] at q
      exact q_sc so q rfl ⟨a, vs, rfl, h1, hr1⟩
    · cases eo
  · obtain ⟨a, vs, rfl, h1, hr1⟩ := r1
    obtain ⟨b, ws, rfl, h2, hr2⟩ := r2
    split at eo
    · next h =>
      have eo' := Option.some.inj eo
      subst eo'
      cases rx; cases ry
      obtain ⟨its, n, r, hl, z, e⟩ := lst_obj ok.K I h1
      obtain ⟨its2, n2, r', hl2, z2, e2⟩ := lst_obj ok.K I h2
      have hz : vs.length + ws.length ≤ sizeLine := by rw [hr1.len, hr2.len]; exact big_line h
      refine PySem.P.add_list e e2 ?_ (by rw [List.size_toArray, List.size_toArray]; omega)
      have ea : its.toArray ++ its2.toArray = (its ++ its2).toArray := by simp
      rw [ea]
      exact ⟨.ref _, _, I.lnew (t' := s.toks) (r.append r') (by rw [List.length_append]; exact hz), rfl, q_lst so I.fresh (hr1.app hr2) q⟩
    · cases eo
theorem og_sub (ok : OkX C X) : OpR X (binaryOp .Sub) (rV2 C subG) := by
  intro pins s σ H x y v u Q I rx ry ⟨S, dx, dy, so, r1, r2, o, eo, q⟩
  cases dx <;> cases dy <;> simp only [subG, reduceCtorEq] at eo
  exact op_sub pins s σ H x y v u Q I rx ry ⟨_, _, r1, r2, q_sc so q (Option.some.inj eo).symm rfl⟩
theorem og_mul (ok : OkX C X) : OpR X (binaryOp .Mult) (rV2 C mulG) := by
  intro pins s σ H x y v u Q I rx ry ⟨S, dx, dy, so, r1, r2, o, eo, q⟩
  cases dx <;> cases dy <;> simp only [mulG, reduceCtorEq] at eo
  split at eo
  · next h => exact op_mulW pins s σ H x y v u Q I rx ry ⟨_, _, r1, r2, h, q_sc so q (Option.some.inj eo).symm rfl⟩
  · cases eo
theorem og_mod (ok : OkX C X) : OpR X (binaryOp .Mod) (rV2 C modG) := by
  intro pins s σ H x y v u Q I rx ry ⟨S, dx, dy, so, r1, r2, o, eo, q⟩
  cases dx <;> cases dy <;> simp only [modG, reduceCtorEq] at eo
  split at eo
  · next h => exact op_mod pins s σ H x y v u Q I rx ry ⟨_, _, r1, r2, h, q_sc so q (Option.some.inj eo).symm rfl⟩
  · cases eo
theorem og_fdiv (ok : OkX C X) : OpR X (binaryOp .FloorDiv) (rV2 C fdivG) := by
  intro pins s σ H x y v u Q I rx ry ⟨S, dx, dy, so, r1, r2, o, eo, q⟩
  cases dx <;> cases dy <;> simp only [fdivG, reduceCtorEq] at eo
  split at eo
  · next h => exact op_fdivW pins s σ H x y v u Q I rx ry ⟨_, _, r1, r2, h, q_sc so q (Option.some.inj eo).symm rfl⟩
  · cases eo
theorem og_pow (ok : OkX C X) : OpR X (binaryOp .Pow) (rV2 C powG) := by
  intro pins s σ H x y v u Q I rx ry ⟨S, dx, dy, so, r1, r2, o, eo, q⟩
  cases dx <;> cases dy <;> simp only [powG, reduceCtorEq] at eo
  split at eo
  · next i j h =>
    have e1 : x = .int _ := r1
    have e2 : y = .int _ := r2
    subst e1 e2
    obtain ⟨t, rfl⟩ := rx
    obtain ⟨t', rfl⟩ := ry
    exact pow_int h.1 h.2 ⟨.int _, H, I.tok _, ⟨_, rfl⟩, q_sc so q (Option.some.inj eo).symm rfl⟩
  · cases eo
theorem og_neg (ok : OkX C X) : UnR X (unaryOp .USub) (rV1 C negG) := by
  intro pins s σ H x v Q I rx ⟨S, dx, so, r1, o, eo, q⟩
  cases dx <;> simp only [negG, reduceCtorEq] at eo
  exact un_neg pins s σ H x v Q I rx ⟨_, r1, q_sc so q (Option.some.inj eo).symm rfl⟩
theorem lt_pos {d e : D} {b : Bool} (h : ltG d e = some b) : (∃ i j, d = .int i ∧ e = .int j ∧ b = decide (i < j)) ∨ ∃ i j, d = .str i ∧ e = .str j ∧ b = decide (i.cps.toList < j.cps.toList) := by
  cases d <;> cases e <;> simp only [ltG, reduceCtorEq] at h
  · exact .inl ⟨_, _, rfl, rfl, (Option.some.inj h).symm⟩
  · exact .inr ⟨_, _, rfl, rfl, (Option.some.inj h).symm⟩
theorem og_lt (ok : OkX C X) : OpR X (compareOp .Lt) (rV2 C gLt) := by
  intro pins s σ H x y v u Q I rx ry ⟨S, dx, dy, so, r1, r2, o, eo, q⟩
  obtain ⟨b, eb, rfl⟩ : ∃ b, ltG dx dy = some b ∧ bO b = o := by simpa [gLt] using eo
  rcases lt_pos eb with ⟨i, j, rfl, rfl, rfl⟩ | ⟨i, j, rfl, rfl, rfl⟩
  · exact op_lt pins s σ H x y v u Q I rx ry ⟨_, _, r1, r2, q_sc so q rfl rfl⟩
  · exact op_lt_str pins s σ H x y v u Q I rx ry ⟨_, _, r1, r2, q_sc so q rfl rfl⟩
theorem og_gt (ok : OkX C X) : OpR X (compareOp .Gt) (rV2 C gGt) := by
  intro pins s σ H x y v u Q I rx ry ⟨S, dx, dy, so, r1, r2, o, eo, q⟩
  obtain ⟨b, eb, rfl⟩ : ∃ b, ltG dy dx = some b ∧ bO b = o := by simpa [gGt] using eo
  rcases lt_pos eb with ⟨i, j, rfl, rfl, rfl⟩ | ⟨i, j, rfl, rfl, rfl⟩
  · exact op_gt pins s σ H x y v u Q I rx ry ⟨_, _, r1, r2, q_sc so q rfl rfl⟩
  · exact op_gt_str pins s σ H x y v u Q I rx ry ⟨_, _, r1, r2, q_sc so q rfl rfl⟩
theorem og_le (ok : OkX C X) : OpR X (compareOp .LtE) (rV2 C gLe) := by
  intro pins s σ H x y v u Q I rx ry ⟨S, dx, dy, so, r1, r2, o, eo, q⟩
  obtain ⟨b, eb, rfl⟩ : ∃ b, ltG dy dx = some b ∧ bO (!b) = o := by simpa [gLe] using eo
  rcases lt_pos eb with ⟨i, j, rfl, rfl, rfl⟩ | ⟨i, j, rfl, rfl, rfl⟩
  · refine op_le pins s σ H x y v u Q I rx ry ⟨_, _, r1, r2, ?_⟩
    have : decide (j ≤ i) = !decide (i < j) := by by_cases h : i < j <;> simp [h] <;> omega
    show Q (.bl (decide (j ≤ i))) H
    rw [this]
    exact q_sc so q rfl rfl
  · exact op_le_str pins s σ H x y v u Q I rx ry ⟨_, _, r1, r2, q_sc so q rfl rfl⟩
theorem og_ge (ok : OkX C X) : OpR X (compareOp .GtE) (rV2 C gGe) := by
  intro pins s σ H x y v u Q I rx ry ⟨S, dx, dy, so, r1, r2, o, eo, q⟩
  obtain ⟨b, eb, rfl⟩ : ∃ b, ltG dx dy = some b ∧ bO (!b) = o := by simpa [gGe] using eo
  rcases lt_pos eb with ⟨i, j, rfl, rfl, rfl⟩ | ⟨i, j, rfl, rfl, rfl⟩
  · refine op_ge pins s σ H x y v u Q I rx ry ⟨_, _, r1, r2, ?_⟩
    have : decide (j ≤ i) = !decide (i < j) := by by_cases h : i < j <;> simp [h] <;> omega
    show Q (.bl (decide (j ≤ i))) H
    rw [this]
    exact q_sc so q rfl rfl
  · exact op_ge_str pins s σ H x y v u Q I rx ry ⟨_, _, r1, r2, q_sc so q rfl rfl⟩
/-! truth -/
def truG : D → Option Bool
  | .non => some false
  | .bl b => some b
  | .int i => some (i != 0)
  | .str x => if x.length ≤ big then some ((x.length : Int) != 0) else none
  | .tup l => some (!l.isEmpty)
  | .lst l => some (!l.isEmpty)
  | _ => none
theorem RepDs.emp {vs : List V} {l : List D} (r : RepDs C H S vs l) : vs.isEmpty = l.isEmpty := by
  cases l with
  | nil => rw [show vs = [] from r]; rfl
  | cons d l => obtain ⟨v, t, e, _⟩ := r; rw [e]; rfl
theorem RepK.emp {vs : List (Key × V)} {l : List (Kd × D)} (r : RepK C H S vs l) : vs.isEmpty = l.isEmpty := by
  cases l with
  | nil => rw [show vs = [] from r]; rfl
  | cons d l => obtain ⟨k, d⟩ := d; obtain ⟨j, v, t, e, _⟩ := r; rw [e]; rfl
theorem og_tru (ok : OkX C X) : TruR X (fun x H Q => ∃ S d, RepD C H S x d ∧ ∃ k, truG d = some k ∧ Q k H) := by
  intro pins s σ H x v Q I rx ⟨S, d, r, k, ek, q⟩
  cases d <;> simp only [truG, reduceCtorEq] at ek
  · exact tru_ok pins s σ H x v Q I rx ⟨k, by rw [show x = .non from r]; exact (Option.some.inj ek).symm, q⟩
  · exact tru_ok pins s σ H x v Q I rx ⟨k, by rw [show x = .bl _ from r]; exact (Option.some.inj ek).symm, q⟩
  · exact tru_ok pins s σ H x v Q I rx ⟨k, by rw [show x = .int _ from r]; exact (Option.some.inj ek).symm, q⟩
  · split at ek
    · next h => exact tru_ok pins s σ H x v Q I rx ⟨k, by rw [show x = .str _ from r]; exact ⟨big_line h, (Option.some.inj ek).symm⟩, q⟩
    · cases ek
  · obtain ⟨a, vs, rfl, h1, hr⟩ := r
    exact tru_ok pins s σ H _ v Q I rx ⟨k, .inr (.inl ⟨vs, tup_sq ok.K h1, by rw [hr.emp]; exact (Option.some.inj ek).symm⟩), q⟩
  · obtain ⟨a, vs, rfl, h1, hr⟩ := r
    exact tru_ok pins s σ H _ v Q I rx ⟨k, .inl ⟨vs, lst_sq ok.K h1, by rw [hr.emp]; exact (Option.some.inj ek).symm⟩, q⟩
end
end G
end

section
set_option maxRecDepth 100000
set_option maxHeartbeats 2000000
open PySem PySem.Spec PyProof.Rows L2
namespace G
theorem reps1 {C : Cn} {H : Hp} {S : Set'} {xs : List V} {d : D} (r : RepDs C H S xs [d]) : ∃ x, xs = [x] ∧ RepD C H S x d := by
  obtain ⟨v, t, e, r1, r2⟩ := r
  exact ⟨v, by rw [e, show t = [] from r2], r1⟩
theorem reps2 {C : Cn} {H : Hp} {S : Set'} {xs : List V} {d e : D} (r : RepDs C H S xs [d, e]) : ∃ x y, xs = [x, y] ∧ RepD C H S x d ∧ RepD C H S y e := by
  obtain ⟨v, t, e, r1, r2⟩ := r
  obtain ⟨y, e2, r3⟩ := reps1 r2
  exact ⟨v, y, by rw [e, e2], r1, r3⟩
def lenG : List D → Option O
  | [.str x] => if x.length ≤ big then some (iO x.length) else none
  | [.tup l] => some (iO l.length)
  | [.lst l] => some (iO l.length)
  | [.dct l] => some (iO l.length)
  | _ => none
def absG : List D → Option O
  | [.int i] => some (iO (if i < 0 then -i else i))
  | _ => none
def maxG : List D → Option O
  | [.int i, .int j] => some (iO (if j > i then j else i))
  | _ => none
def minG : List D → Option O
  | [.int i, .int j] => some (iO (if j < i then j else i))
  | _ => none
def intG : List D → Option O
  | [.int i] => some (iO i)
  | [.bl b] => some (iO (if b then 1 else 0))
  | _ => none
def tupleG : List D → Option O
  | [.tup l] => some (.sh (.tup l))
  | [.lst l] => some (.sh (.tup l))
  | _ => none
def kyD : Key → D
  | .inl i => .int i
  | .inr x => .str x
def keysL : List (Kd × D) → Option (List D)
  | [] => some []
  | (.inl k, _) :: l => (keysL l).map (kyD k :: ·)
  | _ => none
def listG : List D → Option O
  | [.tup l] => some (OL l)
  | [.lst l] => some (OL l)
  | [.str x] => if x.length ≤ big then some (OL (x.cps.toList.map fun c => .str ⟨#[c]⟩)) else none
  | [.dct l] => if l.isEmpty = true then none else (keysL l).map OL
  | _ => none
def blOf : D → Option Bool
  | .bl b => some b
  | _ => none
def strOf : D → Option Str
  | .str x => some x
  | _ => none
def intOf : D → Option Int
  | .int x => some x
  | _ => none
def optAll {α β : Type} (f : α → Option β) : List α → Option (List β)
  | [] => some []
  | d :: l => match f d, optAll f l with
    | some a, some b => some (a :: b)
    | _, _ => none
def allG : List D → Option O
  | [.lst l] => (optAll blOf l).map fun bs => bO (bs.all id)
  | _ => none
def anyG : List D → Option O
  | [.lst l] => (optAll blOf l).map fun bs => bO (bs.any id)
  | _ => none
theorem optAll_cons {α β : Type} {f : α → Option β} {d : α} {l : List α} {bs : List β} (h : optAll f (d :: l) = some bs) : ∃ a b, f d = some a ∧ optAll f l = some b ∧ bs = a :: b := by
  unfold optAll at h
  split at h
  · next a b h1 h2 => exact ⟨a, b, h1, h2, (Option.some.inj h).symm⟩
  · cases h
theorem mapM_bl : ∀ {l : List D} {bs : List Bool}, optAll blOf l = some bs → l = bs.map D.bl
  | [], bs, h => by have := Option.some.inj h; subst this; rfl
  | d :: l, bs, h => by
    obtain ⟨a, b, h1, h2, rfl⟩ := optAll_cons h
    cases d <;> simp [blOf] at h1
    subst h1
    rw [mapM_bl h2]; rfl
theorem mapM_str : ∀ {l : List D} {bs : List Str}, optAll strOf l = some bs → l = bs.map D.str
  | [], bs, h => by have := Option.some.inj h; subst this; rfl
  | d :: l, bs, h => by
    obtain ⟨a, b, h1, h2, rfl⟩ := optAll_cons h
    cases d <;> simp [strOf] at h1
    subst h1
    rw [mapM_str h2]; rfl
theorem mapM_int : ∀ {l : List D} {bs : List Int}, optAll intOf l = some bs → l = bs.map D.int
  | [], bs, h => by have := Option.some.inj h; subst this; rfl
  | d :: l, bs, h => by
    obtain ⟨a, b, h1, h2, rfl⟩ := optAll_cons h
    cases d <;> simp [intOf] at h1
    subst h1
    rw [mapM_int h2]; rfl
@[simp] theorem mapM_bl_map (bs : List Bool) : optAll blOf (bs.map D.bl) = some bs := by
  induction bs with
  | nil => rfl
  | cons b bs ih => rw [List.map_cons, optAll, ih]; rfl
@[simp] theorem mapM_str_map (bs : List Str) : optAll strOf (bs.map D.str) = some bs := by
  induction bs with
  | nil => rfl
  | cons b bs ih => rw [List.map_cons, optAll, ih]; rfl
@[simp] theorem mapM_int_map (bs : List Int) : optAll intOf (bs.map D.int) = some bs := by
  induction bs with
  | nil => rfl
  | cons b bs ih => rw [List.map_cons, optAll, ih]; rfl
section
variable {C : Cn} {X : Cx} {pins : List (Addr × Obj)} {σ : L2.St} {H : Hp} {s : Shared} {S : Set'} {Q : VK}
theorem reps_bl : ∀ {bs : List Bool} {vs : List V}, RepDs C H S vs (bs.map D.bl) → vs = bs.map V.bl
  | [], vs, r => r
  | b :: bs, vs, r => by
    obtain ⟨v, t, e, r1, r2⟩ := r
    rw [e, show v = .bl b from r1, reps_bl r2]; rfl
theorem reps_str : ∀ {bs : List Str} {vs : List V}, RepDs C H S vs (bs.map D.str) → vs = bs.map V.str
  | [], vs, r => r
  | b :: bs, vs, r => by
    obtain ⟨v, t, e, r1, r2⟩ := r
    rw [e, show v = .str b from r1, reps_str r2]; rfl
theorem reps_int : ∀ {bs : List Int} {vs : List V}, RepDs C H S vs (bs.map D.int) → vs = bs.map V.int
  | [], vs, r => r
  | b :: bs, vs, r => by
    obtain ⟨v, t, e, r1, r2⟩ := r
    rw [e, show v = .int b from r1, reps_int r2]; rfl
theorem reps_of_str : ∀ {bs : List Str}, RepDs C H S (bs.map V.str) (bs.map D.str)
  | [] => rfl
  | b :: bs => ⟨_, _, rfl, rfl, reps_of_str⟩
theorem reps_of_int : ∀ {bs : List Int}, RepDs C H S (bs.map V.int) (bs.map D.int)
  | [] => rfl
  | b :: bs => ⟨_, _, rfl, rfl, reps_of_int⟩
theorem og_len (ok : OkX C X) : CallR X (.builtin "len") (rVn C lenG) := by
  intro pins s σ H xs us Q I r ⟨S, ds, so, rd, o, eo, q⟩
  have l1 : ∀ d, ds = [d] → ∃ x, xs = [x] ∧ RepD C H S x d := fun d e => by subst e; exact reps1 rd
  unfold lenG at eo
  split at eo
  · obtain ⟨x, rfl, r1⟩ := l1 _ rfl
    split at eo
    · next h => exact call_len_str pins s σ H _ us Q I r ⟨_, by rw [show x = .str _ from r1], big_line h, q_sc so q (Option.some.inj eo).symm rfl⟩
    · cases eo
  · obtain ⟨x, rfl, a, vs, rfl, h1, hr⟩ := l1 _ rfl
    exact call_len_seq pins s σ H _ us Q I r ⟨a, vs, rfl, .inr (tup_sq ok.K h1), by rw [hr.len]; exact q_sc so q (Option.some.inj eo).symm rfl⟩
  · obtain ⟨x, rfl, a, vs, rfl, h1, hr⟩ := l1 _ rfl
    exact call_len_seq pins s σ H _ us Q I r ⟨a, vs, rfl, .inl (lst_sq ok.K h1), by rw [hr.len]; exact q_sc so q (Option.some.inj eo).symm rfl⟩
  · obtain ⟨x, rfl, a, rfl, h1, h2⟩ := l1 _ rfl
    obtain ⟨u, rfl, rx⟩ := vals1 r
    obtain rfl : u = .ref a := rx
    rcases h2 with ⟨kvs, h2, hr⟩ | ⟨kvs, h2, hr⟩
    · exact d_len I h2 fun t s' I' => ⟨.int kvs.length, H, I', ⟨t, rfl⟩, by rw [hr.len]; exact q_sc so q (Option.some.inj eo).symm rfl⟩
    · obtain ⟨z, hd, ys, rel, dd⟩ := dt_rd I.hok h2
      have hl : kvs.length = ys.length := Paired.length rel
      refine call_len_dictH hd dd (by rw [← hl]; rw [sizeLine_eq] at z; omega) ?_
      exact ⟨.int ((ys.length : Nat) : Int), H, I.tok _, ⟨_, rfl⟩, by rw [← hl, hr.len]; exact q_sc so q (Option.some.inj eo).symm rfl⟩
  · cases eo
theorem og_abs (ok : OkX C X) : CallR X (.builtin "abs") (rVn C absG) := by
  intro pins s σ H xs us Q I r ⟨S, ds, so, rd, o, eo, q⟩
  unfold absG at eo
  split at eo
  · obtain ⟨x, rfl, r1⟩ := reps1 rd
    exact call_abs pins s σ H _ us Q I r ⟨_, by rw [show x = .int _ from r1], q_sc so q (Option.some.inj eo).symm rfl⟩
  · cases eo
theorem og_max (ok : OkX C X) : CallR X (.builtin "max") (rVn C maxG) := by
  intro pins s σ H xs us Q I r ⟨S, ds, so, rd, o, eo, q⟩
  unfold maxG at eo
  split at eo
  · obtain ⟨x, y, rfl, r1, r2⟩ := reps2 rd
    exact call_max2 ok.calm pins s σ H _ us Q I r ⟨_, _, by rw [show x = .int _ from r1, show y = .int _ from r2], q_sc so q (Option.some.inj eo).symm rfl⟩
  · cases eo
theorem og_min (ok : OkX C X) : CallR X (.builtin "min") (rVn C minG) := by
  intro pins s σ H xs us Q I r ⟨S, ds, so, rd, o, eo, q⟩
  unfold minG at eo
  split at eo
  · obtain ⟨x, y, rfl, r1, r2⟩ := reps2 rd
    exact call_min2 ok.calm pins s σ H _ us Q I r ⟨_, _, by rw [show x = .int _ from r1, show y = .int _ from r2], q_sc so q (Option.some.inj eo).symm rfl⟩
  · cases eo
theorem og_int (ok : OkX C X) : CallR X (.type "int") (rVn C intG) := by
  intro pins s σ H xs us Q I r ⟨S, ds, so, rd, o, eo, q⟩
  unfold intG at eo
  split at eo
  · obtain ⟨x, rfl, r1⟩ := reps1 rd
    exact call_int1 pins s σ H _ us Q I r (.inl ⟨_, by rw [show x = .int _ from r1], q_sc so q (Option.some.inj eo).symm rfl⟩)
  · obtain ⟨x, rfl, r1⟩ := reps1 rd
    exact call_int1 pins s σ H _ us Q I r (.inr ⟨_, by rw [show x = .bl _ from r1], q_sc so q (Option.some.inj eo).symm rfl⟩)
  · cases eo
theorem og_tuple (ok : OkX C X) : CallR X (.type "tuple") (rVn C tupleG) := by
  intro pins s σ H xs us Q I r ⟨S, ds, so, rd, o, eo, q⟩
  unfold tupleG at eo
  split at eo
  · obtain ⟨x, rfl, a, vs, rfl, h1, hr⟩ := reps1 rd
    exact call_tuple_of pins s σ H _ us Q I r ⟨a, vs, rfl, .inr ⟨tup_sq ok.K h1, q_sc so q (Option.some.inj eo).symm ⟨a, vs, rfl, h1, hr⟩⟩⟩
  · obtain ⟨x, rfl, a, vs, rfl, h1, hr⟩ := reps1 rd
    have eo' := Option.some.inj eo
    subst eo'
    exact call_tuple_of pins s σ H _ us Q I r ⟨a, vs, rfl, .inl ⟨lst_sq ok.K h1, fun p hp => q_tup so hp hr q⟩⟩
  · cases eo
theorem rep_ones {C : Cn} {H : Hp} {S : Set'} : ∀ cs : List Nat, RepDs C H S (cs.map fun c => V.str ⟨#[c]⟩) (cs.map fun c => D.str ⟨#[c]⟩)
  | [] => rfl
  | c :: cs => ⟨_, _, rfl, rfl, rep_ones cs⟩
theorem vals_signs {x : Str} : ∀ {us : List Value} {cs : List Nat} {k : Nat}, us.length = cs.length → (∀ (j : Nat) (v : Value), us[j]? = some v → ∃ c u, x.cps[k + j]? = some c ∧ v = Value.str ⟨#[c]⟩ u) → (∀ j, j < cs.length → x.cps[k + j]? = cs[j]?) → Vals (cs.map fun c => V.str ⟨#[c]⟩) us
  | [], [], _, _, _, _ => .nil
  | u :: us, c :: cs, k, hl, h, hc => by
    obtain ⟨c', t, e1, e2⟩ := h 0 u rfl
    have e3 := hc 0 (by simp)
    rw [e1] at e3
    simp at e3
    subst e3
    refine .cons ⟨t, e2⟩ (vals_signs (x := x) (k := k + 1) (by simpa using hl) (fun j v e => ?_) fun j hj => ?_)
    · have := h (j + 1) v (by simpa using e)
      rw [show k + 1 + j = k + (j + 1) by omega]; exact this
    · have := hc (j + 1) (by simpa using hj)
      rw [show k + 1 + j = k + (j + 1) by omega]; simpa using this
  | [], _ :: _, _, hl, _, _ => by simp at hl
  | _ :: _, [], _, hl, _, _ => by simp at hl
theorem keysL_rep {C : Cn} {H : Hp} {S : Set'} : ∀ {l : List (Kd × D)} {ks : List D} {kvs : List (Key × V)}, keysL l = some ks → RepK C H S kvs l → RepDs C H S (kvs.map fun kv => kV kv.1) ks
  | [], ks, kvs, h, r => by
    cases h
    rw [show kvs = [] from r]; rfl
  | (.inl k, d) :: l, ks, kvs, h, r => by
    obtain ⟨ks', e, rfl⟩ := Option.map_eq_some_iff.mp h
    obtain ⟨j, v, q, rfl, ej, _, r2⟩ := r
    cases ej
    refine ⟨_, _, rfl, ?_, keysL_rep e r2⟩
    cases k <;> rfl
  | (.inr k, d) :: l, ks, kvs, h, r => by simp [keysL] at h
theorem og_list (ok : OkX C X) : CallR X (.type "list") (rVn C listG) := by
  intro pins s σ H xs us Q I r ⟨S, ds, so, rd, o, eo, q⟩
  unfold listG at eo
  split at eo
  · obtain ⟨x, rfl, a, vs, rfl, h1, hr⟩ := reps1 rd
    have eo' := Option.some.inj eo
    subst eo'
    exact call_list_of pins s σ H _ us Q I r ⟨a, vs, rfl, .inr (tup_sq ok.K h1), fun p hp => q_lst so hp hr q⟩
  · obtain ⟨x, rfl, a, vs, rfl, h1, hr⟩ := reps1 rd
    have eo' := Option.some.inj eo
    subst eo'
    exact call_list_of pins s σ H _ us Q I r ⟨a, vs, rfl, .inl (lst_sq ok.K h1), fun p hp => q_lst so hp hr q⟩
  · rename_i x
    split at eo
    · next hx =>
      cases eo
      obtain ⟨y, rfl, r1⟩ := reps1 rd
      obtain rfl : y = .str x := r1
      obtain ⟨u, rfl, t, rfl⟩ := vals1 r
      have hz : x.cps.size ≤ sizeLine := big_line hx
      refine PySem.call_list_str (I.ok.hd ok.calm) x t (hn := hz) fun h' tk acc c' hk hS hacc => ?_
      have hv : Vals (x.cps.toList.map fun c => V.str ⟨#[c]⟩) acc.toList := vals_signs (x := x) (k := 0) (by rw [Array.length_toList, Array.length_toList]; exact hacc.1) (fun j v e => by
        have := hacc.2 j v (by rw [← Array.getElem?_toList]; exact e)
        simpa [SignAt] using this) fun j _ => by simp
      refine ⟨.ref s.heap.objs.size, upd H s.heap.objs.size (.lst (x.cps.toList.map fun c => V.str ⟨#[c]⟩)), I.laid (t' := tk) hk (Nat.le_refl _)
        (show ObjOk X.prog X.w _ _ _ (.lst (x.cps.toList.map fun c => V.str ⟨#[c]⟩)) from ⟨by rw [List.length_map, Array.length_toList]; exact hz, acc.toList, c', hv, by rw [Array.toArray_toList]; exact hS⟩), rfl, q_lst so (I.hok.fresh (Nat.le_refl _)) (rep_ones _) q⟩
    · cases eo
  · rename_i l
    split at eo
    · cases eo
    · next hl =>
      obtain ⟨ks, ek, rfl⟩ := Option.map_eq_some_iff.mp eo
      obtain ⟨x, rfl, a, rfl, sa, hk⟩ := reps1 rd
      rcases hk with ⟨kvs, h1, h2⟩ | ⟨kvs, h1, h2⟩
      · exact call_listD ok.calm pins s σ H _ us Q I r ⟨a, kvs, rfl, h1, fun p hp => q_lst so hp (keysL_rep ek h2) q⟩
      · exfalso
        cases l with
        | nil => simp at hl
        | cons p l =>
          obtain ⟨k, d⟩ := p
          obtain ⟨j, v, q', rfl, ej, _, _⟩ := h2
          subst ej
          simp [keysL] at ek
  · cases eo
theorem og_all (ok : OkX C X) : CallR X (.builtin "all") (rVn C allG) := by
  intro pins s σ H xs us Q I r ⟨S, ds, so, rd, o, eo, q⟩
  unfold allG at eo
  split at eo
  · obtain ⟨x, rfl, a, vs, rfl, h1, hr⟩ := reps1 rd
    cases em : optAll blOf _ with
    | none => rw [em] at eo; cases eo
    | some bs =>
      rw [em] at eo
      rw [mapM_bl em] at hr
      have ev := reps_bl hr
      subst ev
      exact cr_all ok.calm pins s σ H _ us Q I r ⟨a, bs, rfl, lst_sq ok.K h1, q_sc so q (Option.some.inj eo).symm rfl⟩
  · cases eo
theorem og_any (ok : OkX C X) : CallR X (.builtin "any") (rVn C anyG) := by
  intro pins s σ H xs us Q I r ⟨S, ds, so, rd, o, eo, q⟩
  unfold anyG at eo
  split at eo
  · obtain ⟨x, rfl, a, vs, rfl, h1, hr⟩ := reps1 rd
    cases em : optAll blOf _ with
    | none => rw [em] at eo; cases eo
    | some bs =>
      rw [em] at eo
      rw [mapM_bl em] at hr
      have ev := reps_bl hr
      subst ev
      exact cr_any ok.calm pins s σ H _ us Q I r ⟨a, bs, rfl, lst_sq ok.K h1, q_sc so q (Option.some.inj eo).symm rfl⟩
  · cases eo
/-! isinstance against a built-in class -/
def tyN : D → Option String
  | .non => some "NoneType" | .bl _ => some "bool" | .int _ => some "int" | .str _ => some "str" | .tup _ => some "tuple" | .lst _ => some "list" | .dct _ => some "dict"
  | _ => none
/-- by the types' names: a bool is an int, too -/
def isG (T : String) (d : D) : Option O := (tyN d).map fun t => bO (t == T || (T == "int" && t == "bool"))
def isTs : List String := ["str", "int", "bool", "tuple", "list", "dict"]
theorem kitB_is {t T : String} (h1 : t ∈ ["NoneType", "bool", "int", "str", "tuple", "list", "dict"]) (h2 : T ∈ isTs) : kitB t T = some (t == T || (T == "int" && t == "bool")) := by
  unfold isTs at h2
  simp only [List.mem_cons, List.not_mem_nil, or_false] at h1 h2
  rcases h1 with rfl | rfl | rfl | rfl | rfl | rfl | rfl <;> rcases h2 with rfl | rfl | rfl | rfl | rfl | rfl <;> decide +kernel
theorem isi_at (ok : OkX C X) (I : Inv X pins σ H s) {A : Around} {E : Value → Shared → Prop} {Q : Value → Shared → Prop} {x : V} {u c : Value} {d : D} {t : String} {b : Bool} (rx : RelV x u) (r : RepD C H S x d) (et : tyN d = some t)
    (e : PySem.W.kitOne X.K (.type t) c = some b) (h : ∀ tk, Q (.bool b) { s with toks := tk }) : wpAny (model X.prog X.w) A (call (.builtin "isinstance") [u, c]) Q E s := by
  cases d <;> simp only [tyN, reduceCtorEq] at et <;> (try (have et := Option.some.inj et; subst et))
  · have : x = .non := r
    subst this
    cases rx; exact PySem.W.kia_one PySem.W.kitx_none I.kIn True.intro e (fun z => nomatch z) h
  · have : x = .bl _ := r
    subst this
    cases rx; exact PySem.W.kia_one PySem.W.kitx_bool I.kIn True.intro e (fun z => nomatch z) h
  · have : x = .int _ := r
    subst this
    obtain ⟨t, rfl⟩ := rx; exact PySem.W.kia_one PySem.W.kitx_int I.kIn True.intro e (fun z => nomatch z) h
  · have : x = .str _ := r
    subst this
    obtain ⟨t, rfl⟩ := rx; exact PySem.W.kia_one PySem.W.kitx_str I.kIn True.intro e (fun z => nomatch z) h
  · obtain ⟨a, vs, rfl, h1, hr⟩ := r
    cases rx
    obtain ⟨its, _, ⟨o, e1, e2, _⟩, _⟩ := I.tuple (tup_sq ok.K h1)
    exact PySem.W.kia_one PySem.W.kitx_tuple I.kIn ⟨o, e1, e2⟩ e (fun z => nomatch z) h
  · obtain ⟨a, vs, rfl, h1, hr⟩ := r
    cases rx
    obtain ⟨its, n, _, _, _, e1⟩ := lst_obj ok.K I h1
    exact PySem.W.kia_one PySem.W.kitx_list I.kIn ⟨_, e1, rfl⟩ e (fun z => nomatch z) h
  · obtain ⟨a, rfl, hs, ⟨kvs, h1, hr⟩ | ⟨kvs, h1, hr⟩⟩ := r
    · cases rx
      obtain ⟨_, _, vs, _, p⟩ := (show ObjOk X.prog X.w H s.heap a (.dK kvs) from h1.ok I.hok)
      obtain ⟨o, es, ep, e1, e2, _⟩ := p
      exact PySem.W.kia_one PySem.W.kitx_dict I.kIn ⟨o, e1, e2.1⟩ e (fun z => nomatch z) h
    · cases rx
      obtain ⟨_, _, xs, _, o, es, ep, e1, e2, _⟩ := (show ObjOk X.prog X.w H s.heap a (.dT kvs) from h1.ok I.hok)
      exact PySem.W.kia_one PySem.W.kitx_dict I.kIn ⟨o, e1, e2.1⟩ e (fun z => nomatch z) h
theorem tyN_mem {d : D} {t : String} (h : tyN d = some t) : t ∈ ["NoneType", "bool", "int", "str", "tuple", "list", "dict"] := by
  cases d <;> simp only [tyN, reduceCtorEq] at h <;> (have h := Option.some.inj h; subst h; decide)
theorem call_isB (ok : OkX C X) {T : String} (hT : T ∈ isTs) : CallR X (.builtin "isinstance") (fun xs H Q => ∃ x, xs = [x, .ty T] ∧ rV1 C (isG T) x H Q) := by
  intro pins s σ H xs us Q I r ⟨x, ex, S, d, so, rd, o, eo, q⟩
  subst ex
  obtain ⟨u1, u2, rfl, r1, r2⟩ := vals2 r
  cases (show u2 = Value.type T from r2)
  obtain ⟨t, et, rfl⟩ : ∃ t, tyN d = some t ∧ bO (t == T || (T == "int" && t == "bool")) = o := by simpa [isG] using eo
  exact isi_at ok I r1 rd et (kit_ty (kitB_is (tyN_mem et) hT)) fun tk => ⟨.bl _, H, I.tok tk, rfl, q_sc so q rfl rfl⟩
variable {E : WX}
/-- isinstance(e, T), T a built-in class -/
theorem de_isi (ok : OkX C X) {T : String} {x : Str} {p p2 pos : Pos} {e : Expr} {f : Fe} (hT : T ∈ isTs) (he : DE C E X e f) (hg : Gl X "isinstance") (hm : X.mg "isinstance" = none) (hg2 : Gl X x) (hm2 : X.mg x = none) (hv2 : bootBuiltins x = some (.type T))
    (hn : x ≠ "__name__" := by decide) (hdb : (x == ("__debug__" : Str)) = false := by decide)
    (h1 : starEach [e, .Name x p2] X.env = (false, eval e X.env) :: starEach [.Name x p2] X.env := by rfl) (h2 : starEach [.Name x p2] X.env = (false, eval (.Name x p2) X.env) :: starEach [] X.env := by rfl)
    (hpl : (backTo pos (starEach [.Name x p2] X.env)).any (·.1) = false := by rfl) : DE C E X (.Call (.Name "isinstance" p) [e, .Name x p2] [] pos) (e1 (isG T) f) :=
  pe_imp (pe_callB (call_isB ok hT) hg hm PyProof.Rows.boot_isinstance (pa_cons he (pa_cons (pe_bltn (v := .ty T) hg2 hm2 hv2 rfl hn hdb) pa_nil h2) h1) (by decide) (by decide) h1 hpl) fun σ H Q q => by
    have q' := r1_of q
    obtain ⟨ρ, S, F, he, w, q'⟩ := q'
    refine ⟨ρ, S, F, he, w, ?_⟩
    cases ef : f ρ with
    | bad => rw [ef] at q'; exact q'
    | exc x ρ' => rw [ef] at q'; exact q'
    | ok o ρ1 =>
      rw [ef] at q'
      exact fun v H' S' F' A a1 a2 a3 a4 a5 => ⟨v, rfl, q' v H' S' F' A a1 a2 a3 a4 a5⟩
end
end G
end

section
set_option maxRecDepth 100000
set_option maxHeartbeats 2000000
open PySem PySem.Spec PyProof.Rows L2
namespace HT
section
variable {prog : Program} {w : World} {A : Around} {E : Value → Shared → Prop} {s : Shared}
/-- a tuple at a slice, by the places that the slice comes to: the tuple itself, or a new one -/
theorem tuple_at_slice {t sl : Addr} {items : Array Value} {vl vu vs : Value} {lo st : Int} {n : Nat} {Q : Value → Shared → Prop} (ht : IsTup s.heap t items) (hs : s.heap.IsSliceOf sl vl vu vs)
    (app : ∀ {A' : Around} {E' : Value → Shared → Prop} {Q' : Int × Int × Nat → Shared → Prop}, Q' (lo, st, n) s → wpAny (model prog w) A' (Builtin.Slice.sliceApplied (.ref sl) (pure (items.size : Int))) Q' E' s)
    (yes : ((lo == 0 && st == 1 && n == items.size) = true) → Q (.ref t) s)
    (no : ((lo == 0 && st == 1 && n == items.size) = false) → ((List.range n).filterMap fun (k : Nat) => items[(lo + (k : Int) * st).toNat]?).length ≤ sizeLine ∧
      Q (.ref s.heap.objs.size) { s with heap := s.heap.push { cls := .type "tuple", data := .seq ((List.range n).filterMap fun (k : Nat) => items[(lo + (k : Int) * st).toNat]?).toArray } }) :
    wpAny (model prog w) A (getItem (.ref t) (.ref sl)) Q E s := by
  have kind : s.TypeIs (.ref sl) "slice" := let ⟨o, g, c, _⟩ := hs; ⟨o, g, c⟩
  have body : wpAny (model prog w) A.in1 (Builtin.«tuple.__getitem__» ⟨[.ref t, .ref sl], []⟩) (fun fin s' => ∃ v, fin = .done (.ret v) ∧ wpAny (model prog w) A (pure v) Q E s') E s := by
    refine wpAny_bind (m := Builtin.Tuple.tupleItemsOf (.ref t)) (tupleItemsOf_ ht (wpAny_bind (wpAny_typeOf kind ?_)))
    rw [if_pos (beq_self_eq_true _)]
    refine wpAny_bind (app ?_)
    dsimp only
    cases c : (lo == 0 && st == 1 && n == items.size)
    · obtain ⟨z, q⟩ := no c
      rw [if_neg Bool.false_ne_true]
      exact wpAny_bind (m := Builtin.Tuple.tupleExact _) (wpAny_newObj_type (wpAny_pure ⟨_, rfl, wpAny_pure q⟩) (show (List.toArray _).size ≤ sizeLine by rw [List.size_toArray]; exact z))
    · rw [if_pos rfl]
      refine wpAny_bind (m := Builtin.Tuple.tupleIsExact (.ref t)) (wpAny_bind (wpAny_typeOf ht.typeIs (wpAny_pure ?_)))
      rw [if_pos (beq_self_eq_true _)]
      exact wpAny_bind (wpAny_rule (wpAny_pure ⟨_, rfl, wpAny_pure (yes c)⟩))
  unfold getItem
  refine wpAny_holding (wpAny_bind (wpAny_sequenceKey ht.typeIs (by decide) (wpAny_bind (wpAny_callSpecial?_slot (name := Str.ofString "__getitem__") ht.typeIs PyProof.Rows.slot_tuple_getitem ?_))))
  exact wpAny_call_entry PyProof.Rows.slot_tuple_getitem ht.typeIs entry_tuple_getitem body (args_tuple_getitem _ _)
theorem getItem_tuple_whole {t sl : Addr} {items : Array Value} {vl vu : Value} {lo hi : Option Int} {Q : Value → Shared → Prop} (ht : IsTup s.heap t items) (hs : s.heap.IsSliceOf sl vl vu .none) (pl : IsPart vl lo) (pu : IsPart vu hi)
    (h1 : sIx items.size 0 lo = 0) (h2 : sIx items.size items.size hi = items.size) (h : Q (.ref t) s) : wpAny (model prog w) A (getItem (.ref t) (.ref sl)) Q E s := by
  refine tuple_at_slice ht hs (fun q => sliceApplied_gen hs pl pu q) (fun _ => h) fun c => ?_
  rw [h1, h2, Nat.sub_zero, beq_self_eq_true, Bool.and_true] at c
  exact absurd c (by simp)
end
end HT
namespace G
/-! dicts by keys -/
def keyOf : D → Option Key
  | .int i => some (.inl i)
  | .str x => some (.inr x)
  | _ => none
def kdOf : D → Option Kd
  | .int i => some (.inl (.inl i))
  | .str x => some (.inl (.inr x))
  | .tup l => (optAll keyOf l).map .inr
  | _ => none
/-- the kind of keys -/
def kLike : Kd → List (Kd × D) → Bool
  | _, [] => false
  | .inl _, (.inl _, _) :: _ => true
  | .inr _, (.inr _, _) :: _ => true
  | _, _ => false
def kGet (l : List (Kd × D)) (k : Kd) : Option D := (l.find? fun p => decide (p.1 = k)).map (·.2)
def idx (l : List D) (i : Int) : Option D := atI l i
def itemG : D → D → Option O
  | .lst l, .int i => (atI l i).map .sh
  | .tup l, .int i => (atI l i).map .sh
  | .str x, .int i => if x.length ≤ big then (atI x.cps.toList i).map fun c => sO ⟨#[c]⟩ else none
  | .dct l, k => (kdOf k).bind fun k => if kLike k l then (kGet l k).map .sh else none
  | _, _ => none
section
variable {C : Cn} {X : Cx} {pins : List (Addr × Obj)} {σ : L2.St} {H : Hp} {s : Shared} {S : Set'} {Q : VK}
theorem atI_rep {vs : List V} {l : List D} {i : Int} {d : D} (r : RepDs C H S vs l) (h : atI l i = some d) : ∃ v, atI vs i = some v ∧ RepD C H S v d := by
  unfold atI at h ⊢
  rw [r.len]
  cases e : ixN l.length i with
  | none => rw [e] at h; cases h
  | some j =>
    rw [e] at h
    exact r.get (show l[j]? = some d from h)
theorem key_rep {x : V} {d : D} {k : Key} (r : RepD C H S x d) (h : keyOf d = some k) : x = kV k := by
  cases d <;> simp only [keyOf, reduceCtorEq] at h <;> (have h := Option.some.inj h; subst h; exact r)
theorem keys_rep : ∀ {vs : List V} {l : List D} {ks : List Key}, RepDs C H S vs l → optAll keyOf l = some ks → vs = ks.map kV
  | vs, [], ks, r, h => by have := Option.some.inj h; subst this; exact r
  | vs, d :: l, ks, r, h => by
    obtain ⟨a, b, h1, h2, rfl⟩ := optAll_cons h
    obtain ⟨v, t, e, r1, r2⟩ := r
    rw [e, key_rep r1 h1, keys_rep r2 h2]; rfl
theorem repK_get : ∀ {kvs : List (Key × V)} {l : List (Kd × D)} {k : Key}, RepK C H S kvs l → (∀ d, kGet l (.inl k) = some d → ∃ v, valV kvs k = some v ∧ RepD C H S v d) ∧ (kGet l (.inl k) = none → valV kvs k = none)
  | kvs, [], k, r => by rw [show kvs = [] from r]; exact ⟨fun d h => (by cases h), fun _ => rfl⟩
  | kvs, (i, d) :: l, k, r => by
    obtain ⟨j, v, t, rfl, rfl, r1, r2⟩ := r
    have ih := repK_get (k := k) r2
    by_cases e : j = k
    · subst e
      have e1 : kGet ((Sum.inl j, d) :: l) (.inl j) = some d := by simp [kGet]
      have e2 : valV ((j, v) :: t) j = some v := valV_pos rfl
      rw [e1, e2]
      exact ⟨fun d' h => (by cases h; exact ⟨v, rfl, r1⟩), fun h => (by cases h)⟩
    · have e1 : kGet ((Sum.inl j, d) :: l) (.inl k) = kGet l (.inl k) := by simp [kGet, e]
      have e2 : valV ((j, v) :: t) k = valV t k := valV_neg e
      rw [e1, e2]
      exact ih
theorem repT_get : ∀ {kvs : List (List Key × V)} {l : List (Kd × D)} {k : List Key}, RepT C H S kvs l → (∀ d, kGet l (.inr k) = some d → ∃ v, valV kvs k = some v ∧ RepD C H S v d) ∧ (kGet l (.inr k) = none → valV kvs k = none)
  | kvs, [], k, r => by rw [show kvs = [] from r]; exact ⟨fun d h => (by cases h), fun _ => rfl⟩
  | kvs, (i, d) :: l, k, r => by
    obtain ⟨j, v, t, rfl, rfl, r1, r2⟩ := r
    have ih := repT_get (k := k) r2
    by_cases e : j = k
    · subst e
      have e1 : kGet ((Sum.inr j, d) :: l) (.inr j) = some d := by simp [kGet]
      have e2 : valV ((j, v) :: t) j = some v := valV_pos rfl
      rw [e1, e2]
      exact ⟨fun d' h => (by cases h; exact ⟨v, rfl, r1⟩), fun h => (by cases h)⟩
    · have e1 : kGet ((Sum.inr j, d) :: l) (.inr k) = kGet l (.inr k) := by simp [kGet, e]
      have e2 : valV ((j, v) :: t) k = valV t k := valV_neg e
      rw [e1, e2]
      exact ih
/-- what a dict of data holds at a key -/
theorem dget_at (ok : OkX C X) (I : Inv X pins σ H s) {a : Addr} {l : List (Kd × D)} {y : V} {d : D} {k : Kd} (rl : RepD C H S (.ref a) (.dct l)) (rk : RepD C H S y d) (ek : kdOf d = some k) (lk : kLike k l = true) :
    ∃ o, DGet H a y o ∧ (∀ d', kGet l k = some d' → ∃ v, o = some v ∧ RepD C H S v d') ∧ (kGet l k = none → o = none) := by
  obtain ⟨a', ea, hs, hk⟩ := rl
  injection ea with ea
  subst ea
  cases k with
  | inl k =>
    have ey : y = kV k := by
      cases d <;> simp [kdOf] at ek
      · subst ek; exact rk
      · subst ek; exact rk
    rcases hk with ⟨kvs, h1, hr⟩ | ⟨kvs, h1, hr⟩
    · have g := repK_get (k := k) hr
      refine ⟨valV kvs k, .inl ⟨kvs, k, h1, ey, rfl⟩, g.1, g.2⟩
    · cases l with
      | nil => simp [kLike] at lk
      | cons p l =>
        obtain ⟨i, e⟩ := p
        obtain ⟨j, v, t, _, rfl, _⟩ := hr
        simp [kLike] at lk
  | inr ks =>
    have ey : ∃ m, d = .tup m ∧ optAll keyOf m = some ks := by
      cases d <;> simp [kdOf] at ek
      exact ⟨_, rfl, ek⟩
    obtain ⟨m, rfl, hm⟩ := ey
    obtain ⟨b, vs, rfl, hb, hr2⟩ := rk
    have e2 := keys_rep hr2 hm
    subst e2
    rcases hk with ⟨kvs, h1, hr⟩ | ⟨kvs, h1, hr⟩
    · cases l with
      | nil => simp [kLike] at lk
      | cons p l =>
        obtain ⟨i, e⟩ := p
        obtain ⟨j, v, t, _, rfl, _⟩ := hr
        simp [kLike] at lk
    · have g := repT_get (k := ks) hr
      exact ⟨valV kvs ks, .inr ⟨kvs, ks, b, h1, rfl, hb, rfl⟩, g.1, g.2⟩
theorem ix_dict (ok : OkX C X) : IxR X (fun x y H Q => ∃ a v, x = .ref a ∧ DGet H a y (some v) ∧ Q v H) := by
  intro value slice pins s σ H x y v u Q I rx ry ⟨a, w, ex, g, q⟩ hs
  subst ex
  cases rx
  exact tail_any (dict_typeIs I g) PySem.F.slot_dict_getitem.lookup (d_getItem (by have := ok.un; omega) I g ry fun w' s3 I3 rw' => ⟨w, H, I3, rw', q⟩) hs
theorem ig_item (ok : OkX C X) : IxR X (rV2 C itemG) := by
  intro value slice pins s σ H x y v u Q I rx ry ⟨S, dx, dy, so, r1, r2, o, eo, q⟩ hs
  unfold itemG at eo
  split at eo
  · next l i =>
    obtain ⟨a, vs, rfl, h1, hr⟩ := r1
    cases ed : atI l i with
    | none => rw [ed] at eo; cases eo
    | some d =>
      rw [ed] at eo
      obtain ⟨w, ew, rw'⟩ := atI_rep hr ed
      exact ix_list value slice pins s σ H _ y v u Q I rx ry ⟨a, vs, i, w, rfl, r2, lst_sq ok.K h1, ew, q_sc so q (Option.some.inj eo).symm rw'⟩ hs
  · next l i =>
    obtain ⟨a, vs, rfl, h1, hr⟩ := r1
    cases ed : atI l i with
    | none => rw [ed] at eo; cases eo
    | some d =>
      rw [ed] at eo
      obtain ⟨w, ew, rw'⟩ := atI_rep hr ed
      exact ix_tup value slice pins s σ H _ y v u Q I rx ry ⟨a, vs, i, w, rfl, r2, tup_sq ok.K h1, ew, q_sc so q (Option.some.inj eo).symm rw'⟩ hs
  · next x' i =>
    split at eo
    · next hb =>
      cases ed : atI x'.cps.toList i with
      | none => rw [ed] at eo; cases eo
      | some c =>
        rw [ed] at eo
        exact ix_str value slice pins s σ H _ y v u Q I rx ry ⟨x', i, c, r1, r2, big_line hb, ed, q_sc so q (Option.some.inj eo).symm rfl⟩ hs
    · cases eo
  · next l =>
    cases ek : kdOf dy with
    | none => rw [ek] at eo; cases eo
    | some k =>
      rw [ek] at eo
      have eo : (if kLike k l = true then (kGet l k).map O.sh else none) = some o := eo
      split at eo
      · next lk =>
        cases eg : kGet l k with
        | none => rw [eg] at eo; cases eo
        | some d' =>
          rw [eg] at eo
          obtain ⟨a, ea, _⟩ := id r1
          subst ea
          obtain ⟨o', g, g1, _⟩ := dget_at ok I r1 r2 ek lk
          obtain ⟨w, rfl, rw'⟩ := g1 d' eg
          exact ix_dict ok value slice pins s σ H _ y v u Q I rx ry ⟨a, w, rfl, g, q_sc so q (Option.some.inj eo).symm rw'⟩ hs
      · cases eo
  · cases eo
variable {E : WX}
theorem de_item (ok : OkX C X) {a b : Expr} {pos : Pos} {f h : Fe} (ha : DE C E X a f) (hb : DE C E X b h) (hs : PlainIx b) : DE C E X (.Subscript a b pos) (e2 itemG f h) :=
  pe_imp (pe_ix (ig_item ok) ha hb hs) fun _ _ _ q => r2_of q
/-! slices -/
def cutL (l : List D) (lo hi : Option Int) : List D := (l.drop (HT.sIx l.length 0 lo)).take (HT.sIx l.length l.length hi - HT.sIx l.length 0 lo)
def cutG (d : D) (lo hi : Option Int) : Option O := match d with
  | .lst l => some (OL (cutL l lo hi))
  | .tup l => some (.sh (.tup (cutL l lo hi)))
  | .str x => if x.length ≤ big then some (sO (cutS x lo hi)) else none
  | _ => none
def ePart (f : Option Fe) : Env' → Out (Option Int) := fun ρ => match f with
  | none => .ok none ρ
  | some f => (f ρ).bind fun o ρ1 => match o.toD with
    | .int i => .ok (some i) ρ1
    | _ => .bad
def eCut (f : Fe) (lo hi : Option Fe) : Fe := fun ρ => (f ρ).bind fun o ρ1 => (ePart lo ρ1).bind fun i ρ2 => (ePart hi ρ2).bind fun j ρ3 => fin (cutG o.toD i j) ρ3
def rP (C : Cn) (E : WX) (f : Env' → Out (Option Int)) : TO := fun σ H Q => ∃ ρ S F, RepE C H S σ ρ F ∧ Wf C H S F ∧ match f ρ with
  | .ok b ρ' => ∀ H' S' F', RepE C H' S' σ ρ' F' → Wf C H' S' F' → Fr C H S F H' S' F' → Q b H'
  | .exc x ρ' => ∀ c d H' S' F', RepE C H' S' σ ρ' F' → Wf C H' S' F' → Fr C H S F H' S' F' → RepXn C H' S' x c d → E c d σ H'
  | .bad => False
abbrev DP (C : Cn) (E : WX) (X : Cx) (e : Option Expr) (f : Option Fe) : Prop := PO X e (rP C E (ePart f))
theorem po_imp {e : Option Expr} {t t' : TO} (h : PO X e t) (hi : ∀ σ H Q, t' σ H Q → t σ H Q) : PO X e t' := ⟨fun pins s σ H Q I q => h.run pins s σ H Q I (hi σ H Q q)⟩
theorem dp_none : DP C E X none none := po_imp po_none fun σ H Q ⟨ρ, S, F, he, w, q⟩ => q H S F he w .refl
theorem dp_some {e : Expr} {f : Fe} (h : DE C E X e f) : DP C E X (some e) (some f) := by
  refine po_imp (po_some h) fun σ H Q ⟨ρ, S, F, he, w, q⟩ => ⟨ρ, S, F, he, w, ?_⟩
  unfold ePart at q
  cases ef : f ρ with
  | bad => simp only [ef, bind_bad] at q
  | exc x ρ' => simp only [ef, bind_exc] at q; exact q
  | ok o ρ1 =>
    simp only [ef, bind_ok] at q
    intro v H1 S1 F1 A he1 r1 w1 d1 fr1
    split at q
    · next b' i' heq =>
      split at heq
      · next i ei =>
        injection heq with h1 h2
        subst h1 h2
        have r := r1.share (S' := Un' S1 A) (fun _ => .inl) fun _ => .inr
        rw [ei] at r
        exact ⟨i, r, q H1 S1 F1 he1 w1.drop fr1.drop⟩
      · cases heq
    · next heq => split at heq <;> cases heq
    · exact q.elim
theorem RepDs.take : ∀ {vs : List V} {l : List D} (n : Nat), RepDs C H S vs l → RepDs C H S (vs.take n) (l.take n)
  | vs, l, 0, _ => by simp [RepDs]
  | vs, [], n + 1, r => by rw [show vs = [] from r]; simp [RepDs]
  | vs, d :: l, n + 1, r => by
    obtain ⟨v, t, e, r1, r2⟩ := r
    exact ⟨v, t.take n, by rw [e]; rfl, r1, r2.take n⟩
theorem RepDs.drop : ∀ {vs : List V} {l : List D} (n : Nat), RepDs C H S vs l → RepDs C H S (vs.drop n) (l.drop n)
  | vs, l, 0, r => r
  | vs, [], n + 1, r => by rw [show vs = [] from r]; simp [RepDs]
  | vs, d :: l, n + 1, r => by
    obtain ⟨v, t, e, r1, r2⟩ := r
    rw [e]
    exact r2.drop n
theorem cut_rep {vs : List V} {l : List D} (r : RepDs C H S vs l) (lo hi : Option Int) : RepDs C H S (cutV vs lo hi) (cutL l lo hi) := by
  unfold cutV cutL
  rw [r.len]
  exact (r.drop _).take _
/-- a slice by values: all three kinds -/
def rCut (C : Cn) : V → Option Int → Option Int → Hp → VK → Prop := fun x lo hi H Q => ∃ S d, So H S ∧ RepD C H S x d ∧ ∃ o, cutG d lo hi = some o ∧ ∀ v H' S' A, Alc H S H' S' A → RepO C H' S' v o A → Q v H'
theorem sl_tupAll (ok : OkX C X) : SlR X (fun x lo hi H Q => ∃ a vs S l, x = .ref a ∧ So H S ∧ H a = some (.tup vs) ∧ RepDs C H S vs l ∧ ∀ v H' S' A, Alc H S H' S' A → RepO C H' S' v (.sh (.tup (cutL l lo hi))) A → Q v H') := by
  intro pins s σ H x v vl vu lo hi sl Q I rx hs pl pu ⟨a, vs, S, l, ex, so, h1, hr, q⟩
  subst ex
  by_cases hw : HT.sIx vs.length 0 lo = 0 ∧ HT.sIx vs.length vs.length hi = vs.length
  · cases rx
    obtain ⟨its, rr, ht, hz⟩ := I.tuple (tup_sq ok.K h1)
    have hlen : its.toArray.size = vs.length := by rw [List.size_toArray]; exact rr.length.symm
    refine ⟨"tuple", _, slot_tuple_getitem.lookup, ht.typeIs, ?_⟩
    refine HT.getItem_tuple_whole ht hs pl pu (by rw [hlen]; exact hw.1) (by rw [hlen]; exact hw.2) ⟨.ref a, H, I, rfl, ?_⟩
    have el := hr.len
    have ec : cutL l lo hi = l := by
      unfold cutL
      rw [← el, hw.1, hw.2]
      simp [el]
    rw [ec] at q
    exact q_sc so q rfl ⟨a, vs, rfl, h1, hr⟩
  · exact sl_tup pins s σ H _ v vl vu lo hi sl Q I rx hs pl pu ⟨a, vs, rfl, tup_sq ok.K h1, hw, fun p hp => q_tup so hp (cut_rep hr lo hi) q⟩
theorem sl_all (ok : OkX C X) : SlR X (rCut C) := by
  intro pins s σ H x v vl vu lo hi sl Q I rx hs pl pu ⟨S, d, so, r, o, eo, q⟩
  unfold cutG at eo
  split at eo
  · next l =>
    obtain ⟨a, vs, rfl, h1, hr⟩ := r
    have eo' := Option.some.inj eo
    subst eo'
    exact sl_list pins s σ H _ v vl vu lo hi sl Q I rx hs pl pu ⟨a, vs, rfl, lst_sq ok.K h1, fun p hp => q_lst so hp (cut_rep hr lo hi) q⟩
  · next l =>
    obtain ⟨a, vs, rfl, h1, hr⟩ := r
    have eo' := Option.some.inj eo
    subst eo'
    exact sl_tupAll ok pins s σ H _ v vl vu lo hi sl Q I rx hs pl pu ⟨a, vs, S, l, rfl, so, h1, hr, q⟩
  · next x' =>
    split at eo
    · next h => exact sl_str pins s σ H x v vl vu lo hi sl Q I rx hs pl pu ⟨x', r, big_line h, q_sc so q (Option.some.inj eo).symm rfl⟩
    · cases eo
  · cases eo
theorem de_cut (ok : OkX C X) {e : Expr} {lo hi : Option Expr} {p2 pos : Pos} {f : Fe} {fl fh : Option Fe} (he : DE C E X e f) (hl : DP C E X lo fl) (hh : DP C E X hi fh) : DE C E X (.Subscript e (.Slice lo hi none p2) pos) (eCut f fl fh) := by
  refine pe_imp (pe_slice (sl_all ok) he hl hh) fun σ H Q ⟨ρ, S, F, he, w, q⟩ => ⟨ρ, S, F, he, w, ?_⟩
  unfold eCut at q
  cases ef : f ρ with
  | bad => rw [ef] at q; exact q
  | exc x ρ' => rw [ef] at q; exact q
  | ok o ρ1 =>
    rw [ef] at q
    simp only [bind_ok] at q
    intro v H1 S1 F1 A he1 r1 w1 d1 fr1
    refine ⟨ρ1, S1, F1, he1, w1.drop, ?_⟩
    cases el : ePart fl ρ1 with
    | bad => rw [el] at q; exact q
    | exc x ρ' =>
      rw [el] at q
      exact fun c d H2 S2 F2 he2 w2 fr2 rx => q c d H2 S2 F2 he2 w2 (fr1.drop.trans fr2) rx
    | ok i ρ2 =>
      rw [el] at q
      simp only [bind_ok] at q
      intro H2 S2 F2 he2 w2 fr2
      obtain ⟨ka, d3, w3, fr3, k⟩ := fr_tmp w1 d1 fr1 fr2 w2
      refine ⟨ρ2, S2, F2, he2, w2, ?_⟩
      cases eh : ePart fh ρ2 with
      | bad => rw [eh] at q; exact q
      | exc x ρ' =>
        rw [eh] at q
        exact fun c d H4 S4 F4 he4 w4 fr4 rx => q c d H4 S4 F4 he4 w4 (fr3.drop.trans fr4) rx
      | ok j ρ3 =>
        rw [eh] at q
        simp only [bind_ok] at q
        intro H4 S4 F4 he4 w4 fr4
        obtain ⟨ka5, d5, w5, fr5, k5⟩ := fr_tmp w3 d3 fr3 fr4 w4
        have r5 := (r1.mono k ka).mono k5 ka5
        obtain ⟨o', eo⟩ := fin_bad q
        have kk : Kp H4 S4 H4 (Un' S4 A) := ⟨fun _ _ _ _ e => e, fun _ _ _ _ e => e, fun _ => .inl⟩
        have w6 := w5.share d5
        exact ⟨Un' S4 A, o.toD, w6.so, r5.share (fun _ => .inl) (fun _ => .inr), o', eo, fin_op (he4.mono kk fun _ _ => rfl) w6 fr5.share eo q⟩
/-! in, not in -/
def strIn (x z : Str) : Bool := !(Builtin.Str.occurrences z x 0 z.length 1).isEmpty
def inG : D → D → Option Bool
  | x, .lst l => if (x.pl 60 && plAll 60 l) = true then some (l.any fun z => z.eqD x) else none
  | x, .tup l => if (x.pl 60 && plAll 60 l) = true then some (l.any fun z => z.eqD x) else none
  | .str x, .str z => some (strIn x z)
  | k, .dct l => (kdOf k).bind fun k => if kLike k l then some (kGet l k).isSome else none
  | _, _ => none
def gIn (x y : D) : Option O := (inG x y).map bO
def gNin (x y : D) : Option O := (inG x y).map fun b => bO (!b)
open Classical in
noncomputable def eIn (l : List D) (its : List Value) (x : D) (y : Value) : Bool := decide (∃ (i : Nat) (d : D), its[i]? = some y ∧ l[i]? = some d ∧ d.eqD x = true)
theorem vals_at : ∀ {vs : List V} {us : List Value} {i : Nat} {u : Value}, Vals vs us → us[i]? = some u → ∃ v, vs[i]? = some v ∧ RelV v u
  | _, _, _, _, .nil, e => by simp at e
  | _, _, 0, _, .cons r _, e => by simp at e; subst e; exact ⟨_, rfl, r⟩
  | _, _, i + 1, x, .cons _ t, e => by
    obtain ⟨u, h1, h2⟩ := vals_at (i := i) (u := x) t (by simpa using e)
    exact ⟨u, by simpa using h1, h2⟩
theorem reps_at : ∀ {vs : List V} {l : List D} {i : Nat} {v : V}, RepDs C H S vs l → vs[i]? = some v → ∃ d, l[i]? = some d ∧ RepD C H S v d
  | vs, [], i, v, r, e => by rw [show vs = [] from r] at e; simp at e
  | vs, d :: l, 0, v, r, e => by
    obtain ⟨u, t, rfl, r1, r2⟩ := r
    simp at e; subst e; exact ⟨d, rfl, r1⟩
  | vs, d :: l, i + 1, v, r, e => by
    obtain ⟨u, t, rfl, r1, r2⟩ := r
    obtain ⟨d', e1, r3⟩ := reps_at (i := i) (v := v) r2 (by simpa using e)
    exact ⟨d', by simpa using e1, r3⟩
open Classical in
theorem in_at (ok : OkX C X) (I : Inv X pins σ H s) {x : V} {u : Value} {dx : D} {l : List D} {vs : List V} {its : List Value} (rx : RelV x u) (r1 : RepD C H S x dx) (hr : RepDs C H S vs l) (rr : Vals vs its) (p1 : dx.pl 60 = true) (p2 : plAll 60 l = true) :
    (∀ y, y ∈ its.toArray → SeqAt.EqAt X.A.in1 s y u (eIn l its dx y)) ∧ its.toArray.any (eIn l its dx) = l.any fun z => z.eqD dx := by
  have hA1 : X.A.in1.units + 60 < cLine := by have := ok.un; show X.A.units + 1 + 60 < cLine; omega
  have key : ∀ (i : Nat) (y : Value), its[i]? = some y → ∃ d, l[i]? = some d ∧ SeqAt.EqAt X.A.in1 s y u (d.eqD dx) ∧ eIn l its dx y = d.eqD dx := fun i y hy => by
    obtain ⟨v, ev, rv⟩ := vals_at rr hy
    obtain ⟨d, ed, rd⟩ := reps_at hr ev
    have hd : d.pl 60 = true := plAll_mem p2 (List.mem_of_getElem? ed)
    refine ⟨d, ed, eq_at ok.K I 60 X.A.in1 hA1 d dx v x y u hd p1 rd r1 rv rx, ?_⟩
    unfold eIn
    by_cases hc : d.eqD dx = true
    · rw [hc]; exact decide_eq_true ⟨i, d, hy, ed, hc⟩
    · have hf : d.eqD dx = false := by simpa using hc
      rw [hf]
      refine decide_eq_false ?_
      rintro ⟨j, d', hj, ej, hj'⟩
      obtain ⟨v', ev', rv'⟩ := vals_at rr hj
      obtain ⟨d2, ed2, rd2⟩ := reps_at hr ev'
      rw [ej] at ed2
      cases ed2
      have evv := rv.inj rv'
      subst evv
      have := repD_inj ok.K I d d' 60 60 v hd (plAll_mem p2 (List.mem_of_getElem? ej)) rd rd2
      subst this
      rw [hf] at hj'; cases hj'
  have len : its.length = l.length := by rw [← rr.length, hr.len]
  refine ⟨fun y hy => ?_, ?_⟩
  · obtain ⟨i, hi⟩ := List.mem_iff_getElem?.mp (show y ∈ its by simpa using hy)
    obtain ⟨d, ed, h1, h2⟩ := key i y hi
    rw [h2]; exact h1
  · rw [show its.toArray.any (eIn l its dx) = its.any (eIn l its dx) by simp]
    have : ∀ b, its.any (eIn l its dx) = b ↔ (l.any fun z => z.eqD dx) = b := fun b => by
      have e1 : its.any (eIn l its dx) = true ↔ (l.any fun z => z.eqD dx) = true := by
        rw [List.any_eq_true, List.any_eq_true]
        constructor
        · rintro ⟨y, hy, h⟩
          obtain ⟨i, hi⟩ := List.mem_iff_getElem?.mp hy
          obtain ⟨d, ed, _, h2⟩ := key i y hi
          exact ⟨d, List.mem_of_getElem? ed, by rw [← h2]; exact h⟩
        · rintro ⟨d, hd, h⟩
          obtain ⟨i, hi⟩ := List.mem_iff_getElem?.mp hd
          have hl : i < its.length := by rw [len]; exact (List.getElem?_eq_some_iff.mp hi).1
          obtain ⟨d', ed, _, h2⟩ := key i its[i] (by simp [hl])
          rw [hi] at ed
          cases ed
          exact ⟨its[i], List.getElem_mem hl, by rw [h2]; exact h⟩
      cases b with
      | true => exact e1
      | false =>
        rw [Bool.eq_false_iff, Bool.eq_false_iff]
        exact not_congr e1
    exact (this _).mpr rfl
theorem in_pos {d e : D} {b : Bool} (h : inG d e = some b) : (∃ l, e = .lst l ∧ d.pl 60 = true ∧ plAll 60 l = true ∧ b = l.any fun z => z.eqD d) ∨ (∃ l, e = .tup l ∧ d.pl 60 = true ∧ plAll 60 l = true ∧ b = l.any fun z => z.eqD d) ∨
    (∃ x z, d = .str x ∧ e = .str z ∧ b = strIn x z) ∨ ∃ l k, e = .dct l ∧ kdOf d = some k ∧ kLike k l = true ∧ b = (kGet l k).isSome := by
  unfold inG at h
  split at h
  · next x l =>
    split at h
    · next hp =>
      have hp' : d.pl 60 = true ∧ plAll 60 l = true := by simpa using hp
      exact .inl ⟨l, rfl, hp'.1, hp'.2, (Option.some.inj h).symm⟩
    · cases h
  · next x l =>
    split at h
    · next hp =>
      have hp' : d.pl 60 = true ∧ plAll 60 l = true := by simpa using hp
      exact .inr (.inl ⟨l, rfl, hp'.1, hp'.2, (Option.some.inj h).symm⟩)
    · cases h
  · exact .inr (.inr (.inl ⟨_, _, rfl, rfl, (Option.some.inj h).symm⟩))
  · next l =>
    cases ek : kdOf d with
    | none => rw [ek] at h; cases h
    | some k =>
      rw [ek] at h
      have h : (if kLike k l = true then some (kGet l k).isSome else none) = some b := h
      split at h
      · next lk => exact .inr (.inr (.inr ⟨l, k, rfl, rfl, lk, (Option.some.inj h).symm⟩))
      · cases h
  · cases h
theorem og_in (ok : OkX C X) : OpR X (compareOp .In) (rV2 C gIn) := by
  intro pins s σ H x y v u Q I rx ry ⟨S, dx, dy, so, r1, r2, o, eo, q⟩
  obtain ⟨b, eb, rfl⟩ : ∃ b, inG dx dy = some b ∧ bO b = o := by simpa [gIn] using eo
  rcases in_pos eb with ⟨l, rfl, p1, p2, rfl⟩ | ⟨l, rfl, p1, p2, rfl⟩ | ⟨a, z, rfl, rfl, rfl⟩ | ⟨l, k, rfl, ek, lk, rfl⟩
  · obtain ⟨a, vs, rfl, h1, hr⟩ := r2
    cases ry
    obtain ⟨its, rr, p, _⟩ := I.list (lst_sq ok.K h1)
    obtain ⟨k1, k2⟩ := in_at ok I rx r1 hr rr p1 p2
    exact SeqAt.in_listAt _ p.isList k1 ⟨.bl _, H, I, rfl, by rw [k2]; exact q_sc so q rfl rfl⟩
  · obtain ⟨a, vs, rfl, h1, hr⟩ := r2
    cases ry
    obtain ⟨its, rr, p, _⟩ := I.tuple (tup_sq ok.K h1)
    obtain ⟨k1, k2⟩ := in_at ok I rx r1 hr rr p1 p2
    exact SeqAt.in_tupleAt _ p k1 ⟨.bl _, H, I, rfl, by rw [k2]; exact q_sc so q rfl rfl⟩
  · exact op_in_str pins s σ H x y v u Q I rx ry ⟨a, z, r1, r2, q_sc so q rfl rfl⟩
  · obtain ⟨a, ea, _⟩ := id r2
    subst ea
    cases ry
    obtain ⟨o', g, g1, g2⟩ := dget_at ok I r2 r1 ek lk
    refine d_in (by have := ok.un; omega) I g rx fun s' I' => ⟨.bl _, H, I', rfl, ?_⟩
    have e : o'.isSome = (kGet l k).isSome := by
      cases eg : kGet l k with
      | none => rw [g2 eg]; rfl
      | some d => obtain ⟨w, rfl, _⟩ := g1 d eg; rfl
    rw [e]
    exact q_sc so q rfl rfl
theorem og_nin (ok : OkX C X) : OpR X (compareOp .NotIn) (rV2 C gNin) := by
  intro pins s σ H x y v u Q I rx ry ⟨S, dx, dy, so, r1, r2, o, eo, q⟩
  obtain ⟨b, eb, rfl⟩ : ∃ b, inG dx dy = some b ∧ bO (!b) = o := by simpa [gNin] using eo
  rcases in_pos eb with ⟨l, rfl, p1, p2, rfl⟩ | ⟨l, rfl, p1, p2, rfl⟩ | ⟨a, z, rfl, rfl, rfl⟩ | ⟨l, k, rfl, ek, lk, rfl⟩
  · obtain ⟨a, vs, rfl, h1, hr⟩ := r2
    cases ry
    obtain ⟨its, rr, p, _⟩ := I.list (lst_sq ok.K h1)
    obtain ⟨k1, k2⟩ := in_at ok I rx r1 hr rr p1 p2
    exact SeqAt.notIn_listAt _ p.isList k1 ⟨.bl _, H, I, rfl, by rw [k2]; exact q_sc so q rfl rfl⟩
  · obtain ⟨a, vs, rfl, h1, hr⟩ := r2
    cases ry
    obtain ⟨its, rr, p, _⟩ := I.tuple (tup_sq ok.K h1)
    obtain ⟨k1, k2⟩ := in_at ok I rx r1 hr rr p1 p2
    exact SeqAt.notIn_tupleAt _ p k1 ⟨.bl _, H, I, rfl, by rw [k2]; exact q_sc so q rfl rfl⟩
  · exact op_notin_str pins s σ H x y v u Q I rx ry ⟨a, z, r1, r2, q_sc so q rfl rfl⟩
  · obtain ⟨a, ea, _⟩ := id r2
    subst ea
    cases ry
    obtain ⟨o', g, g1, g2⟩ := dget_at ok I r2 r1 ek lk
    refine d_notIn (by have := ok.un; omega) I g rx fun s' I' => ⟨.bl _, H, I', rfl, ?_⟩
    have e : o'.isSome = (kGet l k).isSome := by
      cases eg : kGet l k with
      | none => rw [g2 eg]; rfl
      | some d => obtain ⟨w, rfl, _⟩ := g1 d eg; rfl
    rw [e]
    exact q_sc so q rfl rfl
/-! is, is not: None and the bools -/
def isNon : D → Bool
  | .non => true
  | _ => false
def isD : D → D → Option Bool
  | d, .non => some (isNon d)
  | .bl a, .bl b => some (decide (a = b))
  | _, _ => none
def gIs (x y : D) : Option O := (isD x y).map bO
def gIsn (x y : D) : Option O := (isD x y).map fun b => bO (!b)
theorem non_iff {x : V} {d : D} (r : RepD C H S x d) : decide (x = .non) = isNon d := by
  cases d <;> simp [RepD] at r <;> (first | (subst r; rfl) | skip)
  all_goals (obtain ⟨a, rfl, _⟩ := r; rfl)
theorem og_is (ok : OkX C X) : OpR X (compareOp .Is) (rV2 C gIs) := by
  intro pins s σ H x y v u Q I rx ry ⟨S, dx, dy, so, r1, r2, o, eo, q⟩
  obtain ⟨b, eb, rfl⟩ : ∃ b, isD dx dy = some b ∧ bO b = o := by simpa [gIs] using eo
  unfold isD at eb
  split at eb
  · have eb := Option.some.inj eb
    exact op_isN pins s σ H x y v u Q I rx ry ⟨r2, by rw [non_iff r1, eb]; exact q_sc so q rfl rfl⟩
  · have eb := Option.some.inj eb
    exact op_isBl pins s σ H x y v u Q I rx ry ⟨_, _, r1, r2, by rw [eb]; exact q_sc so q rfl rfl⟩
  · cases eb
theorem og_isn (ok : OkX C X) : OpR X (compareOp .IsNot) (rV2 C gIsn) := by
  intro pins s σ H x y v u Q I rx ry ⟨S, dx, dy, so, r1, r2, o, eo, q⟩
  obtain ⟨b, eb, rfl⟩ : ∃ b, isD dx dy = some b ∧ bO (!b) = o := by simpa [gIsn] using eo
  unfold isD at eb
  split at eb
  · have eb := Option.some.inj eb
    exact op_notN pins s σ H x y v u Q I rx ry ⟨r2, by rw [non_iff r1, eb]; exact q_sc so q rfl rfl⟩
  · have eb := Option.some.inj eb
    exact op_notBl pins s σ H x y v u Q I rx ry ⟨_, _, r1, r2, by rw [eb]; exact q_sc so q rfl rfl⟩
  · cases eb
end
end G
end

section
set_option maxRecDepth 100000
set_option maxHeartbeats 2000000
open PySem PySem.Spec PyProof.Rows L2
namespace G
def eTru (f : Fe) : Env' → Out Bool := fun ρ => (f ρ).bind fun o ρ1 => match truG o.toD with
  | some b => .ok b ρ1
  | none => .bad
def tNt (f : Env' → Out Bool) : Env' → Out Bool := fun ρ => (f ρ).bind fun b ρ1 => .ok (!b) ρ1
def tAn (f h : Env' → Out Bool) : Env' → Out Bool := fun ρ => (f ρ).bind fun b ρ1 => if b = true then h ρ1 else .ok false ρ1
def tOr' (f h : Env' → Out Bool) : Env' → Out Bool := fun ρ => (f ρ).bind fun b ρ1 => if b = true then .ok true ρ1 else h ρ1
def eIf (c : Env' → Out Bool) (f h : Fe) : Fe := fun ρ => (c ρ).bind fun b ρ1 => if b = true then f ρ1 else h ρ1
def eNot (f : Fe) : Fe := fun ρ => (f ρ).bind fun o ρ1 => match truG o.toD with
  | some b => .ok (bO (!b)) ρ1
  | none => .bad
def blD : D → Option Bool
  | .bl b => some b
  | _ => none
/-- and, or of bools -/
def eAnd (f h : Fe) : Fe := fun ρ => (f ρ).bind fun o ρ1 => match blD o.toD with
  | some true => h ρ1
  | some false => .ok (bO false) ρ1
  | none => .bad
def eOr (f h : Fe) : Fe := fun ρ => (f ρ).bind fun o ρ1 => match blD o.toD with
  | some true => .ok (bO true) ρ1
  | some false => h ρ1
  | none => .bad
def bO? : Option O → Option Bool
  | some (.sh (.bl b)) => some b
  | _ => none
def eChn (g g' : D → D → Option O) (f h k : Fe) : Fe := fun ρ => (f ρ).bind fun a ρ1 => (h ρ1).bind fun b ρ2 => match bO? (g a.toD b.toD) with
  | some true => (k ρ2).bind fun c ρ3 => fin (g' b.toD c.toD) ρ3
  | some false => .ok (bO false) ρ2
  | none => .bad
section
variable {C : Cn} {E : WX} {X : Cx} {σ : L2.St} {H : Hp} {S F : Set'} {ρ : Env'} {a b c : Expr} {rest : List Expr} {pos : Pos} {f h k : Fe} {tf th : Env' → Out Bool}
theorem kp_sh {H : Hp} {S A : Set'} : Kp H S H (Un' S A) := ⟨fun _ _ _ _ e => e, fun _ _ _ _ e => e, fun _ => .inl⟩
/-- the truth of what an expression gives -/
theorem rT_of {g : Option Bool → Env' → Out Bool} {Q : Bool → Hp → Prop} (q : rT C E (eTru f) σ H Q) : rE C E f σ H (fun x H1 => ∃ S d, RepD C H1 S x d ∧ ∃ k, truG d = some k ∧ Q k H1) := by
  obtain ⟨ρ, S, F, he, w, q⟩ := q
  refine ⟨ρ, S, F, he, w, ?_⟩
  unfold eTru at q
  cases ef : f ρ with
  | bad => rw [ef] at q; exact q
  | exc x ρ' => rw [ef] at q; exact q
  | ok o ρ1 =>
    rw [ef] at q
    simp only [bind_ok] at q
    intro v H1 S1 F1 A he1 r1 w1 d1 fr1
    cases et : truG o.toD with
    | none => rw [et] at q; exact q.elim
    | some b =>
      rw [et] at q
      exact ⟨Un' S1 A, o.toD, r1.share (fun _ => .inl) (fun _ => .inr), b, et, q H1 S1 F1 he1 w1.drop fr1.drop⟩
theorem dt_tru (ok : OkX C X) (ha : DE C E X a f) (he : ∀ whole, isTrue a X.env whole = (do let v ← whole; standAt a.pos; holding [v] (truthy v)) := by intro _; rfl) : DT C E X a (eTru f) :=
  pt_imp (t := fun σ H Q => rE C E f σ H fun x H1 => ∃ S d, RepD C H1 S x d ∧ ∃ k, truG d = some k ∧ Q k H1)
    ⟨fun pins s σ H Q I q => isTrue_plain (thn (PE.run ha pins s σ H _ I q) fun v s1 ⟨x, H1, I1, r1, q1⟩ => og_tru ok pins s1 σ H1 x v Q I1 r1 q1) (he _)⟩
    fun σ H Q q => rT_of (g := fun _ _ => .bad) q
theorem tB_of {Q : Bool → Hp → Prop} {tf th : Env' → Out Bool} (k : Bool → Env' → Out Bool) (q : rT C E (fun ρ => (tf ρ).bind k) σ H Q) : rT C E tf σ H (fun b H1 => rT C E (k b) σ H1 Q) := by
  obtain ⟨ρ, S, F, he, w, q⟩ := q
  refine ⟨ρ, S, F, he, w, ?_⟩
  cases ef : tf ρ with
  | bad => simp only [ef, bind_bad] at q
  | exc x ρ' => simp only [ef, bind_exc] at q; exact q
  | ok b ρ1 =>
    simp only [ef, bind_ok] at q
    intro H1 S1 F1 he1 w1 fr1
    refine ⟨ρ1, S1, F1, he1, w1, ?_⟩
    cases ek : k b ρ1 with
    | bad => rw [ek] at q; exact q
    | exc x ρ' => rw [ek] at q; exact fun c d H2 S2 F2 he2 w2 fr2 rx => q c d H2 S2 F2 he2 w2 (fr1.trans fr2) rx
    | ok b' ρ2 => rw [ek] at q; exact fun H2 S2 F2 he2 w2 fr2 => q H2 S2 F2 he2 w2 (fr1.trans fr2)
theorem rT_pure {b : Bool} {Q : Bool → Hp → Prop} (q : rT C E (fun ρ => .ok b ρ) σ H Q) : Q b H := by
  obtain ⟨ρ, S, F, he, w, q⟩ := q
  exact q H S F he w .refl
theorem dt_not (ha : DT C E X a tf) : DT C E X (.UnaryOp .Not a pos) (tNt tf) :=
  pt_imp (pt_not ha) fun σ H Q q => by
    obtain ⟨ρ, S, F, he, w, q⟩ := tB_of (th := tf) (fun b ρ => .ok (!b) ρ) q
    refine ⟨ρ, S, F, he, w, ?_⟩
    cases ef : tf ρ with
    | bad => rw [ef] at q; exact q
    | exc x ρ' => rw [ef] at q; exact q
    | ok b ρ1 => rw [ef] at q; exact fun H1 S1 F1 he1 w1 fr1 => rT_pure (q H1 S1 F1 he1 w1 fr1)
theorem rT_mono {tf : Env' → Out Bool} {Q Q' : Bool → Hp → Prop} (q : rT C E tf σ H Q) (m : ∀ b H, Q b H → Q' b H) : rT C E tf σ H Q' := by
  obtain ⟨ρ, S, F, he, w, q⟩ := q
  refine ⟨ρ, S, F, he, w, ?_⟩
  cases ef : tf ρ with
  | bad => rw [ef] at q; exact q
  | exc x ρ' => rw [ef] at q; exact q
  | ok b ρ1 => rw [ef] at q; exact fun H1 S1 F1 he1 w1 fr1 => m _ _ (q H1 S1 F1 he1 w1 fr1)
theorem dw_and1 (ha : DT C E X a tf) : DW C E X (.BoolOp .And [a] pos) tf := pw_and1 ha
theorem dw_or1 (ha : DT C E X a tf) : DW C E X (.BoolOp .Or [a] pos) tf := pw_or1 ha
theorem dw_and (ha : DT C E X a tf) (hb : DW C E X (.BoolOp .And (b :: rest) pos) th) : DW C E X (.BoolOp .And (a :: b :: rest) pos) (tAn tf th) :=
  pw_imp (pw_and ha hb) fun σ H Q q => rT_mono (tB_of (th := tf) (fun b ρ => if b = true then th ρ else .ok false ρ) q) fun b H1 q1 => by
    cases b with
    | true => exact q1
    | false => exact rT_pure q1
theorem dw_or (ha : DT C E X a tf) (hb : DW C E X (.BoolOp .Or (b :: rest) pos) th) : DW C E X (.BoolOp .Or (a :: b :: rest) pos) (tOr' tf th) :=
  pw_imp (pw_or ha hb) fun σ H Q q => rT_mono (tB_of (th := tf) (fun b ρ => if b = true then .ok true ρ else th ρ) q) fun b H1 q1 => by
    cases b with
    | true => exact rT_pure q1
    | false => exact q1
theorem dt_w (h : DW C E X a tf) : DT C E X a tf := PW.pt h
theorem de_if (hc : DT C E X c tf) (ha : DE C E X a f) (hb : DE C E X b h) : DE C E X (.IfExp c a b pos) (eIf tf f h) :=
  pe_imp (pe_ifExp hc ha hb) fun σ H Q ⟨ρ, S, F, he, w, q⟩ => by
    refine ⟨ρ, S, F, he, w, ?_⟩
    unfold eIf at q
    cases ef : tf ρ with
    | bad => rw [ef] at q; exact q
    | exc x ρ' => rw [ef] at q; exact q
    | ok t ρ1 =>
      rw [ef] at q
      simp only [bind_ok] at q
      intro H1 S1 F1 he1 w1 fr1
      have fin : ∀ g : Fe, (match g ρ1 with
          | .ok o ρ' => ∀ v H' S' F' A, RepE C H' S' σ ρ' F' → RepO C H' S' v o A → Wf C H' S' (Un' A F') → Dj A F' → Fr C H S F H' S' (Un' A F') → Q v H'
          | .exc x ρ' => ∀ c d H' S' F', RepE C H' S' σ ρ' F' → Wf C H' S' F' → Fr C H S F H' S' F' → RepXn C H' S' x c d → E c d σ H'
          | .bad => False) → rE C E g σ H1 Q := fun g qg => by
        refine ⟨ρ1, S1, F1, he1, w1, ?_⟩
        cases eg : g ρ1 with
        | bad => rw [eg] at qg; exact qg
        | exc x ρ' => rw [eg] at qg; exact fun c d H2 S2 F2 he2 w2 fr2 rx => qg c d H2 S2 F2 he2 w2 (fr1.trans fr2) rx
        | ok o ρ2 => rw [eg] at qg; exact fun v H2 S2 F2 A he2 r2 w2 d2 fr2 => qg v H2 S2 F2 A he2 r2 w2 d2 (fr1.trans fr2)
      cases t with
      | true => exact fin f q
      | false => exact fin h q
/-- what an expression gives, by its truth: its own value (shared from now on), or what follows -/
def tG (C : Cn) (t : TE) (k1 k2 : V → TE) : TE := fun σ H Q => t σ H fun x H1 => ∃ S d, RepD C H1 S x d ∧ ∃ k, truG d = some k ∧ if k = true then k1 x σ H1 Q else k2 x σ H1 Q
theorem pe_andG (ok : OkX C X) {ta tb : TE} (ha : PE X a ta) (hb : PE X (.BoolOp .And (b :: rest) pos) tb) : PE X (.BoolOp .And (a :: b :: rest) pos) (tG C ta (fun _ => tb) fun x _ H Q => Q x H) := by
  refine ⟨fun pins s σ H Q I h => ?_⟩
  refine BoolOp_and (thn (ha.run pins s σ H _ I h) fun v s1 ⟨x, H1, I1, r1, S, d, rd, k, ek, q1⟩ => ?_)
  refine thn (og_tru ok pins s1 σ H1 x v (fun c H2 => c = k ∧ H2 = H1) I1 r1 ⟨S, d, rd, k, ek, rfl, rfl⟩) fun c s2 ⟨H2, I2, ec, eh⟩ => ?_
  subst ec eh
  cases c with
  | true => exact hb.run pins s2 σ _ Q I2 q1
  | false => exact ⟨x, _, I2, r1, q1⟩
theorem pe_orG (ok : OkX C X) {ta tb : TE} (ha : PE X a ta) (hb : PE X (.BoolOp .Or (b :: rest) pos) tb) : PE X (.BoolOp .Or (a :: b :: rest) pos) (tG C ta (fun x _ H Q => Q x H) fun _ => tb) := by
  refine ⟨fun pins s σ H Q I h => ?_⟩
  refine BoolOp_or (thn (ha.run pins s σ H _ I h) fun v s1 ⟨x, H1, I1, r1, S, d, rd, k, ek, q1⟩ => ?_)
  refine thn (og_tru ok pins s1 σ H1 x v (fun c H2 => c = k ∧ H2 = H1) I1 r1 ⟨S, d, rd, k, ek, rfl, rfl⟩) fun c s2 ⟨H2, I2, ec, eh⟩ => ?_
  subst ec eh
  cases c with
  | true => exact ⟨x, _, I2, r1, q1⟩
  | false => exact hb.run pins s2 σ _ Q I2 q1
theorem pe_notG (ok : OkX C X) {ta : TE} (ha : PE X a ta) : PE X (.UnaryOp .Not a pos) (tG C ta (fun _ _ H Q => Q (.bl false) H) fun _ _ H Q => Q (.bl true) H) := by
  refine ⟨fun pins s σ H Q I h => ?_⟩
  refine UnaryOp_ (thn (ha.run pins s σ H _ I h) fun v s1 ⟨x, H1, I1, r1, S, d, rd, k, ek, q1⟩ => ?_)
  refine not_of (thn (og_tru ok pins s1 σ H1 x v (fun c H2 => c = k ∧ H2 = H1) I1 r1 ⟨S, d, rd, k, ek, rfl, rfl⟩) fun c s2 ⟨H2, I2, ec, eh⟩ => ?_)
  subst ec eh
  refine ⟨.bl (!c), _, I2, rfl, ?_⟩
  cases c <;> exact q1
/-- the step all three share -/
theorem rG_of {kt kf : Fe} {k1 k2 : V → TE} {Q : VK} (q : rE C E (fun ρ => (f ρ).bind fun o ρ1 => match truG o.toD with
      | some true => kt ρ1
      | some false => kf ρ1
      | none => .bad) σ H Q)
    (h1 : ∀ x H1, rE C E kt σ H1 Q → k1 x σ H1 Q) (h2 : ∀ x H1, rE C E kf σ H1 Q → k2 x σ H1 Q) : tG C (rE C E f) k1 k2 σ H Q := by
  obtain ⟨ρ, S, F, he, w, q⟩ := q
  refine ⟨ρ, S, F, he, w, ?_⟩
  cases ef : f ρ with
  | bad => simp only [ef, bind_bad] at q
  | exc x ρ' => simp only [ef, bind_exc] at q; exact q
  | ok o ρ1 =>
    simp only [ef, bind_ok] at q
    intro v H1 S1 F1 A he1 r1 w1 d1 fr1
    have fin : ∀ g : Fe, (match g ρ1 with
        | .ok o ρ' => ∀ v H' S' F' A, RepE C H' S' σ ρ' F' → RepO C H' S' v o A → Wf C H' S' (Un' A F') → Dj A F' → Fr C H S F H' S' (Un' A F') → Q v H'
        | .exc x ρ' => ∀ c d H' S' F', RepE C H' S' σ ρ' F' → Wf C H' S' F' → Fr C H S F H' S' F' → RepXn C H' S' x c d → E c d σ H'
        | .bad => False) → rE C E g σ H1 Q := fun g qg => by
      refine ⟨ρ1, S1, F1, he1, w1.drop, ?_⟩
      cases eg : g ρ1 with
      | bad => rw [eg] at qg; exact qg
      | exc x ρ' => rw [eg] at qg; exact fun c d H2 S2 F2 he2 w2 fr2 rx => qg c d H2 S2 F2 he2 w2 (fr1.drop.trans fr2) rx
      | ok o ρ2 => rw [eg] at qg; exact fun v H2 S2 F2 A he2 r2 w2 d2 fr2 => qg v H2 S2 F2 A he2 r2 w2 d2 (fr1.drop.trans fr2)
    cases et : truG o.toD with
    | none => rw [et] at q; exact q.elim
    | some t =>
      rw [et] at q
      refine ⟨Un' S1 A, o.toD, r1.share (fun _ => .inl) (fun _ => .inr), t, et, ?_⟩
      cases t with
      | true => exact h1 v H1 (fin kt q)
      | false => exact h2 v H1 (fin kf q)
theorem rE_sc {v : V} {d : D} (r : ∀ H S, RepD C H S v d) {Q : VK} (q : rE C E (fun ρ => .ok (.sh d) ρ) σ H Q) : Q v H := by
  obtain ⟨ρ, S, F, he, w, q⟩ := q
  exact ret_sh he w .refl (r H S) q
theorem de_not (ok : OkX C X) (ha : DE C E X a f) : DE C E X (.UnaryOp .Not a pos) (eNot f) :=
  pe_imp (pe_notG ok ha) fun σ H Q q => rG_of (kt := fun ρ => .ok (bO false) ρ) (kf := fun ρ => .ok (bO true) ρ)
    (by
      have e : eNot f = fun ρ => (f ρ).bind fun o ρ1 => match truG o.toD with
          | some true => .ok (bO false) ρ1
          | some false => .ok (bO true) ρ1
          | none => .bad := by
        funext ρ
        unfold eNot
        cases f ρ with
        | ok o ρ1 => simp only [bind_ok]; cases truG o.toD with
          | none => rfl
          | some b => cases b <;> rfl
        | exc x ρ' => rfl
        | bad => rfl
      rw [e] at q
      exact q) (fun _ _ q => rE_sc (v := .bl false) (d := .bl false) (fun _ _ => rfl) q) fun _ _ q => rE_sc (v := .bl true) (d := .bl true) (fun _ _ => rfl) q
theorem de_one {op} (ha : DE C E X a f) : DE C E X (.BoolOp op [a] pos) f := pe_one ha
theorem rB_of {kt kf : Fe} {Q : VK} (q : rE C E (fun ρ => (f ρ).bind fun o ρ1 => match blD o.toD with
      | some true => kt ρ1
      | some false => kf ρ1
      | none => .bad) σ H Q) : rE C E f σ H (fun x H1 => ∃ c, x = .bl c ∧ if c = true then rE C E kt σ H1 Q else rE C E kf σ H1 Q) := by
  obtain ⟨ρ, S, F, he, w, q⟩ := q
  refine ⟨ρ, S, F, he, w, ?_⟩
  cases ef : f ρ with
  | bad => simp only [ef, bind_bad] at q
  | exc x ρ' => simp only [ef, bind_exc] at q; exact q
  | ok o ρ1 =>
    simp only [ef, bind_ok] at q
    intro v H1 S1 F1 A he1 r1 w1 d1 fr1
    have fin : ∀ g : Fe, (match g ρ1 with
        | .ok o ρ' => ∀ v H' S' F' A, RepE C H' S' σ ρ' F' → RepO C H' S' v o A → Wf C H' S' (Un' A F') → Dj A F' → Fr C H S F H' S' (Un' A F') → Q v H'
        | .exc x ρ' => ∀ c d H' S' F', RepE C H' S' σ ρ' F' → Wf C H' S' F' → Fr C H S F H' S' F' → RepXn C H' S' x c d → E c d σ H'
        | .bad => False) → rE C E g σ H1 Q := fun g qg => by
      refine ⟨ρ1, S1, F1, he1, w1.drop, ?_⟩
      cases eg : g ρ1 with
      | bad => rw [eg] at qg; exact qg
      | exc x ρ' => rw [eg] at qg; exact fun c d H2 S2 F2 he2 w2 fr2 rx => qg c d H2 S2 F2 he2 w2 (fr1.drop.trans fr2) rx
      | ok o ρ2 => rw [eg] at qg; exact fun v H2 S2 F2 A he2 r2 w2 d2 fr2 => qg v H2 S2 F2 A he2 r2 w2 d2 (fr1.drop.trans fr2)
    have r := r1.share (S' := Un' S1 A) (fun _ => .inl) (fun _ => .inr)
    cases et : blD o.toD with
    | none => rw [et] at q; exact q.elim
    | some t =>
      rw [et] at q
      have ed : o.toD = .bl t := by
        revert et
        cases o.toD <;> intro et <;> simp [blD] at et
        rw [et]
      rw [ed] at r
      refine ⟨t, r, ?_⟩
      cases t with
      | true => exact fin kt q
      | false => exact fin kf q
theorem de_and (ha : DE C E X a f) (hb : DE C E X (.BoolOp .And (b :: rest) pos) h) : DE C E X (.BoolOp .And (a :: b :: rest) pos) (eAnd f h) :=
  pe_imp (pe_and ha hb) fun σ H Q q => by
    have q := rB_of (kt := h) (kf := fun ρ => .ok (bO false) ρ) q
    obtain ⟨ρ, S, F, he, w, q⟩ := q
    refine ⟨ρ, S, F, he, w, ?_⟩
    cases ef : f ρ with
    | bad => rw [ef] at q; exact q
    | exc x ρ' => rw [ef] at q; exact q
    | ok o ρ1 =>
      rw [ef] at q
      intro v H1 S1 F1 A he1 r1 w1 d1 fr1
      obtain ⟨c, ec, q⟩ := q v H1 S1 F1 A he1 r1 w1 d1 fr1
      refine ⟨c, ec, ?_⟩
      cases c with
      | true => exact q
      | false => exact rE_sc (E := E) (v := .bl false) (d := .bl false) (fun _ _ => rfl) q
theorem de_or (ha : DE C E X a f) (hb : DE C E X (.BoolOp .Or (b :: rest) pos) h) : DE C E X (.BoolOp .Or (a :: b :: rest) pos) (eOr f h) :=
  pe_imp (pe_or ha hb) fun σ H Q q => by
    have q := rB_of (kt := fun ρ => .ok (bO true) ρ) (kf := h) q
    obtain ⟨ρ, S, F, he, w, q⟩ := q
    refine ⟨ρ, S, F, he, w, ?_⟩
    cases ef : f ρ with
    | bad => rw [ef] at q; exact q
    | exc x ρ' => rw [ef] at q; exact q
    | ok o ρ1 =>
      rw [ef] at q
      intro v H1 S1 F1 A he1 r1 w1 d1 fr1
      obtain ⟨c, ec, q⟩ := q v H1 S1 F1 A he1 r1 w1 d1 fr1
      refine ⟨c, ec, ?_⟩
      cases c with
      | true => exact rE_sc (E := E) (v := .bl true) (d := .bl true) (fun _ _ => rfl) q
      | false => exact q
theorem chn_of {g g' : D → D → Option O} {Q : VK} (q : rE C E (eChn g g' f h k) σ H Q) : tChain (rV2 C g) (rV2 C g') (rE C E f) (rE C E h) (rE C E k) σ H Q := by
  obtain ⟨ρ, S, F, he, w, q⟩ := q
  refine ⟨ρ, S, F, he, w, ?_⟩
  unfold eChn at q
  cases ef : f ρ with
  | bad => rw [ef] at q; exact q
  | exc x ρ' => rw [ef] at q; exact q
  | ok oa ρ1 =>
    rw [ef] at q
    simp only [bind_ok] at q
    intro v H1 S1 F1 A he1 r1 w1 d1 fr1
    refine ⟨ρ1, S1, F1, he1, w1.drop, ?_⟩
    cases eh : h ρ1 with
    | bad => rw [eh] at q; exact q
    | exc x ρ' =>
      rw [eh] at q
      exact fun c d H2 S2 F2 he2 w2 fr2 rx => q c d H2 S2 F2 he2 w2 (fr1.drop.trans fr2) rx
    | ok ob ρ2 =>
      rw [eh] at q
      simp only [bind_ok] at q
      intro v2 H2 S2 F2 B he2 r2 w2 d2 fr2
      obtain ⟨ka, d3, w3, fr3, kp⟩ := fr_tmp w1 d1 fr1 fr2 w2
      obtain ⟨d4, d5⟩ := dj_un d3 d2
      have r1' := r1.mono kp ka
      rw [un_assoc] at w3 fr3
      have w4 := w3.share d5
      have fr4 := fr3.share
      have rda := r1'.share (S' := Un' S2 (Un' A B)) (fun _ => .inl) (fun _ z => .inr (.inl z))
      have rdb := r2.share (S' := Un' S2 (Un' A B)) (fun _ => .inl) (fun _ z => .inr (.inr z))
      have he4 : RepE C H2 (Un' S2 (Un' A B)) σ ρ2 F2 := he2.mono kp_sh fun _ _ => rfl
      cases eg : g oa.toD ob.toD with
      | none => rw [eg] at q; exact q.elim
      | some o1 =>
        rw [eg] at q
        refine ⟨Un' S2 (Un' A B), oa.toD, ob.toD, w4.so, rda, rdb, o1, eg, fun z H3 S3 D3 al rz => ?_⟩
        obtain ⟨he5, w5, d6, fr5⟩ := alc_step he4 w4 fr4 al
        cases o1 with
        | lst l => exact q.elim
        | dct l => exact q.elim
        | ins c l => exact q.elim
        | sh d =>
          cases d <;> try exact q.elim
          next t =>
          obtain ⟨eD, ez⟩ := rz
          refine ⟨t, ez, ?_⟩
          have w6 : Wf C H3 S3 F2 := w5.drop
          have fr6 : Fr C H S F H3 S3 F2 := fr5.drop
          cases t with
          | false =>
            show Q (.bl false) H3
            exact ret_sh he5 w6 fr6 (d := .bl false) rfl q
          | true =>
            show rE C E k σ H3 _
            have q : match (k ρ2).bind fun c ρ3 => fin (g' ob.toD c.toD) ρ3 with
              | .ok o ρ' => ∀ v H' S' F' A, RepE C H' S' σ ρ' F' → RepO C H' S' v o A → Wf C H' S' (Un' A F') → Dj A F' → Fr C H S F H' S' (Un' A F') → Q v H'
              | .exc x ρ' => ∀ c d H' S' F', RepE C H' S' σ ρ' F' → Wf C H' S' F' → Fr C H S F H' S' F' → RepXn C H' S' x c d → E c d σ H'
              | .bad => False := q
            refine ⟨ρ2, S3, F2, he5, w6, ?_⟩
            cases ek : k ρ2 with
            | bad => rw [ek] at q; exact q
            | exc x ρ' =>
              rw [ek] at q
              exact fun c d H4 S4 F4 he4 w4 fr7 rx => q c d H4 S4 F4 he4 w4 (fr6.trans fr7) rx
            | ok oc ρ3 =>
              rw [ek] at q
              simp only [bind_ok] at q
              intro v3 H4 S4 F4 G he7 r7 w7 d7 fr7
              obtain ⟨o', eo⟩ := fin_bad q
              have w8 := w7.share d7
              have k2 : Kp H3 S3 H4 (Un' S4 G) := (fr7.share).kp w6
              exact ⟨Un' S4 G, ob.toD, oc.toD, w8.so, (rdb.mono al.kp).mono k2, r7.share (fun _ => .inl) (fun _ => .inr), o', eo,
                fin_op (he7.mono kp_sh fun _ _ => rfl) w8 (fr6.trans fr7).share eo q⟩
theorem de_chn {op op' : CmpOp} {g g' : D → D → Option O} (ho : OpR X (compareOp op) (rV2 C g)) (ho' : OpR X (compareOp op') (rV2 C g')) (ha : DE C E X a f) (hb : DE C E X b h) (hc : DE C E X c k)
    (hm : lastMarks [op, op'] [b, c] = false := by with_unfolding_all rfl) : DE C E X (.Compare a [op, op'] [b, c] pos) (eChn g g' f h k) :=
  pe_imp (pe_chain ho ho' ha hb hc hm) fun _ _ _ q => chn_of q
end
end G
end

section
set_option maxRecDepth 100000
set_option maxHeartbeats 2000000
open PySem PySem.Spec PyProof.Rows L2
namespace G
inductive SO where
  | nx (ρ : Env') | ret (o : O) (ρ : Env') | exc (x : Xn) (ρ : Env') | brk (ρ : Env') | cnt (ρ : Env') | bad
abbrev Fs := Env' → SO
/-- an expression's end, then a statement's -/
def Out.then' {α : Type} (x : Out α) (k : α → Env' → SO) : SO := match x with
  | .ok a ρ => k a ρ
  | .exc x ρ => .exc x ρ
  | .bad => .bad
@[simp] theorem then_ok {α : Type} (a : α) (ρ : Env') (k : α → Env' → SO) : (Out.ok a ρ).then' k = k a ρ := rfl
@[simp] theorem then_exc {α : Type} (x : Xn) (ρ : Env') (k : α → Env' → SO) : (Out.exc x ρ : Out α).then' k = .exc x ρ := rfl
@[simp] theorem then_bad {α : Type} (k : α → Env' → SO) : (Out.bad : Out α).then' k = .bad := rfl
/-- what a statement's end is worth -/
structure Fx where
  pi : List Nat
  σ0 : L2.St
def Fx.at (P : Fx) (σ : L2.St) : Prop := ∀ j ∈ P.pi, σ[j]? = P.σ0[j]?
def PSO (C : Cn) (P : Fx) (E : WX) (D : Ends) (H : Hp) (S F : Set') : SO → Prop
  | .nx ρ' => ∀ σ' H' S' F', RepE C H' S' σ' ρ' F' → Wf C H' S' F' → P.at σ' → Fr C H S F H' S' F' → D.nx σ' H'
  | .ret o ρ' => ∀ v σ' H' S' F' A, RepE C H' S' σ' ρ' F' → RepO C H' S' v o A → Wf C H' S' (Un' A F') → Dj A F' → P.at σ' → Fr C H S F H' S' (Un' A F') → D.rt v H'
  | .exc x ρ' => ∀ c d σ' H' S' F', RepE C H' S' σ' ρ' F' → Wf C H' S' F' → P.at σ' → Fr C H S F H' S' F' → RepXn C H' S' x c d → E c d σ' H'
  | .brk ρ' => ∀ σ' H' S' F', RepE C H' S' σ' ρ' F' → Wf C H' S' F' → P.at σ' → Fr C H S F H' S' F' → D.bk σ' H'
  | .cnt ρ' => ∀ σ' H' S' F', RepE C H' S' σ' ρ' F' → Wf C H' S' F' → P.at σ' → Fr C H S F H' S' F' → D.ct σ' H'
  | .bad => False
def rS (C : Cn) (P : Fx) (E : WX) (f : Fs) : TS := fun D σ H => ∃ ρ S F, RepE C H S σ ρ F ∧ Wf C H S F ∧ P.at σ ∧ PSO C P E D H S F (f ρ)
abbrev DS (C : Cn) (P : Fx) (E : WX) (X : Cx) (st : Stmt) (f : Fs) : Prop := PS X st (rS C P E f)
abbrev DSs (C : Cn) (P : Fx) (E : WX) (X : Cx) (st : List Stmt) (f : Fs) : Prop := PSs X st (rS C P E f)
theorem ps_imp {X : Cx} {st : Stmt} {t t' : TS} (h : PS X st t) (hi : ∀ D σ H, t' D σ H → t D σ H) : PS X st t' := ⟨fun pins s σ H D I q => h.run pins s σ H D I (hi D σ H q)⟩
theorem pss_imp {X : Cx} {st : List Stmt} {t t' : TS} (h : PSs X st t) (hi : ∀ D σ H, t' D σ H → t D σ H) : PSs X st t' := ⟨fun pins s σ H D I q => h.run pins s σ H D I (hi D σ H q)⟩
/-- what was reached from (H1 S1 F1), itself reached from (H S F) -/
theorem PSO.trans {C : Cn} {P : Fx} {E : WX} {D : Ends} {H H1 : Hp} {S S1 F F1 : Set'} (fr : Fr C H S F H1 S1 F1) : ∀ {o : SO}, PSO C P E D H S F o → PSO C P E D H1 S1 F1 o
  | .nx _, q => fun σ' H' S' F' a b c d => q σ' H' S' F' a b c (fr.trans d)
  | .ret _ _, q => fun v σ' H' S' F' A a b c d e f => q v σ' H' S' F' A a b c d e (fr.trans f)
  | .exc _ _, q => fun c d σ' H' S' F' a b e f g => q c d σ' H' S' F' a b e (fr.trans f) g
  | .brk _, q => fun σ' H' S' F' a b c d => q σ' H' S' F' a b c (fr.trans d)
  | .cnt _, q => fun σ' H' S' F' a b c d => q σ' H' S' F' a b c (fr.trans d)
  | .bad, q => q
theorem PSO.mono {C : Cn} {P : Fx} {E E' : WX} {D D' : Ends} {H : Hp} {S F : Set'} (h1 : ∀ σ H, D.nx σ H → D'.nx σ H) (h2 : ∀ v H, D.rt v H → D'.rt v H) (h3 : ∀ σ H, D.bk σ H → D'.bk σ H) (h4 : ∀ σ H, D.ct σ H → D'.ct σ H) (h5 : ∀ c d σ H, E c d σ H → E' c d σ H) :
    ∀ {o : SO}, PSO C P E D H S F o → PSO C P E' D' H S F o
  | .nx _, q => fun σ' H' S' F' a b c d => h1 _ _ (q σ' H' S' F' a b c d)
  | .ret _ _, q => fun v σ' H' S' F' A a b c d e f => h2 _ _ (q v σ' H' S' F' A a b c d e f)
  | .exc _ _, q => fun c d σ' H' S' F' a b e f g => h5 _ _ _ _ (q c d σ' H' S' F' a b e f g)
  | .brk _, q => fun σ' H' S' F' a b c d => h3 _ _ (q σ' H' S' F' a b c d)
  | .cnt _, q => fun σ' H' S' F' a b c d => h4 _ _ (q σ' H' S' F' a b c d)
  | .bad, q => q
def sNil : Fs := fun ρ => .nx ρ
def sSeq (f g : Fs) : Fs := fun ρ => match f ρ with
  | .nx ρ1 => g ρ1
  | o => o
def sSet (i : Nat) (f : Fe) : Fs := fun ρ => (f ρ).then' fun o ρ1 => if i < ρ1.length then .nx (ρ1.set i (some o)) else .bad
def sExpr (f : Fe) : Fs := fun ρ => (f ρ).then' fun _ ρ1 => .nx ρ1
def sRet (f : Fe) : Fs := fun ρ => (f ρ).then' fun o ρ1 => .ret o ρ1
def sRetN : Fs := fun ρ => .ret (.sh .non) ρ
def sIf (c : Env' → Out Bool) (f g : Fs) : Fs := fun ρ => (c ρ).then' fun b ρ1 => if b = true then f ρ1 else g ρ1
def sBrk : Fs := fun ρ => .brk ρ
def sCnt : Fs := fun ρ => .cnt ρ
section
variable {C : Cn} {P : Fx} {E : WX} {X : Cx} {σ : L2.St} {H H1 : Hp} {S S1 F F1 A B : Set'} {ρ : Env'} {e : Expr} {pos : Pos} {f : Fe} {st : Stmt} {rest : List Stmt} {g h : Fs}
theorem dss_nil : DSs C P E X [] sNil := pss_imp pss_nil fun D σ H ⟨ρ, S, F, he, w, p, q⟩ => q σ H S F he w p .refl
theorem dss_cons (h1 : DS C P E X st g) (h2 : DSs C P E X rest h) : DSs C P E X (st :: rest) (sSeq g h) := by
  refine pss_imp (pss_cons h1 h2) fun D σ H ⟨ρ, S, F, he, w, p, q⟩ => ⟨ρ, S, F, he, w, p, ?_⟩
  unfold sSeq at q
  cases eg : g ρ with
  | nx ρ1 =>
    rw [eg] at q
    exact fun σ' H' S' F' a b c d => ⟨ρ1, S', F', a, b, c, q.trans d⟩
  | ret o ρ1 => rw [eg] at q; exact q
  | exc x ρ1 => rw [eg] at q; exact q
  | brk ρ1 => rw [eg] at q; exact q
  | cnt ρ1 => rw [eg] at q; exact q
  | bad => rw [eg] at q; exact q
theorem dss_one (h1 : DS C P E X st g) : DSs C P E X [st] g := pss_one h1
/-- an expression runs, then what follows of its value -/
theorem rE_then {k : O → Env' → SO} {D : Ends} {Q : VK} (he : RepE C H S σ ρ F) (w : Wf C H S F) (p : P.at σ) (q : PSO C P E D H S F ((f ρ).then' k))
    (h : ∀ o ρ1, f ρ = .ok o ρ1 → ∀ v H' S' F' A, RepE C H' S' σ ρ1 F' → RepO C H' S' v o A → Wf C H' S' (Un' A F') → Dj A F' → Fr C H S F H' S' (Un' A F') → PSO C P E D H S F (k o ρ1) → Q v H') : rE C E f σ H Q := by
  refine ⟨ρ, S, F, he, w, ?_⟩
  cases ef : f ρ with
  | bad => rw [ef] at q; exact q
  | exc x ρ' => rw [ef] at q; exact fun c d H' S' F' a b fr r => q c d σ H' S' F' a b p fr r
  | ok o ρ1 => rw [ef] at q; exact fun v H' S' F' A a b c d fr => h o ρ1 ef v H' S' F' A a b c d fr q
/-- a value goes into a slot -/
theorem slot_set {i : Nat} {v : V} {o : O} (he : RepE C H S σ ρ F) (r : RepO C H S v o A) (w : Wf C H S (Un' A F)) (d : Dj A F) (hl : i < ρ.length) :
    ∃ F', RepE C H S (σ.set i (some v)) (ρ.set i (some o)) F' ∧ Wf C H S F' ∧ ∀ a, F' a → Un' A F a := by
  obtain ⟨r0, e0⟩ : ∃ r, ρ[i]? = some r := ⟨ρ[i], by simp [hl]⟩
  obtain ⟨x, P, B, e1, _, h2, s⟩ := he.take e0
  have hd : Dj A B := fun a x y => d a x (s.r y)
  have q := h2.put (i := i) (F := Un' A B) (A := A) (x := some v) (r := some o) (by simp [hl]) ⟨v, rfl, r⟩ ⟨fun a => Iff.rfl, hd⟩
  rw [List.set_set] at q
  have sub : ∀ a, Un' A B a → Un' A F a := fun a z => z.elim .inl fun z => .inr (s.r z)
  exact ⟨Un' A B, q, ⟨fun a z => w.mu a (sub a z), fun a z => w.ns a (sub a z), w.so, w.tb⟩, sub⟩
theorem Fr.less {H' : Hp} {S' F2 F3 : Set'} (x : Fr C H S F H' S' F2) (h : ∀ a, F3 a → F2 a) : Fr C H S F H' S' F3 := ⟨x.keep, x.sub, x.new, fun a z => x.fnew a (h a z), x.tk⟩
theorem Fx.set {i : Nat} {v : Option V} (p : P.at σ) (hp : i ∉ P.pi) : P.at (σ.set i v) := fun j hj => by
  have : i ≠ j := fun e => hp (e ▸ hj)
  rw [← p j hj, List.getElem?_set_ne this]
theorem ds_set {i : Nat} {x : Str} {pos' : Pos} (hN : X.N.Nodup) (hi : X.N[i]? = some x) (hx : Loc X.env.scope x) (hp : i ∉ P.pi) (he : DE C E X e f) (hs : swapsWith e (some (.Name x pos')) pos.line X.env = pure false := by rfl) (hf : X.fn x = true ∨ X.env.scope.names.lookup x = some .local := by first | exact .inl rfl | exact .inr rfl | assumption) :
    DS C P E X (.Assign [.Name x pos'] e pos) (sSet i f) :=
  ps_imp (ps_set hN hi hx he hs hf) fun D σ H ⟨ρ, S, F, he, w, p, q⟩ => rE_then he w p q fun o ρ1 ef v H' S' F' A a b c d fr q => by
    by_cases hl : i < ρ1.length
    · rw [if_pos hl] at q
      obtain ⟨F2, h1, h2, h3⟩ := slot_set a b c d hl
      exact q _ H' S' F2 h1 h2 (Fx.set p hp) (fr.less h3)
    · rw [if_neg hl] at q; exact q.elim
theorem ds_expr (he : DE C E X e f) (hs : swapsWith e none pos.line X.env = pure false := by rfl) : DS C P E X (.Expr e pos) (sExpr f) :=
  ps_imp (ps_expr he hs) fun D σ H ⟨ρ, S, F, he, w, p, q⟩ => rE_then he w p q fun o ρ1 ef v H' S' F' A a b c d fr q => q σ H' S' F' a c.drop p fr.drop
theorem ds_ret (he : DE C E X e f) : DS C P E X (.Return (some e) pos) (sRet f) :=
  ps_imp (ps_ret he) fun D σ H ⟨ρ, S, F, he, w, p, q⟩ => rE_then he w p q fun o ρ1 ef v H' S' F' A a b c d fr q => q v σ H' S' F' A a b c d p fr
theorem ds_retN : DS C P E X (.Return none pos) sRetN := ps_imp ps_retN fun D σ H ⟨ρ, S, F, he, w, p, q⟩ => q .non σ H S F No he ⟨emp_no, rfl⟩ (wf_no w) dj_no p (fr_no .refl)
theorem ds_pass : DS C P E X (.Pass pos) sNil := ps_imp ps_pass fun D σ H ⟨ρ, S, F, he, w, p, q⟩ => q σ H S F he w p .refl
theorem ds_brk : DS C P E X (.Break pos) sBrk := ps_imp ps_break fun D σ H ⟨ρ, S, F, he, w, p, q⟩ => q σ H S F he w p .refl
theorem ds_cnt : DS C P E X (.Continue pos) sCnt := ps_imp ps_continue fun D σ H ⟨ρ, S, F, he, w, p, q⟩ => q σ H S F he w p .refl
theorem ds_if {c : Expr} {p1 p2 : List Stmt} {tc : Env' → Out Bool} (hc : DT C E X c tc) (ha : DSs C P E X p1 g) (hb : DSs C P E X p2 h) : DS C P E X (.If c p1 p2 pos) (sIf tc g h) := by
  refine ps_imp (ps_if hc ha hb) fun D σ H ⟨ρ, S, F, he, w, p, q⟩ => ⟨ρ, S, F, he, w, ?_⟩
  unfold sIf at q
  cases ec : tc ρ with
  | bad => rw [ec] at q; exact q
  | exc x ρ' => rw [ec] at q; exact fun c d H' S' F' a b fr r => q c d σ H' S' F' a b p fr r
  | ok b ρ1 =>
    rw [ec] at q
    simp only [then_ok] at q
    intro H' S' F' a b' fr
    cases b with
    | true => exact ⟨ρ1, S', F', a, b', p, PSO.trans fr q⟩
    | false => exact ⟨ρ1, S', F', a, b', p, PSO.trans fr q⟩
/-! owned data at a slot -/
/-- the slot's data taken out of the environment, and put back changed -/
theorem own_at {i : Nat} {o : O} (he : RepE C H S σ ρ F) (e : ρ[i]? = some (some o)) : ∃ v A B, σ[i]? = some (some v) ∧ RepO C H S v o A ∧ Sum' F A B ∧ RepE C H S σ (ρ.set i none) B ∧ i < ρ.length := by
  obtain ⟨x, A, B, e1, ⟨v, rfl, h1⟩, h2, s⟩ := he.take e
  exact ⟨v, A, B, e1, h1, s, h2, (List.getElem?_eq_some_iff.mp e).1⟩
theorem own_put {i : Nat} {o : O} {v : V} (he : RepE C H S σ (ρ.set i none) B) (ev : σ[i]? = some (some v)) (r : RepO C H S v o A) (d : Dj A B) (hl : i < ρ.length) : RepE C H S σ (ρ.set i (some o)) (Un' A B) := by
  have q := he.put (i := i) (F := Un' A B) (A := A) (x := some v) (r := some o) (by simp [hl]) ⟨v, rfl, r⟩ ⟨fun a => Iff.rfl, d⟩
  rw [List.set_set, set_at ev] at q
  exact q
theorem kp_upd {a : Addr} {u : HO} (m : Mo (H a)) (n : ¬ S a) : Kp H S (upd H a u) S :=
  ⟨fun b w s _ e => by rw [upd_ne (fun z => by subst z; exact n s)]; exact e, fun b w n' _ e => by rw [upd_ne (fun z => n' (by rw [← e, z]; exact m))]; exact e, fun _ h => h⟩
/-- the owned node at a is written -/
theorem own_write {i : Nat} {a : Addr} {u : HO} {o : O} {G : Set'} {H0 : Hp} {S0 F0 : Set'} (he : RepE C H S σ (ρ.set i none) B) (hl : i < ρ.length) (ev : σ[i]? = some (some (.ref a))) (m : Mo (some u))
    (w : Wf C H S (Un' (fun b => b = a) (Un' G B))) (d1 : ¬ G a) (d2 : ¬ B a) (d3 : Dj G B) (fr : Fr C H0 S0 F0 H S (Un' (fun b => b = a) (Un' G B)))
    (new : Kp H S (upd H a u) S → (∀ b, G b → upd H a u b = H b) → RepO C (upd H a u) S (.ref a) o (fun b => b = a ∨ G b)) :
    RepE C (upd H a u) S σ (ρ.set i (some o)) (Un' (fun b => b = a ∨ G b) B) ∧ Wf C (upd H a u) S (Un' (fun b => b = a ∨ G b) B) ∧ Fr C H0 S0 F0 (upd H a u) S (Un' (fun b => b = a ∨ G b) B) := by
  have ma := w.mu a (.inl rfl)
  have na := w.ns a (.inl rfl)
  have k : Kp H S (upd H a u) S := kp_upd ma na
  have ne : ∀ b, b ≠ a → upd H a u b = H b := fun b h => upd_ne h
  have h1 := new k fun b g => ne b fun e => d1 (e ▸ g)
  have h2 : RepE C (upd H a u) S σ (ρ.set i none) B := he.mono k fun b g => ne b fun e => d2 (e ▸ g)
  refine ⟨own_put h2 ev h1 (fun b x y => x.elim (fun e => d2 (e ▸ y)) fun g => d3 b g y) hl, ⟨fun b z => ?_, fun b z s => ?_, fun b s => ?_, (Tk.upd ma).tabs w.tb⟩, ⟨fun b x e nf nt => ?_, fr.sub, fr.new, fun b z => ?_, fr.tk.trans (.upd ma)⟩⟩
  · by_cases e : b = a
    · rw [e, upd_same]; exact m
    · rw [ne b e]
      rcases z with (z | z) | z
      · exact (e z).elim
      · exact w.mu b (.inr (.inl z))
      · exact w.mu b (.inr (.inr z))
  · rcases z with (z | z) | z
    · exact w.ns b (.inl z) s
    · exact w.ns b (.inr (.inl z)) s
    · exact w.ns b (.inr (.inr z)) s
  · obtain ⟨x, e⟩ := w.so b s
    exact ⟨x, by rw [ne b (fun z : b = a => na (by rw [← z]; exact s))]; exact e⟩
  · have q := fr.keep b x e nf nt
    rw [ne b (fun z => by
      have := fr.fnew a (.inl rfl)
      rw [← z] at this
      exact this.elim nf fun n => by rw [e] at n; cases n)]
    exact q
  · rcases z with (z | z) | z
    · exact fr.fnew b (.inl z)
    · exact fr.fnew b (.inr (.inl z))
    · exact fr.fnew b (.inr (.inr z))
theorem un_swap {A B D : Set'} : Un' A (Un' B D) = Un' B (Un' A D) := by
  funext a; apply propext; constructor
  · rintro (h | h | h)
    · exact .inr (.inl h)
    · exact .inl h
    · exact .inr (.inr h)
  · rintro (h | h | h)
    · exact .inr (.inl h)
    · exact .inl h
    · exact .inr (.inr h)
theorem RepOs.snoc : ∀ {vs : List V} {os : List O} {v : V} {o : O} {A Y : Set'}, RepOs C H S vs os A → RepO C H S v o Y → Dj A Y → RepOs C H S (vs ++ [v]) (os ++ [o]) (Un' A Y)
  | vs, [], v, o, A, Y, r, ro, d => by
    obtain ⟨e, em⟩ := r
    exact ⟨v, [], Y, No, by rw [e]; rfl, ro, ⟨rfl, emp_no⟩, ⟨fun a => ⟨fun z => z.elim (fun z => (em a z).elim) .inl, fun z => z.elim .inr False.elim⟩, fun a _ z => z⟩⟩
  | vs, o' :: os, v, o, A, Y, r, ro, d => by
    obtain ⟨v', t, P, R, e, r1, r2, s⟩ := r
    refine ⟨v', t ++ [v], P, Un' R Y, by rw [e]; rfl, r1, RepOs.snoc r2 ro (fun a x y => d a (s.r x) y), fun a => ?_, fun a x y => y.elim (fun y => s.2 a x y) fun y => d a (s.l x) y⟩
    constructor
    · rintro (z | z)
      · rcases (s.1 a).mp z with z | z
        · exact .inl z
        · exact .inr (.inl z)
      · exact .inr (.inr z)
    · rintro (z | z | z)
      · exact .inl (s.l z)
      · exact .inl (s.r z)
      · exact .inr z
/-- one item of owned ones replaced -/
theorem RepOs.setO : ∀ {vs : List V} {os : List O} {k : Nat} {v : V} {o : O} {A Y : Set'}, RepOs C H S vs os A → RepO C H S v o Y → Dj A Y → k < os.length → ∃ A', RepOs C H S (vs.set k v) (os.set k o) A' ∧ ∀ a, A' a → Un' A Y a
  | vs, [], k, v, o, A, Y, r, ro, d, h => by simp at h
  | vs, o' :: os, 0, v, o, A, Y, r, ro, d, h => by
    obtain ⟨v', t, P, R, e, r1, r2, s⟩ := r
    exact ⟨Un' Y R, ⟨v, t, Y, R, by rw [e]; rfl, ro, r2, fun a => Iff.rfl, fun a x y => d a (s.r y) x⟩, fun a z => z.elim .inr fun z => .inl (s.r z)⟩
  | vs, o' :: os, k + 1, v, o, A, Y, r, ro, d, h => by
    obtain ⟨v', t, P, R, e, r1, r2, s⟩ := r
    obtain ⟨A', h1, h2⟩ := RepOs.setO r2 ro (fun a x y => d a (s.r x) y) (k := k) (by simpa using h)
    refine ⟨Un' P A', ⟨v', t.set k v, P, A', by rw [e]; rfl, r1, h1, fun a => Iff.rfl, fun a x y => ?_⟩, fun a z => z.elim (fun z => .inl (s.l z)) fun z => (h2 a z).elim (fun z => .inl (s.r z)) .inr⟩
    rcases h2 a y with y | y
    · exact s.2 a x y
    · exact d a (s.l x) y
def lstAt (i : Nat) (ρ : Env') : Option (List O) := match ρ[i]? with
  | some (some (.lst os)) => some os
  | _ => none
theorem lstAt_eq {i : Nat} {ρ : Env'} {os : List O} (h : lstAt i ρ = some os) : ρ[i]? = some (some (.lst os)) := by
  unfold lstAt at h
  split at h
  · next e => rw [e, Option.some.inj h]
  · cases h
def eApp (i : Nat) (f : Fe) : Fe := fun ρ => match lstAt i ρ with
  | some _ => (f ρ).bind fun o ρ1 => match lstAt i ρ1 with
    | some os => if os.length < big then .ok (.sh .non) (ρ1.set i (some (.lst (os ++ [o])))) else .bad
    | none => .bad
  | none => .bad
/-- a temporary beside an environment, its slot i taken out -/
theorem tmp_own {i : Nat} {o : O} {Y : Set'} (he : RepE C H S σ ρ F) (d : Dj Y F) (w : Wf C H S (Un' Y F)) (e : ρ[i]? = some (some o)) :
    ∃ v A B, σ[i]? = some (some v) ∧ RepO C H S v o A ∧ F = Un' A B ∧ Dj A B ∧ RepE C H S σ (ρ.set i none) B ∧ i < ρ.length ∧ Dj Y A ∧ Dj Y B := by
  obtain ⟨v, A, B, ev, r, s, h2, hl⟩ := own_at he e
  have eu := s.un
  subst eu
  exact ⟨v, A, B, ev, r, rfl, s.2, h2, hl, fun a x y => d a x (.inl y), fun a x y => d a x (.inr y)⟩
theorem de_app {i : Nat} {x : Str} {p1 apos cpos : Pos} (hN : X.N[i]? = some x) (hv : Vis X.env.scope x) (he : DE C E X e f)
    (hd : (x == ("__debug__" : Str)) = false := by decide) (hcd : (x == ("__classdict__" : Str)) = false := by decide)
    (hbase : attributeBase (.Name x p1) "append" X.env (eval (.Name x p1) X.env) = eval (.Name x p1) X.env := by rfl)
    (hfew : ((backTo cpos (starEach [e] X.env)).all (fun x => !x.1) && (backToKw cpos (keywordEach [] X.env)).all (fun x => x.1.isSome)
      && decide ([e].length + ([] : List Keyword).length + (if ([] : List Keyword).isEmpty then 0 else 1) < 30)) = true := by rfl)
    (hline : (apos.endLine == cpos.line) = true := by rfl) (hs : starEach [e] X.env = (false, eval e X.env) :: starEach [] X.env := by rfl) (hplain : (backTo cpos (starEach [] X.env)).any (·.1) = false := by rfl) :
    DE C E X (.Call (.Attribute (.Name x p1) "append" apos) [e] [] cpos) (eApp i f) := by
  refine pe_imp (pe_bm PySem.F.plainAttrs_list PySem.F.slot_list_append PySem.F.type_list_append mt_append (pe_var hN hv hd hcd) (pa_cons he pa_nil hs) hbase hfew hline hs hplain) fun σ H Q ⟨ρ, S, F, he, w, q⟩ => ?_
  unfold eApp at q
  cases e0 : lstAt i ρ with
  | none => rw [e0] at q; exact q.elim
  | some os0 =>
    rw [e0] at q
    obtain ⟨v0, A0, B0, ev, r0, _, _, _⟩ := own_at he (lstAt_eq e0)
    obtain ⟨a, vs0, A1, rfl, h0, _, _⟩ := r0
    refine ⟨.ref a, ev, .inl ⟨rfl, vs0, SqL.of h0⟩, ρ, S, F, he, w, ?_⟩
    cases ef : f ρ with
    | bad => rw [ef] at q; exact q
    | exc x ρ' => rw [ef] at q; exact q
    | ok o ρ1 =>
      rw [ef] at q
      simp only [bind_ok] at q
      intro v H1 S1 F1 Y he1 r1 w1 d1 fr1
      cases e1 : lstAt i ρ1 with
      | none => rw [e1] at q; exact q.elim
      | some os =>
        rw [e1] at q
        by_cases hl : os.length < big
        · simp only [hl, if_true] at q
          obtain ⟨v', A, B, ev', r, rfl, dAB, he2, hi, dYA, dYB⟩ := tmp_own he1 d1 w1 (lstAt_eq e1)
          rw [ev] at ev'
          cases ev'
          obtain ⟨a', vs, G, ea, h1, r2, sG⟩ := r
          injection ea with ea
          subst ea
          have eA := sG.un
          subst eA
          refine ⟨a, vs, v, rfl, rfl, h1, by rw [r2.len]; exact Nat.lt_of_lt_of_le hl (big_line (Nat.le_refl _)), ?_⟩
          have dGY : Dj G Y := fun b x y => dYA b y (.inr x)
          have eq1 : Un' Y (Un' (Un' (fun b => b = a) G) B) = Un' (fun b => b = a) (Un' (Un' G Y) B) := by
            funext b; apply propext; constructor
            · rintro (h | (h | h) | h)
              · exact .inr (.inl (.inr h))
              · exact .inl h
              · exact .inr (.inl (.inl h))
              · exact .inr (.inr h)
            · rintro (h | (h | h) | h)
              · exact .inr (.inl (.inl h))
              · exact .inr (.inl (.inr h))
              · exact .inl h
              · exact .inr (.inr h)
          rw [eq1] at w1 fr1
          have nG : ¬ Un' G Y a := fun z => z.elim (fun z => sG.2 a rfl z) fun z => dYA a z (.inl rfl)
          have nB : ¬ B a := fun z => dAB a (.inl rfl) z
          obtain ⟨k1, k2, k3⟩ := own_write (u := .lst (vs ++ [v])) (o := .lst (os ++ [o])) he2 hi ev trivial w1 nG nB (fun b x y => x.elim (fun x => dAB b (.inr x) y) fun x => dYB b x y) fr1 fun k kk =>
            ⟨a, vs ++ [v], Un' G Y, rfl, upd_same, RepOs.snoc (r2.mono k fun b z => kk b (.inl z)) (r1.mono k fun b z => kk b (.inr z)) dGY, fun b => Iff.rfl, fun b z1 z2 => nG (z1 ▸ z2)⟩
          exact q .non _ S1 _ No k1 ⟨emp_no, rfl⟩ (wf_no k2) dj_no (fr_no k3)
        · simp only [hl, if_false] at q
end
end G
end

section
set_option maxRecDepth 100000
set_option maxHeartbeats 2000000
open PySem PySem.Spec PyProof.Rows L2
namespace G
def intD : D → Option Int
  | .int i => some i
  | _ => none
theorem intD_eq {d : D} {i : Int} (h : intD d = some i) : d = .int i := by cases d <;> simp [intD] at h; rw [h]
/-- x[k] = e, x a slot with an owned list -/
def sPutI (i : Nat) (fk fe : Fe) : Fs := fun ρ => (fe ρ).then' fun o ρ1 => match lstAt i ρ1 with
  | some _ => (fk ρ1).then' fun k ρ2 => match lstAt i ρ2 with
    | some os => match (intD k.toD).bind (ixN os.length) with
      | some j => .nx (ρ2.set i (some (.lst (os.set j o))))
      | none => .bad
    | none => .bad
  | none => .bad
section
variable {C : Cn} {P : Fx} {E : WX} {X : Cx} {σ : L2.St} {H H1 : Hp} {S S1 F F1 A B : Set'} {ρ : Env'} {e k : Expr} {pos : Pos} {f h : Fe}
theorem ds_putI {i : Nat} {x : Str} {p1 tpos : Pos} (hN : X.N[i]? = some x) (hv : Vis X.env.scope x) (he : DE C E X e f) (hk : DE C E X k h)
    (hd : (x == ("__debug__" : Str)) = false := by decide) (hcd : (x == ("__classdict__" : Str)) = false := by decide)
    (ha : ∀ v, assign (.Subscript (.Name x p1) k tpos) X.env v = (do
      let ov ← holding [v] (eval (.Name x p1) X.env)
      let iv ← holding [v, ov] (eval k X.env)
      standAt tpos
      holding [v, ov, iv] (setItem ov iv v)
      release [v, ov, iv] []) := by intro _; rfl)
    (hs : swapsWithSole [.Subscript (.Name x p1) k tpos] e pos.line X.env = pure false := by rfl) (hw : swappedStores [.Subscript (.Name x p1) k tpos] e X.env = pure none := by rfl)
    (h1 : (assignEach [.Subscript (.Name x p1) k tpos] X.env).map (·.2) = [assign (.Subscript (.Name x p1) k tpos) X.env] := by rfl) :
    DS C P E X (.Assign [.Subscript (.Name x p1) k tpos] e pos) (sPutI i h f) := by
  refine ps_imp (ps_asg he (pg_sub (pe_var hN hv hd hcd) hk set_list ha) hs hw h1) fun D σ H ⟨ρ, S, F, he, w, p, q⟩ => rE_then he w p q fun o ρ1 ef y H1 S1 F1 Y he1 r1 w1 d1 fr1 q => ?_
  cases e0 : lstAt i ρ1 with
  | none => rw [e0] at q; exact q.elim
  | some os0 =>
    rw [e0] at q
    obtain ⟨v0, A0, B0, ev, r0, _, _, _⟩ := own_at he1 (lstAt_eq e0)
    obtain ⟨a, vs0, A1, rfl, h0, _, _⟩ := r0
    refine ⟨.ref a, ev, ρ1, S1, F1, he1, w1.drop, ?_⟩
    cases eh : h ρ1 with
    | bad => rw [eh] at q; exact q.elim
    | exc x ρ' =>
      rw [eh] at q
      exact fun c d H2 S2 F2 he2 w2 fr2 rx => q c d σ H2 S2 F2 he2 w2 p (fr1.drop.trans fr2) rx
    | ok ko ρ2 =>
      rw [eh] at q
      simp only [then_ok] at q
      intro kv H2 S2 F2 Z he2 rk w2 d2 fr2
      obtain ⟨ka, d3, w3, fr3, kp⟩ := fr_tmp w1 d1 fr1 fr2.drop w2.drop
      have ry := r1.mono kp ka
      have rkd := rk.share (S' := Un' S2 Z) (fun _ => .inl) fun _ => .inr
      cases e1 : lstAt i ρ2 with
      | none => rw [e1] at q; exact q.elim
      | some os =>
        rw [e1] at q
        cases ei : (intD ko.toD).bind (ixN os.length) with
        | none => simp only [ei] at q; exact q.elim
        | some j =>
          simp only [ei] at q
          obtain ⟨n, en, ej⟩ := Option.bind_eq_some_iff.mp ei
          rw [intD_eq en] at rkd
          obtain ⟨v', A, B, ev', r, rfl, dAB, he3, hi, dYA, dYB⟩ := tmp_own he2 d3 w3 (lstAt_eq e1)
          rw [ev] at ev'
          cases ev'
          obtain ⟨a', vs, G, ea, hl, r2, sG⟩ := r
          injection ea with ea
          subst ea
          have eA := sG.un
          subst eA
          have hj : j < os.length := (ixN_seq ej).2.1
          refine ⟨a, vs, n, j, rfl, rkd, hl, by rw [r2.len]; exact ej, ?_⟩
          have dGY : Dj G Y := fun b x y => dYA b y (.inr x)
          have eq1 : Un' Y (Un' (Un' (fun b => b = a) G) B) = Un' (fun b => b = a) (Un' (Un' G Y) B) := by
            funext b; apply propext; constructor
            · rintro (h | (h | h) | h)
              · exact .inr (.inl (.inr h))
              · exact .inl h
              · exact .inr (.inl (.inl h))
              · exact .inr (.inr h)
            · rintro (h | (h | h) | h)
              · exact .inr (.inl (.inl h))
              · exact .inr (.inl (.inr h))
              · exact .inl h
              · exact .inr (.inr h)
          rw [eq1] at w3 fr3
          obtain ⟨G', rs, sub⟩ := RepOs.setO r2 ry dGY hj
          have nG0 : ¬ Un' G Y a := fun z => z.elim (fun z => sG.2 a rfl z) fun z => dYA a z (.inl rfl)
          have nB : ¬ B a := fun z => dAB a (.inl rfl) z
          have lessU : ∀ b, Un' (fun b => b = a) (Un' G' B) b → Un' (fun b => b = a) (Un' (Un' G Y) B) b := fun b z => z.elim .inl fun z => .inr (z.elim (fun z => .inl (sub b z)) .inr)
          have nG : ¬ G' a := fun z => nG0 (sub a z)
          have dGB : Dj G' B := fun b x y => (sub b x).elim (fun x => dAB b (.inr x) y) fun x => dYB b x y
          obtain ⟨k1, k2, k3⟩ := own_write (u := .lst (vs.set j y)) (o := .lst (os.set j o)) (G := G') he3 hi ev trivial ⟨fun b z => w3.mu b (lessU b z), fun b z => w3.ns b (lessU b z), w3.so, w3.tb⟩ nG nB dGB (fr3.less lessU) fun k kk =>
            ⟨a, vs.set j y, G', rfl, upd_same, rs.mono k kk, fun b => Iff.rfl, fun b z1 z2 => nG (z1 ▸ z2)⟩
          exact q σ _ S2 _ k1 k2 p k3
/-! views: what a slot holds, looked at and not kept -/
def rV (C : Cn) (f : Env' → Option D) : TE := fun σ H Q => ∃ ρ S F, RepE C H S σ ρ F ∧ Wf C H S F ∧ ∃ d, f ρ = some d ∧ ∀ v, RepD C H (Un' S F) v d → Q v H
abbrev DV (C : Cn) (X : Cx) (e : Expr) (f : Env' → Option D) : Prop := PE X e (rV C f)
def vVar (i : Nat) : Env' → Option D := fun ρ => match ρ[i]? with
  | some (some o) => some o.toD
  | _ => none
theorem dv_var {i : Nat} {x : Str} {pos : Pos} (hN : X.N[i]? = some x) (hv : Vis X.env.scope x) (hd : (x == ("__debug__" : Str)) = false := by decide) (hcd : (x == ("__classdict__" : Str)) = false := by decide) : DV C X (.Name x pos) (vVar i) := by
  refine pe_imp (pe_var hN hv hd hcd) fun σ H Q ⟨ρ, S, F, he, w, d, ed, q⟩ => ?_
  unfold vVar at ed
  split at ed
  · next o e =>
    obtain ⟨v, A, B, ev, r, s, _, _⟩ := own_at he e
    have ed := Option.some.inj ed
    subst ed
    exact ⟨v, ev, q v (r.share (fun _ => .inl) fun a z => .inr (s.l z))⟩
  · cases ed
def scD : D → Bool
  | .non => true
  | .bl _ => true
  | .int _ => true
  | .str _ => true
  | _ => false
theorem sc_rep {v : V} {d : D} {S' : Set'} {H' : Hp} (h : scD d = true) (r : RepD C H S v d) : RepD C H' S' v d := by
  cases d <;> simp [scD] at h <;> exact r
theorem un_so (w : Wf C H S F) : So H (Un' S F) := fun a s => s.elim (w.so a) fun s => mut_some (w.mu a s)
/-- an operation on a view, its result a scalar -/
def e1v (g : D → Option O) (f : Env' → Option D) : Fe := fun ρ => match (f ρ).bind g with
  | some (.sh d) => if scD d = true then .ok (.sh d) ρ else .bad
  | _ => .bad
def e1l (g : List D → Option O) (f : Env' → Option D) : Fe := fun ρ => match (f ρ).bind fun d => g [d] with
  | some (.sh d) => if scD d = true then .ok (.sh d) ρ else .bad
  | _ => .bad
theorem v1_of {g : D → Option O} {f : Env' → Option D} {Q : VK} (q : rE C E (e1v g f) σ H Q) : rV C f σ H (fun x H1 => rV1 C g x H1 Q) := by
  obtain ⟨ρ, S, F, he, w, q⟩ := q
  unfold e1v at q
  cases ef : f ρ with
  | none => rw [ef] at q; exact q.elim
  | some d0 =>
    rw [ef] at q
    cases eg : g d0 with
    | none => simp only [Option.bind_some, eg] at q
    | some o =>
      simp only [Option.bind_some, eg] at q
      cases o with
      | lst l => exact q.elim
      | dct l => exact q.elim
      | ins c l => exact q.elim
      | sh d =>
        by_cases hc : scD d = true
        · simp only [hc, if_true] at q
          refine ⟨ρ, S, F, he, w, d0, ef, fun v r => ⟨Un' S F, d0, un_so w, r, _, eg, fun v' H' S' A al ro => ?_⟩⟩
          -- all that stood stands; nothing new is kept
          have k : Kp H S H S := ⟨fun _ _ _ _ e => e, fun _ _ _ _ e => e, fun _ h => h⟩
          have ka : ∀ b, F b → H' b = H b := fun b z => by
            obtain ⟨u, e⟩ := mut_some (w.mu b z)
            rw [e]; exact al.keep b u e
          have kp : Kp H S H' S := ⟨fun b u _ _ e => al.keep b u e, fun b u _ _ e => al.keep b u e, fun _ h => h⟩
          exact q v' H' S F No (he.mono kp ka) ⟨emp_no, sc_rep hc ro.2⟩ (wf_no ⟨fun b z => by rw [ka b z]; exact w.mu b z, w.ns, fun b s => by
            obtain ⟨u, e⟩ := w.so b s
            exact ⟨u, al.keep b u e⟩, w.tb.ext al.keep⟩) dj_no (fr_no ⟨fun b u e _ _ => al.keep b u e, fun _ h => h, fun _ h => .inl h, fun _ h => .inl h, .all al.keep⟩)
        · simp only [hc, if_false] at q
          exact q.elim
theorem vl_of {g : List D → Option O} {f : Env' → Option D} {Q : VK} (q : rE C E (e1l g f) σ H Q) : rV C f σ H (fun x H1 => rVn C g [x] H1 Q) := by
  have q' := v1_of (g := fun d => g [d]) (f := f) (E := E) (C := C) (σ := σ) (H := H) (Q := Q) q
  obtain ⟨ρ, S, F, he, w, d, ed, q'⟩ := q'
  refine ⟨ρ, S, F, he, w, d, ed, fun v r => ?_⟩
  obtain ⟨S', dx, so, rd, o, eo, q2⟩ := q' v r
  exact ⟨S', [dx], so, ⟨v, [], rfl, rd, rfl⟩, o, eo, q2⟩
/-- len(x), and the like, of a view -/
theorem de_callV {x : Str} {p pos : Pos} {e : Expr} {id : String} {g : List D → Option O} {f : Env' → Option D} (hc : CallR X (.builtin id) (rVn C g)) (hg : Gl X x) (hm : X.mg x = none) (hv : bootBuiltins x = some (.builtin id)) (ha : DV C X e f) (hn : x ≠ "__name__" := by decide) (hdb : (x == ("__debug__" : Str)) = false := by decide)
    (he : starEach [e] X.env = (false, eval e X.env) :: starEach [] X.env := by rfl) (hpl : (backTo pos (starEach [] X.env)).any (·.1) = false := by rfl) : DE C E X (.Call (.Name x p) [e] [] pos) (e1l g f) :=
  pe_imp (pe_callB hc hg hm hv (pa_cons ha pa_nil he) hn hdb he hpl) fun _ _ _ q => vl_of q
/-- a op b, b a view -/
def e2v (g : D → D → Option O) (f : Fe) (h : Env' → Option D) : Fe := fun ρ => (f ρ).bind fun a ρ1 => e1v (g a.toD) h ρ1
theorem r2v_of {f : Fe} {h : Env' → Option D} {g : D → D → Option O} {Q : VK} (q : rE C E (e2v g f h) σ H Q) : rE C E f σ H (fun x H1 => rV C h σ H1 fun y H2 => rV2 C g x y H2 Q) := by
  obtain ⟨ρ, S, F, he, w, q⟩ := q
  refine ⟨ρ, S, F, he, w, ?_⟩
  unfold e2v at q
  cases ef : f ρ with
  | bad => rw [ef] at q; exact q
  | exc x ρ' => rw [ef] at q; exact q
  | ok o ρ1 =>
    rw [ef] at q
    simp only [bind_ok] at q
    intro v H1 S1 F1 A he1 r1 w1 d1 fr1
    have w2 := w1.share d1
    have he2 : RepE C H1 (Un' S1 A) σ ρ1 F1 := he1.mono kp_sh fun _ _ => rfl
    have fr2 := fr1.share
    have rx := r1.share (S' := Un' (Un' S1 A) F1) (fun _ z => .inl (.inl z)) fun _ z => .inl (.inr z)
    have q3 : rE C E (e1v (g o.toD) h) σ H1 Q := by
      refine ⟨ρ1, Un' S1 A, F1, he2, w2, ?_⟩
      cases eq : e1v (g o.toD) h ρ1 with
      | bad => rw [eq] at q; exact q
      | exc x ρ' => rw [eq] at q; exact fun c d H' S' F' a b fr r => q c d H' S' F' a b (fr2.trans fr) r
      | ok o' ρ' => rw [eq] at q; exact fun v H' S' F' A a b c d fr => q v H' S' F' A a b c d (fr2.trans fr)
    obtain ⟨ρ', S', F', he', w', d, ed, q4⟩ := v1_of q3
    refine ⟨ρ1, Un' S1 A, F1, he2, w2, ?_⟩
    -- by hand: the same environment
    unfold e1v at q
    cases eh : h ρ1 with
    | none => rw [eh] at q; exact q.elim
    | some d0 =>
      rw [eh] at q
      cases eg : g o.toD d0 with
      | none => simp only [Option.bind_some, eg] at q
      | some o' =>
        simp only [Option.bind_some, eg] at q
        cases o' with
        | lst l => exact q.elim
        | dct l => exact q.elim
        | ins c l => exact q.elim
        | sh d =>
          by_cases hc : scD d = true
          · simp only [hc, if_true] at q
            refine ⟨d0, rfl, fun y ry => ⟨Un' (Un' S1 A) F1, o.toD, d0, un_so w2, rx, ry, _, eg, fun v' H' S' A' al ro => ?_⟩⟩
            have ka : ∀ b, F1 b → H' b = H1 b := fun b z => by
              obtain ⟨u, e⟩ := mut_some (w2.mu b z)
              rw [e]; exact al.keep b u e
            have kp : Kp H1 (Un' S1 A) H' (Un' S1 A) := ⟨fun b u _ _ e => al.keep b u e, fun b u _ _ e => al.keep b u e, fun _ h => h⟩
            exact q v' H' (Un' S1 A) F1 No (he2.mono kp ka) ⟨emp_no, sc_rep hc ro.2⟩ (wf_no ⟨fun b z => by rw [ka b z]; exact w2.mu b z, w2.ns, fun b s => by
              obtain ⟨u, e⟩ := w2.so b s
              exact ⟨u, al.keep b u e⟩, w2.tb.ext al.keep⟩) dj_no (fr_no (fr2.trans ⟨fun b u e _ _ => al.keep b u e, fun _ h => h, fun _ h => .inl h, fun _ h => .inl h, .all al.keep⟩))
          · simp only [hc, if_false] at q
            exact q.elim
theorem de_cmpV {a b : Expr} {op : CmpOp} {pos : Pos} {f : Fe} {h : Env' → Option D} {g : D → D → Option O} (ho : OpR X (compareOp op) (rV2 C g)) (ha : DE C E X a f) (hb : DV C X b h) (hm : behindInMarks op b = false) : DE C E X (.Compare a [op] [b] pos) (e2v g f h) :=
  pe_imp (pe_cmpR ho ha hb hm) fun _ _ _ q => r2v_of q
/-- x[k], x a slot with an owned list, the item a shared one -/
def eItemO (i : Nat) (fk : Fe) : Fe := fun ρ => match lstAt i ρ with
  | some _ => (fk ρ).bind fun k ρ1 => match lstAt i ρ1 with
    | some os => match (intD k.toD).bind (atI os) with
      | some (.sh d) => .ok (.sh d) ρ1
      | _ => .bad
    | none => .bad
  | none => .bad
theorem RepOs.at : ∀ {vs : List V} {os : List O} {j : Nat} {d : D} {A : Set'}, RepOs C H S vs os A → os[j]? = some (.sh d) → ∃ v, vs[j]? = some v ∧ RepD C H S v d
  | vs, [], j, d, A, r, e => by simp at e
  | vs, o :: os, 0, d, A, r, e => by
    obtain ⟨v, t, P, R, rfl, r1, _, _⟩ := r
    simp at e; subst e
    exact ⟨v, rfl, r1.2⟩
  | vs, o :: os, j + 1, d, A, r, e => by
    obtain ⟨v, t, P, R, rfl, _, r2, _⟩ := r
    obtain ⟨u, e1, r3⟩ := RepOs.at r2 (j := j) (by simpa using e)
    exact ⟨u, by simpa using e1, r3⟩
theorem de_itemO (ok : OkX C X) {i : Nat} {x : Str} {p1 pos : Pos} (hN : X.N[i]? = some x) (hv : Vis X.env.scope x) (hk : DE C E X k h) (hs : PlainIx k) (hd : (x == ("__debug__" : Str)) = false := by decide) (hcd : (x == ("__classdict__" : Str)) = false := by decide) :
    DE C E X (.Subscript (.Name x p1) k pos) (eItemO i h) := by
  refine pe_imp (pe_ix ix_list (pe_var hN hv hd hcd) hk hs) fun σ H Q ⟨ρ, S, F, he, w, q⟩ => ?_
  unfold eItemO at q
  cases e0 : lstAt i ρ with
  | none => rw [e0] at q; exact q.elim
  | some os0 =>
    rw [e0] at q
    obtain ⟨v0, A0, B0, ev, r0, _, _, _⟩ := own_at he (lstAt_eq e0)
    obtain ⟨a, vs0, A1, rfl, h0, _, _⟩ := r0
    refine ⟨.ref a, ev, ρ, S, F, he, w, ?_⟩
    cases eh : h ρ with
    | bad => rw [eh] at q; exact q
    | exc x ρ' => rw [eh] at q; exact q
    | ok ko ρ1 =>
      rw [eh] at q
      simp only [bind_ok] at q
      intro kv H1 S1 F1 Z he1 rk w1 d1 fr1
      cases e1 : lstAt i ρ1 with
      | none => rw [e1] at q; exact q.elim
      | some os =>
        rw [e1] at q
        cases ei : (intD ko.toD).bind (atI os) with
        | none => simp only [ei] at q
        | some oo =>
          simp only [ei] at q
          cases oo with
          | lst l => exact q.elim
          | dct l => exact q.elim
          | ins c l => exact q.elim
          | sh d =>
            obtain ⟨n, en, ej⟩ := Option.bind_eq_some_iff.mp ei
            have rkd := rk.share (S' := Un' S1 Z) (fun _ => .inl) fun _ => .inr
            rw [intD_eq en] at rkd
            obtain ⟨v', A, B, ev', r, _, _, _⟩ := own_at he1 (lstAt_eq e1)
            rw [ev] at ev'
            cases ev'
            obtain ⟨a', vs, G, ea, hl, r2, _⟩ := r
            injection ea with ea
            subst ea
            have : ∃ v, atI vs n = some v ∧ RepD C H1 S1 v d := by
              unfold atI at ej ⊢
              rw [r2.len]
              cases ex : ixN os.length n with
              | none => rw [ex] at ej; cases ej
              | some j => rw [ex] at ej; exact r2.at (show os[j]? = some (.sh d) from ej)
            obtain ⟨v, av, rv⟩ := this
            exact ⟨a, vs, n, v, rfl, rkd, SqL.of hl, av, ret_sh he1 w1.drop fr1.drop rv q⟩
end
end G
end

section
set_option maxRecDepth 100000
set_option maxHeartbeats 2000000
open PySem PySem.Spec PyProof.Rows L2
namespace G
/-! what a loop walks -/
structure WalkD (C : Cn) (J : It) (H : Hp) (S : Set') (l : List D) : Prop where
  go : ∀ i H' S', Kp H S H' S' → i < l.length → J.go i H'
  yld : ∀ i x H' S' H2 d, Kp H S H' S' → So H' S' → l[i]? = some d → J.yld i H' x H2 → ∃ S2, Alc H' S' H2 S2 No ∧ RepD C H2 S2 x d
  stop : ∀ H' S', Kp H S H' S' → J.stop l.length H'
def rI (C : Cn) (E : WX) (f : Env' → Out (List D)) : TI := fun σ H R => ∃ ρ S F, RepE C H S σ ρ F ∧ Wf C H S F ∧ match f ρ with
  | .ok l ρ' => ∀ J H' S' F', RepE C H' S' σ ρ' F' → Wf C H' S' F' → Fr C H S F H' S' F' → WalkD C J H' S' l → R J H'
  | .exc x ρ' => ∀ c d H' S' F', RepE C H' S' σ ρ' F' → Wf C H' S' F' → Fr C H S F H' S' F' → RepXn C H' S' x c d → E c d σ H'
  | .bad => False
abbrev DI (C : Cn) (E : WX) (X : Cx) (tg iter : Expr) (f : Env' → Out (List D)) : Prop := PI X tg iter (rI C E f)
theorem pi_imp {X : Cx} {tg iter : Expr} {t t' : TI} (h : PI X tg iter t) (hi : ∀ σ H R, t' σ H R → t σ H R) : PI X tg iter t' := ⟨fun pins s σ H R I q => h.run pins s σ H R I (hi σ H R q)⟩
theorem pi_or {X : Cx} {tg iter : Expr} {t t' : TI} (h : PI X tg iter t) (h' : PI X tg iter t') : PI X tg iter (fun σ H R => t σ H R ∨ t' σ H R) := ⟨fun pins s σ H R I q => q.elim (h.run pins s σ H R I) (h'.run pins s σ H R I)⟩
/-- the items of a list, a tuple, a text -/
def itD : D → Option (List D)
  | .lst l => some l
  | .tup l => some l
  | .str x => some (x.cps.toList.map fun c => .str ⟨#[c]⟩)
  | _ => none
def iSeq (f : Fe) : Env' → Out (List D) := fun ρ => (f ρ).bind fun o ρ1 => match itD o.toD with
  | some l => .ok l ρ1
  | none => .bad
/-- by Nat.ble: the kernel does not run through it where j is a variable -/
def sm (j : Int) : Bool := Nat.ble j.natAbs 4611686018427387903
def iRng1 (f : Fe) : Env' → Out (List D) := fun ρ => (f ρ).bind fun o ρ1 => match intD o.toD with
  | some j => if sm j = true then .ok ((List.range j.toNat).map fun (k : Nat) => .int k) ρ1 else .bad
  | none => .bad
def iRng2 (f g : Fe) : Env' → Out (List D) := fun ρ => (f ρ).bind fun o ρ1 => match intD o.toD with
  | some i => (g ρ1).bind fun o ρ2 => match intD o.toD with
    | some j => if (sm i && sm j) = true then .ok ((List.range (j - i).toNat).map fun (k : Nat) => .int (i + k)) ρ2 else .bad
    | none => .bad
  | none => .bad
section
variable {C : Cn} {P : Fx} {E : WX} {X : Cx} {σ : L2.St} {H H1 H' : Hp} {S S1 S' F F1 A B : Set'} {ρ : Env'} {e tg : Expr} {pos : Pos} {f : Fe}
theorem kp_trans {H2 : Hp} {S2 : Set'} (a : Kp H S H1 S1) (b : Kp H1 S1 H2 S2) : Kp H S H2 S2 := ⟨fun x u s nt e => b.sh x u (a.sub x s) nt (a.sh x u s nt e), fun x u n nt e => b.tp x u n nt (a.tp x u n nt e), fun x s => b.sub x (a.sub x s)⟩
theorem walk_lst {a : Addr} {vs : List V} {l : List D} (h : LstD C.K H S a vs) (r : RepDs C H S vs l) : WalkD C (Itl C.K a) H S l where
  go := fun i H' S' k hi => by
    obtain ⟨v, hv, _⟩ := r.get (i := i) (d := l[i]) (by simp [hi])
    exact ⟨vs, v, lst_sq0 (k.lst h), hv⟩
  yld := fun i x H' S' H2 d k so hd y => by
    obtain ⟨e, y⟩ := y
    subst e
    obtain ⟨v, hv, rv⟩ := r.get hd
    have ex := y vs (lst_sq0 (k.lst h))
    rw [hv] at ex
    cases ex
    exact ⟨S', Alc.refl so, rv.mono k⟩
  stop := fun H' S' k => ⟨vs, lst_sq0 (k.lst h), by rw [r.len]; exact Nat.le_refl _⟩
theorem walk_tup {a : Addr} {vs : List V} {l : List D} (h : H a = some (.tup vs)) (r : RepDs C H S vs l) : WalkD C (Itt C.K a) H S l where
  go := fun i H' S' k hi => by
    obtain ⟨v, hv, _⟩ := r.get (i := i) (d := l[i]) (by simp [hi])
    exact ⟨vs, v, SqT.of (k.tp _ _ (fun z => z) trivial h), hv⟩
  yld := fun i x H' S' H2 d k so hd y => by
    obtain ⟨e, y⟩ := y
    subst e
    obtain ⟨v, hv, rv⟩ := r.get hd
    have ex := y vs (SqT.of (k.tp _ _ (fun z => z) trivial h))
    rw [hv] at ex
    cases ex
    exact ⟨S', Alc.refl so, rv.mono k⟩
  stop := fun H' S' k => ⟨vs, SqT.of (k.tp _ _ (fun z => z) trivial h), by rw [r.len]; exact Nat.le_refl _⟩
theorem walk_str {x : Str} : WalkD C (Its x) H S (x.cps.toList.map fun c => .str ⟨#[c]⟩) where
  go := fun i H' S' k hi => (show i < x.cps.size by simpa using hi)
  yld := fun i v H' S' H2 d k so hd y => by
    obtain ⟨e, c, hc, ev⟩ := y
    subst e
    rw [List.getElem?_map] at hd
    have : x.cps.toList[i]? = some c := by simpa using hc
    rw [this] at hd
    have hd := Option.some.inj hd
    subst hd
    exact ⟨S', Alc.refl so, ev⟩
  stop := fun H' S' k => by show x.cps.size ≤ _; simp
theorem walk_rng {lo : Int} {n : Nat} : WalkD C (Itr lo n) H S ((List.range n).map fun (k : Nat) => .int (lo + k)) where
  go := fun i H' S' k hi => (show i < n by simpa using hi)
  yld := fun i v H' S' H2 d k so hd y => by
    obtain ⟨e, ev⟩ := y
    subst e
    rw [List.getElem?_map] at hd
    have hi : i < n := by
      cases q : (List.range n)[i]? with
      | none => rw [q] at hd; cases hd
      | some z => have := (List.getElem?_eq_some_iff.mp q).1; simpa using this
    have : (List.range n)[i]? = some i := by simp [hi]
    rw [this] at hd
    have hd := Option.some.inj hd
    subst hd
    exact ⟨S', Alc.refl so, ev⟩
  stop := fun H' S' k => by show n ≤ _; simp
theorem di_seq (ok : OkX C X) (he : DE C E X e f) : DI C E X tg e (iSeq f) := by
  refine pi_imp (pi_or (pi_list he) (pi_or (pi_tup he) (pi_str he))) fun σ H R ⟨ρ, S, F, h0, w, q⟩ => ?_
  unfold iSeq at q
  cases ef : f ρ with
  | bad => rw [ef] at q; exact q.elim
  | exc x ρ' => rw [ef] at q; exact .inl ⟨ρ, S, F, h0, w, by rw [ef]; exact q⟩
  | ok o ρ1 =>
    rw [ef] at q
    simp only [bind_ok] at q
    cases ed : itD o.toD with
    | none => simp only [ed] at q
    | some l =>
      simp only [ed] at q
      have sh : ∀ v H' S' F' A, RepE C H' S' σ ρ1 F' → RepO C H' S' v o A → Wf C H' S' (Un' A F') → Dj A F' → Fr C H S F H' S' (Un' A F') →
          RepE C H' (Un' S' A) σ ρ1 F' ∧ Wf C H' (Un' S' A) F' ∧ Fr C H S F H' (Un' S' A) F' ∧ RepD C H' (Un' S' A) v o.toD := fun v H' S' F' A a b c d fr =>
        ⟨a.mono kp_sh fun _ _ => rfl, c.share d, fr.share, b.share (fun _ => .inl) fun _ => .inr⟩
      cases eo : o.toD with
      | lst l' =>
        rw [eo] at ed
        have ed := Option.some.inj ed
        subst ed
        refine .inl ⟨ρ, S, F, h0, w, ?_⟩
        rw [ef]
        intro v H' S' F' A a b c d fr
        obtain ⟨k1, k2, k3, k4⟩ := sh v H' S' F' A a b c d fr
        rw [eo] at k4
        obtain ⟨a', vs, rfl, h1, hr⟩ := k4
        exact ⟨a', rfl, ⟨vs, lst_sq ok.K h1⟩, by rw [ok.K]; exact q _ H' _ F' k1 k2 k3 (walk_lst h1 hr)⟩
      | tup l' =>
        rw [eo] at ed
        have ed := Option.some.inj ed
        subst ed
        refine .inr (.inl ⟨ρ, S, F, h0, w, ?_⟩)
        rw [ef]
        intro v H' S' F' A a b c d fr
        obtain ⟨k1, k2, k3, k4⟩ := sh v H' S' F' A a b c d fr
        rw [eo] at k4
        obtain ⟨a', vs, rfl, h1, hr⟩ := k4
        exact ⟨a', rfl, ⟨vs, tup_sq ok.K h1⟩, by rw [ok.K]; exact q _ H' _ F' k1 k2 k3 (walk_tup h1 hr)⟩
      | str x =>
        rw [eo] at ed
        have ed := Option.some.inj ed
        subst ed
        refine .inr (.inr ⟨ρ, S, F, h0, w, ?_⟩)
        rw [ef]
        intro v H' S' F' A a b c d fr
        obtain ⟨k1, k2, k3, k4⟩ := sh v H' S' F' A a b c d fr
        rw [eo] at k4
        exact ⟨x, k4, q _ H' _ F' k1 k2 k3 walk_str⟩
      | _ => rw [eo] at ed; cases ed
theorem sm_iff {j : Int} (h : sm j = true) : -(2 ^ 62) ≤ j ∧ j < 2 ^ 62 := by
  have := Nat.le_of_ble_eq_true h
  omega
theorem di_rng1 {a : Expr} {fa : Fe} {p pos : Pos} (hg : Gl X "range") (hm : X.mg "range" = none) (ha : DE C E X a fa) (hs : starEach [a] X.env = [(false, eval a X.env)] := by rfl) : DI C E X tg (.Call (.Name "range" p) [a] [] pos) (iRng1 fa) := by
  refine pi_imp (pi_range1 hg hm (pa_cons ha pa_nil hs) hs) fun σ H R ⟨ρ, S, F, h0, w, q⟩ => ⟨ρ, S, F, h0, w, ?_⟩
  unfold iRng1 at q
  cases ef : fa ρ with
  | bad => rw [ef] at q; exact q
  | exc x ρ' => rw [ef] at q; exact q
  | ok o ρ1 =>
    rw [ef] at q
    simp only [bind_ok] at q
    intro v H' S' F' A a' b c d fr
    have r := b.share (S' := Un' S' A) (fun _ => .inl) fun _ => .inr
    cases ei : intD o.toD with
    | none => simp only [ei] at q
    | some j =>
      simp only [ei] at q
      by_cases hb : sm j = true
      · simp only [hb, if_true] at q
        rw [intD_eq ei] at r
        refine ⟨j, by rw [show v = .int j from r], (sm_iff hb).1, (sm_iff hb).2, q _ H' _ F' (a'.mono kp_sh fun _ _ => rfl) (c.share d) fr.share ?_⟩
        have := walk_rng (C := C) (H := H') (S := Un' S' A) (lo := 0) (n := j.toNat)
        simpa using this
      · simp only [hb] at q
        exact q.elim
theorem di_rng2 {a b : Expr} {fa fb : Fe} {p pos : Pos} (hg : Gl X "range") (hm : X.mg "range" = none) (ha : DE C E X a fa) (hb : DE C E X b fb) (hs : starEach [a, b] X.env = [(false, eval a X.env), (false, eval b X.env)] := by rfl) (hs2 : starEach [b] X.env = [(false, eval b X.env)] := by rfl) :
    DI C E X tg (.Call (.Name "range" p) [a, b] [] pos) (iRng2 fa fb) := by
  refine pi_imp (pi_range2 hg hm (pa_cons ha (pa_cons hb pa_nil hs2) (by rw [hs, hs2])) hs hs2) fun σ H R ⟨ρ, S, F, h0, w, q⟩ => ⟨ρ, S, F, h0, w, ?_⟩
  unfold iRng2 at q
  cases ef : fa ρ with
  | bad => rw [ef] at q; exact q
  | exc x ρ' => rw [ef] at q; exact q
  | ok o ρ1 =>
    rw [ef] at q
    simp only [bind_ok] at q
    intro v H1 S1 F1 A a1 b1 c1 d1 fr1
    have r1 := b1.share (S' := Un' S1 A) (fun _ => .inl) fun _ => .inr
    cases ei : intD o.toD with
    | none => simp only [ei] at q
    | some i =>
      simp only [ei] at q
      rw [intD_eq ei] at r1
      refine ⟨ρ1, S1, F1, a1, c1.drop, ?_⟩
      cases eg : fb ρ1 with
      | bad => rw [eg] at q; exact q
      | exc x ρ' => rw [eg] at q; exact fun c d H' S' F' a b fr r => q c d H' S' F' a b (fr1.drop.trans fr) r
      | ok o2 ρ2 =>
        rw [eg] at q
        simp only [bind_ok] at q
        intro v2 H' S' F' B a' b c d fr
        have r := b.share (S' := Un' S' B) (fun _ => .inl) fun _ => .inr
        cases ej : intD o2.toD with
        | none => simp only [ej] at q
        | some j =>
          simp only [ej] at q
          rw [intD_eq ej] at r
          by_cases hb : (sm i && sm j) = true
          · simp only [hb, if_true] at q
            have hb' : sm i = true ∧ sm j = true := by simpa using hb
            exact ⟨i, j, by rw [show v = .int i from r1, show v2 = .int j from r], ⟨(sm_iff hb'.1).1, (sm_iff hb'.1).2, (sm_iff hb'.2).1, (sm_iff hb'.2).2⟩,
              q _ H' _ F' (a'.mono kp_sh fun _ _ => rfl) (c.share d) (fr1.drop.trans fr).share walk_rng⟩
          · simp only [hb] at q
            exact q.elim
/-! targets -/
def TgtOk (C : Cn) (P : Fx) (g : TG) (t : D → Env' → Option Env') (ts : List Nat) : Prop := ∀ (σ : L2.St) (H : Hp) (S F : Set') (ρ : Env') (v : V) (d : D) (ρ' : Env') (Q : L2.St → Hp → Prop), RepE C H S σ ρ F → Wf C H S F → P.at σ → RepD C H S v d → t d ρ = some ρ' →
  (∀ σ' F', RepE C H S σ' ρ' F' → Wf C H S F' → P.at σ' → (∀ a, F' a → F a) → (∀ j, j ∉ ts → σ'[j]? = σ[j]?) → σ'.length = σ.length → Q σ' H) → g v σ H Q
def tN (i : Nat) : D → Env' → Option Env' := fun d ρ => if i < ρ.length then some (ρ.set i (some (.sh d))) else none
theorem tgt_name {i : Nat} (hp : i ∉ P.pi) : TgtOk C P (gName i) (tN i) [i] := by
  intro σ H S F ρ v d ρ' Q he w p r e q
  unfold tN at e
  split at e
  · next hl =>
    have e := Option.some.inj e
    subst e
    obtain ⟨F2, h1, h2, h3⟩ := slot_set (o := .sh d) he ⟨emp_no, r⟩ (wf_no w) dj_no hl
    exact q _ F2 h1 h2 (Fx.set p hp) (fun a z => (h3 a z).elim False.elim id) (fun j hj => List.getElem?_set_ne fun e => hj (by simp [e])) List.length_set
  · cases e
/-- several targets -/
def TgsOk (C : Cn) (P : Fx) (g : TGs) (t : List D → Env' → Option Env') (ts : List Nat) : Prop := ∀ (σ : L2.St) (H : Hp) (S F : Set') (ρ : Env') (vs : List V) (ds : List D) (ρ' : Env') (Q : L2.St → Hp → Prop), RepE C H S σ ρ F → Wf C H S F → P.at σ → RepDs C H S vs ds → t ds ρ = some ρ' →
  (∀ σ' F', RepE C H S σ' ρ' F' → Wf C H S F' → P.at σ' → (∀ a, F' a → F a) → (∀ j, j ∉ ts → σ'[j]? = σ[j]?) → σ'.length = σ.length → Q σ' H) → g vs σ H Q
def tsNil : List D → Env' → Option Env' := fun ds ρ => match ds with
  | [] => some ρ
  | _ => none
def tsCons (t : D → Env' → Option Env') (u : List D → Env' → Option Env') : List D → Env' → Option Env' := fun ds ρ => match ds with
  | [] => none
  | d :: ds => (t d ρ).bind (u ds)
def tT (n : Nat) (u : List D → Env' → Option Env') : D → Env' → Option Env' := fun d ρ => match d with
  | .tup l => if l.length = n then u l ρ else none
  | _ => none
theorem tgs_nil : TgsOk C P gNil tsNil [] := by
  intro σ H S F ρ vs ds ρ' Q he w p r e q
  unfold tsNil at e
  split at e
  · have e := Option.some.inj e
    subst e
    exact ⟨r, q σ F he w p (fun _ z => z) (fun _ _ => rfl) rfl⟩
  · cases e
theorem tgs_cons {g : TG} {gs : TGs} {t : D → Env' → Option Env'} {u : List D → Env' → Option Env'} {ts us : List Nat} (h1 : TgtOk C P g t ts) (h2 : TgsOk C P gs u us) : TgsOk C P (gCons g gs) (tsCons t u) (ts ++ us) := by
  intro σ H S F ρ vs ds ρ' Q he w p r e q
  cases ds with
  | nil => cases e
  | cons d ds =>
    obtain ⟨v, t', rfl, r1, r2⟩ := r
    obtain ⟨ρ1, e1, e2⟩ := Option.bind_eq_some_iff.mp (show (t d ρ).bind (u ds) = some ρ' from e)
    exact ⟨v, t', rfl, h1 σ H S F ρ v d ρ1 _ he w p r1 e1 fun σ1 F1 a b c sub n1 l1 => h2 σ1 H S F1 ρ1 t' ds ρ' Q a b c r2 e2 fun σ2 F2 a' b' c' sub' n2 l2 => q σ2 F2 a' b' c' (fun x z => sub x (sub' x z)) (fun j hj => (n2 j fun z => hj (List.mem_append_right _ z)).trans (n1 j fun z => hj (List.mem_append_left _ z))) (l2.trans l1)⟩
theorem tgt_tup {n : Nat} {gs : TGs} {u : List D → Env' → Option Env'} {ts : List Nat} (h : TgsOk C P gs u ts) : TgtOk C P (gTup C.K n gs) (tT n u) ts := by
  intro σ H S F ρ v d ρ' Q he w p r e q
  cases d with
  | tup l =>
    obtain ⟨a, vs, rfl, h1, hr⟩ := r
    have e : (if l.length = n then u l ρ else none) = some ρ' := e
    split at e
    · next hl => exact ⟨a, vs, rfl, SqT.of h1, by rw [hr.len]; exact hl, h σ H S F ρ vs l ρ' Q he w p hr e q⟩
    · cases e
  | _ => cases e
/-! for -/
def forG (t : D → Env' → Option Env') (b : Fs) : List D → Env' → SO
  | [], ρ => .nx ρ
  | d :: l, ρ => match t d ρ with
    | none => .bad
    | some ρ1 => match b ρ1 with
      | .nx ρ2 => forG t b l ρ2
      | .cnt ρ2 => forG t b l ρ2
      | .brk ρ2 => .nx ρ2
      | o => o
def sFor (fi : Env' → Out (List D)) (t : D → Env' → Option Env') (b : Fs) : Fs := fun ρ => (fi ρ).then' fun l ρ1 => forG t b l ρ1
theorem Fr.less' {H' : Hp} {S' F2 : Set'} (x : Fr C H S F H' S' F2) (h : ∀ a, F2 a → F a) : Fr C H S F H' S' F2 := x
/-- an assignment lessens what is owned -/
theorem fr_sub (h : ∀ a, F1 a → F a) : Fr C H S F H S F1 := ⟨fun _ _ e _ _ => e, fun _ h => h, fun _ h => .inl h, fun a z => .inl (h a z), .refl⟩
theorem alc_fr (he : RepE C H S σ ρ F) (w : Wf C H S F) {S2 : Set'} {H2 : Hp} (al : Alc H S H2 S2 No) : RepE C H2 S2 σ ρ F ∧ Wf C H2 S2 F ∧ Fr C H S F H2 S2 F := by
  obtain ⟨a, b, _, d⟩ := alc_step he w .refl al
  exact ⟨a, b.drop, d.drop⟩
theorem ds_for {iter : Expr} {body : List Stmt} {fi : Env' → Out (List D)} {g : TG} {t : D → Env' → Option Env'} {b : Fs} (ok : OkX C X) (hp : PassesOwn (model X.prog X.w) X.A X.env X.xe) (hi : DI C E X tg iter fi) (hg : PG X tg g) {ts : List Nat} (ht : TgtOk C P g t ts) (hb : DSs C P E X body b)
    (hs : ∀ x, foldedSetIterable iter X.env x = pure x := by intro _; rfl) : DS C P E X (.For tg iter body [] pos) (sFor fi t b) := by
  refine ps_imp (ps_for hp ok.calm hi hg hb hs) fun D σ H ⟨ρ, S, F, he, w, p, q⟩ => ⟨ρ, S, F, he, w, ?_⟩
  unfold sFor at q
  cases ei : fi ρ with
  | bad => rw [ei] at q; exact q
  | exc x ρ' => rw [ei] at q; exact fun c d H' S' F' a b fr r => q c d σ H' S' F' a b p fr r
  | ok l ρ1 =>
    rw [ei] at q
    simp only [then_ok] at q
    intro J H1 S1 F1 he1 w1 fr1 wk
    refine ⟨fun i m σ2 H2 => ∃ ρ2 S2 F2, m = l.length - i ∧ i ≤ l.length ∧ RepE C H2 S2 σ2 ρ2 F2 ∧ Wf C H2 S2 F2 ∧ P.at σ2 ∧ Fr C H S F H2 S2 F2 ∧ Kp H1 S1 H2 S2 ∧ PSO C P E D H S F (forG t b (l.drop i) ρ2),
      ⟨l.length, ρ1, S1, F1, (Nat.sub_zero _).symm, Nat.zero_le _, he1, w1, p, fr1, ⟨fun _ _ _ _ e => e, fun _ _ _ _ e => e, fun _ h => h⟩, q⟩, ?_⟩
    rintro i m σ2 H2 ⟨ρ2, S2, F2, rfl, hi, he2, w2, p2, fr2, kp2, q2⟩
    by_cases hlt : i < l.length
    · have hd : l.drop i = l[i] :: l.drop (i + 1) := List.drop_eq_getElem_cons hlt
      rw [hd] at q2
      refine .inr ⟨wk.go i H2 S2 kp2 hlt, fun σ3 H3 => ∃ ρ3 S3 F3, RepE C H3 S3 σ3 ρ3 F3 ∧ Wf C H3 S3 F3 ∧ P.at σ3 ∧ Fr C H S F H3 S3 F3 ∧ Kp H1 S1 H3 S3 ∧ PSO C P E D H S F (forG t b (l.drop (i + 1)) ρ3),
        fun σ3 H3 ⟨ρ3, S3, F3, a, b', c, d, e, f⟩ => ⟨l.length - (i + 1), by omega, ρ3, S3, F3, rfl, hlt, a, b', c, d, e, f⟩, fun x H3 y => ?_⟩
      obtain ⟨S3, al, rx⟩ := wk.yld i x H2 S2 H3 l[i] kp2 w2.so (by simp [hlt]) y
      obtain ⟨he3, w3, fr3⟩ := alc_fr he2 w2 al
      have kp3 := kp_trans kp2 al.kp
      have q2 : PSO C P E D H S F (match t l[i] ρ2 with
        | none => .bad
        | some ρ1 => match b ρ1 with
          | .nx ρ2 => forG t b (l.drop (i + 1)) ρ2
          | .cnt ρ2 => forG t b (l.drop (i + 1)) ρ2
          | .brk ρ2 => .nx ρ2
          | o => o) := q2
      cases et : t l[i] ρ2 with
      | none => rw [et] at q2; exact q2.elim
      | some ρ3 =>
        rw [et] at q2
        refine ht σ2 H3 S3 F2 ρ2 x l[i] ρ3 _ he3 w3 p2 rx et fun σ3 F3 he4 w4 p4 sub _ _ => ⟨ρ3, S3, F3, he4, w4, p4, ?_⟩
        have fr4 : Fr C H S F H3 S3 F3 := (fr2.trans fr3).trans (fr_sub sub)
        have again : ∀ ρ4, PSO C P E D H S F (forG t b (l.drop (i + 1)) ρ4) → ∀ σ' H' S' F', RepE C H' S' σ' ρ4 F' → Wf C H' S' F' → P.at σ' → Fr C H3 S3 F3 H' S' F' →
            ∃ ρ3 S3 F3, RepE C H' S3 σ' ρ3 F3 ∧ Wf C H' S3 F3 ∧ P.at σ' ∧ Fr C H S F H' S3 F3 ∧ Kp H1 S1 H' S3 ∧ PSO C P E D H S F (forG t b (l.drop (i + 1)) ρ3) := fun ρ4 q4 σ' H' S' F' a b' c d =>
          ⟨ρ4, S', F', a, b', c, fr4.trans d, kp_trans kp3 (d.kp w4), q4⟩
        cases eb : b ρ3 with
        | nx ρ4 => simp only [eb] at q2; exact again ρ4 q2
        | cnt ρ4 => simp only [eb] at q2; exact again ρ4 q2
        | brk ρ4 => simp only [eb] at q2; exact fun σ' H' S' F' a b' c d => q2 σ' H' S' F' a b' c (fr4.trans d)
        | ret o ρ4 => simp only [eb] at q2; exact fun v σ' H' S' F' A a b' c d e f => q2 v σ' H' S' F' A a b' c d e (fr4.trans f)
        | exc x ρ4 => simp only [eb] at q2; exact fun c d σ' H' S' F' a b' e f g => q2 c d σ' H' S' F' a b' e (fr4.trans f) g
        | bad => simp only [eb] at q2; exact q2.elim
    · have e : i = l.length := by omega
      subst e
      rw [List.drop_length] at q2
      exact .inl ⟨wk.stop H2 S2 kp2, q2 σ2 H2 S2 F2 he2 w2 p2 fr2⟩
end
end G
end

section
set_option maxRecDepth 100000
set_option maxHeartbeats 2000000
open PySem PySem.Spec PyProof.Rows L2
namespace G
abbrev Ef : WX := fun _ _ _ _ => False
def wipeE (ρ : Env') : List Nat → Env'
  | [] => ρ
  | v :: vs => (wipeE ρ vs).set v none
/-- the block's own slots hold nothing owned -/
def shAll (ρ : Env') : List Nat → Bool
  | [] => true
  | v :: vs => (match ρ[v]? with | some (some (.sh _)) => true | some none => true | _ => false) && shAll ρ vs
/-- the block's own slots as they were -/
def backE (ρ0 ρ : Env') : List Nat → Env'
  | [] => ρ
  | v :: vs => backE ρ0 (ρ.set v (ρ0[v]?.getD none)) vs
def lcG (t : D → Env' → Option Env') (tt : Env' → Out Bool) (te : Fe) (vs : List Nat) : List D → Env' → List O → Out (List O)
  | [], ρ, acc => .ok acc ρ
  | d :: l, ρ, acc => match t d ρ with
    | none => .bad
    | some ρ1 => (tt ρ1).bind fun b ρ2 => if b = true then (te ρ2).bind fun o ρ3 => if acc.length < big then lcG t tt te vs l (wipeE ρ3 vs) (acc ++ [o]) else .bad
      else lcG t tt te vs l (wipeE ρ2 vs) acc
def noX {α : Type} : Out α → Out α
  | .ok a ρ => .ok a ρ
  | _ => .bad
def eLc (fi : Env' → Out (List D)) (t : D → Env' → Option Env') (tt : Env' → Out Bool) (te : Fe) (vs : List Nat) : Fe := fun ρ => (fi ρ).bind fun l ρ1 =>
  if shAll ρ1 vs = true then (noX (lcG t tt te vs l (wipeE ρ1 vs) [])).bind fun acc ρ2 => .ok (.lst acc) (backE ρ1 ρ2 vs) else .bad
theorem wipeE_len (ρ : Env') : ∀ vs, (wipeE ρ vs).length = ρ.length
  | [] => rfl
  | v :: vs => by rw [wipeE, List.length_set, wipeE_len ρ vs]
section
variable {C : Cn} {P : Fx} {E : WX} {X : Cx} {σ : L2.St} {H H1 H' : Hp} {S S1 S' F F1 A B : Set'} {ρ : Env'} {tg : Expr} {pos : Pos} {f : Fe}
theorem OkX.blk (ok : OkX C X) (s : Shared) (H : Hp) (sc : Scope) (ce : PySem.Env) (fp : List Addr) : OkX C (X.blk s H sc ce fp) := ⟨ok.K, ok.calm, ok.un, ok.nd⟩
/-- a slot forgotten -/
theorem RepE.drop1 {i : Nat} (he : RepE C H S σ ρ F) : ∃ F', RepE C H S (σ.set i none) (ρ.set i none) F' ∧ ∀ a, F' a → F a := by
  by_cases hl : i < ρ.length
  · obtain ⟨x, A, B, e1, h1, h2, s⟩ := he.take (show ρ[i]? = some ρ[i] by simp [hl])
    have q := h2.put (i := i) (F := B) (A := No) (x := none) (r := none) (by simp [hl]) emp_no ⟨fun a => ⟨.inr, fun z => z.elim False.elim id⟩, fun a z => z.elim⟩
    rw [List.set_set] at q
    exact ⟨B, q, fun a z => s.r z⟩
  · have hs : σ.length ≤ i := by rw [he.len]; omega
    rw [List.set_eq_of_length_le (l := ρ) (by omega), List.set_eq_of_length_le hs]
    exact ⟨F, he, fun _ z => z⟩
theorem RepE.wipe (he : RepE C H S σ ρ F) : ∀ vs : List Nat, ∃ F', RepE C H S (L2.wipe σ vs) (wipeE ρ vs) F' ∧ ∀ a, F' a → F a
  | [] => ⟨F, he, fun _ z => z⟩
  | v :: vs => by
    obtain ⟨F1, h1, s1⟩ := RepE.wipe he vs
    obtain ⟨F2, h2, s2⟩ := h1.drop1 (i := v)
    exact ⟨F2, h2, fun a z => s1 a (s2 a z)⟩
theorem shAll_mem {v : Nat} : ∀ {vs : List Nat}, shAll ρ vs = true → v ∈ vs → (∃ d, ρ[v]? = some (some (.sh d))) ∨ ρ[v]? = some none
  | u :: vs, h, hm => by
    have h' : (match ρ[u]? with | some (some (.sh _)) => true | some none => true | _ => false) = true ∧ shAll ρ vs = true := by simpa [shAll] using h
    rcases List.mem_cons.mp hm with e | hm
    · subst e
      have h1 := h'.1
      split at h1
      · next d e => exact .inl ⟨d, e⟩
      · next e => exact .inr e
      · cases h1
    · exact shAll_mem h'.2 hm
  | [], h, hm => by simp at hm
theorem wipe_get {v : Nat} : ∀ {vs : List Nat}, v ∉ vs → (L2.wipe σ vs)[v]? = σ[v]?
  | [], _ => rfl
  | u :: vs, h => by
    have h1 : u ≠ v := fun e => h (by simp [e])
    have h2 : v ∉ vs := fun e => h (by simp [e])
    show ((L2.wipe σ vs).set u none)[v]? = σ[v]?
    rw [List.getElem?_set_ne h1, wipe_get h2]
/-- .. and brought back -/
theorem RepE.back {ρ0 : Env'} {S0 : Set'} {H0 : Hp} {F0 : Set'} (he0 : RepE C H0 S0 σ ρ0 F0) (k : Kp H0 S0 H S) : ∀ {vs : List Nat} {ρ : Env'}, vs.Nodup → shAll ρ0 vs = true → RepE C H S (L2.wipe σ vs) ρ F →
    (∀ v ∈ vs, ρ[v]? = some none) → RepE C H S σ (backE ρ0 ρ vs) F
  | [], ρ, _, _, h, _ => h
  | v :: vs, ρ, hn, hs, h, hz => by
    have hn' := List.nodup_cons.mp hn
    have hs' : shAll ρ0 vs = true := by
      have : (match ρ0[v]? with | some (some (.sh _)) => true | some none => true | _ => false) = true ∧ shAll ρ0 vs = true := by simpa [shAll] using hs
      exact this.2
    obtain ⟨x, r, ex, er, rx⟩ : ∃ x r, σ[v]? = some x ∧ ρ0[v]?.getD none = r ∧ RepX C H S x r No := by
      rcases shAll_mem hs (List.mem_cons_self) with ⟨d, e⟩ | e
      · obtain ⟨x, A, B, e1, ⟨u, rfl, h1⟩, _, _⟩ := he0.take e
        exact ⟨_, some (.sh d), e1, by rw [e]; rfl, u, rfl, emp_no, h1.2.mono k⟩
      · obtain ⟨x, A, B, e1, h1, _, _⟩ := he0.take e
        exact ⟨_, none, e1, by rw [e]; rfl, emp_no⟩
    have h : RepE C H S ((L2.wipe σ vs).set v none) ρ F := h
    have q := h.put (i := v) (F := F) (A := No) (x := x) (r := r) (hz v List.mem_cons_self) rx ⟨fun a => ⟨.inr, fun z => z.elim False.elim id⟩, fun a z => z.elim⟩
    rw [List.set_set, set_at (by rw [wipe_get hn'.1]; exact ex)] at q
    show RepE C H S σ (backE ρ0 (ρ.set v (ρ0[v]?.getD none)) vs) F
    rw [er]
    refine RepE.back he0 k hn'.2 hs' q fun u hu => ?_
    have : v ≠ u := fun e => hn'.1 (e ▸ hu)
    rw [List.getElem?_set_ne this]
    exact hz u (List.mem_cons_of_mem _ hu)
theorem wipeE_none {v : Nat} : ∀ {vs : List Nat}, v ∈ vs → v < ρ.length → (wipeE ρ vs)[v]? = some none
  | u :: vs, h, hl => by
    by_cases e : u = v
    · subst e
      show ((wipeE ρ vs).set u none)[u]? = some none
      rw [List.getElem?_set_self (by rw [wipeE_len]; exact hl)]
    · have h2 : v ∈ vs := (List.mem_cons.mp h).resolve_left fun z => e z.symm
      show ((wipeE ρ vs).set u none)[v]? = some none
      rw [List.getElem?_set_ne e]
      exact wipeE_none h2 hl
  | [], h, _ => by simp at h
abbrev DTs (C : Cn) (E : WX) (X : Cx) (ifs : List Expr) (f : Env' → Out Bool) : Prop := PTs X ifs (rT C E f)
theorem pts_imp {ifs : List Expr} {t t' : TT} (h : PTs X ifs t) (hi : ∀ σ H Q, t' σ H Q → t σ H Q) : PTs X ifs t' := ⟨fun pins s σ H Q I q => h.run pins s σ H Q I (hi σ H Q q)⟩
def ttY : Env' → Out Bool := fun ρ => .ok true ρ
theorem dts_nil : DTs C E X [] ttY := pts_imp pts_nil fun σ H Q ⟨ρ, S, F, he, w, q⟩ => q H S F he w .refl
theorem dts_one {c : Expr} {t : Env' → Out Bool} (h : DT C E X c t) : DTs C E X [c] t := pts_one h
theorem wipe_at {j : Nat} : ∀ {vs : List Nat}, (L2.wipe σ vs)[j]? = if j ∈ vs then (if j < σ.length then some none else none) else σ[j]?
  | [] => by simp [L2.wipe]
  | u :: vs => by
    show ((L2.wipe σ vs).set u none)[j]? = _
    rw [List.getElem?_set]
    by_cases e : u = j
    · subst e
      simp [L2.wipe_length]
    · have e' : ¬ j = u := fun z => e z.symm
      simp only [e, if_false, List.mem_cons, e', false_or]
      exact wipe_at
theorem wipe_eq {σ' : L2.St} {vs : List Nat} (hl : σ'.length = σ.length) (h : ∀ j, j ∉ vs → σ'[j]? = σ[j]?) : L2.wipe σ' vs = L2.wipe σ vs := by
  apply List.ext_getElem?
  intro j
  rw [wipe_at, wipe_at, hl]
  by_cases e : j ∈ vs
  · simp [e]
  · simp [e, h j e]
/-- an item more for the list that is being made -/
theorem tmp_snoc {D : Addr} {vs : List V} {acc : List O} {y : V} {o : O} {Y : Set'} {H0 : Hp} {S0 F0 : Set'} (hD : H D = some (.lst vs)) (r : RepOs C H S vs acc A) (ry : RepO C H S y o Y) (w : Wf C H S (Un' (Un' (fun b => b = D) A) (Un' Y F)))
    (d : Dj (Un' (fun b => b = D) A) (Un' Y F)) (dy : Dj Y F) (nA : ¬ A D) (he : RepE C H S σ ρ F) (fr : Fr C H0 S0 F0 H S (Un' (Un' (fun b => b = D) A) (Un' Y F))) :
    RepE C (upd H D (.lst (vs ++ [y]))) S σ ρ F ∧ RepOs C (upd H D (.lst (vs ++ [y]))) S (vs ++ [y]) (acc ++ [o]) (Un' A Y) ∧ Wf C (upd H D (.lst (vs ++ [y]))) S (Un' (Un' (fun b => b = D) (Un' A Y)) F) ∧
      Dj (Un' (fun b => b = D) (Un' A Y)) F ∧ ¬ Un' A Y D ∧ Fr C H0 S0 F0 (upd H D (.lst (vs ++ [y]))) S (Un' (Un' (fun b => b = D) (Un' A Y)) F) ∧ Kp H S (upd H D (.lst (vs ++ [y]))) S := by
  have k : Kp H S (upd H D (.lst (vs ++ [y]))) S := kp_upd (w.mu D (.inl (.inl rfl))) (w.ns D (.inl (.inl rfl)))
  have ne : ∀ b, b ≠ D → upd H D (.lst (vs ++ [y])) b = H b := fun b h => upd_ne h
  have nY : ¬ Y D := fun z => d D (.inl rfl) (.inl z)
  have nF : ¬ F D := fun z => d D (.inl rfl) (.inr z)
  have nAY : ¬ Un' A Y D := fun z => z.elim nA nY
  have mem : ∀ b, Un' (Un' (fun b => b = D) (Un' A Y)) F b → Un' (Un' (fun b => b = D) A) (Un' Y F) b := fun b z => by
    rcases z with (z | z | z) | z
    · exact .inl (.inl z)
    · exact .inl (.inr z)
    · exact .inr (.inl z)
    · exact .inr (.inr z)
  refine ⟨he.mono k fun b z => ne b fun e => nF (e ▸ z), RepOs.snoc (r.mono k fun b z => ne b fun e => nA (e ▸ z)) (ry.mono k fun b z => ne b fun e => nY (e ▸ z)) fun b x z => d b (.inr x) (.inl z), ⟨fun b z => ?_, fun b z => w.ns b (mem b z), fun b s => ?_, (Tk.upd (w.mu D (.inl (.inl rfl)))).tabs w.tb⟩, fun b x z => ?_, nAY, ⟨fun b x e nf nt => ?_, fr.sub, fr.new, fun b z => fr.fnew b (mem b z), fr.tk.trans (.upd (w.mu D (.inl (.inl rfl))))⟩, k⟩
  · by_cases e : b = D
    · rw [e, upd_same]; trivial
    · rw [ne b e]; exact w.mu b (mem b z)
  · obtain ⟨x, e⟩ := w.so b s
    exact ⟨x, by rw [ne b (fun z : b = D => w.ns D (.inl (.inl rfl)) (by rw [← z]; exact s))]; exact e⟩
  · rcases x with x | x | x
    · exact nF (x ▸ z)
    · exact d b (.inr x) (.inr z)
    · exact dy b x z
  · have q := fr.keep b x e nf nt
    rw [ne b (fun z => by
      have := fr.fnew D (.inl (.inl rfl))
      rw [← z] at this
      exact this.elim nf fun n => by rw [e] at n; cases n)]
    exact q
def PLc (C : Cn) (Q : VK) (σ : L2.St) (H : Hp) (S F : Set') (ρ1 : Env') (vs : List Nat) (r : Out (List O)) : Prop := match r with
  | .ok acc ρ' => ∀ v H' S' F' A, RepE C H' S' σ (backE ρ1 ρ' vs) F' → RepO C H' S' v (.lst acc) A → Wf C H' S' (Un' A F') → Dj A F' → Fr C H S F H' S' (Un' A F') → Q v H'
  | _ => False
theorem lc_of {fi : Env' → Out (List D)} {g : TG} {t : D → Env' → Option Env'} {ts : List Nat} {tt : Env' → Out Bool} {te : Fe} {vs : List Nat} {Q : VK} (hn : vs.Nodup) (ht : TgtOk C ⟨[], []⟩ g t ts) (hts : ∀ j ∈ ts, j ∈ vs)
    (q : rE C E (eLc fi t tt te vs) σ H Q) : tLc (rI C E fi) g (rT C Ef tt) (rE C Ef te) vs σ H Q := by
  obtain ⟨ρ, S, F, he0, w0, q⟩ := q
  refine ⟨ρ, S, F, he0, w0, ?_⟩
  unfold eLc at q
  cases ei : fi ρ with
  | bad => rw [ei] at q; exact q
  | exc x ρ' => rw [ei] at q; exact q
  | ok l ρ1 =>
    rw [ei] at q
    simp only [bind_ok] at q
    by_cases hsh : shAll ρ1 vs = true
    · simp only [hsh, if_true] at q
      intro J H1 S1 F1 he1 w1 fr1 wk D hD
      have q' : PLc C Q σ H S F ρ1 vs (lcG t tt te vs l (wipeE ρ1 vs) []) := by
        cases el : lcG t tt te vs l (wipeE ρ1 vs) [] with
        | ok acc ρ' => rw [el] at q; exact q
        | exc x ρ' => rw [el] at q; exact q
        | bad => rw [el] at q; exact q
      have al := Alc.own (o := .lst []) w1.so hD trivial
      obtain ⟨F1', hw1, sub1⟩ := he1.wipe vs
      have wl : Wf C H1 S1 F1' := ⟨fun a z => w1.mu a (sub1 a z), fun a z => w1.ns a (sub1 a z), w1.so, w1.tb⟩
      obtain ⟨hs1, ws1, ds1, fs1⟩ := alc_step hw1 wl (fr1.trans (fr_sub sub1)) al
      have un0 : Un' (fun b => b = D) F1' = Un' (Un' (fun b => b = D) No) F1' := by
        funext a; apply propext; constructor
        · rintro (z | z)
          · exact .inl (.inl z)
          · exact .inr z
        · rintro ((z | z) | z)
          · exact .inl z
          · exact z.elim
          · exact .inr z
      rw [un0] at ws1 fs1
      have ds1 : Dj (Un' (fun b => b = D) No) F1' := fun a x y => x.elim (fun x => ds1 a x y) False.elim
      have len1 : ∀ v ∈ vs, v < ρ1.length := fun v hv => by
        rcases shAll_mem hsh hv with ⟨d, e⟩ | e
        · exact (List.getElem?_eq_some_iff.mp e).1
        · exact (List.getElem?_eq_some_iff.mp e).1
      have lenσ : σ.length = ρ1.length := he1.len
      refine ⟨fun i m H2 => ∃ ρ2 S2 F2 acc vsV A, m = l.length - i ∧ i ≤ l.length ∧ RepE C H2 S2 (L2.wipe σ vs) ρ2 F2 ∧ (∀ v ∈ vs, ρ2[v]? = some none) ∧ H2 D = some (.lst vsV) ∧ RepOs C H2 S2 vsV acc A ∧ Wf C H2 S2 (Un' (Un' (fun b => b = D) A) F2) ∧
          Dj (Un' (fun b => b = D) A) F2 ∧ ¬ A D ∧ Fr C H S F H2 S2 (Un' (Un' (fun b => b = D) A) F2) ∧ Kp H1 S1 H2 S2 ∧ PLc C Q σ H S F ρ1 vs (lcG t tt te vs (l.drop i) ρ2 acc),
        ⟨l.length, wipeE ρ1 vs, S1, F1', [], [], No, (Nat.sub_zero _).symm, Nat.zero_le _, hs1, fun v hv => wipeE_none hv (len1 v hv), upd_same, ⟨rfl, emp_no⟩, ws1, ds1, fun z => z, fs1, al.kp, q'⟩, ?_⟩
      rintro i m H2 ⟨ρ2, S2, F2, acc, vsV, A, rfl, hi', he2, hz2, hD2, ra2, w2, d2, nA2, fr2, kp2, q2⟩
      by_cases hlt : i < l.length
      · have hd : l.drop i = l[i] :: l.drop (i + 1) := List.drop_eq_getElem_cons hlt
        rw [hd] at q2
        refine .inr ⟨wk.go i H2 S2 kp2 hlt, fun H3 => ∃ ρ2 S2 F2 acc vsV A, RepE C H3 S2 (L2.wipe σ vs) ρ2 F2 ∧ (∀ v ∈ vs, ρ2[v]? = some none) ∧ H3 D = some (.lst vsV) ∧ RepOs C H3 S2 vsV acc A ∧ Wf C H3 S2 (Un' (Un' (fun b => b = D) A) F2) ∧
            Dj (Un' (fun b => b = D) A) F2 ∧ ¬ A D ∧ Fr C H S F H3 S2 (Un' (Un' (fun b => b = D) A) F2) ∧ Kp H1 S1 H3 S2 ∧ PLc C Q σ H S F ρ1 vs (lcG t tt te vs (l.drop (i + 1)) ρ2 acc),
          fun H3 ⟨a1, a2, a3, a4, a5, a6, b⟩ => ⟨l.length - (i + 1), by omega, a1, a2, a3, a4, a5, a6, rfl, hlt, b⟩, fun x H3 y => ?_⟩
        obtain ⟨S3, al3, rx⟩ := wk.yld i x H2 S2 H3 l[i] kp2 w2.so (by simp [hlt]) y
        obtain ⟨he3, w3, fr3⟩ := alc_fr he2 w2.drop al3
        -- the list that is being made, over the step
        obtain ⟨ka3, d3, w3', fr3', k3⟩ := fr_tmp w2 d2 fr2 fr3 w3
        have hD3 : H3 D = some (.lst vsV) := by rw [ka3 D (.inl rfl)]; exact hD2
        have ra3 := ra2.mono k3 fun b z => ka3 b (.inr z)
        have q2 : PLc C Q σ H S F ρ1 vs (match t l[i] ρ2 with
          | none => .bad
          | some ρ1 => (tt ρ1).bind fun b ρ2 => if b = true then (te ρ2).bind fun o ρ3 => if acc.length < big then lcG t tt te vs (l.drop (i + 1)) (wipeE ρ3 vs) (acc ++ [o]) else .bad
            else lcG t tt te vs (l.drop (i + 1)) (wipeE ρ2 vs) acc) := q2
        cases et : t l[i] ρ2 with
        | none => rw [et] at q2; exact q2.elim
        | some ρ3 =>
          simp only [et] at q2
          refine ht (L2.wipe σ vs) H3 S3 F2 ρ2 x l[i] ρ3 _ he3 w3 (fun j hj => by cases hj) rx et fun σ3 F3 he4 w4 p4 sub n4 l4 => ?_
          have lenw : (L2.wipe σ vs).length = σ.length := L2.wipe_length σ vs
          have l3 : σ3.length = σ.length := l4.trans lenw
          have ew : L2.wipe σ3 vs = L2.wipe σ vs := wipe_eq l3 fun j hj => by
            rw [n4 j fun z => hj (hts j z), wipe_get hj]
          refine ⟨ew, ρ3, S3, F3, he4, w4, ?_⟩
          have w3s : Wf C H3 S3 (Un' (Un' (fun b => b = D) A) F3) := ⟨fun a z => w3'.mu a (z.elim .inl fun z => .inr (sub a z)), fun a z => w3'.ns a (z.elim .inl fun z => .inr (sub a z)), w3'.so, w3'.tb⟩
          have d3s : Dj (Un' (fun b => b = D) A) F3 := fun a x y => d3 a x (sub a y)
          have fr3s : Fr C H S F H3 S3 (Un' (Un' (fun b => b = D) A) F3) := fr3'.less fun a z => z.elim .inl fun z => .inr (sub a z)
          have kp3 := kp_trans kp2 k3
          cases ett : tt ρ3 with
          | bad => rw [ett] at q2; exact q2.elim
          | exc x ρ' => rw [ett] at q2; exact q2.elim
          | ok b ρ4 =>
            rw [ett] at q2
            simp only [bind_ok] at q2
            intro H4 S4 F4 he5 w5 fr5
            obtain ⟨ka5, d5, w5', fr5', k5⟩ := fr_tmp w3s d3s fr3s fr5 w5
            have hD4 : H4 D = some (.lst vsV) := by rw [ka5 D (.inl rfl)]; exact hD3
            have ra4 := ra3.mono k5 fun b z => ka5 b (.inr z)
            have kp4 := kp_trans kp3 k5
            cases b with
            | false =>
              simp only [Bool.false_eq_true, if_false] at q2 ⊢
              obtain ⟨F5, hw5, sub5⟩ := he5.wipe vs
              rw [ew] at hw5
              exact ⟨wipeE ρ4 vs, S4, F5, acc, vsV, A, hw5, fun v hv => wipeE_none hv (by rw [← he5.len, l3, lenσ]; exact len1 v hv), hD4, ra4,
                ⟨fun a z => w5'.mu a (z.elim .inl fun z => .inr (sub5 a z)), fun a z => w5'.ns a (z.elim .inl fun z => .inr (sub5 a z)), w5'.so, w5'.tb⟩, fun a x y => d5 a x (sub5 a y), nA2, fr5'.less (fun a z => z.elim .inl fun z => .inr (sub5 a z)), kp4, q2⟩
            | true =>
              simp only [if_true] at q2 ⊢
              refine ⟨ρ4, S4, F4, he5, w5, ?_⟩
              cases ete : te ρ4 with
              | bad => rw [ete] at q2; exact q2.elim
              | exc x ρ' => rw [ete] at q2; exact q2.elim
              | ok o ρ5 =>
                rw [ete] at q2
                simp only [bind_ok] at q2
                intro y' H5 S5 F5 Y he6 r6 w6 d6 fr6
                obtain ⟨ka6, d6', w6', fr6', k6⟩ := fr_tmp w5' d5 fr5' fr6 w6
                have hD5 : H5 D = some (.lst vsV) := by rw [ka6 D (.inl rfl)]; exact hD4
                have ra5 := ra4.mono k6 fun b z => ka6 b (.inr z)
                by_cases hbig : acc.length < big
                · simp only [hbig, if_true] at q2
                  refine ⟨vsV, hD5, by rw [ra5.len]; exact Nat.lt_of_lt_of_le hbig (big_line (Nat.le_refl _)), ?_⟩
                  obtain ⟨F6, hw6, sub6⟩ := he6.wipe vs
                  rw [ew] at hw6
                  have lessU : ∀ a, Un' (Un' (fun b => b = D) A) (Un' Y F6) a → Un' (Un' (fun b => b = D) A) (Un' Y F5) a := fun a z => z.elim .inl fun z => .inr (z.elim .inl fun z => .inr (sub6 a z))
                  obtain ⟨z1, z2, z3, z4, z5, z6, z7⟩ := tmp_snoc hD5 ra5 r6 ⟨fun a z => w6'.mu a (lessU a z), fun a z => w6'.ns a (lessU a z), w6'.so, w6'.tb⟩ (fun a x y => d6' a x (y.elim .inl fun y => .inr (sub6 a y))) (fun a x y => d6 a x (sub6 a y)) nA2 hw6 (fr6'.less lessU)
                  exact ⟨wipeE ρ5 vs, S5, F6, acc ++ [o], vsV ++ [y'], Un' A Y, z1, fun v hv => wipeE_none hv (by rw [← he6.len, l3, lenσ]; exact len1 v hv), upd_same, z2, z3, z4, z5, z6, kp_trans (kp_trans kp4 k6) z7, q2⟩
                · simp only [hbig, if_false] at q2
                  exact q2.elim
      · have e : i = l.length := by omega
        subst e
        rw [List.drop_length] at q2
        have he7 := RepE.back he1 kp2 hn hsh he2 hz2
        refine .inl ⟨wk.stop H2 S2 kp2, ?_⟩
        have eu : Un' (fun b => b = D) A = fun b => b = D ∨ A b := rfl
        exact q2 (.ref D) H2 S2 F2 _ he7 ⟨D, vsV, A, rfl, hD2, ra2, fun b => Iff.rfl, fun b e z => nA2 (e ▸ z)⟩ w2 d2 fr2
    · simp only [hsh] at q
      exact q.elim
theorem de_lc {elt iter : Expr} {ifs : List Expr} {scope : Scope} {own : List (Str × Nat)} {fi : Env' → Out (List D)} {g : TG} {t : D → Env' → Option Env'} {ts : List Nat} {tt : Env' → Out Bool} {te : Fe} (ok : OkX C X) (hi : DI C E X tg iter fi)
    (hb : BlkOk X.N X.env.scope scope own) (hn : (own.map (·.2)).Nodup)
    (hg : ∀ (s : Shared) (H : Hp) (D : Addr) (cl : List (Str × Addr)) (fp : List Addr), PG (X.blk s H scope (compEnvC scope cl D X.env) fp) tg g) (ht : TgtOk C ⟨[], []⟩ g t ts) (hts : ∀ j ∈ ts, j ∈ own.map (·.2))
    (htt : ∀ (s : Shared) (H : Hp) (D : Addr) (cl : List (Str × Addr)) (fp : List Addr), DTs C Ef (X.blk s H scope (compEnvC scope cl D X.env) fp) ifs tt)
    (he : ∀ (s : Shared) (H : Hp) (D : Addr) (cl : List (Str × Addr)) (fp : List Addr), DE C Ef (X.blk s H scope (compEnvC scope cl D X.env) fp) elt te) (hs : ∀ x, foldedSetIterable iter X.env x = pure x := by intro _; rfl) :
    DE C E X (.ListComp elt [⟨tg, iter, ifs, 0⟩] scope pos) (eLc fi t tt te (own.map (·.2))) :=
  pe_imp (pe_lc ok.calm ok.nd hi hb hg htt he hs) fun _ _ _ q => lc_of hn ht hts q
/-- x = [.. for ..] -/
theorem ds_setLc {i : Nat} {y : Str} {py spos : Pos} {elt iter : Expr} {ifs : List Expr} {scope : Scope} {own : List (Str × Nat)} {fi : Env' → Out (List D)} {g : TG} {t : D → Env' → Option Env'} {ts : List Nat} {tt : Env' → Out Bool} {te : Fe} (ok : OkX C X) (hp : i ∉ P.pi) (hi : DI C E X tg iter fi)
    (hb : BlkOk X.N X.env.scope scope own) (hn : (own.map (·.2)).Nodup)
    (hg : ∀ (s : Shared) (H : Hp) (D : Addr) (cl : List (Str × Addr)) (fp : List Addr), PG (X.blk s H scope (compEnvC scope cl D X.env) fp) tg g) (ht : TgtOk C ⟨[], []⟩ g t ts) (hts : ∀ j ∈ ts, j ∈ own.map (·.2))
    (htt : ∀ (s : Shared) (H : Hp) (D : Addr) (cl : List (Str × Addr)) (fp : List Addr), DTs C Ef (X.blk s H scope (compEnvC scope cl D X.env) fp) ifs tt)
    (he : ∀ (s : Shared) (H : Hp) (D : Addr) (cl : List (Str × Addr)) (fp : List Addr), DE C Ef (X.blk s H scope (compEnvC scope cl D X.env) fp) elt te)
    (hy : X.N[i]? = some y := by rfl) (hyl : X.env.scope.names.lookup y = some .local := by rfl) (hsw : swapsWith (.ListComp elt [⟨tg, iter, ifs, 0⟩] scope pos) (some (.Name y py)) spos.line X.env = pure true := by rfl) (hs : ∀ x, foldedSetIterable iter X.env x = pure x := by intro _; rfl) :
    DS C P E X (.Assign [.Name y py] (.ListComp elt [⟨tg, iter, ifs, 0⟩] scope pos) spos) (sSet i (eLc fi t tt te (own.map (·.2)))) :=
  ps_imp (ps_setLc ok.calm ok.nd hy hyl hsw hi hb hg htt he hs) fun D σ H ⟨ρ, S, F, he, w, p, q⟩ => lc_of hn ht hts (rE_then he w p q fun o ρ1 ef v H' S' F' A a b c d fr q => by
    by_cases hl : i < ρ1.length
    · simp only [hl, if_true] at q
      obtain ⟨F2, h1, h2, h3⟩ := slot_set a b c d hl
      exact q _ H' S' F2 h1 h2 (Fx.set p hp) (fr.less h3)
    · simp only [hl, if_false] at q
      exact q.elim)
end
end G
end

section
set_option maxRecDepth 100000
set_option maxHeartbeats 2000000
open PySem PySem.Spec PyProof.Rows L2
namespace G
/-! what a def lets out: any exception of a class, or (md) one whose context is None -/
def CXm (md : Bool) (P : Program) (w : World) : CXT := match md with
  | true => L2N.CX P w
  | false => L2.CX P w
def TakesM (md : Bool) (X : Cx) (E : WX) : Prop := match md with
  | true => L2N.Takes X E
  | false => L2.Takes X E
theorem passAtM {md : Bool} {X : Cx} {W : WX} (tk : TakesM md X W) (σ : L2.St) : PassesAt (CXm md X.prog X.w) X σ (WE W σ) := by
  cases md with
  | true => exact L2N.passAt tk σ
  | false => exact L2.passAt tk σ
theorem takesM_of {md : Bool} {X : Cx} {E : XK} (hs : X.stack = X.env :: X.outer) (hf : X.env.frame = some X.env.locals) (hex : X.ex = []) {E₁ : Value → Shared → Prop}
    (hx : X.xe = fun e s' => wpAny (model X.prog X.w) X.A (leaving X.env e) (fun _ s'' => CXm md X.prog X.w X.outer X.H_0 X.s_0 E e s'') E₁ s') : TakesM md X (fun cls d _ H => E cls d H) := by
  cases md with
  | true => exact L2N.takes_of hs hf hex hx
  | false => exact L2.takes_of hs hf hex hx
theorem takesM_no {md : Bool} {X : Cx} : TakesM md X (fun _ _ _ _ => False) := by
  cases md with
  | true => exact fun _ _ ⟨_, _, _, _, _, _, _, _, _, _, _, _, _, _, _, _, w⟩ => w.elim
  | false => exact fun _ _ ⟨_, _, _, _, _, _, _, _, _, _, _, _, _, _, _, _, w⟩ => w.elim
/-! calls: a def over data takes what is owned of its parameters and gives it back -/
abbrev Fn := List O → Out O
def spD (C : Cn) (n : Nat) (g : Fn) : Sp := fun vs H Q E => ∃ os S A, vs.length = n ∧ RepOs C H S vs os A ∧ Wf C H S A ∧ match g os with
  | .ok o ps => ∀ v H' S' A' B, RepE C H' S' (vs.map some) ps A' → RepO C H' S' v o B → Wf C H' S' (Un' B A') → Dj B A' → Fr C H S A H' S' (Un' B A') → Q v H'
  | .exc x ps => ∀ c d H' S' A', RepE C H' S' (vs.map some) ps A' → Wf C H' S' A' → Fr C H S A H' S' A' → RepXn C H' S' x c d → E c d H'
  | .bad => False
/-- the parameters that are given back -/
def keepL : List Bool → Env' → Env'
  | [], _ => []
  | k :: ks, ρ => (if k = true then (ρ.head?).getD none else none) :: keepL ks ρ.tail
def fnG (N : Nat) (ks : List Bool) (body : Fs) : Fn := fun os => match body (os.map some ++ List.replicate (N - os.length) none) with
  | .nx ρ => .ok (.sh .non) (keepL ks ρ)
  | .ret o ρ => .ok o (keepL ks ρ)
  | .exc x ρ => .exc x (keepL ks ρ)
  | _ => .bad
def piOf : List Bool → Nat → List Nat
  | [], _ => []
  | true :: ks, i => i :: piOf ks (i + 1)
  | false :: ks, i => piOf ks (i + 1)
/-- arguments: ms tells which slots are lent -/
def takeL : List (Option Nat) → List O → Env' → Option (List O × Env')
  | [], [], ρ => some ([], ρ)
  | none :: ms, o :: os, ρ => (takeL ms os ρ).map fun p => (o :: p.1, p.2)
  | some i :: ms, os, ρ => match ρ[i]? with
    | some (some o) => (takeL ms os (ρ.set i none)).map fun p => (o :: p.1, p.2)
    | _ => none
  | _, _, _ => none
def putL : List (Option Nat) → Env' → Env' → Option Env'
  | [], [], ρ => some ρ
  | none :: ms, _ :: ps, ρ => putL ms ps ρ
  | some i :: ms, r :: ps, ρ => match ρ[i]? with
    | some none => putL ms ps (ρ.set i r)
    | _ => none
  | _, _, _ => none
def eCall (g : Fn) (ms : List (Option Nat)) (fa : Fa) : Fe := fun ρ => (fa ρ).bind fun os ρ1 => match takeL ms os ρ1 with
  | some (os', ρ2) => match g os' with
    | .ok o ps => match putL ms ps ρ2 with
      | some ρ3 => .ok o ρ3
      | none => .bad
    | .exc x ps => match putL ms ps ρ2 with
      | some ρ3 => .exc x ρ3
      | none => .bad
    | .bad => .bad
  | none => .bad
section
variable (C : Cn) (H : Hp) (S : Set') (σ : L2.St)
def RepM : List (Option Nat) → List V → List O → Set' → Prop
  | [], [], [], A => Emp A
  | none :: ms, v :: vs, o :: os, A => ∃ A1 A2, RepO C H S v o A1 ∧ RepM ms vs os A2 ∧ Sum' A A1 A2
  | some i :: ms, v :: vs, os, A => σ[i]? = some (some v) ∧ RepM ms vs os A
  | _, _, _, _ => False
end
section
variable {C : Cn} {P : Fx} {E : WX} {X : Cx} {σ : L2.St} {H H1 H' : Hp} {S S1 S' F F1 A B : Set'} {ρ : Env'} {pos : Pos} {f : Fe}
theorem RepM.mono (k : Kp H S H' S') : ∀ {ms : List (Option Nat)} {vs : List V} {os : List O} {A : Set'}, (∀ a, A a → H' a = H a) → RepM C H S σ ms vs os A → RepM C H' S' σ ms vs os A
  | [], [], [], _, _, h => h
  | none :: ms, v :: vs, o :: os, A, ka, ⟨A1, A2, h1, h2, s⟩ => ⟨A1, A2, h1.mono k fun a z => ka a (s.l z), RepM.mono k (fun a z => ka a (s.r z)) h2, s⟩
  | some i :: ms, v :: vs, os, A, ka, ⟨e, h⟩ => ⟨e, RepM.mono k ka h⟩
  | [], [], _ :: _, _, _, h => h.elim
  | [], _ :: _, _, _, _, h => by cases ‹List O› <;> exact h.elim
  | none :: ms, [], _, _, _, h => by cases ‹List O› <;> exact h.elim
  | none :: ms, _ :: _, [], _, _, h => h.elim
  | some i :: ms, [], _, _, _, h => by cases ‹List O› <;> exact h.elim
theorem RepM.len : ∀ {ms : List (Option Nat)} {vs : List V} {os : List O} {A : Set'}, RepM C H S σ ms vs os A → vs.length = ms.length
  | [], [], _, _, h => rfl
  | none :: ms, v :: vs, o :: os, A, ⟨A1, A2, h1, h2, s⟩ => by rw [List.length_cons, List.length_cons, h2.len]
  | some i :: ms, v :: vs, os, A, ⟨e, h⟩ => by rw [List.length_cons, List.length_cons, h.len]
  | [], _ :: _, os, _, h => by cases os <;> exact h.elim
  | none :: ms, [], os, _, h => by cases os <;> exact h.elim
  | none :: ms, _ :: _, [], _, h => h.elim
  | some i :: ms, [], os, _, h => by cases os <;> exact h.elim
theorem take_rep : ∀ {ms : List (Option Nat)} {vs : List V} {os os' : List O} {ρ ρ' : Env'} {A F : Set'}, RepM C H S σ ms vs os A → RepE C H S σ ρ F → Dj A F → takeL ms os ρ = some (os', ρ') →
    ∃ A' F', RepOs C H S vs os' A' ∧ RepE C H S σ ρ' F' ∧ Dj A' F' ∧ (∀ a, Un' A' F' a → Un' A F a) ∧ (∀ a, F' a → F a)
  | [], [], [], os', ρ, ρ', A, F, h, he, d, e => by
    simp only [takeL, Option.some.injEq, Prod.mk.injEq] at e
    obtain ⟨rfl, rfl⟩ := e
    exact ⟨A, F, ⟨rfl, h⟩, he, d, fun _ z => z, fun _ z => z⟩
  | none :: ms, v :: vs, o :: os, os', ρ, ρ', A, F, ⟨A1, A2, h1, h2, s⟩, he, d, e => by
    simp only [takeL] at e
    obtain ⟨p, ep, e⟩ := Option.map_eq_some_iff.mp e
    obtain ⟨rfl, rfl⟩ := Prod.mk.inj e
    obtain ⟨A', F', g1, g2, g3, g4, g5⟩ := take_rep h2 he (fun a x y => d a (s.r x) y) ep
    refine ⟨Un' A1 A', F', ⟨v, vs, A1, A', rfl, h1, g1, ⟨fun a => Iff.rfl, fun a x y => ?_⟩⟩, g2, fun a x y => ?_, fun a z => ?_, g5⟩
    · rcases g4 a (.inl y) with z | z
      · exact s.2 a x z
      · exact d a (s.l x) z
    · rcases x with x | x
      · exact d a (s.l x) (g5 a y)
      · exact g3 a x y
    · rcases z with (z | z) | z
      · exact .inl (s.l z)
      · exact (g4 a (.inl z)).elim (fun z => .inl (s.r z)) .inr
      · exact (g4 a (.inr z)).elim (fun z => .inl (s.r z)) .inr
  | some i :: ms, v :: vs, os, os', ρ, ρ', A, F, ⟨ev, h⟩, he, d, e => by
    have e' : (match ρ[i]? with
      | some (some o) => (takeL ms os (ρ.set i none)).map fun p => (o :: p.1, p.2)
      | _ => none) = some (os', ρ') := by
      cases os <;> exact e
    split at e'
    · next o eo =>
      obtain ⟨p, ep, e2⟩ := Option.map_eq_some_iff.mp e'
      obtain ⟨rfl, rfl⟩ := Prod.mk.inj e2
      obtain ⟨x, B1, B2, ex, ⟨v', rfl, r1⟩, r2, s⟩ := he.take eo
      rw [ev] at ex
      obtain rfl : v = v' := by simpa using ex
      obtain ⟨A', F', g1, g2, g3, g4, g5⟩ := take_rep h r2 (fun a x y => d a x (s.r y)) ep
      refine ⟨Un' B1 A', F', ⟨v, vs, B1, A', rfl, r1, g1, ⟨fun a => Iff.rfl, fun a x y => ?_⟩⟩, g2, fun a x y => ?_, fun a z => ?_, fun a z => s.r (g5 a z)⟩
      · rcases g4 a (.inl y) with z | z
        · exact d a z (s.l x)
        · exact s.2 a x z
      · rcases x with x | x
        · exact s.2 a x (g5 a y)
        · exact g3 a x y
      · rcases z with (z | z) | z
        · exact .inr (s.l z)
        · exact (g4 a (.inl z)).elim .inl fun z => .inr (s.r z)
        · exact (g4 a (.inr z)).elim .inl fun z => .inr (s.r z)
    · cases e'
  | [], [], _ :: _, _, _, _, _, _, h, _, _, _ => h.elim
  | [], _ :: _, os, _, _, _, _, _, h, _, _, _ => by cases os <;> exact h.elim
  | none :: ms, [], os, _, _, _, _, _, h, _, _, _ => by cases os <;> exact h.elim
  | none :: ms, _ :: _, [], _, _, _, _, _, h, _, _, _ => h.elim
  | some i :: ms, [], os, _, _, _, _, _, h, _, _, _ => by cases os <;> exact h.elim
theorem put_rep : ∀ {ms : List (Option Nat)} {vs : List V} {ps ρ ρ' : Env'} {os : List O} {A0 A F : Set'} {H0 : Hp} {S0 : Set'}, RepM C H0 S0 σ ms vs os A0 → RepE C H S (vs.map some) ps A → RepE C H S σ ρ F → Dj A F → putL ms ps ρ = some ρ' →
    ∃ F', RepE C H S σ ρ' F' ∧ ∀ a, F' a → Un' A F a
  | [], [], ps, ρ, ρ', os, A0, A, F, H0, S0, h, hp, he, d, e => by
    cases ps with
    | nil =>
      simp only [putL, Option.some.injEq] at e
      subst e
      exact ⟨F, he, fun a z => .inr z⟩
    | cons r ps => simp [putL] at e
  | none :: ms, v :: vs, ps, ρ, ρ', o :: os, A0, A, F, H0, S0, ⟨A1, A2, h1, h2, s⟩, hp, he, d, e => by
    cases ps with
    | nil => simp [putL] at e
    | cons r ps =>
      simp only [putL] at e
      obtain ⟨x, t, B1, B2, ex, r1, r2, sB⟩ := hp
      obtain ⟨rfl, rfl⟩ := List.cons.inj ex
      obtain ⟨F', g1, g2⟩ := put_rep h2 r2 he (fun a x y => d a (sB.r x) y) e
      exact ⟨F', g1, fun a z => (g2 a z).elim (fun z => .inl (sB.r z)) .inr⟩
  | some i :: ms, v :: vs, ps, ρ, ρ', os, A0, A, F, H0, S0, ⟨ev, h⟩, hp, he, d, e => by
    cases ps with
    | nil => simp [putL] at e
    | cons r ps =>
      have e' : (match ρ[i]? with
        | some none => putL ms ps (ρ.set i r)
        | _ => none) = some ρ' := e
      obtain ⟨x, t, B1, B2, ex, r1, r2, sB⟩ := hp
      obtain ⟨rfl, rfl⟩ := List.cons.inj ex
      split at e'
      · next eo =>
        have q := he.put (i := i) (F := Un' B1 F) (A := B1) (x := some v) (r := r) eo r1 ⟨fun a => Iff.rfl, fun a x y => d a (sB.l x) y⟩
        rw [set_at ev] at q
        obtain ⟨F', g1, g2⟩ := put_rep h r2 q (fun a x y => y.elim (fun y => sB.2 a y x) fun y => d a (sB.r x) y) e'
        exact ⟨F', g1, fun a z => (g2 a z).elim (fun z => .inl (sB.r z)) fun z => z.elim (fun z => .inl (sB.l z)) .inr⟩
      · cases e'
  | [], _ :: _, _, _, _, os, _, _, _, _, _, h, _, _, _, _ => by cases os <;> exact h.elim
  | none :: ms, [], _, _, _, os, _, _, _, _, _, h, _, _, _, _ => by cases os <;> exact h.elim
  | none :: ms, _ :: _, _, _, _, [], _, _, _, _, _, h, _, _, _, _ => h.elim
  | some i :: ms, [], _, _, _, os, _, _, _, _, _, h, _, _, _, _ => by cases os <;> exact h.elim
/-! argument lists with lent slots -/
def rM (C : Cn) (E : WX) (ms : List (Option Nat)) (f : Fa) : TA := fun σ H Q => ∃ ρ S F, RepE C H S σ ρ F ∧ Wf C H S F ∧ match f ρ with
  | .ok os ρ' => ∀ vs H' S' F' A, RepE C H' S' σ ρ' F' → RepM C H' S' σ ms vs os A → Wf C H' S' (Un' A F') → Dj A F' → Fr C H S F H' S' (Un' A F') → Q vs H'
  | .exc x ρ' => ∀ c d H' S' F', RepE C H' S' σ ρ' F' → Wf C H' S' F' → Fr C H S F H' S' F' → RepXn C H' S' x c d → E c d σ H'
  | .bad => False
abbrev DM (C : Cn) (E : WX) (X : Cx) (es : List Expr) (ms : List (Option Nat)) (f : Fa) : Prop := PA X es (rM C E ms f)
theorem dm_nil : DM C E X [] [] eNil := by
  refine pa_imp pa_nil fun σ H Q ⟨ρ, S, F, he, w, q⟩ => ?_
  exact q [] H S F No he emp_no (wf_no w) dj_no (fr_no .refl)
theorem dm_val {e : Expr} {es : List Expr} {ms : List (Option Nat)} {f : Fe} {g : Fa} (h1 : DE C E X e f) (h2 : DM C E X es ms g) (hs : starEach (e :: es) X.env = (false, eval e X.env) :: starEach es X.env := by rfl) : DM C E X (e :: es) (none :: ms) (eCons f g) := by
  refine pa_imp (pa_cons h1 h2 hs) fun σ H Q ⟨ρ, S, F, he, w, q⟩ => ⟨ρ, S, F, he, w, ?_⟩
  unfold eCons at q
  cases ef : f ρ with
  | bad => rw [ef] at q; exact q
  | exc x ρ' => rw [ef] at q; exact q
  | ok o ρ1 =>
    rw [ef] at q
    intro v H1 S1 F1 A he1 r1 w1 d1 fr1
    refine ⟨ρ1, S1, F1, he1, w1.drop, ?_⟩
    simp only [bind_ok] at q
    cases eg : g ρ1 with
    | bad => rw [eg] at q; exact q
    | exc x ρ' =>
      rw [eg] at q
      intro c d H2 S2 F2 he2 w2 fr2 rx
      exact q c d H2 S2 F2 he2 w2 (fr1.drop.trans fr2) rx
    | ok os ρ2 =>
      rw [eg] at q
      intro vs H2 S2 F2 B he2 r2 w2 d2 fr2
      obtain ⟨ka, d3, w3, fr3, k⟩ := fr_tmp w1 d1 fr1 fr2 w2
      obtain ⟨d4, d5⟩ := dj_un d3 d2
      have r1' := r1.mono k ka
      rw [un_assoc] at w3 fr3
      exact q (v :: vs) H2 S2 F2 (Un' A B) he2 ⟨A, B, r1', r2, ⟨fun a => Iff.rfl, d4⟩⟩ w3 d5 fr3
/-- a slot is lent: what it holds is taken at the call -/
def eLend (i : Nat) (g : Fa) : Fa := fun ρ => match ρ[i]? with
  | some (some _) => g ρ
  | _ => .bad
theorem dm_lend {i : Nat} {x : Str} {p : Pos} {es : List Expr} {ms : List (Option Nat)} {g : Fa} (h2 : DM C E X es ms g) (hN : X.N[i]? = some x := by rfl) (hv : Vis X.env.scope x := by first | exact Or.inl rfl | exact Or.inr (Or.inl rfl) | exact Or.inr (Or.inr rfl)) (hd : (x == ("__debug__" : Str)) = false := by decide)
    (hcd : (x == ("__classdict__" : Str)) = false := by decide) (hs : starEach (.Name x p :: es) X.env = (false, eval (.Name x p) X.env) :: starEach es X.env := by rfl) : DM C E X (.Name x p :: es) (some i :: ms) (eLend i g) := by
  refine pa_imp (pa_cons (pe_var hN hv hd hcd) h2 hs) fun σ H Q ⟨ρ, S, F, he, w, q⟩ => ?_
  unfold eLend at q
  cases e : ρ[i]? with
  | none => rw [e] at q; exact q.elim
  | some r =>
    cases r with
    | none => rw [e] at q; exact q.elim
    | some o =>
      rw [e] at q
      obtain ⟨x, A, B, e1, ⟨v, rfl, h1⟩, _, _⟩ := he.take e
      refine ⟨v, e1, ρ, S, F, he, w, ?_⟩
      cases eg : g ρ with
      | bad => simp only [eg] at q
      | exc x ρ' => simp only [eg] at q; exact q
      | ok os ρ2 => simp only [eg] at q; exact fun vs H2 S2 F2 B he2 r2 w2 d2 fr2 => q (v :: vs) H2 S2 F2 B he2 ⟨e1, r2⟩ w2 d2 fr2
/-- behind a call -/
theorem call_at {g : Fn} {ms : List (Option Nat)} {fa : Fa} {n : Nat} {Q : VK} (hn : ms.length = n) (q : match eCall g ms fa ρ with
      | .ok o ρ' => ∀ v H' S' F' A, RepE C H' S' σ ρ' F' → RepO C H' S' v o A → Wf C H' S' (Un' A F') → Dj A F' → Fr C H S F H' S' (Un' A F') → Q v H'
      | .exc x ρ' => ∀ c d H' S' F', RepE C H' S' σ ρ' F' → Wf C H' S' F' → Fr C H S F H' S' F' → RepXn C H' S' x c d → E c d σ H'
      | .bad => False) : match fa ρ with
      | .ok os ρ' => ∀ vs H' S' F' A, RepE C H' S' σ ρ' F' → RepM C H' S' σ ms vs os A → Wf C H' S' (Un' A F') → Dj A F' → Fr C H S F H' S' (Un' A F') → spD C n g vs H' Q (WE E σ)
      | .exc x ρ' => ∀ c d H' S' F', RepE C H' S' σ ρ' F' → Wf C H' S' F' → Fr C H S F H' S' F' → RepXn C H' S' x c d → E c d σ H'
      | .bad => False := by
  unfold eCall at q
  cases ef : fa ρ with
  | bad => rw [ef] at q; exact q
  | exc x ρ' => rw [ef] at q; exact q
  | ok os ρ1 =>
    rw [ef] at q
    simp only [bind_ok] at q
    intro vs H1 S1 F1 A he1 r1 w1 d1 fr1
    cases et : takeL ms os ρ1 with
    | none => rw [et] at q; exact q.elim
    | some p =>
      obtain ⟨os', ρ2⟩ := p
      simp only [et] at q
      obtain ⟨A', F', g1, g2, g3, g4, g5⟩ := take_rep r1 he1 d1 et
      have wA : Wf C H1 S1 (Un' F' A') := ⟨fun a z => w1.mu a (g4 a z.symm), fun a z => w1.ns a (g4 a z.symm), w1.so, w1.tb⟩
      have dA : Dj F' A' := fun a x y => g3 a y x
      have frA : Fr C H S F H1 S1 (Un' F' A') := ⟨fr1.keep, fr1.sub, fr1.new, fun a z => fr1.fnew a (g4 a z.symm), fr1.tk⟩
      refine ⟨os', S1, A', r1.len.trans hn, g1, wA.drop, ?_⟩
      cases eg : g os' with
      | bad => simp only [eg] at q
      | exc x ps =>
        simp only [eg] at q
        cases ep : putL ms ps ρ2 with
        | none => simp only [ep] at q
        | some ρ3 =>
          simp only [ep] at q
          intro c d H2 S2 A2 hp w2 fr2 rx
          obtain ⟨ka, d3, w3, fr3, k⟩ := fr_tmp wA dA frA fr2 w2
          obtain ⟨F3, z1, z2⟩ := put_rep r1 hp (g2.mono k ka) (fun a x y => d3 a y x) ep
          have less : ∀ a, F3 a → Un' F' A2 a := fun a z => (z2 a z).symm
          exact q c d H2 S2 F3 z1 ⟨fun a z => w3.mu a (less a z), fun a z => w3.ns a (less a z), w3.so, w3.tb⟩ (fr3.less less) rx
      | ok o ps =>
        simp only [eg] at q
        cases ep : putL ms ps ρ2 with
        | none => simp only [ep] at q
        | some ρ3 =>
          simp only [ep] at q
          intro v H2 S2 A2 B hp r2 w2 d2 fr2
          obtain ⟨ka, d3, w3, fr3, k⟩ := fr_tmp wA dA frA fr2 w2
          obtain ⟨F3, z1, z2⟩ := put_rep r1 hp (g2.mono k ka) (fun a x y => d3 a y (.inr x)) ep
          have less : ∀ a, Un' B F3 a → Un' F' (Un' B A2) a := fun a z => z.elim (fun z => .inr (.inl z)) fun z => (z2 a z).elim (fun z => .inr (.inr z)) .inl
          exact q v H2 S2 F3 B z1 r2 ⟨fun a z => w3.mu a (less a z), fun a z => w3.ns a (less a z), w3.so, w3.tb⟩ (fun a x y => (z2 a y).elim (fun y => d2 a x y) fun y => d3 a y (.inl x)) (fr3.less less)
theorem call_ok {k : Nat} {fd : FuncData} {g : Fn} {ms : List (Option Nat)} {fa : Fa} {n : Nat} {Q : VK} (hn : ms.length = n) (q : rE C E (eCall g ms fa) σ H Q) : rM C E ms fa σ H (fun vs H1 => spD C n g vs H1 Q (WE E σ)) := by
  obtain ⟨ρ, S, F, he, w, q⟩ := q
  exact ⟨ρ, S, F, he, w, call_at hn q⟩
theorem de_call {md : Bool} {k : Nat} {f : Addr} {fd : FuncData} {ps : List Str} {x : Str} {p : Pos} {e : Expr} {es : List Expr} {g : Fn} {ms : List (Option Nat)} {fa : Fa} (Fk : FnOk X.prog X.w X.K X.mg X.base (CXm md X.prog X.w) k f fd ps (spD C ps.length g)) (hr : Room k X.A)
    (hm : X.mg x = some (.ref f)) (hk : PySem.W.keepIn X.K (.ref f) = true) (hb : Binds X.K fd ps []) (tk : TakesM md X E) (ha : DM C E X (e :: es) ms fa) (hn : ms.length = ps.length := by rfl) (hg : Gl X x := by rfl)
    (hdb : (x == ("__debug__" : Str)) = false := by decide) (he : starEach (e :: es) X.env = (false, eval e X.env) :: starEach es X.env := by rfl) (hpl : (backTo pos (starEach es X.env)).any (·.1) = false := by rfl) :
    DE C E X (.Call (.Name x p) (e :: es) [] pos) (eCall g ms fa) :=
  pe_imp (pe_callS Fk hr hg hm hk hb (fun σ => passAtM tk σ) ha hdb he hpl) fun σ H Q q => call_ok (k := k) (fd := fd) hn q
/-! a def, by its body -/
theorem keep_rep : ∀ {ks : List Bool} {vs : List V} {σ : L2.St} {ρ : Env'} {F : Set'}, ks.length = vs.length → RepE C H S σ ρ F → (∀ (p : Nat) (v : V), ks[p]? = some true → vs[p]? = some v → σ[p]? = some (some v)) →
    ∃ F', RepE C H S (vs.map some) (keepL ks ρ) F' ∧ ∀ a, F' a → F a
  | [], [], σ, ρ, F, _, _, _ => ⟨No, ⟨rfl, emp_no⟩, fun _ z => z.elim⟩
  | k :: ks, v :: vs, σ, [], F, hl, he, h => by
    have e := he.1
    subst e
    cases k with
    | true => have := h 0 v rfl rfl; cases this
    | false =>
      obtain ⟨F', g1, g2⟩ := keep_rep (ks := ks) (vs := vs) (σ := []) (ρ := []) (by simpa using hl) he fun p v h1 h2 => by
        have := h (p + 1) v (by simpa using h1) (by simpa using h2)
        cases this
      exact ⟨F', ⟨some v, vs.map some, No, F', rfl, emp_no, g1, ⟨fun a => ⟨.inr, fun z => z.elim False.elim id⟩, fun a z => z.elim⟩⟩, g2⟩
  | k :: ks, v :: vs, σ, r :: ρ, F, hl, he, h => by
    obtain ⟨x, t, A, B, rfl, r1, r2, s⟩ := he
    obtain ⟨F', g1, g2⟩ := keep_rep (ks := ks) (vs := vs) (σ := t) (ρ := ρ) (by simpa using hl) r2 fun p v h1 h2 => by
      have := h (p + 1) v (by simpa using h1) (by simpa using h2)
      simpa using this
    cases k with
    | true =>
      have ex := h 0 v rfl rfl
      have ex : x = some v := by simpa using ex
      subst ex
      refine ⟨Un' A F', ⟨some v, vs.map some, A, F', rfl, r1, g1, ⟨fun a => Iff.rfl, fun a x y => s.2 a x (g2 a y)⟩⟩, fun a z => z.elim (fun z => s.l z) fun z => s.r (g2 a z)⟩
    | false => exact ⟨F', ⟨some v, vs.map some, No, F', rfl, emp_no, g1, ⟨fun a => ⟨.inr, fun z => z.elim False.elim id⟩, fun a z => z.elim⟩⟩, fun a z => s.r (g2 a z)⟩
  | [], _ :: _, _, _, _, hl, _, _ => by cases hl
  | _ :: _, [], _, _, _, hl, _, _ => by cases hl
theorem mem_pi : ∀ {ks : List Bool} {i p : Nat}, ks[p]? = some true → i + p ∈ piOf ks i
  | [], _, _, h => by simp at h
  | true :: ks, i, 0, h => by simp [piOf]
  | false :: ks, i, 0, h => by simp at h
  | k :: ks, i, p + 1, h => by
    have q := mem_pi (ks := ks) (i := i + 1) (p := p) (by simpa using h)
    rw [show i + (p + 1) = i + 1 + p by omega]
    cases k with
    | true => exact List.mem_cons_of_mem _ q
    | false => exact q
theorem repE_nones : ∀ n, RepE C H S (List.replicate n none) (List.replicate n none) No
  | 0 => ⟨rfl, emp_no⟩
  | n + 1 => ⟨none, List.replicate n none, No, No, rfl, emp_no, repE_nones n, ⟨fun a => ⟨fun z => z.elim, fun z => z.elim id id⟩, fun a z => z.elim⟩⟩
theorem repE_start {N : Nat} : ∀ {vs : List V} {os : List O} {A : Set'}, RepOs C H S vs os A → RepE C H S (vs.map some ++ List.replicate N none) (os.map some ++ List.replicate N none) A
  | vs, [], A, h => by
    obtain ⟨rfl, h⟩ := h
    have : A = No := funext fun a => propext ⟨h a, False.elim⟩
    subst this
    exact repE_nones N
  | vs, o :: os, A, h => by
    obtain ⟨v, t, P, R, rfl, h1, h2, s⟩ := h
    exact ⟨some v, _, P, R, rfl, ⟨v, rfl, h1⟩, repE_start h2, s⟩
theorem fn_end {N : Nat} {ks : List Bool} {body : Fs} {vs : List V} {Q : VK} {E : XK} {M : List Str} (hl : ks.length = vs.length) (hN : N = M.length) (q : spD C ks.length (fnG N ks body) vs H Q E) :
    rS C ⟨piOf ks 0, vs.map some⟩ (fun c d _ H => E c d H) body { nx := fun _ H' => Q .non H', rt := Q } (L2.start M vs) H := by
  obtain ⟨os, S, A, ln, r, w, q⟩ := q
  subst hN
  have el : vs.length = os.length := r.len
  refine ⟨os.map some ++ List.replicate (M.length - os.length) none, S, A, by unfold L2.start; rw [el]; exact repE_start r, w, fun j hj => ?_, ?_⟩
  · unfold L2.start
    have : j < vs.length := by
      rw [← hl]
      clear q r w
      suffices ∀ (ks : List Bool) i, j ∈ piOf ks i → j < i + ks.length by simpa using this ks 0 hj
      intro ks
      induction ks with
      | nil => intro i h; simp [piOf] at h
      | cons k ks ih =>
        intro i h
        cases k with
        | true =>
          rcases List.mem_cons.mp h with h | h
          · rw [List.length_cons]; omega
          · have := ih (i + 1) h; rw [List.length_cons]; omega
        | false => have := ih (i + 1) h; rw [List.length_cons]; omega
    exact List.getElem?_append_left (by simpa using this)
  · have kp : ∀ {σ' : L2.St}, Fx.at ⟨piOf ks 0, vs.map some⟩ σ' → ∀ (p : Nat) (v : V), ks[p]? = some true → vs[p]? = some v → σ'[p]? = some (some v) := fun h p v h1 h2 => by
      have := h p (by simpa using mem_pi (i := 0) h1)
      rw [this]
      show (vs.map some)[p]? = _
      rw [List.getElem?_map, h2]; rfl
    unfold fnG at q
    cases eb : body (os.map some ++ List.replicate (M.length - os.length) none) with
    | bad => rw [eb] at q; exact q.elim
    | brk ρ => rw [eb] at q; exact q.elim
    | cnt ρ => rw [eb] at q; exact q.elim
    | nx ρ =>
      rw [eb] at q
      intro σ' H' S' F' a b c d
      obtain ⟨F2, z1, z2⟩ := keep_rep hl a (kp c)
      refine q .non H' S' F2 No z1 ⟨emp_no, rfl⟩ (wf_no ⟨fun a z => b.mu a (z2 a z), fun a z => b.ns a (z2 a z), b.so, b.tb⟩) dj_no (fr_no (d.less z2))
    | ret o ρ =>
      rw [eb] at q
      intro v σ' H' S' F' B a r b dj c d
      obtain ⟨F2, z1, z2⟩ := keep_rep hl a (kp c)
      have less : ∀ a, Un' B F2 a → Un' B F' a := fun a z => z.elim .inl fun z => .inr (z2 a z)
      exact q v H' S' F2 B z1 r ⟨fun a z => b.mu a (less a z), fun a z => b.ns a (less a z), b.so, b.tb⟩ (fun a x y => dj a x (z2 a y)) (d.less less)
    | exc x ρ =>
      rw [eb] at q
      intro c0 d0 σ' H' S' F' a b c d rx
      obtain ⟨F2, z1, z2⟩ := keep_rep hl a (kp c)
      exact q c0 d0 H' S' F2 z1 ⟨fun a z => b.mu a (z2 a z), fun a z => b.ns a (z2 a z), b.so, b.tb⟩ (d.less z2) rx
/-- THE RULE for a def -/
theorem fn_def {md : Bool} {P : Program} {w : World} {K : PySem.W.Frag} {mg : Str → Option Value} {base : Heap} {x qual : Str} {st : Stmt} {f : Addr} {fd : FuncData} {N ps : List Str} {k : Nat} {ks : List Bool} {body : Fs} (Fd : Fun K x qual st f fd) (Sc : FnScope N ps (defScope st)) (hk : ks.length = ps.length)
    (hb : ∀ (cdv : Value) (A : Around) (outer : List Env) (s : Shared) (H : Hp) (E : XK) (σ0 : L2.St), Room k (A.deeper (envOfC qual (defScope st) s.heap.objs.size f cdv)) →
      DSs C ⟨piOf ks 0, σ0⟩ (fun c d _ H => E c d H) (cxOf (CXm md P w) P w K mg base N qual (defScope st) f cdv A outer s H E) (defBody st) body) :
    FnOk P w K mg base (CXm md P w) (k + 1) f fd ps (spD C ps.length (fnG N.length ks body)) := by
  obtain ⟨⟨oc, od, kV, doc, pm, an, cdv, ct, osl, rfl, lk, hcd⟩, hkp⟩ := Fd
  refine fn_of lk hcd Sc (fun vs H Q E h => ?_) fun A outer s H vs Q E hr h => ⟨_, hb cdv A outer s H E (vs.map some) hr, fn_end ?_ rfl (by rw [hk]; exact h)⟩
  · obtain ⟨_, _, _, e, _⟩ := h; exact e
  · obtain ⟨_, _, _, e, _⟩ := h; exact hk.trans e.symm
end
end G
end

section
set_option maxRecDepth 100000
set_option maxHeartbeats 2000000
open PySem PySem.W PySem.Calls PyProof.Rows PySem.HandSPX
/-! an own exception whose maker says super().__init__(text) and stores one field -/
namespace GX
def iArgs (p : Str) (p1 p2 : Pos) : Arguments := { posonlyargs := [], args := [{ arg := "self", annotation := none, pos := p1 }, { arg := p, annotation := none, pos := p2 }], vararg := none, kwonlyargs := [], kw_defaults := [], kwarg := none, defaults := [] }
def iBody (p msg : Str) (j : Nat) (q : Nat → Pos) : List Stmt := [.Expr (.Call (.Attribute (.Call (.Name "super" (q 0)) [] [] (q 1)) "__init__" (q 2)) [.Constant (.str msg) j (q 3)] [] (q 4)) (q 5),
  .Assign [.Attribute (.Name "self" (q 6)) p (q 7)] (.Name p (q 8)) (q 9)]
def iScope (p : Str) : Scope := { kind := .function, names := [(PySem.Str.ofString "self", .local), (p, .local), (PySem.Str.ofString "__class__", .free), (PySem.Str.ofString "super", .globalImplicit)], isGenerator := false, isCoroutine := false, more := [] }
theorem mc_eq {o : Expr} {name : Str} {apos pos : Pos} {env : Env} {ov : Value} {n : Nat} {args : List (Bool × Sem Value)} {kws : List (Option Str × Sem Value)} (hf : methodCallForm n args kws = true) (hl : (apos.endLine == pos.line) = true) :
    methodCall o name apos pos env ov n args kws = (do
      let (f, first) ← holding [ov] (getMethod ov name (do return (← importBound o env).getD true))
      callWith pos f first args kws) := by
  unfold methodCall methodCallPos calleeOf
  simp only [hf, hl, Bool.not_true, Bool.false_or, if_true, pure_bind]
/-- what the written part says of such a class -/
structure SupTxt (prog : Program) (K : Frag) (mg : Str → Option Value) (x : Str) (C fI : Addr) (p : Str) (B newId initId : String) (bmB : List Value) : Prop where
  gC : mg x = some (.ref C)
  gS : mg "super" = none
  xi : excInitIn K C bmB newId = true
  cls : ∃ cd, clsIn K C = some cd ∧ refsVE cd.mro = true ∧ cd.hasDict = true
  sa : findIn K (.ref C) "__setattr__" = some (some (.builtin "object.__setattr__"))
  noN : findIn K (.ref C) p = some none
  iC : findIn K (.ref C) "__init__" = some (some (.ref fI))
  tC : typeIn K (.ref fI) = some (.type "function")
  kC : keepIn K (.ref C) = true
  exC : subIn K (.ref C) (.type "BaseException") = some true
  tyC : typeIn K (.ref C) = some (.type "type")
  hB : subIn K (.ref C) (.type B) = some true
  me : mroIn K C (.ref C) = some true
  sup : ks_superIn K C C "__init__" = some (some (.builtin initId))
  op : nsIn K cStatics "thirdparty.any" = some none
  fn : ∃ (oc : Value) (od : Option Addr) (qual : Str) (dV kV doc pm : Value) (an : Option Addr) (cda : Addr) (ct : Value) (cc : Addr) (osl : Array (Option Value)) (msg : Str) (j : Nat) (p1 p2 : Pos) (q : Nat → Pos) (cl : Value) (cld : Option Addr) (csl : Array (Option Value))
      (ccl : Value) (cdd : Option Addr) (vs : Array Value) (ccs : Array (Option Value)) (file : Str) (tf : Tok),
    K.lookup fI = some ⟨oc, od, .func (ksFn "__init__" qual (iArgs p p1 p2) (iBody p msg j q) (iScope p) dV kV doc pm an (.ref cda) ct cc), osl⟩ ∧ dV = .none ∧ codeIn K (.ref cda) qual = true ∧
    K.lookup cc = some ⟨cl, cld, .cell (some (.ref C)), csl⟩ ∧ K.lookup cda = some ⟨ccl, cdd, .fields vs, ccs⟩ ∧ vs[2]? = some (.str file tf) ∧ ((prog.main.file : Str) == file) = true ∧ ((q 2).endLine == (q 4).line) = true
  top : (prog.main.scope.names.lookup ("super" : Str)).isSome = false
theorem one_size (v : Value) : [v].length ≤ sizeLine := by
  rw [sizeLine_eq]
  exact (by decide : 1 ≤ 16777216)
theorem ldC {M : Model} {s : Shared} {env : Env} {m : Str → Option Value} {x : Str} {pos : Pos} {v : Value} {Q : Value → Shared → Prop} {A : Around} {E : Value → Shared → Prop} (hn : s.heap.Ns env.locals m) (hv : m x = some v) (h : Q v s)
    (hk : env.scope.kind = .function) (hl : env.kindOf x = some .local) (hd : (x == ("__debug__" : Str)) = false) : wpAny M A (eval (.Name x pos) env) Q E s := wpAny_Name (wpAny_loadName_local hk hl hn hv h) hd
/-- what the maker leaves of a fresh exception at x -/
structure InitEnd (h h' : Heap) (x C dx t1 : Addr) (p : Str) (v : Value) : Prop where
  keep : ∀ b o, b ≠ x → h.get? b = some o → h'.get? b = some o
  obj : h'.get? x = some { cls := .ref C, dict := some dx, data := .fields #[.ref t1, .none, .none, .none, .bool false, .none] }
  dbig : h.objs.size ≤ dx
  dne : dx ≠ x
  ns : h'.Ns1 dx (fun y => if y = p then some v else none)
structure OwnMade (h h' : Heap) (e C d : Addr) (p : Str) (v : Value) : Prop where
  keep : ∀ b o, h.get? b = some o → h'.get? b = some o
  new : h.objs.size ≤ e
  obj : ∃ oe vs, h'.get? e = some oe ∧ oe.cls = .ref C ∧ oe.dict = some d ∧ oe.data = .fields vs ∧ vs[1]? = some .none ∧ vs[2]? = some .none ∧ 4 < vs.size
  dbig : h.objs.size ≤ d
  dne : d ≠ e
  ns : h'.Ns1 d (fun y => if y = p then some v else none)
/-- what a name must be -/
structure Nm (p : Str) : Prop where
  l : (iScope p).names.lookup p = some .local
  d : (p == ("__debug__" : Str)) = false
  s : ¬ (p = "self")
  c : (iScope p).names.lookup ("__class__" : Str) = some .free
  u : (iScope p).names.lookup ("super" : Str) = some .globalImplicit
  b : ∀ (qual : Str) (p1 p2 : Pos) (msg : Str) (j : Nat) (q : Nat → Pos) (kV doc pm : Value) (an : Option Addr) (cdv ct : Value) (cc : Addr) (a v : Value), bindArgs (ksFn "__init__" qual (iArgs p p1 p2) (iBody p msg j q) (iScope p) .none kV doc pm an cdv ct cc) ⟨[a, v], []⟩ = pure [(("self" : Str), a), (p, v)]
theorem nm_line : Nm "line" := ⟨by rfl, by decide, by decide +kernel, by rfl, by rfl, fun _ _ _ _ _ _ _ _ _ _ _ _ _ _ _ => by first | rfl | with_unfolding_all rfl⟩
section
variable {prog : Program} {w : World} {A : Around} {E : Value → Shared → Prop} {R : Result → Shared → Prop} {s : Shared} {K : Frag} {mg mb : Str → Option Value} {x : Str} {C fI : Addr} {p : Str} {B newId initId : String} {bmB : List Value}
theorem sup_init (T : SupTxt prog K mg x C fI p B newId initId bmB) (np : Nm p) (KF : KxsFacts B initId) (FB : ExcBaseFacts B newId initId bmB) {e t0 : Addr} {v : Value} (X : K.In s.heap) (hg : s.heap.Ns mainGlobals mg) (hb : s.heap.Ns builtinsNs mb) (hmb : mb "super" = bootBuiltins "super")
    (hlim : s.heap.NoLimit) (hx : s.heap.get? e = some (excO C t0)) (hnx : K.lookup e = none) (hroom : A.depth < recursionLimit)
    (hq : ∀ h' tk dx t1, InitEnd s.heap h' e C dx t1 p v → R (.ok (.ret .none)) { s with heap := h', toks := tk }) :
    codeAny (model prog w) A (.call (.ref fI) ⟨[.ref e, v], []⟩) R s := by
  obtain ⟨oc, od, qual, dV, kV, doc, pm, an, cda, ct, cc, osl, msg, j, p1, p2, q, cl, cld, csl, ccl, cdd, vs, ccs, file, tf, ho, rfl, hcd, hcell, hcode, hvs, hfile, hline⟩ := T.fn
  obtain ⟨cd, hcl, hbm, hhd⟩ := T.cls
  have hbind : BindsTo s (ksFn "__init__" qual (iArgs p p1 p2) (iBody p msg j q) (iScope p) .none kV doc pm an (.ref cda) ct cc) ⟨[.ref e, v], []⟩ [(("self" : Str), Value.ref e), (p, v)] := BindsTo.of_eq (np.b _ _ _ _ _ _ _ _ _ _ _ _ _ _ _)
  refine ks_codeAny_call_defAt (fd := ksFn "__init__" qual (iArgs p p1 p2) (iBody p msg j q) (iScope p) .none kV doc pm an (.ref cda) ct cc) (body := iBody p msg j q) hroom (X _ _ ho) rfl hlim (codeRec_of X hcd) rfl hbind ?_ ?_ (fun h₁ hns hk₁ => ?_) rfl rfl rfl
  · intro y hy
    have hy : y ∈ [(PySem.Str.ofString "self", NameKind.local), (p, NameKind.local), (PySem.Str.ofString "__class__", NameKind.free), (PySem.Str.ofString "super", NameKind.globalImplicit)] := hy
    simp only [List.mem_cons, List.not_mem_nil, or_false] at hy
    rcases hy with rfl | rfl | rfl | rfl <;> exact fun z => by cases z
  · intro y hy
    simp only [List.mem_cons, List.not_mem_nil, or_false] at hy
    rcases hy with rfl | rfl
    · rfl
    · exact np.l
  · have X₁ : K.In h₁ := X.keeps hk₁
    have hx₁ := hk₁ _ _ hx
    have hL := hns.lt
    have eL : s.heap.objs.size ≠ e := Nat.ne_of_gt (Heap.lt_size hx)
    obtain ⟨hp, g, d, t, os⟩ := s
    have xC : e ≠ C := by
      obtain ⟨nm, N', qn, bs, bm, hdct, sn, sub, ab, col, dd, k0, k1, k2, k3, k5, hC, hT⟩ := excInit_of X T.xi
      rintro rfl
      rw [hC] at hx
      cases hx
    have hself : ([(("self" : Str), Value.ref e), (p, v)]).reverse.lookup ("self" : Str) = some (Value.ref e) := by
      have q1 : (("self" : Str) == p) = false := by simpa using fun z : ("self" : Str) = p => np.s z.symm
      simp [List.lookup, q1]
    have hp' : ([(("self" : Str), Value.ref e), (p, v)]).reverse.lookup p = some v := by
      simp [List.lookup]
    refine ks_wpAt_execs_cons (ks_wpAt_Expr_any (ks_wpAt_MethodCall ?_ (bind_congr fun ov => bind_congr fun _ => mc_eq rfl hline)))
    have nsb : h₁.Ns builtinsNs mb := hb.keeps hk₁
    have nsg : h₁.Ns mainGlobals mg := hg.keeps hk₁
    refine ks_wpAt_super_base (env := ksEnv qual (iScope p) hp.objs.size fI (.ref cda) cc) np.u np.c rfl rfl (X₁ _ _ ho) rfl rfl rfl (X₁ _ _ hcode) rfl hvs hfile T.top ?_
    refine ks_loadName_global rfl np.u (loadGlobal_builtin (env := ksEnv qual (iScope p) hp.objs.size fI (.ref cda) cc) nsg T.gS nsb (hmb.trans (by first | boot_by_name | rfl | kernel_rfl)) ⟨rfl, ?_⟩)
    refine wpAny_loadName_free rfl np.c rfl ⟨_, X₁ _ _ hcell, rfl⟩ ?_
    refine wpAny_loadName_local rfl rfl hns hself ?_
    obtain ⟨oD, hD1, hD2⟩ : ∃ oD, h₁.get? C = some oD ∧ oD.data = .cls cd := by
      unfold clsIn at hcl
      split at hcl
      · rename_i c d cd' sl ho
        cases hcl
        exact ⟨_, X₁ _ _ ho, rfl⟩
      · cases hcl
    refine ks_wpAny_isType_cls hD1 hD2 ⟨rfl, ?_⟩
    refine ks_wpAny_call_super hD1 hD2 hx₁ rfl (fun c z => by cases z) (looks_mroIn X₁ T.me) (fun h2 e2 k2 => ?_)
    have X2 : K.In h2 := X₁.keeps k2
    have hx2 := k2 _ _ hx₁
    have I2 : InstAt h2 e (excO C t0) C none := ⟨hx2, rfl, rfl, trivial⟩
    have hm := T.sup
    unfold ks_superIn at hm
    rw [hcl] at hm
    refine kxs_getMethod KF e2 (looks_opaque X2 T.op) (l₀ := cd.mro) (fun A Q E s k q => wpAny_bind ((looks_clsIn X2 hcl) A _ E s k (wpAny_pure q))) rfl X2 hm (I2.type.andThen (looks_subIn X2 T.hB)) xC rfl ?_
    have k3 : ∀ b o, h2.get? b = some o → (h2.push (kxs_mw initId e)).get? b = some o := fun b o z => Heap.get?_push_of_some _ z
    have hu3 : (h2.push (kxs_mw initId e)).get? h2.objs.size = some (kxs_mw initId e) := Heap.get?_push_at rfl rfl
    have hx3 := k3 _ _ hx2
    have X3 : K.In (h2.push (kxs_mw initId e)) := X2.keeps k3
    refine kxs_callWith (i := initId) (x := e) rfl ?_
    refine evalArgs_plain ?_
    refine Calls.spliced_cons (wpAny_Constant_str (k := j) (pos := q 3) (Calls.spliced_nil ⟨hu3, ?_⟩))
    obtain ⟨nm, N', qn, bs, bm, hdct, sn, sub, ab, col, dd, m0, m1, m2, m3, m5, hC, hT⟩ := excInit_of X3 T.xi
    refine wpAny_call (codeAny_of_tree ?_)
    show wpAny _ _ (callAny (.ref h2.objs.size) ⟨_, []⟩) _ _ _
    simp only [callAny]
    refine wpAny_bind (wpAny_load hu3 ?_)
    simp only [kxs_mw, show (Value.type "method-wrapper" == Value.type "method" || Value.type "method-wrapper" == Value.type "builtin_function_or_method" || Value.type "method-wrapper" == Value.type "method-wrapper") = true by decide, if_true]
    refine KFB.if_so (by decide) ?_
    refine wpAny_bind (check_bound_init FB.toExcCallFacts hC hx3 rfl ?_)
    refine wpAny_bind (wpAny_pure (wpAny_pure ?_))
    refine ⟨plainId_quiet FB.init.plain _, codeAny_builtin FB.initEntry ?_⟩
    refine exc_init_tree (cls := .ref C) (t0 := t0) (dv := none) (c2 := .none) (c3 := .none) (b4 := .bool false) hx3 (one_size _) (fun h4 k4 hx4 _ => ?_)
    -- self.f = f
    have X4 : K.In h4 := fun b o z => k4 b o (fun y => by rw [y, hnx] at z; cases z) (X3 b o z)
    have hns4 : h4.Ns hp.objs.size (fun y => [(("self" : Str), Value.ref e), (p, v)].reverse.lookup y) := by
      obtain ⟨oL, es, ep, hL', r⟩ := hns
      exact ⟨oL, es, ep, k4 _ _ eL (k3 _ _ (k2 _ _ hL')), r⟩
    show PySem.wpAt _ _ _ (execs _ _) _ _ _
    refine ks_wpAt_execs_cons (ks_wpAt_Assign_Attr (wpAt_of_wpAny ?_) (by rfl))
    refine ldC (v := v) hns4 hp' (ldC (v := .ref e) hns4 hself ?_ rfl rfl (by decide)) rfl np.l np.d
    refine set_plain X4 (ox := excO C _) (od := none) ⟨hx4, rfl, rfl, trivial⟩ T.sa ?_
    refine exc_osa X4 hx4 hcl hbm hhd T.noN (fun h₃ tk₃ dx k₃ dn dne hx₃ hn₃ => ?_)
    show PySem.wpAt _ _ _ (execs _ _) _ _ _
    refine wpAt_of_wpAny (wpAny_execs_nil ?_)
    have old : ∀ b o, hp.get? b = some o → (h2.push (kxs_mw initId e)).get? b = some o := fun b o z => k3 b o (k2 b o (hk₁ b o z))
    refine hq h₃ tk₃ dx _ ⟨fun b o hb z => k₃ b o hb (k4 b o hb (old b o z)), hx₃, ?_, dne, hn₃⟩
    have z1 : hp.objs.size < h4.objs.size := hns4.lt
    exact Nat.le_of_lt (Nat.lt_of_lt_of_le z1 dn)
theorem sup_made (T : SupTxt prog K mg x C fI p B newId initId bmB) (np : Nm p) (KF : KxsFacts B initId) (FB : ExcBaseFacts B newId initId bmB) {v : Value} (X : K.In s.heap) (hg : s.heap.Ns mainGlobals mg) (hb : s.heap.Ns builtinsNs mb) (hmb : mb "super" = bootBuiltins "super")
    (hlim : s.heap.NoLimit) (hroom : A.depth + 1 < recursionLimit)
    (hq : ∀ h' tk e d, OwnMade s.heap h' e C d p v → R (.ok (.ret (.ref e))) { s with heap := h', toks := tk }) :
    codeAny (model prog w) A (.call (.ref C) ⟨[v], []⟩) R s := by
  obtain ⟨nm, N', qn, bs, bm, hdct, sn, sub, ab, col, dd, m0, m1, m2, m3, m5, hC, hT⟩ := excInit_of X T.xi
  obtain ⟨hp, g, dr, tk, os⟩ := s
  have k : ∀ b o, hp.get? b = some o → ((hp.push (kdv_tup [v])).push (excO C hp.objs.size)).get? b = some o := fun b o e => Heap.get?_push_of_some _ (Heap.get?_push_of_some _ e)
  have hget : ((hp.push (kdv_tup [v])).push (excO C hp.objs.size)).get? (hp.objs.size + 1) = some (excO C hp.objs.size) := by heap_get
  have hnx : K.lookup (hp.objs.size + 1) = none := by
    cases e : K.lookup (hp.objs.size + 1) with
    | none => rfl
    | some o =>
      have z : hp.get? (hp.objs.size + 1) = some o := X _ _ e
      exact absurd (Nat.lt_of_succ_lt (Heap.lt_size z)) (Nat.lt_irrefl _)
  refine call_own FB hT hC (looks_findIn X T.iC) (fun self => bind_fn X self T.tC) (one_size v) ?_
  refine sup_init (s := ⟨(hp.push (kdv_tup [v])).push (excO C hp.objs.size), g, dr, tk, os⟩) T np KF FB (X.keeps k) (hg.keeps k) (hb.keeps k) hmb (hlim.keeps k) hget hnx ?_ fun h' tk' dx t1 ⟨k', hx, dn, dne, hns⟩ => ?_
  · show A.depth + 1 < recursionLimit
    exact hroom
  · have old : ∀ b o, hp.get? b = some o → h'.get? b = some o := fun b o e => k' b o (Nat.ne_of_lt (Nat.lt_succ_of_lt (Heap.lt_size e))) (k b o e)
    have z : hp.objs.size + 1 + 1 ≤ dx := by
      first
        | (simpa only [Heap.size_push] using dn)
        | exact dn
        | (have q := dn; rw [Heap.size_push, Heap.size_push] at q; exact q)
    exact ⟨rfl, hq h' tk' (hp.objs.size + 1) dx ⟨old, Nat.le_succ _, ⟨_, _, hx, rfl, rfl, rfl, rfl, rfl, by simp⟩, Nat.le_trans (Nat.le_trans (Nat.le_succ _) (Nat.le_succ _)) z, dne, hns⟩⟩
end
end GX
namespace G
open PySem.Spec L2
theorem relO_one {v : V} {v' : Value} {p : Str} (r : RelV v v') (f : Str) : RelO (List.lookup f [(p, v)]) (if f = p then some v' else none) := by
  by_cases hw : f = p
  · subst hw
    rw [if_pos rfl]
    have q : List.lookup f [(f, v)] = some v := by simp [List.lookup]
    rw [q]
    exact r
  · rw [if_neg hw]
    have qw : (f == p) = false := by simpa using hw
    have q2 : List.lookup f [(p, v)] = none := by simp [List.lookup, qw]
    rw [q2]
    trivial
section
variable {X : Cx} {C fI : Addr} {p : Str} {B newId initId : String} {bmB : List Value}
def tMkS (C : Addr) (p : Str) (ta : TA) : L2.St → Hp → XK → Prop := fun σ H Q => ta σ H fun vs H1 => ∃ v, vs = [v] ∧ ∀ d, H1 d = none → Q (.ref C) (some d) (upd H1 d (.xd [(p, v)]))
theorem pmk5_sup {x : Str} {a : Expr} {ta : TA} {p1 pos : Pos} (T : GX.SupTxt X.prog X.K X.mg x C fI p B newId initId bmB) (np : GX.Nm p) (KF : KxsFacts B initId) (FB : ExcBaseFacts B newId initId bmB) (hdp : X.A.depth + 1 < recursionLimit) (ha : PA X [a] ta) (hg : Gl X x := by rfl)
    (hdb : (x == ("__debug__" : Str)) = false := by decide) (he : starEach (a :: []) X.env = (false, eval a X.env) :: starEach [] X.env := by rfl) (hpl : (backTo pos (starEach [] X.env)).any (·.1) = false := by rfl) :
    L2H.PMk5 X (.Call (.Name x p1) [a] [] pos) (tMkS C p ta) := by
  intro pins s σ H Q I h
  refine wpAny_Call_Name_kw (ld_glob I hg T.gC ?_ hdb)
  refine PySem.W.callWith_K (h₀ := X.base) I.ok.mod.kin T.kC (thn (ha.run pos pins s σ H _ I h) fun us s1 hh => ?_) he hpl
  obtain ⟨vs, H1, I1, r1, v, ev, q1⟩ := hh
  subst ev
  refine ⟨I1.kIn, ?_⟩
  cases r1 with
  | cons rv rn =>
    rename_i v' us'
    cases rn
    show wpAny _ _ (call (.ref C) [v']) _ _ _
    have hlim := I1.nolimit
    have nsg : s1.heap.Ns mainGlobals X.mg := I1.ok.mod.glob.keeps I1.bk
    obtain ⟨mb, nb, hmb⟩ := I1.ok.mod.blt
    have nsb : s1.heap.Ns builtinsNs mb := nb.keeps I1.bk
    have hmb' := hmb "super" (by decide)
    have hkin := I1.kIn
    obtain ⟨hp, g, dr, tk, os⟩ := s1
    refine wpAny_call (GX.sup_made T np KF FB hkin nsg nsb hmb' hlim hdp fun h' tk' e d M => ?_)
    obtain ⟨oe, fv, hoe, hc, hd, hdat, h1, h2, h5⟩ := M.obj
    refine ⟨(show L2N.MkP X pins σ Q (.ref e) ⟨h', g, dr, tk', os⟩ from ?_), fun a o us ea eo ed => by
      cases ea
      have eo' : h'.get? e = some o := eo
      rw [hoe] at eo'
      cases eo'
      rw [hdat] at ed
      cases ed
      exact h5⟩
    have hns := M.ns
    obtain ⟨G', g1, g2⟩ := restrict h' fun b => decide (b ≠ e)
    have gk : ∀ b, b ≠ e → G'.get? b = h'.get? b := fun b hb => g1 b (decide_eq_true hb)
    have ge : G'.get? e = none := g2 e (by simp)
    have old : ∀ b o, hp.get? b = some o → G'.get? b = some o := fun b o q => (gk b (Nat.ne_of_lt (Nat.lt_of_lt_of_le (Heap.lt_size q) M.new))).trans (M.keep b o q)
    have ob : ObjOk X.prog X.w (upd H1 d (.xd [(p, v)])) G' d (.xd [(p, v)]) :=
      ⟨_, hns.at (fun o q => (gk d M.dne).trans q), fun f => relO_one rv f⟩
    have J : Inv X pins σ (upd H1 d (.xd [(p, v)])) ⟨G', g, dr, tk', os⟩ := I1.laid (t' := tk') old M.dbig ob
    refine ⟨e, oe, fv, ⟨G', g, dr, tk', os⟩, _, .ref C, some d, rfl, J, fun b o q => ?_, ge, hoe, ⟨hc, hd, fun us eu => by rw [hdat] at eu; injection eu with eu; rw [← eu]; exact h2⟩, hdat, h1, ?_, rfl, I1.bare, raises_own T.exC T.tyC, q1 d (I1.hok.fresh M.dbig)⟩
    · by_cases hb : b = e
      · have q' : G'.get? b = some o := q
        rw [hb, ge] at q'; cases q'
      · exact (gk b hb).symm.trans q
    · rw [upd_ne (Ne.symm M.dne)]
      exact I1.hok.fresh M.new
theorem pmk_sup {x : Str} {a : Expr} {ta : TA} {p1 pos : Pos} {k : Nat} (T : GX.SupTxt X.prog X.K X.mg x C fI p B newId initId bmB) (np : GX.Nm p) (KF : KxsFacts B initId) (FB : ExcBaseFacts B newId initId bmB) (hr : Room k X.A) (ha : PA X [a] ta) (hg : Gl X x := by rfl)
    (hdb : (x == ("__debug__" : Str)) = false := by decide) (he : starEach (a :: []) X.env = (false, eval a X.env) :: starEach [] X.env := by rfl) (hpl : (backTo pos (starEach [] X.env)).any (·.1) = false := by rfl) :
    L2N.PMk X (.Call (.Name x p1) [a] [] pos) (tMkS C p ta) := (pmk5_sup T np KF FB (by have := hr.dp; omega) ha hg hdb he hpl).pmk
end
end G
end

section
set_option maxRecDepth 100000
set_option maxHeartbeats 2000000
open PySem PySem.Spec PyProof.Rows L2
namespace G
/-! raise, try -/
def rX (C : Cn) (E : WX) (f : Env' → Out Xn) : L2.St → Hp → XK → Prop := fun σ H Q => ∃ ρ S F, RepE C H S σ ρ F ∧ Wf C H S F ∧ match f ρ with
  | .ok x ρ' => ∀ c d H' S' F', RepE C H' S' σ ρ' F' → Wf C H' S' F' → Fr C H S F H' S' F' → RepXn C H' S' x c d → Q c d H'
  | .exc x ρ' => ∀ c d H' S' F', RepE C H' S' σ ρ' F' → Wf C H' S' F' → Fr C H S F H' S' F' → RepXn C H' S' x c d → E c d σ H'
  | .bad => False
abbrev DX (C : Cn) (E : WX) (X : Cx) (e : Expr) (f : Env' → Out Xn) : Prop := L2N.PMk X e (rX C E f)
def eOwn (n : Nat) : Env' → Out Xn := fun ρ => .ok ⟨n, []⟩ ρ
def eSup (n : Nat) (f : Fe) : Env' → Out Xn := fun ρ => (f ρ).bind fun o ρ1 => .ok ⟨n, [o.toD]⟩ ρ1
def sRaise (f : Env' → Out Xn) : Fs := fun ρ => match f ρ with
  | .ok x ρ' => .exc x ρ'
  | .exc x ρ' => .exc x ρ'
  | .bad => .bad
def noXs : SO → SO
  | .exc _ _ => .bad
  | o => o
/-- one clause -/
def sTry1 (b : Fs) (m : Nat → Bool) (g : Xn → Fs) : Fs := fun ρ => match b ρ with
  | .exc x ρ' => if m x.cls = true then noXs (g x ρ') else .exc x ρ'
  | o => o
section
variable {C : Cn} {P : Fx} {E : WX} {X : Cx} {σ : L2.St} {H H1 H' : Hp} {S S1 S' F F1 A B : Set'} {ρ : Env'} {e : Expr} {pos : Pos} {f : Fe}
theorem OkX.tr (ok : OkX C X) (pn : List (Addr × Obj)) (xe : Value → Shared → Prop) : OkX C (X.tr pn xe) := ⟨ok.K, ok.calm, ok.un, ok.nd⟩
theorem RepXn.mono {x : Xn} {c : Value} {d : Option Addr} (k : Kp H S H' S') (r : RepXn C H S x c d) : RepXn C H' S' x c d := by
  obtain ⟨r1, r2⟩ := r
  refine ⟨r1, r2.imp id ?_⟩
  rintro ⟨a, vs, e, s, h, rd⟩
  exact ⟨a, vs, e, k.sub a s, k.sh a _ s trivial h, rd.mono k⟩
theorem pmk_weak {t : L2.St → Hp → XK → Prop} (h : L2N.PMk X e t) : L2.PMk X e t := fun pins s σ H Q I q => thn (h pins s σ H Q I q) fun u s' ⟨a, oe, vs, sI, H', cls, d, e1, I, k, n, g, z, r⟩ => ⟨a, oe, vs, sI, H', cls, d, e1, I, k, n, g, z.zc, r⟩
theorem pmk_imp {t t' : L2.St → Hp → XK → Prop} (h : L2N.PMk X e t) (hi : ∀ σ H Q, t' σ H Q → t σ H Q) : L2N.PMk X e t' := fun pins s σ H Q I q => h pins s σ H Q I (hi σ H Q q)
/-- X('m'), a class without a maker of its own -/
theorem dx_own {n : Nat} {Cl : Addr} {bmB : List Value} {Bt newId initId : String} {x m : Str} {j : Nat} {p p2 : Pos} (hn : C.ecl n = .ref Cl) (Fb : ExcBaseFacts Bt newId initId bmB) (q : PySem.W.excIn X.K Cl bmB newId = true) (gC : X.mg x = some (.ref Cl)) (kC : PySem.W.keepIn X.K (.ref Cl) = true) (r : Raises X (.ref Cl)) (hg : Gl X x := by rfl)
    (hdb : (x == ("__debug__" : Str)) = false := by decide) : DX C E X (.Call (.Name x p) [.Constant (.str m) j p2] [] pos) (eOwn n) :=
  pmk_imp (L2N.pmk_own Fb q gC kC r hg hdb) fun σ H Q ⟨ρ, S, F, he, w, q⟩ => q (.ref Cl) none H S F he w .refl ⟨hn.symm, .inl rfl⟩
abbrev DX5 (C : Cn) (E : WX) (X : Cx) (e : Expr) (f : Env' → Out Xn) : Prop := L2H.PMk5 X e (rX C E f)
theorem pmk5_imp {t t' : L2.St → Hp → XK → Prop} (h : L2H.PMk5 X e t) (hi : ∀ σ H Q, t' σ H Q → t σ H Q) : L2H.PMk5 X e t' := fun pins s σ H Q I q => h pins s σ H Q I (hi σ H Q q)
theorem dx5_sup {n : Nat} {Cl fI : Addr} {bmB : List Value} {Bt newId initId : String} {x p : Str} {a : Expr} {p1 : Pos} (hn : C.ecl n = .ref Cl) (hf : C.fld n = [p]) (T : GX.SupTxt X.prog X.K X.mg x Cl fI p Bt newId initId bmB) (np : GX.Nm p) (KF : PySem.W.KxsFacts Bt initId) (FB : ExcBaseFacts Bt newId initId bmB) (hdp : X.A.depth + 1 < recursionLimit)
    (ha : DE C E X a f) (hg : Gl X x := by rfl) (hdb : (x == ("__debug__" : Str)) = false := by decide) (he : starEach (a :: []) X.env = (false, eval a X.env) :: starEach [] X.env := by rfl) (hpl : (backTo pos (starEach [] X.env)).any (·.1) = false := by rfl) :
    DX5 C E X (.Call (.Name x p1) [a] [] pos) (eSup n f) := by
  refine pmk5_imp (pmk5_sup T np KF FB hdp (pa_cons ha pa_nil he) hg hdb he hpl) fun σ H Q ⟨ρ, S, F, he, w, q⟩ => ⟨ρ, S, F, he, w, ?_⟩
  unfold eSup at q
  cases ef : f ρ with
  | bad => rw [ef] at q; exact q
  | exc x ρ' => rw [ef] at q; exact q
  | ok o ρ1 =>
    rw [ef] at q
    simp only [bind_ok] at q
    intro v H1 S1 F1 A he1 r1 w1 d1 fr1
    refine ⟨v, rfl, fun d hd => ?_⟩
    have w2 := w1.share d1
    have he2 : RepE C H1 (Un' S1 A) σ ρ1 F1 := he1.mono kp_sh fun _ _ => rfl
    have rx := r1.share (S' := Un' S1 A) (fun _ z => .inl z) fun _ z => .inr z
    have al := Alc.shr (o := .xd [(p, v)]) w2.so hd
    obtain ⟨z1, z2, _, z4⟩ := alc_step he2 w2 fr1.share al
    refine q (.ref Cl) (some d) _ _ F1 z1 z2.drop z4.drop ⟨hn.symm, .inr ⟨d, [v], rfl, .inr rfl, ?_, v, [], rfl, rx.mono al.kp, rfl⟩⟩
    rw [upd_same]
    show _ = some (HO.xd ((C.fld n).zip [v]))
    rw [hf]; rfl
theorem dx_sup {n k : Nat} {Cl fI : Addr} {bmB : List Value} {Bt newId initId : String} {x p : Str} {a : Expr} {p1 : Pos} (hn : C.ecl n = .ref Cl) (hf : C.fld n = [p]) (T : GX.SupTxt X.prog X.K X.mg x Cl fI p Bt newId initId bmB) (np : GX.Nm p) (KF : PySem.W.KxsFacts Bt initId) (FB : ExcBaseFacts Bt newId initId bmB) (hr : Room k X.A)
    (ha : DE C E X a f) (hg : Gl X x := by rfl) (hdb : (x == ("__debug__" : Str)) = false := by decide) (he : starEach (a :: []) X.env = (false, eval a X.env) :: starEach [] X.env := by rfl) (hpl : (backTo pos (starEach [] X.env)).any (·.1) = false := by rfl) :
    DX C E X (.Call (.Name x p1) [a] [] pos) (eSup n f) := (dx5_sup hn hf T np KF FB (by have := hr.dp; omega) ha hg hdb he hpl).pmk
theorem ds_raise {md : Bool} {f : Env' → Out Xn} (ok : OkX C X) (tk : TakesM md X E) (he : DX C E X e f) : DS C P E X (.Raise (some e) none pos) (sRaise f) := by
  have hp : PS X (.Raise (some e) none pos) (fun _ σ H => rX C E f σ H fun cls d H' => E cls d σ H') := by
    cases md with
    | true => exact L2N.ps_raise ok.calm tk he
    | false => exact L2.ps_raise ok.calm tk (pmk_weak he)
  refine ps_imp hp fun D σ H ⟨ρ, S, F, he, w, p, q⟩ => ⟨ρ, S, F, he, w, ?_⟩
  unfold sRaise at q
  cases ef : f ρ with
  | bad => rw [ef] at q; exact q
  | exc x ρ' => rw [ef] at q; exact fun c d H' S' F' a b fr r => q c d σ H' S' F' a b p fr r
  | ok x ρ' => rw [ef] at q; exact fun c d H' S' F' a b fr r => q c d σ H' S' F' a b p fr r
theorem PSO.noXs {E' : WX} {D : Ends} {o : SO} (q : PSO C P E D H S F (noXs o)) : PSO C P E' D H S F o := by
  cases o <;> first | exact q | exact q.elim
/-- try: body / except Name: suite -/
theorem ds_try1 {x : Str} {c : Value} {body suite : List Stmt} {b₀ : Stmt} {np pos' : Pos} {b : Fs} {m : Nat → Bool} {g : Xn → Fs} (ok : OkX C X) (tk : Takes X E) (hc : Names X x c) (hm : ∀ n, PySem.W.exmOne X.K (C.ecl n) c = some (m n))
    (hb : ∀ (W : WX) (pn : List (Addr × Obj)) (xe : Value → Shared → Prop), Takes (X.tr pn xe) W → PassesOwn (model X.prog X.w) X.A X.env xe → DSs C P W (X.tr pn xe) body b)
    (hsu : ∀ (a : Addr) (oe : Obj) (cls : Value) (d : Option Addr) (pn : List (Addr × Obj)) (x : Xn), Zc cls d oe → (∃ vs, oe.data = .fields vs) → DSs C P Ef (X.suite a ((a, oe) :: pn)) (b₀ :: suite) (g x))
    (hs : X.stack = X.env :: X.outer := by rfl) (hf : X.env.frame = some X.env.locals := by rfl) :
    DS C P E X (.Try body [.ExceptHandler (some (.Name x np)) none (b₀ :: suite) pos'] [] [] pos) (sTry1 b m g) := by
  refine ps_imp (ps_try_only (tb := fun W => rS C P W b) (ts := fun a cls d => fun D σ H => ∃ (x : Xn), rS C P Ef (g x) D σ H) (Wout := E) hs hf hc tk hb (fun a oe cls d pn z1 z2 => ?_)) fun D σ H ⟨ρ, S, F, he, w, p, q⟩ => ⟨ρ, S, F, he, w, p, ?_⟩
  · exact ⟨fun pins s σ H D I ⟨x, q⟩ => (hsu a oe cls d pn x z1 z2).run pins s σ H D I q⟩
  · unfold sTry1 at q
    cases eb : b ρ with
    | exc x ρ' =>
      rw [eb] at q
      intro c' d σ' H' S' F' a' b' pa fr r
      refine ⟨m x.cls, by rw [r.1]; exact hm x.cls, fun hmx a na => ⟨x, ρ', S', F', a', b', pa, ?_⟩, fun hmx => ?_⟩
      · simp only [hmx, if_true] at q
        exact (q.noXs (E' := Ef)).trans fr
      · simp only [hmx, Bool.false_eq_true, if_false] at q
        exact q c' d σ' H' S' F' a' b' pa fr r
    | nx ρ' => rw [eb] at q; exact q
    | ret o ρ' => rw [eb] at q; exact q
    | brk ρ' => rw [eb] at q; exact q
    | cnt ρ' => rw [eb] at q; exact q
    | bad => rw [eb] at q; exact q
end
end G
end

section
set_option maxRecDepth 100000
set_option maxHeartbeats 2000000
open PySem PySem.Spec PyProof.Rows L2
namespace G
/-! methods of texts -/
def rMs (C : Cn) (g : Str → List D → Option O) : V → List V → Hp → VK → Prop := fun x xs H Q => ∃ a, x = .str a ∧ rVn C (g a) xs H Q
def eMs (g : Str → List D → Option O) (f : Fe) (fa : Fa) : Fe := fun ρ => (f ρ).bind fun o ρ1 => match o.toD with
  | .str a => eN (g a) fa ρ1
  | _ => .bad
def strsD : List D → Option (List Str)
  | [] => some []
  | .str a :: l => (strsD l).map (a :: ·)
  | _ => none
def joinG (a : Str) : List D → Option O
  | [.lst l] => (strsD l).bind fun ys => if (ys.map (·.length)).sum + ys.length * a.length ≤ 16777216 then some (sO (Txt.join a ys)) else none
  | [.tup l] => (strsD l).bind fun ys => if (ys.map (·.length)).sum + ys.length * a.length ≤ 16777216 then some (sO (Txt.join a ys)) else none
  | _ => none
def splitG (a : Str) : List D → Option O
  | [.str b] => if (b.length == 0) = false ∧ a.length ≤ big then some (.lst ((Txt.split a b).map sO)) else none
  | _ => none
def upperG (a : Str) : List D → Option O
  | [] => if a.length ≤ big then some (sO (Txt.upper a)) else none
  | _ => none
def lowerG (a : Str) : List D → Option O
  | [] => if a.length ≤ big then some (sO (Txt.lower a)) else none
  | _ => none
def startsG (a : Str) : List D → Option O
  | [.str b] => some (bO (Txt.startswith a b))
  | _ => none
section
variable {C : Cn} {P : Fx} {E : WX} {X : Cx} {σ : L2.St} {H H1 H' : Hp} {S S1 S' F F1 A B : Set'} {ρ : Env'} {pos : Pos} {f : Fe} {e : Expr}
theorem strs_rep : ∀ {l : List D} {ys : List Str} {vs : List V}, strsD l = some ys → RepDs C H S vs l → vs = ys.map V.str
  | [], ys, vs, e, r => by
    simp only [strsD, Option.some.injEq] at e
    subst e
    exact r
  | d :: l, ys, vs, e, r => by
    obtain ⟨v, t, rfl, r1, r2⟩ := r
    cases d with
    | str a =>
      simp only [strsD] at e
      obtain ⟨zs, ez, rfl⟩ := Option.map_eq_some_iff.mp e
      rw [List.map_cons, ← strs_rep ez r2, show v = V.str a from r1]
    | _ => cases e
theorem ms_of {g : Str → List D → Option O} {fa : Fa} {Q : VK} (q : rE C E (eMs g f fa) σ H Q) : rE C E f σ H (fun x H1 => tyV X.K "str" x H1 ∧ rA C E fa σ H1 fun xs H2 => rMs C g x xs H2 Q) := by
  obtain ⟨ρ, S, F, he, w, q⟩ := q
  refine ⟨ρ, S, F, he, w, ?_⟩
  unfold eMs at q
  cases ef : f ρ with
  | bad => rw [ef] at q; exact q
  | exc x ρ' => rw [ef] at q; exact q
  | ok o ρ1 =>
    rw [ef] at q
    simp only [bind_ok] at q
    intro v H1 S1 F1 A he1 r1 w1 d1 fr1
    cases eo : o.toD with
    | str a =>
      simp only [eo] at q
      have rv := r1.share (S' := Un' S1 A) (fun _ z => .inl z) fun _ z => .inr z
      rw [eo] at rv
      have ev : v = .str a := rv
      subst ev
      refine ⟨rfl, ?_⟩
      have q2 : rE C E (eN (g a) fa) σ H1 Q := by
        refine ⟨ρ1, S1, F1, he1, w1.drop, ?_⟩
        cases eq : eN (g a) fa ρ1 with
        | bad => rw [eq] at q; exact q
        | exc x ρ' => rw [eq] at q; exact fun c d H' S' F' a' b fr r => q c d H' S' F' a' b (fr1.drop.trans fr) r
        | ok o' ρ' => rw [eq] at q; exact fun v H' S' F' A' a' b c d fr => q v H' S' F' A' a' b c d (fr1.drop.trans fr)
      obtain ⟨ρ', S', F', he', w', q3⟩ := rn_of q2
      refine ⟨ρ', S', F', he', w', ?_⟩
      cases efa : fa ρ' with
      | bad => rw [efa] at q3; exact q3
      | exc x ρ'' => rw [efa] at q3; exact q3
      | ok os ρ'' => rw [efa] at q3; exact fun vs H' S' F' A' a' b c d fr => ⟨a, rfl, q3 vs H' S' F' A' a' b c d fr⟩
    | _ => simp only [eo] at q
theorem de_ms {id : String} {m : Str} {o : Expr} {es : List Expr} {apos : Pos} {g : Str → List D → Option O} {fa : Fa} (slot : Slot "str" m id) (hty : typeOf (.builtin id) = pure (.type "method_descriptor")) (hm : MtR X id (rMs C g)) (ho : DE C E X o f) (ha : DA C E X (e :: es) fa)
    (hbase : attributeBase o m X.env (eval o X.env) = eval o X.env := by rfl)
    (hfew : ((backTo pos (starEach (e :: es) X.env)).all (fun x => !x.1) && (backToKw pos (keywordEach [] X.env)).all (fun x => x.1.isSome)
      && decide ((e :: es).length + ([] : List Keyword).length + (if ([] : List Keyword).isEmpty then 0 else 1) < 30)) = true := by rfl)
    (hline : (apos.endLine == pos.line) = true := by rfl) (hs : starEach (e :: es) X.env = (false, eval e X.env) :: starEach es X.env := by rfl) (hplain : (backTo pos (starEach es X.env)).any (·.1) = false := by rfl) :
    DE C E X (.Call (.Attribute o m apos) (e :: es) [] pos) (eMs g f fa) :=
  pe_imp (pe_bm PySem.F.plainAttrs_str slot hty hm ho ha hbase hfew hline hs hplain) fun _ _ _ q => ms_of q
theorem de_ms0 {id : String} {m : Str} {o : Expr} {apos : Pos} {g : Str → List D → Option O} (slot : Slot "str" m id) (hty : typeOf (.builtin id) = pure (.type "method_descriptor")) (hm : MtR X id (rMs C g)) (ho : DE C E X o f)
    (hbase : attributeBase o m X.env (eval o X.env) = eval o X.env := by rfl) (hline : (apos.endLine == pos.line) = true := by rfl) :
    DE C E X (.Call (.Attribute o m apos) [] [] pos) (eMs g f eNil) :=
  pe_imp (pe_bm0 PySem.F.plainAttrs_str slot hty hm ho hbase hline) fun σ H Q q => by
    obtain ⟨ρ, S, F, he, w, q⟩ := ms_of (X := X) q
    refine ⟨ρ, S, F, he, w, ?_⟩
    cases ef : f ρ with
    | bad => rw [ef] at q; exact q
    | exc x ρ' => rw [ef] at q; exact q
    | ok o ρ1 =>
      rw [ef] at q
      intro v H' S' F' A a b c d fr
      obtain ⟨z1, ρ2, S2, F2, he2, w2, z2⟩ := q v H' S' F' A a b c d fr
      exact ⟨z1, z2 [] H' S2 F2 No he2 ⟨rfl, emp_no⟩ (wf_no w2) dj_no (fr_no .refl)⟩
theorem og_join (ok : OkX C X) : MtR X "str.join" (rMs C joinG) := by
  intro pins s σ H x xs v us Q I rx rs ⟨a, ex, S, ds, so, rd, o, eo, q⟩
  unfold joinG at eo
  split at eo
  · obtain ⟨ys, ey, eo⟩ := Option.bind_eq_some_iff.mp eo
    split at eo
    · next h =>
      obtain ⟨x1, rfl, p, vs, rfl, h1, hr⟩ := reps1 rd
      have := strs_rep ey hr
      subst this
      exact mt_join pins s σ H x _ v us Q I rx rs ⟨a, p, ys, ex, rfl, .inl (lst_sq ok.K h1), h, q_sc so q (Option.some.inj eo).symm rfl⟩
    · cases eo
  · obtain ⟨ys, ey, eo⟩ := Option.bind_eq_some_iff.mp eo
    split at eo
    · next h =>
      obtain ⟨x1, rfl, p, vs, rfl, h1, hr⟩ := reps1 rd
      have := strs_rep ey hr
      subst this
      exact mt_join pins s σ H x _ v us Q I rx rs ⟨a, p, ys, ex, rfl, .inr (tup_sq ok.K h1), h, q_sc so q (Option.some.inj eo).symm rfl⟩
    · cases eo
  · cases eo
theorem reps_strs : ∀ {ys : List Str}, RepOs C H S (ys.map V.str) (ys.map sO) No
  | [] => ⟨rfl, emp_no⟩
  | y :: ys => ⟨_, _, No, No, rfl, ⟨emp_no, rfl⟩, reps_strs, ⟨fun a => ⟨fun z => z.elim, fun z => z.elim id id⟩, fun a z => z.elim⟩⟩
theorem line2 {n : Nat} (h : n ≤ big) : n + 2 ≤ sizeLine := by
  have : big = 1000000 := rfl
  rw [sizeLine_eq]; omega
theorem og_split (ok : OkX C X) : MtR X "str.split" (rMs C splitG) := by
  intro pins s σ H x xs v us Q I rx rs ⟨a, ex, S, ds, so, rd, o, eo, q⟩
  unfold splitG at eo
  split at eo
  · split at eo
    · next b h =>
      obtain ⟨x1, rfl, r1⟩ := reps1 rd
      have e1 : x1 = .str _ := r1
      subst e1
      have eo := Option.some.inj eo
      subst eo
      refine mt_split pins s σ H x _ v us Q I rx rs ⟨a, _, ex, rfl, h.1, line2 h.2, fun p hp => ?_⟩
      exact q (.ref p) _ S _ (Alc.own so hp trivial) ⟨p, _, No, rfl, upd_same, reps_strs, fun b => ⟨.inl, fun z => z.elim id False.elim⟩, fun b _ z => z⟩
    · cases eo
  · cases eo
theorem big_up {n : Nat} (h : n ≤ big) : n ≤ 5592405 := by
  have : big = 1000000 := rfl
  omega
theorem og_upper (ok : OkX C X) : MtR X "str.upper" (rMs C upperG) := by
  intro pins s σ H x xs v us Q I rx rs ⟨a, ex, S, ds, so, rd, o, eo, q⟩
  unfold upperG at eo
  split at eo
  · split at eo
    · next h =>
      have e1 : xs = [] := rd
      subst e1
      exact mt_upper pins s σ H x _ v us Q I rx rs ⟨a, ex, rfl, big_up h, q_sc so q (Option.some.inj eo).symm rfl⟩
    · cases eo
  · cases eo
theorem og_lower (ok : OkX C X) : MtR X "str.lower" (rMs C lowerG) := by
  intro pins s σ H x xs v us Q I rx rs ⟨a, ex, S, ds, so, rd, o, eo, q⟩
  unfold lowerG at eo
  split at eo
  · split at eo
    · next h =>
      have e1 : xs = [] := rd
      subst e1
      exact mt_lower pins s σ H x _ v us Q I rx rs ⟨a, ex, rfl, big_up h, q_sc so q (Option.some.inj eo).symm rfl⟩
    · cases eo
  · cases eo
theorem og_starts (ok : OkX C X) : MtR X "str.startswith" (rMs C startsG) := by
  intro pins s σ H x xs v us Q I rx rs ⟨a, ex, S, ds, so, rd, o, eo, q⟩
  unfold startsG at eo
  split at eo
  · obtain ⟨x1, rfl, r1⟩ := reps1 rd
    have e1 : x1 = .str _ := r1
    subst e1
    exact mt_startswith pins s σ H x _ v us Q I rx rs ⟨a, _, ex, rfl, q_sc so q (Option.some.inj eo).symm rfl⟩
  · cases eo
end
/-! a, b = x, y -/
def sPar (i j : Nat) (fa : Fa) : Fs := fun ρ => (fa ρ).then' fun os ρ1 => match os with
  | [o1, o2] => if i < ρ1.length ∧ j < ρ1.length then .nx ((ρ1.set i (some o1)).set j (some o2)) else .bad
  | _ => .bad
/-! while -/
def whF (c : Env' → Out Bool) (b : Fs) : Nat → Env' → SO
  | 0, _ => .bad
  | n + 1, ρ => match c ρ with
    | .ok true ρ1 => match b ρ1 with
      | .nx ρ2 => whF c b n ρ2
      | .cnt ρ2 => whF c b n ρ2
      | .brk ρ2 => .nx ρ2
      | o => o
    | .ok false ρ1 => .nx ρ1
    | .exc x ρ1 => .exc x ρ1
    | .bad => .bad
def fuel : Nat := 1000000
def sWhile (c : Env' → Out Bool) (b : Fs) : Fs := whF c b fuel
/-! x.pop(), x.pop(k) -/
def ePop (i : Nat) : Fe := fun ρ => match lstAt i ρ with
  | some os => match os[os.length - 1]? with
    | some o => .ok o (ρ.set i (some (.lst os.dropLast)))
    | none => .bad
  | none => .bad
def ePopA (i : Nat) (f : Fe) : Fe := fun ρ => match lstAt i ρ with
  | some _ => (f ρ).bind fun k ρ1 => match lstAt i ρ1 with
    | some os => match intD k.toD with
      | some n => match seqIndex? n os.length with
        | some j => if sm n = true then match os[j]? with
          | some o => .ok o (ρ1.set i (some (.lst (os.eraseIdx j))))
          | none => .bad
          else .bad
        | none => .bad
      | none => .bad
    | none => .bad
  | none => .bad
section
variable {C : Cn} {P : Fx} {E : WX} {X : Cx} {σ : L2.St} {H H1 H' : Hp} {S S1 S' F F1 A B : Set'} {ρ : Env'} {pos : Pos} {f : Fe} {e : Expr}
theorem rA_then {fa : Fa} {k : List O → Env' → SO} {D : Ends} {Q : List V → Hp → Prop} (he : RepE C H S σ ρ F) (w : Wf C H S F) (p : P.at σ) (q : PSO C P E D H S F ((fa ρ).then' k))
    (h : ∀ os ρ1, fa ρ = .ok os ρ1 → ∀ vs H' S' F' A, RepE C H' S' σ ρ1 F' → RepOs C H' S' vs os A → Wf C H' S' (Un' A F') → Dj A F' → Fr C H S F H' S' (Un' A F') → PSO C P E D H S F (k os ρ1) → Q vs H') : rA C E fa σ H Q := by
  refine ⟨ρ, S, F, he, w, ?_⟩
  cases ef : fa ρ with
  | bad => rw [ef] at q; exact q
  | exc x ρ1 => rw [ef] at q; exact fun c d H' S' F' a b fr r => q c d σ H' S' F' a b p fr r
  | ok os ρ1 => rw [ef] at q; exact fun vs H' S' F' A a b c d fr => h os ρ1 ef vs H' S' F' A a b c d fr q
theorem ds_par {i j : Nat} {x y : Str} {a b : Expr} {fa : Fa} {px py pt : Pos} {kt k2 pt2} (ok : OkX C X) (hi : X.N[i]? = some x) (hj : X.N[j]? = some y) (hx : X.env.scope.names.lookup x = some .local) (hy : X.env.scope.names.lookup y = some .local)
    (hij : i ≠ j) (hpi : i ∉ P.pi) (hpj : j ∉ P.pi) (ha : DA C E X [a, b] fa)
    (hw : swappedStores [.Tuple [.Name x px, .Name y py] kt pt] (.Tuple [a, b] k2 pt2) X.env = pure (some [x, y]))
    (hs : swapsWithSole [.Tuple [.Name x px, .Name y py] kt pt] (.Tuple [a, b] k2 pt2) pos.line X.env = pure false := by rfl) :
    DS C P E X (.Assign [.Tuple [.Name x px, .Name y py] kt pt] (.Tuple [a, b] k2 pt2) pos) (sPar i j fa) := by
  refine ps_imp (ps_par ok.calm ok.nd hi hj hij hx hy ha hw hs) fun D σ H ⟨ρ, S, F, he, w, p, q⟩ => rA_then he w p q fun os ρ1 ef vs H' S' F' A a b c d fr q => ?_
  cases os with
  | nil => exact q.elim
  | cons o1 os =>
    cases os with
    | nil => exact q.elim
    | cons o2 os =>
      cases os with
      | cons _ _ => exact q.elim
      | nil =>
        obtain ⟨v, t, A1, A2, rfl, r1, ⟨w', t', B1, B2, rfl, r2, ⟨rfl, e3⟩, s2⟩, s1⟩ := b
        refine ⟨v, w', rfl, ?_⟩
        by_cases hl : i < ρ1.length ∧ j < ρ1.length
        · simp only [hl, and_self, if_true] at q
          have d1 : Dj A1 F' := fun a x y => d a (s1.l x) y
          have d2 : Dj B1 F' := fun a x y => d a (s1.r (s2.l x)) y
          have d12 : Dj A1 B1 := fun a x y => s1.2 a x (s2.l y)
          have w1 : Wf C H' S' (Un' A1 F') := ⟨fun a z => c.mu a (z.imp (fun z => s1.l z) id), fun a z => c.ns a (z.imp (fun z => s1.l z) id), c.so, c.tb⟩
          obtain ⟨F2, g1, g2, g3⟩ := slot_set (o := o1) a r1 w1 d1 hl.1
          have w2 : Wf C H' S' (Un' B1 F2) := ⟨fun a z => z.elim (fun z => c.mu a (.inl (s1.r (s2.l z)))) fun z => g2.mu a z, fun a z => z.elim (fun z => c.ns a (.inl (s1.r (s2.l z)))) fun z => g2.ns a z, c.so, c.tb⟩
          obtain ⟨F3, k1, k2, k3⟩ := slot_set (o := o2) g1 r2 w2 (fun a x y => (g3 a y).elim (fun y => d12 a y x) fun y => d2 a x y) (show j < (ρ1.set i (some o1)).length by rw [List.length_set]; exact hl.2)
          refine q _ H' S' F3 k1 k2 (Fx.set (Fx.set p hpi) hpj) (fr.less fun a z => ?_)
          rcases k3 a z with z | z
          · exact .inl (s1.r (s2.l z))
          · exact (g3 a z).elim (fun z => .inl (s1.l z)) .inr
        · simp only [if_neg hl] at q
          exact q.elim
theorem ds_while {c : Expr} {body : List Stmt} {tc : Env' → Out Bool} {b : Fs} (hp : PassesOwn (model X.prog X.w) X.A X.env X.xe) (hc : DT C E X c tc) (hb : DSs C P E X body b) : DS C P E X (.While c body [] pos) (sWhile tc b) := by
  refine ps_imp (ps_while hp hc hb) fun D σ H ⟨ρ, S, F, he, w, p, q⟩ => ?_
  unfold sWhile at q
  refine ⟨fun m σ2 H2 => ∃ ρ2 S2 F2, RepE C H2 S2 σ2 ρ2 F2 ∧ Wf C H2 S2 F2 ∧ P.at σ2 ∧ Fr C H S F H2 S2 F2 ∧ PSO C P E D H S F (whF tc b m ρ2), ⟨fuel, ρ, S, F, he, w, p, .refl, q⟩, ?_⟩
  rintro m σ2 H2 ⟨ρ2, S2, F2, he2, w2, p2, fr2, q2⟩
  refine ⟨ρ2, S2, F2, he2, w2, ?_⟩
  cases m with
  | zero => exact q2.elim
  | succ m =>
    unfold whF at q2
    cases ec : tc ρ2 with
    | bad => rw [ec] at q2; exact q2.elim
    | exc x ρ3 => rw [ec] at q2; exact fun c d H' S' F' a b fr r => q2 c d σ2 H' S' F' a b p2 (fr2.trans fr) r
    | ok bb ρ3 =>
      rw [ec] at q2
      intro H3 S3 F3 he3 w3 fr3
      have fr4 := fr2.trans fr3
      cases bb with
      | false => exact q2 σ2 H3 S3 F3 he3 w3 p2 fr4
      | true =>
        simp only [if_true] at q2 ⊢
        refine ⟨fun σ' H' => ∃ ρ2 S2 F2, RepE C H' S2 σ' ρ2 F2 ∧ Wf C H' S2 F2 ∧ P.at σ' ∧ Fr C H S F H' S2 F2 ∧ PSO C P E D H S F (whF tc b m ρ2), fun σ' H' z => ⟨m, Nat.lt_succ_self m, z⟩, ρ3, S3, F3, he3, w3, p2, ?_⟩
        cases eb : b ρ3 with
        | nx ρ4 => simp only [eb] at q2; exact fun σ' H' S' F' a b' c d => ⟨ρ4, S', F', a, b', c, fr4.trans d, q2⟩
        | cnt ρ4 => simp only [eb] at q2; exact fun σ' H' S' F' a b' c d => ⟨ρ4, S', F', a, b', c, fr4.trans d, q2⟩
        | brk ρ4 => simp only [eb] at q2; exact fun σ' H' S' F' a b' c d => q2 σ' H' S' F' a b' c (fr4.trans d)
        | ret o ρ4 => simp only [eb] at q2; exact fun v σ' H' S' F' A a b' c d e f => q2 v σ' H' S' F' A a b' c d e (fr4.trans f)
        | exc x ρ4 => simp only [eb] at q2; exact fun c d σ' H' S' F' a b' e f g => q2 c d σ' H' S' F' a b' e (fr4.trans f) g
        | bad => simp only [eb] at q2; exact q2.elim
theorem RepOs.takeAt : ∀ {vs : List V} {os : List O} {j : Nat} {o : O} {A : Set'}, RepOs C H S vs os A → os[j]? = some o → ∃ v A1 A2, vs[j]? = some v ∧ RepO C H S v o A1 ∧ RepOs C H S (vs.eraseIdx j) (os.eraseIdx j) A2 ∧ Sum' A A1 A2
  | vs, [], j, o, A, r, e => by simp at e
  | vs, o' :: os, 0, o, A, r, e => by
    obtain ⟨v, t, P, R, rfl, r1, r2, s⟩ := r
    simp at e; subst e
    exact ⟨v, P, R, rfl, r1, r2, s⟩
  | vs, o' :: os, j + 1, o, A, r, e => by
    obtain ⟨v, t, P, R, rfl, r1, r2, s⟩ := r
    obtain ⟨u, A1, A2, e1, h1, h2, s2⟩ := RepOs.takeAt r2 (j := j) (o := o) (by simpa using e)
    refine ⟨u, A1, Un' P A2, by simpa using e1, h1, ⟨v, t.eraseIdx j, P, A2, rfl, r1, h2, ⟨fun a => Iff.rfl, fun a x y => s.2 a x (s2.r y)⟩⟩, fun a => ?_, fun a x y => y.elim (fun y => s.2 a y (s2.l x)) fun y => s2.2 a x y⟩
    rw [s.1 a, s2.1 a]
    constructor
    · rintro (z | z | z)
      · exact .inr (.inl z)
      · exact .inl z
      · exact .inr (.inr z)
    · rintro (z | z | z)
      · exact .inr (.inl z)
      · exact .inl z
      · exact .inr (.inr z)
theorem dropLast_eq {α : Type} (l : List α) : l.dropLast = l.eraseIdx (l.length - 1) := by
  rw [List.dropLast_eq_take, List.eraseIdx_eq_take_drop_succ]
  cases l with
  | nil => rfl
  | cons a l => simp
/-- an item leaves the owned list at slot i -/
theorem pop_end {i j : Nat} {os : List O} {o : O} {Q : VK} {ρ1 : Env'} (he : RepE C H1 S1 σ ρ1 F1) (w : Wf C H1 S1 F1) (fr : Fr C H S F H1 S1 F1) (el : lstAt i ρ1 = some os) (eo : os[j]? = some o)
    (q : ∀ v H' S' F' A, RepE C H' S' σ (ρ1.set i (some (.lst (os.eraseIdx j)))) F' → RepO C H' S' v o A → Wf C H' S' (Un' A F') → Dj A F' → Fr C H S F H' S' (Un' A F') → Q v H') :
    ∃ a vs v, σ[i]? = some (some (.ref a)) ∧ H1 a = some (.lst vs) ∧ vs.length = os.length ∧ vs[j]? = some v ∧ Q v (upd H1 a (.lst (vs.eraseIdx j))) := by
  obtain ⟨v0, A, B, ev, r, s, h2, hl⟩ := own_at he (lstAt_eq el)
  obtain ⟨a, vs, G, rfl, h0, r0, sG⟩ := r
  obtain ⟨v, Y, G2, evs, ry, r2, sY⟩ := r0.takeAt eo
  refine ⟨a, vs, v, ev, h0, r0.len, evs, ?_⟩
  have nG : ¬ G a := fun z => sG.2 a rfl z
  have nB : ¬ B a := fun z => s.2 a (sG.l rfl) z
  have memF : ∀ b, Un' (fun b => b = a) (Un' G2 B) b → F1 b := fun b z => by
    rcases z with z | z | z
    · exact s.l (sG.l z)
    · exact s.l (sG.r (sY.r z))
    · exact s.r z
  have dYB : Dj Y B := fun b x y => s.2 b (sG.r (sY.l x)) y
  have dYG : Dj Y G2 := fun b x y => sY.2 b x y
  have nY : ¬ Y a := fun z => nG (sY.l z)
  obtain ⟨k1, k2, k3⟩ := own_write (u := .lst (vs.eraseIdx j)) (o := .lst (os.eraseIdx j)) (G := G2) h2 hl ev trivial ⟨fun b z => w.mu b (memF b z), fun b z => w.ns b (memF b z), w.so, w.tb⟩ (fun z => nG (sY.r z)) nB (fun b x y => s.2 b (sG.r (sY.r x)) y) (fr.less memF) fun k kk =>
    ⟨a, vs.eraseIdx j, G2, rfl, upd_same, r2.mono k kk, fun b => Iff.rfl, fun b e z => nG (sY.r (e ▸ z))⟩
  have kp : Kp H1 S1 (upd H1 a (.lst (vs.eraseIdx j))) S1 := kp_upd (w.mu a (s.l (sG.l rfl))) (w.ns a (s.l (sG.l rfl)))
  have kY : ∀ b, Y b → upd H1 a (.lst (vs.eraseIdx j)) b = H1 b := fun b z => upd_ne fun e => nY (e ▸ z)
  have FY : ∀ b, Y b → F1 b := fun b z => s.l (sG.r (sY.l z))
  refine q v _ S1 _ Y k1 (ry.mono kp kY) ⟨fun b z => ?_, fun b z => ?_, k2.so, k2.tb⟩ (fun b x y => ?_) ⟨k3.keep, k3.sub, k3.new, fun b z => ?_, k3.tk⟩
  · rcases z with z | z
    · rw [kY b z]; exact w.mu b (FY b z)
    · exact k2.mu b z
  · rcases z with z | z
    · exact w.ns b (FY b z)
    · exact k2.ns b z
  · rcases y with (y | y) | y
    · exact nY (y ▸ x)
    · exact dYG b x y
    · exact dYB b x y
  · rcases z with z | z
    · exact fr.fnew b (FY b z)
    · exact k3.fnew b z
theorem de_pop {i : Nat} {x : Str} {p1 apos : Pos} (hN : X.N[i]? = some x) (hv : Vis X.env.scope x) (hd : (x == ("__debug__" : Str)) = false := by decide) (hcd : (x == ("__classdict__" : Str)) = false := by decide)
    (hbase : attributeBase (.Name x p1) "pop" X.env (eval (.Name x p1) X.env) = eval (.Name x p1) X.env := by rfl) (hline : (apos.endLine == pos.line) = true := by rfl) :
    DE C E X (.Call (.Attribute (.Name x p1) "pop" apos) [] [] pos) (ePop i) := by
  refine pe_imp (pe_bm0 PySem.F.plainAttrs_list PySem.F.slot_list_pop PySem.F.type_list_pop mt_pop (pe_var hN hv hd hcd) hbase hline) fun σ H Q ⟨ρ, S, F, he, w, q⟩ => ?_
  unfold ePop at q
  cases e1 : lstAt i ρ with
  | none => rw [e1] at q; exact q.elim
  | some os =>
    rw [e1] at q
    cases e2 : os[os.length - 1]? with
    | none => simp only [e2] at q
    | some o =>
      simp only [e2] at q
      rw [dropLast_eq] at q
      obtain ⟨a, vs, v, ev, h0, hl, hv, q2⟩ := pop_end he w .refl e1 e2 q
      exact ⟨.ref a, ev, .inl ⟨rfl, vs, SqL.of h0⟩, a, vs, v, rfl, rfl, h0, by rw [hl]; exact hv, by rw [dropLast_eq, hl]; exact q2⟩
theorem de_popA {i : Nat} {x : Str} {p1 apos : Pos} (hN : X.N[i]? = some x) (hv : Vis X.env.scope x) (he : DE C E X e f) (hd : (x == ("__debug__" : Str)) = false := by decide) (hcd : (x == ("__classdict__" : Str)) = false := by decide)
    (hbase : attributeBase (.Name x p1) "pop" X.env (eval (.Name x p1) X.env) = eval (.Name x p1) X.env := by rfl)
    (hfew : ((backTo pos (starEach [e] X.env)).all (fun x => !x.1) && (backToKw pos (keywordEach [] X.env)).all (fun x => x.1.isSome)
      && decide ([e].length + ([] : List Keyword).length + (if ([] : List Keyword).isEmpty then 0 else 1) < 30)) = true := by rfl)
    (hline : (apos.endLine == pos.line) = true := by rfl) (hs : starEach [e] X.env = (false, eval e X.env) :: starEach [] X.env := by rfl) (hplain : (backTo pos (starEach [] X.env)).any (·.1) = false := by rfl) :
    DE C E X (.Call (.Attribute (.Name x p1) "pop" apos) [e] [] pos) (ePopA i f) := by
  refine pe_imp (pe_bm PySem.F.plainAttrs_list PySem.F.slot_list_pop PySem.F.type_list_pop mt_popAt (pe_var hN hv hd hcd) (pa_cons he pa_nil hs) hbase hfew hline hs hplain) fun σ H Q ⟨ρ, S, F, he, w, q⟩ => ?_
  unfold ePopA at q
  cases e0 : lstAt i ρ with
  | none => rw [e0] at q; exact q.elim
  | some os0 =>
    rw [e0] at q
    obtain ⟨v0, A0, B0, ev, r0, _, _, _⟩ := own_at he (lstAt_eq e0)
    obtain ⟨a, vs0, A1, rfl, h0, _, _⟩ := r0
    refine ⟨.ref a, ev, .inl ⟨rfl, vs0, SqL.of h0⟩, ρ, S, F, he, w, ?_⟩
    cases ef : f ρ with
    | bad => rw [ef] at q; exact q
    | exc x ρ' => rw [ef] at q; exact q
    | ok ko ρ1 =>
      rw [ef] at q
      simp only [bind_ok] at q
      intro kv H1 S1 F1 Z he1 rk w1 d1 fr1
      have rkd := rk.share (S' := Un' S1 Z) (fun _ => .inl) fun _ => .inr
      cases e1 : lstAt i ρ1 with
      | none => rw [e1] at q; exact q.elim
      | some os =>
        rw [e1] at q
        cases en : intD ko.toD with
        | none => simp only [en] at q
        | some n =>
          simp only [en] at q
          cases ej : seqIndex? n os.length with
          | none => simp only [ej] at q
          | some j =>
            simp only [ej] at q
            by_cases hb : sm n = true
            · simp only [hb, if_true] at q
              cases eo : os[j]? with
              | none => simp only [eo] at q
              | some o =>
                simp only [eo] at q
                rw [intD_eq en] at rkd
                obtain ⟨a', vs, v, ev', h1, hl, hv, q2⟩ := pop_end he1 w1.drop fr1.drop e1 eo q
                rw [ev] at ev'
                cases ev'
                have hb' := sm_iff hb
                exact ⟨a, vs, n, j, v, rfl, by rw [show kv = .int n from rkd], h1, by omega, by omega, by rw [hl]; exact ej, hv, q2⟩
            · simp only [hb] at q
              exact q.elim
end
end G
end

section
set_option maxRecDepth 100000
set_option maxHeartbeats 2000000
open PySem PySem.Spec PyProof.Rows L2
namespace G
/-! dicts: storing -/
def putKr {κ : Type} [DecidableEq κ] : List (κ × V) → κ → V → List (κ × V)
  | [], k, v => [(k, v)]
  | (i, x) :: r, k, v => if i = k then (k, v) :: r else (i, x) :: putKr r k v
theorem map_no {κ : Type} [DecidableEq κ] {k : κ} {v : V} : ∀ {r : List (κ × V)}, k ∉ r.map (·.1) → r.map (fun kv => if kv.1 = k then (kv.1, v) else kv) = r
  | [], _ => rfl
  | (i, x) :: r, h => by
    have h1 : ¬ i = k := fun e => h (by simp [e])
    have h2 : k ∉ r.map (·.1) := fun e => h (List.mem_cons_of_mem _ e)
    rw [List.map_cons, map_no h2, if_neg h1]
theorem any_no {κ : Type} [DecidableEq κ] {k : κ} : ∀ {r : List (κ × V)}, k ∉ r.map (·.1) → (r.any fun kv => decide (kv.1 = k)) = false
  | [], _ => rfl
  | (i, x) :: r, h => by
    have h1 : ¬ i = k := fun e => h (by simp [e])
    have h2 : k ∉ r.map (·.1) := fun e => h (List.mem_cons_of_mem _ e)
    rw [List.any_cons, any_no h2]
    simp [h1]
theorem putK_eq {κ : Type} [DecidableEq κ] {k : κ} {v : V} : ∀ {r : List (κ × V)}, (r.map (·.1)).Nodup → putK r k v = putKr r k v
  | [], _ => rfl
  | (i, x) :: r, h => by
    have h' := List.nodup_cons.mp (show ((i : κ) :: r.map (·.1)).Nodup from h)
    have ih := putK_eq (k := k) (v := v) h'.2
    unfold putK at ih ⊢
    show _ = if i = k then (k, v) :: r else (i, x) :: putKr r k v
    by_cases e : i = k
    · subst e
      simp only [List.any_cons, decide_true, Bool.true_or, if_true, List.map_cons]
      rw [map_no h'.1]
    · simp only [List.any_cons, e, decide_false, Bool.false_or, if_false, List.map_cons]
      rw [← ih]
      by_cases ha : (r.any fun kv => decide (kv.1 = k)) = true
      · rw [if_pos ha, if_pos ha]
      · rw [if_neg ha, if_neg ha]; rfl
def putO : List (Kd × O) → Kd → O → List (Kd × O)
  | [], k, o => [(k, o)]
  | (j, p) :: r, k, o => if j = k then (k, o) :: r else (j, p) :: putO r k o
theorem putO_mem {k x : Kd} {o : O} : ∀ {l : List (Kd × O)}, x ∈ (putO l k o).map (·.1) → x = k ∨ x ∈ l.map (·.1)
  | [], h => by
    have : x = k := by simpa [putO] using h
    exact .inl this
  | (j, p) :: l, h => by
    unfold putO at h
    split at h
    · next e =>
      rcases List.mem_cons.mp (show x ∈ k :: l.map (·.1) from h) with h | h
      · exact .inl h
      · exact .inr (List.mem_cons_of_mem _ h)
    · rcases List.mem_cons.mp (show x ∈ j :: (putO l k o).map (·.1) from h) with h | h
      · exact .inr (by rw [h]; exact List.mem_cons_self)
      · exact (putO_mem h).imp id fun z => List.mem_cons_of_mem _ z
theorem putO_nd {k : Kd} {o : O} : ∀ {l : List (Kd × O)}, (l.map (·.1)).Nodup → ((putO l k o).map (·.1)).Nodup
  | [], _ => by simp [putO]
  | (j, p) :: l, h => by
    have h' := List.nodup_cons.mp (show (j :: l.map (·.1)).Nodup from h)
    unfold putO
    split
    · next e =>
      subst e
      exact List.nodup_cons.mpr ⟨h'.1, h'.2⟩
    · next e =>
      refine List.nodup_cons.mpr ⟨fun z => ?_, putO_nd h'.2⟩
      rcases putO_mem z with z | z
      · exact e z
      · exact h'.1 z
theorem putO_len {k : Kd} {o : O} : ∀ {l : List (Kd × O)}, (putO l k o).length ≤ l.length + 1
  | [] => Nat.le_refl _
  | (j, p) :: l => by
    unfold putO
    split
    · exact Nat.le_succ _
    · exact Nat.succ_le_succ (putO_len (l := l))
section
variable {C : Cn} {P : Fx} {E : WX} {X : Cx} {σ : L2.St} {H H1 H' : Hp} {S S1 S' F F1 A B Y : Set'} {ρ : Env'} {tg : Expr} {pos : Pos} {f : Fe}
theorem RepOK.keys : ∀ {vs : List (Key × V)} {os : List (Kd × O)} {A : Set'}, RepOK C H S vs os A → os.map (·.1) = vs.map (fun p => (Sum.inl p.1 : Kd))
  | vs, [], A, h => by rw [h.1]; rfl
  | vs, (k, o) :: os, A, h => by
    obtain ⟨j, v, r, P, R, rfl, rfl, _, h2, _⟩ := h
    rw [List.map_cons, List.map_cons, h2.keys]
theorem RepOK.nd {vs : List (Key × V)} {os : List (Kd × O)} (h : RepOK C H S vs os A) (n : (os.map (·.1)).Nodup) : (vs.map (·.1)).Nodup := by
  rw [h.keys] at n
  have : vs.map (fun p => (Sum.inl p.1 : Kd)) = (vs.map (·.1)).map Sum.inl := by rw [List.map_map]; rfl
  rw [this] at n
  exact (List.pairwise_map.mp n).imp fun h e => h (congrArg _ e)
theorem RepOT.keys : ∀ {vs : List (List Key × V)} {os : List (Kd × O)} {A : Set'}, RepOT C H S vs os A → os.map (·.1) = vs.map (fun p => (Sum.inr p.1 : Kd))
  | vs, [], A, h => by rw [h.1]; rfl
  | vs, (k, o) :: os, A, h => by
    obtain ⟨j, v, r, P, R, rfl, rfl, _, h2, _⟩ := h
    rw [List.map_cons, List.map_cons, h2.keys]
theorem RepOT.nd {vs : List (List Key × V)} {os : List (Kd × O)} (h : RepOT C H S vs os A) (n : (os.map (·.1)).Nodup) : (vs.map (·.1)).Nodup := by
  rw [h.keys] at n
  have : vs.map (fun p => (Sum.inr p.1 : Kd)) = (vs.map (·.1)).map Sum.inr := by rw [List.map_map]; rfl
  rw [this] at n
  exact (List.pairwise_map.mp n).imp fun h e => h (congrArg _ e)
theorem RepOK.put0 {k : Key} {y : V} {o : O} : ∀ {vs : List (Key × V)} {os : List (Kd × O)} {A : Set'}, RepOK C H S vs os A → RepO C H S y o Y → Dj A Y → ∃ Z, RepOK C H S (putKr vs k y) (putO os (.inl k) o) Z ∧ ∀ a, Z a → Un' A Y a
  | vs, [], A, h, ry, d => by
    obtain ⟨rfl, e⟩ := h
    exact ⟨Y, ⟨k, y, [], Y, No, rfl, rfl, ry, ⟨rfl, emp_no⟩, ⟨fun a => ⟨.inl, fun z => z.elim id False.elim⟩, fun a _ z => z⟩⟩, fun a z => .inr z⟩
  | vs, (j', o') :: os, A, h, ry, d => by
    obtain ⟨j, v, r, P, R, rfl, rfl, h1, h2, s⟩ := h
    unfold putKr putO
    by_cases e : j = k
    · subst e
      simp only [if_true]
      exact ⟨Un' Y R, ⟨j, y, r, Y, R, rfl, rfl, ry, h2, ⟨fun a => Iff.rfl, fun a x z => d a (s.r z) x⟩⟩, fun a z => z.elim .inr fun z => .inl (s.r z)⟩
    · have e' : ¬ (Sum.inl j : Kd) = .inl k := fun z => e (Sum.inl.inj z)
      simp only [if_neg e, if_neg e']
      obtain ⟨Z, z1, z2⟩ := RepOK.put0 h2 ry (fun a x z => d a (s.r x) z) (k := k)
      refine ⟨Un' P Z, ⟨j, v, putKr r k y, P, Z, rfl, rfl, h1, z1, ⟨fun a => Iff.rfl, fun a x z => ?_⟩⟩, fun a z => z.elim (fun z => .inl (s.l z)) fun z => (z2 a z).elim (fun z => .inl (s.r z)) .inr⟩
      rcases z2 a z with z | z
      · exact s.2 a x z
      · exact d a (s.l x) z
theorem RepOK.put {k : Key} {y : V} {o : O} {vs : List (Key × V)} {os : List (Kd × O)} (h : RepOK C H S vs os A) (n : (os.map (·.1)).Nodup) (ry : RepO C H S y o Y) (d : Dj A Y) : ∃ Z, RepOK C H S (putK vs k y) (putO os (.inl k) o) Z ∧ ∀ a, Z a → Un' A Y a := by
  rw [putK_eq (h.nd n)]
  exact h.put0 ry d
theorem RepOK.len : ∀ {vs : List (Key × V)} {os : List (Kd × O)} {A : Set'}, RepOK C H S vs os A → vs.length = os.length
  | vs, [], A, h => by rw [h.1]; rfl
  | vs, (k, o) :: os, A, h => by
    obtain ⟨j, v, r, P, R, rfl, rfl, _, h2, _⟩ := h
    rw [List.length_cons, List.length_cons, h2.len]
theorem RepOT.put0 {k : List Key} {y : V} {o : O} : ∀ {vs : List (List Key × V)} {os : List (Kd × O)} {A : Set'}, RepOT C H S vs os A → RepO C H S y o Y → Dj A Y → ∃ Z, RepOT C H S (putKr vs k y) (putO os (.inr k) o) Z ∧ ∀ a, Z a → Un' A Y a
  | vs, [], A, h, ry, d => by
    obtain ⟨rfl, e⟩ := h
    exact ⟨Y, ⟨k, y, [], Y, No, rfl, rfl, ry, ⟨rfl, emp_no⟩, ⟨fun a => ⟨.inl, fun z => z.elim id False.elim⟩, fun a _ z => z⟩⟩, fun a z => .inr z⟩
  | vs, (j', o') :: os, A, h, ry, d => by
    obtain ⟨j, v, r, P, R, rfl, rfl, h1, h2, s⟩ := h
    unfold putKr putO
    by_cases e : j = k
    · subst e
      simp only [if_true]
      exact ⟨Un' Y R, ⟨j, y, r, Y, R, rfl, rfl, ry, h2, ⟨fun a => Iff.rfl, fun a x z => d a (s.r z) x⟩⟩, fun a z => z.elim .inr fun z => .inl (s.r z)⟩
    · have e' : ¬ (Sum.inr j : Kd) = .inr k := fun z => e (Sum.inr.inj z)
      simp only [if_neg e, if_neg e']
      obtain ⟨Z, z1, z2⟩ := RepOT.put0 h2 ry (fun a x z => d a (s.r x) z) (k := k)
      refine ⟨Un' P Z, ⟨j, v, putKr r k y, P, Z, rfl, rfl, h1, z1, ⟨fun a => Iff.rfl, fun a x z => ?_⟩⟩, fun a z => z.elim (fun z => .inl (s.l z)) fun z => (z2 a z).elim (fun z => .inl (s.r z)) .inr⟩
      rcases z2 a z with z | z
      · exact s.2 a x z
      · exact d a (s.l x) z
theorem RepOT.put {k : List Key} {y : V} {o : O} {vs : List (List Key × V)} {os : List (Kd × O)} (h : RepOT C H S vs os A) (n : (os.map (·.1)).Nodup) (ry : RepO C H S y o Y) (d : Dj A Y) : ∃ Z, RepOT C H S (putK vs k y) (putO os (.inr k) o) Z ∧ ∀ a, Z a → Un' A Y a := by
  rw [putK_eq (h.nd n)]
  exact h.put0 ry d
theorem RepOT.len : ∀ {vs : List (List Key × V)} {os : List (Kd × O)} {A : Set'}, RepOT C H S vs os A → vs.length = os.length
  | vs, [], A, h => by rw [h.1]; rfl
  | vs, (k, o) :: os, A, h => by
    obtain ⟨j, v, r, P, R, rfl, rfl, _, h2, _⟩ := h
    rw [List.length_cons, List.length_cons, h2.len]
/-- a pair more for the dict that is being made -/
theorem tmp_dput {D : Addr} {vs : List (Key × V)} {acc : List (Kd × O)} {k : Key} {y : V} {o : O} {H0 : Hp} {S0 F0 : Set'} (hD : H D = some (.dK vs)) (nd : (acc.map (·.1)).Nodup) (r : RepOK C H S vs acc A) (ry : RepO C H S y o Y) (w : Wf C H S (Un' (Un' (fun b => b = D) A) (Un' Y F)))
    (d : Dj (Un' (fun b => b = D) A) (Un' Y F)) (dy : Dj Y F) (nA : ¬ A D) (he : RepE C H S σ ρ F) (fr : Fr C H0 S0 F0 H S (Un' (Un' (fun b => b = D) A) (Un' Y F))) :
    ∃ Z, RepE C (upd H D (.dK (putK vs k y))) S σ ρ F ∧ RepOK C (upd H D (.dK (putK vs k y))) S (putK vs k y) (putO acc (.inl k) o) Z ∧ Wf C (upd H D (.dK (putK vs k y))) S (Un' (Un' (fun b => b = D) Z) F) ∧
      Dj (Un' (fun b => b = D) Z) F ∧ ¬ Z D ∧ Fr C H0 S0 F0 (upd H D (.dK (putK vs k y))) S (Un' (Un' (fun b => b = D) Z) F) ∧ Kp H S (upd H D (.dK (putK vs k y))) S := by
  have kp : Kp H S (upd H D (.dK (putK vs k y))) S := kp_upd (w.mu D (.inl (.inl rfl))) (w.ns D (.inl (.inl rfl)))
  have ne : ∀ b, b ≠ D → upd H D (.dK (putK vs k y)) b = H b := fun b h => upd_ne h
  have nY : ¬ Y D := fun z => d D (.inl rfl) (.inl z)
  have nF : ¬ F D := fun z => d D (.inl rfl) (.inr z)
  obtain ⟨Z, z1, z2⟩ := RepOK.put (k := k) (r.mono kp fun b z => ne b fun e => nA (e ▸ z)) nd (ry.mono kp fun b z => ne b fun e => nY (e ▸ z)) fun b x z => d b (.inr x) (.inl z)
  have nZ : ¬ Z D := fun z => (z2 D z).elim nA nY
  have mem : ∀ b, Un' (Un' (fun b => b = D) Z) F b → Un' (Un' (fun b => b = D) A) (Un' Y F) b := fun b z => by
    rcases z with (z | z) | z
    · exact .inl (.inl z)
    · exact (z2 b z).elim (fun z => .inl (.inr z)) fun z => .inr (.inl z)
    · exact .inr (.inr z)
  refine ⟨Z, he.mono kp fun b z => ne b fun e => nF (e ▸ z), z1, ⟨fun b z => ?_, fun b z => w.ns b (mem b z), fun b s => ?_, (Tk.upd (w.mu D (.inl (.inl rfl)))).tabs w.tb⟩, fun b x z => ?_, nZ, ⟨fun b x e nf nt => ?_, fr.sub, fr.new, fun b z => fr.fnew b (mem b z), fr.tk.trans (.upd (w.mu D (.inl (.inl rfl))))⟩, kp⟩
  · by_cases e : b = D
    · rw [e, upd_same]; trivial
    · rw [ne b e]; exact w.mu b (mem b z)
  · obtain ⟨x, e⟩ := w.so b s
    exact ⟨x, by rw [ne b (fun z : b = D => w.ns D (.inl (.inl rfl)) (by rw [← z]; exact s))]; exact e⟩
  · rcases x with x | x
    · exact nF (x ▸ z)
    · exact (z2 b x).elim (fun x => d b (.inr x) (.inr z)) fun x => dy b x z
  · have q := fr.keep b x e nf nt
    rw [ne b (fun z => by
      have := fr.fnew D (.inl (.inl rfl))
      rw [← z] at this
      exact this.elim nf fun n => by rw [e] at n; cases n)]
    exact q
def keyD : D → Option Key
  | .int i => some (.inl i)
  | .str x => some (.inr x)
  | _ => none
theorem keyD_rep {d : D} {k : Key} {v : V} (h : keyD d = some k) (r : RepD C H S v d) : v = kV k := by
  cases d <;> simp [keyD] at h <;> subst h <;> exact r
def dcG (t : D → Env' → Option Env') (tt : Env' → Out Bool) (tk tv : Fe) (vs : List Nat) : List D → Env' → List (Kd × O) → Out (List (Kd × O))
  | [], ρ, acc => .ok acc ρ
  | d :: l, ρ, acc => match t d ρ with
    | none => .bad
    | some ρ1 => (tt ρ1).bind fun b ρ2 => if b = true then (tk ρ2).bind fun k ρ3 => match keyD k.toD with
        | some j => (tv ρ3).bind fun o ρ4 => if acc.length < big then dcG t tt tk tv vs l (wipeE ρ4 vs) (putO acc (.inl j) o) else .bad
        | none => .bad
      else dcG t tt tk tv vs l (wipeE ρ2 vs) acc
def eDc (fi : Env' → Out (List D)) (t : D → Env' → Option Env') (tt : Env' → Out Bool) (tk tv : Fe) (vs : List Nat) : Fe := fun ρ => (fi ρ).bind fun l ρ1 =>
  if shAll ρ1 vs = true then (noX (dcG t tt tk tv vs l (wipeE ρ1 vs) [])).bind fun acc ρ2 => .ok (.dct acc) (backE ρ1 ρ2 vs) else .bad
def PDc (C : Cn) (Q : VK) (σ : L2.St) (H : Hp) (S F : Set') (ρ1 : Env') (vs : List Nat) (r : Out (List (Kd × O))) : Prop := match r with
  | .ok acc ρ' => ∀ v H' S' F' A, RepE C H' S' σ (backE ρ1 ρ' vs) F' → RepO C H' S' v (.dct acc) A → Wf C H' S' (Un' A F') → Dj A F' → Fr C H S F H' S' (Un' A F') → Q v H'
  | _ => False
theorem de_dc {kx vx iter : Expr} {ifs : List Expr} {scope : Scope} {own : List (Str × Nat)} {fi : Env' → Out (List D)} {g : TG} {t : D → Env' → Option Env'} {ts : List Nat} {tt : Env' → Out Bool} {tk tv : Fe} (ok : OkX C X) (hi : DI C E X tg iter fi)
    (hb : BlkOk X.N X.env.scope scope own) (hn : (own.map (·.2)).Nodup)
    (hg : ∀ (s : Shared) (H : Hp) (D : Addr) (cl : List (Str × Addr)) (fp : List Addr), PG (X.blk s H scope (compEnvC scope cl D X.env) fp) tg g) (ht : TgtOk C ⟨[], []⟩ g t ts) (hts : ∀ j ∈ ts, j ∈ own.map (·.2))
    (htt : ∀ (s : Shared) (H : Hp) (D : Addr) (cl : List (Str × Addr)) (fp : List Addr), DTs C Ef (X.blk s H scope (compEnvC scope cl D X.env) fp) ifs tt)
    (hk : ∀ (s : Shared) (H : Hp) (D : Addr) (cl : List (Str × Addr)) (fp : List Addr), DE C Ef (X.blk s H scope (compEnvC scope cl D X.env) fp) kx tk)
    (he : ∀ (s : Shared) (H : Hp) (D : Addr) (cl : List (Str × Addr)) (fp : List Addr), DE C Ef (X.blk s H scope (compEnvC scope cl D X.env) fp) vx tv) (hs : ∀ x, foldedSetIterable iter X.env x = pure x := by intro _; rfl) :
    DE C E X (.DictComp kx vx [⟨tg, iter, ifs, 0⟩] scope pos) (eDc fi t tt tk tv (own.map (·.2))) := by
  refine pe_imp (pe_dc ok.calm ok.nd hi hb hg htt hk he hs) fun σ H Q ⟨ρ, S, F, he0, w0, q⟩ => ⟨ρ, S, F, he0, w0, ?_⟩
  generalize hvs : own.map (·.2) = vs at *
  unfold eDc at q
  cases ei : fi ρ with
  | bad => rw [ei] at q; exact q
  | exc x ρ' => rw [ei] at q; exact q
  | ok l ρ1 =>
    rw [ei] at q
    simp only [bind_ok] at q
    by_cases hsh : shAll ρ1 vs = true
    · simp only [hsh, if_true] at q
      intro J H1 S1 F1 he1 w1 fr1 wk D hD
      have q' : PDc C Q σ H S F ρ1 vs (dcG t tt tk tv vs l (wipeE ρ1 vs) []) := by
        cases el : dcG t tt tk tv vs l (wipeE ρ1 vs) [] with
        | ok acc ρ' => rw [el] at q; exact q
        | exc x ρ' => rw [el] at q; exact q
        | bad => rw [el] at q; exact q
      have al := Alc.own (o := .dK []) w1.so hD trivial
      obtain ⟨F1', hw1, sub1⟩ := he1.wipe vs
      have wl : Wf C H1 S1 F1' := ⟨fun a z => w1.mu a (sub1 a z), fun a z => w1.ns a (sub1 a z), w1.so, w1.tb⟩
      obtain ⟨hs1, ws1, ds1, fs1⟩ := alc_step hw1 wl (fr1.trans (fr_sub sub1)) al
      have un0 : Un' (fun b => b = D) F1' = Un' (Un' (fun b => b = D) No) F1' := by
        funext a; apply propext; constructor
        · rintro (z | z)
          · exact .inl (.inl z)
          · exact .inr z
        · rintro ((z | z) | z)
          · exact .inl z
          · exact z.elim
          · exact .inr z
      rw [un0] at ws1 fs1
      have ds1 : Dj (Un' (fun b => b = D) No) F1' := fun a x y => x.elim (fun x => ds1 a x y) False.elim
      have len1 : ∀ v ∈ vs, v < ρ1.length := fun v hv => by
        rcases shAll_mem hsh hv with ⟨d, e⟩ | e
        · exact (List.getElem?_eq_some_iff.mp e).1
        · exact (List.getElem?_eq_some_iff.mp e).1
      have lenσ : σ.length = ρ1.length := he1.len
      refine ⟨fun i m H2 => ∃ ρ2 S2 F2 acc vsV A, m = l.length - i ∧ i ≤ l.length ∧ RepE C H2 S2 (L2.wipe σ vs) ρ2 F2 ∧ (∀ v ∈ vs, ρ2[v]? = some none) ∧ H2 D = some (.dK vsV) ∧ (acc.map (·.1)).Nodup ∧ RepOK C H2 S2 vsV acc A ∧ Wf C H2 S2 (Un' (Un' (fun b => b = D) A) F2) ∧
          Dj (Un' (fun b => b = D) A) F2 ∧ ¬ A D ∧ Fr C H S F H2 S2 (Un' (Un' (fun b => b = D) A) F2) ∧ Kp H1 S1 H2 S2 ∧ PDc C Q σ H S F ρ1 vs (dcG t tt tk tv vs (l.drop i) ρ2 acc),
        ⟨l.length, wipeE ρ1 vs, S1, F1', [], [], No, (Nat.sub_zero _).symm, Nat.zero_le _, hs1, fun v hv => wipeE_none hv (len1 v hv), upd_same, List.nodup_nil, ⟨rfl, emp_no⟩, ws1, ds1, fun z => z, fs1, al.kp, q'⟩, ?_⟩
      rintro i m H2 ⟨ρ2, S2, F2, acc, vsV, A, rfl, hi', he2, hz2, hD2, nd2, ra2, w2, d2, nA2, fr2, kp2, q2⟩
      by_cases hlt : i < l.length
      · have hd : l.drop i = l[i] :: l.drop (i + 1) := List.drop_eq_getElem_cons hlt
        rw [hd] at q2
        refine .inr ⟨wk.go i H2 S2 kp2 hlt, fun H3 => ∃ ρ2 S2 F2 acc vsV A, RepE C H3 S2 (L2.wipe σ vs) ρ2 F2 ∧ (∀ v ∈ vs, ρ2[v]? = some none) ∧ H3 D = some (.dK vsV) ∧ (acc.map (·.1)).Nodup ∧ RepOK C H3 S2 vsV acc A ∧ Wf C H3 S2 (Un' (Un' (fun b => b = D) A) F2) ∧
            Dj (Un' (fun b => b = D) A) F2 ∧ ¬ A D ∧ Fr C H S F H3 S2 (Un' (Un' (fun b => b = D) A) F2) ∧ Kp H1 S1 H3 S2 ∧ PDc C Q σ H S F ρ1 vs (dcG t tt tk tv vs (l.drop (i + 1)) ρ2 acc),
          fun H3 ⟨a1, a2, a3, a4, a5, a6, b⟩ => ⟨l.length - (i + 1), by omega, a1, a2, a3, a4, a5, a6, rfl, hlt, b⟩, fun x H3 y => ?_⟩
        obtain ⟨S3, al3, rx⟩ := wk.yld i x H2 S2 H3 l[i] kp2 w2.so (by simp [hlt]) y
        obtain ⟨he3, w3, fr3⟩ := alc_fr he2 w2.drop al3
        -- the list that is being made, over the step
        obtain ⟨ka3, d3, w3', fr3', k3⟩ := fr_tmp w2 d2 fr2 fr3 w3
        have hD3 : H3 D = some (.dK vsV) := by rw [ka3 D (.inl rfl)]; exact hD2
        have ra3 := ra2.mono k3 fun b z => ka3 b (.inr z)
        have q2 : PDc C Q σ H S F ρ1 vs (match t l[i] ρ2 with
          | none => .bad
          | some ρ1 => (tt ρ1).bind fun b ρ2 => if b = true then (tk ρ2).bind fun k ρ3 => match keyD k.toD with
              | some j => (tv ρ3).bind fun o ρ4 => if acc.length < big then dcG t tt tk tv vs (l.drop (i + 1)) (wipeE ρ4 vs) (putO acc (.inl j) o) else .bad
              | none => .bad
            else dcG t tt tk tv vs (l.drop (i + 1)) (wipeE ρ2 vs) acc) := q2
        cases et : t l[i] ρ2 with
        | none => rw [et] at q2; exact q2.elim
        | some ρ3 =>
          simp only [et] at q2
          refine ht (L2.wipe σ vs) H3 S3 F2 ρ2 x l[i] ρ3 _ he3 w3 (fun j hj => by cases hj) rx et fun σ3 F3 he4 w4 p4 sub n4 l4 => ?_
          have lenw : (L2.wipe σ vs).length = σ.length := L2.wipe_length σ vs
          have l3 : σ3.length = σ.length := l4.trans lenw
          have ew : L2.wipe σ3 vs = L2.wipe σ vs := wipe_eq l3 fun j hj => by
            rw [n4 j fun z => hj (hts j z), wipe_get hj]
          refine ⟨ew, ρ3, S3, F3, he4, w4, ?_⟩
          have w3s : Wf C H3 S3 (Un' (Un' (fun b => b = D) A) F3) := ⟨fun a z => w3'.mu a (z.elim .inl fun z => .inr (sub a z)), fun a z => w3'.ns a (z.elim .inl fun z => .inr (sub a z)), w3'.so, w3'.tb⟩
          have d3s : Dj (Un' (fun b => b = D) A) F3 := fun a x y => d3 a x (sub a y)
          have fr3s : Fr C H S F H3 S3 (Un' (Un' (fun b => b = D) A) F3) := fr3'.less fun a z => z.elim .inl fun z => .inr (sub a z)
          have kp3 := kp_trans kp2 k3
          cases ett : tt ρ3 with
          | bad => rw [ett] at q2; exact q2.elim
          | exc x ρ' => rw [ett] at q2; exact q2.elim
          | ok b ρ4 =>
            rw [ett] at q2
            simp only [bind_ok] at q2
            intro H4 S4 F4 he5 w5 fr5
            obtain ⟨ka5, d5, w5', fr5', k5⟩ := fr_tmp w3s d3s fr3s fr5 w5
            have hD4 : H4 D = some (.dK vsV) := by rw [ka5 D (.inl rfl)]; exact hD3
            have ra4 := ra3.mono k5 fun b z => ka5 b (.inr z)
            have kp4 := kp_trans kp3 k5
            cases b with
            | false =>
              simp only [Bool.false_eq_true, if_false] at q2 ⊢
              obtain ⟨F5, hw5, sub5⟩ := he5.wipe vs
              rw [ew] at hw5
              exact ⟨wipeE ρ4 vs, S4, F5, acc, vsV, A, hw5, fun v hv => wipeE_none hv (by rw [← he5.len, l3, lenσ]; exact len1 v hv), hD4, nd2, ra4,
                ⟨fun a z => w5'.mu a (z.elim .inl fun z => .inr (sub5 a z)), fun a z => w5'.ns a (z.elim .inl fun z => .inr (sub5 a z)), w5'.so, w5'.tb⟩, fun a x y => d5 a x (sub5 a y), nA2, fr5'.less (fun a z => z.elim .inl fun z => .inr (sub5 a z)), kp4, q2⟩
            | true =>
              simp only [if_true] at q2 ⊢
              refine ⟨ρ4, S4, F4, he5, w5, ?_⟩
              cases etk : tk ρ4 with
              | bad => rw [etk] at q2; exact q2.elim
              | exc x ρ' => rw [etk] at q2; exact q2.elim
              | ok ko ρk =>
                rw [etk] at q2
                simp only [bind_ok] at q2
                intro yk Hk Sk Fk Yk hek rk wk' dk frk0
                cases ekd : keyD ko.toD with
                | none => simp only [ekd] at q2; exact q2.elim
                | some kk =>
                  simp only [ekd] at q2
                  have eyk := keyD_rep ekd (rk.share (S' := Un' Sk Yk) (fun _ z => .inl z) fun _ z => .inr z)
                  have frk := frk0.drop
                  obtain ⟨kak, dk', wk2, frk', kk'⟩ := fr_tmp w5' d5 fr5' frk wk'.drop
                  have hDk : Hk D = some (.dK vsV) := by rw [kak D (.inl rfl)]; exact hD4
                  have rak := ra4.mono kk' fun b z => kak b (.inr z)
                  have kpk := kp_trans kp4 kk'
                  refine ⟨ρk, Sk, Fk, hek, wk'.drop, ?_⟩
                  cases ete : tv ρk with
                  | bad => rw [ete] at q2; exact q2.elim
                  | exc x ρ' => rw [ete] at q2; exact q2.elim
                  | ok o ρ5 =>
                    rw [ete] at q2
                    simp only [bind_ok] at q2
                    intro y' H5 S5 F5 Y he6 r6 w6 d6 fr6
                    obtain ⟨ka6, d6', w6', fr6', k6⟩ := fr_tmp wk2 dk' frk' fr6 w6
                    have hD5 : H5 D = some (.dK vsV) := by rw [ka6 D (.inl rfl)]; exact hDk
                    have ra5 := rak.mono k6 fun b z => ka6 b (.inr z)
                    by_cases hbig : acc.length < big
                    · simp only [hbig, if_true] at q2
                      refine ⟨vsV, kk, eyk, hD5, by rw [ra5.len]; exact Nat.lt_of_lt_of_le hbig (big_line (Nat.le_refl _)), ?_⟩
                      obtain ⟨F6, hw6, sub6⟩ := he6.wipe vs
                      rw [ew] at hw6
                      have lessU : ∀ a, Un' (Un' (fun b => b = D) A) (Un' Y F6) a → Un' (Un' (fun b => b = D) A) (Un' Y F5) a := fun a z => z.elim .inl fun z => .inr (z.elim .inl fun z => .inr (sub6 a z))
                      obtain ⟨Z, z1, z2, z3, z4, z5, z6, z7⟩ := tmp_dput (k := kk) hD5 nd2 ra5 r6 ⟨fun a z => w6'.mu a (lessU a z), fun a z => w6'.ns a (lessU a z), w6'.so, w6'.tb⟩ (fun a x y => d6' a x (y.elim .inl fun y => .inr (sub6 a y))) (fun a x y => d6 a x (sub6 a y)) nA2 hw6 (fr6'.less lessU)
                      exact ⟨wipeE ρ5 vs, S5, F6, putO acc (.inl kk) o, putK vsV kk y', Z, z1, fun v hv => wipeE_none hv (by rw [← he6.len, l3, lenσ]; exact len1 v hv), upd_same, putO_nd nd2, z2, z3, z4, z5, z6, kp_trans (kp_trans kpk k6) z7, q2⟩
                    · simp only [hbig, if_false] at q2
                      exact q2.elim
      · have e : i = l.length := by omega
        subst e
        rw [List.drop_length] at q2
        have he7 := RepE.back he1 kp2 hn hsh he2 hz2
        refine .inl ⟨wk.stop H2 S2 kp2, ?_⟩
        have eu : Un' (fun b => b = D) A = fun b => b = D ∨ A b := rfl
        exact q2 (.ref D) H2 S2 F2 _ he7 ⟨D, A, rfl, nd2, .inl ⟨vsV, hD2, ra2⟩, fun b => Iff.rfl, fun b e z => nA2 (e ▸ z)⟩ w2 d2 fr2
    · simp only [hsh] at q
      exact q.elim
end
end G
end

section
set_option maxRecDepth 100000
set_option maxHeartbeats 2000000
open PySem PySem.Spec PyProof.Rows L2
namespace G
/-! comparisons as tests; the left side a view; a slot given away; what a derivation leans on -/
abbrev eK (d : D) : Fe := fun ρ => .ok (.sh d) ρ
def oB : O → Option Bool
  | .sh (.bl b) => some b
  | _ => none
theorem oB_eq {o : O} {b : Bool} (h : oB o = some b) : o = .sh (.bl b) := by
  unfold oB at h
  split at h
  · rw [Option.some.inj h]
  · cases h
def eB (f : Fe) : Env' → Out Bool := fun ρ => (f ρ).bind fun o ρ1 => match oB o with
  | some b => .ok b ρ1
  | none => .bad
def e2w (i : Nat) (g : D → D → Option O) (h : Fe) : Fe := fun ρ => match vVar i ρ with
  | some _ => (h ρ).bind fun b ρ1 => e1v (fun d => g d b.toD) (vVar i) ρ1
  | none => .bad
def eMove (i : Nat) : Fe := fun ρ => match ρ[i]? with
  | some (some o) => .ok o (ρ.set i none)
  | _ => .bad
structure Bx (md : Bool) (C : Cn) (k : Nat) (X : Cx) (E : WX) : Prop where
  ok : OkX C X
  tk : TakesM md X E
  rm : Room k X.A
section
variable {md : Bool} {C : Cn} {P : Fx} {E : WX} {X : Cx} {σ : L2.St} {H H1 H' : Hp} {S S1 S' F F1 A B Y : Set'} {ρ : Env'} {a b c : Expr} {pos : Pos} {f h k : Fe}
theorem tb_of {Q : Bool → Hp → Prop} (q : rT C E (eB f) σ H Q) : rE C E f σ H (fun x H1 => ∃ k, x = .bl k ∧ Q k H1) := by
  obtain ⟨ρ, S, F, he, w, q⟩ := q
  refine ⟨ρ, S, F, he, w, ?_⟩
  unfold eB at q
  cases ef : f ρ with
  | bad => rw [ef] at q; exact q
  | exc x ρ' => rw [ef] at q; exact q
  | ok o ρ1 =>
    rw [ef] at q
    simp only [bind_ok] at q
    intro v H1 S1 F1 A he1 r1 w1 d1 fr1
    cases eb : oB o with
    | none => rw [eb] at q; exact q.elim
    | some b =>
      rw [eb] at q
      rw [oB_eq eb] at r1
      exact ⟨b, r1.2, q H1 S1 F1 he1 w1.drop fr1.drop⟩
theorem dt_cmp {op : CmpOp} {g : D → D → Option O} (ho : OpR X (compareOp op) (rV2 C g)) (ha : DE C E X a f) (hb : DE C E X b h) (hm : behindInMarks op b = false) : DT C E X (.Compare a [op] [b] pos) (eB (e2 g f h)) :=
  pt_imp (pt_cmpR ho ha hb hm) fun _ _ _ q => r2_of (tb_of q)
theorem dt_cmpV {op : CmpOp} {g : D → D → Option O} {h : Env' → Option D} (ho : OpR X (compareOp op) (rV2 C g)) (ha : DE C E X a f) (hb : DV C X b h) (hm : behindInMarks op b = false) : DT C E X (.Compare a [op] [b] pos) (eB (e2v g f h)) :=
  pt_imp (pt_cmpR ho ha hb hm) fun _ _ _ q => r2v_of (tb_of q)
theorem dt_chn {op op' : CmpOp} {g g' : D → D → Option O} (ho : OpR X (compareOp op) (rV2 C g)) (ho' : OpR X (compareOp op') (rV2 C g')) (ha : DE C E X a f) (hb : DE C E X b h) (hc : DE C E X c k)
    (hm : lastMarks [op, op'] [b, c] = false := by with_unfolding_all rfl) : DT C E X (.Compare a [op, op'] [b, c] pos) (eB (eChn g g' f h k)) :=
  pt_imp (pt_chain ho ho' ha hb hc hm) fun _ _ _ q => chn_of (tb_of q)
theorem r2w_of {i : Nat} {g : D → D → Option O} {Q : VK} (q : rE C E (e2w i g h) σ H Q) : tVar i σ H (fun x H1 => rE C E h σ H1 fun y H2 => rV2 C g x y H2 Q) := by
  obtain ⟨ρ, S, F, he, w, q⟩ := q
  unfold e2w at q
  cases ev : vVar i ρ with
  | none => rw [ev] at q; exact q.elim
  | some d0 =>
    rw [ev] at q
    have e0 : ∃ o, ρ[i]? = some (some o) := by
      unfold vVar at ev
      split at ev
      · next o e => exact ⟨o, e⟩
      · cases ev
    obtain ⟨o0, e0⟩ := e0
    obtain ⟨v, A0, B0, eσ, _, _, _, _⟩ := own_at he e0
    refine ⟨v, eσ, ρ, S, F, he, w, ?_⟩
    cases eh : h ρ with
    | bad => rw [eh] at q; exact q
    | exc x ρ' => rw [eh] at q; exact q
    | ok b ρ1 =>
      rw [eh] at q
      simp only [bind_ok] at q
      intro y H1 S1 F1 A he1 r1 w1 d1 fr1
      have w2 := w1.share d1
      have he2 : RepE C H1 (Un' S1 A) σ ρ1 F1 := he1.mono kp_sh fun _ _ => rfl
      have fr2 := fr1.share
      have ry := r1.share (S' := Un' (Un' S1 A) F1) (fun _ z => .inl (.inl z)) fun _ z => .inl (.inr z)
      unfold e1v at q
      cases ed : vVar i ρ1 with
      | none => rw [ed] at q; exact q.elim
      | some d =>
        rw [ed] at q
        obtain ⟨o1, e1, rfl⟩ : ∃ o1, ρ1[i]? = some (some o1) ∧ o1.toD = d := by
          unfold vVar at ed
          split at ed
          · next o e => exact ⟨o, e, Option.some.inj ed⟩
          · cases ed
        obtain ⟨v', A1, B1, eσ', rO, sF, _, _⟩ := own_at he2 e1
        rw [eσ] at eσ'
        cases eσ'
        have rx := rO.share (S' := Un' (Un' S1 A) F1) (fun _ z => .inl z) fun a z => .inr (sF.l z)
        cases eg : g o1.toD b.toD with
        | none => simp only [Option.bind_some, eg] at q
        | some o' =>
          simp only [Option.bind_some, eg] at q
          cases o' with
          | lst l => exact q.elim
          | dct l => exact q.elim
          | ins c l => exact q.elim
          | sh d =>
            by_cases hc : scD d = true
            · simp only [hc, if_true] at q
              refine ⟨Un' (Un' S1 A) F1, o1.toD, b.toD, un_so w2, rx, ry, _, eg, fun v' H' S' A' al ro => ?_⟩
              have ka : ∀ b, F1 b → H' b = H1 b := fun b z => by
                obtain ⟨u, e⟩ := mut_some (w2.mu b z)
                rw [e]; exact al.keep b u e
              have kp : Kp H1 (Un' S1 A) H' (Un' S1 A) := ⟨fun b u _ _ e => al.keep b u e, fun b u _ _ e => al.keep b u e, fun _ h => h⟩
              exact q v' H' (Un' S1 A) F1 No (he2.mono kp ka) ⟨emp_no, sc_rep hc ro.2⟩ (wf_no ⟨fun b z => by rw [ka b z]; exact w2.mu b z, w2.ns, fun b s => by
                obtain ⟨u, e⟩ := w2.so b s
                exact ⟨u, al.keep b u e⟩, w2.tb.ext al.keep⟩) dj_no (fr_no (fr2.trans ⟨fun b u e _ _ => al.keep b u e, fun _ h => h, fun _ h => .inl h, fun _ h => .inl h, .all al.keep⟩))
            · simp only [hc] at q
              exact q.elim
theorem de_cmpW {i : Nat} {x : Str} {p : Pos} {op : CmpOp} {g : D → D → Option O} (ho : OpR X (compareOp op) (rV2 C g)) (hb : DE C E X b h) (hm : behindInMarks op b = false) (hN : X.N[i]? = some x := by rfl) (hv : Vis X.env.scope x := by first | exact Or.inl rfl | exact Or.inr (Or.inl rfl) | exact Or.inr (Or.inr rfl))
    (hd : (x == ("__debug__" : Str)) = false := by decide) (hcd : (x == ("__classdict__" : Str)) = false := by decide) : DE C E X (.Compare (.Name x p) [op] [b] pos) (e2w i g h) :=
  pe_imp (pe_cmpR ho (pe_var hN hv hd hcd) hb hm) fun _ _ _ q => r2w_of q
theorem dt_cmpW {i : Nat} {x : Str} {p : Pos} {op : CmpOp} {g : D → D → Option O} (ho : OpR X (compareOp op) (rV2 C g)) (hb : DE C E X b h) (hm : behindInMarks op b = false) (hN : X.N[i]? = some x := by rfl) (hv : Vis X.env.scope x := by first | exact Or.inl rfl | exact Or.inr (Or.inl rfl) | exact Or.inr (Or.inr rfl))
    (hd : (x == ("__debug__" : Str)) = false := by decide) (hcd : (x == ("__classdict__" : Str)) = false := by decide) : DT C E X (.Compare (.Name x p) [op] [b] pos) (eB (e2w i g h)) :=
  pt_imp (pt_cmpR ho (pe_var hN hv hd hcd) hb hm) fun _ _ _ q => r2w_of (tb_of q)
/-- a name, in short -/
theorem lv (i : Nat) {x : Str} (hN : X.N[i]? = some x := by rfl) (hv : Vis X.env.scope x := by first | exact Or.inl rfl | exact Or.inr (Or.inl rfl) | exact Or.inr (Or.inr rfl)) (hd : (x == ("__debug__" : Str)) = false := by decide)
    (hcd : (x == ("__classdict__" : Str)) = false := by decide) : DE C E X (.Name x pos) (eVar i) := de_var hN hv hd hcd
theorem vv (i : Nat) {x : Str} (hN : X.N[i]? = some x := by rfl) (hv : Vis X.env.scope x := by first | exact Or.inl rfl | exact Or.inr (Or.inl rfl) | exact Or.inr (Or.inr rfl)) (hd : (x == ("__debug__" : Str)) = false := by decide)
    (hcd : (x == ("__classdict__" : Str)) = false := by decide) : DV C X (.Name x pos) (vVar i) := dv_var hN hv hd hcd
theorem mv (i : Nat) {x : Str} (hN : X.N[i]? = some x := by rfl) (hv : Vis X.env.scope x := by first | exact Or.inl rfl | exact Or.inr (Or.inl rfl) | exact Or.inr (Or.inr rfl)) (hd : (x == ("__debug__" : Str)) = false := by decide)
    (hcd : (x == ("__classdict__" : Str)) = false := by decide) : DE C E X (.Name x pos) (eMove i) := by
  refine pe_imp (pe_var hN hv hd hcd) fun σ H Q ⟨ρ, S, F, he, w, q⟩ => ?_
  unfold eMove at q
  cases e : ρ[i]? with
  | none => rw [e] at q; exact q.elim
  | some r =>
    cases r with
    | none => rw [e] at q; exact q.elim
    | some o =>
      rw [e] at q
      obtain ⟨v, A, B, eσ, r, s, h2, _⟩ := own_at he e
      have eu := s.un
      subst eu
      exact ⟨v, eσ, q v H S B A h2 r w s.2 .refl⟩
/-- a module's constants -/
theorem lgi {x : Str} {i : Int} (hm : ∃ t, X.mg x = some (.int i t)) (hg : Gl X x := by rfl) (hd : (x == ("__debug__" : Str)) = false := by decide) : DE C E X (.Name x pos) (eK (.int i)) := de_gint hg hm.choose_spec hd
theorem lgs {x y : Str} (hm : ∃ t, X.mg x = some (.str y t)) (hg : Gl X x := by rfl) (hd : (x == ("__debug__" : Str)) = false := by decide) : DE C E X (.Name x pos) (eK (.str y)) := de_gstr hg hm.choose_spec hd
theorem Bx.tr {k : Nat} (b : Bx md C k X E) {W : WX} {pn : List (Addr × Obj)} {xe : Value → Shared → Prop} (t : TakesM md (X.tr pn xe) W) : Bx md C k (X.tr pn xe) W := ⟨b.ok.tr pn xe, t, b.rm⟩
theorem Bx.blk {k : Nat} (b : Bx md C k X E) {s : Shared} {H : Hp} {sc : Scope} {ce : PySem.Env} {fp : List Addr} : Bx md C k (X.blk s H sc ce fp) Ef := ⟨b.ok.blk s H sc ce fp, takesM_no, b.rm⟩
theorem Bx.def {k : Nat} {P : Program} {w : World} {K : PySem.W.Frag} {mg : Str → Option Value} {base : Heap} {N : List Str} {qual : Str} {scope : Scope} {f : Addr} {cd : Value} {A : Around} {outer : List PySem.Env} {s : Shared} {H : Hp} {E : XK} (hK : K = C.K) (nd : N.Nodup) (hr : Room k (A.deeper (envOfC qual scope s.heap.objs.size f cd))) :
    Bx md C k (cxOf (CXm md P w) P w K mg base N qual scope f cd A outer s H E) (fun c d _ H => E c d H) :=
  ⟨⟨hK, rfl, by have := hr.un; show (A.deeper (envOfC qual scope s.heap.objs.size f cd)).units + 200 < cLine; omega, nd⟩, takesM_of rfl rfl rfl rfl, hr⟩
end
end G
end

section
set_option maxRecDepth 100000
set_option maxHeartbeats 2000000
open PySem PySem.Spec PyProof.Rows L2
namespace G
/-! the text's parts, bundled -/
/-- a def that may be called -/
structure Cl (md : Bool) (P : Program) (w : World) (K : PySem.W.Frag) (mg : Str → Option Value) (base : Heap) (C : Cn) (k : Nat) (x : Str) (n : Nat) (g : Fn) : Prop where
  ex : ∃ (f : Addr) (fd : FuncData) (ps : List Str), ps.length = n ∧ FnOk P w K mg base (CXm md P w) k f fd ps (spD C ps.length g) ∧ mg x = some (.ref f) ∧ PySem.W.keepIn K (.ref f) = true ∧ Binds K fd ps []
/-- a def of the text -/
structure Df (K : PySem.W.Frag) (mg : Str → Option Value) (x : Str) (st : Stmt) (ps : List Str) : Prop where
  ex : ∃ (f : Addr) (fd : FuncData), Fun K x x st f fd ∧ mg x = some (.ref f) ∧ Binds K fd ps []
structure OwnX (K : PySem.W.Frag) (mg : Str → Option Value) (C : Cn) (x : Str) (n : Nat) : Prop where
  ex : ∃ (Cl : Addr) (Bt newId initId : String) (bmB : List Value), C.ecl n = .ref Cl ∧ ExcBaseFacts Bt newId initId bmB ∧ PySem.W.excIn K Cl bmB newId = true ∧ mg x = some (.ref Cl) ∧ PySem.W.keepIn K (.ref Cl) = true ∧
    PySem.W.subIn K (.ref Cl) (.type "BaseException") = some true ∧ PySem.W.typeIn K (.ref Cl) = some (.type "type")
structure SupX (P : Program) (K : PySem.W.Frag) (mg : Str → Option Value) (C : Cn) (x p : Str) (n : Nat) : Prop where
  ex : ∃ (Cl fI : Addr) (Bt newId initId : String) (bmB : List Value), C.ecl n = .ref Cl ∧ C.fld n = [p] ∧ GX.SupTxt P K mg x Cl fI p Bt newId initId bmB ∧ GX.Nm p ∧ PySem.W.KxsFacts Bt initId ∧ ExcBaseFacts Bt newId initId bmB
/-- a class that a clause names -/
structure Hnd (K : PySem.W.Frag) (mg : Str → Option Value) (C : Cn) (x : Str) (m : Nat → Bool) : Prop where
  ex : ∃ c, mg x = some c ∧ ∀ n, PySem.W.exmOne K (C.ecl n) c = some (m n)
section
variable {md : Bool} {C : Cn} {P : Fx} {E : WX} {X : Cx} {e : Expr} {es : List Expr} {pos : Pos} {f : Fe} {j k n : Nat}
theorem de_cl {x : Str} {p : Pos} {g : Fn} {ms : List (Option Nat)} {fa : Fa} (c : Cl md X.prog X.w X.K X.mg X.base C k x n g) (b : Bx md C j X E) (ha : DM C E X (e :: es) ms fa) (hjk : k ≤ j := by decide) (hn : ms.length = n := by rfl) (hg : Gl X x := by rfl)
    (hdb : (x == ("__debug__" : Str)) = false := by decide) (he : starEach (e :: es) X.env = (false, eval e X.env) :: starEach es X.env := by rfl) (hpl : (backTo pos (starEach es X.env)).any (·.1) = false := by rfl) :
    DE C E X (.Call (.Name x p) (e :: es) [] pos) (eCall g ms fa) := by
  obtain ⟨f, fd, ps, hl, F, hm, hk, hb⟩ := c.ex
  exact de_call F (b.rm.mono hjk) hm hk hb b.tk ha (hn.trans hl.symm) hg hdb he hpl
theorem dx_ow {x m : Str} {i : Nat} {p p2 : Pos} (o : OwnX X.K X.mg C x n) (hg : Gl X x := by rfl) (hdb : (x == ("__debug__" : Str)) = false := by decide) : DX C E X (.Call (.Name x p) [.Constant (.str m) i p2] [] pos) (eOwn n) := by
  obtain ⟨Cl, Bt, newId, initId, bmB, h1, h2, h3, h4, h5, h6, h7⟩ := o.ex
  exact dx_own h1 h2 h3 h4 h5 (raises_own h6 h7) hg hdb
theorem dx_sp {x p : Str} {a : Expr} {p1 : Pos} (o : SupX X.prog X.K X.mg C x p n) (b : Bx md C j X E) (ha : DE C E X a f) (hg : Gl X x := by rfl) (hdb : (x == ("__debug__" : Str)) = false := by decide) (he : starEach (a :: []) X.env = (false, eval a X.env) :: starEach [] X.env := by rfl)
    (hpl : (backTo pos (starEach [] X.env)).any (·.1) = false := by rfl) : DX C E X (.Call (.Name x p1) [a] [] pos) (eSup n f) := by
  obtain ⟨Cl, fI, Bt, newId, initId, bmB, h1, h2, h3, h4, h5, h6⟩ := o.ex
  exact dx_sup h1 h2 h3 h4 h5 h6 b.rm ha hg hdb he hpl
theorem ds_rs {f : Env' → Out Xn} (b : Bx md C j X E) (he : DX C E X e f) : DS C P E X (.Raise (some e) none pos) (sRaise f) := ds_raise b.ok b.tk he
theorem ds_tr {x : Str} {body suite : List Stmt} {b₀ : Stmt} {np pos' : Pos} {b : Fs} {m : Nat → Bool} {g : Fs} (bx : Bx false C j X E) (hh : Hnd X.K X.mg C x m)
    (hb : ∀ (W : WX) (pn : List (Addr × Obj)) (xe : Value → Shared → Prop), Bx false C j (X.tr pn xe) W → PassesOwn (model X.prog X.w) X.A X.env xe → DSs C P W (X.tr pn xe) body b)
    (hsu : ∀ (a : Addr) (oe : Obj) (pn : List (Addr × Obj)), DSs C P Ef (X.suite a ((a, oe) :: pn)) (b₀ :: suite) g) (hg : Gl X x := by rfl) (hdb : (x == ("__debug__" : Str)) = false := by decide)
    (hs : X.stack = X.env :: X.outer := by rfl) (hf : X.env.frame = some X.env.locals := by rfl) :
    DS C P E X (.Try body [.ExceptHandler (some (.Name x np)) none (b₀ :: suite) pos'] [] [] pos) (sTry1 b m fun _ => g) := by
  obtain ⟨c, h1, h2⟩ := hh.ex
  exact ds_try1 bx.ok bx.tk ⟨hg, hdb, .inl h1⟩ h2 (fun W pn xe t p => hb W pn xe (bx.tr t) p) (fun a oe _ _ pn _ _ _ => hsu a oe pn) hs hf
theorem cl_def {P : Program} {w : World} {K : PySem.W.Frag} {mg : Str → Option Value} {base : Heap} {x : Str} {st : Stmt} {N ps : List Str} {ks : List Bool} {body : Fs} (d : Df K mg x st ps) (hK : K = C.K) (Sc : FnScope N ps (defScope st)) (hk : ks.length = ps.length)
    (hb : ∀ (f : Addr) (cdv : Value) (A : Around) (outer : List PySem.Env) (s : Shared) (H : Hp) (E : XK) (σ0 : L2.St), Bx md C k (cxOf (CXm md P w) P w K mg base N x (defScope st) f cdv A outer s H E) (fun c d _ H => E c d H) →
      DSs C ⟨piOf ks 0, σ0⟩ (fun c d _ H => E c d H) (cxOf (CXm md P w) P w K mg base N x (defScope st) f cdv A outer s H E) (defBody st) body) :
    Cl md P w K mg base C (k + 1) x ps.length (fnG N.length ks body) := by
  obtain ⟨f, fd, F, h1, h2⟩ := d.ex
  exact ⟨f, fd, ps, rfl, fn_def F Sc hk fun cdv A outer s H E σ0 hr => hb f cdv A outer s H E σ0 (Bx.def hK Sc.nd hr), h1, F.kp, h2⟩
/-! the law's own promise -/
/-- of a script: the law says True -/
def spLaw (K : PySem.W.Frag) (T : List (Addr × Str)) (m : Nat) : Sp := fun vs H Q _ => ∃ (a : Addr) (ns : List Int), vs = [.ref a] ∧ ns.length ≤ m ∧ LamX.Tabs T H ∧ (Rd H a (.lst (ns.map V.int)) ∨ KL K a (ns.map V.int)) ∧ ∀ H', Q (.bl true) H'
theorem reps_ints {H : Hp} {S : Set'} : ∀ ns : List Int, RepDs C H S (ns.map V.int) (ns.map D.int)
  | [] => rfl
  | n :: ns => ⟨.int n, ns.map V.int, rfl, rfl, reps_ints ns⟩
theorem law_sp {g : Fn} {m : Nat} (h : ∀ ns : List Int, ns.length ≤ m → ∃ ps, g [.sh (.lst (ns.map D.int))] = .ok (.sh (.bl true)) ps) (vs : List V) (H : Hp) (Q : VK) (E : XK) (q : spLaw C.K C.tabs m vs H Q E) : spD C 1 g vs H Q E := by
  obtain ⟨a, ns, rfl, hl, ho, hr, q⟩ := q
  obtain ⟨ps, eg⟩ := h ns hl
  refine ⟨[.sh (.lst (ns.map D.int))], fun b => b = a ∧ ∃ u, H b = some u, No, rfl, ⟨.ref a, [], No, No, rfl, ⟨emp_no, a, ns.map V.int, rfl, ?_, reps_ints ns⟩, ⟨rfl, emp_no⟩, ⟨fun _ => ⟨fun z => z.elim, fun z => z.elim id id⟩, fun _ z => z.elim⟩⟩, ⟨fun _ z => z.elim, fun _ z => z.elim, fun b z => z.2, ho⟩, ?_⟩
  · rcases hr with hr | hr
    · refine .inl ⟨⟨rfl, ?_⟩, hr⟩
      rcases hr with h | ⟨o, h⟩
      · exact ⟨_, h⟩
      · exact ⟨_, h⟩
    · exact .inr hr
  · rw [eg]
    intro v H' S' A' B _ r _ _ _
    have e : v = .bl true := r.2
    rw [e]
    exact q H'
end
/-- the end: as walk_of, the script's own record told, with the tables of the defs that make lambdas -/
theorem walk_D {l : PySem.W.OpenLaw} {n k : Nat} {q : Program} {loose : List Str} {XP : (Str → Option Value) → Heap → Prop} {YP : World → Heap → Prop} {d : DefRec} {K : Params → PySem.W.Frag} {x : Str}
    (hn : l.most = some n) (hn2 : n ≤ sizeLine) (hdf : d.params.defaults = []) (hr : Room k callerA)
    (hY : ∀ (w : World) (h : Heap), YP w h → (K w.params).In h)
    (F : ∀ (w : World) (mg : Str → Option Value) (fa : Addr) (h : Heap), (K w.params).In h → h.Ns mainGlobals mg → mg d.name = some (.ref fa) →
      ∃ (fd : FuncData) (cs : List (Addr × Addr)) (T : List (Addr × Str)), (∀ (s : Shared) (u : Value), BindsTo s fd ⟨[u], []⟩ [(x, u)]) ∧ (∀ p ∈ cs, (K w.params).lookup p.2 = none) ∧
        (∀ p ∈ cs, ∃ (y : Str) (e : DefRec), (recsOf q).find? (fun e => e.name == y) = some e ∧ PySem.W.tabIn (K w.params) y = some p) ∧ (∀ t ∈ T, ∃ p ∈ cs, p.2 = t.1) ∧
        ∀ base : Heap, (K w.params).In base → base.Ns mainGlobals mg → (∀ p ∈ cs, LamX.TabB base mg p.1 p.2) → FnOk l.prog w (K w.params) mg base (L2.CX l.prog w) k fa fd [x] (spLaw (K w.params) T n)) :
    PySem.W.WalkO q loose XP YP l.row.toRowW d [] (fun f vs => PySem.call f vs) := by
  refine Att.attach_call hn hdf fun w s₀ s₁ mg mb fa o pm cd doc a vs ns G Y ho hd hcd hmg hobj hints hlen hg => ?_
  have KX := hY w _ Y
  obtain ⟨fd, cs, T, hb, nT, hrec, hTT, hF⟩ := F w mg fa _ KX G.T.g hmg
  have tabs : ∀ p ∈ cs, PySem.W.CodeHd s₁.heap p.1 p.2 ∧ s₁.heap.get? p.2 = some { cls := .none, data := .fields #[] } := fun p hp => by
    obtain ⟨y, e, h1, h2⟩ := hrec p hp
    exact PySem.W.tab_of G.T KX h1 h2
  refine LamX.law_callTs (cs := cs) KX G.T.g G.T.b G.T.builtins G.T.nolimit hg (fun p hp => (tabs p hp).2) nT (fun p hp => (tabs p hp).1) G.T.bmain hobj hints (Nat.le_trans hlen hn2) hr hF hb (fun H hH hS => ⟨a, ns, rfl, hlen, fun t ht => ?_, ?_, fun _ => rfl⟩) fun H e s' h => ?_
  · obtain ⟨p, hp, e⟩ := hTT t ht
    exact LamX.TabS.nil (by rw [← e]; exact hH p hp)
  · rcases hS with h | ⟨o, its, m, h1, _, _, _, _, _⟩
    · exact .inl h
    · have e := (KX a o h1).symm.trans hobj
      cases e
      exact .inr ⟨by rw [List.length_map]; exact Nat.le_trans hlen hn2, vs, _, vals_ints hints, h1⟩
  · obtain ⟨_, _, _, _, _, _, _, _, _, _, _, _, z⟩ := h
    exact z
end G
end

section
set_option maxRecDepth 100000
set_option maxHeartbeats 2000000
open PySem PySem.Spec PyProof.Rows L2
namespace G
theorem bt_len : bootBuiltins "len" = some (.builtin "len") := by first | boot_by_name | rfl | kernel_rfl
theorem bt_abs : bootBuiltins "abs" = some (.builtin "abs") := by first | boot_by_name | rfl | kernel_rfl
theorem bt_max : bootBuiltins "max" = some (.builtin "max") := by first | boot_by_name | rfl | kernel_rfl
theorem bt_min : bootBuiltins "min" = some (.builtin "min") := by first | boot_by_name | rfl | kernel_rfl
theorem bt_all : bootBuiltins "all" = some (.builtin "all") := by first | boot_by_name | rfl | kernel_rfl
theorem bt_any : bootBuiltins "any" = some (.builtin "any") := by first | boot_by_name | rfl | kernel_rfl
theorem bt_int : bootBuiltins "int" = some (.type "int") := by first | boot_by_name | rfl | kernel_rfl
theorem bt_str : bootBuiltins "str" = some (.type "str") := by first | boot_by_name | rfl | kernel_rfl
theorem bt_bool : bootBuiltins "bool" = some (.type "bool") := by first | boot_by_name | rfl | kernel_rfl
theorem bt_tuple : bootBuiltins "tuple" = some (.type "tuple") := by first | boot_by_name | rfl | kernel_rfl
theorem bt_list : bootBuiltins "list" = some (.type "list") := by first | boot_by_name | rfl | kernel_rfl
theorem bt_dict : bootBuiltins "dict" = some (.type "dict") := by first | boot_by_name | rfl | kernel_rfl
section
variable {md : Bool} {C : Cn} {P : Fx} {E : WX} {X : Cx} {e k : Expr} {es : List Expr} {pos : Pos} {f h : Fe} {j : Nat}
theorem pl_ix {i : Expr} (h : ∀ ov iv, subscripted i false ov iv = operate [ov, iv] (getItem ov iv)) : PlainIx i := h
/-- len(x), x looked at -/
theorem dlenV {i : Nat} {x : Str} {p1 p : Pos} (b : Bx md C j X E) (hm : X.mg "len" = none) (hN : X.N[i]? = some x := by rfl) (hv : Vis X.env.scope x := by first | exact Or.inl rfl | exact Or.inr (Or.inl rfl) | exact Or.inr (Or.inr rfl)) (hd : (x == ("__debug__" : Str)) = false := by decide)
    (hcd : (x == ("__classdict__" : Str)) = false := by decide) (hg : Gl X "len" := by rfl) (he : starEach [.Name x p1] X.env = (false, eval (.Name x p1) X.env) :: starEach [] X.env := by rfl) (hpl : (backTo pos (starEach [] X.env)).any (·.1) = false := by rfl) :
    DE C E X (.Call (.Name "len" p) [.Name x p1] [] pos) (e1l lenG (vVar i)) := de_callV (og_len b.ok) hg hm bt_len (vv i hN hv hd hcd) (by decide) (by decide) he hpl
theorem dappV {i : Nat} {x : Str} {p1 apos : Pos} (he : DE C E X e f) (hN : X.N[i]? = some x := by rfl) (hv : Vis X.env.scope x := by first | exact Or.inl rfl | exact Or.inr (Or.inl rfl) | exact Or.inr (Or.inr rfl))
    (hd : (x == ("__debug__" : Str)) = false := by decide) (hcd : (x == ("__classdict__" : Str)) = false := by decide)
    (hbase : attributeBase (.Name x p1) "append" X.env (eval (.Name x p1) X.env) = eval (.Name x p1) X.env := by rfl)
    (hfew : ((backTo pos (starEach [e] X.env)).all (fun x => !x.1) && (backToKw pos (keywordEach [] X.env)).all (fun x => x.1.isSome)
      && decide ([e].length + ([] : List Keyword).length + (if ([] : List Keyword).isEmpty then 0 else 1) < 30)) = true := by rfl)
    (hline : (apos.endLine == pos.line) = true := by rfl) (hs : starEach [e] X.env = (false, eval e X.env) :: starEach [] X.env := by rfl) (hplain : (backTo pos (starEach [] X.env)).any (·.1) = false := by rfl) :
    DE C E X (.Call (.Attribute (.Name x p1) "append" apos) [e] [] pos) (eApp i f) := de_app hN hv he hd hcd hbase hfew hline hs hplain
theorem dpop {i : Nat} {x : Str} {p1 apos : Pos} (hN : X.N[i]? = some x := by rfl) (hv : Vis X.env.scope x := by first | exact Or.inl rfl | exact Or.inr (Or.inl rfl) | exact Or.inr (Or.inr rfl)) (hd : (x == ("__debug__" : Str)) = false := by decide) (hcd : (x == ("__classdict__" : Str)) = false := by decide)
    (hbase : attributeBase (.Name x p1) "pop" X.env (eval (.Name x p1) X.env) = eval (.Name x p1) X.env := by rfl) (hline : (apos.endLine == pos.line) = true := by rfl) :
    DE C E X (.Call (.Attribute (.Name x p1) "pop" apos) [] [] pos) (ePop i) := de_pop hN hv hd hcd hbase hline
theorem dpopA {i : Nat} {x : Str} {p1 apos : Pos} (he : DE C E X e f) (hN : X.N[i]? = some x := by rfl) (hv : Vis X.env.scope x := by first | exact Or.inl rfl | exact Or.inr (Or.inl rfl) | exact Or.inr (Or.inr rfl)) (hd : (x == ("__debug__" : Str)) = false := by decide) (hcd : (x == ("__classdict__" : Str)) = false := by decide)
    (hbase : attributeBase (.Name x p1) "pop" X.env (eval (.Name x p1) X.env) = eval (.Name x p1) X.env := by rfl)
    (hfew : ((backTo pos (starEach [e] X.env)).all (fun x => !x.1) && (backToKw pos (keywordEach [] X.env)).all (fun x => x.1.isSome)
      && decide ([e].length + ([] : List Keyword).length + (if ([] : List Keyword).isEmpty then 0 else 1) < 30)) = true := by rfl)
    (hline : (apos.endLine == pos.line) = true := by rfl) (hs : starEach [e] X.env = (false, eval e X.env) :: starEach [] X.env := by rfl) (hplain : (backTo pos (starEach [] X.env)).any (·.1) = false := by rfl) :
    DE C E X (.Call (.Attribute (.Name x p1) "pop" apos) [e] [] pos) (ePopA i f) := de_popA hN hv he hd hcd hbase hfew hline hs hplain
theorem ditO {i : Nat} {x : Str} {p1 : Pos} (b : Bx md C j X E) (hk : DE C E X k h) (hs : PlainIx k) (hN : X.N[i]? = some x := by rfl) (hv : Vis X.env.scope x := by first | exact Or.inl rfl | exact Or.inr (Or.inl rfl) | exact Or.inr (Or.inr rfl)) (hd : (x == ("__debug__" : Str)) = false := by decide) (hcd : (x == ("__classdict__" : Str)) = false := by decide) :
    DE C E X (.Subscript (.Name x p1) k pos) (eItemO i h) := de_itemO b.ok hN hv hk hs hd hcd
theorem dset {i : Nat} {x : Str} {pos' : Pos} (b : Bx md C j X E) (hp : i ∉ P.pi) (he : DE C E X e f) (hi : X.N[i]? = some x := by rfl) (hx : Loc X.env.scope x := by first | exact Or.inl rfl | exact Or.inr rfl) (hs : swapsWith e (some (.Name x pos')) pos.line X.env = pure false := by rfl)
    (hf : X.fn x = true ∨ X.env.scope.names.lookup x = some .local := by first | exact .inl rfl | exact .inr rfl | assumption) : DS C P E X (.Assign [.Name x pos'] e pos) (sSet i f) := ds_set b.ok.nd hi hx hp he hs hf
/-- a target of several names, the value not written as such, or some name captured -/
def sUnp (t : D → Env' → Option Env') (f : Fe) : Fs := fun ρ => (f ρ).then' fun o ρ1 => match t o.toD ρ1 with
  | some ρ2 => .nx ρ2
  | none => .bad
theorem ds_unp {tg : Expr} {g : TG} {t : D → Env' → Option Env'} {ts : List Nat} (hg : PG X tg g) (ht : TgtOk C P g t ts) (he : DE C E X e f) (hs : swapsWithSole [tg] e pos.line X.env = pure false := by rfl) (hw : swappedStores [tg] e X.env = pure none := by rfl)
    (h1 : (assignEach [tg] X.env).map (·.2) = [assign tg X.env] := by rfl) : DS C P E X (.Assign [tg] e pos) (sUnp t f) := by
  refine ps_imp (ps_asg he hg hs hw h1) fun D σ H ⟨ρ, S, F, he, w, p, q⟩ => rE_then he w p q fun o ρ1 ef v H' S' F' A a b c d fr q => ?_
  cases et : t o.toD ρ1 with
  | none => simp only [et] at q; exact q.elim
  | some ρ2 =>
    simp only [et] at q
    refine ht σ H' (Un' S' A) F' ρ1 v o.toD ρ2 D.nx (a.mono kp_sh fun _ _ => rfl) (c.share d) p (b.share (fun _ z => .inl z) fun _ z => .inr z) et fun σ3 F3 he3 w3 p3 sub _ _ => q σ3 H' (Un' S' A) F3 he3 w3 p3 (fr.share.trans (fr_sub sub))
theorem tgt_tk {K : PySem.W.Frag} {n : Nat} {gs : TGs} {u : List D → Env' → Option Env'} {ts : List Nat} (hK : K = C.K) (h : TgsOk C P gs u ts) : TgtOk C P (gTup K n gs) (tT n u) ts := by
  subst hK
  exact tgt_tup h
end
/-- the law's own def -/
theorem fn_top {C : Cn} {k : Nat} {P : Program} {w : World} {K : PySem.W.Frag} {mg : Str → Option Value} {base : Heap} {x : Str} {st : Stmt} {N : List Str} {p : Str} {ks : List Bool} {body : Fs} {f : Addr} {fd : FuncData} (Fd : Fun K x x st f fd) (hK : K = C.K) (Sc : FnScope N [p] (defScope st)) (hk : ks.length = 1)
    (hb : ∀ (f : Addr) (cdv : Value) (A : Around) (outer : List PySem.Env) (s : Shared) (H : Hp) (E : XK) (σ0 : L2.St), Bx md C k (cxOf (CXm md P w) P w K mg base N x (defScope st) f cdv A outer s H E) (fun c d _ H => E c d H) →
      DSs C ⟨piOf ks 0, σ0⟩ (fun c d _ H => E c d H) (cxOf (CXm md P w) P w K mg base N x (defScope st) f cdv A outer s H E) (defBody st) body)
    {m : Nat} (hp : ∀ ns : List Int, ns.length ≤ m → ∃ ps, fnG N.length ks body [.sh (.lst (ns.map D.int))] = .ok (.sh (.bl true)) ps) :
    FnOk P w K mg base (CXm md P w) (k + 1) f fd [p] (spLaw K C.tabs m) := by
  have F := fn_def (base := base) (mg := mg) (P := P) (w := w) Fd Sc hk fun cdv A outer s H E σ0 hr => hb f cdv A outer s H E σ0 (Bx.def hK Sc.nd hr)
  refine F.imp fun vs H Q E q => ?_
  rw [hK] at q
  exact law_sp hp vs H Q E q
theorem exm_of {K : PySem.W.Frag} {S D : Addr} {b : Bool} (h1 : PySem.W.subIn K (.ref D) (.type "BaseException") = some true) (h2 : PySem.W.isClsIn K D = true) (h3 : PySem.W.typeIn K (.ref D) = some (.type "type")) (h4 : PySem.W.subIn K (.ref S) (.ref D) = some b) :
    PySem.W.exmOne K (.ref S) (.ref D) = some b := by
  have e1 : (PySem.W.subIn K (.ref D) (.type "BaseException") == some true) = true := by rw [h1] <;> rfl
  have e2 : ((PySem.W.clsIn K D).isSome && PySem.W.typeIn K (.ref D) == some (.type "type")) = true := by
    have h2' : (PySem.W.clsIn K D).isSome = true := h2
    rw [h2', h3] <;> rfl
  show (if (PySem.W.subIn K (.ref D) (.type "BaseException") == some true) = true then (if ((PySem.W.clsIn K D).isSome && PySem.W.typeIn K (.ref D) == some (.type "type")) = true then PySem.W.subIn K (.ref S) (.ref D) else none) else none) = some b
  rw [if_pos e1, if_pos e2]
  exact h4
end G
end

section
set_option maxRecDepth 100000
set_option maxHeartbeats 4000000
open PySem PySem.Spec PyProof.Rows
namespace GS
/-! sets of texts, any number of them -/
def met (l : List Str) (x : Str) : List Str := if x ∈ l then l else l ++ [x]
/-- the different ones, as first met -/
def dl (ys : List Str) : List Str := ys.foldl met []
theorem met_any (l : List Str) (x k : Str) : (met l x).any (· == k) = (l.any (· == k) || decide (k = x)) := by
  unfold met
  by_cases h : x ∈ l
  · rw [if_pos h]
    by_cases e : k = x
    · subst e
      have : l.any (· == k) = true := List.any_eq_true.mpr ⟨k, h, by simp⟩
      simp [this]
    · simp [e]
  · rw [if_neg h, List.any_append]
    congr 1
    by_cases e : k = x
    · subst e; simp
    · have hb : (x == k) = false := by simpa [beq_iff_eq] using (fun h' : x = k => e h'.symm)
      simp [hb, e]
theorem met_len (l : List Str) (x : Str) : (met l x).length = if l.any (· == x) = true then l.length else l.length + 1 := by
  unfold met
  by_cases h : x ∈ l
  · have : l.any (· == x) = true := List.any_eq_true.mpr ⟨x, h, by simp⟩
    rw [if_pos h, if_pos this]
  · have : ¬ l.any (· == x) = true := fun z => by
      obtain ⟨y, hy, e⟩ := List.any_eq_true.mp z
      have : y = x := by simpa using e
      exact h (this ▸ hy)
    rw [if_neg h, if_neg this, List.length_append]; rfl
theorem met_le (l : List Str) (x : Str) : (met l x).length ≤ l.length + 1 := by
  rw [met_len]; split <;> omega
theorem dl_take_succ {ys : List Str} {i : Nat} (h : i < ys.length) : dl (ys.take (i + 1)) = met (dl (ys.take i)) (ys.getD i Str.empty) := by
  unfold dl
  have e : ys.take (i + 1) = ys.take i ++ [ys[i]] := by rw [List.take_succ]; simp [h]
  rw [e, List.foldl_append]
  simp [List.getD, h]
theorem dl_le : ∀ (ys l : List Str), (ys.foldl met l).length ≤ l.length + ys.length
  | [], l => Nat.le_refl _
  | y :: ys, l => by
    have := dl_le ys (met l y)
    have := met_le l y
    show (ys.foldl met (met l y)).length ≤ _
    rw [List.length_cons]; omega
/-- the set at a holds the texts l, and can be walked -/
structure TxS (P : Program) (w : World) (h : Heap) (a : Addr) (l : List Str) : Prop where
  ex : ∃ D : Froz.SD, h.get? a = some (Froz.sObj "set" D) ∧ Froz.TxOk P w D l ∧ L2.Ris D.2.2.place.toList ∧ (w.params.followText "set-order" = true ∨ D.2.2.led = true)
theorem TxS.keep {P : Program} {w : World} {h h' : Heap} {a : Addr} {l : List Str} (R : TxS P w h a l) (k : ∀ o, h.get? a = some o → h'.get? a = some o) : TxS P w h' a l := by
  obtain ⟨D, h1, r⟩ := R.ex
  exact ⟨D, k _ h1, r⟩
theorem tail_ris {ep : Nat} {es : Array (Int × Value)} {t : SetTable} {b : Bool} (r : L2.Ris t.place.toList) : L2.Ris (Froz.tailTx ep es t b).2.2.place.toList := by
  unfold Froz.tailTx
  split
  · exact L2.relayAll_ris _ _ _
  · exact r
theorem tail_led {ep : Nat} {es : Array (Int × Value)} {t : SetTable} {b : Bool} : (Froz.tailTx ep es t b).2.2.led = t.led := by
  unfold Froz.tailTx
  split
  · exact L2.relayAll_led _ _ _
  · rfl
theorem add_ris {v : Int} {x : Value} {D : Froz.SD} (r : L2.Ris D.2.2.place.toList) : L2.Ris (Froz.addTx v x D).2.2.place.toList := by
  have q := L2.layNew_ris D.2.2 D.1 v x r
  unfold Froz.addTx
  refine tail_ris ?_
  split
  · exact q
  · exact q
theorem add_led {v : Int} {x : Value} {D : Froz.SD} : (Froz.addTx v x D).2.2.led = D.2.2.led := by
  have q := L2.layNew_led D.2.2 D.1 v x
  unfold Froz.addTx
  refine tail_led.trans ?_
  split
  · exact q
  · exact q
theorem tx_end {P : Program} {w : World} {D : Froz.SD} {l : List Str} {k : Str} (F : Froz.TxOk P w D (k :: l)) : Froz.TxOk P w D (l ++ [k]) where
  el := F.el
  mem := fun z => by rw [← F.mem z]; simp [or_comm]
  sz := by rw [F.sz]; simp
  fit := F.fit
section
variable {P : Program} {w : World} {A : Around} {E : Value → Shared → Prop} {s : Shared}
/-- one more text -/
theorem TxS.add {a : Addr} {l : List Str} {k : Str} {u : Tok} {Q : Bool → Shared → Prop} (R : TxS P w s.heap a l) (hb : l.length + 1 < scanBound)
    (h : ∀ h' b, Heap.SameBut a s.heap h' → TxS P w h' a (met l k) → Q b { s with heap := h' }) : wpAny (model P w) A (setAddHashed a (.str k u) (hashStr w k)) Q E s := by
  obtain ⟨D, ho, F, hr, hl⟩ := R.ex
  by_cases hk : k ∈ l
  · have e : met l k = l := if_pos hk
    rw [e] at h
    obtain ⟨es, ep, t⟩ := D
    have fit : t.fits es.size = true := F.fit
    have els : ElemsOf (PySem.strKind P w) es.toList := F.el
    have few : es.size < scanBound := by
      have z : es.size = l.length := F.sz
      omega
    have is : (PySem.strKind P w).is k (.str k u) = true := Froz.is_str k u
    have same : Q false s := h s.heap false (Heap.SameBut.refl a s.heap) R
    unfold setAddHashed setAddHashedIn
    refine wpAny_holding (wpAny_bind (wpAny_setState_of ho rfl fit ?_))
    dsimp only
    rw [byScan_of rfl few els]
    simp only [↓reduceIte]
    unfold setAddByScan
    refine wpAny_bind (wpAny_bind (wpAny_rule (wpAny_bind (wpAny_setScan_of (knd := PySem.strKind P w) (k := k) is ho rfl fit els ?_))))
    cases hf : List.findIdx? (fun e => (PySem.strKind P w).is k e.2) es.toList with
    | some j => exact wpAny_pure (wpAny_pure same)
    | none =>
      exfalso
      obtain ⟨e, he, q⟩ := (F.mem k).mp hk
      have c := List.findIdx?_eq_none_iff.mp hf e he
      rw [q] at c
      cases c
  · have e : met l k = l ++ [k] := if_neg hk
    rw [e] at h
    refine Froz.add_x ho F hk hb (h _ true (Heap.SameBut.update s.heap a _) ⟨_, Froz.get_upd _ ho rfl, tx_end (Froz.add_ok u F), add_ris hr, hl.imp id fun z => by rw [add_led]; exact z⟩)
end
section
variable {prog : Program} {w : World} {A : Around} {R : Result → Shared → Prop} {I : Addr} {fp wr : List Addr} {G : Array GenState → Array GenState → Prop} {n : Nat} {P : Nat → Value → Prop} {St : Nat → Shared → Prop}
/-- a text put in -/
theorem put_text {prog : Program} {w : World} {A : Around} {E : Value → Shared → Prop} {s : Shared} {S : Addr} {l : List Str} {x : Str} {t : Tok} {Q : Bool → Shared → Prop} (T : TxS prog w s.heap S l) (room : l.length + 1 < scanBound)
    (q : ∀ h' b, Heap.SameBut S s.heap h' → TxS prog w h' S (met l x) → Q b { s with heap := h', toks := s.toks + 1 }) : wpAny (model prog w) A (holding [.str x t] (setAdd S (.str x t))) Q E s := by
  unfold setAdd
  exact wpAny_holding (wpAny_holding (wpAny_bind ((PySem.strKind prog w).pyHash (k := x) (strKind_is _ _ _ _) (TxS.add (s := { s with toks := s.toks + 1 }) T room q))))
theorem loopS (W : WalksS prog w A.in1 I fp wr G n P St) (S : Addr) (hSf : S ∉ fp) (xs : List Str) (hsz : xs.length = n) (hn1 : n + 1 < scanBound)
    (hval : ∀ i v, P i v → ∃ t, v = .str (xs.getD i Str.empty) t) :
    ∀ (k i : Nat) (s : Shared), n - i = k → i ≤ n → St i s →
      TxS prog w s.heap S (dl (xs.take i)) →
      (∀ s', Moved (S :: wr) G s s' → TxS prog w s'.heap S (dl xs) → R (.ok (.ret .none)) s') →
      codeAny (model prog w) A (.builtin "set.update.loop" ⟨[.ref S, .ref I], []⟩) R s
  | k, i, s => by
    intro left le st T fin
    have apart : S ∉ wr := fun z => hSf (W.sub S z)
    have more : ∀ {b}, b ∈ wr → b ∈ S :: wr := List.mem_cons_of_mem S
    refine codeAny_builtin PyProof.Rows.F.entry_set_update_loop ?_
    rw [Around.under_plainId PyProof.Rows.F.plain_set_update_loop _]
    by_cases lt : i < n
    · have few : (dl (xs.take i)).length + 1 < scanBound := by
        have u := dl_le (xs.take i) []
        rw [List.length_take] at u
        unfold dl
        simp only [List.length_nil] at u
        omega
      refine wpAny_bind (m := pyNext (.ref I)) (W.item i s _ _ lt st fun v s1 pv st1 m1 => ?_)
      obtain ⟨t, rfl⟩ := hval i v pv
      refine wpAny_bind (m := holding [Value.str (xs.getD i Str.empty) t] (setAdd S (.str (xs.getD i Str.empty) t))) (put_text (T.keep fun o e => m1.heap S o apart e) few fun h' _ sb T' => ?_)
      rw [← dl_take_succ (by omega)] at T'
      have st2 := W.frame _ s1 h' (s1.toks + 1) st1 (Nat.le_succ _) fun b hb o e => (sb.2 b fun z : b = S => hSf (z ▸ hb)).trans e
      refine wpAny_pure ⟨plainId_quiet PyProof.Rows.F.plain_set_update_loop _, loopS W S hSf xs hsz hn1 hval (n - (i + 1)) (i + 1) _ rfl lt st2 T' fun s2 m2 T2 => fin s2 ?_ T2⟩
      exact Moved.trans W.gtrans ((m1.mono fun _ => more).then_heap (Nat.le_succ _) fun b o hb e => (sb.2 b fun z : b = S => hb (z ▸ List.mem_cons_self)).trans e) m2
    · have e : i = n := by omega
      subst e
      refine wpAny_bind (m := pyNext (.ref I)) (W.done s _ _ st fun s1 m1 => wpAny_pure (fin s1 (m1.mono fun _ => more) ?_))
      rw [show xs.take i = xs from List.take_of_length_le (Nat.le_of_eq hsz)] at T
      exact T.keep fun o e => m1.heap S o apart e
  termination_by k i s => n - i
end
section
variable {prog : Program} {w : World} {A : Around} {E : Value → Shared → Prop} {s : Shared}
set_option maxHeartbeats 3200000 in
theorem set_list {l : Addr} {items : Array Value} {xs : List Str} {Q : Value → Shared → Prop} (nohandler : A.handled = none) (at_l : s.heap.IsList l items) (texts : PyProof.Rows.StrsAre items.toList xs) (few : xs.length + 1 < scanBound)
    (h : ∀ (h' : Heap) (tk : Nat), TxS prog w h' s.heap.objs.size (dl xs) → (∀ b o, b < s.heap.objs.size → s.heap.get? b = some o → h'.get? b = some o) → Q (.ref s.heap.objs.size) { s with heap := h', toks := tk }) :
    wpAny (model prog w) A (call (.type "set") [.ref l]) Q E s := by
  obtain ⟨c0, tl0, m0⟩ := PySem.F.called_set.mro
  have f1 := PySem.F.called_set.made; have f2 := PySem.F.called_set.sub
  refine wpAny_call (codeAny_of_tree (?_ : wpAny _ _ (callAny (.type "set") _) _ _ _))
  refine wpAny_pure ⟨Code.quiet_builtin _ (by decide +kernel), codeAny_builtin PySem.F.entry_type_call ?_⟩
  rw [Around.under_plain (weight_type_call_type "set" [.ref l] []) rfl]
  have f3 := PySem.F.called_set.notType; have f4 := PySem.F.called_set.canCreate; have f5 := PySem.F.typeCall_set_1 (.ref l)
  repeat (any_goals (first | assumption | wp_step))
  refine codeAny_mono (L2.code_set_led1 (.ref l) (E := E) (Q₁ := fun ob t₁ => ob = .ref s.heap.objs.size ∧ t₁ = { s with heap := (s.heap.push { cls := .type "set", dict := none, data := .set #[] 0 (.fresh 0 0 (!w.params.followText "set-order")) }) }) ⟨rfl, rfl⟩) fun r t₁ hr => ?_
  cases r with
  | error e => exact hr
  | ok fl =>
    cases fl with
    | ret ob =>
      obtain ⟨rfl, rfl⟩ := hr
      have at_S : (s.heap.push { cls := .type "set", dict := none, data := .set #[] 0 (.fresh 0 0 (!w.params.followText "set-order")) }).get? s.heap.objs.size = some { cls := .type "set", dict := none, data := .set #[] 0 (.fresh 0 0 (!w.params.followText "set-order")) } := Heap.get?_push_size _ rfl
      have ty_S : Shared.TypeIs { s with heap := (s.heap.push { cls := .type "set", dict := none, data := .set #[] 0 (.fresh 0 0 (!w.params.followText "set-order")) }) } (.ref s.heap.objs.size) "set" := ⟨_, at_S, rfl⟩
      have g1 := PySem.F.called_set.init.lookup; have g2 := PySem.F.called_set.init.bind (.ref s.heap.objs.size)
      repeat (any_goals (first | assumption | wp_step))
      refine codeAny_mono (codeAny_call_builtin (R := wants (fun r t₂ => r = .none ∧ ∃ h' tk, t₂ = { s with heap := h', toks := tk } ∧ TxS prog w h' s.heap.objs.size (dl xs) ∧
          (∀ b o, b < s.heap.objs.size → s.heap.get? b = some o → h'.get? b = some o)) E) PySem.F.called_set.init.plain PySem.F.entry_set_init (check_set_init_1 ty_S ?_)) fun r₂ t₂ hr₂ => ?_
      · obtain ⟨⟨oc, od, odt, osl⟩, ol_at, ol_c, nl, ol_d⟩ := at_l
        simp only at ol_c ol_d
        subst ol_c; subst ol_d
        have up_l : (s.heap.push { cls := .type "set", dict := none, data := .set #[] 0 (.fresh 0 0 (!w.params.followText "set-order")) }).get? l = some { cls := .type "list", dict := od, data := .seq items nl, slots := osl } := Heap.get?_push_of_some _ ol_at
        have k1 := PySem.F.sub_list_set; have k2 := PySem.F.sub_list_frozenset
        have k3 : (Value.type "list" == Value.type "dict") = false := by decide
        have seq_l : (s.heap.push { cls := .type "set", dict := none, data := .set #[] 0 (.fresh 0 0 (!w.params.followText "set-order")) }).IsList l items := ⟨_, up_l, rfl, nl, rfl⟩
        unfold Builtin.«set.__init__» noKeywords Builtin.Frozenset.updateFrom
        generalize kept : pyIter = PI
        wp_walk
        subst kept
        refine wpAny_pyIter_list seq_l (wpAny_bind (wpAny_runValue ?_))
        have l_lt : l < s.heap.objs.size := Heap.lt_size ol_at
        have nh : A.in1.in1.in1.handled = none := by simp [nohandler]
        have l_ne : l ≠ (s.heap.push { cls := .type "set", dict := none, data := .set #[] 0 (.fresh 0 0 (!w.params.followText "set-order")) }).objs.size := by
          rw [Heap.size_push]; exact Nat.ne_of_lt (Nat.lt_succ_of_lt l_lt)
        have S_no : s.heap.objs.size ∉ [(s.heap.push { cls := .type "set", dict := none, data := .set #[] 0 (.fresh 0 0 (!w.params.followText "set-order")) }).objs.size, l] := by
          rw [Heap.size_push]; simp only [List.mem_cons, List.not_mem_nil, or_false, not_or]; exact ⟨Nat.ne_of_lt (Nat.lt_succ_self _), Nat.ne_of_gt l_lt⟩
        have n_is : xs.length = items.size := by rw [← StrsAre.len_eq texts, Array.length_toList]
        have vals : ∀ (i : Nat) (v : Value), items[i]? = some v → ∃ t, v = .str (xs.getD i Str.empty) t := fun i v hv => SS.strs_at texts i v (by rw [Array.getElem?_toList]; exact hv)
        refine loopS ((Walks.list nh _ l l_ne items).toS) s.heap.objs.size S_no xs n_is (by rw [← n_is]; exact few) vals (items.size - 0) 0 _ (by omega) (Nat.zero_le _) ⟨⟨_, Heap.get?_push_size _ rfl, rfl, rfl⟩, (seq_l.push _)⟩ ?start ?stop
        case start =>
          have still : ((s.heap.push { cls := .type "set", dict := none, data := .set #[] 0 (.fresh 0 0 (!w.params.followText "set-order")) }).push { cls := .type "list_iterator", data := .fields #[.ref l, .int 0 0] }).get? s.heap.objs.size = some { cls := .type "set", dict := none, data := .set #[] 0 (.fresh 0 0 (!w.params.followText "set-order")) } := Heap.get?_push_of_some _ at_S
          refine ⟨(#[], 0, .fresh 0 0 (!w.params.followText "set-order")), still, Froz.TxOk.nil rfl, List.Pairwise.nil, ?_⟩
          cases w.params.followText "set-order" with
          | true => exact .inl rfl
          | false => exact .inr rfl
        case stop =>
          intro s' mv hS'
          obtain ⟨h', g', d', tk', os'⟩ := s'
          obtain rfl : g' = s.gens := mv.gens
          obtain rfl : d' = s.drawn := mv.drawn
          obtain rfl : os' = s.os := mv.os
          show wpAny _ _ _ _ _ _
          refine wpAny_pure (?_ : wpAny _ _ (ret Value.none) _ _ _)
          refine wpAny_pure ⟨rfl, h', tk', rfl, hS', fun b o hb e => mv.heap b o ?_ (Heap.get?_push_of_some _ (Heap.get?_push_of_some _ e))⟩
          simp only [List.mem_cons, List.not_mem_nil, or_false, not_or]
          rw [Heap.size_push]
          exact ⟨Nat.ne_of_lt hb, Nat.ne_of_lt (Nat.lt_succ_of_lt hb)⟩
      · cases r₂ with
        | error e => exact hr₂
        | ok fl₂ =>
          cases fl₂ with
          | ret r =>
            obtain ⟨rfl, h', tk, rfl, hS', keep⟩ := hr₂
            repeat (any_goals (first | assumption | wp_step))
            exact h _ _ hS' keep
          | _ => exact hr₂.elim
    | _ => exact hr.elim
set_option maxHeartbeats 3200000 in
theorem set_tuple {l : Addr} {items : Array Value} {xs : List Str} {Q : Value → Shared → Prop} (nohandler : A.handled = none) (at_l : s.heap.IsTuple l items) (texts : PyProof.Rows.StrsAre items.toList xs) (few : xs.length + 1 < scanBound)
    (h : ∀ (h' : Heap) (tk : Nat), TxS prog w h' s.heap.objs.size (dl xs) → (∀ b o, b < s.heap.objs.size → s.heap.get? b = some o → h'.get? b = some o) → Q (.ref s.heap.objs.size) { s with heap := h', toks := tk }) :
    wpAny (model prog w) A (call (.type "set") [.ref l]) Q E s := by
  obtain ⟨c0, tl0, m0⟩ := PySem.F.called_set.mro
  have f1 := PySem.F.called_set.made; have f2 := PySem.F.called_set.sub
  refine wpAny_call (codeAny_of_tree (?_ : wpAny _ _ (callAny (.type "set") _) _ _ _))
  refine wpAny_pure ⟨Code.quiet_builtin _ (by decide +kernel), codeAny_builtin PySem.F.entry_type_call ?_⟩
  rw [Around.under_plain (weight_type_call_type "set" [.ref l] []) rfl]
  have f3 := PySem.F.called_set.notType; have f4 := PySem.F.called_set.canCreate; have f5 := PySem.F.typeCall_set_1 (.ref l)
  repeat (any_goals (first | assumption | wp_step))
  refine codeAny_mono (L2.code_set_led1 (.ref l) (E := E) (Q₁ := fun ob t₁ => ob = .ref s.heap.objs.size ∧ t₁ = { s with heap := (s.heap.push { cls := .type "set", dict := none, data := .set #[] 0 (.fresh 0 0 (!w.params.followText "set-order")) }) }) ⟨rfl, rfl⟩) fun r t₁ hr => ?_
  cases r with
  | error e => exact hr
  | ok fl =>
    cases fl with
    | ret ob =>
      obtain ⟨rfl, rfl⟩ := hr
      have at_S : (s.heap.push { cls := .type "set", dict := none, data := .set #[] 0 (.fresh 0 0 (!w.params.followText "set-order")) }).get? s.heap.objs.size = some { cls := .type "set", dict := none, data := .set #[] 0 (.fresh 0 0 (!w.params.followText "set-order")) } := Heap.get?_push_size _ rfl
      have ty_S : Shared.TypeIs { s with heap := (s.heap.push { cls := .type "set", dict := none, data := .set #[] 0 (.fresh 0 0 (!w.params.followText "set-order")) }) } (.ref s.heap.objs.size) "set" := ⟨_, at_S, rfl⟩
      have g1 := PySem.F.called_set.init.lookup; have g2 := PySem.F.called_set.init.bind (.ref s.heap.objs.size)
      repeat (any_goals (first | assumption | wp_step))
      refine codeAny_mono (codeAny_call_builtin (R := wants (fun r t₂ => r = .none ∧ ∃ h' tk, t₂ = { s with heap := h', toks := tk } ∧ TxS prog w h' s.heap.objs.size (dl xs) ∧
          (∀ b o, b < s.heap.objs.size → s.heap.get? b = some o → h'.get? b = some o)) E) PySem.F.called_set.init.plain PySem.F.entry_set_init (check_set_init_1 ty_S ?_)) fun r₂ t₂ hr₂ => ?_
      · obtain ⟨⟨oc, od, odt, osl⟩, ol_at, ol_c, nl, ol_d⟩ := at_l
        simp only at ol_c ol_d
        subst ol_c; subst ol_d
        have up_l : (s.heap.push { cls := .type "set", dict := none, data := .set #[] 0 (.fresh 0 0 (!w.params.followText "set-order")) }).get? l = some { cls := .type "tuple", dict := od, data := .seq items nl, slots := osl } := Heap.get?_push_of_some _ ol_at
        have k1 := PySem.F.sub_tuple_set; have k2 := PySem.F.sub_tuple_frozenset
        have k3 : (Value.type "tuple" == Value.type "dict") = false := by decide
        have seq_l : (s.heap.push { cls := .type "set", dict := none, data := .set #[] 0 (.fresh 0 0 (!w.params.followText "set-order")) }).IsTuple l items := ⟨_, up_l, rfl, nl, rfl⟩
        unfold Builtin.«set.__init__» noKeywords Builtin.Frozenset.updateFrom
        generalize kept : pyIter = PI
        wp_walk
        subst kept
        refine wpAny_pyIter_tuple seq_l (wpAny_bind (wpAny_runValue ?_))
        have l_lt : l < s.heap.objs.size := Heap.lt_size ol_at
        have nh : A.in1.in1.in1.handled = none := by simp [nohandler]
        have l_ne : l ≠ (s.heap.push { cls := .type "set", dict := none, data := .set #[] 0 (.fresh 0 0 (!w.params.followText "set-order")) }).objs.size := by
          rw [Heap.size_push]; exact Nat.ne_of_lt (Nat.lt_succ_of_lt l_lt)
        have S_no : s.heap.objs.size ∉ [(s.heap.push { cls := .type "set", dict := none, data := .set #[] 0 (.fresh 0 0 (!w.params.followText "set-order")) }).objs.size, l] := by
          rw [Heap.size_push]; simp only [List.mem_cons, List.not_mem_nil, or_false, not_or]; exact ⟨Nat.ne_of_lt (Nat.lt_succ_self _), Nat.ne_of_gt l_lt⟩
        have n_is : xs.length = items.size := by rw [← StrsAre.len_eq texts, Array.length_toList]
        have vals : ∀ (i : Nat) (v : Value), items[i]? = some v → ∃ t, v = .str (xs.getD i Str.empty) t := fun i v hv => SS.strs_at texts i v (by rw [Array.getElem?_toList]; exact hv)
        refine loopS ((Walks.tuple nh _ l l_ne items).toS) s.heap.objs.size S_no xs n_is (by rw [← n_is]; exact few) vals (items.size - 0) 0 _ (by omega) (Nat.zero_le _) ⟨⟨_, Heap.get?_push_size _ rfl, rfl, rfl⟩, (seq_l.push _)⟩ ?start ?stop
        case start =>
          have still : ((s.heap.push { cls := .type "set", dict := none, data := .set #[] 0 (.fresh 0 0 (!w.params.followText "set-order")) }).push { cls := .type "tuple_iterator", data := .fields #[.ref l, .int 0 0] }).get? s.heap.objs.size = some { cls := .type "set", dict := none, data := .set #[] 0 (.fresh 0 0 (!w.params.followText "set-order")) } := Heap.get?_push_of_some _ at_S
          refine ⟨(#[], 0, .fresh 0 0 (!w.params.followText "set-order")), still, Froz.TxOk.nil rfl, List.Pairwise.nil, ?_⟩
          cases w.params.followText "set-order" with
          | true => exact .inl rfl
          | false => exact .inr rfl
        case stop =>
          intro s' mv hS'
          obtain ⟨h', g', d', tk', os'⟩ := s'
          obtain rfl : g' = s.gens := mv.gens
          obtain rfl : d' = s.drawn := mv.drawn
          obtain rfl : os' = s.os := mv.os
          show wpAny _ _ _ _ _ _
          refine wpAny_pure (?_ : wpAny _ _ (ret Value.none) _ _ _)
          refine wpAny_pure ⟨rfl, h', tk', rfl, hS', fun b o hb e => mv.heap b o ?_ (Heap.get?_push_of_some _ (Heap.get?_push_of_some _ e))⟩
          simp only [List.mem_cons, List.not_mem_nil, or_false, not_or]
          rw [Heap.size_push]
          exact ⟨Nat.ne_of_lt hb, Nat.ne_of_lt (Nat.lt_succ_of_lt hb)⟩
      · cases r₂ with
        | error e => exact hr₂
        | ok fl₂ =>
          cases fl₂ with
          | ret r =>
            obtain ⟨rfl, h', tk, rfl, hS', keep⟩ := hr₂
            repeat (any_goals (first | assumption | wp_step))
            exact h _ _ hS' keep
          | _ => exact hr₂.elim
    | _ => exact hr.elim
end
end GS
end

section
set_option maxRecDepth 100000
set_option maxHeartbeats 2000000
open PySem PySem.Spec PyProof.Rows L2
namespace G
/-! x.extend(a list just made) -/
def eExt (i : Nat) (f : Fe) : Fe := fun ρ => match lstAt i ρ with
  | some _ => (f ρ).bind fun o ρ1 => match o with
    | .lst zs => match lstAt i ρ1 with
      | some os => if os.length + zs.length ≤ big then .ok (.sh .non) (ρ1.set i (some (.lst (os ++ zs)))) else .bad
      | none => .bad
    | _ => .bad
  | none => .bad
section
variable {md : Bool} {C : Cn} {P : Fx} {E : WX} {X : Cx} {σ : L2.St} {H H1 H' : Hp} {S S1 S' F F1 A B : Set'} {ρ : Env'} {pos : Pos} {f : Fe} {e : Expr}
theorem RepOs.app : ∀ {vs ws : List V} {os zs : List O} {A Y : Set'}, RepOs C H S vs os A → RepOs C H S ws zs Y → Dj A Y → RepOs C H S (vs ++ ws) (os ++ zs) (Un' A Y)
  | vs, ws, [], zs, A, Y, r, ro, d => by
    obtain ⟨rfl, em⟩ := r
    have : Un' A Y = Y := funext fun a => propext ⟨fun z => z.elim (fun z => (em a z).elim) id, .inr⟩
    rw [this]; exact ro
  | vs, ws, o :: os, zs, A, Y, r, ro, d => by
    obtain ⟨v, t, P, R, rfl, r1, r2, s⟩ := r
    refine ⟨v, t ++ ws, P, Un' R Y, rfl, r1, RepOs.app r2 ro (fun a x y => d a (s.r x) y), fun a => ?_, fun a x y => y.elim (fun y => s.2 a x y) fun y => d a (s.l x) y⟩
    constructor
    · rintro (z | z)
      · exact ((s.1 a).mp z).elim .inl fun z => .inr (.inl z)
      · exact .inr (.inr z)
    · rintro (z | z | z)
      · exact .inl (s.l z)
      · exact .inl (s.r z)
      · exact .inr z
theorem de_ext {i : Nat} {x : Str} {p1 apos : Pos} (he : DE C E X e f) (hN : X.N[i]? = some x := by rfl) (hv : Vis X.env.scope x := by first | exact Or.inl rfl | exact Or.inr (Or.inl rfl) | exact Or.inr (Or.inr rfl))
    (hd : (x == ("__debug__" : Str)) = false := by decide) (hcd : (x == ("__classdict__" : Str)) = false := by decide)
    (hbase : attributeBase (.Name x p1) "extend" X.env (eval (.Name x p1) X.env) = eval (.Name x p1) X.env := by rfl)
    (hfew : ((backTo pos (starEach [e] X.env)).all (fun x => !x.1) && (backToKw pos (keywordEach [] X.env)).all (fun x => x.1.isSome)
      && decide ([e].length + ([] : List Keyword).length + (if ([] : List Keyword).isEmpty then 0 else 1) < 30)) = true := by rfl)
    (hline : (apos.endLine == pos.line) = true := by rfl) (hs : starEach [e] X.env = (false, eval e X.env) :: starEach [] X.env := by rfl) (hplain : (backTo pos (starEach [] X.env)).any (·.1) = false := by rfl) :
    DE C E X (.Call (.Attribute (.Name x p1) "extend" apos) [e] [] pos) (eExt i f) := by
  refine pe_imp (pe_bm PySem.F.plainAttrs_list PySem.F.slot_list_extend PySem.F.type_list_extend mt_extend (pe_var hN hv hd hcd) (pa_cons he pa_nil hs) hbase hfew hline hs hplain) fun σ H Q ⟨ρ, S, F, he, w, q⟩ => ?_
  unfold eExt at q
  cases e0 : lstAt i ρ with
  | none => rw [e0] at q; exact q.elim
  | some os0 =>
    rw [e0] at q
    obtain ⟨v0, A0, B0, ev, r0, _, _, _⟩ := own_at he (lstAt_eq e0)
    obtain ⟨a, vs0, A1, rfl, h0, _, _⟩ := r0
    refine ⟨.ref a, ev, .inl ⟨rfl, vs0, SqL.of h0⟩, ρ, S, F, he, w, ?_⟩
    cases ef : f ρ with
    | bad => rw [ef] at q; exact q
    | exc x ρ' => rw [ef] at q; exact q
    | ok o ρ1 =>
      rw [ef] at q
      simp only [bind_ok] at q
      intro v H1 S1 F1 Y he1 r1 w1 d1 fr1
      cases o with
      | sh d => exact q.elim
      | dct l => exact q.elim
      | ins c l => exact q.elim
      | lst zs =>
        simp only [] at q
        cases e1 : lstAt i ρ1 with
        | none => rw [e1] at q; exact q.elim
        | some os =>
          rw [e1] at q
          by_cases hl : os.length + zs.length ≤ big
          · simp only [hl, if_true] at q
            obtain ⟨b, ws, Z, rfl, hb, rz, sY⟩ := r1
            obtain ⟨v', A, B, ev', r, rfl, dAB, he2, hi, dYA, dYB⟩ := tmp_own he1 d1 w1 (lstAt_eq e1)
            rw [ev] at ev'
            cases ev'
            obtain ⟨a', vs, G, ea, h1, r2, sG⟩ := r
            injection ea with ea
            subst ea
            have eA := sG.un
            subst eA
            refine ⟨a, b, vs, ws, rfl, rfl, h1, hb, by rw [r2.len, rz.len]; exact big_line hl, ?_⟩
            have dGZ : Dj G Z := fun c x y => dYA c (sY.r y) (.inr x)
            have mem : ∀ c, Un' (fun c => c = a) (Un' (Un' G Z) B) c → Un' Y (Un' (Un' (fun c => c = a) G) B) c := fun c z => by
              rcases z with z | (z | z) | z
              · exact .inr (.inl (.inl z))
              · exact .inr (.inl (.inr z))
              · exact .inl (sY.r z)
              · exact .inr (.inr z)
            have nG : ¬ Un' G Z a := fun z => z.elim (fun z => sG.2 a rfl z) fun z => dYA a (sY.r z) (.inl rfl)
            have nB : ¬ B a := fun z => dAB a (.inl rfl) z
            obtain ⟨k1, k2, k3⟩ := own_write (u := .lst (vs ++ ws)) (o := .lst (os ++ zs)) (G := Un' G Z) he2 hi ev trivial ⟨fun c z => w1.mu c (mem c z), fun c z => w1.ns c (mem c z), w1.so, w1.tb⟩ nG nB (fun c x y => x.elim (fun x => dAB c (.inr x) y) fun x => dYB c (sY.r x) y) (fr1.less mem) fun k kk =>
              ⟨a, vs ++ ws, Un' G Z, rfl, upd_same, RepOs.app (r2.mono k fun c z => kk c (.inl z)) (rz.mono k fun c z => kk c (.inr z)) dGZ, fun c => Iff.rfl, fun c z1 z2 => nG (z1 ▸ z2)⟩
            exact q .non _ S1 _ No k1 ⟨emp_no, rfl⟩ (wf_no k2) dj_no (fr_no k3)
          · simp only [hl, if_false] at q
end
end G
end

section
set_option maxRecDepth 100000
set_option maxHeartbeats 2000000
open PySem PySem.Spec PyProof.Rows L2
namespace G
/-! repr, str of scalars -/
def reprG : List D → Option O
  | [.non] => some (sO "None")
  | [.bl b] => some (sO (if b then "True" else "False"))
  | [.int i] => if i.natAbs.log2 < 1920 then some (sO (toString i)) else none
  | [.str x] => if (reprText x).length ≤ big then some (sO (reprText x)) else none
  | _ => none
def strG : List D → Option O
  | [.non] => some (sO "None")
  | [.bl b] => some (sO (if b then "True" else "False"))
  | [.int i] => if i.natAbs.log2 < 1920 then some (sO (toString i)) else none
  | [.str x] => some (sO x)
  | _ => none
theorem bt_repr : bootBuiltins "repr" = some (.builtin "repr") := by first | boot_by_name | rfl | kernel_rfl
section
variable {md : Bool} {C : Cn} {X : Cx} {σ : L2.St} {H : Hp} {S : Set'}
theorem og_repr0 : CallR X (.builtin "repr") (rVn C reprG) := by
  intro pins s σ H xs us Q I r ⟨S, ds, so, rd, o, eo, q⟩
  unfold reprG at eo
  split at eo
  · obtain ⟨x, rfl, r1⟩ := reps1 rd
    have e1 : x = .non := r1
    subst e1
    obtain ⟨u, rfl, ru⟩ := vals1 r
    obtain rfl : u = Value.none := ru
    exact PySem.P.repr_of_none ⟨.str _, H, I.tok _, ⟨_, rfl⟩, q_sc so q (Option.some.inj eo).symm rfl⟩
  · obtain ⟨x, rfl, r1⟩ := reps1 rd
    have e1 : x = .bl _ := r1
    subst e1
    obtain ⟨u, rfl, ru⟩ := vals1 r
    obtain rfl : u = Value.bool _ := ru
    exact PySem.P.repr_of_bool ⟨.str _, H, I.tok _, ⟨_, rfl⟩, q_sc so q (Option.some.inj eo).symm rfl⟩
  · split at eo
    · next h =>
      obtain ⟨x, rfl, r1⟩ := reps1 rd
      have e1 : x = .int _ := r1
      subst e1
      obtain ⟨u, rfl, t, rfl⟩ := vals1 r
      exact PySem.P.repr_of_int h ⟨.str _, H, I.tok _, ⟨_, rfl⟩, q_sc so q (Option.some.inj eo).symm rfl⟩
    · cases eo
  · split at eo
    · next h =>
      obtain ⟨x, rfl, r1⟩ := reps1 rd
      have e1 : x = .str _ := r1
      subst e1
      obtain ⟨u, rfl, t, rfl⟩ := vals1 r
      exact PySem.P.repr_of_str ⟨.str _, H, I.tok _, ⟨_, rfl⟩, q_sc so q (Option.some.inj eo).symm rfl⟩ (big_line h)
    · cases eo
  · cases eo
theorem og_repr (ok : OkX C X) : CallR X (.builtin "repr") (rVn C reprG) := og_repr0
theorem og_str (ok : OkX C X) : CallR X (.type "str") (rVn C strG) := by
  intro pins s σ H xs us Q I r ⟨S, ds, so, rd, o, eo, q⟩
  unfold strG at eo
  split at eo
  · obtain ⟨x, rfl, r1⟩ := reps1 rd
    have e1 : x = .non := r1
    subst e1
    obtain ⟨u, rfl, ru⟩ := vals1 r
    obtain rfl : u = Value.none := ru
    exact PySem.P.str_of_none ⟨.str _, H, I.tok _, ⟨_, rfl⟩, q_sc so q (Option.some.inj eo).symm rfl⟩
  · obtain ⟨x, rfl, r1⟩ := reps1 rd
    have e1 : x = .bl _ := r1
    subst e1
    obtain ⟨u, rfl, ru⟩ := vals1 r
    obtain rfl : u = Value.bool _ := ru
    exact PySem.P.str_of_bool ⟨.str _, H, I.tok _, ⟨_, rfl⟩, q_sc so q (Option.some.inj eo).symm rfl⟩
  · split at eo
    · next h =>
      obtain ⟨x, rfl, r1⟩ := reps1 rd
      have e1 : x = .int _ := r1
      subst e1
      obtain ⟨u, rfl, t, rfl⟩ := vals1 r
      exact PySem.P.str_of_int h ⟨.str _, H, I.tok _, ⟨_, rfl⟩, q_sc so q (Option.some.inj eo).symm rfl⟩
    · cases eo
  · obtain ⟨x, rfl, r1⟩ := reps1 rd
    have e1 : x = .str _ := r1
    subst e1
    obtain ⟨u, rfl, t, rfl⟩ := vals1 r
    exact PySem.P.str_of_str ⟨.str _, H, I, ⟨t, rfl⟩, q_sc so q (Option.some.inj eo).symm rfl⟩
  · cases eo
end
end G
end

section
set_option maxRecDepth 100000
set_option maxHeartbeats 2000000
open PySem PySem.Spec PyProof.Rows L2
namespace G
/-! len(set(x)), x a list or tuple of texts: the set itself is not kept -/
def tLenS (K : PySem.W.Frag) (ta : TE) : TE := fun σ H Q => ta σ H fun x H1 => ∃ l, ∃ ys : List Str, x = .ref l ∧ (SqL K H1 l (ys.map V.str) ∨ SqT K H1 l (ys.map V.str)) ∧ ys.length + 1 < scanBound ∧ Q (.int (GS.dl ys).length) H1
def setB : Nat := 4000
def lenSetG : D → Option O
  | .lst l => (strsD l).bind fun ys => if ys.length < setB then some (iO (GS.dl ys).length) else none
  | .tup l => (strsD l).bind fun ys => if ys.length < setB then some (iO (GS.dl ys).length) else none
  | _ => none
section
variable {md : Bool} {C : Cn} {E : WX} {X : Cx} {a : Expr} {ta : TE} {p p2 q pos : Pos} {f : Fe}
theorem pe_lenS (hc : X.calm = true) (hg : Gl X "len") (hm : X.mg "len" = none) (hg2 : Gl X "set") (hm2 : X.mg "set" = none) (ha : PE X a ta)
    (na : starEach [a] X.env = (false, eval a X.env) :: starEach [] X.env := by rfl) : PE X (.Call (.Name "len" p) [.Call (.Name "set" p2) [a] [] q] [] pos) (tLenS X.K ta) := by
  refine ⟨fun pins s σ H Q I h => Call_ (ld_blt I hg hm boot_len ?_)⟩
  refine PyProof.Rows.callWith_builtin1 (PyProof.Rows.args_cons (Call_ (ld_blt I hg2 hm2 boot_set ?_)) rfl) rfl rfl
  refine PyProof.Rows.callWith_type1 (PyProof.Rows.args_cons (thn (ha.run pins s σ H _ I h) fun v s1 ⟨x, H1, I1, r1, q1⟩ => PyProof.Rows.args_nil ?_) na) na rfl
  obtain ⟨l, xs, rfl, hq, h1, q1⟩ := q1
  cases r1
  have last : ∀ (h' : Heap) (tk : Nat), GS.TxS X.prog X.w h' s1.heap.objs.size (GS.dl xs) → (∀ b o, b < s1.heap.objs.size → s1.heap.get? b = some o → h'.get? b = some o) →
      wpAny (model X.prog X.w) X.A (spliced (backTo pos (starEach [] X.env))) (fun vs s₂ => wpAny (model X.prog X.w) X.A (call (.builtin "len") (Value.ref s1.heap.objs.size :: vs)) (EP X pins σ Q) X.xe s₂) X.xe { s1 with heap := h', toks := tk } := fun h' tk hS hk => by
    refine PyProof.Rows.args_nil ?_
    obtain ⟨⟨es, ep, t⟩, ho, F, _, _⟩ := hS.ex
    have hn : es.size = (GS.dl xs).length := F.sz
    have I2 : Inv X pins σ H1 { s1 with heap := h', toks := tk } := I1.kept fun b o e => hk b o (Heap.lt_size e) e
    have lt : (GS.dl xs).length < 2 ^ 62 := by
      have := GS.dl_le xs []
      have hb : scanBound ≤ 2 ^ 62 := by decide
      unfold GS.dl
      simp at this
      omega
    refine call_len_set ho ⟨rfl, rfl, rfl⟩ rfl F.fit (by rw [hn]; omega) ⟨.int (GS.dl xs).length, H1, I2.tok _, ⟨_, by rw [hn]⟩, q1⟩
  rcases hq with hq | hq
  · obtain ⟨its, r, pl, _⟩ := I1.list hq
    exact GS.set_list (I1.ok.hd hc) pl.isList (by simpa using strsAre_of r) h1 last
  · obtain ⟨its, r, pl, _⟩ := I1.tuple hq
    exact GS.set_tuple (I1.ok.hd hc) pl (by simpa using strsAre_of r) h1 last
theorem big_scan {n : Nat} (h : n < setB) : n + 1 < scanBound := Nat.lt_of_le_of_lt (Nat.succ_le_of_lt h) (by decide)
theorem de_lenS (ok : OkX C X) (hm : X.mg "len" = none) (hm2 : X.mg "set" = none) (ha : DE C E X a f) (hg : Gl X "len" := by rfl) (hg2 : Gl X "set" := by rfl)
    (na : starEach [a] X.env = (false, eval a X.env) :: starEach [] X.env := by rfl) : DE C E X (.Call (.Name "len" p) [.Call (.Name "set" p2) [a] [] q] [] pos) (e1 lenSetG f) := by
  refine pe_imp (pe_lenS ok.calm hg hm hg2 hm2 ha na) fun σ H Q q => ?_
  have q' := r1_of q
  obtain ⟨ρ, S, F, he, w, q'⟩ := q'
  refine ⟨ρ, S, F, he, w, ?_⟩
  cases ef : f ρ with
  | bad => rw [ef] at q'; exact q'
  | exc x ρ' => rw [ef] at q'; exact q'
  | ok o ρ1 =>
    rw [ef] at q'
    intro v H' S' F' A a1 a2 a3 a4 a5
    obtain ⟨S2, d, so, rd, o', eo, q2⟩ := q' v H' S' F' A a1 a2 a3 a4 a5
    unfold lenSetG at eo
    split at eo
    · obtain ⟨ys, ey, eo⟩ := Option.bind_eq_some_iff.mp eo
      split at eo
      · next hl =>
        obtain ⟨b, vs, rfl, h1, hr⟩ := rd
        have := strs_rep ey hr
        subst this
        exact ⟨b, ys, rfl, .inl (lst_sq ok.K h1), big_scan hl, q_sc so q2 (Option.some.inj eo).symm rfl⟩
      · cases eo
    · obtain ⟨ys, ey, eo⟩ := Option.bind_eq_some_iff.mp eo
      split at eo
      · next hl =>
        obtain ⟨b, vs, rfl, h1, hr⟩ := rd
        have := strs_rep ey hr
        subst this
        exact ⟨b, ys, rfl, .inr (tup_sq ok.K h1), big_scan hl, q_sc so q2 (Option.some.inj eo).symm rfl⟩
      · cases eo
    · cases eo
end
end G
end

section
set_option maxRecDepth 100000
set_option maxHeartbeats 2000000
open PySem PySem.Spec PyProof.Rows L2
namespace G
/-! dicts under a name: an empty one is taken for either kind of keys -/
section
variable {X : Cx} {pins : List (Addr × Obj)} {σ : L2.St} {H : Hp} {s : Shared} {a : Addr}
theorem pairs_nil {prog : Program} {w : World} {K : Type} [DecidableEq K] {knd : PySem.KeyKind prog w K} : ∀ {l : List DictEntry}, Pairs knd l [] → l = []
  | [], _ => rfl
  | _ :: _, h => nomatch h
theorem cast_T (I : Inv X pins σ H s) (e : H a = some (.dK [])) : Inv X pins σ (upd H a (.dT [])) s := by
  obtain ⟨z, hd, vs, rel, o, es, ep, h1, h2, h3, _, h4, h5⟩ := dk_of I.hok e
  cases rel
  exact d_write (t' := s.toks) I (by rw [e]; exact True.intro) ⟨rfl, fun b _ => rfl⟩ ⟨o, h1⟩ ⟨Nat.zero_le _, hd, [], .nil, o, es, ep, h1, h2, h3, pairs_nil h4, List.nodup_nil⟩
theorem cast_K (I : Inv X pins σ H s) (e : H a = some (.dT [])) : Inv X pins σ (upd H a (.dK [])) s := by
  obtain ⟨z, hd, vs, rel, o, es, ep, h1, h2, h3, h4, _, h5⟩ := dt_of I.hok e
  cases rel
  have h6 : es = #[] := Array.toList_inj.mp (show es.toList = [] from h4)
  subst h6
  exact d_write (t' := s.toks) I (by rw [e]; exact True.intro) ⟨rfl, fun b _ => rfl⟩ ⟨o, h1⟩ ⟨Nat.zero_le _, hd, [], .nil, o, #[], ep, h1, h2, h3, fun x hx => absurd hx (by simp), .nil, List.nodup_nil⟩
/-- after e, an empty dict somewhere is taken for one with keys of the other kind -/
def tCast (td : TE) : TE := fun σ H Q => td σ H fun x H1 => Q x H1 ∨ ∃ a, (H1 a = some (.dK []) ∧ Q x (upd H1 a (.dT []))) ∨ (H1 a = some (.dT []) ∧ Q x (upd H1 a (.dK [])))
theorem pe_cast {e : Expr} {td : TE} (h : PE X e td) : PE X e (tCast td) := ⟨fun pins s σ H Q I q => thn (h.run pins s σ H _ I q) fun v s1 ⟨x, H1, I1, r1, q1⟩ => by
  rcases q1 with q1 | ⟨a, ⟨e1, q1⟩ | ⟨e1, q1⟩⟩
  · exact ⟨x, H1, I1, r1, q1⟩
  · exact ⟨_, _, cast_T I1 e1, r1, q1⟩
  · exact ⟨_, _, cast_K I1 e1, r1, q1⟩⟩
end
end G
end

section
set_option maxRecDepth 100000
set_option maxHeartbeats 2000000
open PySem PySem.Spec PyProof.Rows L2
namespace G
/-! {} -/
def eDnew : Fe := fun ρ => .ok (.dct []) ρ
section
variable {md : Bool} {C : Cn} {E : WX} {X : Cx} {pos : Pos}
theorem de_dnew : DE C E X (.Dict [] [] pos) eDnew := pe_imp pe_dnewK fun σ H Q ⟨ρ, S, F, he, w, q⟩ p hp => by
  obtain ⟨h1, w1, d1, f1⟩ := alc_step he w Fr.refl (Alc.own (o := .dK []) w.so hp trivial)
  exact q _ _ _ _ _ h1 ⟨p, No, rfl, List.nodup_nil, .inl ⟨[], upd_same, rfl, emp_no⟩, ⟨fun a => ⟨.inl, fun z => z.elim id False.elim⟩, fun a _ z => z⟩⟩ w1 d1 f1
end
end G
end

section
set_option maxRecDepth 100000
set_option maxHeartbeats 2000000
open PySem PySem.Spec PyProof.Rows L2
namespace G
/-! x[k] = e, x a slot with an owned dict -/
def keysD : List D → Option (List Key)
  | [] => some []
  | d :: l => (keyD d).bind fun k => (keysD l).map (k :: ·)
def kdD : D → Option Kd
  | .tup l => (keysD l).map .inr
  | d => (keyD d).map .inl
theorem keysD_rep {C : Cn} {H : Hp} {S : Set'} : ∀ {l : List D} {ks : List Key} {vs : List V}, keysD l = some ks → RepDs C H S vs l → vs = ks.map kV
  | [], ks, vs, h, r => by cases h; exact r
  | d :: l, ks, vs, h, r => by
    obtain ⟨v, q, rfl, r1, r2⟩ := r
    obtain ⟨k, e1, e2⟩ := Option.bind_eq_some_iff.mp h
    obtain ⟨k2, e3, e4⟩ := Option.map_eq_some_iff.mp e2
    subst e4
    rw [List.map_cons, ← keysD_rep e3 r2, keyD_rep e1 r1]
def dctAt (i : Nat) (ρ : Env') : Option (List (Kd × O)) := match ρ[i]? with
  | some (some (.dct os)) => some os
  | _ => none
theorem dctAt_eq {i : Nat} {ρ : Env'} {os : List (Kd × O)} (h : dctAt i ρ = some os) : ρ[i]? = some (some (.dct os)) := by
  unfold dctAt at h
  split at h
  · next e => cases h; exact e
  · cases h
def sideOk (j : Kd) (os : List (Kd × O)) : Bool := os.all fun p => p.1.isLeft == j.isLeft
def sPutD (i : Nat) (fk fe : Fe) : Fs := fun ρ => (fe ρ).then' fun o ρ1 => match dctAt i ρ1 with
  | some _ => (fk ρ1).then' fun k ρ2 => match dctAt i ρ2 with
    | some os => match kdD k.toD with
      | some j => if sideOk j os = true ∧ os.length < big then .nx (ρ2.set i (some (.dct (putO os j o)))) else .bad
      | none => .bad
    | none => .bad
  | none => .bad
section
variable {md : Bool} {C : Cn} {H : Hp} {S A : Set'} {os : List (Kd × O)}
theorem side_T {vs : List (List Key × V)} {j : Key} (r : RepOT C H S vs os A) (h : sideOk (.inl j) os = true) : os = [] ∧ vs = [] := by
  cases os with
  | nil => exact ⟨rfl, r.1⟩
  | cons p os =>
    obtain ⟨k, o⟩ := p
    obtain ⟨j', v, q, P, R, rfl, rfl, _⟩ := r
    simp [sideOk] at h
theorem side_K {vs : List (Key × V)} {j : List Key} (r : RepOK C H S vs os A) (h : sideOk (.inr j) os = true) : os = [] ∧ vs = [] := by
  cases os with
  | nil => exact ⟨rfl, r.1⟩
  | cons p os =>
    obtain ⟨k, o⟩ := p
    obtain ⟨j', v, q, P, R, rfl, rfl, _⟩ := r
    simp [sideOk] at h
theorem upd_upd {a : Addr} {u w : HO} : upd (upd H a u) a w = upd H a w := by
  funext b
  by_cases e : b = a
  · subst e; rw [upd_same, upd_same]
  · rw [upd_ne e, upd_ne e, upd_ne e]
end
end G
end

section
set_option maxRecDepth 100000
set_option maxHeartbeats 2000000
open PySem PySem.Spec PyProof.Rows L2
namespace G
section
variable {md : Bool} {C : Cn} {P : Fx} {E : WX} {X : Cx} {σ : L2.St} {H H1 : Hp} {S S1 F F1 A B : Set'} {ρ : Env'} {e k : Expr} {pos : Pos} {f h : Fe}
theorem ds_putD {i : Nat} {x : Str} {p1 tpos : Pos} (hu : X.A.units + 1 < cLine) (hN : X.N[i]? = some x) (hv : Vis X.env.scope x) (he : DE C E X e f) (hk : DE C E X k h)
    (hd : (x == ("__debug__" : Str)) = false := by decide) (hcd : (x == ("__classdict__" : Str)) = false := by decide)
    (hs : swapsWith e (some (.Subscript (.Name x p1) k tpos)) pos.line X.env = pure false := by rfl) :
    DS C P E X (.Assign [.Subscript (.Name x p1) k tpos] e pos) (sPutD i h f) := by
  refine ps_imp (ps_dput hu (pe_var hN hv hd hcd) (pe_cast hk) he hs) fun D σ H ⟨ρ, S, F, he, w, p, q⟩ => rE_then he w p q fun o ρ1 ef y H1 S1 F1 Y he1 r1 w1 d1 fr1 q => ?_
  cases e0 : dctAt i ρ1 with
  | none => rw [e0] at q; exact q.elim
  | some os0 =>
    rw [e0] at q
    obtain ⟨v0, A0, B0, ev, r0, _, _, _⟩ := own_at he1 (dctAt_eq e0)
    obtain ⟨a, A1, rfl, _⟩ := r0
    refine ⟨.ref a, ev, ρ1, S1, F1, he1, w1.drop, ?_⟩
    cases eh : h ρ1 with
    | bad => rw [eh] at q; exact q.elim
    | exc x ρ' =>
      rw [eh] at q
      exact fun c d H2 S2 F2 he2 w2 fr2 rx => q c d σ H2 S2 F2 he2 w2 p (fr1.drop.trans fr2) rx
    | ok ko ρ2 =>
      rw [eh] at q
      simp only [then_ok] at q
      intro kv H2 S2 F2 Z he2 rk w2 d2 fr2
      obtain ⟨ka, d3, w3, fr3, kp⟩ := fr_tmp w1 d1 fr1 fr2.drop w2.drop
      have ry := r1.mono kp ka
      have rkd := rk.share (S' := Un' S2 Z) (fun _ => .inl) fun _ => .inr
      cases e1 : dctAt i ρ2 with
      | none => rw [e1] at q; exact q.elim
      | some os =>
        rw [e1] at q
        cases ei : kdD ko.toD with
        | none => simp only [ei] at q; exact q.elim
        | some j =>
          simp only [ei] at q
          split at q
          · next hc =>
            obtain ⟨hsd, hbig⟩ := hc
            obtain ⟨v', A, B, ev', r, rfl, dAB, he3, hi, dYA, dYB⟩ := tmp_own he2 d3 w3 (dctAt_eq e1)
            rw [ev] at ev'
            cases ev'
            obtain ⟨a', G, ea, nd, r2, sG⟩ := r
            injection ea with ea
            subst ea
            have eA := sG.un
            subst eA
            have dGY : Dj G Y := fun b x y => dYA b y (.inr x)
            have eq1 : Un' Y (Un' (Un' (fun b => b = a) G) B) = Un' (fun b => b = a) (Un' (Un' G Y) B) := by
              funext b; apply propext; constructor
              · rintro (h | (h | h) | h)
                · exact .inr (.inl (.inr h))
                · exact .inl h
                · exact .inr (.inl (.inl h))
                · exact .inr (.inr h)
              · rintro (h | (h | h) | h)
                · exact .inr (.inl (.inl h))
                · exact .inr (.inl (.inr h))
                · exact .inl h
                · exact .inr (.inr h)
            rw [eq1] at w3 fr3
            have nG0 : ¬ Un' G Y a := fun z => z.elim (fun z => sG.2 a rfl z) fun z => dYA a z (.inl rfl)
            have nB : ¬ B a := fun z => dAB a (.inl rfl) z
            have fin : ∀ (u : HO) (G' : Set'), Mo (some u) → (∀ b, G' b → Un' G Y b) → (Kp H2 S2 (upd H2 a u) S2 → (∀ b, G' b → upd H2 a u b = H2 b) → RepO C (upd H2 a u) S2 (.ref a) (.dct (putO os j o)) (fun b => b = a ∨ G' b)) → D.nx σ (upd H2 a u) := fun u G' mu sub new => by
              have lessU : ∀ b, Un' (fun b => b = a) (Un' G' B) b → Un' (fun b => b = a) (Un' (Un' G Y) B) b := fun b z => z.elim .inl fun z => .inr (z.elim (fun z => .inl (sub b z)) .inr)
              have nG : ¬ G' a := fun z => nG0 (sub a z)
              have dGB : Dj G' B := fun b x y => (sub b x).elim (fun x => dAB b (.inr x) y) fun x => dYB b x y
              obtain ⟨k1, k2, k3⟩ := own_write (u := u) (o := .dct (putO os j o)) (G := G') he3 hi ev mu ⟨fun b z => w3.mu b (lessU b z), fun b z => w3.ns b (lessU b z), w3.so, w3.tb⟩ nG nB dGB (fr3.less lessU) new
              exact q σ _ S2 _ k1 k2 p k3
            have line : os.length < sizeLine := Nat.lt_of_lt_of_le hbig (big_line (Nat.le_refl _))
            cases j with
            | inl j =>
              have ey : kv = kV j := by
                generalize hko : ko.toD = kd at ei rkd
                cases kd <;> simp [kdD, keysD] at ei
                all_goals exact keyD_rep (by first | exact ei | (simp [keyD]; exact ei)) rkd
              rcases r2 with ⟨kvs, hl, r2⟩ | ⟨kvs, hl, r2⟩
              · obtain ⟨G', rs, sub⟩ := RepOK.put (k := j) r2 nd ry dGY
                exact .inl ⟨a, _, rfl, .inl ⟨kvs, j, hl, ey, by rw [r2.len]; exact line, rfl⟩, fin _ G' trivial sub fun kk k => ⟨a, G', rfl, putO_nd nd, .inl ⟨_, upd_same, rs.mono kk k⟩, fun b => Iff.rfl, fun b z1 z2 => nG0 (sub a (z1 ▸ z2))⟩⟩
              · obtain ⟨rfl, rfl⟩ := side_T r2 hsd
                have r3 : RepOK C H2 S2 [] [] G := ⟨rfl, r2.2⟩
                obtain ⟨G', rs, sub⟩ := RepOK.put (k := j) r3 nd ry dGY
                exact .inr ⟨a, .inr ⟨hl, a, _, rfl, .inl ⟨[], j, upd_same, ey, Nat.lt_of_le_of_lt (Nat.zero_le _) line, rfl⟩, by
                  rw [upd_upd]
                  exact fin _ G' trivial sub fun kk k => ⟨a, G', rfl, putO_nd nd, .inl ⟨_, upd_same, rs.mono kk k⟩, fun b => Iff.rfl, fun b z1 z2 => nG0 (sub a (z1 ▸ z2))⟩⟩⟩
            | inr j =>
              have ey : ∃ b, kv = .ref b ∧ H2 b = some (.tup (j.map kV)) := by
                generalize hko : ko.toD = kd at ei rkd
                cases kd <;> simp [kdD, keyD] at ei
                obtain ⟨b, vs, rfl, hb, rr⟩ := rkd
                exact ⟨b, rfl, by rw [hb, keysD_rep ei rr]⟩
              obtain ⟨b, rfl, hb⟩ := ey
              rcases r2 with ⟨kvs, hl, r2⟩ | ⟨kvs, hl, r2⟩
              · obtain ⟨rfl, rfl⟩ := side_K r2 hsd
                have r3 : RepOT C H2 S2 [] [] G := ⟨rfl, r2.2⟩
                obtain ⟨G', rs, sub⟩ := RepOT.put (k := j) r3 nd ry dGY
                have nb : b ≠ a := fun z => by rw [z, hl] at hb; cases hb
                exact .inr ⟨a, .inl ⟨hl, a, _, rfl, .inr ⟨[], j, b, upd_same, rfl, by rw [upd_ne nb]; exact hb, Nat.lt_of_le_of_lt (Nat.zero_le _) line, rfl⟩, by
                  rw [upd_upd]
                  exact fin _ G' trivial sub fun kk k => ⟨a, G', rfl, putO_nd nd, .inr ⟨_, upd_same, rs.mono kk k⟩, fun b => Iff.rfl, fun b z1 z2 => nG0 (sub a (z1 ▸ z2))⟩⟩⟩
              · obtain ⟨G', rs, sub⟩ := RepOT.put (k := j) r2 nd ry dGY
                exact .inl ⟨a, _, rfl, .inr ⟨kvs, j, b, hl, rfl, hb, by rw [r2.len]; exact line, rfl⟩, fin _ G' trivial sub fun kk k => ⟨a, G', rfl, putO_nd nd, .inr ⟨_, upd_same, rs.mono kk k⟩, fun b => Iff.rfl, fun b z1 z2 => nG0 (sub a (z1 ▸ z2))⟩⟩
          · exact q.elim
end
end G
end

section
set_option maxRecDepth 100000
set_option maxHeartbeats 2000000
open PySem PySem.Spec PyProof.Rows L2
namespace G
/-! k in x, x a dict that may be empty -/
def gInD (x y : D) : Option O := match y with
  | .dct [] => (kdOf x).map fun _ => bO false
  | y => gIn x y
def gNinD (x y : D) : Option O := match y with
  | .dct [] => (kdOf x).map fun _ => bO true
  | y => gNin x y
section
variable {md : Bool} {C : Cn} {X : Cx} {pins : List (Addr × Obj)} {σ : L2.St} {H : Hp} {S : Set'} {s : Shared} {a : Addr}
theorem emp_KT (I : Inv X pins σ H s) (e : Rd H a (.dK []) ∨ Rd H a (.dT [])) : (a == sysModules) = false ∧ s.heap.DictOf (mixKind X.prog X.w) a [] ∧ s.heap.DictOfH (tupleKind (mixKind X.prog X.w)) a [] := by
  rcases e with e | e
  · obtain ⟨z, hd, vs, rel, dd⟩ := dk_rd I.hok e
    cases rel
    obtain ⟨o, es, ep, h1, h2, h3, _, h4, h5⟩ := id dd
    exact ⟨hd, dd, o, es, ep, h1, h2, h3, pairs_nil h4, fun x hx => (List.not_mem_nil hx).elim, List.nodup_nil⟩
  · obtain ⟨z, hd, xs, rel, dd⟩ := dt_rd I.hok e
    cases rel
    obtain ⟨o, es, ep, h1, h2, h3, h4, h5⟩ := id dd
    have h6 : es = #[] := Array.toList_inj.mp (show es.toList = [] from h4)
    subst h6
    exact ⟨hd, ⟨o, #[], ep, h1, h2, h3, fun x hx => absurd hx (by simp), .nil, List.nodup_nil⟩, dd⟩
/-- a key, as a value -/
theorem key_cases {d : D} {k : Kd} {y : V} {v : Value} (I : Inv X pins σ H s) (ek : kdOf d = some k) (rk : RepD C H S y d) (ry : RelV y v) :
    (∃ k : Key, (mixKind X.prog X.w).is k v = true) ∨ ∃ (ks : List Key) (b : Addr), v = .ref b ∧ (tupleKind (mixKind X.prog X.w)).is s.heap ks b := by
  cases k with
  | inl k =>
    have ey : y = kV k := by
      cases d <;> simp [kdOf] at ek
      · subst ek; exact rk
      · subst ek; exact rk
    subst ey
    exact .inl ⟨k, kV_is ry⟩
  | inr ks =>
    have ey : ∃ m, d = .tup m ∧ optAll keyOf m = some ks := by
      cases d <;> simp [kdOf] at ek
      exact ⟨_, rfl, ek⟩
    obtain ⟨m, rfl, hm⟩ := ey
    obtain ⟨b, vs, rfl, hb, hr2⟩ := rk
    have e2 := keys_rep hr2 hm
    subst e2
    exact .inr ⟨ks, b, (by cases ry; rfl), key_of I.hok hb⟩
end
section
variable {md : Bool} {C : Cn} {X : Cx}
theorem emp_rep {H : Hp} {S : Set'} {a : Addr} (h : (∃ kvs, Rd H a (.dK kvs) ∧ RepK C H S kvs []) ∨ (∃ kvs, Rd H a (.dT kvs) ∧ RepT C H S kvs [])) : Rd H a (.dK []) ∨ Rd H a (.dT []) := by
  rcases h with ⟨kvs, h, e⟩ | ⟨kvs, h, e⟩
  · cases (show kvs = [] from e); exact .inl h
  · cases (show kvs = [] from e); exact .inr h
theorem og_inD (ok : OkX C X) : OpR X (compareOp .In) (rV2 C gInD) := by
  intro pins s σ H x y v u Q I rx ry ⟨S, dx, dy, so, r1, r2, o, eo, q⟩
  by_cases he : dy = .dct []
  · subst he
    simp only [gInD, Option.map_eq_some_iff] at eo
    obtain ⟨k, ek, rfl⟩ := eo
    obtain ⟨a, ea, hh⟩ := id r2
    subst ea
    cases ry
    obtain ⟨hd, d1, d2⟩ := emp_KT I (emp_rep hh.2)
    rcases key_cases I ek r1 rx with ⟨k, hk⟩ | ⟨ks, b, rfl, hb⟩
    · exact wpAny_in_of hk hd d1.mapOf ⟨.bl _, H, I.tok _, rfl, q_sc so q rfl rfl⟩
    · exact wpAny_in_heap (tupleKind_room_in1 (by have := ok.un; omega)) hb hd d2 ⟨.bl _, H, I.tok _, rfl, q_sc so q rfl rfl⟩
  · have e3 : gInD dx dy = gIn dx dy := by
      unfold gInD; split
      · exact absurd rfl he
      · rfl
    rw [e3] at eo
    exact og_in ok pins s σ H x y v u Q I rx ry ⟨S, dx, dy, so, r1, r2, o, eo, q⟩
theorem og_ninD (ok : OkX C X) : OpR X (compareOp .NotIn) (rV2 C gNinD) := by
  intro pins s σ H x y v u Q I rx ry ⟨S, dx, dy, so, r1, r2, o, eo, q⟩
  by_cases he : dy = .dct []
  · subst he
    simp only [gNinD, Option.map_eq_some_iff] at eo
    obtain ⟨k, ek, rfl⟩ := eo
    obtain ⟨a, ea, hh⟩ := id r2
    subst ea
    cases ry
    obtain ⟨hd, d1, d2⟩ := emp_KT I (emp_rep hh.2)
    rcases key_cases I ek r1 rx with ⟨k, hk⟩ | ⟨ks, b, rfl, hb⟩
    · exact wpAny_notIn_of hk hd d1.mapOf ⟨.bl _, H, I.tok _, rfl, q_sc so q rfl rfl⟩
    · exact wpAny_notIn_heap (tupleKind_room_in1 (by have := ok.un; omega)) hb hd d2 ⟨.bl _, H, I.tok _, rfl, q_sc so q rfl rfl⟩
  · have e3 : gNinD dx dy = gNin dx dy := by
      unfold gNinD; split
      · exact absurd rfl he
      · rfl
    rw [e3] at eo
    exact og_nin ok pins s σ H x y v u Q I rx ry ⟨S, dx, dy, so, r1, r2, o, eo, q⟩
end
end G
end

section
set_option maxRecDepth 100000
set_option maxHeartbeats 4000000
open PySem PySem.Spec PyProof.Rows L2
namespace G
/-! sorted(x), x a list or tuple of plain data that are alike -/
mutual
def D.enc : D → PyData
  | .non => .none
  | .bl b => .bool b
  | .int i => .int i
  | .str x => .str x
  | .tup l => .tuple (encs l)
  | .lst l => .list (encs l)
  | _ => .none
def encs : List D → List PyData
  | [] => []
  | d :: l => d.enc :: encs l
end
theorem encs_map : ∀ l : List D, encs l = l.map D.enc
  | [] => rfl
  | d :: l => by show d.enc :: encs l = _; rw [encs_map l]; rfl
mutual
theorem enc_depth : ∀ (n : Nat) (d : D), d.pl n = true → d.enc.depth ≤ n
  | _, .non, _ => Nat.zero_le _
  | _, .bl b, _ => Nat.zero_le _
  | _, .int i, _ => Nat.zero_le _
  | _, .str x, _ => Nat.zero_le _
  | n + 1, .tup l, h => Nat.succ_le_succ (encs_depth n l h)
  | n + 1, .lst l, h => Nat.succ_le_succ (encs_depth n l h)
  | 0, .tup l, h => by simp [D.pl] at h
  | 0, .lst l, h => by simp [D.pl] at h
  | _, .dct l, h => by simp [D.pl] at h
  | _, .ins c l, h => by simp [D.pl] at h
  | _, .exn c l, h => by simp [D.pl] at h
  | _, .cl c, h => by simp [D.pl] at h
theorem encs_depth : ∀ (n : Nat) (l : List D), plAll n l = true → PyData.depthAll (encs l) ≤ n
  | _, [], _ => Nat.zero_le _
  | n, d :: l, h => by
    have h' : d.pl n = true ∧ plAll n l = true := by simpa [plAll] using h
    have a := enc_depth n d h'.1
    have b := encs_depth n l h'.2
    exact Nat.max_le.mpr ⟨a, b⟩
end
section
variable {md : Bool} {C : Cn} {X : Cx} {pins : List (Addr × Obj)} {σ : L2.St} {H : Hp} {S : Set'} {s : Shared}
mutual
theorem rep_reads (I : Inv X pins σ H s) (hK : X.K = C.K) : ∀ (n : Nat) (d : D) (x : V) (v : Value), d.pl n = true → RepD C H S x d → RelV x v → ∃ as, Reads s.heap v d.enc as
  | _, .non, x, v, _, r, rv => by cases (show x = .non from r); cases rv; exact ⟨_, .none⟩
  | _, .bl b, x, v, _, r, rv => by cases (show x = .bl b from r); cases rv; exact ⟨_, .bool b⟩
  | _, .int i, x, v, _, r, rv => by cases (show x = .int i from r); obtain ⟨t, rfl⟩ := rv; exact ⟨_, .int i t⟩
  | _, .str y, x, v, _, r, rv => by cases (show x = .str y from r); obtain ⟨t, rfl⟩ := rv; exact ⟨_, .str y t⟩
  | n + 1, .tup l, x, v, h, r, rv => by
    obtain ⟨a, vs, rfl, h1, hr⟩ := r
    cases rv
    obtain ⟨its, rr, ⟨o, ho, hc, k, hd⟩, _⟩ := I.tuple (tup_sq hK h1)
    obtain ⟨as, q⟩ := reps_reads I hK n l vs its h hr rr
    exact ⟨as, .tuple ho hc hd (by simpa using q)⟩
  | n + 1, .lst l, x, v, h, r, rv => by
    obtain ⟨a, vs, rfl, h1, hr⟩ := r
    cases rv
    obtain ⟨its, rr, p, _⟩ := I.list (lst_sq hK h1)
    obtain ⟨o, ho, hc, k, hd⟩ := p.isList
    obtain ⟨as, q⟩ := reps_reads I hK n l vs its h hr rr
    exact ⟨a :: as, .list ho hc hd (by simpa using q)⟩
  | 0, .tup l, _, _, h, _, _ => by simp [D.pl] at h
  | 0, .lst l, _, _, h, _, _ => by simp [D.pl] at h
  | _, .dct l, _, _, h, _, _ => by simp [D.pl] at h
  | _, .ins c l, _, _, h, _, _ => by simp [D.pl] at h
  | _, .exn c l, _, _, h, _, _ => by simp [D.pl] at h
  | _, .cl c, _, _, h, _, _ => by simp [D.pl] at h
theorem reps_reads (I : Inv X pins σ H s) (hK : X.K = C.K) : ∀ (n : Nat) (l : List D) (vs : List V) (us : List Value), plAll n l = true → RepDs C H S vs l → Vals vs us → ∃ as, ReadsAll s.heap us (encs l) as
  | _, [], vs, us, _, r, rv => by
    cases (show vs = [] from r); cases rv; exact ⟨_, .nil⟩
  | n, d :: l, vs, us, h, r, rv => by
    obtain ⟨v, q, rfl, r1, r2⟩ := r
    have h' : d.pl n = true ∧ plAll n l = true := by simpa [plAll] using h
    cases rv with
    | cons e t =>
      obtain ⟨as, q1⟩ := rep_reads I hK n d _ _ h'.1 r1 e
      obtain ⟨bs, q2⟩ := reps_reads I hK n l _ _ h'.2 r2 t
      exact ⟨as ++ bs, .cons q1 q2⟩
end
end
/-- x before or like y -/
noncomputable def leD (x y : D) : Bool := W.dataLe false D.enc x y
def isTup1 : D → Bool
  | .tup (_ :: _) => true
  | _ => false
def notNT : D → Bool
  | .non => false
  | .tup _ => false
  | _ => true
/-- data that sorted takes -/
def srtOk (l : List D) : Bool := plAll 60 l && (l.all fun x => l.all fun y => W.alike x.enc y.enc) && (l.all isTup1 || l.all notNT)
open Classical in
noncomputable def sortedG : List D → Option O
  | [.lst l] => if srtOk l = true ∧ l.length ≤ big then some (OL (l.mergeSort leD)) else none
  | [.tup l] => if srtOk l = true ∧ l.length ≤ big then some (OL (l.mergeSort leD)) else none
  | _ => none
theorem srt_able {l : List D} (h : srtOk l = true) : plAll 60 l = true ∧ W.AllAlike (l.map D.enc) ∧ W.Sortable (l.map D.enc) := by
  unfold srtOk at h
  simp only [Bool.and_eq_true, Bool.or_eq_true, List.all_eq_true] at h
  obtain ⟨⟨h1, h2⟩, h3⟩ := h
  refine ⟨h1, fun d hd d' hd' => ?_, ?_⟩
  · obtain ⟨x, hx, rfl⟩ := List.mem_map.mp hd
    obtain ⟨y, hy, rfl⟩ := List.mem_map.mp hd'
    exact h2 x hx y hy
  · rcases h3 with h3 | h3
    · refine .inl fun d hd => ?_
      obtain ⟨x, hx, rfl⟩ := List.mem_map.mp hd
      have := h3 x hx
      unfold isTup1 at this
      split at this
      · exact ⟨_, _, rfl⟩
      · cases this
    · refine .inr fun d hd => ?_
      obtain ⟨x, hx, rfl⟩ := List.mem_map.mp hd
      have := h3 x hx
      have hp := plAll_mem h1 hx
      cases x <;> simp [notNT, D.pl] at this hp <;> exact ⟨by simp [D.enc], fun xs => by simp [D.enc]⟩
end G
end

section
set_option maxRecDepth 100000
set_option maxHeartbeats 4000000
open PySem PySem.Spec PyProof.Rows PySem.W PySem.Calls L2
namespace G
section
variable {prog : Program} {w : World} {A : Around} {E : Value → Shared → Prop} {s : Shared}
/-- the items of a tuple, gathered -/
theorem coll_tuple {l : Addr} {vs : List Value} {Q : List Value → Shared → Prop} (hl : s.heap.IsTuple l vs.toArray) (hz : vs.length ≤ sizeLine)
    (h : Q vs { s with heap := (s.heap.push (seqObj "list" #[] 0)).update s.heap.objs.size (Obj.mapSeq (· ++ vs.toArray)) }) : wpAny (model prog w) A (collect (.ref l)) Q E s := by
  obtain ⟨o, ho, hc, n, hd⟩ := id hl
  have up : (s.heap.push (seqObj "list" #[] 0)).get? l = some o := Heap.get?_push_of_some _ ho
  have top : (s.heap.push (seqObj "list" #[] 0)).get? s.heap.objs.size = some (seqObj "list" #[] 0) := Heap.get?_push_size _ rfl
  unfold collect
  refine wpAny_bind (wpAny_runValue (codeAny_builtin entry_proto_collect' (?_ : wpAny _ _ (do again (.builtin "list.__iadd__" ⟨[← newList [], .ref l], []⟩)) _ _ s)))
  refine wpAny_bind (wpAny_newList (wpAny_pure ⟨Code.quiet_builtin _ (by decide +kernel), codeAny_builtin entry_list_iadd' (?_ : wpAny _ _ (Builtin.List.listExtendWith (.ref s.heap.objs.size) (.ref l) (.ref s.heap.objs.size)) _ _ { s with heap := s.heap.push (seqObj "list" #[] 0) })⟩))
  unfold Builtin.List.listExtendWith
  refine wpAny_bind (wpAny_typeOf (T := "tuple") ⟨o, up, hc⟩ ?_)
  have ht : (Value.type "tuple" == Value.type "tuple") = true := by rfl
  rw [if_pos (by rw [ht]; simp)]
  refine wpAny_bind (listItems_at up hd (wpAny_bind (listItems_at (xs := #[]) (n := 0) top rfl ?_)))
  rw [if_neg (by simp)]
  refine wpAny_bind (listUpdate_at (xs := #[]) (n := 0) top rfl ?_ (Nat.zero_le _) (by show (#[] ++ vs.toArray).size ≤ sizeLine + 1; simp; omega))
  refine wpAny_pure (wpAny_bind (wpAny_load (get?_update_seq top _) ?_))
  have e : ((#[] : Array Value) ++ vs.toArray).toList = vs := by simp
  refine wpAny_pure (?_ : Q ((#[] : Array Value) ++ vs.toArray).toList _)
  rw [e]; exact h
/-- sorted, behind the gathering of its items -/
theorem sorted_coll {β : Type} {R : Value → β → Prop} {enc : β → PyData} {P : List β → Prop} {v : Value} {Q : Value → Shared → Prop}
    (hc : ∀ K : List Value → Shared → Prop, (∀ vs bs s1, (∀ b o, s.heap.get? b = some o → s1.heap.get? b = some o) → s.heap.objs.size ≤ s1.heap.objs.size → s1.gens = s.gens → s1.os = s.os → P bs → EachIs R vs bs → EachIs (fun v b => ∃ as, Reads s1.heap v (enc b) as) vs bs → K vs s1) →
      wpAny (model prog w) A.in1 (collect v) K E s)
    (hok : ∀ bs, P bs → AllAlike (bs.map enc) ∧ Sortable (bs.map enc) ∧ bs.length ≤ sizeLine ∧ ∀ b ∈ bs, A.units + 2 + (enc b).depth < cLine)
    (h : ∀ bs out s' d n, P bs → (∀ b o, s.heap.get? b = some o → s'.heap.get? b = some o) → s'.gens = s.gens → s'.os = s.os → s.heap.objs.size ≤ d → s'.heap.get? d = some (seqObj "list" (List.toArray out) n) → out.length = bs.length → EachIs R out (bs.mergeSort (dataLe false enc)) →
      Q (.ref d) s') : wpAny (model prog w) A (call (.builtin "sorted") [v]) Q E s := by
  refine Calls.call_function_entry kind_sorted plain_sorted entry_sorted (args_sorted1 _) ?_
  unfold Builtin.«sorted»
  refine wpAny_bind (m := checkCount "sorted" 1 1 _) (wpAny_pure (wpAny_bind (hc _ fun vs bs s1 k1 z1 g1 o1 p e er => ?_)))
  obtain ⟨hal, hk, hL, hu⟩ := hok bs p
  have lv : vs.length = bs.length := e.length
  refine wpAny_bind (wpAny_newList ?_ (by rw [lv]; exact hL))
  have hoL : (s1.heap.push (seqObj "list" vs.toArray 0)).get? s1.heap.objs.size = some (seqObj "list" vs.toArray 0) := Heap.get?_push_size _ rfl
  have k2 : ∀ b o, s1.heap.get? b = some o → (sortingHeap (s1.heap.push (seqObj "list" vs.toArray 0)) s1.heap.objs.size vs).get? b = some o := fun b o q => sortingHeap_old (Nat.ne_of_lt (Heap.lt_size q)) (Heap.get?_push_of_some _ q)
  have er' : EachIs (fun v b => ∃ as, Reads (sortingHeap (s1.heap.push (seqObj "list" vs.toArray 0)) s1.heap.objs.size vs) v (enc b) as) vs bs := er.mono fun _ _ ⟨as, r⟩ => ⟨as, PyProof.Rows.Reads.keeps k2 r⟩
  have S : SortsAt prog w A.in1.in1 { s1 with heap := sortingHeap (s1.heap.push (seqObj "list" vs.toArray 0)) s1.heap.objs.size vs } (dataKind (sortingHeap (s1.heap.push (seqObj "list" vs.toArray 0)) s1.heap.objs.size vs) (bs.map enc)) vs :=
    SortsAt.data (s := { s1 with heap := sortingHeap (s1.heap.push (seqObj "list" vs.toArray 0)) s1.heap.objs.size vs }) (each_map (R := fun v d => ∃ as, Reads (sortingHeap (s1.heap.push (seqObj "list" vs.toArray 0)) s1.heap.objs.size vs) v d as) enc er') hal hk (fun d hd => by
      obtain ⟨b, hb, rfl⟩ := List.mem_map.mp hd
      exact hu b hb)
  refine wpAny_bind (wpAny_holding (wpAny_call_entry slot_list_sort ⟨_, hoL, rfl⟩ entry_list_sort (list_sort_vals (s := { s1 with heap := s1.heap.push (seqObj "list" vs.toArray 0) }) hoL S (by rw [lv]; exact hL) ⟨_, rfl, ?_⟩) (args_list_sort _)))
  obtain ⟨c, hc'⟩ := sortedHeap_at (vs := vs) (out := (sortVals (dataKind (sortingHeap (s1.heap.push (seqObj "list" vs.toArray 0)) s1.heap.objs.size vs) (bs.map enc)) false vs vs).toArray) hoL
  refine wpAny_pure ⟨_, rfl, h bs _ _ s1.heap.objs.size c p (fun b o q => ?_) g1 o1 z1 hc' (by rw [sortVals_length false rfl]; exact lv) (sortVals_data false e er' hal)⟩
  have q1 := k1 b o q
  have hlt := Heap.lt_size q1
  show (sortedHeap (s1.heap.push (seqObj "list" vs.toArray 0)) s1.heap.objs.size vs _).get? b = some o
  rw [sortedHeap_old (Nat.ne_of_lt hlt) (by rw [size_push']; exact Nat.lt_succ_of_lt hlt)]
  exact Heap.get?_push_of_some _ q1
end
end G
end

section
set_option maxRecDepth 100000
set_option maxHeartbeats 4000000
open PySem PySem.Spec PyProof.Rows L2
namespace G
section
variable {md : Bool} {C : Cn} {X : Cx} {pins : List (Addr × Obj)} {σ : L2.St} {H : Hp} {S : Set'} {s : Shared}
/-- a value stands for an abstract value and its data -/
def RB (C : Cn) (H : Hp) (S : Set') (u : Value) (b : V × D) : Prop := RelV b.1 u ∧ RepD C H S b.1 b.2
theorem rb_zip : ∀ {vs : List V} {us : List Value} {l : List D}, Vals vs us → RepDs C H S vs l → W.EachIs (RB C H S) us (vs.zip l)
  | _, _, [], .nil, _ => .nil
  | _, _, [], .cons _ _, r => by cases (show _ :: _ = [] from r)
  | _, _, d :: l, .nil, r => by obtain ⟨v, q, e, _⟩ := r; cases e
  | _, _, d :: l, .cons e t, r => by
    obtain ⟨v, q, e', r1, r2⟩ := r
    cases e'
    exact .cons ⟨e, r1⟩ (rb_zip t r2)
theorem rb_out : ∀ {us : List Value} {bs : List (V × D)}, W.EachIs (RB C H S) us bs → Vals (bs.map (·.1)) us ∧ RepDs C H S (bs.map (·.1)) (bs.map (·.2))
  | _, _, .nil => ⟨.nil, rfl⟩
  | _, _, .cons h t => ⟨.cons h.1 (rb_out t).1, _, _, rfl, h.2, (rb_out t).2⟩
theorem rep_len : ∀ {vs : List V} {l : List D}, RepDs C H S vs l → vs.length = l.length := fun r => r.len
theorem rb_reads (I : Inv X pins σ H s) (hK : X.K = C.K) {us : List Value} {bs : List (V × D)} (e : W.EachIs (RB C H S) us bs) (hp : ∀ b ∈ bs, b.2.pl 60 = true) : W.EachIs (fun v b => ∃ as, Reads s.heap v (b.2.enc) as) us bs :=
  (W.each_mem e).mono fun v b ⟨⟨h1, h2⟩, hb⟩ => rep_reads I hK 60 b.2 b.1 v (hp b hb) h2 h1
/-- the core: from a gathering of the items to the list -/
theorem sort_core {u : Value} {Q : VK} {l : List D} (Pb : List (V × D) → Prop) (ok : OkX C X) (I : Inv X pins σ H s) (so : ∀ a, S a → ∃ o, H a = some o) (hs : srtOk l = true) (hb : l.length ≤ big)
    (hc : ∀ K : List Value → Shared → Prop, (∀ us s1 (bs : List (V × D)), (∀ b o, s.heap.get? b = some o → s1.heap.get? b = some o) → s.heap.objs.size ≤ s1.heap.objs.size → s1.gens = s.gens → s1.os = s.os → Pb bs → W.EachIs (RB C H S) us bs → K us s1) → wpAny (model X.prog X.w) X.A.in1 (collect u) K X.xe s)
    (hu : ∀ bs : List (V × D), Pb bs → (bs.map (·.2)).Perm l ∧ (bs.map (·.2)).mergeSort leD = l.mergeSort leD)
    (q : ∀ ys p, RepDs C H S ys (l.mergeSort leD) → H p = none → Q (.ref p) (upd H p (.lst ys))) : wpAny (model X.prog X.w) X.A (call (.builtin "sorted") [u]) (EP X pins σ Q) X.xe s := by
  obtain ⟨hpl, hal, hk⟩ := srt_able hs
  have hB : big = 1000000 := rfl
  have hun := ok.un
  have memP : ∀ {bs : List (V × D)}, Pb bs → ∀ b ∈ bs, b.2 ∈ l := fun p b hb => (hu _ p).1.mem_iff.mp (List.mem_map_of_mem hb)
  refine sorted_coll (R := RB C H S) (enc := fun b => b.2.enc) (P := Pb) (fun K hK => hc K fun us s1 bs k1 z1 g1 o1 p e => hK us bs s1 k1 z1 g1 o1 p e ?_) (fun bs p => ⟨fun d hd d' hd' => ?_, ?_, ?_, fun b hb => ?_⟩) fun bs out s' d n p k g o z hg ho e => ?_
  · exact (rb_reads I ok.K e fun b hb => plAll_mem hpl (memP p b hb)).mono fun _ _ ⟨as, r⟩ => ⟨as, PyProof.Rows.Reads.keeps k1 r⟩
  · obtain ⟨b, hb, rfl⟩ := List.mem_map.mp hd
    obtain ⟨b', hb', rfl⟩ := List.mem_map.mp hd'
    exact hal _ (List.mem_map_of_mem (memP p b hb)) _ (List.mem_map_of_mem (memP p b' hb'))
  · rcases hk with hk | hk
    · refine .inl fun d hd => ?_
      obtain ⟨b, hb, rfl⟩ := List.mem_map.mp hd
      exact hk _ (List.mem_map_of_mem (memP p b hb))
    · refine .inr fun d hd => ?_
      obtain ⟨b, hb, rfl⟩ := List.mem_map.mp hd
      exact hk _ (List.mem_map_of_mem (memP p b hb))
  · have := (hu _ p).1.length_eq
    rw [List.length_map] at this
    rw [sizeLine_eq]; omega
  · have := enc_depth 60 b.2 (plAll_mem hpl (memP p b hb))
    show X.A.units + 2 + b.2.enc.depth < cLine
    omega
  · obtain ⟨r1, r2⟩ := rb_out e
    have e2 : (bs.mergeSort (W.dataLe false fun b => b.2.enc)).map (·.2) = l.mergeSort leD := by
      have em := List.map_mergeSort (r := W.dataLe false fun b : V × D => b.2.enc) (s := leD) (f := fun b : V × D => b.2) (l := bs) fun a _ b _ => rfl
      exact em.trans (hu bs p).2
    rw [e2] at r2
    have hn : H d = none := I.hok.fresh z
    have hz : ((bs.mergeSort (W.dataLe false fun b => b.2.enc)).map (·.1)).length ≤ sizeLine := by
      have := r2.len
      rw [List.length_mergeSort] at this
      rw [this, sizeLine_eq]; omega
    have J : Inv X pins σ (upd H d (.lst ((bs.mergeSort (W.dataLe false fun b => b.2.enc)).map (·.1)))) { s with heap := s'.heap, gens := s'.gens, drawn := s'.drawn, toks := s'.toks } :=
      I.call (ch := []) (Un.laid k z hn) (I.hok.laid k z ⟨hz, out, n, r1, hg⟩) (by rw [g]; exact I.bare) (fun _ h => nomatch h)
    have es : s' = { s with heap := s'.heap, gens := s'.gens, drawn := s'.drawn, toks := s'.toks } := by
      cases s'; cases s; cases o; rfl
    rw [es]
    exact ⟨.ref d, _, J, rfl, q _ d r2 hn⟩
theorem og_sorted (ok : OkX C X) : CallR X (.builtin "sorted") (rVn C sortedG) := by
  intro pins s σ H xs us Q I r ⟨S, ds, so, rd, o, eo, q⟩
  unfold sortedG at eo
  split at eo
  · rename_i l
    obtain ⟨x, rfl, a, vs, rfl, h1, hr⟩ := reps1 rd
    split at eo
    · next hs =>
      cases eo
      obtain ⟨its, rr, p, hz⟩ := I.list (lst_sq ok.K h1)
      rw [Vals.ref1 r]
      refine sort_core (u := .ref a) (fun bs => bs = vs.zip l) ok I so hs.1 hs.2 (fun K hK => ?_) (fun bs pm => ?_) fun ys p r2 hp => q_lst so hp r2 q
      · exact collect_list p.isList (hK its _ _ (fun b o e => by
          rw [Heap.get?_update_ne _ _ _ _ (Nat.ne_of_lt (Heap.lt_size e))]
          exact Heap.get?_push_of_some _ e) (by rw [Heap.size_update, size_push']; exact Nat.le_succ _) rfl rfl rfl (rb_zip rr hr)) (by rw [← rr.length]; exact hz)
      · subst pm
        rw [List.map_snd_zip (by rw [hr.len]; exact Nat.le_refl _)]
        exact ⟨List.Perm.refl _, rfl⟩
    · cases eo
  · rename_i l
    obtain ⟨x, rfl, a, vs, rfl, h1, hr⟩ := reps1 rd
    split at eo
    · next hs =>
      cases eo
      obtain ⟨its, rr, p, hz⟩ := I.tuple (tup_sq ok.K h1)
      rw [Vals.ref1 r]
      refine sort_core (u := .ref a) (fun bs => bs = vs.zip l) ok I so hs.1 hs.2 (fun K hK => ?_) (fun bs pm => ?_) fun ys p r2 hp => q_lst so hp r2 q
      · exact coll_tuple p (by rw [← rr.length]; exact hz) (hK its _ _ (fun b o e => by
          rw [Heap.get?_update_ne _ _ _ _ (Nat.ne_of_lt (Heap.lt_size e))]
          exact Heap.get?_push_of_some _ e) (by rw [Heap.size_update, size_push']; exact Nat.le_succ _) rfl rfl rfl (rb_zip rr hr))
      · subst pm
        rw [List.map_snd_zip (by rw [hr.len]; exact Nat.le_refl _)]
        exact ⟨List.Perm.refl _, rfl⟩
    · cases eo
  · cases eo
end
end G
end

section
set_option maxRecDepth 100000
set_option maxHeartbeats 4000000
open PySem PySem.Spec PyProof.Rows L2
namespace G
/-! sorted(set(x)), x a list or tuple of texts: the set itself is not kept -/
theorem le_str (x y : Str) : leD (.str x) (.str y) = decide (x.cps.toList ≤ y.cps.toList) := by
  have h := congrFun (congrFun (W.dataLe_str (fun d : D => match d with | .str z => z | _ => x)) (.str x)) (.str y)
  exact h
theorem le_antis {x y : Str} (h1 : leD (.str x) (.str y) = true) (h2 : leD (.str y) (.str x) = true) : x = y := by
  rw [le_str, decide_eq_true_eq] at h1 h2
  exact W.str_of_cps (List.le_antisymm h1 h2)
theorem le_trans' (a b c : Str) (h1 : leD (.str a) (.str b) = true) (h2 : leD (.str b) (.str c) = true) : leD (.str a) (.str c) = true := by
  rw [le_str, decide_eq_true_eq] at h1 h2 ⊢
  exact List.le_trans h1 h2
theorem le_total' (a b : Str) : (leD (.str a) (.str b) || leD (.str b) (.str a)) = true := by
  rw [le_str, le_str, Bool.or_eq_true, decide_eq_true_eq, decide_eq_true_eq]
  exact List.le_total _ _
/-- sorted texts -/
noncomputable def srtS (ys : List Str) : List Str := ys.mergeSort fun x y => leD (.str x) (.str y)
theorem srt_strs (ys : List Str) : (ys.map D.str).mergeSort leD = (srtS ys).map D.str := (List.map_mergeSort (r := fun x y => leD (.str x) (.str y)) (s := leD) (f := D.str) (l := ys) fun a _ b _ => rfl).symm
theorem srtS_perm (ys : List Str) : (srtS ys).Perm ys := List.mergeSort_perm _ _
theorem srtS_uniq {xs ys : List Str} (h : xs.Perm ys) : srtS xs = srtS ys := by
  refine List.Perm.eq_of_pairwise (le := fun x y => leD (.str x) (.str y) = true) (fun a b _ _ h1 h2 => le_antis h1 h2) ?_ ?_ ((srtS_perm xs).trans (h.trans (srtS_perm ys).symm))
  · exact List.pairwise_mergeSort le_trans' le_total' xs
  · exact List.pairwise_mergeSort le_trans' le_total' ys
theorem perm_nodup {α : Type} [DecidableEq α] : ∀ {l m : List α}, l.Nodup → (∀ x ∈ l, x ∈ m) → m.length = l.length → m.Perm l
  | [], m, _, _, h => by rw [List.length_eq_zero_iff.mp h]
  | x :: l, m, hn, hs, h => by
    obtain ⟨h1, h2⟩ := List.nodup_cons.mp hn
    have hx := hs x List.mem_cons_self
    have p := List.perm_cons_erase hx
    have hl := p.length_eq
    rw [List.length_cons] at hl h
    refine p.trans (List.Perm.cons x (perm_nodup h2 (fun y hy => ?_) (by omega)))
    refine (List.mem_erase_of_ne ?_).mpr (hs y (List.mem_cons_of_mem _ hy))
    exact fun e => h1 (e ▸ hy)
theorem met_nodup {l : List Str} {x : Str} (h : l.Nodup) : (GS.met l x).Nodup := by
  unfold GS.met
  split
  · exact h
  · next hx =>
    rw [List.nodup_append]
    refine ⟨h, by simp, fun a ha b hb e => ?_⟩
    rw [List.mem_singleton.mp hb] at e
    exact hx (e ▸ ha)
theorem dl_nd : ∀ (ys l : List Str), l.Nodup → (ys.foldl GS.met l).Nodup
  | [], _, h => h
  | y :: ys, l, h => dl_nd ys (GS.met l y) (met_nodup h)
def txV : Value → Str
  | .str x _ => x
  | _ => Str.empty
theorem txs_perm {P : Program} {w : World} {D : Froz.SD} {l : List Str} (F : Froz.TxOk P w D l) (hn : l.Nodup) {us : List Value} (hp : us.Perm (D.1.toList.map (·.2))) : (us.map txV).Perm l ∧ ∀ u ∈ us, ∃ t, u = .str (txV u) t := by
  have sh : ∀ u ∈ us, ∃ t, u = .str (txV u) t := fun u hu => by
    obtain ⟨e, he, rfl⟩ := List.mem_map.mp (hp.mem_iff.mp hu)
    obtain ⟨⟨k, hk, _⟩, _⟩ := F.el e he
    obtain ⟨t, q⟩ := Value.isStrOf_shape hk
    exact ⟨t, by rw [q]; rfl⟩
  refine ⟨perm_nodup hn (fun k hk => ?_) ?_, sh⟩
  · obtain ⟨e, he, q⟩ := (F.mem k).mp hk
    obtain ⟨t, q'⟩ := Value.isStrOf_shape q
    exact List.mem_map.mpr ⟨e.2, hp.mem_iff.mpr (List.mem_map_of_mem he), by rw [q']; rfl⟩
  · have z : D.1.size = l.length := F.sz
    rw [List.length_map, hp.length_eq, List.length_map, Array.length_toList, z]
theorem rb_strs {C : Cn} {H : Hp} {S : Set'} : ∀ {us : List Value}, (∀ u ∈ us, ∃ t, u = .str (txV u) t) → W.EachIs (RB C H S) us (us.map fun u => (V.str (txV u), D.str (txV u)))
  | [], _ => .nil
  | u :: us, h => by
    obtain ⟨t, e⟩ := h u List.mem_cons_self
    exact .cons ⟨⟨t, e⟩, rfl⟩ (rb_strs fun v hv => h v (List.mem_cons_of_mem _ hv))
theorem srtOk_strs (ys : List Str) : srtOk (ys.map D.str) = true := by
  unfold srtOk
  have h1 : ∀ zs : List Str, plAll 60 (zs.map D.str) = true := fun zs => by
    induction zs with
    | nil => rfl
    | cons z zs ih => simp [plAll, D.pl, ih]
  have h2 : ((ys.map D.str).all fun x => (ys.map D.str).all fun y => W.alike x.enc y.enc) = true := by
    rw [List.all_eq_true]
    intro x hx
    rw [List.all_eq_true]
    intro y hy
    obtain ⟨a, _, rfl⟩ := List.mem_map.mp hx
    obtain ⟨b, _, rfl⟩ := List.mem_map.mp hy
    rfl
  have h3 : (ys.map D.str).all notNT = true := by
    rw [List.all_eq_true]
    intro x hx
    obtain ⟨a, _, rfl⟩ := List.mem_map.mp hx
    rfl
  rw [h1, h2, h3]; simp
noncomputable def sortSetG : D → Option O
  | .lst l => (strsD l).bind fun ys => if ys.length < setB then some (OL ((srtS (GS.dl ys)).map D.str)) else none
  | .tup l => (strsD l).bind fun ys => if ys.length < setB then some (OL ((srtS (GS.dl ys)).map D.str)) else none
  | _ => none
def tSortS (C : Cn) (ta : TE) : TE := fun σ H Q => ta σ H fun x H1 => ∃ l, ∃ ys : List Str, x = .ref l ∧ (SqL C.K H1 l (ys.map V.str) ∨ SqT C.K H1 l (ys.map V.str)) ∧ ys.length < setB ∧
  ∃ S, So H1 S ∧ ∀ vs p, RepDs C H1 S vs ((srtS (GS.dl ys)).map D.str) → H1 p = none → Q (.ref p) (upd H1 p (.lst vs))
section
variable {md : Bool} {C : Cn} {E : WX} {X : Cx} {a : Expr} {ta : TE} {p p2 q pos : Pos} {f : Fe}
theorem pe_sortS (ok : OkX C X) (hg : Gl X "sorted") (hm : X.mg "sorted" = none) (hg2 : Gl X "set") (hm2 : X.mg "set" = none) (ha : PE X a ta)
    (na : starEach [a] X.env = (false, eval a X.env) :: starEach [] X.env := by rfl) : PE X (.Call (.Name "sorted" p) [.Call (.Name "set" p2) [a] [] q] [] pos) (tSortS C ta) := by
  refine ⟨fun pins s σ H Q I h => Call_ (ld_blt I hg hm boot_sorted ?_)⟩
  refine PyProof.Rows.callWith_builtin1 (PyProof.Rows.args_cons (Call_ (ld_blt I hg2 hm2 boot_set ?_)) rfl) rfl rfl
  refine PyProof.Rows.callWith_type1 (PyProof.Rows.args_cons (thn (ha.run pins s σ H _ I h) fun v s1 ⟨x, H1, I1, r1, q1⟩ => PyProof.Rows.args_nil ?_) na) na rfl
  obtain ⟨l, xs, rfl, hq, hl, S, so, q1⟩ := q1
  cases r1
  have hdl := GS.dl_le xs []
  have h0 : setB = 4000 := rfl
  have hsc : scanBound = 4096 := rfl
  have hdl' : (GS.dl xs).length ≤ xs.length := by unfold GS.dl; simpa using hdl
  have last : ∀ (h' : Heap) (tk : Nat), GS.TxS X.prog X.w h' s1.heap.objs.size (GS.dl xs) → (∀ b o, b < s1.heap.objs.size → s1.heap.get? b = some o → h'.get? b = some o) →
      wpAny (model X.prog X.w) X.A (spliced (backTo pos (starEach [] X.env))) (fun vs s₂ => wpAny (model X.prog X.w) X.A (call (.builtin "sorted") (Value.ref s1.heap.objs.size :: vs)) (EP X pins σ Q) X.xe s₂) X.xe { s1 with heap := h', toks := tk } := fun h' tk hS hk => by
    refine PyProof.Rows.args_nil ?_
    obtain ⟨Dd, ho, F, hr, hled⟩ := hS.ex
    have I2 : Inv X pins σ H1 { s1 with heap := h', toks := tk } := I1.kept fun b o e => hk b o (Heap.lt_size e) e
    have hn : (GS.dl xs).Nodup := dl_nd xs [] List.nodup_nil
    have hB : big = 1000000 := rfl
    refine sort_core (s := { s1 with heap := h', toks := tk }) (l := (GS.dl xs).map D.str) (u := .ref s1.heap.objs.size) (fun bs => ∃ zs : List Str, zs.Perm (GS.dl xs) ∧ bs = zs.map fun z => (V.str z, D.str z)) ok I2 so (srtOk_strs _) (by rw [List.length_map]; omega) (fun K hK => ?_) (fun bs ⟨zs, pm, e⟩ => ?_) fun ys p r2 hp => q1 ys p (by rw [srt_strs] at r2; exact r2) hp
    · refine collect_set (A := X.A.in1) (by simpa using I2.ok.hd ok.calm) ⟨_, ho, rfl, rfl⟩ F.fit (by have z : Dd.1.size = (GS.dl xs).length := F.sz; omega) hr hled fun s2 out k2 z2 g2 o2 pm => ?_
      obtain ⟨p1, p2⟩ := txs_perm F hn pm
      exact hK out s2 _ k2 z2 g2 o2 ⟨out.map txV, p1, by rw [List.map_map]; rfl⟩ (rb_strs p2)
    · subst e
      have e2 : (zs.map fun z => (V.str z, D.str z)).map (·.2) = zs.map D.str := by rw [List.map_map]; rfl
      rw [e2]
      exact ⟨pm.map _, by rw [srt_strs, srt_strs, srtS_uniq pm]⟩
  rcases hq with hq | hq
  · obtain ⟨its, r, pl, _⟩ := I1.list (ok.K ▸ hq)
    exact GS.set_list (I1.ok.hd ok.calm) pl.isList (by simpa using strsAre_of r) (by omega) last
  · obtain ⟨its, r, pl, _⟩ := I1.tuple (ok.K ▸ hq)
    exact GS.set_tuple (I1.ok.hd ok.calm) pl (by simpa using strsAre_of r) (by omega) last
theorem de_sortS (ok : OkX C X) (hm : X.mg "sorted" = none) (hm2 : X.mg "set" = none) (ha : DE C E X a f) (hg : Gl X "sorted" := by rfl) (hg2 : Gl X "set" := by rfl)
    (na : starEach [a] X.env = (false, eval a X.env) :: starEach [] X.env := by rfl) : DE C E X (.Call (.Name "sorted" p) [.Call (.Name "set" p2) [a] [] q] [] pos) (e1 sortSetG f) := by
  refine pe_imp (pe_sortS ok hg hm hg2 hm2 ha na) fun σ H Q q => ?_
  have q' := r1_of q
  obtain ⟨ρ, S, F, he, w, q'⟩ := q'
  refine ⟨ρ, S, F, he, w, ?_⟩
  cases ef : f ρ with
  | bad => rw [ef] at q'; exact q'
  | exc x ρ' => rw [ef] at q'; exact q'
  | ok o ρ1 =>
    rw [ef] at q'
    intro v H' S' F' A a1 a2 a3 a4 a5
    obtain ⟨S2, d, so, rd, o', eo, q2⟩ := q' v H' S' F' A a1 a2 a3 a4 a5
    unfold sortSetG at eo
    split at eo
    · obtain ⟨ys, ey, eo⟩ := Option.bind_eq_some_iff.mp eo
      split at eo
      · next hl =>
        cases eo
        obtain ⟨b, vs, rfl, h1, hr⟩ := rd
        have := strs_rep ey hr
        subst this
        exact ⟨b, ys, rfl, .inl (ok.K ▸ lst_sq ok.K h1), hl, S2, so, fun vs p r hp => q_lst so hp r q2⟩
      · cases eo
    · obtain ⟨ys, ey, eo⟩ := Option.bind_eq_some_iff.mp eo
      split at eo
      · next hl =>
        cases eo
        obtain ⟨b, vs, rfl, h1, hr⟩ := rd
        have := strs_rep ey hr
        subst this
        exact ⟨b, ys, rfl, .inr (ok.K ▸ tup_sq ok.K h1), hl, S2, so, fun vs p r hp => q_lst so hp r q2⟩
      · cases eo
    · cases eo
end
end G
end

section
set_option maxRecDepth 100000
set_option maxHeartbeats 4000000
open PySem PySem.Spec PyProof.Rows L2
namespace G
/-! {k: v, ..}, keys ints and texts -/
def prsO : List O → Option (List (Key × O))
  | [] => some []
  | k :: v :: l => (keyD k.toD).bind fun j => (prsO l).map ((j, v) :: ·)
  | _ => none
def putsO (l : List (Kd × O)) (ps : List (Key × O)) : List (Kd × O) := ps.foldl (fun l p => putO l (.inl p.1) p.2) l
def eDsp (fa : Fa) : Fe := fun ρ => (fa ρ).bind fun os ρ1 => match prsO os with
  | some l => if l.length ≤ 15 then .ok (.dct (putsO [] l)) ρ1 else .bad
  | none => .bad
def pairUp : List V → List (V × V)
  | k :: v :: l => (k, v) :: pairUp l
  | _ => []
structure DPs (C : Cn) (E : WX) (X : Cx) (pos : Pos) (keys : List (Option Expr)) (vals : List Expr) (fa : Fa) : Prop where
  ex : ∃ trs, PPs X pos keys vals trs ∧ ∀ σ H Q, rA C E fa σ H (fun vs H => Q (pairUp vs) H) → tPairs trs σ H Q
section
variable {md : Bool} {C : Cn} {E : WX} {X : Cx} {pos : Pos} {σ : L2.St} {H : Hp}
theorem rE_mono {f : Fe} {Q R : VK} (h : rE C E f σ H Q) (k : ∀ v H', Q v H' → R v H') : rE C E f σ H R := by
  obtain ⟨ρ, S, F, he, w, q⟩ := h
  refine ⟨ρ, S, F, he, w, ?_⟩
  cases ef : f ρ with
  | bad => rw [ef] at q; exact q
  | exc x ρ' => rw [ef] at q; exact q
  | ok o ρ1 =>
    rw [ef] at q
    exact fun v H' S' F' A a1 a2 a3 a4 a5 => k _ _ (q v H' S' F' A a1 a2 a3 a4 a5)
theorem ra_cons {f : Fe} {g : Fa} {Q : List V → Hp → Prop} (h : rA C E (eCons f g) σ H Q) : rE C E f σ H fun v H1 => rA C E g σ H1 fun vs H2 => Q (v :: vs) H2 := by
  obtain ⟨ρ, S, F, he, w, q⟩ := h
  refine ⟨ρ, S, F, he, w, ?_⟩
  unfold eCons at q
  cases ef : f ρ with
  | bad => rw [ef] at q; exact q
  | exc x ρ' => rw [ef] at q; exact q
  | ok o ρ1 =>
    rw [ef] at q
    intro v H1 S1 F1 A he1 r1 w1 d1 fr1
    refine ⟨ρ1, S1, F1, he1, w1.drop, ?_⟩
    simp only [bind_ok] at q
    cases eg : g ρ1 with
    | bad => rw [eg] at q; exact q
    | exc x ρ' =>
      rw [eg] at q
      exact fun c d H2 S2 F2 he2 w2 fr2 rx => q c d H2 S2 F2 he2 w2 (fr1.drop.trans fr2) rx
    | ok os ρ2 =>
      rw [eg] at q
      intro vs H2 S2 F2 B he2 r2 w2 d2 fr2
      obtain ⟨ka, d3, w3, fr3, k⟩ := fr_tmp w1 d1 fr1 fr2 w2
      obtain ⟨d4, d5⟩ := dj_un d3 d2
      rw [un_assoc] at w3 fr3
      exact q (v :: vs) H2 S2 F2 (Un' A B) he2 ⟨v, vs, A, B, rfl, r1.mono k ka, r2, ⟨fun a => Iff.rfl, d4⟩⟩ w3 d5 fr3
theorem dp_nil : DPs C E X pos [] [] eNil := ⟨[], pps_nil, fun σ H Q ⟨ρ, S, F, he, w, q⟩ => by
  have := q [] H S F No he ⟨rfl, emp_no⟩ (by rw [show Un' No F = F from funext fun a => propext ⟨fun h => h.elim False.elim id, .inr⟩]; exact w) (fun a h _ => h) (by rw [show Un' No F = F from funext fun a => propext ⟨fun h => h.elim False.elim id, .inr⟩]; exact Fr.refl)
  exact this⟩
theorem dp_cons {k v : Expr} {ks : List (Option Expr)} {vs : List Expr} {fk fv : Fe} {fa : Fa} (hk : DE C E X k fk) (hv : DE C E X v fv) (hr : DPs C E X pos ks vs fa) : DPs C E X pos (some k :: ks) (v :: vs) (eCons fk (eCons fv fa)) := by
  obtain ⟨trs, pp, imp⟩ := hr.ex
  refine ⟨(rE C E fk, rE C E fv) :: trs, pps_cons hk hv pp, fun σ H Q q => ?_⟩
  refine rE_mono (ra_cons q) fun x H1 q1 => rE_mono (ra_cons q1) fun y H2 q2 => ?_
  exact imp σ H2 _ q2
theorem prsO_rep {S : Set'} : ∀ {os : List O} {l : List (Key × O)} {vs : List V} {A : Set'}, prsO os = some l → RepOs C H S vs os A →
    ∃ kvs : List (Key × V), pairUp vs = kvs.map (fun kv => (kV kv.1, kv.2)) ∧ kvs.length = l.length ∧ ∀ (os0 : List (Kd × O)) (kv0 : List (Key × V)) (Z : Set'), RepOK C H S kv0 os0 Z → (os0.map (·.1)).Nodup → Dj Z A → ∃ Z', RepOK C H S (mergeK kv0 kvs) (putsO os0 l) Z' ∧ ((putsO os0 l).map (·.1)).Nodup ∧ ∀ a, Z' a → Un' Z A a
  | [], l, vs, A, h, r => by
    cases h
    obtain ⟨rfl, em⟩ := r
    exact ⟨[], rfl, rfl, fun os0 kv0 Z r0 n d => ⟨Z, r0, n, fun a => .inl⟩⟩
  | [o], l, vs, A, h, r => by simp [prsO] at h
  | k :: o :: os, l, vs, A, h, r => by
    obtain ⟨j, e1, e2⟩ := Option.bind_eq_some_iff.mp h
    obtain ⟨l', e3, rfl⟩ := Option.map_eq_some_iff.mp e2
    obtain ⟨x, r1, P, R, rfl, rk, rr, s1⟩ := r
    obtain ⟨y, r2, P2, R2, rfl, ry, rr2, s2⟩ := rr
    obtain ⟨kvs, e4, e5, ih⟩ := prsO_rep e3 rr2
    have rkd := rk.share (S' := Un' S P) (fun _ => .inl) fun _ => .inr
    have ex : x = kV j := keyD_rep e1 rkd
    subst ex
    refine ⟨(j, y) :: kvs, by rw [pairUp, e4]; rfl, by rw [List.length_cons, List.length_cons, e5], fun os0 kv0 Z r0 n d => ?_⟩
    have hA : ∀ a, P2 a → A a := fun a z => (s1.1 a).mpr (.inr ((s2.1 a).mpr (.inl z)))
    have hR : ∀ a, R2 a → A a := fun a z => (s1.1 a).mpr (.inr ((s2.1 a).mpr (.inr z)))
    obtain ⟨Z1, q1, q2⟩ := RepOK.put (k := j) r0 n ry fun a z1 z2 => d a z1 (hA a z2)
    obtain ⟨Z2, p1, p2, p3⟩ := ih (putO os0 (.inl j) o) (putK kv0 j y) Z1 q1 (putO_nd n) fun a z1 z2 => (q2 a z1).elim (fun z => d a z (hR a z2)) fun z => s2.2 a z z2
    exact ⟨Z2, p1, p2, fun a z => (p3 a z).elim (fun z => (q2 a z).elim .inl fun z => .inr (hA a z)) fun z => .inr (hR a z)⟩
theorem de_disp {keys : List (Option Expr)} {vals : List Expr} {fa : Fa} (h : DPs C E X pos keys vals fa) (hall : keys.all (·.isSome) = true := by rfl) (hl : keys.length = vals.length := by rfl) (h0 : keys ≠ [] := by simp)
    (h15 : keys.length ≤ 15 := by decide) : DE C E X (.Dict keys vals pos) (eDsp fa) := by
  obtain ⟨trs, pp, imp⟩ := h.ex
  refine pe_imp (pe_disp pp hall hl h0 h15) fun σ H Q ⟨ρ, S, F, he, w, q⟩ p hp => imp σ _ _ ?_
  have al := Alc.own (o := .dK []) w.so hp trivial
  obtain ⟨k1, k2, k3, k4⟩ := alc_step he w Fr.refl al
  have nF : ¬ F p := fun z => by
    obtain ⟨u, e⟩ := mut_some (w.mu p z)
    rw [hp] at e; cases e
  have nS : ¬ S p := fun z => by
    obtain ⟨u, e⟩ := w.so p z
    rw [hp] at e; cases e
  refine ⟨ρ, S, F, k1, k2.drop, ?_⟩
  unfold eDsp at q
  cases ef : fa ρ with
  | bad => rw [ef] at q; exact q
  | exc x ρ' =>
    rw [ef] at q
    exact fun c d H' S' F' a1 a2 a3 a4 => q c d H' S' F' a1 a2 (k4.drop.trans a3) a4
  | ok os ρ1 =>
    rw [ef] at q
    simp only [bind_ok] at q
    cases el : prsO os with
    | none => rw [el] at q; exact q.elim
    | some l =>
      rw [el] at q
      intro vs H2 S2 F2 A he2 r2 w2 d2 fr2
      by_cases h15' : l.length ≤ 15
      · simp only [if_pos h15'] at q
        have at_p : H2 p = some (.dK []) := fr2.keep p _ upd_same nF trivial
        have np : ∀ a, Un' A F2 a → a ≠ p := fun a z e => by
          subst e
          rcases fr2.fnew a z with z | z
          · exact nF z
          · rw [upd_same] at z; cases z
        have nS2 : ¬ S2 p := fun z => by
          rcases fr2.new p z with z | z | z
          · exact nS z
          · exact nF z
          · rw [upd_same] at z; cases z
        obtain ⟨kvs, e1, e2, e3⟩ := prsO_rep el r2
        obtain ⟨Z, r3, n3, s3⟩ := e3 [] [] No ⟨rfl, emp_no⟩ List.nodup_nil (fun a z _ => z)
        refine ⟨at_p, kvs, e1, by omega, ?_⟩
        have sZ : ∀ a, Z a → A a := fun a z => (s3 a z).elim False.elim id
        have kp : Kp H2 S2 (upd H2 p (.dK (mergeK [] kvs))) S2 := ⟨fun a u s _ e => by rw [upd_ne (fun z : a = p => nS2 (by rw [← z]; exact s))]; exact e, fun a u m _ e => by
          have : a ≠ p := fun z => by rw [z, at_p] at e; cases e; exact m trivial
          rw [upd_ne this]; exact e, fun a z => z⟩
        have kf : ∀ a, F2 a → upd H2 p (.dK (mergeK [] kvs)) a = H2 a := fun a z => upd_ne (np a (.inr z))
        have kz : ∀ a, Z a → upd H2 p (.dK (mergeK [] kvs)) a = H2 a := fun a z => upd_ne (np a (.inl (sZ a z)))
        refine q (.ref p) (upd H2 p (.dK (mergeK [] kvs))) S2 F2 (Un' (fun a => a = p) Z) (he2.mono kp kf) ⟨p, Z, rfl, n3, .inl ⟨_, upd_same, r3.mono kp kz⟩, ⟨fun a => Iff.rfl, fun a z1 z2 => np a (.inl (sZ a z2)) z1⟩⟩ ⟨fun a z => ?_, fun a z s => ?_, fun a s => ?_, (Tk.upd (by rw [at_p]; trivial)).tabs w2.tb⟩ (fun a z1 z2 => ?_) ⟨fun a u e nf nt => ?_, fun a s => fr2.sub a s, fun a s => ?_, fun a z => ?_, (Tk.all al.keep).trans (fr2.tk.trans (.upd (by rw [at_p]; trivial)))⟩
        · rcases z with (z | z) | z
          · subst z; rw [upd_same]; exact trivial
          · rw [kz a z]; exact w2.mu a (.inl (sZ a z))
          · rw [kf a z]; exact w2.mu a (.inr z)
        · rcases z with (z | z) | z
          · subst z; exact nS2 s
          · exact w2.ns a (.inl (sZ a z)) s
          · exact w2.ns a (.inr z) s
        · obtain ⟨u, e⟩ := w2.so a s
          exact ⟨u, by rw [upd_ne (fun z : a = p => nS2 (by rw [← z]; exact s))]; exact e⟩
        · rcases z1 with z1 | z1
          · exact np a (.inr z2) z1
          · exact d2 a (sZ a z1) z2
        · have ne : a ≠ p := ne_of_none e hp
          rw [upd_ne ne]
          exact fr2.keep a u (by rw [upd_ne ne]; exact e) nf nt
        · rcases fr2.new a s with z | z | z
          · exact .inl z
          · exact .inr (.inl z)
          · by_cases ne : a = p
            · subst ne; rw [upd_same] at z; cases z
            · rw [upd_ne ne] at z; exact .inr (.inr z)
        · rcases z with (z | z) | z
          · subst z; exact .inr hp
          · rcases fr2.fnew a (.inl (sZ a z)) with z | y
            · exact .inl z
            · by_cases ne : a = p
              · subst ne; exact .inr hp
              · rw [upd_ne ne] at y; exact .inr y
          · rcases fr2.fnew a (.inr z) with z | y
            · exact .inl z
            · by_cases ne : a = p
              · subst ne; exact .inr hp
              · rw [upd_ne ne] at y; exact .inr y
      · simp only [if_neg h15'] at q
end
theorem bt_sorted : bootBuiltins "sorted" = some (.builtin "sorted") := by first | boot_by_name | rfl | kernel_rfl
end G
end

section
set_option maxRecDepth 100000
set_option maxHeartbeats 4000000
open PySem PySem.Spec PyProof.Rows L2
namespace G
/-! several clauses, each with or without a name -/
abbrev Cls3 := Value × Option Nat × (Addr → Value → Option Addr → TS)
/-- what a suite ends in, its clause's name gone -/
def endA (D : Ends) : Option Nat → Ends
  | none => D
  | some i => { nx := fun σ H => D.nx (σ.set i none) H, rt := D.rt, bk := fun σ H => D.bk (σ.set i none) H, ct := fun σ H => D.ct (σ.set i none) H }
def slotA (a : Addr) (σ : L2.St) : Option Nat → L2.St
  | none => σ
  | some i => σ.set i (some (.ref a))
def wishA (K : PySem.W.Frag) (W : WX) (D : Ends) : List Cls3 → WX
  | [] => W
  | (c, oi, ts) :: r => fun cls d σ H => ∃ b, PySem.W.exmOne K cls c = some b ∧ (b = true → ∀ a, H a = none → ts a cls d (endA D oi) (slotA a σ oi) H) ∧ (b = false → wishA K W D r cls d σ H)
inductive HdA (X : Cx) : List ExceptHandler → List Cls3 → Prop
  | nil : HdA X [] []
  | bare {x : Str} {c : Value} {ts : Addr → Value → Option Addr → TS} {st : Stmt} {su : List Stmt} {p1 p2 : Pos} {hs : List ExceptHandler} {l : List Cls3} (hc : Names X x c)
      (hq : ∀ (a : Addr) (oe : Obj) (cls : Value) (d : Option Addr) (pn : List (Addr × Obj)), Zc cls d oe → (∃ vs, oe.data = .fields vs) → PSs (X.suite a ((a, oe) :: pn)) (st :: su) (ts a cls d)) (r : HdA X hs l) :
      HdA X (.ExceptHandler (some (.Name x p1)) none (st :: su) p2 :: hs) ((c, none, ts) :: l)
  | named {x n : Str} {i : Nat} {c : Value} {ts : Addr → Value → Option Addr → TS} {st : Stmt} {su : List Stmt} {p1 p2 : Pos} {hs : List ExceptHandler} {l : List Cls3} (hN : X.N.Nodup) (hi : X.N[i]? = some n) (hk : X.env.kindOf n = some .local) (hc : Names X x c)
      (hq : ∀ (a : Addr) (oe : Obj) (cls : Value) (d : Option Addr) (pn : List (Addr × Obj)), Zc cls d oe → (∃ vs, oe.data = .fields vs) → PSs (X.suite a ((a, oe) :: pn)) (st :: su) (ts a cls d)) (r : HdA X hs l) :
      HdA X (.ExceptHandler (some (.Name x p1)) (some n) (st :: su) p2 :: hs) ((c, some i, ts) :: l)
section
variable {X : Cx} {body : List Stmt} {h₀ : ExceptHandler} {hs : List ExceptHandler} {l : List Cls3} {pos : Pos} {tb : WX → TS} {Wo : WX}
theorem ps_try_named (es : X.stack = X.env :: X.outer) (ef : X.env.frame = some X.env.locals) (tk : Takes X Wo)
    (hb : ∀ (W : WX) (pn : List (Addr × Obj)) (xe : Value → Shared → Prop), Takes (X.tr pn xe) W → PassesOwn (model X.prog X.w) X.A X.env xe → PSs (X.tr pn xe) body (tb W))
    (hh : HdA X (h₀ :: hs) l) : PS X (.Try body (h₀ :: hs) [] [] pos) (fun D σ H => tb (fun cls d σ H => σ.length = X.N.length → wishA X.K Wo D l cls d σ H) D σ H) := by
  refine ⟨fun pins s σ H D I q0 => ?_⟩
  have ok := I.ok
  have frm : X.A.frames = some (X.env :: X.outer) := by rw [ok.frames, es]
  let caught : Value → Shared → Prop := fun e s₁ => wpAny (model X.prog X.w) X.A (noteFrame e X.env) (fun _ s₂ => wpAny (model X.prog X.w) X.A (setFlight e none) (fun _ s₃ => wpAny (model X.prog X.w) X.A (handleBy e X.env (h₀ :: hs)) (SP X pins D) X.xe s₃) X.xe s₂) X.xe s₁
  refine wpAny_Try_except (wpAny_mono ((hb (fun cls d σ H => σ.length = X.N.length → wishA X.K Wo D l cls d σ H) (X.pn ++ pins) caught (fun u s' xx => ?_) PassesOwn.looking).run [] s σ H D (I.toTry _) q0) (fun f s1 hsp => ?_) (fun e s1 he => he))
  · obtain ⟨a, B, sI, pins', σ1, H1, cls, d, rfl, J1, nb, up, sky, na, os, ag, w⟩ := xx
    have J : Inv X pins σ1 H1 sI := J1.ofTry ok
    have sky1 : Sky B (X.env :: X.outer) a (Zc cls d) X.env.locals s'.heap := by rw [← es]; exact sky
    show wpAny (model X.prog X.w) X.A (noteFrame (.ref a) X.env) _ _ _
    refine Sky.land Zc.steady frm ef sky1 fun g3 fz3 uq3 => ?_
    have K3 : Inv X pins σ1 H1 { s' with heap := g3 } := J.landed nb fz3.1 (up.trans uq3) os ag
    obtain ⟨x3, ws3, at3, z3, dat3⟩ := fz3.there
    have outF : a ∉ frs (X.env :: X.outer) := fun hm => by
      obtain ⟨_, o', e', hnf⟩ := fz3.2.2.1.mem hm
      rw [at3] at e'; cases e'
      exact hnf _ dat3
    have outL : a ≠ X.env.locals := fun z => outF (List.mem_filterMap.mpr ⟨X.env, List.mem_cons_self, by rw [ef, z]⟩)
    have outS : a ∉ X.fs := fun hm => by
      obtain ⟨e, he, q⟩ := List.mem_filterMap.mp hm
      exact outF (List.mem_filterMap.mpr ⟨e, List.mem_cons_of_mem _ he, q⟩)
    have SU := K3.suite at3 dat3 na outL outS
    have asked : ∀ {x : Str} {c : Value} {p1 : Pos} {Q : Value → Shared → Prop} {E : Value → Shared → Prop}, Names X x c → Q c { s' with heap := g3 } → wpAny (model X.prog X.w) (X.A.mark (some (.ref a))) (eval (.Name x p1) X.env) Q E { s' with heap := g3 } := fun hc q => by
      obtain ⟨g1, g2, hm | ⟨hm, hv, hnn⟩⟩ := hc
      · exact ld_glob (X := X.suite a ((a, x3) :: (X.pn ++ pins))) SU g1 hm q g2
      · exact ld_blt (X := X.suite a ((a, x3) :: (X.pn ++ pins))) SU g1 hm hv q hnn g2
    have kind : PySem.W.Looks (model X.prog X.w) g3 (typeOf (.ref a)) cls := fun A Q E s k q => wpAny_typeOf_ref (k _ _ at3) (by rw [z3.1]; exact q)
    have go : ∀ {hs' : List ExceptHandler} {l' : List Cls3}, HdA X hs' l' → wishA X.K Wo D l' cls d σ1 H1 → wpAny (model X.prog X.w) X.A (handleBy (.ref a) X.env hs') (SP X pins D) X.xe { s' with heap := g3 } := by
      intro hs' l' hk
      induction hk with
      | nil =>
        intro w
        refine wpAny_handleBy_nil ?_
        obtain ⟨_, _, _, oe, vs, T, oT, _, he, hz, hd, h1, _⟩ := id fz3
        unfold PySem.passOn
        refine wpAny_bind (wpAny_field he hd h1 ?_)
        rw [if_neg (by simp : ¬ ((Value.ref T == Value.none) = true))]
        have fin : wpAny (model X.prog X.w) X.A (setFlight (.ref a) X.env.frame) (fun _ s4 => wpAny (model X.prog X.w) X.A (throw (.ref a) : Sem Flow) (SP X pins D) X.xe s4) X.xe { s' with heap := g3 } := by
          rw [ef]
          refine HandSPX.setFlight_upZ fz3 fun g4 hh4 uq4 => wpAny_throw (tk _ _ ⟨a, B, sI, pins, σ1, H1, cls, d, rfl, J, nb, (up.trans uq3).trans uq4, .inr (.inr (by rw [es]; exact hh4)), na, os, ag, w⟩)
        first
          | exact wpAny_bind (wpAny_pure (wpAny_bind fin))
          | exact wpAny_bind fin
      | @bare x c ts st su p1 p2 hs2 l2 hc hq r ih =>
        intro w
        obtain ⟨b, w1, wy, wn⟩ := w
        have LM := PySem.W.exm_one (M := model X.prog X.w) (K3.kIn) kind w1
        refine wpAny_handleBy_cons (codeAny_handlers_test (asked hc (LM.here ?_))) (by intro q; cases q)
        cases b with
        | false => exact ih (wn rfl)
        | true =>
          refine codeAny_handlers_suite (HandSPX.lands_againZ fz3 fun g4 fz4 uq4 => ?_)
          have K4 : Inv X pins σ1 H1 { s' with heap := g4 } := J.landed nb fz4.1 ((up.trans uq3).trans uq4) os ag
          obtain ⟨x4, ws4, at4, z4, dat4⟩ := fz4.there
          refine wpAny_mono ((hq a x4 cls d (X.pn ++ pins) z4 ⟨_, dat4⟩).run [] _ _ H1 _ (K4.suite at4 dat4 na outL outS) (wy rfl a na)) (fun f s6 hsp => ?_) (fun _ _ z => False.elim z)
          cases f with
          | ret u =>
            obtain ⟨v6, σ6, H6, S6, r6, q6⟩ := hsp
            exact ⟨_, _, _, S6.unsuite ok, r6, q6⟩
          | next => obtain ⟨σ6, H6, S6, q6⟩ := hsp; exact ⟨_, _, S6.unsuite ok, q6⟩
          | brk => obtain ⟨σ6, H6, S6, q6⟩ := hsp; exact ⟨_, _, S6.unsuite ok, q6⟩
          | cont => obtain ⟨σ6, H6, S6, q6⟩ := hsp; exact ⟨_, _, S6.unsuite ok, q6⟩
      | @named x n i c ts st su p1 p2 hs2 l2 hN hi hk hc hq r ih =>
        intro w
        obtain ⟨b, w1, wy, wn⟩ := w
        have LM := PySem.W.exm_one (M := model X.prog X.w) (K3.kIn) kind w1
        refine wpAny_handleBy_cons (codeAny_handlers_test (asked hc (LM.here ?_))) (by intro q; cases q)
        cases b with
        | false => exact ih (wn rfl)
        | true =>
          refine codeAny_handlers_suite_as (HandSPX.lands_againZ fz3 fun g4 fz4 uq4 => ?_)
          have K4 : Inv X pins σ1 H1 { s' with heap := g4 } := J.landed nb fz4.1 ((up.trans uq3).trans uq4) os ag
          obtain ⟨x4, ws4, at4, z4, dat4⟩ := fz4.there
          refine store_ok (X := X.suite a ((a, x4) :: (X.pn ++ pins))) (v := .ref a) (K4.suite at4 dat4 na outL outS) hN hi (.inl hk) rfl (fun s5 S5 => ?_) (.inr hk)
          refine wpAny_mono ((hq a x4 cls d (X.pn ++ pins) z4 ⟨_, dat4⟩).run [] s5 _ H1 _ S5 (wy rfl a na)) (fun f s6 hsp => ?_) (fun _ _ z => False.elim z)
          have away : ∀ {σ6 : L2.St} {H6 : Hp} {Q : Shared → Prop}, Inv (X.suite a ((a, x4) :: (X.pn ++ pins))) [] σ6 H6 s6 → (∀ s7, Inv X pins (σ6.set i none) H6 s7 → Q s7) →
              wpAny (model X.prog X.w) X.A (do bindName X.env n .none; unbindBehindTheSuite X.env n p2) (fun _ s7 => Q s7) X.xe s6 := fun S6 hz => gone_ok (S6.unsuite ok) hN hi hk hz
          cases f with
          | ret u =>
            obtain ⟨v6, σ6, H6, S6, r6, q6⟩ := hsp
            exact away S6 fun s7 J7 => ⟨_, _, _, J7, r6, q6⟩
          | next => obtain ⟨σ6, H6, S6, q6⟩ := hsp; exact away S6 fun s7 J7 => ⟨_, _, J7, q6⟩
          | brk => obtain ⟨σ6, H6, S6, q6⟩ := hsp; exact away S6 fun s7 J7 => ⟨_, _, J7, q6⟩
          | cont => obtain ⟨σ6, H6, S6, q6⟩ := hsp; exact away S6 fun s7 J7 => ⟨_, _, J7, q6⟩
    exact go hh (w K3.len)
  · cases f with
    | ret u =>
      obtain ⟨v, σ1, H1, J1, r, q⟩ := hsp
      exact ⟨v, σ1, H1, J1.ofTry ok, r, q⟩
    | next => obtain ⟨σ1, H1, J1, q⟩ := hsp; exact wpAny_execs_nil ⟨σ1, H1, J1.ofTry ok, q⟩
    | brk => obtain ⟨σ1, H1, J1, q⟩ := hsp; exact ⟨σ1, H1, J1.ofTry ok, q⟩
    | cont => obtain ⟨σ1, H1, J1, q⟩ := hsp; exact ⟨σ1, H1, J1.ofTry ok, q⟩
end
end G
end

section
set_option maxRecDepth 100000
set_option maxHeartbeats 4000000
open PySem PySem.Spec PyProof.Rows L2 LamX
namespace G
/-! a lambda without parameters, handed to a def of the text -/
/-- all but tables of code objects stays -/
def KeptN (H H1 : Hp) : Prop := ∀ b o, H b = some o → NT o → H1 b = some o
section
variable {md : Bool} {C : Cn} {X : Cx} {pins : List (Addr × Obj)} {σ : L2.St} {H : Hp} {s : Shared}
theorem lam_new {c P : Addr} {prm : Arguments} {bd : Expr} {sc : Scope} {pos : Pos} {E : Value → Shared → Prop} {Q : Value → Shared → Prop} (I : Inv X pins σ H s) (TB : TabB X.base X.mg c P) (hcode : X.env.code = .ref c)
    (hm : (P, X.env.qual ++ "<lambda>") ∈ C.tabs) (hu : ∀ p ∈ C.tabs, p.1 = P → p.2 = X.env.qual ++ "<lambda>") (hT : Tabs C.tabs H) (hdef : defaultsOf prm X.env = ([], [])) (hfree : ∀ y ∈ sc.names, y.2 = .free → ∃ c, X.env.cells.lookup y.1 = some c)
    (h : ∀ (f k : Addr) (pm ctv : Value) (H1 : Hp) (s1 : Shared), Inv X pins σ H1 s1 → KeptN H H1 → Tk C H H1 →
      s1.heap.get? f = some (PySem.W.kla_obj "<lambda>" (X.env.qual ++ "<lambda>") prm bd sc (cloFrom X.env.cells sc.names []) pm k ctv) → H1 f = none → f ∉ frs X.stack → H1 k = some (CodeO k (X.env.qual ++ "<lambda>")) → Q (.ref f) s1) :
    wpAny (model X.prog X.w) X.A (eval (.Lambda prm bd sc pos) X.env) Q E s := by
  obtain ⟨ps, tabH, trip, known⟩ := hT _ hm
  have bP : s.heap.BuiltinsAt X.mg P := TB.bm.keeps I.bk
  have tabS : s.heap.get? P = some { cls := .none, data := .fields ps } := I.hok P _ tabH
  have noFr : ∀ f, s.heap.objs.size ≤ f → f ∉ frs X.stack := fun f hf z => by
    rcases List.mem_cons.mp (I.stkSub _ z) with e | e
    · have h1 := I.lt
      rw [← e] at h1
      exact Nat.lt_irrefl _ (Nat.lt_of_lt_of_le h1 hf)
    · exact I.nofs hf e
  refine PySem.W.kla_eval hdef ?_
  cases met : codeAmong pos ps.toList with
  | some cv =>
    obtain ⟨k, ek, hk⟩ := known pos cv met
    subst ek
    refine PySem.W.kla_makeFunctionHit (mg := X.mg) (c := c) (P := P) (ps := ps) (closure_ok hfree) I.ok.glob (I.mod.glob.keeps I.bk) hcode (TB.code.keeps I.bk) tabS trip met bP fun ctv h' tk kp sz => ?_
    refine h h'.objs.size k ((X.mg "__name__").getD .none) ctv H _ (I.kept fun b o e => Heap.get?_push_of_some _ (kp b o e)) (fun _ _ e _ => e) .refl (Heap.get?_push_size _ rfl) (I.hok.fresh sz) (noFr _ sz) hk
  | none =>
    refine PySem.W.kla_makeFunction (mg := X.mg) (c := c) (P := P) (ps := ps) (closure_ok hfree) I.ok.glob (I.mod.glob.keeps I.bk) hcode (TB.code.keeps I.bk) tabS trip met TB.gP bP fun k ctv h' tk but above below rec tab' => ?_
    obtain ⟨k2, oc, vs, t, ek, atk, datk, namk⟩ := rec
    cases ek
    have sz : s.heap.objs.size ≤ h'.objs.size := Nat.le_trans above (Nat.le_of_lt below)
    have freshK : H k = none := I.hok.fresh above
    have nPk : P ≠ k := ne_of_none tabH freshK
    have keep : KeptN H (upd (upd H P (.tbl (ps ++ #[rawInt pos.line, rawInt pos.col, .ref k]))) k (CodeO k (X.env.qual ++ "<lambda>"))) := fun b o e nt => by
      rw [upd_ne (ne_of_none e freshK), upd_ne (fun z => nt.ne ps (Option.some.inj (e.symm.trans (by rw [z]; exact tabH))))]
      exact e
    have J := inv_table (t' := tk) (more := #[rawInt pos.line, rawInt pos.col, .ref k]) (h' := h'.push (PySem.W.kla_obj "<lambda>" (X.env.qual ++ "<lambda>") prm bd sc (cloFrom X.env.cells sc.names []) ((X.mg "__name__").getD .none) k ctv)) I tabH
      (fun b o hb e => Heap.get?_push_of_some _ (but b o hb e)) (Heap.get?_push_of_some _ tab') above ⟨oc, vs, t, Heap.get?_push_of_some _ atk, datk, namk⟩
    have flat : (ps ++ #[rawInt pos.line, rawInt pos.col, .ref k]).toList = ps.toList ++ [rawInt pos.line, rawInt pos.col, .ref k] := by simp
    refine h h'.objs.size k ((X.mg "__name__").getD .none) ctv _ _ J keep ⟨fun a qs e => ?_, fun hT' p hp => ?_⟩ (Heap.get?_push_size _ rfl) ?_ (noFr _ sz) upd_same
    · by_cases ha : a = P
      · exact ⟨_, by rw [ha, upd_ne nPk, upd_same]⟩
      · exact ⟨qs, by rw [upd_ne (ne_of_none e freshK), upd_ne ha]; exact e⟩
    · obtain ⟨ps', a1, a2, a3⟩ := hT' p hp
      by_cases hb : p.1 = P
      · rw [hu p hp hb, hb]
        refine ⟨_, by rw [upd_ne nPk, upd_same], by rw [flat]; exact PySem.TriplesOk_snoc _ _ _ _ trip, fun p' cv hcv => ?_⟩
        rw [flat] at hcv
        rcases among_app _ trip hcv with z | z
        · obtain ⟨c0, e1, e2⟩ := known p' cv z
          exact ⟨c0, e1, keep _ _ e2 (nt_of codeO_ne)⟩
        · exact ⟨k, z, upd_same⟩
      · refine ⟨ps', by rw [upd_ne (ne_of_none a1 freshK), upd_ne hb]; exact a1, a2, fun p' cv hcv => ?_⟩
        obtain ⟨c0, e1, e2⟩ := a3 p' cv hcv
        exact ⟨c0, e1, keep _ _ e2 (nt_of codeO_ne)⟩
    · rw [upd_ne (Nat.ne_of_gt below), upd_ne (Nat.ne_of_gt (Nat.lt_of_lt_of_le (Heap.lt_size tabS) sz))]
      exact I.hok.fresh sz
def tLm (C : Cn) (TT : (XK → Hp → VK → Prop) → Hp → VK → Prop) (t : XK → TE) : TE := fun σ H Q => Tabs C.tabs H ∧ ∀ H1, KeptN H H1 → Tk C H H1 → TT (fun E H' Q' => t E σ H' Q') H1 Q
/-- x(lambda: body) -/
theorem pe_lam {TT : (XK → Hp → VK → Prop) → Hp → VK → Prop} {x a : Str} {g c P : Addr} {k : Nat} {pg : Arguments} {bg : List Stmt} {sg : Scope} {dV kV doc pm cdv ct oc : Value} {an od : Option Addr} {osl : Array (Option Value)} {Ng : List Str}
    {prm : Arguments} {bd : Expr} {sc : Scope} {t : XK → TE} {p lpos pos : Pos} (hg : Gl X x) (hm : X.mg x = some (.ref g)) (hk : PySem.W.keepIn X.K (.ref g) = true)
    (lk : X.K.lookup g = some ⟨oc, od, .func (PySem.W.fnOf x x pg bg sg dV kV doc pm an cdv ct), osl⟩) (hcg : PySem.W.codeIn X.K cdv x = true) (hb : L2.Binds X.K (PySem.W.fnOf x x pg bg sg dV kV doc pm an cdv ct) [a] []) (Sg : FnScope Ng [a] sg) (hNg : Ng[0]? = some a) (hva : Vis sg a)
    (hG : GivesTo X Ng x sg g cdv bg a (X.env.qual ++ "<lambda>") TT)
    (TB : TabB X.base X.mg c P) (hcode : X.env.code = .ref c) (hmT : (P, X.env.qual ++ "<lambda>") ∈ C.tabs) (hu : ∀ p ∈ C.tabs, p.1 = P → p.2 = X.env.qual ++ "<lambda>") (hr : Room (k + 2) X.A) (L : LamS X.env.scope sc) (hdef : defaultsOf prm X.env = ([], []))
    (hbind : ∀ (q : Str) (cl : List (Str × Addr)) (pm cv ctv : Value), bindArgs (PySem.W.kla_fn "<lambda>" q prm bd sc cl pm cv ctv) ⟨[], []⟩ = pure [])
    (hbody : ∀ (A : Around) (outer : List Env) (s : Shared) (H : Hp) (E : XK) (f c' : Addr), Room k (A.deeper (lamEnv X sc s.heap.objs.size f c')) → PE (lamCx X A outer s H E sc f c') bd (t E))
    (hdb : (x == ("__debug__" : Str)) = false := by decide) (hd : (a == ("__debug__" : Str)) = false := by decide) (hcd : (a == ("__classdict__" : Str)) = false := by decide) :
    PE X (.Call (.Name x p) [.Lambda prm bd sc lpos] [] pos) (tLm C TT t) := by
  refine ⟨fun pins s σ H Q I ⟨hT, h⟩ => ?_⟩
  refine wpAny_Call_Name_kw (ld_glob I hg hm (PySem.W.callWith_K (h₀ := X.base) I.ok.mod.kin hk ?_ (by rfl) (by rfl)) hdb)
  show wpAny _ _ (spliced ((false, eval (.Lambda prm bd sc lpos) X.env) :: backTo pos (starEach [] X.env))) _ _ s
  refine Calls.spliced_cons (lam_new I TB hcode hmT hu hT hdef (L.has I.ok) fun f k' pm' ctv H1 s1 I1 kn tk atf nf frf hco => Calls.spliced_nil ⟨I1.kIn, ?_⟩)
  have rc : codeAny (model X.prog X.w) X.A (.call (.ref g) ⟨[.ref f], []⟩) (CR C8.CX0 X.stack X.prog X.w H1 s1 Q C8.E0) s1 := by
    refine run_ofS (N := Ng) (ps := [a]) (us := [.ref f]) (vs := [.ref f]) lk hcg Sg hr I1.env0 (hb s1 [.ref f] I1.kIn rfl) (.cons rfl .nil) rfl fun hr' => ?_
    obtain ⟨t', ht', hq'⟩ := hG f k' s1 H1 Q (fun E H' Q' => t E σ H' Q') (fun W pn xe E p1 p2 tk' hW => pe_act (i := 0) I1 L atf nf frf (hbind _ _ _ _ _) tk' hW hr' (fun A outer s H hr2 => hbody A outer s H E f k' hr2) hNg hva hd hcd) hco (h H1 kn tk)
    exact ⟨t', ht'.nox, hq'⟩
  refine wpAny_call (codeAny_mono rc fun r s2 hq => ?_)
  cases r with
  | ok fl => cases fl <;> first | exact I1.after hq | exact False.elim hq
  | error e => exact (show False from hq).elim
end
end G
end

section
set_option maxRecDepth 100000
set_option maxHeartbeats 4000000
open PySem PySem.Spec PyProof.Rows L2 LamX
namespace G
/-! x(lambda: ..), where x tells what became of the call -/
abbrev Hds := List ((Nat → Bool) × (Xn → Option O))
def metS : Hds → Xn → Option O
  | [], _ => none
  | (m, g) :: r, x => if m x.cls = true then g x else metS r x
def metG (hs : Hds) (fin : Option Str) : Out O → Out O
  | .ok o ρ => match fin with
    | some z => .ok (sO z) ρ
    | none => .ok o ρ
  | .exc x ρ => match metS hs x with
    | some z => .ok z ρ
    | none => .bad
  | .bad => .bad
def eLam (hs : Hds) (fin : Option Str) (f : Fe) : Fe := fun ρ => metG hs fin (f ρ)
/-- what a suite says -/
def tSay (C : Cn) (oi : Option Nat) (a : Addr) (cls : Value) (d : Option Addr) (m : Nat → Bool) (g : Xn → Option O) : TE := fun σ H Q => ∃ S x o, So H S ∧ RepXn C H S x cls d ∧ m x.cls = true ∧ (∀ i, oi = some i → σ[i]? = some (some (.ref a))) ∧ g x = some o ∧
  ∀ v H' S' A, Alc H S H' S' A → RepO C H' S' v o A → Q v H'
def SayE (C : Cn) (Z : Cx) (oi : Option Nat) (e : Expr) (m : Nat → Bool) (g : Xn → Option O) : Prop :=
  ∀ (a : Addr) (oe : Obj) (cls : Value) (d : Option Addr) (pn : List (Addr × Obj)), Zc cls d oe → (∃ vs, oe.data = .fields vs) → PE (Z.suite a ((a, oe) :: pn)) e (tSay C oi a cls d m g)
def sayD (o : O) : Xn → Option O := fun _ => some o
def sayF : Xn → Option O := fun x => match x.fs with
  | [d] => some (.sh d)
  | _ => none
/-- 'c' + repr(error.f) -/
def sayR (c : Str) : Xn → Option O := fun x => match x.fs with
  | [fd] => match reprG [fd] with
    | some (.sh (.str y)) => if c.length + y.length ≤ big then some (sO (c ++ y)) else none
    | _ => none
  | _ => none
def sayL : Xn → Option O := fun x => match x.fs with
  | [d] => some (OL [d])
  | _ => none
theorem start_len {N : List Str} {vs : List V} (h : vs.length ≤ N.length) : (L2.start N vs).length = N.length := by
  simp [L2.start]
  omega
section
variable {md : Bool} {C : Cn} {Z : Cx} {oi : Option Nat} {m : Nat → Bool}
theorem say_str {x : Str} {j : Nat} {p : Pos} : SayE C Z oi (.Constant (.str x) j p) m (sayD (sO x)) := fun a oe cls d pn hz hf =>
  pe_imp pe_str fun σ H Q ⟨S, xx, o, so, rx, hm, hs, eo, q⟩ => q_sc (d := .str x) so q (by simpa [sayD] using (Eq.symm (Option.some.inj eo))) rfl
theorem fld_at {f : Str} {n0 : Nat} {x : Xn} {H : Hp} {S : Set'} {cls : Value} {d : Option Addr} {dd : D} (hf : C.fld n0 = [f]) (hn : x.cls = n0) (rx : RepXn C H S x cls d) (e : x.fs = [dd]) :
    ∃ (da : Addr) (fs : List (Str × V)) (v : V), d = some da ∧ H da = some (.xd fs) ∧ fs.lookup f = some v ∧ RepD C H S v dd := by
  obtain ⟨_, h | ⟨a, vs, e1, s, e2, r⟩⟩ := rx
  · rw [h] at e; cases e
  · rw [e] at r
    obtain ⟨v, r', rfl, r1, r2⟩ := r
    obtain rfl : r' = [] := r2
    exact ⟨a, _, v, e1, e2, by rw [hn, hf]; simp [List.lookup], r1⟩
theorem say_fld {n f : Str} {i : Nat} {Cc : Addr} {p2 p3 : Pos} (hi : Z.N[i]? = some n) (hk : Z.env.kindOf n = some .local) (h0 : ∀ k, m k = true → C.ecl k = .ref Cc ∧ C.fld k = [f]) (T : XfC Z.K Cc) (hno : PySem.W.findIn Z.K (.ref Cc) f = some none)
    (hd : (n == ("__debug__" : Str)) = false) (hcd : (n == ("__classdict__" : Str)) = false) (hb : attributeBase (.Name n p2) f Z.env (eval (.Name n p2) Z.env) = eval (.Name n p2) Z.env) : SayE C Z (some i) (.Attribute (.Name n p2) f p3) m sayF := fun a oe cls d pn hz hfs => by
  refine pe_imp (pe_xf (X := Z) (C := Cc) T hno hz hfs (pe_var (X := Z.suite a ((a, oe) :: pn)) (i := i) hi (.inl hk) hd hcd) hb) fun σ H Q ⟨S, xx, o, so, rx, hm, hs, eo, q⟩ => ?_
  unfold sayF at eo
  split at eo
  · next dd e =>
    obtain ⟨da, fs, v, e1, e2, e3, r⟩ := fld_at (h0 _ hm).2 rfl rx e
    refine ⟨.ref a, hs i rfl, rfl, by rw [rx.1, (h0 _ hm).1], da, fs, v, e1, e2, e3, q v H S No (.refl so) ?_⟩
    rw [← Option.some.inj eo]
    exact ⟨emp_no, r⟩
  · cases eo
theorem say_repr {n f c0 : Str} {i : Nat} {Cc : Addr} {j : Nat} {p2 p3 p4 p5 p6 p7 : Pos} (hi : Z.N[i]? = some n) (hk : Z.env.kindOf n = some .local) (h0 : ∀ k, m k = true → C.ecl k = .ref Cc ∧ C.fld k = [f]) (T : XfC Z.K Cc) (hno : PySem.W.findIn Z.K (.ref Cc) f = some none)
    (hg : Gl Z "repr") (hmr : Z.mg "repr" = none)
    (hd : (n == ("__debug__" : Str)) = false) (hcd : (n == ("__classdict__" : Str)) = false) (hb : attributeBase (.Name n p2) f Z.env (eval (.Name n p2) Z.env) = eval (.Name n p2) Z.env) :
    SayE C Z (some i) (.BinOp (.Constant (.str c0) j p4) .Add (.Call (.Name "repr" p5) [.Attribute (.Name n p2) f p3] [] p6) p7) m (sayR c0) := fun a oe cls d pn hz hfs => by
  have pa : PA (Z.suite a ((a, oe) :: pn)) [.Attribute (.Name n p2) f p3] _ := pa_cons (say_fld (p3 := p3) hi hk h0 T hno hd hcd hb a oe cls d pn hz hfs) pa_nil
  have pr := pe_callB (p := p5) (pos := p6) (X := Z.suite a ((a, oe) :: pn)) (og_repr0 (C := C)) hg hmr bt_repr pa
  refine pe_imp (pe_op (pos := p7) (op_add_str (X := Z.suite a ((a, oe) :: pn))) (pe_str (j := j) (pos := p4)) pr) fun σ H Q ⟨S, xx, o, so, rx, hm, hs, eo, q⟩ => ?_
  unfold sayR at eo
  split at eo
  · next dd e =>
    split at eo
    · next y ey =>
      split at eo
      · next hl =>
        refine ⟨S, xx, .sh dd, so, rx, hm, hs, by simp [sayF, e], fun v H1 S1 A al r1 => ?_⟩
        have so1 : So H1 S1 := al.so
        refine ⟨S1, [dd], so1, ⟨v, [], rfl, r1.2, rfl⟩, _, ey, fun v2 H2 S2 A2 al2 r2 => ?_⟩
        refine ⟨_, _, rfl, r2.2, big_line hl, ?_⟩
        have al3 : Alc H S H2 S2 No := ⟨fun a u e => al2.keep a u (al.keep a u e), fun a s => al2.sub a (al.sub a s), fun a s => (al2.new a s).elim (fun s => al.new a s) fun e => ?_, fun _ h => h.elim, al2.so⟩
        · exact q _ H2 S2 No al3 (by rw [← Option.some.inj eo]; exact ⟨emp_no, rfl⟩)
        · cases z : H a with
          | none => exact .inr rfl
          | some u => rw [al.keep a u z] at e; cases e
      · cases eo
    · cases eo
  · cases eo
theorem Alc.comp {H H1 H2 : Hp} {S S1 S2 A A2 : Set'} (x : Alc H S H1 S1 A) (y : Alc H1 S1 H2 S2 A2) : Alc H S H2 S2 A2 := by
  have nn : ∀ a, H1 a = none → H a = none := fun a e => by
    cases z : H a with
    | none => rfl
    | some u => rw [x.keep a u z] at e; cases e
  exact ⟨fun a u e => y.keep a u (x.keep a u e), fun a s => y.sub a (x.sub a s), fun a s => (y.new a s).elim (fun s => x.new a s) fun e => .inr (nn a e), fun a h => ⟨nn a (y.fr a h).1, (y.fr a h).2⟩, y.so⟩
theorem say_lst {n f : Str} {p p2 p3 : Pos} (h : SayE C Z oi (.Attribute (.Name n p2) f p3) m sayF) : SayE C Z oi (.List [.Attribute (.Name n p2) f p3] p) m sayL := fun a oe cls d pn hz hfs => by
  refine pe_imp (pe_lst (pa_cons (h a oe cls d pn hz hfs) pa_nil)) fun σ H Q ⟨S, xx, o, so, rx, hm, hs, eo, q⟩ => ?_
  unfold sayL at eo
  split at eo
  · next dd e =>
    refine ⟨S, xx, .sh dd, so, rx, hm, hs, by simp [sayF, e], fun v H1 S1 A al r1 => ⟨one_line (by simp), fun b hb => ?_⟩⟩
    exact q_lst (l := [dd]) al.so hb ⟨v, [], rfl, r1.2, rfl⟩ fun v2 H2 S2 A2 al2 r2 => q v2 H2 S2 A2 (al.comp al2) (by rw [← Option.some.inj eo]; exact r2)
  · cases eo
/-- the clauses, each with what its suite says -/
inductive HdM (C : Cn) (Z : Cx) : List ExceptHandler → Hds → Prop
  | nil : HdM C Z [] []
  | bare {x : Str} {c : Value} {m : Nat → Bool} {g : Xn → Option O} {e : Expr} {p1 p2 p3 : Pos} {hds : List ExceptHandler} {hs : Hds} (hc : Names Z x c) (hm : ∀ n, PySem.W.exmOne Z.K (C.ecl n) c = some (m n)) (he : SayE C Z none e m g) (r : HdM C Z hds hs) :
      HdM C Z (.ExceptHandler (some (.Name x p1)) none [.Return (some e) p2] p3 :: hds) ((m, g) :: hs)
  | named {x n : Str} {i : Nat} {c : Value} {m : Nat → Bool} {g : Xn → Option O} {e : Expr} {p1 p2 p3 : Pos} {hds : List ExceptHandler} {hs : Hds} (hN : Z.N.Nodup) (hi : Z.N[i]? = some n) (hk : Z.env.kindOf n = some .local) (hc : Names Z x c) (hm : ∀ n, PySem.W.exmOne Z.K (C.ecl n) c = some (m n))
      (he : SayE C Z (some i) e m g) (r : HdM C Z hds hs) : HdM C Z (.ExceptHandler (some (.Name x p1)) (some n) [.Return (some e) p2] p3 :: hds) ((m, g) :: hs)
def SayQ (C : Cn) (H : Hp) (S : Set') (o : O) (Q : VK) : Prop := ∀ v H' S' A, Alc H S H' S' A → RepO C H' S' v o A → Q v H'
theorem HdM.to {C : Cn} {Z : Cx} {hds : List ExceptHandler} {hs : Hds} (h : HdM C Z hds hs) : ∃ l, HdA Z hds l ∧ ∀ (D : Ends) (cls : Value) (d : Option Addr) (x : Xn) (S : Set') (σ : L2.St) (H : Hp) (o : O), σ.length = Z.N.length → RepXn C H S x cls d → So H S → metS hs x = some o →
    SayQ C H S o D.rt → wishA Z.K (fun _ _ _ _ => False) D l cls d σ H := by
  induction h with
  | nil => exact ⟨[], .nil, fun D cls d x S σ H o _ _ _ e => by simp [metS] at e⟩
  | bare hc hm he r ih =>
    obtain ⟨l, h1, h2⟩ := ih
    rename_i m g e p1 p2 p3 hds hs
    refine ⟨_, .bare hc (fun a oe cls d pn hz hf => pss_one (ps_ret (he a oe cls d pn hz hf))) h1, fun D cls d x S σ H o hl rx so eo q => ⟨m x.cls, by rw [rx.1]; exact hm x.cls, fun hb a na => ?_, fun hb => h2 D cls d x S σ H o hl rx so (by simpa [metS, hb] using eo) q⟩⟩
    exact ⟨S, x, o, so, rx, hb, (fun i e => nomatch e), by simpa [metS, hb] using eo, q⟩
  | named hN hi hk hc hm he r ih =>
    obtain ⟨l, h1, h2⟩ := ih
    rename_i n i c m g e p1 p2 p3 hds hs
    refine ⟨_, .named hN hi hk hc (fun a oe cls d pn hz hf => pss_one (ps_ret (he a oe cls d pn hz hf))) h1, fun D cls d x S σ H o hl rx so eo q => ⟨m x.cls, by rw [rx.1]; exact hm x.cls, fun hb a na => ?_, fun hb => h2 D cls d x S σ H o hl rx so (by simpa [metS, hb] using eo) q⟩⟩
    refine ⟨S, x, o, so, rx, hb, fun j e => ?_, by simpa [metS, hb] using eo, q⟩
    cases e
    have lt : i < Z.N.length := (List.getElem?_eq_some_iff.mp hi).1
    show (σ.set i (some (.ref a)))[i]? = _
    rw [List.getElem?_set_self (by omega)]
end
/-- what such a def makes of the reading of the lambda's body -/
def TTm (C : Cn) (hs : Hds) (fin : Option Str) : (XK → Hp → VK → Prop) → Hp → VK → Prop := fun tl H Q =>
  tl (fun c d H' => ∃ (x : Xn) (S : Set') (o : O), RepXn C H' S x c d ∧ So H' S ∧ metS hs x = some o ∧ SayQ C H' S o Q) H (fun v H1 => match fin with
    | some z => Q (.str z) H1
    | none => Q v H1)
section
variable {md : Bool} {C : Cn} {X : Cx}
/-- its body: try: x() except .. return fin -/
theorem met_gives {Ng : List Str} {x a q z : Str} {sg : Scope} {g : Addr} {cdg : Value} {j : Nat} {h₀ : ExceptHandler} {hds : List ExceptHandler} {hs : Hds} {p1 p2 p3 p4 p5 p6 : Pos} (hNl : 1 ≤ Ng.length)
    (hh : ∀ (s : Shared) (H : Hp), HdM C (cxOf C8.CX0 X.prog X.w X.K X.mg X.base Ng x sg g cdg X.A X.stack s H C8.E0).nox (h₀ :: hds) hs) (h0 : ∀ f : Addr, (L2.start Ng [V.ref f])[0]? = some (some (V.ref f)))
    (hsw : ∀ (s : Shared) (H : Hp) (pn : List (Addr × Obj)) (xe : Value → Shared → Prop), swapsWith (.Call (.Name a p1) [] [] p2) none p3.line ((cxOf C8.CX0 X.prog X.w X.K X.mg X.base Ng x sg g cdg X.A X.stack s H C8.E0).nox.tr pn xe).env = pure false) :
    GivesTo X Ng x sg g cdg [.Try [.Expr (.Call (.Name a p1) [] [] p2) p3] (h₀ :: hds) [] [] p4, .Return (some (.Constant (.str z) j p5)) p6] a q (TTm C hs (some z)) := by
  intro f c' s H Q tl act hc h
  obtain ⟨l, h1, h2⟩ := (hh s H).to
  refine ⟨_, pss_cons ((ps_try_named (X := (cxOf C8.CX0 X.prog X.w X.K X.mg X.base Ng x sg g cdg X.A X.stack s H C8.E0).nox)
      (tb := fun W D σ H => ∃ Ech : XK, (∀ cls d σ' H', Ech cls d H' → W cls d σ' H') ∧ σ[0]? = some (some (.ref f)) ∧ H c' = some (CodeO c' q) ∧ tl Ech H (fun _ H1 => D.nx σ H1))
      rfl rfl LamX.takes0 (fun W pn xe tk _ => ?_) h1)) (pss_one (ps_ret pe_str)), ?_⟩
  · refine ⟨fun pins s' σ H' D I h' => ?_⟩
    obtain ⟨Ech, hW, e1, e2, e3⟩ := h'
    exact (pss_one (ps_expr (act W pn xe Ech p1 p2 tk hW) (hsw s H pn xe))).run pins s' σ H' D I ⟨e1, e2, e3⟩
  · refine ⟨fun cls d H' => ∃ (x : Xn) (S : Set') (o : O), RepXn C H' S x cls d ∧ So H' S ∧ metS hs x = some o ∧ SayQ C H' S o Q, fun cls d σ' H' ⟨x, S, o, rx, so, eo, qq⟩ hl => h2 _ cls d x S σ' H' o hl rx so eo qq, h0 f, hc, h⟩
/-- its body: try: return x() except .. -/
theorem met_gives2 {Ng : List Str} {x a q : Str} {sg : Scope} {g : Addr} {cdg : Value} {h₀ : ExceptHandler} {hds : List ExceptHandler} {hs : Hds} {p1 p2 p3 p4 : Pos}
    (hh : ∀ (s : Shared) (H : Hp), HdM C (cxOf C8.CX0 X.prog X.w X.K X.mg X.base Ng x sg g cdg X.A X.stack s H C8.E0).nox (h₀ :: hds) hs) (h0 : ∀ f : Addr, (L2.start Ng [V.ref f])[0]? = some (some (V.ref f))) :
    GivesTo X Ng x sg g cdg [.Try [.Return (some (.Call (.Name a p1) [] [] p2)) p3] (h₀ :: hds) [] [] p4] a q (TTm C hs none) := by
  intro f c' s H Q tl act hc h
  obtain ⟨l, h1, h2⟩ := (hh s H).to
  refine ⟨_, pss_one (ps_try_named (X := (cxOf C8.CX0 X.prog X.w X.K X.mg X.base Ng x sg g cdg X.A X.stack s H C8.E0).nox)
      (tb := fun W D σ H => ∃ Ech : XK, (∀ cls d σ' H', Ech cls d H' → W cls d σ' H') ∧ σ[0]? = some (some (.ref f)) ∧ H c' = some (CodeO c' q) ∧ tl Ech H D.rt)
      rfl rfl LamX.takes0 (fun W pn xe tk _ => ?_) h1), ?_⟩
  · refine ⟨fun pins s' σ H' D I h' => ?_⟩
    obtain ⟨Ech, hW, e1, e2, e3⟩ := h'
    exact (pss_one (ps_ret (act W pn xe Ech p1 p2 tk hW))).run pins s' σ H' D I ⟨e1, e2, e3⟩
  · refine ⟨fun cls d H' => ∃ (x : Xn) (S : Set') (o : O), RepXn C H' S x cls d ∧ So H' S ∧ metS hs x = some o ∧ SayQ C H' S o Q, fun cls d σ' H' ⟨x, S, o, rx, so, eo, qq⟩ hl => h2 _ cls d x S σ' H' o hl rx so eo qq, h0 f, hc, h⟩
end
end G
end

section
set_option maxRecDepth 100000
set_option maxHeartbeats 4000000
open PySem PySem.Spec PyProof.Rows L2 LamX
namespace G
/-! lambdas, bundled -/
/-- the body's code object is c, its table P one of the text's -/
def Lx (C : Cn) (X : Cx) : Prop := ∃ c P, TabB X.base X.mg c P ∧ X.env.code = .ref c ∧ (P, X.env.qual ++ "<lambda>") ∈ C.tabs ∧ ∀ p ∈ C.tabs, p.1 = P → p.2 = X.env.qual ++ "<lambda>"
/-- a def of the text that makes lambdas -/
structure DfT (K : PySem.W.Frag) (mg : Str → Option Value) (base : Heap) (C : Cn) (x : Str) (st : Stmt) (ps : List Str) : Prop where
  ex : ∃ (c P f : Addr) (oc : Value) (od : Option Addr) (kV doc pm : Value) (an : Option Addr) (ct : Value) (osl : Array (Option Value)),
    K.lookup f = some ⟨oc, od, .func (PySem.W.fnOf x x (defArgs st) (defBody st) (defScope st) .none kV doc pm an (.ref c) ct), osl⟩ ∧ PySem.W.codeIn K (.ref c) x = true ∧ PySem.W.keepIn K (.ref f) = true ∧ mg x = some (.ref f) ∧
    Binds K (PySem.W.fnOf x x (defArgs st) (defBody st) (defScope st) .none kV doc pm an (.ref c) ct) ps [] ∧ TabB base mg c P ∧ (P, x ++ ".<locals>." ++ "<lambda>") ∈ C.tabs ∧ ∀ p ∈ C.tabs, p.1 = P → p.2 = x ++ ".<locals>." ++ "<lambda>"
section
variable {md : Bool} {C : Cn} {P : Fx} {E : WX} {X : Cx} {e : Expr} {es : List Expr} {pos : Pos} {f : Fe} {j k n : Nat}
theorem cl_defT {P : Program} {w : World} {K : PySem.W.Frag} {mg : Str → Option Value} {base : Heap} {x : Str} {st : Stmt} {N ps : List Str} {ks : List Bool} {body : Fs} (d : DfT K mg base C x st ps) (hK : K = C.K) (Sc : FnScope N ps (defScope st)) (hk : ks.length = ps.length)
    (hb : ∀ (f : Addr) (cdv : Value) (A : Around) (outer : List PySem.Env) (s : Shared) (H : Hp) (E : XK) (σ0 : L2.St), Bx md C k (cxOf (CXm md P w) P w K mg base N x (defScope st) f cdv A outer s H E) (fun c d _ H => E c d H) →
      Lx C (cxOf (CXm md P w) P w K mg base N x (defScope st) f cdv A outer s H E) →
      DSs C ⟨piOf ks 0, σ0⟩ (fun c d _ H => E c d H) (cxOf (CXm md P w) P w K mg base N x (defScope st) f cdv A outer s H E) (defBody st) body) :
    Cl md P w K mg base C (k + 1) x ps.length (fnG N.length ks body) := by
  obtain ⟨c, T, f, oc, od, kV, doc, pm, an, ct, osl, lk, hcd, hkp, hm, hbn, TB, h1, h2⟩ := d.ex
  refine ⟨f, _, ps, rfl, ?_, hm, hkp, hbn⟩
  refine fn_of lk hcd Sc (fun vs H Q E h => ?_) fun A outer s H vs Q E hr h => ⟨_, hb f (.ref c) A outer s H E (vs.map some) (Bx.def hK Sc.nd hr) ⟨c, T, TB, rfl, h1, h2⟩, fn_end ?_ rfl (by rw [hk]; exact h)⟩
  · obtain ⟨_, _, _, e, _⟩ := h; exact e
  · obtain ⟨_, _, _, e, _⟩ := h; exact hk.trans e.symm
/-- a def that takes a lambda, and calls it within a try -/
structure Mt (P : Program) (w : World) (K : PySem.W.Frag) (mg : Str → Option Value) (base : Heap) (C : Cn) (x : Str) (hs : Hds) (fin : Option Str) : Prop where
  ex : ∃ (a : Str) (g : Addr) (pg : Arguments) (bg : List Stmt) (sg : Scope) (dV kV doc pm cdv ct oc : Value) (an od : Option Addr) (osl : Array (Option Value)) (Ng : List Str), mg x = some (.ref g) ∧ PySem.W.keepIn K (.ref g) = true ∧
    K.lookup g = some ⟨oc, od, .func (PySem.W.fnOf x x pg bg sg dV kV doc pm an cdv ct), osl⟩ ∧ PySem.W.codeIn K cdv x = true ∧ L2.Binds K (PySem.W.fnOf x x pg bg sg dV kV doc pm an cdv ct) [a] [] ∧ FnScope Ng [a] sg ∧ Ng[0]? = some a ∧ Vis sg a ∧
    (a == ("__debug__" : Str)) = false ∧ (a == ("__classdict__" : Str)) = false ∧ ∀ (X : Cx) (q : Str), X.prog = P → X.w = w → X.K = K → X.mg = mg → X.base = base → GivesTo X Ng x sg g cdv bg a q (TTm C hs fin)
theorem kn_step {H H1 : Hp} {σ : L2.St} {ρ : Env'} {S F : Set'} (he : RepE C H S σ ρ F) (w : Wf C H S F) (kn : KeptN H H1) (tk : Tk C H H1) : RepE C H1 S σ ρ F ∧ Wf C H1 S F ∧ Fr C H S F H1 S F := by
  have ka : ∀ a, F a → H1 a = H a := fun a h => by
    obtain ⟨u, q⟩ := mut_some (w.mu a h)
    rw [q]; exact kn a u q (Mo.nt (by rw [← q]; exact w.mu a h))
  refine ⟨he.mono ⟨fun a u _ nt e => kn a u e nt, fun a u _ nt e => kn a u e nt, fun _ h => h⟩ ka, ⟨fun a h => by rw [ka a h]; exact w.mu a h, w.ns, fun a h => ?_, tk.tabs w.tb⟩, ⟨fun a u e _ nt => kn a u e nt, fun _ h => h, fun _ => .inl, fun _ => .inl, tk⟩⟩
  obtain ⟨u, e⟩ := w.so a h
  by_cases nt : NT u
  · exact ⟨u, kn a u e nt⟩
  · cases u <;> first | exact absurd trivial nt | skip
    obtain ⟨qs, z⟩ := tk.tb a _ e
    exact ⟨_, z⟩
theorem lm_of {hs : Hds} {fin : Option Str} {fe : Fe} {σ : L2.St} {H : Hp} {Q : VK} (q : rE C E (eLam hs fin fe) σ H Q) : tLm C (TTm C hs fin) (fun E' => rE C (fun c d _ H => E' c d H) fe) σ H Q := by
  obtain ⟨ρ, S, F, he, w, q⟩ := q
  refine ⟨w.tb, fun H1 kn tk => ?_⟩
  obtain ⟨he1, w1, fr1⟩ := kn_step he w kn tk
  refine ⟨ρ, S, F, he1, w1, ?_⟩
  unfold eLam at q
  cases ef : fe ρ with
  | bad => rw [ef] at q; exact q
  | ok o ρ1 =>
    rw [ef] at q
    intro v H2 S2 F2 A he2 r2 w2 d2 fr2
    cases fin with
    | some z => exact q (.str z) H2 S2 F2 No he2 ⟨emp_no, rfl⟩ (wf_no w2.drop) dj_no (fr_no (fr1.trans fr2.drop))
    | none => exact q v H2 S2 F2 A he2 r2 w2 d2 (fr1.trans fr2)
  | exc x ρ1 =>
    rw [ef] at q
    intro c d H2 S2 F2 he2 w2 fr2 rx
    simp only [metG] at q
    cases em : metS hs x with
    | none => rw [em] at q; exact q.elim
    | some z =>
      rw [em] at q
      refine ⟨x, S2, z, rx, w2.so, em, fun v H3 S3 A al r => ?_⟩
      obtain ⟨he3, w3, d3, fr3⟩ := alc_step he2 w2 (fr1.trans fr2) al
      exact q v H3 S3 F2 A he3 r w3 d3 fr3
theorem Bx.lam (b : Bx md C j X E) {A : Around} {outer : List PySem.Env} {s : Shared} {H : Hp} {E' : XK} {sc : Scope} {f' c' : Addr} (hr : Room k (A.deeper (lamEnv X sc s.heap.objs.size f' c'))) : Bx false C k (lamCx X A outer s H E' sc f' c') (fun c d _ H => E' c d H) :=
  ⟨⟨b.ok.K, rfl, by have := hr.un; show (A.deeper (lamEnv X sc s.heap.objs.size f' c')).units + 200 < cLine; omega, b.ok.nd⟩, takesM_of (md := false) rfl rfl rfl rfl, hr⟩
/-- x(lambda: body) -/
theorem de_lam {x : Str} {hs : Hds} {fin : Option Str} {prm : Arguments} {bd : Expr} {sc : Scope} {fe : Fe} {p lpos : Pos} (M : Mt X.prog X.w X.K X.mg X.base C x hs fin) (b : Bx md C (k + 2) X E) (l : Lx C X) (L : lamSB X.env.scope sc = true)
    (hbody : ∀ (A : Around) (outer : List PySem.Env) (s : Shared) (H : Hp) (E' : XK) (f' c' : Addr), Bx false C k (lamCx X A outer s H E' sc f' c') (fun c d _ H => E' c d H) → DE C (fun c d _ H => E' c d H) (lamCx X A outer s H E' sc f' c') bd fe)
    (hdef : defaultsOf prm X.env = ([], []) := by rfl) (hbind : ∀ (q : Str) (cl : List (Str × Addr)) (pm cv ctv : Value), bindArgs (PySem.W.kla_fn "<lambda>" q prm bd sc cl pm cv ctv) ⟨[], []⟩ = pure [] := by intro _ _ _ _ _; rfl)
    (hg : Gl X x := by rfl) (hdb : (x == ("__debug__" : Str)) = false := by decide) : DE C E X (.Call (.Name x p) [.Lambda prm bd sc lpos] [] pos) (eLam hs fin fe) := by
  obtain ⟨a, g, pg, bg, sg, dV, kV, doc, pm, cdv, ct, oc, an, od, osl, Ng, h1, h2, h3, h4, h5, h6, h7, h8, h9, h10, h11⟩ := M.ex
  obtain ⟨c, T, TB, hc, hm, hu⟩ := l
  exact pe_imp (pe_lam (k := k) (t := fun E' => rE C (fun c d _ H => E' c d H) fe) hg h1 h2 h3 h4 h5 h6 h7 h8 (h11 X _ rfl rfl rfl rfl rfl) TB hc hm hu b.rm (lamS_by L) hdef hbind
    (fun A outer s H E' f' c' hr => hbody A outer s H E' f' c' (b.lam hr)) hdb h9 h10) fun σ H Q q => lm_of q
theorem hm_bare {Z : Cx} {x : Str} {m : Nat → Bool} {g : Xn → Option O} {e : Expr} {p1 p2 p3 : Pos} {hds : List ExceptHandler} {hs : Hds} (h : Hnd Z.K Z.mg C x m) (he : SayE C Z none e m g) (r : HdM C Z hds hs) (hg : Gl Z x := by rfl) (hdb : (x == ("__debug__" : Str)) = false := by decide) :
    HdM C Z (.ExceptHandler (some (.Name x p1)) none [.Return (some e) p2] p3 :: hds) ((m, g) :: hs) := by
  obtain ⟨c, h1, h2⟩ := h.ex
  exact .bare ⟨hg, hdb, .inl h1⟩ h2 he r
theorem hm_named {Z : Cx} {x n : Str} {m : Nat → Bool} {g : Xn → Option O} {e : Expr} {p1 p2 p3 : Pos} {hds : List ExceptHandler} {hs : Hds} (i : Nat) (nd : Z.N.Nodup) (h : Hnd Z.K Z.mg C x m) (he : SayE C Z (some i) e m g) (r : HdM C Z hds hs) (hi : Z.N[i]? = some n := by rfl) (hk : Z.env.kindOf n = some .local := by rfl) (hg : Gl Z x := by rfl)
    (hdb : (x == ("__debug__" : Str)) = false := by decide) : HdM C Z (.ExceptHandler (some (.Name x p1)) (some n) [.Return (some e) p2] p3 :: hds) ((m, g) :: hs) := by
  obtain ⟨c, h1, h2⟩ := h.ex
  exact .named nd hi hk ⟨hg, hdb, .inl h1⟩ h2 he r
/-- the field of the exceptions that a clause takes -/
structure FldX (K : PySem.W.Frag) (C : Cn) (m : Nat → Bool) (f : Str) : Prop where
  ex : ∃ Cc, (∀ k, m k = true → C.ecl k = .ref Cc ∧ C.fld k = [f]) ∧ XfC K Cc ∧ PySem.W.findIn K (.ref Cc) f = some none
theorem say_f {Z : Cx} {m : Nat → Bool} {n f : Str} {i : Nat} {p2 p3 : Pos} (h : FldX Z.K C m f) (hi : Z.N[i]? = some n := by rfl) (hk : Z.env.kindOf n = some .local := by rfl) (hd : (n == ("__debug__" : Str)) = false := by decide) (hcd : (n == ("__classdict__" : Str)) = false := by decide)
    (hb : attributeBase (.Name n p2) f Z.env (eval (.Name n p2) Z.env) = eval (.Name n p2) Z.env := by rfl) : SayE C Z (some i) (.Attribute (.Name n p2) f p3) m sayF := by
  obtain ⟨Cc, h1, h2, h3⟩ := h.ex
  exact say_fld hi hk h1 h2 h3 hd hcd hb
theorem say_r {Z : Cx} {m : Nat → Bool} {n f c0 : Str} {i : Nat} {j : Nat} {p2 p3 p4 p5 p6 p7 : Pos} (h : FldX Z.K C m f) (hmr : Z.mg "repr" = none) (hi : Z.N[i]? = some n := by rfl) (hk : Z.env.kindOf n = some .local := by rfl) (hg : Gl Z "repr" := by rfl) (hd : (n == ("__debug__" : Str)) = false := by decide)
    (hcd : (n == ("__classdict__" : Str)) = false := by decide) (hb : attributeBase (.Name n p2) f Z.env (eval (.Name n p2) Z.env) = eval (.Name n p2) Z.env := by rfl) :
    SayE C Z (some i) (.BinOp (.Constant (.str c0) j p4) .Add (.Call (.Name "repr" p5) [.Attribute (.Name n p2) f p3] [] p6) p7) m (sayR c0) := by
  obtain ⟨Cc, h1, h2, h3⟩ := h.ex
  exact say_repr hi hk h1 h2 h3 hg hmr hd hcd hb
theorem mt_of {P : Program} {w : World} {K : PySem.W.Frag} {mg : Str → Option Value} {base : Heap} {x a : Str} {st : Stmt} {N : List Str} {hs : Hds} {fin : Option Str} (d : Df K mg x st [a]) (Sc : FnScope N [a] (defScope st)) (hN : N[0]? = some a) (hv : Vis (defScope st) a)
    (hG : ∀ (X : Cx) (g : Addr) (cdv : Value) (q : Str), X.prog = P → X.w = w → X.K = K → X.mg = mg → X.base = base → GivesTo X N x (defScope st) g cdv (defBody st) a q (TTm C hs fin))
    (h1 : (a == ("__debug__" : Str)) = false := by decide) (h2 : (a == ("__classdict__" : Str)) = false := by decide) : Mt P w K mg base C x hs fin := by
  obtain ⟨f, fd, F, hm, hb⟩ := d.ex
  obtain ⟨⟨oc, od, kV, doc, pm, an, cdv, ct, osl, rfl, lk, hcd⟩, hkp⟩ := F
  exact ⟨a, f, _, _, _, _, kV, doc, pm, cdv, ct, oc, an, od, osl, N, hm, hkp, lk, hcd, hb, Sc, hN, hv, h1, h2, fun X q e1 e2 e3 e4 e5 => hG X f cdv q e1 e2 e3 e4 e5⟩
/-- the law's own def, where it makes lambdas -/
theorem fn_topT {P : Program} {w : World} {K : PySem.W.Frag} {mg : Str → Option Value} {base : Heap} {x : Str} {st : Stmt} {N : List Str} {p : Str} {ks : List Bool} {body : Fs} {f c T : Addr} {fd : FuncData} {oc : Value} {od : Option Addr} {kV doc pm : Value} {an : Option Addr} {ct : Value} {osl : Array (Option Value)}
    (efd : fd = PySem.W.fnOf x x (defArgs st) (defBody st) (defScope st) .none kV doc pm an (.ref c) ct) (lk : K.lookup f = some ⟨oc, od, .func fd, osl⟩) (hcd : PySem.W.codeIn K (.ref c) x = true) (TB : TabB base mg c T) (h1 : (T, x ++ ".<locals>." ++ "<lambda>") ∈ C.tabs) (h2 : ∀ p ∈ C.tabs, p.1 = T → p.2 = x ++ ".<locals>." ++ "<lambda>")
    (hK : K = C.K) (Sc : FnScope N [p] (defScope st)) (hk : ks.length = 1)
    (hb : ∀ (f : Addr) (cdv : Value) (A : Around) (outer : List PySem.Env) (s : Shared) (H : Hp) (E : XK) (σ0 : L2.St), Bx md C k (cxOf (CXm md P w) P w K mg base N x (defScope st) f cdv A outer s H E) (fun c d _ H => E c d H) →
      Lx C (cxOf (CXm md P w) P w K mg base N x (defScope st) f cdv A outer s H E) →
      DSs C ⟨piOf ks 0, σ0⟩ (fun c d _ H => E c d H) (cxOf (CXm md P w) P w K mg base N x (defScope st) f cdv A outer s H E) (defBody st) body)
    {m : Nat} (hp : ∀ ns : List Int, ns.length ≤ m → ∃ ps, fnG N.length ks body [.sh (.lst (ns.map D.int))] = .ok (.sh (.bl true)) ps) :
    FnOk P w K mg base (CXm md P w) (k + 1) f fd [p] (spLaw K C.tabs m) := by
  subst efd
  have F : FnOk P w K mg base (CXm md P w) (k + 1) f (PySem.W.fnOf x x (defArgs st) (defBody st) (defScope st) .none kV doc pm an (.ref c) ct) [p] (spD C 1 (fnG N.length ks body)) := by
    refine fn_of lk hcd Sc (fun vs H Q E h => ?_) fun A outer s H vs Q E hr h => ⟨_, hb f (.ref c) A outer s H E (vs.map some) (Bx.def hK Sc.nd hr) ⟨c, T, TB, rfl, h1, h2⟩, fn_end ?_ rfl (by rw [hk]; exact h)⟩
    · obtain ⟨_, _, _, e, _⟩ := h; exact e
    · obtain ⟨_, _, _, e, _⟩ := h; exact hk.trans e.symm
  refine F.imp fun vs H Q E q => ?_
  rw [hK] at q
  exact law_sp hp vs H Q E q
theorem tabs_uni {T : List (Addr × Str)} (nd : (T.map (·.1)).Nodup) {a : Addr} {q : Str} (h : (a, q) ∈ T) : ∀ p ∈ T, p.1 = a → p.2 = q := by
  intro p hp e
  induction T with
  | nil => cases h
  | cons t T ih =>
    rw [List.map_cons, List.nodup_cons] at nd
    rcases List.mem_cons.mp h with h | h <;> rcases List.mem_cons.mp hp with hp | hp
    · rw [hp, ← h]
    · exact absurd (List.mem_map.mpr ⟨p, hp, by rw [e, ← h]⟩) nd.1
    · exact absurd (List.mem_map.mpr ⟨(a, q), h, by rw [← hp, e]⟩) nd.1
    · exact ih nd.2 h hp
theorem tabIn_of {K : PySem.W.Frag} {x : Str} {f c T : Addr} {fd : FuncData} {oc : Value} {od : Option Addr} {osl : Array (Option Value)} {oc' : Value} {od' : Option Addr} {osl' : Array (Option Value)} {vs : Array Value} (g : PySem.W.nsIn K mainGlobals x = some (some (.ref f)))
    (l : K.lookup f = some ⟨oc, od, .func fd, osl⟩) (hc : fd.code = .ref c) (lc : K.lookup c = some ⟨oc', od', .fields vs, osl'⟩) (v : vs[11]? = some (.ref T)) : PySem.W.tabIn K x = some (c, T) := by
  unfold PySem.W.tabIn
  simp only [g, l, hc, lc, v]
end
end G
end

section
set_option maxRecDepth 100000
set_option maxHeartbeats 4000000
open PySem PySem.Spec PyProof.Rows L2
namespace G
/-! classes with slots: x.f, x.f = e -/
/-- the name f is the g c-th slot of the class c -/
structure FldS (K : PySem.W.Frag) (C : Cn) (f : Str) (g : Nat → Option Nat) : Prop where
  at_ : ∀ c j, g c = some j → SlX.SCls K (C.cls c) ∧ ∃ p, SlX.Slot1 K (C.cls c) f p j
def fldG (g : Nat → Option Nat) : D → Option O
  | .ins c l => match g c with
    | some j => (l[j]?).map .sh
    | none => none
  | _ => none
section
variable {md : Bool} {C : Cn} {P : Fx} {E : WX} {X : Cx} {σ : L2.St} {H H' H1 H0 : Hp} {S S1 S0 F F1 F0 A B N W : Set'} {ρ : Env'} {e : Expr} {pos : Pos} {fe : Fe} {f : Str} {g : Nat → Option Nat}
/-- e.f, what e stands for shared -/
theorem de_fld (hf : FldS X.K C f g) (he : DE C E X e fe) (hb : attributeBase e f X.env (eval e X.env) = eval e X.env := by rfl) : DE C E X (.Attribute e f pos) (e1 (fldG g) fe) := by
  refine ⟨fun pins s σ H Q I h => ?_⟩
  refine attr_of hb (thn (he.run pins s σ H _ I (r1_of h)) fun u s1 ⟨x, H1, I1, rx, S, d, so, rd, o, eo, q⟩ => ?_)
  unfold fldG at eo
  split at eo
  · next c l =>
    split at eo
    · next j ej =>
      obtain ⟨dd, ed, eo'⟩ := Option.map_eq_some_iff.mp eo
      subst eo'
      obtain ⟨a, dx, vs, ex, s, s2, ht, rds⟩ := rd
      obtain ⟨v, ev, rv⟩ := rds.get ed
      subst ex
      obtain rfl : u = Value.ref a := rx
      obtain ⟨hc, p, hs⟩ := hf.at_ c j ej
      exact SlX.getslot_ok I1 ht hc hs (v := v) (by rw [List.getElem?_map, ev]; rfl) fun u' s2 I2 ru => ⟨v, H1, I2, ru, q v H1 S No (.refl so) ⟨emp_no, rv⟩⟩
    · cases eo
  · cases eo
/-- what a slot of the frame holds is changed at W -/
theorem own_chg {i : Nat} {o : O} {v : V} (he : RepE C H S σ (ρ.set i none) B) (hl : i < ρ.length) (ev : σ[i]? = some (some v)) (hne : ∀ b, ¬ W b → H' b = H b) (m : ∀ b, W b → Mo (H' b)) (w : Wf C H S (Un' W (Un' N B))) (d2 : Dj W B) (d3 : Dj N B)
    (tk : Tk C H H') (fr : Fr C H0 S0 F0 H S (Un' W (Un' N B))) (new : Kp H S H' S → RepO C H' S v o (Un' W N)) :
    RepE C H' S σ (ρ.set i (some o)) (Un' (Un' W N) B) ∧ Wf C H' S (Un' (Un' W N) B) ∧ Fr C H0 S0 F0 H' S (Un' (Un' W N) B) := by
  have k : Kp H S H' S := ⟨fun b u s _ e => by
    by_cases z : W b
    · exact absurd s (w.ns b (.inl z))
    · rw [hne b z]; exact e, fun b u n _ e => by
    by_cases z : W b
    · exact absurd (w.mu b (.inl z)) (by rw [e]; exact n)
    · rw [hne b z]; exact e, fun _ h => h⟩
  have h2 : RepE C H' S σ (ρ.set i none) B := he.mono k fun b g => hne b fun e => d2 b e g
  refine ⟨own_put h2 ev (new k) (fun b x y => x.elim (fun e => d2 b e y) fun g => d3 b g y) hl, ⟨fun b z => ?_, fun b z s => ?_, fun b s => ?_, tk.tabs w.tb⟩, ⟨fun b x e nf nt => ?_, fr.sub, fr.new, fun b z => ?_, fr.tk.trans tk⟩⟩
  · by_cases e : W b
    · exact m b e
    · rw [hne b e]
      rcases z with (z | z) | z
      · exact (e z).elim
      · exact w.mu b (.inr (.inl z))
      · exact w.mu b (.inr (.inr z))
  · rcases z with (z | z) | z
    · exact w.ns b (.inl z) s
    · exact w.ns b (.inr (.inl z)) s
    · exact w.ns b (.inr (.inr z)) s
  · by_cases e : W b
    · exact mut_some (m b e)
    · rw [hne b e]; exact w.so b s
  · have q := fr.keep b x e nf nt
    by_cases z : W b
    · rcases fr.fnew b (.inl z) with y | y
      · exact absurd y nf
      · rw [e] at y; cases y
    · rw [hne b z]; exact q
  · rcases z with (z | z) | z
    · exact fr.fnew b (.inl z)
    · exact fr.fnew b (.inr (.inl z))
    · exact fr.fnew b (.inr (.inr z))
/-- x.f = e, x a slot with an owned instance; the slots are stored in their order first -/
def insAt (i : Nat) (ρ : Env') : Option (Nat × List O) := match ρ[i]? with
  | some (some (.ins c l)) => some (c, l)
  | _ => none
theorem insAt_eq {i c : Nat} {l : List O} (h : insAt i ρ = some (c, l)) : ρ[i]? = some (some (.ins c l)) := by
  unfold insAt at h
  split at h
  · next c' l' e =>
    injection h with h
    injection h with h1 h2
    rw [e, h1, h2]
  · cases h
def putFO (j : Nat) (o : O) (l : List O) : Option (List O) := if j < l.length then some (l.set j o) else if j = l.length then some (l ++ [o]) else none
def sPutF (i : Nat) (g : Nat → Option Nat) (fe : Fe) : Fs := fun ρ => (fe ρ).then' fun o ρ1 => match insAt i ρ1 with
  | some (c, l) => match (g c).bind fun j => putFO j o l with
    | some l' => .nx (ρ1.set i (some (.ins c l')))
    | none => .bad
  | none => .bad
theorem putS_lt {vs : List V} {j : Nat} {y : V} (h : j < vs.length) : SlX.putS j y (vs.map some) = (vs.set j y).map some := by
  unfold SlX.putS
  have e : j + 1 - (vs.map some).length = 0 := by simp; omega
  rw [e]
  simp
theorem putS_len {vs : List V} {y : V} : SlX.putS vs.length y (vs.map some) = (vs ++ [y]).map some := by
  unfold SlX.putS
  have e : vs.length + 1 - (vs.map some).length = 1 := by simp
  rw [e]
  simp
  try (rw [List.set_append_right _ _ (by simp)]; simp)
theorem ds_putF {i : Nat} {x : Str} {p1 tpos : Pos} (hf : FldS X.K C f g) (he : DE C E X e fe) (hN : X.N[i]? = some x := by rfl) (hv : Vis X.env.scope x := by first | exact Or.inl rfl | exact Or.inr (Or.inl rfl) | exact Or.inr (Or.inr rfl))
    (hd : (x == ("__debug__" : Str)) = false := by decide) (hcd : (x == ("__classdict__" : Str)) = false := by decide) (hs : swapsWith e (some (.Attribute (.Name x p1) f tpos)) pos.line X.env = pure false := by rfl) :
    DS C P E X (.Assign [.Attribute (.Name x p1) f tpos] e pos) (sPutF i g fe) := by
  refine ps_imp (SlX.ps_sl (pe_var hN hv hd hcd) he hs) fun D σ H ⟨ρ, S, F, he, w, p, q⟩ => rE_then he w p q fun o ρ1 ef y H1 S1 F1 Y he1 ry w1 d1 fr1 q => ?_
  cases e0 : insAt i ρ1 with
  | none => rw [e0] at q; exact q.elim
  | some cl =>
    obtain ⟨c, l⟩ := cl
    rw [e0] at q
    simp only at q
    cases e1 : (g c).bind fun j => putFO j o l with
    | none => rw [e1] at q; exact q.elim
    | some l' =>
      rw [e1] at q
      simp only at q
      obtain ⟨j, ej, el⟩ := Option.bind_eq_some_iff.mp e1
      obtain ⟨hc, pp, hs1⟩ := hf.at_ c j ej
      obtain ⟨v, A, B, ev, r, rfl, dAB, he3, hi, dYA, dYB⟩ := tmp_own he1 d1 w1 (insAt_eq e0)
      obtain ⟨a, dx, vs, G, rfl, nda, ht, r2, sG⟩ := r
      have eA := sG.un
      subst eA
      refine ⟨.ref a, ev, a, C.cls c, dx, pp, vs.map some, j, rfl, ht, hc, hs1, ?_⟩
      have dGY : Dj G Y := fun b x y => dYA b y (.inr x)
      have key : ∃ vs' G', SlX.putS j y (vs.map some) = vs'.map some ∧ RepOs C H1 S1 vs' l' G' ∧ ∀ b, G' b → Un' G Y b := by
        unfold putFO at el
        split at el
        · next h =>
          obtain ⟨G', rs, sub⟩ := RepOs.setO r2 ry dGY h
          exact ⟨vs.set j y, G', putS_lt (by rw [r2.len]; exact h), by rw [← Option.some.inj el]; exact rs, sub⟩
        · split at el
          · next h =>
            refine ⟨vs ++ [y], Un' G Y, by rw [show j = vs.length from by rw [r2.len]; exact h]; exact putS_len, by rw [← Option.some.inj el]; exact RepOs.snoc r2 ry dGY, fun _ z => z⟩
          · cases el
      obtain ⟨vs', G', eS, rs, sub⟩ := key
      rw [eS]
      let W : Set' := fun b => b = a ∨ b = dx
      have hne : ∀ b, ¬ W b → SlX.slH H1 a (C.cls c) dx (vs'.map some) b = H1 b := fun b nb => SlX.slH_ne (fun e => nb (.inl e)) fun e => nb (.inr e)
      have lessU : ∀ b, Un' W (Un' G' B) b → Un' Y (Un' (Un' W G) B) b := fun b z => by
        rcases z with z | z | z
        · exact .inr (.inl (.inl z))
        · exact (sub b z).elim (fun z => .inr (.inl (.inr z))) .inl
        · exact .inr (.inr z)
      have nGW : Dj W G' := fun b x y => (sub b y).elim (fun y => sG.2 b x y) fun y => dYA b y (.inl x)
      have mdx : Mo (H1 dx) := w1.mu dx (.inr (.inl (.inl (.inr rfl))))
      have ma : Mo (H1 a) := w1.mu a (.inr (.inl (.inl (.inl rfl))))
      have tk : Tk C H1 (SlX.slH H1 a (C.cls c) dx (vs'.map some)) := (Tk.upd mdx).trans (Tk.upd (by rw [upd_ne (Ne.symm nda)]; exact ma))
      have hm : ∀ b, W b → Mo (SlX.slH H1 a (C.cls c) dx (vs'.map some) b) := fun b z => by
        rcases z with z | z
        · rw [z]; unfold SlX.slH; rw [upd_same]; exact ⟨_, _, _, _, rfl⟩
        · rw [z]; unfold SlX.slH; rw [upd_ne nda, upd_same]; exact trivial
      obtain ⟨k1, k2, k3⟩ := own_chg (o := .ins c l') (v := .ref a) (W := W) (N := G') he3 hi ev hne hm ⟨fun b z => w1.mu b (lessU b z), fun b z => w1.ns b (lessU b z), w1.so, w1.tb⟩
        (fun b x y => dAB b (.inl x) y) (fun b x y => (sub b x).elim (fun x => dAB b (.inr x) y) fun x => dYB b x y) tk (fr1.less lessU) fun k =>
        ⟨a, dx, vs', G', rfl, nda, SlX.slH_slt nda, rs.mono k fun b z => hne b fun z2 => nGW b z2 z, fun b => Iff.rfl, nGW⟩
      exact q σ _ S1 _ k1 k2 p k3
end
end G
end

section
set_option maxRecDepth 100000
set_option maxHeartbeats 4000000
open PySem PySem.Spec PyProof.Rows L2
namespace G
/-! properties, methods, instances made -/
section
variable {md : Bool} {C : Cn} {P : Fx} {E : WX} {X : Cx} {σ : L2.St} {H H' H1 H0 : Hp} {S S1 S0 F F1 F0 A B W : Set'} {ρ : Env'} {e : Expr} {es : List Expr} {pos : Pos} {fe : Fe} {fa : Fa} {f : Str} {pins : List (Addr × Obj)} {s : Shared} {j k n : Nat}
theorem run_fnS {A : Around} {f : Addr} {sp : Sp} {Ee : XK} {Q : VK} {us : List Value} {vs : List V} (F : FnR X.prog X.w X.K X.mg X.base (CXm md X.prog X.w) k f sp) (hr : Room k A) (e0 : Env0 X.prog X.w X.K X.mg X.base A X.stack s H) (hx : PassesAt (CXm md X.prog X.w) X σ Ee) (I : Inv X pins σ H s) (r : Vals vs us) (h : sp vs H Q Ee) :
    codeAny (model X.prog X.w) A (.call (.ref f) ⟨us, []⟩) (fun r s' => match r with | .ok (.ret v) => EP X pins σ Q v s' | .ok _ => False | .error e => X.xe e s') s := by
  refine codeAny_mono (F A X.stack s H us vs Q Ee hr e0 r h) fun r s' hq => ?_
  cases r with
  | error e => exact hx pins H s e s' I hq
  | ok fl =>
    cases fl with
    | ret u => exact I.after hq
    | next => exact False.elim hq
    | brk => exact False.elim hq
    | cont => exact False.elim hq
/-- the method m, by the class -/
structure Mth (md : Bool) (P : Program) (w : World) (K : PySem.W.Frag) (mg : Str → Option Value) (base : Heap) (C : Cn) (k : Nat) (m : Str) (n : Nat) (T : Nat → Option Fn) : Prop where
  at_ : ∀ c g, T c = some g → SlX.SCls K (C.cls c) ∧ ∃ f, Meth K (C.cls c) m f ∧ FnR P w K mg base (CXm md P w) k f (spD C n g)
structure Prp (md : Bool) (P : Program) (w : World) (K : PySem.W.Frag) (mg : Str → Option Value) (base : Heap) (C : Cn) (k : Nat) (f : Str) (T : Nat → Option Fn) : Prop where
  at_ : ∀ c g, T c = some g → SlX.SCls K (C.cls c) ∧ ∃ p a, PySem.W.findIn K (.ref (C.cls c)) f = some (some (.ref p)) ∧ PySem.W.specialIn K (.ref p) "__get__" = some (some (.builtin "property.__get__")) ∧ PySem.W.takesIn K (.ref p) = some true ∧
    (∃ rest, PySem.W.recIn K p "property" = some (.ref a :: rest)) ∧ FnR P w K mg base (CXm md P w) k a (spD C 1 g)
/-- what is given -/
def eGiven (o : O) : Fe := fun ρ => .ok o ρ
def eMth (T : Nat → Option Fn) (ms : List (Option Nat)) (fe : Fe) (fa : Fa) : Fe := fun ρ => (fe ρ).bind fun o ρ1 => match o.toD with
  | .ins c l => match T c with
    | some g => eCall g (none :: ms) (eCons (eGiven (.sh (.ins c l))) fa) ρ1
    | none => .bad
  | _ => .bad
theorem val_ok {ms : List (Option Nat)} {g : Fa} {Q : List V → Hp → Prop} (q : rM C E (none :: ms) (eCons fe g) σ H Q) : rE C E fe σ H fun v H1 => rM C E ms g σ H1 fun vs H2 => Q (v :: vs) H2 := by
  obtain ⟨ρ, S, F, he, w, q⟩ := q
  refine ⟨ρ, S, F, he, w, ?_⟩
  unfold eCons at q
  cases ef : fe ρ with
  | bad => rw [ef] at q; exact q
  | exc x ρ' => rw [ef] at q; exact q
  | ok o ρ1 =>
    rw [ef] at q
    intro v H1 S1 F1 A he1 r1 w1 d1 fr1
    refine ⟨ρ1, S1, F1, he1, w1.drop, ?_⟩
    simp only [bind_ok] at q
    cases eg : g ρ1 with
    | bad => rw [eg] at q; exact q
    | exc x ρ' =>
      rw [eg] at q
      intro c d H2 S2 F2 he2 w2 fr2 rx
      exact q c d H2 S2 F2 he2 w2 (fr1.drop.trans fr2) rx
    | ok os ρ2 =>
      rw [eg] at q
      intro vs H2 S2 F2 B he2 r2 w2 d2 fr2
      obtain ⟨ka, d3, w3, fr3, k⟩ := fr_tmp w1 d1 fr1 fr2 w2
      obtain ⟨d4, d5⟩ := dj_un d3 d2
      have r1' := r1.mono k ka
      rw [un_assoc] at w3 fr3
      exact q (v :: vs) H2 S2 F2 (Un' A B) he2 ⟨A, B, r1', r2, ⟨fun a => Iff.rfl, d4⟩⟩ w3 d5 fr3
/-- a call whose first argument is given -/
theorem given_at {g : Fn} {ms : List (Option Nat)} {ρ1 : Env'} {d : D} {v : V} {Q : VK} (hn : (none :: ms).length = n) (he : RepE C H1 S1 σ ρ1 F1) (w : Wf C H1 S1 F1) (fr : Fr C H S F H1 S1 F1) (rd : RepD C H1 S1 v d) (q : match eCall g (none :: ms) (eCons (eGiven (.sh d)) fa) ρ1 with
      | .ok o ρ' => ∀ v H' S' F' A, RepE C H' S' σ ρ' F' → RepO C H' S' v o A → Wf C H' S' (Un' A F') → Dj A F' → Fr C H S F H' S' (Un' A F') → Q v H'
      | .exc x ρ' => ∀ c d H' S' F', RepE C H' S' σ ρ' F' → Wf C H' S' F' → Fr C H S F H' S' F' → RepXn C H' S' x c d → E c d σ H'
      | .bad => False) : rM C E ms fa σ H1 fun ws H2 => spD C n g (v :: ws) H2 Q (WE E σ) := by
  have q1 := call_at (n := n) hn q
  refine ⟨ρ1, S1, F1, he, w, ?_⟩
  have e : eCons (eGiven (.sh d)) fa ρ1 = (fa ρ1).bind fun os ρ2 => .ok (.sh d :: os) ρ2 := rfl
  rw [e] at q1
  cases ef : fa ρ1 with
  | bad => rw [ef] at q1; exact q1
  | exc x ρ' => rw [ef] at q1; exact fun c d H2 S2 F2 a b c' r => q1 c d H2 S2 F2 a b (fr.trans c') r
  | ok os ρ2 =>
    rw [ef] at q1
    intro vs H2 S2 F2 B he2 r2 w2 d2 fr2
    exact q1 (v :: vs) H2 S2 F2 B he2 ⟨No, B, ⟨emp_no, rd.mono (fr2.kp w)⟩, r2, ⟨fun a => ⟨.inr, fun z => z.elim False.elim id⟩, fun a z => z.elim⟩⟩ w2 d2 (fr.trans fr2)
/-- the receiver stands; its class tells the def -/
theorem recv_ok {T : Nat → Option Fn} {ms : List (Option Nat)} {Q : VK} (hn : (none :: ms).length = n) (q : rE C E (eMth T ms fe fa) σ H Q) :
    rE C E fe σ H fun x H1 => ∃ (a dx : Addr) (vs : List V) (c : Nat) (g : Fn), x = .ref a ∧ SlX.Slt H1 a (C.cls c) dx (vs.map some) ∧ T c = some g ∧ rM C E ms fa σ H1 fun ws H2 => spD C n g (x :: ws) H2 Q (WE E σ) := by
  obtain ⟨ρ, S, F, he, w, q⟩ := q
  refine ⟨ρ, S, F, he, w, ?_⟩
  unfold eMth at q
  cases ef : fe ρ with
  | bad => rw [ef] at q; exact q
  | exc x ρ' => rw [ef] at q; exact q
  | ok o ρ1 =>
    rw [ef] at q
    intro v H1 S1 F1 A he1 r1 w1 d1 fr1
    simp only [bind_ok] at q
    have w2 := w1.share d1
    have rd := r1.share (S' := Un' S1 A) (fun _ => .inl) fun _ => .inr
    have he2 : RepE C H1 (Un' S1 A) σ ρ1 F1 := he1.mono ⟨fun _ _ _ _ e => e, fun _ _ _ _ e => e, fun _ => .inl⟩ fun _ _ => rfl
    cases ed : o.toD with
    | ins c l =>
      rw [ed] at q rd
      cases et : T c with
      | none => simp only [et] at q
      | some g =>
        simp only [et] at q
        obtain ⟨a, dx, vs, ev, s1, s2, ht, rds⟩ := id rd
        exact ⟨a, dx, vs, c, g, ev, ht, et, given_at hn he2 w2 fr1.share rd q⟩
    | _ => rw [ed] at q; exact q.elim
theorem de_meth {T : Nat → Option Fn} {ms : List (Option Nat)} {o : Expr} {m : Str} {apos : Pos} {pl : Sem Bool} (M : Mth md X.prog X.w X.K X.mg X.base C k m n T) (b : Bx md C j X E) (he : DE C E X o fe) (ha : DM C E X (e :: es) ms fa) (hjk : k ≤ j := by decide) (hn : (none :: ms).length = n := by rfl)
    (hst : starEach (e :: es) X.env = (false, eval e X.env) :: starEach es X.env := by rfl) (hpl : (backTo pos (starEach es X.env)).any (·.1) = false := by rfl)
    (ht : eval (.Call (.Attribute o m apos) (e :: es) [] pos) X.env = (do
      let ov ← eval o X.env
      standAt apos.atName
      let (f, first) ← holding [ov] (getMethod ov m pl)
      callWith pos f first (backTo pos (starEach (e :: es) X.env)) (backToKw pos (keywordEach [] X.env))) := by rfl) :
    DE C E X (.Call (.Attribute o m apos) (e :: es) [] pos) (eMth T ms fe fa) := by
  refine ⟨fun pins s σ H Q I h => ?_⟩
  refine PySem.W.methodCall_KW (pl := pl) (thn (he.run pins s σ H _ I (recv_ok hn h)) fun u s1 ⟨x, H1, I1, rx, a, dx, vs, c, g, ex, hsl, et, q⟩ => ?_) ht
  subst ex
  obtain rfl : u = Value.ref a := rx
  obtain ⟨hc, f, hm, F⟩ := M.at_ c g et
  refine SlX.getmethsl_ok I1 hsl hc hm ?_
  refine PySem.W.callWith_K (first := [.ref a]) (h₀ := X.base) I1.ok.mod.kin hm.kp (thn (ha.run pos pins s1 σ H1 _ I1 q) fun us s2 ⟨ws, H2, I2, r, q2⟩ => ⟨I2.kIn, ?_⟩) hst hpl
  exact wpAny_call (run_fnS (us := .ref a :: us) (vs := .ref a :: ws) F (b.rm.mono hjk) I2.env0 (passAtM b.tk σ) I2 (.cons rfl r) q2)
theorem rm_nil {Q : List V → Hp → Prop} (q : rM C E [] eNil σ H Q) : Q [] H := by
  obtain ⟨ρ, S, F, he, w, q⟩ := q
  exact q [] H S F No he emp_no (wf_no w) dj_no (fr_no .refl)
theorem de_meth0 {T : Nat → Option Fn} {o : Expr} {m : Str} {apos : Pos} {pl : Sem Bool} (M : Mth md X.prog X.w X.K X.mg X.base C k m n T) (b : Bx md C j X E) (he : DE C E X o fe) (hjk : k ≤ j := by decide) (hn : 1 = n := by rfl)
    (ht : eval (.Call (.Attribute o m apos) [] [] pos) X.env = (do
      let ov ← eval o X.env
      standAt apos.atName
      let (f, first) ← holding [ov] (getMethod ov m pl)
      callWith pos f first (backTo pos (starEach [] X.env)) (backToKw pos (keywordEach [] X.env))) := by rfl) :
    DE C E X (.Call (.Attribute o m apos) [] [] pos) (eMth T [] fe eNil) := by
  refine ⟨fun pins s σ H Q I h => ?_⟩
  refine PySem.W.methodCall_KW (pl := pl) (thn (he.run pins s σ H _ I (recv_ok (n := n) (ms := []) hn h)) fun u s1 ⟨x, H1, I1, rx, a, dx, vs, c, g, ex, hsl, et, q⟩ => ?_) ht
  subst ex
  obtain rfl : u = Value.ref a := rx
  obtain ⟨hc, f, hm, F⟩ := M.at_ c g et
  refine SlX.getmethsl_ok I1 hsl hc hm ?_
  exact PySem.W.callWith_K0 (first := [.ref a]) I1.kIn hm.kp (wpAny_call (run_fnS (us := [.ref a]) (vs := [.ref a]) F (b.rm.mono hjk) I1.env0 (passAtM b.tk σ) I1 (.cons rfl .nil) (rm_nil q)))
def fnNx (g : Fn) : Fn := fun os => match g os with
  | .ok o ps => .ok o ps
  | _ => .bad
theorem fnNx_sp {g : Fn} {vs : List V} {Q : VK} {Ee : XK} (q : spD C n (fnNx g) vs H Q Ee) : spD C n g vs H Q fun _ _ _ => False := by
  obtain ⟨os, S, A, h1, h2, h3, q⟩ := q
  refine ⟨os, S, A, h1, h2, h3, ?_⟩
  unfold fnNx at q
  cases eg : g os with
  | bad => rw [eg] at q; exact q
  | exc x ps => rw [eg] at q; exact q.elim
  | ok o ps => rw [eg] at q; exact q
/-- e.f, a property, its getter raising nothing -/
def ePrp (T : Nat → Option Fn) (fe : Fe) : Fe := eMth (fun c => (T c).map fnNx) [] fe eNil
theorem de_prop {T : Nat → Option Fn} (M : Prp md X.prog X.w X.K X.mg X.base C k f T) (b : Bx md C j X E) (he : DE C E X e fe) (hjk : k + 1 ≤ j := by decide) (hb : attributeBase e f X.env (eval e X.env) = eval e X.env := by rfl) :
    DE C E X (.Attribute e f pos) (ePrp T fe) := by
  refine ⟨fun pins s σ H Q I h => ?_⟩
  refine attr_of hb (thn (he.run pins s σ H _ I (recv_ok (n := 1) (ms := []) rfl h)) fun u s1 ⟨x, H1, I1, rx, a, dx, vs, c, g', ex, hsl, et, q⟩ => ?_)
  subst ex
  obtain rfl : u = Value.ref a := rx
  obtain ⟨g, eg, rfl⟩ := Option.map_eq_some_iff.mp et
  obtain ⟨hc, p, fa, at_, get, tk, ⟨rest, hrec⟩, F⟩ := M.at_ c g eg
  obtain ⟨sl, od, _, J, _⟩ := SlX.slt_inst I1 hsl
  have I2 : Inv X pins σ H1 { s1 with toks := s1.toks + 1 } := I1.tok (s1.toks + 1)
  refine PySem.W.get_bind I1.kIn J (PySem.W.plainGet_of (hc.get f)).1 (PySem.W.findObj_data hc.ic at_ get tk) (PySem.W.plainGet_of (hc.get f)).2 (wpAny_call (PySem.W.prop_get (s := { s1 with toks := s1.toks + 1 }) I1.kIn hrec ?_))
  refine codeAny_mono (F X.A.in1 X.stack { s1 with toks := s1.toks + 1 } H1 [.ref a] [.ref a] Q (fun _ _ _ => False) (Room.in1 (b.rm.mono hjk)) I2.env0.in1 (.cons rfl .nil) (fnNx_sp (rm_nil q))) fun r s' hq => ?_
  cases r with
  | error e =>
    cases md with
    | true =>
      obtain ⟨_, _, _, _, _, _, _, _, _, _, _, _, z⟩ := hq
      exact z.elim
    | false =>
      obtain ⟨_, _, _, _, _, _, _, _, _, _, _, _, z⟩ := hq
      exact z.elim
  | ok fl =>
    cases fl with
    | ret u =>
      obtain ⟨v, H', I3, rv, q⟩ := I2.after hq
      exact wpAny_of_eq (PySem.W.handedOut_of (handed_of rv)) ⟨v, H', I3, rv, q⟩
    | next => exact False.elim hq
    | brk => exact False.elim hq
    | cont => exact False.elim hq
end
end G
end

section
set_option maxRecDepth 100000
set_option maxHeartbeats 4000000
open PySem PySem.Spec PyProof.Rows L2
namespace G
/-! instances made -/
/-- the class x, its __init__ -/
structure Ctr (md : Bool) (P : Program) (w : World) (K : PySem.W.Frag) (mg : Str → Option Value) (base : Heap) (C : Cn) (k : Nat) (c n : Nat) (g : Fn) : Prop where
  ex : ∃ (f : Addr) (fd : FuncData) (ps : List Str), Mk K (C.cls c) f ∧ ps.length = n ∧ FnOk P w K mg base (CXm md P w) k f fd ps (spD C ps.length g) ∧ Binds K fd ps []
def eMake (c : Nat) (g : Fn) (ms : List (Option Nat)) (fa : Fa) : Fe := fun ρ => (fa ρ).bind fun os ρ1 => match takeL ms os ρ1 with
  | some (os', ρ2) => match g (.ins c [] :: os') with
    | .ok (.sh .non) (some self :: ps) => match putL ms ps ρ2 with
      | some ρ3 => .ok self ρ3
      | none => .bad
    | .exc x (_ :: ps) => match putL ms ps ρ2 with
      | some ρ3 => .exc x ρ3
      | none => .bad
    | _ => .bad
  | none => .bad
def tMakeS (C : Addr) (sp : Sp) (E : L2.St → XK) (t : TA) : TE := fun σ H Q => t σ H fun vs H1 => ∀ x dx, H1 x = none → H1 dx = none → dx ≠ x → sp (.ref x :: vs) (upd (upd H1 dx (.own x)) x (.ins C dx [])) (fun v H2 => v = .non ∧ Q (.ref x) H2) (E σ)
section
variable {md : Bool} {C : Cn} {P : Fx} {E : WX} {X : Cx} {σ : L2.St} {H H' H1 H2 H0 : Hp} {S S1 S0 F F1 F0 A B W : Set'} {ρ : Env'} {e : Expr} {es : List Expr} {pos : Pos} {fe : Fe} {fa : Fa} {f : Str} {pins : List (Addr × Obj)} {s : Shared} {j k n c : Nat} {g : Fn}
theorem Room.mk' {A : Around} (hr : Room (k + 1) A) (C : Addr) (us : List Value) : Room k (A.under (.builtin "type.__call__" ⟨.ref C :: us, []⟩)) := hr.make C us []
theorem run_makeS {f Cc : Addr} {fd : FuncData} {ps : List Str} {sp : Sp} {Ee : XK} {Q : VK} {us : List Value} {vs : List V} (M : Mk X.K Cc f) (F : FnOk X.prog X.w X.K X.mg X.base (CXm md X.prog X.w) k f fd ps sp) (hr : Room (k + 1) X.A) (hb : Binds X.K fd ps [])
    (hx : PassesAt (CXm md X.prog X.w) X σ Ee) (I : Inv X pins σ H s) (r : Vals vs us)
    (h : ∀ x dx, H x = none → H dx = none → dx ≠ x → sp (.ref x :: vs) (upd (upd H dx (.own x)) x (.ins Cc dx [])) (fun v H2 => v = .non ∧ Q (.ref x) H2) Ee) :
    wpAny (model X.prog X.w) X.A (call (.ref Cc) us) (EP X pins σ Q) X.xe s := by
  have hq := h (s.heap.objs.size + 1) s.heap.objs.size (I.hok.fresh (Nat.le_succ _)) (I.hok.fresh (Nat.le_refl _)) (Nat.ne_of_lt (Nat.lt_succ_self _))
  have I2 := Inv.made (C := Cc) I
  have r2 : Vals (V.ref (s.heap.objs.size + 1) :: vs) (Value.ref (s.heap.objs.size + 1) :: us) := .cons rfl r
  have hl : (Value.ref (s.heap.objs.size + 1) :: us ++ []).length = ps.length := by
    have e := r2.length
    rw [F.len _ _ _ _ hq] at e
    rw [List.append_nil]
    exact e.symm
  refine wpAny_call (make_map (f := f) I.kIn M.makes M.init (beq_iff_eq.mp M.fn) (codeAny_mono (F.run _ X.stack _ _ ⟨Value.ref (s.heap.objs.size + 1) :: us, []⟩ (Value.ref (s.heap.objs.size + 1) :: us) _ _ Ee (hr.make Cc us [])
    (I2.env0.make Cc us []) (by simpa using hb _ (Value.ref (s.heap.objs.size + 1) :: us) I2.kIn hl) r2 hq) fun r s' hq' => ?_))
  cases r with
  | error e => exact hx pins _ _ e s' I2 hq'
  | ok fl =>
    cases fl with
    | ret u =>
      obtain ⟨v, H', I3, rv, ev, q3⟩ := I2.after hq'
      subst ev
      exact ⟨rv, ⟨V.ref (s.heap.objs.size + 1), H', I3, rfl, q3⟩⟩
    | next => exact False.elim hq'
    | brk => exact False.elim hq'
    | cont => exact False.elim hq'
theorem make_ok {ms : List (Option Nat)} {Q : VK} (hn : ms.length + 1 = n) (q : rE C E (eMake c g ms fa) σ H Q) : tMakeS (C.cls c) (spD C n g) (WE E) (rM C E ms fa) σ H Q := by
  obtain ⟨ρ, S, F, he, w, q⟩ := q
  refine ⟨ρ, S, F, he, w, ?_⟩
  unfold eMake at q
  cases ef : fa ρ with
  | bad => rw [ef] at q; exact q
  | exc x ρ' => rw [ef] at q; exact q
  | ok os ρ1 =>
    rw [ef] at q
    simp only [bind_ok] at q
    intro vs H1 S1 F1 A he1 r1 w1 d1 fr1 x dx hx hdx nd
    cases et : takeL ms os ρ1 with
    | none => rw [et] at q; exact q.elim
    | some p =>
      obtain ⟨os', ρ2⟩ := p
      simp only [et] at q
      obtain ⟨A', F', g1, g2, g3, g4, g5⟩ := take_rep r1 he1 d1 et
      let N : Set' := fun b => b = x ∨ b = dx
      let H2 : Hp := upd (upd H1 dx (.own x)) x (.ins (C.cls c) dx [])
      have kall : ∀ a u, H1 a = some u → H2 a = some u := fun a u e => by
        show upd (upd H1 dx (.own x)) x (.ins (C.cls c) dx []) a = some u
        rw [upd_ne (ne_of_none e hx), upd_ne (ne_of_none e hdx)]; exact e
      have al : Alc H1 S1 H2 S1 N := ⟨kall, fun _ h => h, fun _ => .inl, fun a h => by
        rcases h with h | h
        · subst h
          refine ⟨hx, ?_, fun z => ?_⟩
          · show Mo (upd (upd H1 dx (.own a)) a (.ins (C.cls c) dx []) a)
            rw [upd_same]; exact trivial
          · obtain ⟨u, e⟩ := w1.so _ z; rw [hx] at e; cases e
        · subst h
          refine ⟨hdx, ?_, fun z => ?_⟩
          · show Mo (upd (upd H1 a (.own x)) x (.ins (C.cls c) a []) a)
            rw [upd_ne nd, upd_same]; exact trivial
          · (obtain ⟨u, e⟩ := w1.so _ z; rw [hdx] at e; cases e), fun a s => by
        obtain ⟨u, e⟩ := w1.so a s
        exact ⟨u, kall a u e⟩⟩
      have kp := al.kp
      have wA1 : Wf C H1 S1 (Un' F' A') := ⟨fun a z => w1.mu a (g4 a z.symm), fun a z => w1.ns a (g4 a z.symm), w1.so, w1.tb⟩
      have same : ∀ a, Un' F' A' a → H2 a = H1 a := fun a z => by
        obtain ⟨u, e⟩ := mut_some (wA1.mu a z)
        rw [e]; exact kall a u e
      have nN : ∀ a, N a → ¬ Un' F' A' a := fun a z y => by
        obtain ⟨u, e⟩ := mut_some (wA1.mu a y)
        rw [(al.fr a z).1] at e; cases e
      have w2 : Wf C H2 S1 (Un' F' (Un' N A')) := ⟨fun a z => by
          rcases z with z | z | z
          · rw [same a (.inl z)]; exact wA1.mu a (.inl z)
          · exact (al.fr a z).2.1
          · rw [same a (.inr z)]; exact wA1.mu a (.inr z), fun a z => by
          rcases z with z | z | z
          · exact wA1.ns a (.inl z)
          · exact (al.fr a z).2.2
          · exact wA1.ns a (.inr z), al.so, wA1.tb.ext kall⟩
      have dA : Dj F' (Un' N A') := fun a x y => y.elim (fun y => nN a y (.inl x)) fun y => g3 a y x
      have fr2 : Fr C H S F H2 S1 (Un' F' (Un' N A')) := by
        have f1 : Fr C H S F H1 S1 (Un' F' A') := ⟨fr1.keep, fr1.sub, fr1.new, fun a z => fr1.fnew a (g4 a z.symm), fr1.tk⟩
        exact f1.trans ⟨fun a u e _ _ => kall a u e, fun _ h => h, fun _ => .inl, fun a z => by
          rcases z with z | z | z
          · exact .inl (.inl z)
          · exact .inr (al.fr a z).1
          · exact .inl (.inr z), .all kall⟩
      have g2' : RepE C H2 S1 σ ρ2 F' := g2.mono kp fun a z => same a (.inl z)
      have g1' : RepOs C H2 S1 vs os' A' := g1.mono kp fun a z => same a (.inr z)
      have self : RepO C H2 S1 (.ref x) (.ins c []) N := by
        refine ⟨x, dx, [], No, rfl, nd, .inl ⟨?_, rfl⟩, ⟨rfl, emp_no⟩, fun a => ⟨.inl, fun z => z.elim id False.elim⟩, fun a _ z => z⟩
        show upd (upd H1 dx (.own x)) x (.ins (C.cls c) dx []) x = _
        rw [upd_same]
      refine ⟨.ins c [] :: os', S1, Un' N A', by rw [List.length_cons, r1.len]; exact hn, ⟨.ref x, vs, N, A', rfl, self, g1', fun a => Iff.rfl, fun a y z => nN a y (.inr z)⟩, w2.drop, ?_⟩
      cases eg : g (.ins c [] :: os') with
      | bad => simp only [eg] at q
      | exc z ps =>
        simp only [eg] at q
        cases ps with
        | nil => simp only at q
        | cons r ps =>
          simp only at q
          cases ep : putL ms ps ρ2 with
          | none => simp only [ep] at q
          | some ρ3 =>
            simp only [ep] at q
            intro c' d H3 S3 A3 hp w3 fr3 rx
            obtain ⟨ka, d4, w4, fr4, k⟩ := fr_tmp w2 dA fr2 fr3 w3
            obtain ⟨y, t, B1, B2, ey, _, hp2, sB⟩ := hp
            obtain ⟨rfl, rfl⟩ := List.cons.inj ey
            obtain ⟨F3, z1, z2⟩ := put_rep r1 hp2 (g2'.mono k ka) (fun a x y => d4 a y (sB.r x)) ep
            have less : ∀ a, F3 a → Un' F' A3 a := fun a z => (z2 a z).elim (fun z => .inr (sB.r z)) .inl
            exact q c' d H3 S3 F3 z1 ⟨fun a z => w4.mu a (less a z), fun a z => w4.ns a (less a z), w4.so, w4.tb⟩ (fr4.less less) rx
      | ok o ps =>
        cases ps with
        | nil => simp only [eg] at q
        | cons r ps =>
          cases r with
          | none => simp only [eg] at q
          | some me =>
            cases o with
            | sh d =>
              cases d with
              | non =>
                simp only [eg] at q
                cases ep : putL ms ps ρ2 with
                | none => simp only [ep] at q
                | some ρ3 =>
                  simp only [ep] at q
                  intro v H3 S3 A3 B hp rv w3 d3 fr3
                  refine ⟨rv.2, ?_⟩
                  obtain ⟨ka, d4, w4, fr4, k⟩ := fr_tmp w2 dA fr2 fr3 w3
                  obtain ⟨y, t, B1, B2, ey, ⟨v', ev', rme⟩, hp2, sB⟩ := hp
                  obtain ⟨rfl, rfl⟩ := List.cons.inj ey
                  have ev' := Option.some.inj ev'
                  subst ev'
                  obtain ⟨F3, z1, z2⟩ := put_rep r1 hp2 (g2'.mono k ka) (fun a x y => d4 a y (.inr (sB.r x))) ep
                  have less : ∀ a, Un' B1 F3 a → Un' F' (Un' B A3) a := fun a z => z.elim (fun z => .inr (.inr (sB.l z))) fun z => (z2 a z).elim (fun z => .inr (.inr (sB.r z))) .inl
                  exact q (.ref x) H3 S3 F3 B1 z1 rme ⟨fun a z => w4.mu a (less a z), fun a z => w4.ns a (less a z), w4.so, w4.tb⟩ (fun a y z => (z2 a z).elim (fun z => sB.2 a y z) fun z => d4 a z (.inr (sB.l y))) (fr4.less less)
              | _ => simp only [eg] at q
            | _ => simp only [eg] at q
/-- C(e, ..) -/
theorem de_make {x : Str} {p : Pos} {ms : List (Option Nat)} (M : Ctr md X.prog X.w X.K X.mg X.base C k c n g) (hm : X.mg x = some (.ref (C.cls c))) (b : Bx md C j X E) (ha : DM C E X (e :: es) ms fa) (hjk : k + 1 ≤ j := by decide) (hn : ms.length + 1 = n := by rfl) (hg : Gl X x := by rfl)
    (hdb : (x == ("__debug__" : Str)) = false := by decide) (he : starEach (e :: es) X.env = (false, eval e X.env) :: starEach es X.env := by rfl) (hpl : (backTo pos (starEach es X.env)).any (·.1) = false := by rfl) :
    DE C E X (.Call (.Name x p) (e :: es) [] pos) (eMake c g ms fa) := by
  obtain ⟨f, fd, ps, Mk, hl, F, hb⟩ := M.ex
  refine ⟨fun pins s σ H Q I h => ?_⟩
  refine wpAny_Call_Name_kw (ld_glob I hg hm ?_ hdb)
  refine PySem.W.callWith_K (h₀ := X.base) I.ok.mod.kin Mk.kp (thn (ha.run pos pins s σ H _ I (make_ok hn h)) fun us s1 ⟨vs, H1, I1, r, q⟩ => ⟨I1.kIn, ?_⟩) he hpl
  subst hl
  exact run_makeS Mk F (b.rm.mono hjk) hb (passAtM b.tk σ) I1 r q
/-- cls(e, ..), cls a name of the frame -/
def clAt (i : Nat) (ρ : Env') : Option Nat := match ρ[i]? with
  | some (some (.sh (.cl c'))) => some c'
  | _ => none
theorem clAt_eq {i c : Nat} (h : clAt i ρ = some c) : ρ[i]? = some (some (.sh (.cl c))) := by
  unfold clAt at h
  split at h
  · next c' e => rw [e, Option.some.inj h]
  · cases h
def eMakeV (i c : Nat) (g : Fn) (ms : List (Option Nat)) (fa : Fa) : Fe := fun ρ => if clAt i ρ = some c then eMake c g ms fa ρ else .bad
theorem de_makeV {i : Nat} {x : Str} {p : Pos} {ms : List (Option Nat)} (M : Ctr md X.prog X.w X.K X.mg X.base C k c n g) (b : Bx md C j X E) (ha : DM C E X (e :: es) ms fa) (hjk : k + 1 ≤ j := by decide) (hn : ms.length + 1 = n := by rfl)
    (hN : X.N[i]? = some x := by rfl) (hv : Vis X.env.scope x := by first | exact Or.inl rfl | exact Or.inr (Or.inl rfl) | exact Or.inr (Or.inr rfl)) (hdb : (x == ("__debug__" : Str)) = false := by decide) (hcd : (x == ("__classdict__" : Str)) = false := by decide)
    (he : starEach (e :: es) X.env = (false, eval e X.env) :: starEach es X.env := by rfl) (hpl : (backTo pos (starEach es X.env)).any (·.1) = false := by rfl) :
    DE C E X (.Call (.Name x p) (e :: es) [] pos) (eMakeV i c g ms fa) := by
  obtain ⟨f, fd, ps, Mk, hl, F, hb⟩ := M.ex
  refine ⟨fun pins s σ H Q I ⟨ρ, S, F0, he0, w, h⟩ => ?_⟩
  unfold eMakeV at h
  by_cases ec : clAt i ρ = some c
  · rw [if_pos ec] at h
    obtain ⟨v, A, B, ev, r, _, _, _⟩ := own_at he0 (clAt_eq ec)
    have er : v = .ref (C.cls c) := r.2
    subst er
    refine wpAny_Call_Name_kw (thn ((pe_var (pos := p) (i := i) hN hv hdb hcd).run pins s σ H (fun u H1 => u = .ref (C.cls c) ∧ H1 = H) I ⟨_, ev, rfl, rfl⟩) fun u s1 ⟨v, H1, I1, r1, q1⟩ => ?_)
    obtain ⟨e1, e2⟩ := q1
    subst e1
    rw [e2] at I1
    obtain rfl : u = Value.ref (C.cls c) := r1
    refine PySem.W.callWith_K (h₀ := X.base) I1.ok.mod.kin Mk.kp (thn (ha.run pos pins s1 σ H _ I1 (make_ok hn ⟨ρ, S, F0, he0, w, h⟩)) fun us s1 ⟨vs, H1, I1, r, q⟩ => ⟨I1.kIn, ?_⟩) he hpl
    subst hl
    exact run_makeS Mk F (b.rm.mono hjk) hb (passAtM b.tk σ) I1 r q
  · rw [if_neg ec] at h
    exact h.elim
end
end G
end

section
set_option maxRecDepth 100000
set_option maxHeartbeats 4000000
open PySem PySem.Spec PyProof.Rows L2 ClX
namespace G
/-! classmethods, isinstance of own classes -/
structure Cmt (md : Bool) (P : Program) (w : World) (K : PySem.W.Frag) (mg : Str → Option Value) (base : Heap) (C : Cn) (k : Nat) (c : Nat) (m : Str) (n : Nat) (g : Fn) : Prop where
  ex : ∃ (mc : Value) (p f : Addr), CRead K (C.cls c) mc ∧ CMet K (C.cls c) mc m p f ∧ FnR P w K mg base (CXm md P w) k f (spD C n g)
def eCmth (c : Nat) (g : Fn) (ms : List (Option Nat)) (fa : Fa) : Fe := eCall g (none :: ms) (eCons (eGiven (.sh (.cl c))) fa)
section
variable {md : Bool} {C : Cn} {P : Fx} {E : WX} {X : Cx} {σ : L2.St} {H H' H1 H2 H0 : Hp} {S S1 S0 F F1 F0 A B W : Set'} {ρ : Env'} {e : Expr} {es : List Expr} {pos : Pos} {fe : Fe} {fa : Fa} {f : Str} {pins : List (Addr × Obj)} {s : Shared} {j k n c : Nat} {g : Fn}
theorem run_cmS {f Cc q : Addr} {sp : Sp} {Ee : XK} {Q : VK} {us : List Value} {vs : List V} (F : FnR X.prog X.w X.K X.mg X.base (CXm md X.prog X.w) k f sp) (hr : Room k X.A) (hx : PassesAt (CXm md X.prog X.w) X σ Ee) (I : Inv X ((q, PySem.W.methodObj (.ref f) (.ref Cc)) :: pins) σ H s)
    (r : Vals vs us) (h : sp (.ref Cc :: vs) H Q Ee) : wpAny (model X.prog X.w) X.A (call (.ref q) us) (EP X pins σ Q) X.xe s := by
  have z : wpAny (model X.prog X.w) X.A (call (.ref q) us) (EP X ((q, PySem.W.methodObj (.ref f) (.ref Cc)) :: pins) σ Q) X.xe s :=
    wpAny_call (PySem.W.method_call (pin_at I) (run_fnS (us := .ref Cc :: us) (vs := .ref Cc :: vs) F hr I.env0 hx I (.cons rfl r) h))
  exact thn z fun _ _ y => unpinE y
/-- C.m(e, ..) -/
theorem de_cmeth {x m : Str} {p0 apos : Pos} {ms : List (Option Nat)} {pl : Sem Bool} (M : Cmt md X.prog X.w X.K X.mg X.base C k c m n g) (hm : X.mg x = some (.ref (C.cls c))) (b : Bx md C j X E) (ha : DM C E X (e :: es) ms fa) (hjk : k ≤ j := by decide) (hn : (none :: ms).length = n := by rfl) (hg : Gl X x := by rfl)
    (hdb : (x == ("__debug__" : Str)) = false := by decide) (hst : starEach (e :: es) X.env = (false, eval e X.env) :: starEach es X.env := by rfl) (hpl : (backTo pos (starEach es X.env)).any (·.1) = false := by rfl)
    (ht : eval (.Call (.Attribute (.Name x p0) m apos) (e :: es) [] pos) X.env = (do
      let ov ← eval (.Name x p0) X.env
      standAt apos.atName
      let (f, first) ← holding [ov] (getMethod ov m pl)
      callWith pos f first (backTo pos (starEach (e :: es) X.env)) (backToKw pos (keywordEach [] X.env))) := by rfl) :
    DE C E X (.Call (.Attribute (.Name x p0) m apos) (e :: es) [] pos) (eCmth c g ms fa) := by
  obtain ⟨mc, p, f, hr, hc, F⟩ := M.ex
  refine ⟨fun pins s σ H Q I ⟨ρ, S, F0, he, w, q⟩ => ?_⟩
  have q1 := given_at (v := .ref (C.cls c)) (d := .cl c) hn he w .refl rfl q
  refine PySem.W.methodCall_KW (pl := pl) (ld_glob I hg hm ?_ hdb) ht
  refine getmethcm_ok I hr hc fun s2 I2 => ?_
  refine callwith_cm I2 (base_none I (Nat.le_refl _)) hc.fi (thn (ha.run pos _ s2 σ H _ I2 q1) fun us s3 ⟨vs, H2, I3, rv, q2⟩ => ⟨⟨pin_at I3, I3.kIn⟩, ?_⟩) hst hpl
  exact run_cmS F (b.rm.mono hjk) (passAtM b.tk σ) I3 rv q2
end
end G
end

section
set_option maxRecDepth 100000
set_option maxHeartbeats 4000000
open PySem PySem.Spec PyProof.Rows L2
namespace PySem.W
section
variable {prog : Program} {w : World} {A : Around} {E : Value → Shared → Prop} {s : Shared} {K : Frag} {x C L f : Addr} {h₀ : Heap} {m : Str → Option Value} {ox : Obj} {od : Option Obj} {b tb : Value}
theorem bind_obj_ne (self : Value) : bindSpecial (.builtin "object.__ne__") self = pure (.builtin "object.__ne__", [self]) := by
  first | exact (PySem.F.slot_range_iterator_ne).bind self | rfl | kernel_rfl
theorem ifBound_ne {M : Model} {args : List Value} {Q : Option Value → Shared → Prop} (X : K.In s.heap) (I : InstAt s.heap x ox C od) (hs : findIn K (.ref C) "__ne__" = some (some (.builtin "object.__ne__")))
    (h : wpAny M A (call (.builtin "object.__ne__") (.ref x :: args)) (fun v => Q (some v)) E s) : wpAny M A (callSpecialIfBound? (.ref x) "__ne__" args) Q E s := by
  have done_ : wpAny M A (call (.builtin "object.__ne__") (.ref x :: args) >>= fun v => pure (some v)) Q E s := wpAny_bind (wpAny_mono h (fun _ _ q => wpAny_pure q) fun _ _ q => q)
  unfold callSpecialIfBound? bindSpecialIfBound?
  refine wpAny_holding (wpAny_bind (wpAny_bind (wpAny_bind (I.type.here ((looks_findIn X hs).here (wpAny_bind (wpAny_askSetting (wpAny_ite ?_))))))))
  rw [bind_obj_ne]
  split
  · exact wpAny_bind (wpAny_pure (wpAny_pure done_))
  · exact wpAny_tryCatch (wpAny_bind (wpAny_pure (wpAny_pure done_)))
theorem ne_entry {Q : Fin → Shared → Prop} (hu : A.units < cLine) (X : K.In s.heap) (I : InstAt s.heap x ox C od) (hs : findIn K (.ref C) "__eq__" = some (some (.ref f))) (hf : isFn K (.ref f) = true)
    (h : wpAny (model prog w) A (call (.ref f) [.ref x, b]) (fun v s' => ∃ r, v = .bool r ∧ Q (.done (.ret (.bool (!r)))) s') E s) : wpAny (model prog w) A (Builtin.«object.__ne__» ⟨[.ref x, b], []⟩) Q E s := by
  unfold Builtin.«object.__ne__»
  refine wpAny_bind (m := slotArgs "__ne__" 1 _) (wpAny_pure ?_)
  dsimp only
  refine wpAny_bind (wpAny_cRoomFor hu ?_)
  refine wpAny_bind (m := callSpecialIfBound? (.ref x) (Str.ofString "__eq__") [b]) (ifBound_K X I hs hf (wpAny_mono h (fun v s' hv => ?_) fun _ _ e => e))
  obtain ⟨r, rfl, hq⟩ := hv
  exact wpAny_bind (wpAny_truthy_bool (wpAny_pure hq))
theorem ne_K {Q : Value → Shared → Prop} (hu : A.units + 1 < cLine) (F : Fr h₀ L s.heap m) (X₀ : K.In h₀) (I : InstAt s.heap x ox C od) (hb : Looks (model prog w) s.heap (typeOf b) tb) (hn : notFirst K C tb = true)
    (hne : findIn K (.ref C) "__ne__" = some (some (.builtin "object.__ne__"))) (hob : subIn K (.ref C) (.type "object") = some true) (hs : findIn K (.ref C) "__eq__" = some (some (.ref f))) (hf : isFn K (.ref f) = true)
    (h : wpAny (model prog w) A.in1 (call (.ref f) [.ref x, b]) (fun v s' => ∃ r, v = .bool r ∧ Q (.bool (!r)) s') E s) : wpAny (model prog w) A (richCompare .NotEq (.ref x) b) Q E s := by
  have X := X₀.keeps F.keep
  have isObj : Looks (model prog w) s.heap (isInstance (.ref x) (.type "object")) true := I.type.andThen (looks_subIn X hob)
  have ask : wpAny (model prog w) A (tryCompare (.ref x) "__ne__" b) (fun r s' => ∃ v, r = some v ∧ Q v s') E s := by
    unfold tryCompare
    refine wpAny_bind (ifBound_ne X I hne (wpAny_call (codeAny_call_builtin (by decide +kernel) PySem.F.cmpEntry_ne (@check_slot (model prog w) _ _ _ "object.__ne__" "object" "__ne__" (.ref x) [b] [] _ PySem.F.cmpKind_ne PySem.F.cmpSplit_ne isObj (PySem.F.cmpArgs_ne _ _) (ne_entry hu X I hs hf (wpAny_mono h (fun _ _ ⟨r, e, q⟩ => ⟨r, e, ?_⟩) fun _ _ z => z))))))
    exact wpAny_pure ⟨_, rfl, q⟩
  -- the right side's class is not asked first
  have right : ∀ {k : Bool → Sem Value}, wpAny (model prog w) A (k false) Q E s → wpAny (model prog w) A (if (Value.ref C != tb) = true then isSubtype tb (.ref C) >>= k else pure false >>= k) Q E s := fun q => by
    split
    · next ne =>
      refine wpAny_bind ((looks_subIn X ((Bool.or_eq_true_iff.mp hn).elim (fun e => ?_) beq_iff_eq.mp)).here q)
      rw [beq_iff_eq.mp e, bne_self_eq_false] at ne
      exact Bool.noConfusion ne
    · exact wpAny_bind (wpAny_pure q)
  unfold richCompare
  rw [oneThing_ref]
  refine wpAny_holding (wpAny_bind (wpAny_cRoomFor (Nat.lt_of_succ_lt hu) (wpAny_bind (I.type.here (wpAny_bind (hb.here (right ?_)))))))
  dsimp only
  rw [if_neg Bool.false_ne_true]
  exact wpAny_bind (wpAny_mono ask (fun _ _ ⟨_, e, q⟩ => e ▸ wpAny_pure q) fun _ _ z => z)
end
end PySem.W
end

section
set_option maxRecDepth 100000
set_option maxHeartbeats 4000000
open PySem PySem.Spec PyProof.Rows L2
namespace G
/-! what own defs answer behind ==, !=, len, str, isinstance -/
section
variable {md : Bool} {C : Cn} {P : Fx} {E : WX} {X : Cx} {σ : L2.St} {H H' H1 H2 H0 : Hp} {S S1 S2 S0 S' F F1 F0 A B W : Set'} {ρ : Env'} {e : Expr} {es : List Expr} {pos : Pos} {fe fh : Fe} {fa : Fa} {f : Str} {pins : List (Addr × Obj)} {s : Shared} {j k n c : Nat} {g : Fn}
/-- the heap has grown: nothing owned -/
structure Grw (C : Cn) (H : Hp) (S : Set') (H' : Hp) (S' : Set') : Prop where
  fr : Fr C H S No H' S' No
  so : So H' S'
  tb : LamX.Tabs C.tabs H'
theorem Grw.refl (so : So H S) (tb : LamX.Tabs C.tabs H) : Grw C H S H S := ⟨.refl, so, tb⟩
theorem wf_of (so : So H S) (tb : LamX.Tabs C.tabs H) : Wf C H S No := ⟨fun _ z => z.elim, fun _ z => z.elim, so, tb⟩
theorem grw_step (he : RepE C H1 S1 σ ρ F1) (w : Wf C H1 S1 F1) (fr : Fr C H S F H1 S1 F1) (g : Grw C H1 S1 H' S') : RepE C H' S' σ ρ F1 ∧ Wf C H' S' F1 ∧ Fr C H S F H' S' F1 ∧ Kp H1 S1 H' S' := by
  have ka : ∀ a, F1 a → H' a = H1 a := fun a h => by
    obtain ⟨u, q⟩ := mut_some (w.mu a h)
    rw [q]; exact g.fr.keep a u q id (Mo.nt (by rw [← q]; exact w.mu a h))
  have kp : Kp H1 S1 H' S' := g.fr.kp (wf_of w.so w.tb)
  have fr2 : Fr C H1 S1 F1 H' S' F1 := ⟨fun a u e _ nt => g.fr.keep a u e id nt, g.fr.sub, fun a s => (g.fr.new a s).elim .inl fun z => z.elim False.elim fun z => .inr (.inr z), fun a z => .inl z, g.fr.tk⟩
  refine ⟨he.mono kp ka, ⟨fun a z => by rw [ka a z]; exact w.mu a z, fun a z s => ?_, g.so, g.tb⟩, fr.trans fr2, kp⟩
  rcases g.fr.new a s with q | q | q
  · exact w.ns a z q
  · exact q
  · obtain ⟨u, e⟩ := mut_some (w.mu a z)
    rw [q] at e; cases e
/-- operations by values that may run a def: their answer is a scalar -/
def rG1 (C : Cn) (g : D → Option D) : V → Hp → VK → Prop := fun x H Q => ∃ S dx, So H S ∧ LamX.Tabs C.tabs H ∧ RepD C H S x dx ∧ ∃ d, g dx = some d ∧ scD d = true ∧ ∀ v H' S', Grw C H S H' S' → RepD C H' S' v d → Q v H'
def rG2 (C : Cn) (g : D → D → Option D) : R2 := fun x y H Q => ∃ S dx dy, So H S ∧ LamX.Tabs C.tabs H ∧ RepD C H S x dx ∧ RepD C H S y dy ∧ ∃ d, g dx dy = some d ∧ scD d = true ∧ ∀ v H' S', Grw C H S H' S' → RepD C H' S' v d → Q v H'
def g1 (g : D → Option D) : D → Option O := fun d => match g d with
  | some r => if scD r = true then some (.sh r) else none
  | none => none
def g2 (g : D → D → Option D) : D → D → Option O := fun d e => match g d e with
  | some r => if scD r = true then some (.sh r) else none
  | none => none
theorem rg1_of {f : Fe} {g : D → Option D} {Q : VK} (q : rE C E (e1 (g1 g) f) σ H Q) : rE C E f σ H (fun x H1 => rG1 C g x H1 Q) := by
  obtain ⟨ρ, S, F, he, w, q⟩ := q
  refine ⟨ρ, S, F, he, w, ?_⟩
  unfold e1 at q
  cases ef : f ρ with
  | bad => rw [ef] at q; exact q
  | exc x ρ' => rw [ef] at q; exact q
  | ok o ρ1 =>
    rw [ef] at q
    intro v H1 S1 F1 A he1 r1 w1 d1 fr1
    simp only [bind_ok] at q
    obtain ⟨o', eo⟩ := fin_bad q
    rw [eo] at q
    have k : Kp H1 S1 H1 (Un' S1 A) := ⟨fun _ _ _ _ e => e, fun _ _ _ _ e => e, fun _ => .inl⟩
    have w2 := w1.share d1
    unfold g1 at eo
    split at eo
    · next r er =>
      split at eo
      · next hs =>
        have eo := Option.some.inj eo
        subst eo
        refine ⟨Un' S1 A, o.toD, w2.so, w2.tb, r1.share (fun _ => .inl) (fun _ => .inr), r, er, hs, fun v2 H2 S2 gw rv => ?_⟩
        obtain ⟨he3, w3, fr3, _⟩ := grw_step (he1.mono k fun _ _ => rfl) w2 fr1.share gw
        exact q v2 H2 S2 F1 No he3 ⟨emp_no, rv⟩ (wf_no w3) dj_no (fr_no fr3)
      · cases eo
    · cases eo
theorem rg2_of {f h : Fe} {g : D → D → Option D} {Q : VK} (q : rE C E (e2 (g2 g) f h) σ H Q) : rE C E f σ H (fun x H1 => rE C E h σ H1 fun y H2 => rG2 C g x y H2 Q) := by
  obtain ⟨ρ, S, F, he, w, q⟩ := q
  refine ⟨ρ, S, F, he, w, ?_⟩
  unfold e2 at q
  cases ef : f ρ with
  | bad => rw [ef] at q; exact q
  | exc x ρ' => rw [ef] at q; exact q
  | ok o ρ1 =>
    rw [ef] at q
    intro v H1 S1 F1 A he1 r1 w1 d1 fr1
    simp only [bind_ok] at q
    refine ⟨ρ1, S1, F1, he1, w1.drop, ?_⟩
    cases eg : h ρ1 with
    | bad => rw [eg] at q; exact q
    | exc x ρ' =>
      rw [eg] at q
      intro c d H2 S2 F2 he2 w2 fr2 rx
      exact q c d H2 S2 F2 he2 w2 (fr1.drop.trans fr2) rx
    | ok o2 ρ2 =>
      rw [eg] at q
      simp only [bind_ok] at q
      intro v2 H2 S2 F2 B he2 r2 w2 d2 fr2
      obtain ⟨o', eo⟩ := fin_bad q
      rw [eo] at q
      obtain ⟨ka, d3, w3, fr3, k⟩ := fr_tmp w1 d1 fr1 fr2 w2
      obtain ⟨d4, d5⟩ := dj_un d3 d2
      have r1' := r1.mono k ka
      rw [un_assoc] at w3 fr3
      have k' : Kp H2 S2 H2 (Un' S2 (Un' A B)) := ⟨fun _ _ _ _ e => e, fun _ _ _ _ e => e, fun _ => .inl⟩
      have w4 := w3.share d5
      unfold g2 at eo
      split at eo
      · next r er =>
        split at eo
        · next hs =>
          have eo := Option.some.inj eo
          subst eo
          refine ⟨Un' S2 (Un' A B), o.toD, o2.toD, w4.so, w4.tb, r1'.share (fun _ => .inl) (fun _ z => .inr (.inl z)), r2.share (fun _ => .inl) (fun _ z => .inr (.inr z)), r, er, hs, fun v3 H3 S3 gw rv => ?_⟩
          obtain ⟨he3, w5, fr5, _⟩ := grw_step (he2.mono k' fun _ _ => rfl) w4 fr3.share gw
          exact q v3 H3 S3 F2 No he3 ⟨emp_no, rv⟩ (wf_no w5) dj_no (fr_no fr5)
        · cases eo
      · cases eo
/-- a def that answers a scalar -/
def ansG (g : Fn) (ds : List D) : Option D := match g (ds.map .sh) with
  | .ok (.sh d) _ => if scD d = true then some d else none
  | _ => none
theorem ans_sp {g : Fn} {vs : List V} {ds : List D} {d : D} {Q : VK} {Ee : XK} (so : So H S) (tb : LamX.Tabs C.tabs H) (r : RepDs C H S vs ds) (hn : vs.length = n) (e : ansG g ds = some d) (q : ∀ v H' S', Grw C H S H' S' → RepD C H' S' v d → Q v H') : spD C n g vs H Q Ee := by
  refine ⟨ds.map .sh, S, No, hn, RepOs.of_sh r, wf_of so tb, ?_⟩
  unfold ansG at e
  cases eg : g (ds.map .sh) with
  | bad => rw [eg] at e; cases e
  | exc x ps => rw [eg] at e; cases e
  | ok o ps =>
    rw [eg] at e
    cases o with
    | sh d' =>
      simp only at e
      split at e
      · have e := Option.some.inj e
        subst e
        intro v H' S' A' B hp rv w dj fr
        exact q v H' S' ⟨⟨fr.keep, fr.sub, fr.new, fun _ z => z.elim, fr.tk⟩, w.so, w.tb⟩ rv.2
      · cases e
    | _ => cases e
theorem ans_sc {g : Fn} {ds : List D} {d : D} (e : ansG g ds = some d) : scD d = true := by
  unfold ansG at e
  split at e
  · split at e
    · next h => rw [← Option.some.inj e]; exact h
    · cases e
  · cases e
end
end G
end

section
set_option maxRecDepth 100000
set_option maxHeartbeats 4000000
open PySem PySem.Spec PyProof.Rows L2
namespace G
def baseTs : List String := ["NoneType", "bool", "int", "str", "tuple", "list", "dict"]
/-- classes with an own ==, and none but object's != -/
structure EqO (md : Bool) (P : Program) (w : World) (K : PySem.W.Frag) (mg : Str → Option Value) (base : Heap) (C : Cn) (k : Nat) (T : Nat → Option Fn) : Prop where
  at_ : ∀ c g, T c = some g → (∃ f, PySem.W.findIn K (.ref (C.cls c)) "__eq__" = some (some (.ref f)) ∧ PySem.W.isFn K (.ref f) = true ∧ FnR P w K mg base (CXm md P w) k f (spD C 2 g)) ∧
    PySem.W.findIn K (.ref (C.cls c)) "__ne__" = some (some (.builtin "object.__ne__")) ∧ PySem.W.subIn K (.ref (C.cls c)) (.type "object") = some true ∧ (∀ t ∈ baseTs, PySem.W.notFirst K (C.cls c) (.type t) = true) ∧ ∀ c', PySem.W.notFirst K (C.cls c) (.ref (C.cls c')) = true
structure LenO (md : Bool) (P : Program) (w : World) (K : PySem.W.Frag) (mg : Str → Option Value) (base : Heap) (C : Cn) (k : Nat) (T : Nat → Option Fn) : Prop where
  at_ : ∀ c g, T c = some g → ∃ f, PySem.W.findIn K (.ref (C.cls c)) "__len__" = some (some (.ref f)) ∧ PySem.W.isFn K (.ref f) = true ∧ FnR P w K mg base (CXm md P w) k f (spD C 1 g)
structure StrO (md : Bool) (P : Program) (w : World) (K : PySem.W.Frag) (mg : Str → Option Value) (base : Heap) (C : Cn) (k : Nat) (T : Nat → Option Fn) : Prop where
  at_ : ∀ c g, T c = some g → (∃ f, PySem.W.findIn K (.ref (C.cls c)) "__str__" = some (some (.ref f)) ∧ PySem.W.isFn K (.ref f) = true ∧ FnR P w K mg base (CXm md P w) k f (spD C 1 g)) ∧
    PySem.W.findIn K (.ref (C.cls c)) "__format__" = some (some (.builtin "object.__format__")) ∧ PySem.W.mroIn K (C.cls c) (.type "object") = some true
/-- isinstance against an own class -/
structure IsO (K : PySem.W.Frag) (mg : Str → Option Value) (C : Cn) (x : Str) (m : Nat → Bool) : Prop where
  ex : ∃ Cl, mg x = some (.ref Cl) ∧ (∀ t ∈ baseTs, PySem.W.kitOne K (.type t) (.ref Cl) = some false) ∧ ∀ c, PySem.W.kitOne K (.ref (C.cls c)) (.ref Cl) = some (m c) ∧ SlX.SCls K (C.cls c) ∧ SlX.SIsi K (C.cls c)
def shD : O → Option D
  | .sh d => some d
  | _ => none
def boD : D → Option Bool
  | .bl b => some b
  | _ => none
def okR : D → Bool
  | .ins _ _ => true
  | d => (tyN d).isSome
theorem okR_eq {d : D} (h : okR d = true) : (tyN d).isSome ∨ ∃ c l, d = .ins c l := by
  cases d <;> simp [okR, tyN] at h ⊢
def gEqA (T : Nat → Option Fn) (a b : D) : Option D := match a with
  | .ins c l => if okR b = true then ((T c).bind fun g => ansG g [.ins c l, b]).bind fun d => (boD d).map D.bl else none
  | _ => (gEq a b).bind shD
def gNeA (T : Nat → Option Fn) (a b : D) : Option D := match a with
  | .ins c l => if okR b = true then ((T c).bind fun g => ansG g [.ins c l, b]).bind fun d => (boD d).map fun r => D.bl !r else none
  | _ => (gNe a b).bind shD
def lnD : D → Option Int
  | .int n => if 0 ≤ n ∧ n ≤ 1000000 then some n else none
  | _ => none
def gLenA (T : Nat → Option Fn) (a : D) : Option D := match a with
  | .ins c l => ((T c).bind fun g => ansG g [.ins c l]).bind fun d => (lnD d).map D.int
  | _ => (lenG [a]).bind shD
def txD : D → Option Str
  | .str x => if x.length ≤ big then some x else none
  | _ => none
def gStrA (T : Nat → Option Fn) (a : D) : Option D := match a with
  | .ins c l => ((T c).bind fun g => ansG g [.ins c l]).bind fun d => (txD d).map D.str
  | _ => (strG [a]).bind shD
def isC (m : Nat → Bool) : D → Option O
  | .ins c _ => some (bO (m c))
  | d => (tyN d).map fun _ => bO false
section
variable {md : Bool} {C : Cn} {P : Fx} {E : WX} {X : Cx} {σ : L2.St} {H H' H1 H2 H0 : Hp} {S S1 S2 S0 S' F F1 F0 A B W : Set'} {ρ : Env'} {e a b : Expr} {es : List Expr} {pos : Pos} {fe fh f h : Fe} {fa : Fa} {pins : List (Addr × Obj)} {s : Shared} {j k n c : Nat} {g : Fn} {T : Nat → Option Fn}
theorem alc_grw (al : Alc H S H' S' A) (tb : LamX.Tabs C.tabs H) : Grw C H S H' S' :=
  ⟨⟨fun a u e _ _ => al.keep a u e, al.sub, fun a s => (al.new a s).elim .inl fun z => .inr (.inr z), fun _ z => z.elim, .all al.keep⟩, al.so, tb.ext al.keep⟩
/-- the type of a value of a plain kind -/
theorem kit_at (ok : OkX C X) (I : Inv X pins σ H s) {x : V} {u : Value} {d : D} {t : String} (rx : RelV x u) (r : RepD C H S x d) (et : tyN d = some t) : ∃ P : Heap → Prop, PySem.W.KitX X.K u (.type t) P ∧ P s.heap := by
  cases d <;> simp only [tyN, reduceCtorEq] at et <;> (try (have et := Option.some.inj et; subst et))
  · have : x = .non := r
    subst this
    cases rx; exact ⟨_, PySem.W.kitx_none, True.intro⟩
  · have : x = .bl _ := r
    subst this
    cases rx; exact ⟨_, PySem.W.kitx_bool, True.intro⟩
  · have : x = .int _ := r
    subst this
    obtain ⟨t, rfl⟩ := rx; exact ⟨_, PySem.W.kitx_int, True.intro⟩
  · have : x = .str _ := r
    subst this
    obtain ⟨t, rfl⟩ := rx; exact ⟨_, PySem.W.kitx_str, True.intro⟩
  · obtain ⟨a, vs, rfl, h1, hr⟩ := r
    cases rx
    obtain ⟨its, _, ⟨o, e1, e2, _⟩, _⟩ := I.tuple (tup_sq ok.K h1)
    exact ⟨_, PySem.W.kitx_tuple, ⟨o, e1, e2⟩⟩
  · obtain ⟨a, vs, rfl, h1, hr⟩ := r
    cases rx
    obtain ⟨its, n, _, _, _, e1⟩ := lst_obj ok.K I h1
    exact ⟨_, PySem.W.kitx_list, ⟨_, e1, rfl⟩⟩
  · obtain ⟨a, rfl, hs, ⟨kvs, h1, hr⟩ | ⟨kvs, h1, hr⟩⟩ := r
    · cases rx
      obtain ⟨_, _, vs, _, p⟩ := (show ObjOk X.prog X.w H s.heap a (.dK kvs) from h1.ok I.hok)
      obtain ⟨o, es, ep, e1, e2, _⟩ := p
      exact ⟨_, PySem.W.kitx_dict, ⟨o, e1, e2.1⟩⟩
    · cases rx
      obtain ⟨_, _, xs, _, o, es, ep, e1, e2, _⟩ := (show ObjOk X.prog X.w H s.heap a (.dT kvs) from h1.ok I.hok)
      exact ⟨_, PySem.W.kitx_dict, ⟨o, e1, e2.1⟩⟩
/-- the type of the right side, none that goes first -/
theorem ty_at (ok : OkX C X) (I : Inv X pins σ H s) {Cl : Addr} {x : V} {u : Value} {d : D} (rx : RelV x u) (r : RepD C H S x d) (hd : (tyN d).isSome ∨ ∃ c l, d = .ins c l) (h1 : ∀ t ∈ baseTs, PySem.W.notFirst X.K Cl (.type t) = true) (h2 : ∀ c', PySem.W.notFirst X.K Cl (.ref (C.cls c')) = true) :
    ∃ tb, PySem.W.Looks (model X.prog X.w) s.heap (typeOf u) tb ∧ PySem.W.notFirst X.K Cl tb = true := by
  rcases hd with hd | ⟨c, l, rfl⟩
  · obtain ⟨t, et⟩ := Option.isSome_iff_exists.mp hd
    obtain ⟨P, Z, p⟩ := kit_at ok I rx r et
    exact ⟨.type t, Z.ty _ _ I.kIn p, h1 t (tyN_mem et)⟩
  · obtain ⟨a, dx, vs, rfl, _, _, ht, _⟩ := r
    cases rx
    obtain ⟨sl, od, _, J, _⟩ := SlX.slt_inst I ht
    exact ⟨_, J.type, h2 c⟩
theorem boD_eq {d : D} {b : Bool} (h : boD d = some b) : d = .bl b := by cases d <;> simp [boD] at h; rw [h]
theorem shD_eq {o : O} {d : D} (h : shD o = some d) : o = .sh d := by cases o <;> simp [shD] at h; rw [h]
theorem calls_at {A : Around} {f : Addr} {Q : V → Hp → Prop} {us : List Value} {vs : List V} {ds : List D} {d : D} (F : FnR X.prog X.w X.K X.mg X.base (CXm md X.prog X.w) k f (spD C n g)) (hr : Room k A) (e0 : Env0 X.prog X.w X.K X.mg X.base A X.stack s H) (tk : TakesM md X E) (I : Inv X pins σ H s) (r : Vals vs us)
    (so : So H S) (tb : LamX.Tabs C.tabs H) (rd : RepDs C H S vs ds) (hn : vs.length = n) (ea : ansG g ds = some d) (q : ∀ v H' S', Grw C H S H' S' → RepD C H' S' v d → Q v H') :
    wpAny (model X.prog X.w) A (call (.ref f) us) (EP X pins σ Q) X.xe s :=
  wpAny_call (run_fnS (Ee := WE E σ) F hr e0 (passAtM tk σ) I r (ans_sp so tb rd hn ea q))
theorem op_eqA (M : EqO md X.prog X.w X.K X.mg X.base C k T) (bx : Bx md C j X E) (hjk : k ≤ j) : OpR X (compareOp .Eq) (rG2 C (gEqA T)) := by
  intro pins s σ H x y v u Q I rx ry ⟨S, dx, dy, so, tb, r1, r2, d, ed, sd, q⟩
  by_cases hi : ∃ c l, dx = .ins c l
  · obtain ⟨c, l, rfl⟩ := hi
    simp only [gEqA] at ed
    split at ed
    · next hR =>
      obtain ⟨d1, e1, e2⟩ := Option.bind_eq_some_iff.mp ed
      obtain ⟨g, eg, ea⟩ := Option.bind_eq_some_iff.mp e1
      obtain ⟨r, er, rfl⟩ := Option.map_eq_some_iff.mp e2
      rw [boD_eq er] at ea
      obtain ⟨⟨f, hs, hf, F⟩, hne, hob, nf1, nf2⟩ := M.at_ c g eg
      obtain ⟨tb', hL, hN⟩ := ty_at bx.ok I ry r2 (okR_eq hR) nf1 nf2
      obtain ⟨a, dxx, vs, ex, _, _, ht, _⟩ := id r1
      subst ex
      obtain rfl : v = Value.ref a := rx
      obtain ⟨sl, od, _, J, _⟩ := SlX.slt_inst I ht
      obtain ⟨m, hF⟩ := I.fr
      show wpAny _ _ (richCompare .Eq _ _) _ _ _
      refine PySem.W.cmp_K (op := .Eq) bx.rm.units0 hF I.ok.mod.kin J hL hN hs hf ?_
      refine wpAny_mono (calls_at (ds := [.ins c l, dy]) (d := .bl r) (Q := fun v' H' => ∃ S', Grw C H S H' S' ∧ RepD C H' S' v' (.bl r)) (us := [.ref a, u]) (vs := [.ref a, y]) F (bx.rm.mono hjk) I.env0 bx.tk I (.cons rfl (.cons ry .nil)) so tb ⟨.ref a, [y], rfl, r1, y, [], rfl, r2, rfl⟩ rfl ea fun v H' S' gw rv => ⟨S', gw, rv⟩) (fun w' s' z => ?_) fun _ _ x => x
      obtain ⟨z', H', I', rz, S', gw, rv⟩ := z
      exact SlX.cmpback rz ⟨z', H', I', rz, q _ _ _ gw rv⟩
    · cases ed
  · have ed' : ((gEq dx dy).bind shD) = some d := by
      cases dx <;> first | exact ed | exact absurd ⟨_, _, rfl⟩ hi
    obtain ⟨o, eo, es⟩ := Option.bind_eq_some_iff.mp ed'
    rw [shD_eq es] at eo
    exact og_eq bx.ok pins s σ H x y v u Q I rx ry ⟨S, dx, dy, so, r1, r2, _, eo, fun v' H' S' A' al rv => q v' H' S' (alc_grw al tb) rv.2⟩
theorem op_neA (M : EqO md X.prog X.w X.K X.mg X.base C k T) (bx : Bx md C j X E) (hjk : k + 1 ≤ j) : OpR X (compareOp .NotEq) (rG2 C (gNeA T)) := by
  intro pins s σ H x y v u Q I rx ry ⟨S, dx, dy, so, tb, r1, r2, d, ed, sd, q⟩
  by_cases hi : ∃ c l, dx = .ins c l
  · obtain ⟨c, l, rfl⟩ := hi
    simp only [gNeA] at ed
    split at ed
    · next hR =>
      obtain ⟨d1, e1, e2⟩ := Option.bind_eq_some_iff.mp ed
      obtain ⟨g, eg, ea⟩ := Option.bind_eq_some_iff.mp e1
      obtain ⟨r, er, rfl⟩ := Option.map_eq_some_iff.mp e2
      rw [boD_eq er] at ea
      obtain ⟨⟨f, hs, hf, F⟩, hne, hob, nf1, nf2⟩ := M.at_ c g eg
      obtain ⟨tb', hL, hN⟩ := ty_at bx.ok I ry r2 (okR_eq hR) nf1 nf2
      obtain ⟨a, dxx, vs, ex, _, _, ht, _⟩ := id r1
      subst ex
      obtain rfl : v = Value.ref a := rx
      obtain ⟨sl, od, _, J, _⟩ := SlX.slt_inst I ht
      obtain ⟨m, hF⟩ := I.fr
      have hr1 : Room (k + 1) X.A := bx.rm.mono hjk
      show wpAny _ _ (richCompare .NotEq _ _) _ _ _
      refine PySem.W.ne_K (by have := bx.ok.un; omega) hF I.ok.mod.kin J hL hN hne hob hs hf ?_
      refine wpAny_mono (calls_at (ds := [.ins c l, dy]) (d := .bl r) (Q := fun v' H' => ∃ S', Grw C H S H' S' ∧ RepD C H' S' v' (.bl r)) (us := [.ref a, u]) (vs := [.ref a, y]) F hr1.in1 I.env0.in1 bx.tk I (.cons rfl (.cons ry .nil)) so tb ⟨.ref a, [y], rfl, r1, y, [], rfl, r2, rfl⟩ rfl ea fun v H' S' gw rv => ⟨S', gw, rv⟩) (fun w' s' z => ?_) fun _ _ x => x
      obtain ⟨z', H', I', rz, S', gw, rv⟩ := z
      have ez : z' = .bl r := rv
      subst ez
      cases rz
      exact ⟨r, rfl, .bl !r, H', I', rfl, q _ _ _ gw rfl⟩
    · cases ed
  · have ed' : ((gNe dx dy).bind shD) = some d := by
      cases dx <;> first | exact ed | exact absurd ⟨_, _, rfl⟩ hi
    obtain ⟨o, eo, es⟩ := Option.bind_eq_some_iff.mp ed'
    rw [shD_eq es] at eo
    exact og_ne bx.ok pins s σ H x y v u Q I rx ry ⟨S, dx, dy, so, r1, r2, _, eo, fun v' H' S' A' al rv => q v' H' S' (alc_grw al tb) rv.2⟩
theorem de_cmpA {op : CmpOp} {g : D → D → Option D} (ho : OpR X (compareOp op) (rG2 C g)) (ha : DE C E X a f) (hb : DE C E X b h) (hm : behindInMarks op b = false) : DE C E X (.Compare a [op] [b] pos) (e2 (g2 g) f h) :=
  pe_imp (pe_cmpR ho ha hb hm) fun _ _ _ q => rg2_of q
theorem dt_cmpA {op : CmpOp} {g : D → D → Option D} (ho : OpR X (compareOp op) (rG2 C g)) (ha : DE C E X a f) (hb : DE C E X b h) (hm : behindInMarks op b = false) : DT C E X (.Compare a [op] [b] pos) (eB (e2 (g2 g) f h)) :=
  pt_imp (pt_cmpR ho ha hb hm) fun _ _ _ q => rg2_of (tb_of q)
/-- built-ins of one argument -/
def rC1 (C : Cn) (g : D → Option D) : List V → Hp → VK → Prop := fun xs H Q => ∃ x, xs = [x] ∧ rG1 C g x H Q
theorem og_lenA (M : LenO md X.prog X.w X.K X.mg X.base C k T) (bx : Bx md C j X E) (hjk : k + 1 ≤ j) : CallR X (.builtin "len") (rC1 C (gLenA T)) := by
  intro pins s σ H xs us Q I r ⟨x, ex, S, dx, so, tb, r1, d, ed, sd, q⟩
  subst ex
  by_cases hi : ∃ c l, dx = .ins c l
  · obtain ⟨c, l, rfl⟩ := hi
    simp only [gLenA] at ed
    obtain ⟨d1, e1, e2⟩ := Option.bind_eq_some_iff.mp ed
    obtain ⟨g, eg, ea⟩ := Option.bind_eq_some_iff.mp e1
    obtain ⟨n, en, rfl⟩ := Option.map_eq_some_iff.mp e2
    have ed1 : d1 = .int n ∧ 0 ≤ n ∧ n ≤ 1000000 := by
      unfold lnD at en
      split at en
      · split at en
        · next h => exact ⟨by rw [Option.some.inj en], by rw [← Option.some.inj en]; exact h⟩
        · cases en
      · cases en
    rw [ed1.1] at ea
    obtain ⟨f, hs, hf, F⟩ := M.at_ c g eg
    obtain ⟨a, dxx, vs, ex, _, _, ht, _⟩ := id r1
    subst ex
    obtain ⟨u, rfl, ru⟩ := vals1 r
    obtain rfl : u = Value.ref a := ru
    obtain ⟨sl, od, _, J, _⟩ := SlX.slt_inst I ht
    obtain ⟨m, hF⟩ := I.fr
    have hr1 : Room (k + 1) X.A := bx.rm.mono hjk
    refine PySem.W.len_K hF I.ok.mod.kin J hs hf ?_
    refine wpAny_mono (calls_at (ds := [.ins c l]) (d := .int n) (Q := fun v' H' => ∃ S', Grw C H S H' S' ∧ RepD C H' S' v' (.int n)) (us := [.ref a]) (vs := [.ref a]) F hr1.in1 I.env0.in1 bx.tk I (.cons rfl .nil) so tb ⟨.ref a, [], rfl, r1, rfl⟩ rfl ea fun v H' S' gw rv => ⟨S', gw, rv⟩) (fun w' s' z => ?_) fun _ _ x => x
    obtain ⟨z', H', I', rz, S', gw, rv⟩ := z
    have ez : z' = .int n := rv
    subst ez
    obtain ⟨t, rfl⟩ := rz
    exact ⟨⟨ed1.2.1, by omega⟩, .int n, H', I'.tok _, ⟨_, rfl⟩, q _ _ _ gw rfl⟩
  · have ed' : ((lenG [dx]).bind shD) = some d := by
      cases dx <;> first | exact ed | exact absurd ⟨_, _, rfl⟩ hi
    obtain ⟨o, eo, es⟩ := Option.bind_eq_some_iff.mp ed'
    rw [shD_eq es] at eo
    exact og_len bx.ok pins s σ H [x] us Q I r ⟨S, [dx], so, ⟨x, [], rfl, r1, rfl⟩, _, eo, fun v' H' S' A' al rv => q v' H' S' (alc_grw al tb) rv.2⟩
theorem og_strA (M : StrO md X.prog X.w X.K X.mg X.base C k T) (bx : Bx md C j X E) (hjk : k + 2 ≤ j) : CallR X (.type "str") (rC1 C (gStrA T)) := by
  intro pins s σ H xs us Q I r ⟨x, ex, S, dx, so, tb, r1, d, ed, sd, q⟩
  subst ex
  by_cases hi : ∃ c l, dx = .ins c l
  · obtain ⟨c, l, rfl⟩ := hi
    simp only [gStrA] at ed
    obtain ⟨d1, e1, e2⟩ := Option.bind_eq_some_iff.mp ed
    obtain ⟨g, eg, ea⟩ := Option.bind_eq_some_iff.mp e1
    obtain ⟨y, en, rfl⟩ := Option.map_eq_some_iff.mp e2
    have ed1 : d1 = .str y := by
      unfold txD at en
      split at en
      · split at en
        · rw [Option.some.inj en]
        · cases en
      · cases en
    rw [ed1] at ea
    obtain ⟨⟨f, hs, hf, F⟩, _, _⟩ := M.at_ c g eg
    obtain ⟨a, dxx, vs, ex, _, _, ht, _⟩ := id r1
    subst ex
    obtain ⟨u, rfl, ru⟩ := vals1 r
    obtain rfl : u = Value.ref a := ru
    obtain ⟨sl, od, _, J, _⟩ := SlX.slt_inst I ht
    have hr1 : Room (k + 2) X.A := bx.rm.mono hjk
    refine PySem.W.kso_call (by have := bx.ok.un; show X.A.units + 1 + 1 < cLine; omega) I.kIn J hs hf ?_
    refine wpAny_mono (calls_at (ds := [.ins c l]) (d := .str y) (Q := fun v' H' => ∃ S', Grw C H S H' S' ∧ RepD C H' S' v' (.str y)) (us := [.ref a]) (vs := [.ref a]) F (show Room (k + 1) X.A.in1 from hr1.in1).in1 I.env0.in1.in1 bx.tk I (.cons rfl .nil) so tb ⟨.ref a, [], rfl, r1, rfl⟩ rfl ea fun v H' S' gw rv => ⟨S', gw, rv⟩) (fun w' s' z => ?_) fun _ _ x => x
    obtain ⟨z', H', I', rz, S', gw, rv⟩ := z
    have ez : z' = .str y := rv
    subst ez
    obtain ⟨t, rfl⟩ := rz
    exact ⟨.str y, H', I', ⟨_, rfl⟩, q _ _ _ gw rfl⟩
  · have ed' : ((strG [dx]).bind shD) = some d := by
      cases dx <;> first | exact ed | exact absurd ⟨_, _, rfl⟩ hi
    obtain ⟨o, eo, es⟩ := Option.bind_eq_some_iff.mp ed'
    rw [shD_eq es] at eo
    exact og_str bx.ok pins s σ H [x] us Q I r ⟨S, [dx], so, ⟨x, [], rfl, r1, rfl⟩, _, eo, fun v' H' S' A' al rv => q v' H' S' (alc_grw al tb) rv.2⟩
theorem de_call1 {x : Str} {p : Pos} {id : String} {g : D → Option D} (hc : CallR X (.builtin id) (rC1 C g)) (hg : Gl X x) (hm : X.mg x = none) (hv : bootBuiltins x = some (.builtin id)) (he : DE C E X e fe) (hn : x ≠ "__name__" := by decide) (hdb : (x == ("__debug__" : Str)) = false := by decide)
    (hs : starEach [e] X.env = (false, eval e X.env) :: starEach [] X.env := by rfl) (hpl : (backTo pos (starEach [] X.env)).any (·.1) = false := by rfl) : DE C E X (.Call (.Name x p) [e] [] pos) (e1 (g1 g) fe) :=
  pe_imp (pe_callB hc hg hm hv (pa_cons he pa_nil hs) hn hdb hs hpl) fun σ H Q q => rE_mono (rg1_of q) fun v H' h => ⟨v, rfl, h⟩
theorem de_call1T {x : Str} {p : Pos} {T : String} {g : D → Option D} (hc : CallR X (.type T) (rC1 C g)) (hg : Gl X x) (hm : X.mg x = none) (hv : bootBuiltins x = some (.type T)) (he : DE C E X e fe) (hn : x ≠ "__name__" := by decide) (hdb : (x == ("__debug__" : Str)) = false := by decide)
    (hs : starEach [e] X.env = (false, eval e X.env) :: starEach [] X.env := by rfl) (hpl : (backTo pos (starEach [] X.env)).any (·.1) = false := by rfl) : DE C E X (.Call (.Name x p) [e] [] pos) (e1 (g1 g) fe) :=
  pe_imp (pe_callTy hc hg hm hv (pa_cons he pa_nil hs) hn hdb hs hpl) fun σ H Q q => rE_mono (rg1_of q) fun v H' h => ⟨v, rfl, h⟩
/-- isinstance(e, C), C an own class -/
theorem call_isC (ok : OkX C X) {x : Str} {m : Nat → Bool} {Cl : Addr} (h1 : ∀ t ∈ baseTs, PySem.W.kitOne X.K (.type t) (.ref Cl) = some false) (h2 : ∀ c, PySem.W.kitOne X.K (.ref (C.cls c)) (.ref Cl) = some (m c) ∧ SlX.SCls X.K (C.cls c) ∧ SlX.SIsi X.K (C.cls c)) :
    CallR X (.builtin "isinstance") (fun xs H Q => ∃ x, xs = [x, .ref Cl] ∧ rV1 C (isC m) x H Q) := by
  intro pins s σ H xs us Q I r ⟨x, ex, S, d, so, rd, o, eo, q⟩
  subst ex
  obtain ⟨u1, u2, rfl, r1, r2⟩ := vals2 r
  cases (show u2 = Value.ref Cl from r2)
  by_cases hi : ∃ c l, d = .ins c l
  · obtain ⟨c, l, rfl⟩ := hi
    obtain ⟨hk, hc, hI⟩ := h2 c
    obtain ⟨a, dxx, vs, ex, _, _, ht, _⟩ := id rd
    subst ex
    obtain rfl : u1 = Value.ref a := r1
    obtain ⟨sl, od, _, J, _⟩ := SlX.slt_inst I ht
    simp only [isC, Option.some.injEq] at eo
    subst eo
    exact PySem.W.kia_one (OwX.kitx_slt hc.ic (hc.get _) hI.ca hI.cn hI.ct hI.cm) I.kIn J hk (fun z => nomatch z) fun tk => ⟨.bl _, H, I.tok _, rfl, q_sc so q rfl rfl⟩
  · have eo' : (tyN d).map (fun _ => bO false) = some o := by
      cases d <;> first | exact eo | exact absurd ⟨_, _, rfl⟩ hi
    obtain ⟨t, et, rfl⟩ := Option.map_eq_some_iff.mp eo'
    exact isi_at ok I r1 rd et (h1 t (tyN_mem et)) fun tk => ⟨.bl _, H, I.tok tk, rfl, q_sc so q rfl rfl⟩
theorem de_isc {x : Str} {m : Nat → Bool} {p p2 : Pos} (ok : OkX C X) (M : IsO X.K X.mg C x m) (he : DE C E X e fe) (hm : X.mg "isinstance" = none) (hg : Gl X "isinstance" := by rfl) (hg2 : Gl X x := by rfl) (hdb : (x == ("__debug__" : Str)) = false := by decide)
    (h1 : starEach [e, .Name x p2] X.env = (false, eval e X.env) :: starEach [.Name x p2] X.env := by rfl) (h2 : starEach [.Name x p2] X.env = (false, eval (.Name x p2) X.env) :: starEach [] X.env := by rfl)
    (hpl : (backTo pos (starEach [.Name x p2] X.env)).any (·.1) = false := by rfl) : DE C E X (.Call (.Name "isinstance" p) [e, .Name x p2] [] pos) (e1 (isC m) fe) := by
  obtain ⟨Cl, hx, k1, k2⟩ := M.ex
  exact pe_imp (pe_callB (call_isC (x := x) ok k1 k2) hg hm PyProof.Rows.boot_isinstance (pa_cons he (pa_cons (pe_glob (v := .ref Cl) hg2 hx rfl hdb) pa_nil h2) h1) (by decide) (by decide) h1 hpl) fun σ H Q q => rE_mono (r1_of q) fun v H' h => ⟨v, rfl, h⟩
end
end G
end

section
set_option maxRecDepth 100000
set_option maxHeartbeats 4000000
open PySem PySem.Spec PyProof.Rows L2
namespace G
/-! partition, f-strings, replace of written texts -/
def partG (a : Str) : List D → Option O
  | [.str b] => if (b.length == 0) = false ∧ a.length ≤ big then some (.sh (.tup [.str (Txt.partition a b).1, .str (Txt.partition a b).2.1, .str (Txt.partition a b).2.2])) else none
  | _ => none
def replG (y z : Str) (a : D) : Option O := match a with
  | .str x => if x.length + (x.length + 1) * z.length ≤ big then some (sO (Txt.replace x y z)) else none
  | _ => none
def fmtD : D → Option O
  | .str x => if x.length ≤ big then some (sO x) else none
  | .int i => if i.natAbs.log2 < 1920 then some (sO (toString i)) else none
  | _ => none
def eFjn : List Fe → Str → Fe
  | [], acc => fun ρ => .ok (sO acc) ρ
  | f :: fs, acc => fun ρ => (f ρ).bind fun o ρ1 => match o.toD with
    | .str y => if (acc ++ y).length ≤ big then eFjn fs (acc ++ y) ρ1 else .bad
    | _ => .bad
section
variable {md : Bool} {C : Cn} {P : Fx} {E : WX} {X : Cx} {σ : L2.St} {H H' H1 H2 H0 : Hp} {S S1 S2 S0 S' F F1 F0 A B W : Set'} {ρ : Env'} {e a b o : Expr} {es : List Expr} {pos apos : Pos} {fe fh f h : Fe} {fa ga : Fa} {te : TE} {ta : TA} {pins : List (Addr × Obj)} {s : Shared} {j k n c : Nat} {y z : Str}
theorem og_part (ok : OkX C X) : MtR X "str.partition" (rMs C partG) := by
  intro pins s σ H x xs v us Q I rx rs ⟨a, ex, S, ds, so, rd, o, eo, q⟩
  unfold partG at eo
  split at eo
  · split at eo
    · next b h =>
      obtain ⟨x1, rfl, r1⟩ := reps1 rd
      have e1 : x1 = .str _ := r1
      subst e1
      have eo := Option.some.inj eo
      subst eo
      refine mt_partition pins s σ H x _ v us Q I rx rs ⟨a, _, ex, rfl, h.1, big_line h.2, fun p hp => ?_⟩
      exact q_tup (l := [.str _, .str _, .str _]) so hp ⟨_, _, rfl, rfl, _, _, rfl, rfl, _, _, rfl, rfl, rfl⟩ q
    · cases eo
  · cases eo
theorem rE_fr {g : Fe} {ρ1 : Env'} {Q : VK} (he : RepE C H1 S1 σ ρ1 F1) (w : Wf C H1 S1 F1) (fr : Fr C H S F H1 S1 F1) (q : match g ρ1 with
      | .ok o ρ' => ∀ v H' S' F' A, RepE C H' S' σ ρ' F' → RepO C H' S' v o A → Wf C H' S' (Un' A F') → Dj A F' → Fr C H S F H' S' (Un' A F') → Q v H'
      | .exc x ρ' => ∀ c d H' S' F', RepE C H' S' σ ρ' F' → Wf C H' S' F' → Fr C H S F H' S' F' → RepXn C H' S' x c d → E c d σ H'
      | .bad => False) : rE C E g σ H1 Q := by
  refine ⟨ρ1, S1, F1, he, w, ?_⟩
  cases eg : g ρ1 with
  | bad => rw [eg] at q; exact q
  | exc x ρ' => rw [eg] at q; exact fun c d H2 S2 F2 a b c' r => q c d H2 S2 F2 a b (fr.trans c') r
  | ok o ρ' => rw [eg] at q; exact fun v H2 S2 F2 A a b c' d f => q v H2 S2 F2 A a b c' d (fr.trans f)
/-- {e} -/
theorem de_fmt (he : DE C E X e fe) : DE C E X (.FormattedValue e (-1) none pos) (e1 fmtD fe) :=
  pe_imp (pe_fmt he) fun σ H Q q => rE_mono (r1_of q) fun v H' ⟨S, d, so, rd, o, eo, q⟩ => by
    unfold fmtD at eo
    split at eo
    · split at eo
      · next x h =>
        have ex : v = .str x := rd
        exact .inl ⟨x, ex, big_line h, q_sc so q (Option.some.inj eo).symm rfl⟩
      · cases eo
    · split at eo
      · next i h =>
        have ex : v = .int i := rd
        exact .inr ⟨i, ex, h, q_sc so q (Option.some.inj eo).symm rfl⟩
      · cases eo
    · cases eo
/-- the parts of an f-string -/
inductive DJ (C : Cn) (E : WX) (X : Cx) : List Expr → List Fe → Prop where
  | nil : DJ C E X [] []
  | cons {e : Expr} {f : Fe} {es : List Expr} {fs : List Fe} (h : DE C E X e f) (r : DJ C E X es fs) : DJ C E X (e :: es) (f :: fs)
theorem DJ.to {fs : List Fe} (h : DJ C E X es fs) : PJ X es (fs.map (rE C E)) := by
  induction h with
  | nil => exact .nil
  | cons h r ih => exact .cons h ih
theorem fj_of : ∀ {fs : List Fe} {acc : Str} {σ : L2.St} {H : Hp} {Q : VK}, rE C E (eFjn fs acc) σ H Q → tJs (fs.map (rE C E)) acc σ H fun out H1 => Q (.str out) H1
  | [], acc, σ, H, Q, ⟨ρ, S, F, he, w, q⟩ => q (.str acc) H S F No he ⟨emp_no, rfl⟩ (wf_no w) dj_no (fr_no .refl)
  | f :: fs, acc, σ, H, Q, ⟨ρ, S, F, he, w, q⟩ => by
    refine ⟨ρ, S, F, he, w, ?_⟩
    simp only [eFjn] at q
    cases ef : f ρ with
    | bad => rw [ef] at q; exact q
    | exc x ρ' => rw [ef] at q; exact q
    | ok o ρ1 =>
      rw [ef] at q
      intro v H1 S1 F1 A he1 r1 w1 d1 fr1
      simp only [bind_ok] at q
      have rd := r1.share (S' := Un' S1 A) (fun _ => .inl) fun _ => .inr
      cases ed : o.toD with
      | str y =>
        rw [ed] at q rd
        simp only at q
        by_cases hl : (acc ++ y).length ≤ big
        · rw [if_pos hl] at q
          exact ⟨y, rd, big_line hl, fj_of (rE_fr he1 w1.drop fr1.drop q)⟩
        · rw [if_neg hl] at q; exact q.elim
      | _ => rw [ed] at q; exact q.elim
theorem de_fst {v1 v2 : Expr} {rest : List Expr} {fs : List Fe} (h : DJ C E X (v1 :: v2 :: rest) fs) : DE C E X (.JoinedStr (v1 :: v2 :: rest) pos) (eFjn fs Str.empty) :=
  pe_imp (pe_joined h.to) fun _ _ _ q => fj_of q
theorem de_fst1 (h : DE C E X e fe) : DE C E X (.JoinedStr [e] pos) fe := pe_joined1 h
/-! a token out -/
abbrev DET (C : Cn) (E : WX) (X : Cx) (e : Expr) (f : Fe) : Prop := PET X e (rE C E f)
abbrev DAT (C : Cn) (E : WX) (X : Cx) (es : List Expr) (f : Fa) : Prop := PAT X es (rA C E f)
/-- e gives out a token -/
def PEG (X : Cx) (e : Expr) (t : TE) : Prop :=
  ∀ (pins : List (Addr × Obj)) (s : Shared) (σ : L2.St) (H : Hp) (Q : VK), Inv X pins σ H s → t σ H Q → wpAny (model X.prog X.w) X.A (eval e X.env) (fun u s' => 1 ≤ s'.toks ∧ EP X pins σ Q u s') X.xe s
abbrev DEG (C : Cn) (E : WX) (X : Cx) (e : Expr) (f : Fe) : Prop := PEG X e (rE C E f)
theorem cons_of {f : Fe} {g : Fa} {Q : List V → Hp → Prop} (q : rA C E (eCons f g) σ H Q) : rE C E f σ H fun v H1 => rA C E g σ H1 fun vs H2 => Q (v :: vs) H2 := by
  obtain ⟨ρ, S, F, he, w, q⟩ := q
  refine ⟨ρ, S, F, he, w, ?_⟩
  unfold eCons at q
  cases ef : f ρ with
  | bad => rw [ef] at q; exact q
  | exc x ρ' => rw [ef] at q; exact q
  | ok o ρ1 =>
    rw [ef] at q
    intro v H1 S1 F1 A he1 r1 w1 d1 fr1
    refine ⟨ρ1, S1, F1, he1, w1.drop, ?_⟩
    simp only [bind_ok] at q
    cases eg : g ρ1 with
    | bad => rw [eg] at q; exact q
    | exc x ρ' =>
      rw [eg] at q
      intro c d H2 S2 F2 he2 w2 fr2 rx
      exact q c d H2 S2 F2 he2 w2 (fr1.drop.trans fr2) rx
    | ok os ρ2 =>
      rw [eg] at q
      intro vs H2 S2 F2 B he2 r2 w2 d2 fr2
      obtain ⟨ka, d3, w3, fr3, k⟩ := fr_tmp w1 d1 fr1 fr2 w2
      obtain ⟨d4, d5⟩ := dj_un d3 d2
      have r1' := r1.mono k ka
      rw [un_assoc] at w3 fr3
      exact q (v :: vs) H2 S2 F2 (Un' A B) he2 ⟨v, vs, A, B, rfl, r1', r2, ⟨fun a => Iff.rfl, d4⟩⟩ w3 d5 fr3
theorem dat_nil : DAT C E X [] eNil := fun _ _ _ _ H Q _ I ⟨ρ, S, F, he, w, q⟩ => Calls.spliced_nil ⟨[], H, I, .nil, q [] H S F No he ⟨rfl, emp_no⟩ (wf_no w) dj_no (fr_no .refl)⟩
theorem dat_cons {g : Fa} (h1 : DET C E X e f) (h2 : DAT C E X es g) (hs : starEach (e :: es) X.env = (false, eval e X.env) :: starEach es X.env := by rfl) : DAT C E X (e :: es) (eCons f g) :=
  fun pos pins s σ H Q h0 I q => pat_cons h1 h2 hs pos pins s σ H Q h0 I (cons_of q)
theorem det_of (h : DE C E X e f) : DET C E X e f := fun pins s σ H Q _ I q => h.run pins s σ H Q I q
/-- from a gain on -/
theorem da_gain {g : Fa} (h1 : DEG C E X e f) (h2 : DAT C E X es g) (hs : starEach (e :: es) X.env = (false, eval e X.env) :: starEach es X.env := by rfl) : DA C E X (e :: es) (eCons f g) := by
  refine ⟨fun pos pins s σ H Q I q => ?_⟩
  rw [hs]
  show wpAny _ _ (spliced ((false, eval e X.env) :: backTo pos (starEach es X.env))) _ _ s
  refine Calls.spliced_cons (thn (h1 pins s σ H _ I (cons_of q)) fun v s1 ⟨h0, x, H1, I1, r1, q1⟩ => ?_)
  exact thn (h2 pos pins s1 σ H1 _ h0 I1 q1) fun us s2 ⟨xs, H2, I2, r2, q2⟩ => ⟨x :: xs, H2, I2, .cons r1 r2, q2⟩
/-- a op 'c' -/
theorem deg_opc {op : Operator} {g : D → D → Option O} {x : Str} {i : Nat} {p : Pos} (ho : OpR X (binaryOp op) (rV2 C g)) (ha : DE C E X a f) : DEG C E X (.BinOp a op (.Constant (.str x) i p) pos) (e2 g f (eK (.str x))) := by
  intro pins s σ H Q I q
  refine wpAny_BinOp (thn (ha.run pins s σ H _ I (r2_of q)) fun v s1 ⟨y, H1, I1, r1, q1⟩ => ?_)
  refine Calls.Constant_str ?_
  obtain ⟨ρ, S, F, he, w, q2⟩ := q1
  have q3 := q2 (.str x) H1 S F No he ⟨emp_no, rfl⟩ (wf_no w) dj_no (fr_no .refl)
  refine wpAny_mono (PySem.wpAny_toks (ho pins { s1 with toks := s1.toks + 1 } σ H1 y (.str x) v _ Q (I1.tok _) r1 ⟨_, rfl⟩ q3)) (fun u s2 z => ⟨Nat.le_trans (Nat.le_add_left 1 _) z.1, z.2⟩) fun _ _ z => z.2
/-- e.replace('y', 'z') -/
theorem det_repl {i1 i2 : Nat} {c0 c1 : Pos} (ho : DE C E X o fe) (hyz : (y == z) = false := by decide)
    (hst : starEach [.Constant (.str y) i1 c0, .Constant (.str z) i2 c1] X.env = [(false, eval (.Constant (.str y) i1 c0) X.env), (false, eval (.Constant (.str z) i2 c1) X.env)] := by rfl)
    (hbase : attributeBase o "replace" X.env (eval o X.env) = eval o X.env := by rfl) (hline : (apos.endLine == pos.line) = true := by rfl) :
    DET C E X (.Call (.Attribute o "replace" apos) [.Constant (.str y) i1 c0, .Constant (.str z) i2 c1] [] pos) (e1 (replG y z) fe) := fun pins s σ H Q h0 I q =>
  CwR.pet_replC ho hyz hst hbase hline pins s σ H Q h0 I (rE_mono (r1_of q) fun v H' ⟨S, d, so, rd, o, eo, q⟩ => by
    unfold replG at eo
    split at eo
    · split at eo
      · next x h =>
        have ex : v = .str x := rd
        have hb : big ≤ 16777216 := by decide
        exact ⟨x, ex, Nat.le_trans h hb, q_sc so q (Option.some.inj eo).symm rfl⟩
      · cases eo
    · cases eo)
end
end G
end

section
set_option maxRecDepth 100000
set_option maxHeartbeats 4000000
open PySem PySem.Spec PyProof.Rows L2
namespace G
/-! try: .. except A | (A, B): raise X(e) from None -/
section
variable {md : Bool} {C : Cn} {P : Fx} {E : WX} {X : Cx} {σ : L2.St} {H H' H1 H2 H0 : Hp} {S S1 S2 S0 S' F F1 F0 A B W : Set'} {ρ : Env'} {e a b o : Expr} {es : List Expr} {pos apos : Pos} {fe fh f h : Fe} {fa ga : Fa} {te : TE} {ta : TA} {pins : List (Addr × Obj)} {s : Shared} {j k n c : Nat} {y z : Str}
theorem fly_grow {B h h' : Heap} {l : List PySem.Env} {a : Addr} {Z : Obj → Prop} (fz : HandSPX.FlyingZ B l a Z h) (g : ∀ c o, h.get? c = some o → h'.get? c = some o) : HandSPX.FlyingZ B l a Z h' := by
  obtain ⟨w1, w2, w3, oe, vs, T, oT, ts, q1, q2, q3, q4, q5, q6, q7, q8, q9⟩ := fz
  exact ⟨fun b o hb => g b o (w1 b o hb), w2, w3.of_keeps fun b o hb _ => ⟨o, g b o hb, rfl⟩, oe, vs, T, oT, ts, g _ _ q1, q2, q3, q4, q5, q6, g _ _ q7, q8, q9⟩
/-- what a clause's test says of an exception's class -/
def TstH (X : Cx) (t : Expr) (mt : Value → Option Bool) : Prop := ∀ (a : Addr) (oe : Obj) (pn pins : List (Addr × Obj)) (σ : L2.St) (H : Hp) (s : Shared) (cls : Value) (b : Bool) (Q : Bool → Shared → Prop) (E : Value → Shared → Prop), Inv (X.suite a ((a, oe) :: pn)) pins σ H s →
  PySem.W.Looks (model X.prog X.w) s.heap (typeOf (.ref a)) cls → mt cls = some b → (∀ h', (∀ c o, s.heap.get? c = some o → h'.get? c = some o) → Q b { s with heap := h' }) →
  wpAny (model X.prog X.w) (X.A.mark (some (.ref a))) (eval t X.env) (fun c s₁ => wpAny (model X.prog X.w) (X.A.mark (some (.ref a))) (excMatches (.ref a) c) Q E s₁) E s
theorem ask_name {x : Str} {c : Value} {p : Pos} {a : Addr} {oe : Obj} {pn : List (Addr × Obj)} {Q : Value → Shared → Prop} {E : Value → Shared → Prop} (I : Inv (X.suite a ((a, oe) :: pn)) pins σ H s) (n : Names X x c) (q : Q c s) : wpAny (model X.prog X.w) (X.A.mark (some (.ref a))) (eval (.Name x p) X.env) Q E s := by
  obtain ⟨g1, g2, hm | ⟨hm, hv, hnn⟩⟩ := n
  · exact ld_glob (X := X.suite a ((a, oe) :: pn)) I g1 hm q g2
  · exact ld_blt (X := X.suite a ((a, oe) :: pn)) I g1 hm hv q hnn g2
theorem tst_one {x : Str} {c : Value} {p : Pos} (n : Names X x c) : TstH X (.Name x p) (fun cls => PySem.W.exmOne X.K cls c) := fun a oe pn pins σ H s cls b Q E I L e q =>
  ask_name I n ((PySem.W.exm_one I.kIn L e).here (q s.heap fun _ _ z => z))
theorem tst_two {x1 x2 : Str} {c1 c2 : Value} {p1 p2 p : Pos} {k : Nat} (n1 : Names X x1 c1) (n2 : Names X x2 c2) : TstH X (.Tuple [.Name x1 p1, .Name x2 p2] k p) (fun cls => PySem.W.exmAny X.K cls [c1, c2]) := fun a oe pn pins σ H s cls b Q E I L e q => by
  refine wpAny_Tuple (wpAny_items_cons (ask_name I n1 (wpAny_items_cons (ask_name I n2 (wpAny_items_nil ⟨by size_fits, ?_⟩)))))
  have g : ∀ q o, s.heap.get? q = some o → (s.heap.push { cls := .type "tuple", data := .seq [c1, c2].toArray }).get? q = some o := fun _ _ z => Heap.get?_push_of_some _ z
  exact (PySem.W.exm_tup2 (I.kIn.keeps g) (L.keeps g) (Heap.get?_push_size s.heap rfl) e).here (q _ g)
theorem tst_three {x1 x2 x3 : Str} {c1 c2 c3 : Value} {p1 p2 p3 p : Pos} {k : Nat} (n1 : Names X x1 c1) (n2 : Names X x2 c2) (n3 : Names X x3 c3) : TstH X (.Tuple [.Name x1 p1, .Name x2 p2, .Name x3 p3] k p) (fun cls => PySem.W.exmAny X.K cls [c1, c2, c3]) := fun a oe pn pins σ H s cls b Q E I L e q => by
  refine wpAny_Tuple (wpAny_items_cons (ask_name I n1 (wpAny_items_cons (ask_name I n2 (wpAny_items_cons (ask_name I n3 (wpAny_items_nil ⟨by size_fits, ?_⟩)))))))
  have g : ∀ q o, s.heap.get? q = some o → (s.heap.push { cls := .type "tuple", data := .seq [c1, c2, c3].toArray }).get? q = some o := fun _ _ z => Heap.get?_push_of_some _ z
  exact (PySem.W.exm_tup3 (I.kIn.keeps g) (L.keeps g) (Heap.get?_push_size s.heap rfl) e).here (q _ g)
def wishH (mt : Value → Option Bool) (ts : TS) (Wo : WX) (D : Ends) : WX := fun cls d σ H => ∃ b, mt cls = some b ∧ (b = true → ts D σ H) ∧ (b = false → Wo cls d σ H)
theorem ps_try_hot {t : Expr} {mt : Value → Option Bool} {body su : List Stmt} {st : Stmt} {p2 : Pos} {tb : WX → TS} {ts : TS} {Wo : WX} (es : X.stack = X.env :: X.outer) (ef : X.env.frame = some X.env.locals) (tk : L2.Takes X Wo) (hpa : ∀ hd : Option Value, PassesOwnAt (model X.prog X.w) (X.A.mark hd) X.A X.env X.xe)
    (hb : ∀ (W : WX) (pn : List (Addr × Obj)) (xe : Value → Shared → Prop), L2N.Takes (X.tr pn xe) W → PassesOwn (model X.prog X.w) X.A X.env xe → PSs (X.tr pn xe) body (tb W)) (ht : TstH X t mt)
    (hq : ∀ (a : Addr) (oe : Obj) (pn : List (Addr × Obj)), L2.Takes (L2H.suiteX X a ((a, oe) :: pn)) Wo → L2H.HotC (L2H.suiteX X a ((a, oe) :: pn)) → PSs (L2H.suiteX X a ((a, oe) :: pn)) (st :: su) ts) :
    PS X (.Try body [.ExceptHandler (some t) none (st :: su) p2] [] [] pos) (fun D σ H => tb (wishH mt ts Wo D) D σ H) := by
  refine ⟨fun pins s σ H D I q0 => ?_⟩
  have ok := I.ok
  have frm : X.A.frames = some (X.env :: X.outer) := by rw [ok.frames, es]
  let caught : Value → Shared → Prop := fun e s₁ => wpAny (model X.prog X.w) X.A (noteFrame e X.env) (fun _ s₂ => wpAny (model X.prog X.w) X.A (setFlight e none) (fun _ s₃ => wpAny (model X.prog X.w) X.A (handleBy e X.env [.ExceptHandler (some t) none (st :: su) p2]) (SP X pins D) X.xe s₃) X.xe s₂) X.xe s₁
  refine wpAny_Try_except (wpAny_mono ((hb (wishH mt ts Wo D) (X.pn ++ pins) caught (fun u s' xx => ?_) PassesOwn.looking).run [] s σ H D (I.toTry _) q0) (fun f s1 hsp => ?_) (fun e s1 he => he))
  · obtain ⟨a, B, sI, pins', σ1, H1, cls, d, rfl, J1, nb, up, sky, na, os, ag, b, w1, wy, wn⟩ := xx
    have J : Inv X pins σ1 H1 sI := J1.ofTry ok
    have sky1 : Sky B (X.env :: X.outer) a (L2N.Zn cls d) X.env.locals s'.heap := by rw [← es]; exact sky
    show wpAny (model X.prog X.w) X.A (noteFrame (.ref a) X.env) _ _ _
    refine L2N.Sky.land L2N.Zn.steady frm ef sky1 fun g3 fz3 uq3 => ?_
    have K3 : Inv X pins σ1 H1 { s' with heap := g3 } := J.landed nb fz3.1 (up.trans uq3) os ag
    have away : ∀ {B h : Heap}, HandSPX.FlyingZ B (X.env :: X.outer) a (L2N.Zn cls d) h → ∃ oe vs, h.get? a = some oe ∧ L2N.Zn cls d oe ∧ oe.data = .fields vs ∧ a ≠ X.env.locals ∧ a ∉ X.fs := fun {B h} fz => by
      obtain ⟨oe, vs, q1, q2, q3⟩ := fz.there
      have outF : a ∉ frs (X.env :: X.outer) := fun hm => by
        obtain ⟨_, o', e', hnf⟩ := fz.2.2.1.mem hm
        rw [q1] at e'; cases e'
        exact hnf _ q3
      refine ⟨oe, vs, q1, q2, q3, fun z => outF (List.mem_filterMap.mpr ⟨X.env, List.mem_cons_self, by rw [ef, z]⟩), fun hm => ?_⟩
      obtain ⟨e, he, q⟩ := List.mem_filterMap.mp hm
      exact outF (List.mem_filterMap.mpr ⟨e, List.mem_cons_of_mem _ he, q⟩)
    obtain ⟨x3, v3, at3, z3, dat3, nL3, nF3⟩ := away fz3
    have SU := K3.suite at3 dat3 na nL3 nF3
    have kind : PySem.W.Looks (model X.prog X.w) g3 (typeOf (.ref a)) cls := fun A Q E s k q => wpAny_typeOf_ref (k _ _ at3) (by rw [z3.1]; exact q)
    refine wpAny_handleBy_cons (codeAny_handlers_test (ht a x3 (X.pn ++ pins) [] σ1 H1 { s' with heap := g3 } cls b _ _ SU kind w1 fun g4 kp => ?_)) (by intro q; cases q)
    have fz4 := fly_grow fz3 kp
    have uq4 : g3.UpToSlots g4 := fun b o hb _ => ⟨o.slots, kp b o hb⟩
    cases b with
    | false =>
      refine wpAny_handleBy_nil ?_
      obtain ⟨_, _, _, oe, vs, T, oT, _, he, hz, hd, h1, _⟩ := id fz4
      unfold PySem.passOn
      refine wpAny_bind (wpAny_field he hd h1 ?_)
      rw [if_neg (by simp : ¬ ((Value.ref T == Value.none) = true))]
      have zc : HandSPX.FlyingZ B (X.env :: X.outer) a (Zc cls d) g4 := L2H.flyingZ_imp (fun o z => z.zc) fz4
      have fin : wpAny (model X.prog X.w) X.A (setFlight (.ref a) X.env.frame) (fun _ s4 => wpAny (model X.prog X.w) X.A (throw (.ref a) : Sem Flow) (SP X pins D) X.xe s4) X.xe { s' with heap := g4 } := by
        rw [ef]
        refine HandSPX.setFlight_upZ zc fun g5 hh5 uq5 => wpAny_throw (tk _ _ ⟨a, B, sI, pins, σ1, H1, cls, d, rfl, J, nb, (((up.trans uq3).trans uq4).trans uq5), .inr (.inr (by rw [es]; exact hh5)), na, os, ag, wn rfl⟩)
      first
        | exact wpAny_bind (wpAny_pure (wpAny_bind fin))
        | exact wpAny_bind fin
    | true =>
      refine codeAny_handlers_suite (HandSPX.lands_againZ fz4 fun g5 fz5 uq5 => ?_)
      have K5 : Inv X pins σ1 H1 { s' with heap := g5 } := J.landed nb fz5.1 (((up.trans uq3).trans uq4).trans uq5) os ag
      obtain ⟨x5, v5, at5, z5, dat5, nL5, nF5⟩ := away fz5
      have tkS : L2.Takes (L2H.suiteX X a ((a, x5) :: (X.pn ++ pins))) Wo := fun u2 s2 ⟨a2, B2, sI2, pn2, σ2, H2, cls2, d2, e2, I2, r2⟩ => tk u2 s2 ⟨a2, B2, sI2, pins, σ2, H2, cls2, d2, e2, L2H.unsuiteX I2 ok, r2⟩
      have hot : L2H.HotC (L2H.suiteX X a ((a, x5) :: (X.pn ++ pins))) := ⟨(a, x5), ⟨rfl, v5, dat5, z5.2.2 v5 dat5⟩, List.mem_cons_self⟩
      refine wpAny_mono ((hq a x5 (X.pn ++ pins) tkS hot).run [] _ _ H1 _ (L2H.suiteX_of (K5.suite at5 dat5 na nL5 nF5)) (wy rfl)) (fun f s6 hsp => ?_) (fun e6 s6 z => hpa (some (.ref a)) e6 s6 z)
      cases f with
      | ret u => obtain ⟨v6, σ6, H6, S6, r6, q6⟩ := hsp; exact ⟨_, _, _, L2H.unsuiteX S6 ok, r6, q6⟩
      | next => obtain ⟨σ6, H6, S6, q6⟩ := hsp; exact ⟨_, _, L2H.unsuiteX S6 ok, q6⟩
      | brk => obtain ⟨σ6, H6, S6, q6⟩ := hsp; exact ⟨_, _, L2H.unsuiteX S6 ok, q6⟩
      | cont => obtain ⟨σ6, H6, S6, q6⟩ := hsp; exact ⟨_, _, L2H.unsuiteX S6 ok, q6⟩
  · cases f with
    | ret u =>
      obtain ⟨v, σ1, H1, J1, r, q⟩ := hsp
      exact ⟨v, σ1, H1, J1.ofTry ok, r, q⟩
    | next => obtain ⟨σ1, H1, J1, q⟩ := hsp; exact wpAny_execs_nil ⟨σ1, H1, J1.ofTry ok, q⟩
    | brk => obtain ⟨σ1, H1, J1, q⟩ := hsp; exact ⟨σ1, H1, J1.ofTry ok, q⟩
    | cont => obtain ⟨σ1, H1, J1, q⟩ := hsp; exact ⟨σ1, H1, J1.ofTry ok, q⟩
end
end G
end

section
set_option maxRecDepth 100000
set_option maxHeartbeats 4000000
open PySem PySem.Spec PyProof.Rows L2
namespace G
/-! the same over data -/
def sTryH (b : Fs) (m : Nat → Bool) (fx : Env' → Out Xn) : Fs := fun ρ => match b ρ with
  | .exc x ρ1 => if m x.cls = true then (match fx ρ1 with
    | .ok y ρ2 => .exc y ρ2
    | _ => .bad) else .exc x ρ1
  | r => r
section
variable {md : Bool} {C : Cn} {P : Fx} {E : WX} {X : Cx} {σ : L2.St} {H H' H1 H2 H0 : Hp} {S S1 S2 S0 S' F F1 F0 A B W : Set'} {ρ : Env'} {e a b o : Expr} {es : List Expr} {pos apos : Pos} {fe fh f h : Fe} {fa ga : Fa} {te : TE} {ta : TA} {pins : List (Addr × Obj)} {s : Shared} {j k n c : Nat} {y z : Str}
theorem ds_tryH {t : Expr} {mt : Value → Option Bool} {body : List Stmt} {p2 p3 p4 : Pos} {i : Nat} {b : Fs} {m : Nat → Bool} {fx : Env' → Out Xn} (bx : Bx false C j X E) (ht : TstH X t mt) (hm : ∀ n, mt (C.ecl n) = some (m n))
    (hb : ∀ (W : WX) (pn : List (Addr × Obj)) (xe : Value → Shared → Prop), Bx true C j (X.tr pn xe) W → PassesOwn (model X.prog X.w) X.A X.env xe → DSs C P W (X.tr pn xe) body b)
    (hx : ∀ (a : Addr) (oe : Obj) (pn : List (Addr × Obj)), DX5 C Ef (L2H.suiteX X a ((a, oe) :: pn)) e fx)
    (hpa : ∀ hd : Option Value, PassesOwnAt (model X.prog X.w) (X.A.mark hd) X.A X.env X.xe := by exact fun hd => L2H.passesAt_of rfl hd)
    (hs : X.stack = X.env :: X.outer := by rfl) (hf : X.env.frame = some X.env.locals := by rfl) :
    DS C P E X (.Try body [.ExceptHandler (some t) none [.Raise (some e) (some (.Constant .none i p3)) p4] p2] [] [] pos) (sTryH b m fx) := by
  refine ps_imp (ps_try_hot (Wo := E) (tb := fun W => rS C P W b) hs hf bx.tk hpa (fun W pn xe tkN po => hb W pn xe (Bx.tr ⟨bx.ok, takesM_no, bx.rm⟩ tkN) po) ht (fun a oe pn tk hot => pss_one (L2H.ps_raiseHN hot tk (hx a oe pn)))) fun D σ H ⟨ρ, S, F, he, w, p, q⟩ => ⟨ρ, S, F, he, w, p, ?_⟩
  unfold sTryH at q
  cases eb : b ρ with
  | exc x ρ1 =>
    rw [eb] at q
    intro cc d σ1 H1 S1 F1 he1 w1 p1 fr1 rx
    refine ⟨m x.cls, by rw [rx.1]; exact hm x.cls, fun hmt => ?_, fun hmf => ?_⟩
    · simp only [hmt, if_true] at q
      refine ⟨ρ1, S1, F1, he1, w1, ?_⟩
      cases ef : fx ρ1 with
      | bad => rw [ef] at q; exact q
      | exc x' ρ' => rw [ef] at q; exact q.elim
      | ok x' ρ' => rw [ef] at q; exact fun c2 d2 H2 S2 F2 he2 w2 fr2 rx2 => q c2 d2 σ1 H2 S2 F2 he2 w2 p1 (fr1.trans fr2) rx2
    · simp only [hmf, Bool.false_eq_true, if_false] at q
      exact q cc d σ1 H1 S1 F1 he1 w1 p1 fr1 rx
  | _ => rw [eb] at q; exact q
end
end G
end

section
set_option maxRecDepth 100000
set_option maxHeartbeats 4000000
open PySem PySem.Spec PyProof.Rows L2 ClX
namespace G
/-! the text's classes, bundled -/
def clsBody : Stmt → List Stmt
  | .ClassDef _ _ _ b _ _ _ _ _ _ _ => b
  | _ => []
structure MkT (K : PySem.W.Frag) (C : Cn) (c : Nat) (qual : Str) (st : Stmt) (ps : List Str) : Prop where
  ex : ∃ (f : Addr) (fd : FuncData), Mk K (C.cls c) f ∧ Fun K "__init__" qual st f fd ∧ Binds K fd ps []
structure PrT (K : PySem.W.Frag) (C : Cn) (c : Nat) (m qual : Str) (st : Stmt) (ps : List Str) : Prop where
  ex : SlX.SCls K (C.cls c) ∧ ∃ (p a : Addr) (fd : FuncData), PySem.W.findIn K (.ref (C.cls c)) m = some (some (.ref p)) ∧ PySem.W.specialIn K (.ref p) "__get__" = some (some (.builtin "property.__get__")) ∧ PySem.W.takesIn K (.ref p) = some true ∧
    (∃ rest, PySem.W.recIn K p "property" = some (.ref a :: rest)) ∧ Fun K m qual st a fd ∧ Binds K fd ps []
structure MeT (K : PySem.W.Frag) (C : Cn) (c : Nat) (m qual : Str) (st : Stmt) (ps : List Str) : Prop where
  ex : SlX.SCls K (C.cls c) ∧ ∃ (f : Addr) (fd : FuncData), Meth K (C.cls c) m f ∧ Fun K m qual st f fd ∧ Binds K fd ps []
structure CmT (K : PySem.W.Frag) (C : Cn) (c : Nat) (m qual : Str) (st : Stmt) (ps : List Str) : Prop where
  ex : ∃ (mc : Value) (p f : Addr) (fd : FuncData), CRead K (C.cls c) mc ∧ CMet K (C.cls c) mc m p f ∧ Fun K m qual st f fd ∧ Binds K fd ps []
structure EqT (K : PySem.W.Frag) (C : Cn) (c : Nat) (qual : Str) (st : Stmt) (ps : List Str) : Prop where
  ex : (∃ (f : Addr) (fd : FuncData), PySem.W.findIn K (.ref (C.cls c)) "__eq__" = some (some (.ref f)) ∧ PySem.W.isFn K (.ref f) = true ∧ Fun K "__eq__" qual st f fd ∧ Binds K fd ps []) ∧
    PySem.W.findIn K (.ref (C.cls c)) "__ne__" = some (some (.builtin "object.__ne__")) ∧ PySem.W.subIn K (.ref (C.cls c)) (.type "object") = some true ∧ (∀ t ∈ baseTs, PySem.W.notFirst K (C.cls c) (.type t) = true) ∧ ∀ c', PySem.W.notFirst K (C.cls c) (.ref (C.cls c')) = true
structure LnT (K : PySem.W.Frag) (C : Cn) (c : Nat) (qual : Str) (st : Stmt) (ps : List Str) : Prop where
  ex : ∃ (f : Addr) (fd : FuncData), PySem.W.findIn K (.ref (C.cls c)) "__len__" = some (some (.ref f)) ∧ PySem.W.isFn K (.ref f) = true ∧ Fun K "__len__" qual st f fd ∧ Binds K fd ps []
structure SrT (K : PySem.W.Frag) (C : Cn) (c : Nat) (qual : Str) (st : Stmt) (ps : List Str) : Prop where
  ex : (∃ (f : Addr) (fd : FuncData), PySem.W.findIn K (.ref (C.cls c)) "__str__" = some (some (.ref f)) ∧ PySem.W.isFn K (.ref f) = true ∧ Fun K "__str__" qual st f fd ∧ Binds K fd ps []) ∧
    PySem.W.findIn K (.ref (C.cls c)) "__format__" = some (some (.builtin "object.__format__")) ∧ PySem.W.mroIn K (C.cls c) (.type "object") = some true
/-- of one class -/
def one (c0 : Nat) (g : Fn) : Nat → Option Fn := fun c => if c = c0 then some g else none
theorem one_eq {c0 c : Nat} {g g' : Fn} (h : one c0 g c = some g') : c = c0 ∧ g' = g := by
  unfold one at h
  split at h
  · next e => exact ⟨e, (Option.some.inj h).symm⟩
  · cases h
section
variable {md : Bool} {C : Cn} {P : Program} {w : World} {K : PySem.W.Frag} {mg : Str → Option Value} {base : Heap} {k c : Nat} {m qual x : Str} {st : Stmt} {N ps : List Str} {ks : List Bool} {body : Fs}
theorem fr_def {f : Addr} {fd : FuncData} (Fd : Fun K x qual st f fd) (hbn : Binds K fd ps []) (hK : K = C.K) (Sc : FnScope N ps (defScope st)) (hk : ks.length = ps.length)
    (hb : ∀ (f : Addr) (cdv : Value) (A : Around) (outer : List PySem.Env) (s : Shared) (H : Hp) (E : XK) (σ0 : L2.St), Bx md C k (cxOf (CXm md P w) P w K mg base N qual (defScope st) f cdv A outer s H E) (fun c d _ H => E c d H) →
      DSs C ⟨piOf ks 0, σ0⟩ (fun c d _ H => E c d H) (cxOf (CXm md P w) P w K mg base N qual (defScope st) f cdv A outer s H E) (defBody st) body) :
    FnR P w K mg base (CXm md P w) (k + 1) f (spD C ps.length (fnG N.length ks body)) := by
  refine ((fn_def (md := md) (C := C) (P := P) (w := w) (mg := mg) (base := base) Fd Sc hk fun cdv A outer s H E σ0 hr => hb f cdv A outer s H E σ0 (Bx.def hK Sc.nd hr)).raw hbn .nil).imp fun vs H Q E q => ?_
  show spD C ps.length _ (vs ++ []) H Q E
  rw [List.append_nil]
  exact q
theorem ctr_def (d : MkT K C c qual st ps) (hK : K = C.K) (Sc : FnScope N ps (defScope st)) (hk : ks.length = ps.length)
    (hb : ∀ (f : Addr) (cdv : Value) (A : Around) (outer : List PySem.Env) (s : Shared) (H : Hp) (E : XK) (σ0 : L2.St), Bx md C k (cxOf (CXm md P w) P w K mg base N qual (defScope st) f cdv A outer s H E) (fun c d _ H => E c d H) →
      DSs C ⟨piOf ks 0, σ0⟩ (fun c d _ H => E c d H) (cxOf (CXm md P w) P w K mg base N qual (defScope st) f cdv A outer s H E) (defBody st) body) :
    Ctr md P w K mg base C (k + 1) c ps.length (fnG N.length ks body) := by
  obtain ⟨f, fd, M, Fd, hbn⟩ := d.ex
  exact ⟨f, fd, ps, M, rfl, fn_def (md := md) Fd Sc hk fun cdv A outer s H E σ0 hr => hb f cdv A outer s H E σ0 (Bx.def hK Sc.nd hr), hbn⟩
theorem prp_def (d : PrT K C c m qual st ["self"]) (hK : K = C.K) (Sc : FnScope N ["self"] (defScope st)) (hk : ks.length = 1)
    (hb : ∀ (f : Addr) (cdv : Value) (A : Around) (outer : List PySem.Env) (s : Shared) (H : Hp) (E : XK) (σ0 : L2.St), Bx md C k (cxOf (CXm md P w) P w K mg base N qual (defScope st) f cdv A outer s H E) (fun c d _ H => E c d H) →
      DSs C ⟨piOf ks 0, σ0⟩ (fun c d _ H => E c d H) (cxOf (CXm md P w) P w K mg base N qual (defScope st) f cdv A outer s H E) (defBody st) body) :
    Prp md P w K mg base C (k + 1) m (one c (fnG N.length ks body)) := by
  obtain ⟨hc, p, a, fd, h1, h2, h3, h4, Fd, hbn⟩ := d.ex
  refine ⟨fun c' g e => ?_⟩
  obtain ⟨rfl, rfl⟩ := one_eq e
  exact ⟨hc, p, a, h1, h2, h3, h4, fr_def (md := md) (ps := ["self"]) Fd hbn hK Sc hk hb⟩
theorem mth_def (d : MeT K C c m qual st ps) (hK : K = C.K) (Sc : FnScope N ps (defScope st)) (hk : ks.length = ps.length)
    (hb : ∀ (f : Addr) (cdv : Value) (A : Around) (outer : List PySem.Env) (s : Shared) (H : Hp) (E : XK) (σ0 : L2.St), Bx md C k (cxOf (CXm md P w) P w K mg base N qual (defScope st) f cdv A outer s H E) (fun c d _ H => E c d H) →
      DSs C ⟨piOf ks 0, σ0⟩ (fun c d _ H => E c d H) (cxOf (CXm md P w) P w K mg base N qual (defScope st) f cdv A outer s H E) (defBody st) body) :
    Mth md P w K mg base C (k + 1) m ps.length (one c (fnG N.length ks body)) := by
  obtain ⟨hc, f, fd, h1, Fd, hbn⟩ := d.ex
  refine ⟨fun c' g e => ?_⟩
  obtain ⟨rfl, rfl⟩ := one_eq e
  exact ⟨hc, f, h1, fr_def (md := md) Fd hbn hK Sc hk hb⟩
theorem cmt_def (d : CmT K C c m qual st ps) (hK : K = C.K) (Sc : FnScope N ps (defScope st)) (hk : ks.length = ps.length)
    (hb : ∀ (f : Addr) (cdv : Value) (A : Around) (outer : List PySem.Env) (s : Shared) (H : Hp) (E : XK) (σ0 : L2.St), Bx md C k (cxOf (CXm md P w) P w K mg base N qual (defScope st) f cdv A outer s H E) (fun c d _ H => E c d H) →
      DSs C ⟨piOf ks 0, σ0⟩ (fun c d _ H => E c d H) (cxOf (CXm md P w) P w K mg base N qual (defScope st) f cdv A outer s H E) (defBody st) body) :
    Cmt md P w K mg base C (k + 1) c m ps.length (fnG N.length ks body) := by
  obtain ⟨mc, p, f, fd, h1, h2, Fd, hbn⟩ := d.ex
  exact ⟨mc, p, f, h1, h2, fr_def (md := md) Fd hbn hK Sc hk hb⟩
theorem eqo_def (d : EqT K C c qual st ps) (hK : K = C.K) (Sc : FnScope N ps (defScope st)) (hk : ks.length = ps.length) (h2 : ps.length = 2)
    (hb : ∀ (f : Addr) (cdv : Value) (A : Around) (outer : List PySem.Env) (s : Shared) (H : Hp) (E : XK) (σ0 : L2.St), Bx md C k (cxOf (CXm md P w) P w K mg base N qual (defScope st) f cdv A outer s H E) (fun c d _ H => E c d H) →
      DSs C ⟨piOf ks 0, σ0⟩ (fun c d _ H => E c d H) (cxOf (CXm md P w) P w K mg base N qual (defScope st) f cdv A outer s H E) (defBody st) body) :
    EqO md P w K mg base C (k + 1) (one c (fnG N.length ks body)) := by
  obtain ⟨⟨f, fd, h1, h3, Fd, hbn⟩, h4, h5, h6, h7⟩ := d.ex
  refine ⟨fun c' g e => ?_⟩
  obtain ⟨rfl, rfl⟩ := one_eq e
  exact ⟨⟨f, h1, h3, by rw [← h2]; exact fr_def (md := md) Fd hbn hK Sc hk hb⟩, h4, h5, h6, h7⟩
theorem lno_def (d : LnT K C c qual st ["self"]) (hK : K = C.K) (Sc : FnScope N ["self"] (defScope st)) (hk : ks.length = 1)
    (hb : ∀ (f : Addr) (cdv : Value) (A : Around) (outer : List PySem.Env) (s : Shared) (H : Hp) (E : XK) (σ0 : L2.St), Bx md C k (cxOf (CXm md P w) P w K mg base N qual (defScope st) f cdv A outer s H E) (fun c d _ H => E c d H) →
      DSs C ⟨piOf ks 0, σ0⟩ (fun c d _ H => E c d H) (cxOf (CXm md P w) P w K mg base N qual (defScope st) f cdv A outer s H E) (defBody st) body) :
    LenO md P w K mg base C (k + 1) (one c (fnG N.length ks body)) := by
  obtain ⟨f, fd, h1, h3, Fd, hbn⟩ := d.ex
  refine ⟨fun c' g e => ?_⟩
  obtain ⟨rfl, rfl⟩ := one_eq e
  exact ⟨f, h1, h3, fr_def (md := md) (ps := ["self"]) Fd hbn hK Sc hk hb⟩
theorem sro_def (d : SrT K C c qual st ["self"]) (hK : K = C.K) (Sc : FnScope N ["self"] (defScope st)) (hk : ks.length = 1)
    (hb : ∀ (f : Addr) (cdv : Value) (A : Around) (outer : List PySem.Env) (s : Shared) (H : Hp) (E : XK) (σ0 : L2.St), Bx md C k (cxOf (CXm md P w) P w K mg base N qual (defScope st) f cdv A outer s H E) (fun c d _ H => E c d H) →
      DSs C ⟨piOf ks 0, σ0⟩ (fun c d _ H => E c d H) (cxOf (CXm md P w) P w K mg base N qual (defScope st) f cdv A outer s H E) (defBody st) body) :
    StrO md P w K mg base C (k + 1) (one c (fnG N.length ks body)) := by
  obtain ⟨⟨f, fd, h1, h3, Fd, hbn⟩, h4, h5⟩ := d.ex
  refine ⟨fun c' g e => ?_⟩
  obtain ⟨rfl, rfl⟩ := one_eq e
  exact ⟨⟨f, h1, h3, fr_def (md := md) (ps := ["self"]) Fd hbn hK Sc hk hb⟩, h4, h5⟩
theorem kit_of_sub {t : Value} {D : Addr} {b : Bool} (h1 : PySem.W.isClsIn K D = true) (h2 : PySem.W.typeIn K (.ref D) = some (.type "type")) (h3 : PySem.W.subIn K t (.ref D) = some b) (h4 : (t == .ref D) = true → b = true) : PySem.W.kitOne K t (.ref D) = some b := by
  unfold PySem.W.kitOne
  cases e : (t == .ref D) with
  | true => rw [if_pos rfl, h4 e]
  | false =>
    rw [if_neg Bool.false_ne_true]
    show (if ((PySem.W.clsIn K D).isSome && PySem.W.typeIn K (.ref D) == some (.type "type")) = true then PySem.W.subIn K t (.ref D) else none) = some b
    rw [if_pos, h3]
    rw [show (PySem.W.clsIn K D).isSome = true from h1, h2] <;> rfl
theorem all_base {p : String → Prop} (h1 : p "NoneType") (h2 : p "bool") (h3 : p "int") (h4 : p "str") (h5 : p "tuple") (h6 : p "list") (h7 : p "dict") : ∀ t ∈ baseTs, p t := by
  intro t ht
  simp only [baseTs, List.mem_cons, List.not_mem_nil, or_false] at ht
  rcases ht with rfl | rfl | rfl | rfl | rfl | rfl | rfl <;> assumption
end
section
variable {md : Bool} {C : Cn} {P : Fx} {E : WX} {X : Cx} {e a : Expr} {es : List Expr} {pos : Pos} {f : Fe} {j k n : Nat}
/-- X(e), to be raised within a suite -/
theorem dx_sp5 {x p : Str} {p1 : Pos} {aa : Addr} {oe : Obj} {pn : List (Addr × Obj)} (o : SupX X.prog X.K X.mg C x p n) (b : Bx md C j X E) (ha : DE C Ef (L2H.suiteX X aa ((aa, oe) :: pn)) a f) (hg : Gl X x := by rfl) (hdb : (x == ("__debug__" : Str)) = false := by decide)
    (he : starEach (a :: []) X.env = (false, eval a X.env) :: starEach [] X.env := by rfl) (hpl : (backTo pos (starEach [] X.env)).any (·.1) = false := by rfl) : DX5 C Ef (L2H.suiteX X aa ((aa, oe) :: pn)) (.Call (.Name x p1) [a] [] pos) (eSup n f) := by
  obtain ⟨Cl, fI, Bt, newId, initId, bmB, h1, h2, h3, h4, h5, h6⟩ := o.ex
  exact dx5_sup (X := L2H.suiteX X aa ((aa, oe) :: pn)) h1 h2 h3 h4 h5 h6 (by have := b.rm.dp; show X.A.depth + 1 < recursionLimit; omega) ha hg hdb he hpl
theorem ds_trH1 {x : Str} {m : Nat → Bool} {body : List Stmt} {np p2 p3 p4 : Pos} {i : Nat} {b : Fs} {fx : Env' → Out Xn} (bx : Bx false C j X E) (h : Hnd X.K X.mg C x m)
    (hb : ∀ (W : WX) (pn : List (Addr × Obj)) (xe : Value → Shared → Prop), Bx true C j (X.tr pn xe) W → PassesOwn (model X.prog X.w) X.A X.env xe → DSs C P W (X.tr pn xe) body b)
    (hx : ∀ (a : Addr) (oe : Obj) (pn : List (Addr × Obj)), DX5 C Ef (L2H.suiteX X a ((a, oe) :: pn)) e fx) (hg : Gl X x := by rfl) (hdb : (x == ("__debug__" : Str)) = false := by decide)
    (hpa : ∀ hd : Option Value, PassesOwnAt (model X.prog X.w) (X.A.mark hd) X.A X.env X.xe := by exact fun hd => L2H.passesAt_of rfl hd) (hs : X.stack = X.env :: X.outer := by rfl) (hf : X.env.frame = some X.env.locals := by rfl) :
    DS C P E X (.Try body [.ExceptHandler (some (.Name x np)) none [.Raise (some e) (some (.Constant .none i p3)) p4] p2] [] [] pos) (sTryH b m fx) := by
  obtain ⟨c, h1, h2⟩ := h.ex
  exact ds_tryH bx (tst_one ⟨hg, hdb, .inl h1⟩) h2 hb hx hpa hs hf
theorem any_two {K : PySem.W.Frag} {cls c1 c2 : Value} {b1 b2 : Bool} (h1 : PySem.W.exmOne K cls c1 = some b1) (h2 : PySem.W.exmOne K cls c2 = some b2) : PySem.W.exmAny K cls [c1, c2] = some (b1 || b2) := by
  simp [PySem.W.exmAny, h1, h2]
theorem any_three {K : PySem.W.Frag} {cls c1 c2 c3 : Value} {b1 b2 b3 : Bool} (h1 : PySem.W.exmOne K cls c1 = some b1) (h2 : PySem.W.exmOne K cls c2 = some b2) (h3 : PySem.W.exmOne K cls c3 = some b3) : PySem.W.exmAny K cls [c1, c2, c3] = some (b1 || (b2 || b3)) := by
  simp [PySem.W.exmAny, h1, h2, h3]
theorem ds_trH2 {x1 x2 : Str} {m1 m2 : Nat → Bool} {body : List Stmt} {np1 np2 np p2 p3 p4 : Pos} {i kk : Nat} {b : Fs} {fx : Env' → Out Xn} (bx : Bx false C j X E) (h : Hnd X.K X.mg C x1 m1) (h' : Hnd X.K X.mg C x2 m2)
    (hb : ∀ (W : WX) (pn : List (Addr × Obj)) (xe : Value → Shared → Prop), Bx true C j (X.tr pn xe) W → PassesOwn (model X.prog X.w) X.A X.env xe → DSs C P W (X.tr pn xe) body b)
    (hx : ∀ (a : Addr) (oe : Obj) (pn : List (Addr × Obj)), DX5 C Ef (L2H.suiteX X a ((a, oe) :: pn)) e fx) (hg : Gl X x1 := by rfl) (hdb : (x1 == ("__debug__" : Str)) = false := by decide) (hg2 : Gl X x2 := by rfl) (hdb2 : (x2 == ("__debug__" : Str)) = false := by decide)
    (hpa : ∀ hd : Option Value, PassesOwnAt (model X.prog X.w) (X.A.mark hd) X.A X.env X.xe := by exact fun hd => L2H.passesAt_of rfl hd) (hs : X.stack = X.env :: X.outer := by rfl) (hf : X.env.frame = some X.env.locals := by rfl) :
    DS C P E X (.Try body [.ExceptHandler (some (.Tuple [.Name x1 np1, .Name x2 np2] kk np)) none [.Raise (some e) (some (.Constant .none i p3)) p4] p2] [] [] pos) (sTryH b (fun n => m1 n || m2 n) fx) := by
  obtain ⟨c1, h1, h2⟩ := h.ex
  obtain ⟨c2, h3, h4⟩ := h'.ex
  exact ds_tryH bx (tst_two ⟨hg, hdb, .inl h1⟩ ⟨hg2, hdb2, .inl h3⟩) (fun n => any_two (h2 n) (h4 n)) hb hx hpa hs hf
end
end G
end

section
set_option maxRecDepth 100000
set_option maxHeartbeats 4000000
open PySem PySem.Spec PyProof.Rows L2 G
namespace Kx
noncomputable section
def top (i : Nat) : Stmt := PySem.Challenge.pw_groupclocks_k05_actions_and_their_lines.main.body.getD i (.Pass ⟨0, 0, 0, 0⟩)
def h_InvalidAction : Nat → Bool := fun n => match n with | 0 => false | 1 => true | _ => false
def h_InvalidName : Nat → Bool := fun n => match n with | 0 => true | 1 => false | _ => false
def h_ParseError : Nat → Bool := fun n => match n with | 0 => false | 1 => false | _ => true
abbrev s__law_met : Stmt := top 22
def hs__law_met : Hds := [(h_ParseError, sayR ("parse " : Str)), (h_InvalidName, sayD (sO ("name" : Str))), (h_InvalidAction, sayD (sO ("action" : Str)))]
def fin__law_met : Option Str := some ("fine" : Str)
def gs_own_called : Nat → Option Nat := fun c => if c = 0 then some 0 else none
def gs_own_moves : Nat → Option Nat := fun c => if c = 0 then some 1 else none
def is_Action : Nat → Bool := fun c => match c with  | _ => true
abbrev s__law_tape : Stmt := top 14
def b__law_tape : Fs := (sSeq (sSet 2 (eIf (eB (e2 gLt (eVar 1) (eN lenG (eCons (eVar 0) eNil)))) (e2 itemG (eVar 0) (eVar 1)) (e2 addG (e2 mulG (eK (.int 83)) (eVar 1)) (eK (.int 17)))))
  (sSeq (sSet 3 (e2 modG (eN intG (eCons (eN absG (eCons (eVar 2) eNil)) eNil)) (e2 powG (e2 powG (eK (.int 10)) (eK (.int 57))) (eK (.int 10)))))
  (sSeq (sSet 4 (e2 addG (e2 addG (e2 addG (e2 mulG (eVar 3) (eK (.int 1000193))) (e2 mulG (eK (.int 8221)) (eVar 1))) (e2 mulG (eK (.int 41)) (eN intG (eCons (e2 gLt (eVar 2) (eK (.int 0))) eNil)))) (eK (.int 5))))
  (sRet (eLst (eCons (eN maxG (eCons (eK (.int 0)) (eCons (e2 subG (eVar 3) (e2 powG (eK (.int 10)) (eK (.int 18)))) eNil))) (eCons (e2 modG (eN intG (eCons (eVar 4) eNil)) (eK (.int 2305843009213693907))) (eCons (eK (.int 0)) eNil))))))))
def f__law_tape : Fn := fnG 5 [false, false] b__law_tape
abbrev s__law_roll : Stmt := top 15
def b__law_roll : Fs := (sSeq (sIf (eB (e2 gGt (eItemO 0 (eK (.int 0))) (eK (.int 0))))
  (sSeq (sSet 2 (e2 modG (eN intG (eCons (eItemO 0 (eK (.int 0))) eNil)) (eVar 1)))
  (sSeq (sPutI 0 (eK (.int 0)) (e2 fdivG (eItemO 0 (eK (.int 0))) (eVar 1)))
  (sRet (eVar 2))))
  sNil)
  (sSeq (sPutI 0 (eK (.int 2)) (e2 addG (eItemO 0 (eK (.int 2))) (eK (.int 1))))
  (sSeq (sSet 3 (e2 modG (eN intG (eCons (e2 addG (eItemO 0 (eK (.int 1))) (e2 mulG (eK (.int 900107)) (eItemO 0 (eK (.int 2))))) eNil)) (eK (.int 2305843009213693951))))
  (sSeq (sSet 4 (e2 addG (e2 mulG (e2 modG (eN intG (eCons (e2 mulG (eVar 3) (eVar 3)) eNil)) (eK (.int 1152921504606846883))) (eVar 3)) (e2 mulG (eK (.int 7919)) (eItemO 0 (eK (.int 2))))))
  (sRet (e2 modG (eN intG (eCons (e2 fdivG (e2 modG (eN intG (eCons (e2 addG (eVar 4) (eItemO 0 (eK (.int 1)))) eNil)) (eK (.int 4398046511093))) (eK (.int 32))) eNil)) (eVar 1)))))))
def f__law_roll : Fn := fnG 5 [true, false] b__law_roll
abbrev s__law_pick : Stmt := top 16
def b__law_pick : Fs := (sRet (e2 itemG (eVar 1) (eCall f__law_roll [some 0, none] (eLend 0 (eCons (eN lenG (eCons (eVar 1) eNil)) eNil)))))
def f__law_pick : Fn := fnG 2 [true, false] b__law_pick
abbrev s__law_few : Stmt := top 17
def b__law_few : Fs := (sSeq (sPar 3 4 (eCons (eN listG (eCons (eVar 1) eNil)) (eCons (eLst eNil) eNil)))
  (sSeq (sWhile (tAn (eB (e2w 3 gNe (eLst eNil))) (eB (e2 gLt (e1l lenG (vVar 4)) (eVar 2))))
  (sExpr (eApp 4 (ePopA 3 (eCall f__law_roll [some 0, none] (eLend 0 (eCons (e1l lenG (vVar 3)) eNil)))))))
  (sRet (eMove 4))))
def f__law_few : Fn := fnG 5 [true, false, false] b__law_few
abbrev s__law_word_drawn : Stmt := top 18
def b__law_word_drawn : Fs := (sSeq (sSet 1 (eCall f__law_pick [some 0, none] (eLend 0 (eCons (eLst (eCons (eK (.int 1)) (eCons (eK (.int 1)) (eCons (eK (.int 2)) (eCons (eK (.int 3)) (eCons (eK (.int 5)) (eCons (eK (.int 8)) eNil))))))) eNil))))
  (sRet (eMs joinG (eK (.str ("" : Str))) (eCons (eLc (iRng1 (eVar 1)) (tN 2) ttY (eCall f__law_pick [some 0, none] (eLend 0 (eCons (eK (.str ("abcdefghijklmnopqrstuvwxyz" : Str))) eNil))) [2]) eNil))))
def f__law_word_drawn : Fn := fnG 3 [true] b__law_word_drawn
abbrev s__law_action_line : Stmt := top 20
def b__law_action_line : Fs := (sRet (e2 addG (e2 addG (eVar 0) (eK (.str (" " : Str)))) (eMs joinG (eK (.str (", " : Str))) (eCons (eLc (iSeq (eN sortedG (eCons (eVar 1) eNil))) (tN 2) ttY (eMs joinG (eK (.str (" " : Str))) (eCons (eVar 2) eNil)) [2]) eNil))))
def f__law_action_line : Fn := fnG 3 [false, false] b__law_action_line
abbrev s__law_words_drawn : Stmt := top 19
def b__law_words_drawn : Fs := (sSeq (sSet 2 (eLst eNil))
  (sSeq (sFor (iRng1 (eVar 1)) (tN 3)
  (sSeq (sSet 4 (eCall f__law_word_drawn [some 0] (eLend 0 eNil)))
  (sSeq (sSet 5 (eLc (iSeq (eK (.str ("abcdefghijklmnopqrstuvwxyz" : Str)))) (tN 6) (eB (e2v gNin (eVar 6) (vVar 2))) (eVar 6) [6]))
  (sExpr (eApp 2 (eIf (eB (e2v gNin (eVar 4) (vVar 2))) (eVar 4) (e2 itemG (eVar 5) (eK (.int 0)))))))))
  (sRet (eMove 2))))
def f__law_words_drawn : Fn := fnG 7 [true, false] b__law_words_drawn
abbrev s__law_moves_drawn : Stmt := top 21
def b__law_moves_drawn : Fs := (sSeq (sPar 1 2 (eCons (eCall f__law_words_drawn [some 0, none] (eLend 0 (eCons (e2 addG (eK (.int 1)) (eCall f__law_roll [some 0, none] (eLend 0 (eCons (eK (.int 3)) eNil)))) eNil))) (eCons (eCall f__law_words_drawn [some 0, none] (eLend 0 (eCons (eK (.int 2)) eNil))) eNil)))
  (sSeq (sSet 3 (eLst eNil))
  (sSeq (sFor (iRng1 (e2 addG (eK (.int 1)) (eCall f__law_roll [some 0, none] (eLend 0 (eCons (eK (.int 4)) eNil))))) (tN 4)
  (sSeq (sSet 5 (eTup (eCons (eCall f__law_pick [some 0, none] (eLend 0 (eCons (eVar 1) eNil))) (eCons (eCall f__law_pick [some 0, none] (eLend 0 (eCons (eVar 2) eNil))) (eCons (eCall f__law_pick [some 0, none] (eLend 0 (eCons (eVar 2) eNil))) eNil)))))
  (sExpr (eApp 3 (eIf (tOr' (eB (e2w 3 gEq (eLst eNil))) (eB (e2 gGt (eCall f__law_roll [some 0, none] (eLend 0 (eCons (eK (.int 4)) eNil))) (eK (.int 0))))) (eVar 5) (eItemO 3 (e1 negG (eK (.int 1)))))))))
  (sRet (eMove 3)))))
def f__law_moves_drawn : Fn := fnG 6 [true] b__law_moves_drawn
abbrev s__law_wrong_line : Stmt := top 23
def b__law_wrong_line : Fs := (sSeq (sPar 3 4 (eCons (eCall f__law_action_line [none, none] (eCons (eVar 1) (eCons (eVar 2) eNil))) (eCons (eLc (iSeq (eN sortedG (eCons (eVar 2) eNil))) (tN 5) ttY (eMs joinG (eK (.str (" " : Str))) (eCons (eVar 5) eNil)) [5]) eNil)))
  (sSeq (sSet 6 (eLst (eCons (eVar 1) (eCons (e2 addG (eVar 1) (eK (.str (" " : Str)))) (eCons (e2 addG (eK (.str (" " : Str))) (eVar 3)) (eCons (e2 addG (eVar 3) (eK (.str (" " : Str)))) (eCons (e2 addG (eVar 3) (eK (.str ("," : Str)))) (eCons (e2 addG (eVar 3) (eK (.str (", " : Str)))) (eCons (e1 (replG (" " : Str) ("  " : Str)) (eVar 3)) eNil)))))))))
  (sSeq (sExpr (eApp 6 (e2 addG (eK (.str ("action " : Str))) (eVar 3))))
  (sSeq (sSet 6 (e2 addG (eVar 6) (eLst (eCons (e2 addG (eVar 3) (eK (.str (" s" : Str)))) (eCons (eMs upperG (eVar 3) eNil) (eCons (e2 addG (e2 addG (eVar 1) (eK (.str (" " : Str)))) (eMs joinG (eK (.str ("," : Str))) (eCons (e2 addG (eVar 4) (eLst (eCons (eK (.str ("a b c" : Str))) eNil))) eNil))) (eCons (eK (.str ("" : Str))) (eCons (eK .non) (eCons (eK (.int 5)) (eCons (eVar 2) (eCons (eTup (eCons (eVar 3) eNil)) eNil)))))))))))
  (sSeq (sSet 7 (eIf (eB (e2 gNe (e2 itemG (eVar 4) (e1 negG (eK (.int 1)))) (eK (.str ("a a a" : Str))))) (e2 addG (eVar 4) (eLst (eCons (eK (.str ("a a a" : Str))) eNil))) (e2 addG (eLst (eCons (eK (.str ("b a a" : Str))) eNil)) (eVar 4))))
  (sSeq (sSet 6 (e2 addG (eVar 6) (eLst (eCons (e2 addG (eVar 1) (eK (.str (" a b" : Str)))) (eCons (e2 addG (e2 addG (eVar 1) (eK (.str (" " : Str)))) (eMs joinG (eK (.str (", " : Str))) (eCons (eVar 7) eNil))) (eCons (e2 addG (e2 addG (eVar 1) (eK (.str (", " : Str)))) (eMs joinG (eK (.str (", " : Str))) (eCons (eVar 4) eNil))) eNil))))))
  (sRet (eCall f__law_pick [some 0, none] (eLend 0 (eCons (e2 addG (eVar 6) (eLst (eCons (e2 addG (e2 addG (eVar 1) (eK (.str (" " : Str)))) (eMs joinG (eK (.str (", " : Str))) (eCons (eLc (iRng1 (eK (.int 5))) (tN 8) ttY (eK (.str ("zzz s s" : Str))) [8]) eNil))) (eCons (e2 addG (eVar 3) (eK (.str ("\n" : Str)))) (eCons (eLst (eCons (eVar 3) eNil)) eNil))))) eNil))))))))))
def f__law_wrong_line : Fn := fnG 9 [true, false, false] b__law_wrong_line
abbrev s__law_wrong_moves : Stmt := top 24
def b__law_wrong_moves : Fs := (sSeq (sUnp (tT 3 (tsCons (tN 2) (tsCons (tN 3) (tsCons (tN 4) tsNil)))) (e2 itemG (eVar 1) (eK (.int 0))))
  (sSeq (sSet 5 (eLst (eCons (eVar 1) (eCons (eTup eNil) (eCons (eN tupleG (eCons (e2 addG (eCut (eVar 1) none (some (eK (.int 1)))) (eLst (eCons (eK .non) eNil))) eNil)) (eCons (eN tupleG (eCons (eLc (iRng1 (eK (.int 5))) (tN 6) ttY (e2 itemG (eVar 1) (eK (.int 0))) [6]) eNil)) (eCons (eK .non) (eCons (eK (.int 5)) (eCons (eK (.str ("abc" : Str))) (eCons eDnew eNil))))))))))
  (sSeq (sSet 5 (e2 addG (eVar 5) (eLst (eCons (eTup (eCons (eTup (eCons (eVar 2) (eCons (eVar 3) eNil))) eNil)) (eCons (eTup (eCons (eTup (eCons (eVar 2) (eCons (eVar 3) (eCons (eVar 4) (eCons (eK (.str ("s" : Str))) eNil))))) eNil)) (eCons (eTup (eCons (eLst (eCons (eVar 2) (eCons (eVar 3) (eCons (eVar 4) eNil)))) eNil)) (eCons (eTup (eCons (eTup (eCons (eVar 2) (eCons (eVar 3) (eCons (eK (.str ("" : Str))) eNil)))) eNil)) (eCons (eTup (eCons (eTup (eCons (eVar 2) (eCons (eVar 3) (eCons (eK (.int 1)) eNil)))) eNil)) eNil))))))))
  (sRet (eCall f__law_pick [some 0, none] (eLend 0 (eCons (e2 addG (eVar 5) (eLst (eCons (eTup (eCons (eTup (eCons (eMs upperG (eVar 2) eNil) (eCons (eVar 3) (eCons (eVar 4) eNil)))) eNil)) (eCons (eTup (eCons (eTup (eCons (eVar 2) (eCons (eVar 3) (eCons (eK (.str ("zzzzzzzzz" : Str))) eNil)))) eNil)) (eCons (eTup (eCons (eTup (eCons (eVar 2) (eCons (eVar 3) (eCons (eTup (eCons (eVar 4) eNil)) eNil)))) eNil)) eNil))))) eNil)))))))
def f__law_wrong_moves : Fn := fnG 7 [true, false] b__law_wrong_moves
abbrev s_is_name : Stmt := top 7
def b_is_name : Fs := (sSeq (sIf (tOr' (tNt (eTru (e1 (isG "str") (eVar 0)))) (tNt (eB (eChn gLe gLe (eK (.int 1)) (eN lenG (eCons (eVar 0) eNil)) (eK (.int 8))))))
  (sRet (eK (.bl false)))
  sNil)
  (sRet (eN allG (eCons (eLc (iSeq (eVar 0)) (tN 1) ttY (eChn gLe gLe (eK (.str ("a" : Str))) (eVar 1) (eK (.str ("z" : Str)))) [1]) eNil))))
def f_is_name : Fn := fnG 2 [false] b_is_name
abbrev s_is_move : Stmt := top 10
def b_is_move : Fs := (sRet (eAnd (e1 (isG "tuple") (eVar 0)) (eAnd (e2 gEq (eN lenG (eCons (eVar 0) eNil)) (eK (.int 3))) (eN allG (eCons (eLc (iSeq (eVar 0)) (tN 1) ttY (eCall f_is_name [none] (eCons (eVar 1) eNil)) [1]) eNil)))))
def f_is_move : Fn := fnG 2 [false] b_is_move
abbrev s_are_moves : Stmt := top 11
def b_are_moves : Fs := (sRet (eAnd (e1 (isG "tuple") (eVar 0)) (eAnd (eChn gLe gLe (eK (.int 1)) (eN lenG (eCons (eVar 0) eNil)) (eK (.int 4))) (eN allG (eCons (eLc (iSeq (eVar 0)) (tN 1) ttY (eCall f_is_move [none] (eCons (eVar 1) eNil)) [1]) eNil)))))
def f_are_moves : Fn := fnG 2 [false] b_are_moves
abbrev s_Action_init : Stmt := (clsBody (top 12)).getD 1 (.Pass ⟨0, 0, 0, 0⟩)
def b_Action_init : Fs := (sSeq (sIf (tNt (eTru (eCall f_is_name [none] (eCons (eVar 1) eNil))))
  (sRaise (eOwn 0))
  sNil)
  (sSeq (sIf (tNt (eTru (eCall f_are_moves [none] (eCons (eVar 2) eNil))))
  (sRaise (eOwn 1))
  sNil)
  (sSeq (sPutF 0 gs_own_called (eVar 1))
  (sPutF 0 gs_own_moves (eN tupleG (eCons (eN sortedG (eCons (eN listG (eCons (eVar 2) eNil)) eNil)) eNil))))))
def f_Action_init : Fn := fnG 3 [true, false, false] b_Action_init
abbrev s_Action_str : Stmt := (clsBody (top 12)).getD 8 (.Pass ⟨0, 0, 0, 0⟩)
def b_Action_str : Fs := (sRet (eFjn [(e1 fmtD (e1 (fldG gs_own_called) (eVar 0))), (eK (.str (" " : Str))), (e1 fmtD (eMs joinG (eK (.str (", " : Str))) (eCons (eLc (iSeq (e1 (fldG gs_own_moves) (eVar 0))) (tN 1) ttY (eMs joinG (eK (.str (" " : Str))) (eCons (eVar 1) eNil)) [1]) eNil)))] Str.empty))
def f_Action_str : Fn := fnG 2 [false] b_Action_str
def t_Action_str : Nat → Option Fn := one 0 f_Action_str
abbrev s_Action_from_line : Stmt := (clsBody (top 12)).getD 2 (.Pass ⟨0, 0, 0, 0⟩)
def b_Action_from_line : Fs := (sSeq (sIf (tNt (eTru (e1 (isG "str") (eVar 1))))
  (sRaise (eSup 2 (eK .non)))
  sNil)
  (sSeq (sUnp (tT 3 (tsCons (tN 2) (tsCons (tN 3) (tsCons (tN 4) tsNil)))) (eMs partG (eVar 1) (eCons (eK (.str (" " : Str))) eNil)))
  (sSeq (sSet 5 (eN tupleG (eCons (eLc (iSeq (eMs splitG (eVar 4) (eCons (eK (.str (", " : Str))) eNil))) (tN 6) ttY (eN tupleG (eCons (eMs splitG (eVar 6) (eCons (eK (.str (" " : Str))) eNil)) eNil)) [6]) eNil)))
  (sSeq (sTryH (sSet 7 (eMakeV 0 0 f_Action_init [none, none] (eCons (eVar 2) (eCons (eVar 5) eNil)))) (fun n => h_InvalidName n || h_InvalidAction n) (eSup 2 (eK .non)))
  (sSeq (sIf (eB (e2 gNe (e1 (g1 (gStrA t_Action_str)) (eVar 7)) (eVar 1)))
  (sRaise (eSup 2 (eK .non)))
  sNil)
  (sRet (eVar 7)))))))
def f_Action_from_line : Fn := fnG 8 [false, false] b_Action_from_line
abbrev s_Action_called : Stmt := (clsBody (top 12)).getD 3 (.Pass ⟨0, 0, 0, 0⟩)
def b_Action_called : Fs := (sRet (e1 (fldG gs_own_called) (eVar 0)))
def f_Action_called : Fn := fnG 1 [false] b_Action_called
def t_Action_called : Nat → Option Fn := one 0 f_Action_called
abbrev s_Action_moves : Stmt := (clsBody (top 12)).getD 4 (.Pass ⟨0, 0, 0, 0⟩)
def b_Action_moves : Fs := (sRet (e1 (fldG gs_own_moves) (eVar 0)))
def f_Action_moves : Fn := fnG 1 [false] b_Action_moves
def t_Action_moves : Nat → Option Fn := one 0 f_Action_moves
abbrev s_Action_owners : Stmt := (clsBody (top 12)).getD 5 (.Pass ⟨0, 0, 0, 0⟩)
def b_Action_owners : Fs := (sRet (eN tupleG (eCons (eN sortedG (eCons (eN listG (eCons (eDc (iSeq (e1 (fldG gs_own_moves) (eVar 0))) (tT 3 (tsCons (tN 1) (tsCons (tN 2) (tsCons (tN 3) tsNil)))) ttY (eVar 1) (eK (.bl true)) [1, 2, 3]) eNil)) eNil)) eNil)))
def f_Action_owners : Fn := fnG 4 [false] b_Action_owners
def t_Action_owners : Nat → Option Fn := one 0 f_Action_owners
abbrev s_Action_len : Stmt := (clsBody (top 12)).getD 6 (.Pass ⟨0, 0, 0, 0⟩)
def b_Action_len : Fs := (sRet (eN lenG (eCons (e1 (fldG gs_own_moves) (eVar 0)) eNil)))
def f_Action_len : Fn := fnG 1 [false] b_Action_len
def t_Action_len : Nat → Option Fn := one 0 f_Action_len
abbrev s_Action_eq : Stmt := (clsBody (top 12)).getD 7 (.Pass ⟨0, 0, 0, 0⟩)
def b_Action_eq : Fs := (sRet (eAnd (e1 (isC is_Action) (eVar 1)) (eAnd (e2 gEq (e1 (fldG gs_own_called) (eVar 0)) (e1 (fldG gs_own_called) (eVar 1))) (e2 gEq (e1 (fldG gs_own_moves) (eVar 0)) (e1 (fldG gs_own_moves) (eVar 1))))))
def f_Action_eq : Fn := fnG 2 [false, false] b_Action_eq
def t_Action_eq : Nat → Option Fn := one 0 f_Action_eq
abbrev s__law_right : Stmt := top 25
def b__law_right : Fs := (sSeq (sUnp (tT 2 (tsCons (tN 1) (tsCons (tN 2) tsNil))) (eTup (eCons (eCall f__law_word_drawn [some 0] (eLend 0 eNil)) (eCons (eCall f__law_moves_drawn [some 0] (eLend 0 eNil)) eNil))))
  (sSeq (sSet 3 (eCall f__law_action_line [none, none] (eCons (eVar 1) (eCons (eVar 2) eNil))))
  (sSeq (sSet 4 (eMake 0 f_Action_init [none, none] (eCons (eVar 1) (eCons (eN tupleG (eCons (eVar 2) eNil)) eNil))))
  (sSeq (sSet 5 (eLst (eCons (ePrp t_Action_called (eVar 4)) (eCons (ePrp t_Action_moves (eVar 4)) (eCons (ePrp t_Action_owners (eVar 4)) (eCons (e1 (g1 (gLenA t_Action_len)) (eVar 4)) (eCons (e1 (g1 (gStrA t_Action_str)) (eVar 4)) eNil)))))))
  (sSeq (sIf (eB (e2w 5 gNe (eLst (eCons (eVar 1) (eCons (eN tupleG (eCons (eN sortedG (eCons (eVar 2) eNil)) eNil)) (eCons (eN tupleG (eCons (e1 sortSetG (eLc (iSeq (eVar 2)) (tN 6) ttY (e2 itemG (eVar 6) (eK (.int 0))) [6])) eNil)) (eCons (eN lenG (eCons (eVar 2) eNil)) (eCons (eVar 3) eNil))))))))
  (sRet (eK (.bl false)))
  sNil)
  (sSeq (sSet 7 (eLst (eCons (eMake 0 f_Action_init [none, none] (eCons (eVar 1) (eCons (eN tupleG (eCons (eCall f__law_few [some 0, none, none] (eLend 0 (eCons (eVar 2) (eCons (eK (.int 4)) eNil)))) eNil)) eNil))) (eCons (eCmth 0 f_Action_from_line [none] (eCons (eVar 3) eNil)) eNil))))
  (sSeq (sIf (eB (e2 gNe (eLc (iSeq (eVar 7)) (tN 8) (tOr' (eB (e2 (g2 (gNeA t_Action_eq)) (eVar 4) (eVar 8))) (tOr' (tNt (eB (e2 (g2 (gEqA t_Action_eq)) (eVar 8) (eVar 4)))) (eB (e2 gNe (e1 (g1 (gStrA t_Action_str)) (eVar 8)) (eVar 3))))) (eVar 8) [8]) (eLst eNil)))
  (sRet (eK (.bl false)))
  sNil)
  (sSeq (sSet 9 (eLst (eCons (eMake 0 f_Action_init [none, none] (eCons (eIf (eB (e2 gLt (eN lenG (eCons (eVar 1) eNil)) (eK (.int 8)))) (e2 addG (eVar 1) (eK (.str ("a" : Str)))) (eK (.str ("z" : Str)))) (eCons (eN tupleG (eCons (eVar 2) eNil)) eNil))) (eCons (eVar 3) (eCons (eK .non) (eCons (eTup (eCons (eVar 1) (eCons (eN tupleG (eCons (eVar 2) eNil)) eNil))) eNil))))))
  (sSeq (sExpr (eApp 9 (eMake 0 f_Action_init [none, none] (eCons (eVar 1) (eCons (eN tupleG (eCons (e2 addG (eCut (eVar 2) (some (eK (.int 1))) none) (eLst (eCons (eTup (eCons (e2 itemG (e2 itemG (eVar 2) (eK (.int 0))) (eK (.int 0))) (eCons (e2 itemG (e2 itemG (eVar 2) (eK (.int 0))) (eK (.int 1))) (eCons (eK (.str ("zzzz" : Str))) eNil)))) eNil))) eNil)) eNil)))))
  (sSeq (sExpr (eApp 9 (eIf (eB (e2 gLt (eN lenG (eCons (eVar 2) eNil)) (eK (.int 4)))) (eMake 0 f_Action_init [none, none] (eCons (eVar 1) (eCons (eN tupleG (eCons (e2 addG (eVar 2) (eCut (eVar 2) none (some (eK (.int 1))))) eNil)) eNil))) (eK .non))))
  (sSeq (sIf (eB (e2 gNe (eLc (iSeq (eVar 9)) (tN 8) (tOr' (eB (e2 (g2 (gEqA t_Action_eq)) (eVar 4) (eVar 8))) (tNt (eB (e2 (g2 (gNeA t_Action_eq)) (eVar 4) (eVar 8))))) (eVar 8) [8]) (eLst eNil)))
  (sRet (eK (.bl false)))
  sNil)
  (sSeq (sFor (iRng1 (eK (.int 4))) (tN 10)
  (sSeq (sSet 11 (eCall f__law_wrong_line [some 0, none, none] (eLend 0 (eCons (eVar 1) (eCons (eVar 2) eNil)))))
  (sIf (eB (e2 gNe (eLam hs__law_met fin__law_met (eCmth 0 f_Action_from_line [none] (eCons (eVar 11) eNil))) (eK (.str ("parse None" : Str)))))
  (sRet (eK (.bl false)))
  sNil)))
  (sSeq (sUnp (tT 2 (tsCons (tN 12) (tsCons (tN 13) tsNil))) (eTup (eCons (eCall f__law_pick [some 0, none] (eLend 0 (eCons (eLst (eCons (eK .non) (eCons (eK (.int 5)) (eCons (eK (.str ("" : Str))) (eCons (eK (.str ("A" : Str))) (eCons (e2 addG (eVar 1) (eK (.str (" " : Str)))) (eCons (eK (.str ("zzzzzzzzz" : Str))) (eCons (eTup (eCons (eVar 1) eNil)) eNil)))))))) eNil))) (eCons (eCall f__law_wrong_moves [some 0, none] (eLend 0 (eCons (eVar 2) eNil))) eNil))))
  (sSeq (sSet 5 (eLst (eCons (eLam hs__law_met fin__law_met (eMake 0 f_Action_init [none, none] (eCons (eVar 12) (eCons (eVar 13) eNil)))) eNil)))
  (sSeq (sExpr (eApp 5 (eLam hs__law_met fin__law_met (eMake 0 f_Action_init [none, none] (eCons (eVar 1) (eCons (eVar 13) eNil))))))
  (sRet (e2w 5 gEq (eLst (eCons (eK (.str ("name" : Str))) (eCons (eK (.str ("action" : Str))) eNil))))))))))))))))))))
def f__law_right : Fn := fnG 14 [true] b__law_right
abbrev s_law : Stmt := top 26
def b_law : Fs := (sSeq (sFor (iRng1 (eN maxG (eCons (eK (.int 1)) (eCons (eN minG (eCons (eK (.int 8)) (eCons (eN lenG (eCons (eVar 0) eNil)) eNil))) eNil)))) (tN 1)
  (sSeq (sSet 2 (eCall f__law_tape [none, none] (eCons (eVar 0) (eCons (eVar 1) eNil))))
  (sIf (tOr' (tNt (eTru (eCall f__law_right [some 2] (eLend 2 eNil)))) (tNt (eTru (eCall f__law_right [some 2] (eLend 2 eNil)))))
  (sRet (eK (.bl false)))
  sNil)))
  (sSeq (sSet 3 (eMake 0 f_Action_init [none, none] (eCons (eK (.str ("swap" : Str))) (eCons (eTup (eCons (eTup (eCons (eK (.str ("kin" : Str))) (eCons (eK (.str ("s" : Str))) (eCons (eK (.str ("t" : Str))) eNil)))) (eCons (eTup (eCons (eK (.str ("ann" : Str))) (eCons (eK (.str ("s" : Str))) (eCons (eK (.str ("s" : Str))) eNil)))) (eCons (eTup (eCons (eK (.str ("kin" : Str))) (eCons (eK (.str ("s" : Str))) (eCons (eK (.str ("t" : Str))) eNil)))) eNil)))) eNil))))
  (sSeq (sSet 4 (eLst (eCons (e1 (g1 (gStrA t_Action_str)) (eVar 3)) (eCons (ePrp t_Action_owners (eVar 3)) (eCons (e1 (g1 (gLenA t_Action_len)) (eVar 3)) (eCons (eK (.int 4)) (eCons (e2 (g2 (gEqA t_Action_eq)) (eCmth 0 f_Action_from_line [none] (eCons (e1 (g1 (gStrA t_Action_str)) (eVar 3)) eNil)) (eVar 3)) eNil)))))))
  (sSeq (sExpr (eApp 4 (eLam hs__law_met fin__law_met (eCmth 0 f_Action_from_line [none] (eCons (eK (.str ("swap kin s t, ann s s" : Str))) eNil)))))
  (sRet (e2w 4 gEq (eLst (eCons (eK (.str ("swap ann s s, kin s t, kin s t" : Str))) (eCons (eTup (eCons (eK (.str ("ann" : Str))) (eCons (eK (.str ("kin" : Str))) eNil))) (eCons (eK (.int 3)) (eCons (eK (.int 4)) (eCons (eK (.bl true)) (eCons (eK (.str ("parse None" : Str))) eNil)))))))))))))
def f_law : Fn := fnG 5 [false] b_law
/-- the text, by its parts -/
structure Tx (P : Program) (K : PySem.W.Frag) (mg : Str → Option Value) (base : Heap) (C : Cn) : Prop where
  hK : K = C.K
  d__law_tape : Df K mg "_law_tape" s__law_tape ["script", "spot"]
  d__law_roll : Df K mg "_law_roll" s__law_roll ["tape", "total"]
  d__law_pick : Df K mg "_law_pick" s__law_pick ["tape", "items"]
  d__law_few : Df K mg "_law_few" s__law_few ["tape", "items", "many"]
  d__law_word_drawn : Df K mg "_law_word_drawn" s__law_word_drawn ["tape"]
  d__law_action_line : Df K mg "_law_action_line" s__law_action_line ["called", "moves"]
  d__law_words_drawn : Df K mg "_law_words_drawn" s__law_words_drawn ["tape", "lots"]
  d__law_moves_drawn : Df K mg "_law_moves_drawn" s__law_moves_drawn ["tape"]
  d__law_wrong_line : Df K mg "_law_wrong_line" s__law_wrong_line ["tape", "called", "moves"]
  d__law_wrong_moves : Df K mg "_law_wrong_moves" s__law_wrong_moves ["tape", "moves"]
  d_is_name : Df K mg "is_name" s_is_name ["value"]
  d_is_move : Df K mg "is_move" s_is_move ["value"]
  d_are_moves : Df K mg "are_moves" s_are_moves ["value"]
  m_Action_init : MkT K C 0 "Action.__init__" s_Action_init ["self", "called", "moves"]
  m_Action_str : SrT K C 0 "Action.__str__" s_Action_str ["self"]
  m_Action_from_line : CmT K C 0 "from_line" "Action.from_line" s_Action_from_line ["cls", "line"]
  m_Action_called : PrT K C 0 "called" "Action.called" s_Action_called ["self"]
  m_Action_moves : PrT K C 0 "moves" "Action.moves" s_Action_moves ["self"]
  m_Action_owners : PrT K C 0 "owners" "Action.owners" s_Action_owners ["self"]
  m_Action_len : LnT K C 0 "Action.__len__" s_Action_len ["self"]
  m_Action_eq : EqT K C 0 "Action.__eq__" s_Action_eq ["self", "value"]
  d__law_right : DfT K mg base C "_law_right" s__law_right ["tape"]
  d__law_met : Df K mg "_law_met" s__law_met ["call"]
  n_abs : mg "abs" = none
  n_all : mg "all" = none
  n_int : mg "int" = none
  n_isinstance : mg "isinstance" = none
  n_len : mg "len" = none
  n_list : mg "list" = none
  n_max : mg "max" = none
  n_min : mg "min" = none
  n_range : mg "range" = none
  n_repr : mg "repr" = none
  n_set : mg "set" = none
  n_sorted : mg "sorted" = none
  n_str : mg "str" = none
  n_tuple : mg "tuple" = none
  c_MAX_LETTERS : ∃ t, mg "MAX_LETTERS" = some (.int 8 t)
  c_MAX_MOVES : ∃ t, mg "MAX_MOVES" = some (.int 4 t)
  cl_Action : mg "Action" = some (.ref (C.cls 0))
  fs_own_called : FldS K C "own_called" Kx.gs_own_called
  fs_own_moves : FldS K C "own_moves" Kx.gs_own_moves
  i_Action : IsO K mg C "Action" Kx.is_Action
  x_InvalidAction : OwnX K mg C "InvalidAction" 1
  x_InvalidName : OwnX K mg C "InvalidName" 0
  x_ParseError : SupX P K mg C "ParseError" "line" 2
  h_InvalidAction : Hnd K mg C "InvalidAction" h_InvalidAction
  h_InvalidName : Hnd K mg C "InvalidName" h_InvalidName
  h_ParseError : Hnd K mg C "ParseError" h_ParseError
  f_ParseError : FldX K C Kx.h_ParseError "line"
section
variable {P : Program} {w : World} {K : PySem.W.Frag} {mg : Str → Option Value} {base : Heap} {C : Cn} {md : Bool}
theorem c__law_met : FnScope ["call", "error"] ["call"] (defScope s__law_met) := ⟨rfl, rfl, rfl, by decide +kernel, rfl, by decide +kernel, by decide +kernel⟩
theorem mt__law_met (T : Tx P K mg base C) : Mt P w K mg base C "_law_met" hs__law_met fin__law_met := mt_of T.d__law_met c__law_met rfl (by first | exact Or.inl rfl | exact Or.inr (Or.inl rfl)) fun X g cdv q e1 e2 e3 e4 e5 => by
  subst e1 e2 e3 e4 e5
  exact met_gives (by decide) (fun s H => (hm_named 1 c__law_met.nd T.h_ParseError (say_r T.f_ParseError T.n_repr) (hm_bare T.h_InvalidName say_str (hm_bare T.h_InvalidAction say_str .nil)))) (fun _ => rfl) (fun _ _ _ _ => rfl)
theorem c__law_tape : FnScope ["script", "spot", "cell", "great", "begin"] ["script", "spot"] (defScope s__law_tape) := ⟨rfl, rfl, rfl, by decide +kernel, rfl, by decide +kernel, by decide +kernel⟩
theorem k__law_tape (T : Tx P K mg base C) : Cl md P w K mg base C 1 "_law_tape" 2 f__law_tape := by
  exact cl_def (k := 0) (ks := [false, false]) T.d__law_tape T.hK c__law_tape rfl fun f cdv A outer s H E σ0 b =>
  (dss_cons (dset (i := 2) b (by exact (show ¬ (2 ∈ piOf [false, false] 0) by decide)) (de_if (dt_cmp (og_lt b.ok) (lv 1) (de_callB (og_len b.ok) (by rfl) T.n_len bt_len (da_cons (lv 0) da_nil)) (nomark _)) (de_item b.ok (lv 0) (lv 1) (pl_ix fun _ _ => rfl)) (de_op (og_add b.ok) (de_op (og_mul b.ok) de_int (lv 1)) de_int)))
  (dss_cons (dset (i := 3) b (by exact (show ¬ (3 ∈ piOf [false, false] 0) by decide)) (de_op (og_mod b.ok) (de_callTy (og_int b.ok) (by rfl) T.n_int bt_int (da_cons (de_callB (og_abs b.ok) (by rfl) T.n_abs bt_abs (da_cons (lv 2) da_nil)) da_nil)) (de_op (og_pow b.ok) (de_op (og_pow b.ok) de_int de_int) de_int)))
  (dss_cons (dset (i := 4) b (by exact (show ¬ (4 ∈ piOf [false, false] 0) by decide)) (de_op (og_add b.ok) (de_op (og_add b.ok) (de_op (og_add b.ok) (de_op (og_mul b.ok) (lv 3) de_int) (de_op (og_mul b.ok) de_int (lv 1))) (de_op (og_mul b.ok) de_int (de_callTy (og_int b.ok) (by rfl) T.n_int bt_int (da_cons (de_cmp (og_lt b.ok) (lv 2) de_int (nomark _)) da_nil)))) de_int))
  (dss_one (ds_ret (de_lst (da_cons (de_callB (og_max b.ok) (by rfl) T.n_max bt_max (da_cons de_int (da_cons (de_op (og_sub b.ok) (lv 3) (de_op (og_pow b.ok) de_int de_int)) da_nil))) (da_cons (de_op (og_mod b.ok) (de_callTy (og_int b.ok) (by rfl) T.n_int bt_int (da_cons (lv 4) da_nil)) de_int) (da_cons de_int da_nil)))))))))
theorem c__law_roll : FnScope ["tape", "total", "found", "one", "two"] ["tape", "total"] (defScope s__law_roll) := ⟨rfl, rfl, rfl, by decide +kernel, rfl, by decide +kernel, by decide +kernel⟩
theorem k__law_roll (T : Tx P K mg base C) : Cl md P w K mg base C 1 "_law_roll" 2 f__law_roll := by
  exact cl_def (k := 0) (ks := [true, false]) T.d__law_roll T.hK c__law_roll rfl fun f cdv A outer s H E σ0 b =>
  (dss_cons (ds_if (dt_cmp (og_gt b.ok) (ditO (i := 0) b de_int (pl_ix fun _ _ => rfl)) de_int (nomark _))
  (dss_cons (dset (i := 2) b (by exact (show ¬ (2 ∈ piOf [true, false] 0) by decide)) (de_op (og_mod b.ok) (de_callTy (og_int b.ok) (by rfl) T.n_int bt_int (da_cons (ditO (i := 0) b de_int (pl_ix fun _ _ => rfl)) da_nil)) (lv 1)))
  (dss_cons (ds_putI (i := 0) rfl (by first | exact Or.inl rfl | exact Or.inr (Or.inl rfl)) (de_op (og_fdiv b.ok) (ditO (i := 0) b de_int (pl_ix fun _ _ => rfl)) (lv 1)) de_int)
  (dss_one (ds_ret (lv 2)))))
  dss_nil)
  (dss_cons (ds_putI (i := 0) rfl (by first | exact Or.inl rfl | exact Or.inr (Or.inl rfl)) (de_op (og_add b.ok) (ditO (i := 0) b de_int (pl_ix fun _ _ => rfl)) de_int) de_int)
  (dss_cons (dset (i := 3) b (by exact (show ¬ (3 ∈ piOf [true, false] 0) by decide)) (de_op (og_mod b.ok) (de_callTy (og_int b.ok) (by rfl) T.n_int bt_int (da_cons (de_op (og_add b.ok) (ditO (i := 0) b de_int (pl_ix fun _ _ => rfl)) (de_op (og_mul b.ok) de_int (ditO (i := 0) b de_int (pl_ix fun _ _ => rfl)))) da_nil)) de_int))
  (dss_cons (dset (i := 4) b (by exact (show ¬ (4 ∈ piOf [true, false] 0) by decide)) (de_op (og_add b.ok) (de_op (og_mul b.ok) (de_op (og_mod b.ok) (de_callTy (og_int b.ok) (by rfl) T.n_int bt_int (da_cons (de_op (og_mul b.ok) (lv 3) (lv 3)) da_nil)) de_int) (lv 3)) (de_op (og_mul b.ok) de_int (ditO (i := 0) b de_int (pl_ix fun _ _ => rfl)))))
  (dss_one (ds_ret (de_op (og_mod b.ok) (de_callTy (og_int b.ok) (by rfl) T.n_int bt_int (da_cons (de_op (og_fdiv b.ok) (de_op (og_mod b.ok) (de_callTy (og_int b.ok) (by rfl) T.n_int bt_int (da_cons (de_op (og_add b.ok) (lv 4) (ditO (i := 0) b de_int (pl_ix fun _ _ => rfl))) da_nil)) de_int) de_int) da_nil)) (lv 1))))))))
theorem c__law_pick : FnScope ["tape", "items"] ["tape", "items"] (defScope s__law_pick) := ⟨rfl, rfl, rfl, by decide +kernel, rfl, by decide +kernel, by decide +kernel⟩
theorem k__law_pick (T : Tx P K mg base C) : Cl md P w K mg base C 2 "_law_pick" 2 f__law_pick := by
  exact cl_def (k := 1) (ks := [true, false]) T.d__law_pick T.hK c__law_pick rfl fun f cdv A outer s H E σ0 b =>
  (dss_one (ds_ret (de_item b.ok (lv 1) (de_cl (k__law_roll T) b (dm_lend (dm_val (de_callB (og_len b.ok) (by rfl) T.n_len bt_len (da_cons (lv 1) da_nil)) dm_nil))) (pl_ix fun _ _ => rfl))))
theorem c__law_few : FnScope ["tape", "items", "many", "left", "found"] ["tape", "items", "many"] (defScope s__law_few) := ⟨rfl, rfl, rfl, by decide +kernel, rfl, by decide +kernel, by decide +kernel⟩
theorem k__law_few (T : Tx P K mg base C) : Cl md P w K mg base C 2 "_law_few" 3 f__law_few := by
  exact cl_def (k := 1) (ks := [true, false, false]) T.d__law_few T.hK c__law_few rfl fun f cdv A outer s H E σ0 b =>
  (dss_cons (ds_par (i := 3) (j := 4) b.ok rfl rfl rfl rfl (by decide) (by exact (show ¬ (3 ∈ piOf [true, false, false] 0) by decide)) (by exact (show ¬ (4 ∈ piOf [true, false, false] 0) by decide)) (da_cons (de_callTy (og_list b.ok) (by rfl) T.n_list bt_list (da_cons (lv 1) da_nil)) (da_cons (de_lst da_nil) da_nil)) (by rfl))
  (dss_cons (ds_while (passes_of rfl) (dt_w (dw_and (dt_cmpW (og_ne b.ok) (de_lst da_nil) (nomark _)) (dw_and1 (dt_cmp (og_lt b.ok) (dlenV b T.n_len) (lv 2) (nomark _)))))
  (dss_one (ds_expr (dappV (dpopA (de_cl (k__law_roll T) b (dm_lend (dm_val (dlenV b T.n_len) dm_nil))))))))
  (dss_one (ds_ret (mv 4)))))
theorem c__law_word_drawn : FnScope ["tape", "lots", "turn"] ["tape"] (defScope s__law_word_drawn) := ⟨rfl, rfl, rfl, by decide +kernel, rfl, by decide +kernel, by decide +kernel⟩
theorem k__law_word_drawn (T : Tx P K mg base C) : Cl md P w K mg base C 3 "_law_word_drawn" 1 f__law_word_drawn := by
  exact cl_def (k := 2) (ks := [true]) T.d__law_word_drawn T.hK c__law_word_drawn rfl fun f cdv A outer s H E σ0 b =>
  (dss_cons (dset (i := 1) b (by exact (show ¬ (1 ∈ piOf [true] 0) by decide)) (de_cl (k__law_pick T) b (dm_lend (dm_val (de_lst (da_cons de_int (da_cons de_int (da_cons de_int (da_cons de_int (da_cons de_int (da_cons de_int da_nil))))))) dm_nil))))
  (dss_one (ds_ret (de_ms PySem.F.slot_str_join PySem.F.type_str_join (og_join b.ok) de_str (da_cons (de_lc (own := [(("turn" : Str), 2)]) b.ok (di_rng1 (by rfl) T.n_range (lv 1)) (blkOk_by (by rfl)) (by decide) (fun _ _ _ _ _ => (pg_name (i := 2) b.blk.ok.nd rfl (by first | exact Or.inl rfl | exact Or.inr rfl))) (tgt_name (by simp)) (by decide) (fun _ _ _ _ _ => dts_nil) (fun _ _ _ _ _ => (de_cl (k__law_pick T) b.blk (dm_lend (dm_val de_str dm_nil))))) da_nil)))))
theorem c__law_action_line : FnScope ["called", "moves", "move"] ["called", "moves"] (defScope s__law_action_line) := ⟨rfl, rfl, rfl, by decide +kernel, rfl, by decide +kernel, by decide +kernel⟩
theorem k__law_action_line (T : Tx P K mg base C) : Cl md P w K mg base C 1 "_law_action_line" 2 f__law_action_line := by
  exact cl_def (k := 0) (ks := [false, false]) T.d__law_action_line T.hK c__law_action_line rfl fun f cdv A outer s H E σ0 b =>
  (dss_one (ds_ret (de_op (og_add b.ok) (de_op (og_add b.ok) (lv 0) de_str) (de_ms PySem.F.slot_str_join PySem.F.type_str_join (og_join b.ok) de_str (da_cons (de_lc (own := [(("move" : Str), 2)]) b.ok (di_seq b.ok (de_callB (og_sorted b.ok) (by rfl) T.n_sorted bt_sorted (da_cons (lv 1) da_nil))) (blkOk_by (by rfl)) (by decide) (fun _ _ _ _ _ => (pg_name (i := 2) b.blk.ok.nd rfl (by first | exact Or.inl rfl | exact Or.inr rfl))) (tgt_name (by simp)) (by decide) (fun _ _ _ _ _ => dts_nil) (fun _ _ _ _ _ => (de_ms PySem.F.slot_str_join PySem.F.type_str_join (og_join b.blk.ok) de_str (da_cons (lv 2) da_nil)))) da_nil)))))
theorem c__law_words_drawn : FnScope ["tape", "lots", "found", "turn", "word", "left", "sign"] ["tape", "lots"] (defScope s__law_words_drawn) := ⟨rfl, rfl, rfl, by decide +kernel, rfl, by decide +kernel, by decide +kernel⟩
theorem k__law_words_drawn (T : Tx P K mg base C) : Cl md P w K mg base C 4 "_law_words_drawn" 2 f__law_words_drawn := by
  exact cl_def (k := 3) (ks := [true, false]) T.d__law_words_drawn T.hK c__law_words_drawn rfl fun f cdv A outer s H E σ0 b =>
  (dss_cons (dset (i := 2) b (by exact (show ¬ (2 ∈ piOf [true, false] 0) by decide)) (de_lst da_nil))
  (dss_cons (ds_for b.ok (passes_of rfl) (di_rng1 (by rfl) T.n_range (lv 1)) (pg_name (i := 3) b.ok.nd rfl (by first | exact Or.inl rfl | exact Or.inr rfl)) (tgt_name (by exact (show ¬ (3 ∈ piOf [true, false] 0) by decide)))
  (dss_cons (dset (i := 4) b (by exact (show ¬ (4 ∈ piOf [true, false] 0) by decide)) (de_cl (k__law_word_drawn T) b (dm_lend dm_nil)))
  (dss_cons (ds_setLc (own := [(("sign" : Str), 6)]) b.ok (by exact (show ¬ (5 ∈ piOf [true, false] 0) by decide)) (di_seq b.ok de_str) (blkOk_by (by rfl)) (by decide) (fun _ _ _ _ _ => (pg_name (i := 6) b.blk.ok.nd rfl (by first | exact Or.inl rfl | exact Or.inr rfl))) (tgt_name (by simp)) (by decide) (fun _ _ _ _ _ => (dts_one (dt_cmpV (og_nin b.blk.ok) (lv 6) (vv 2) (by with_unfolding_all rfl)))) (fun _ _ _ _ _ => (lv 6)))
  (dss_one (ds_expr (dappV (de_if (dt_cmpV (og_nin b.ok) (lv 4) (vv 2) (by with_unfolding_all rfl)) (lv 4) (de_item b.ok (lv 5) de_int (pl_ix fun _ _ => rfl)))))))))
  (dss_one (ds_ret (mv 2)))))
theorem c__law_moves_drawn : FnScope ["tape", "owners", "states", "found", "turn", "move"] ["tape"] (defScope s__law_moves_drawn) := ⟨rfl, rfl, rfl, by decide +kernel, rfl, by decide +kernel, by decide +kernel⟩
theorem k__law_moves_drawn (T : Tx P K mg base C) : Cl md P w K mg base C 5 "_law_moves_drawn" 1 f__law_moves_drawn := by
  exact cl_def (k := 4) (ks := [true]) T.d__law_moves_drawn T.hK c__law_moves_drawn rfl fun f cdv A outer s H E σ0 b =>
  (dss_cons (ds_par (i := 1) (j := 2) b.ok rfl rfl rfl rfl (by decide) (by exact (show ¬ (1 ∈ piOf [true] 0) by decide)) (by exact (show ¬ (2 ∈ piOf [true] 0) by decide)) (da_cons (de_cl (k__law_words_drawn T) b (dm_lend (dm_val (de_op (og_add b.ok) de_int (de_cl (k__law_roll T) b (dm_lend (dm_val de_int dm_nil)))) dm_nil))) (da_cons (de_cl (k__law_words_drawn T) b (dm_lend (dm_val de_int dm_nil))) da_nil)) (by rfl))
  (dss_cons (dset (i := 3) b (by exact (show ¬ (3 ∈ piOf [true] 0) by decide)) (de_lst da_nil))
  (dss_cons (ds_for b.ok (passes_of rfl) (di_rng1 (by rfl) T.n_range (de_op (og_add b.ok) de_int (de_cl (k__law_roll T) b (dm_lend (dm_val de_int dm_nil))))) (pg_name (i := 4) b.ok.nd rfl (by first | exact Or.inl rfl | exact Or.inr rfl)) (tgt_name (by exact (show ¬ (4 ∈ piOf [true] 0) by decide)))
  (dss_cons (dset (i := 5) b (by exact (show ¬ (5 ∈ piOf [true] 0) by decide)) (de_tup (da_cons (de_cl (k__law_pick T) b (dm_lend (dm_val (lv 1) dm_nil))) (da_cons (de_cl (k__law_pick T) b (dm_lend (dm_val (lv 2) dm_nil))) (da_cons (de_cl (k__law_pick T) b (dm_lend (dm_val (lv 2) dm_nil))) da_nil)))))
  (dss_one (ds_expr (dappV (de_if (dt_w (dw_or (dt_cmpW (og_eq b.ok) (de_lst da_nil) (nomark _)) (dw_or1 (dt_cmp (og_gt b.ok) (de_cl (k__law_roll T) b (dm_lend (dm_val de_int dm_nil))) de_int (nomark _))))) (lv 5) (ditO (i := 3) b (de_un (og_neg b.ok) de_int) (pl_ix fun _ _ => rfl))))))))
  (dss_one (ds_ret (mv 3))))))
theorem c__law_wrong_line : FnScope ["tape", "called", "moves", "line", "parts", "move", "odd", "turned", "turn"] ["tape", "called", "moves"] (defScope s__law_wrong_line) := ⟨rfl, rfl, rfl, by decide +kernel, rfl, by decide +kernel, by decide +kernel⟩
theorem k__law_wrong_line (T : Tx P K mg base C) : Cl md P w K mg base C 3 "_law_wrong_line" 3 f__law_wrong_line := by
  exact cl_def (k := 2) (ks := [true, false, false]) T.d__law_wrong_line T.hK c__law_wrong_line rfl fun f cdv A outer s H E σ0 b =>
  (dss_cons (ds_par (i := 3) (j := 4) b.ok rfl rfl rfl rfl (by decide) (by exact (show ¬ (3 ∈ piOf [true, false, false] 0) by decide)) (by exact (show ¬ (4 ∈ piOf [true, false, false] 0) by decide)) (da_cons (de_cl (k__law_action_line T) b (dm_val (lv 1) (dm_val (lv 2) dm_nil))) (da_cons (de_lc (own := [(("move" : Str), 5)]) b.ok (di_seq b.ok (de_callB (og_sorted b.ok) (by rfl) T.n_sorted bt_sorted (da_cons (lv 2) da_nil))) (blkOk_by (by rfl)) (by decide) (fun _ _ _ _ _ => (pg_name (i := 5) b.blk.ok.nd rfl (by first | exact Or.inl rfl | exact Or.inr rfl))) (tgt_name (by simp)) (by decide) (fun _ _ _ _ _ => dts_nil) (fun _ _ _ _ _ => (de_ms PySem.F.slot_str_join PySem.F.type_str_join (og_join b.blk.ok) de_str (da_cons (lv 5) da_nil)))) da_nil)) (by rfl))
  (dss_cons (dset (i := 6) b (by exact (show ¬ (6 ∈ piOf [true, false, false] 0) by decide)) (de_lst (da_cons (lv 1) (da_cons (de_op (og_add b.ok) (lv 1) de_str) (da_cons (de_op (og_add b.ok) de_str (lv 3)) (da_cons (de_op (og_add b.ok) (lv 3) de_str) (da_cons (de_op (og_add b.ok) (lv 3) de_str) (da_gain (deg_opc (og_add b.ok) (lv 3)) (dat_cons (det_repl (lv 3)) dat_nil)))))))))
  (dss_cons (ds_expr (dappV (de_op (og_add b.ok) de_str (lv 3))))
  (dss_cons (dset (i := 6) b (by exact (show ¬ (6 ∈ piOf [true, false, false] 0) by decide)) (de_op (og_add b.ok) (lv 6) (de_lst (da_cons (de_op (og_add b.ok) (lv 3) de_str) (da_cons (de_ms0 PySem.F.slot_str_upper PySem.F.type_str_upper (og_upper b.ok) (lv 3)) (da_cons (de_op (og_add b.ok) (de_op (og_add b.ok) (lv 1) de_str) (de_ms PySem.F.slot_str_join PySem.F.type_str_join (og_join b.ok) de_str (da_cons (de_op (og_add b.ok) (lv 4) (de_lst (da_cons de_str da_nil))) da_nil))) (da_cons de_str (da_cons de_non (da_cons de_int (da_cons (lv 2) (da_cons (de_tup (da_cons (lv 3) da_nil)) da_nil)))))))))))
  (dss_cons (dset (i := 7) b (by exact (show ¬ (7 ∈ piOf [true, false, false] 0) by decide)) (de_if (dt_cmp (og_ne b.ok) (de_item b.ok (lv 4) (de_un (og_neg b.ok) de_int) (pl_ix fun _ _ => rfl)) de_str (nomark _)) (de_op (og_add b.ok) (lv 4) (de_lst (da_cons de_str da_nil))) (de_op (og_add b.ok) (de_lst (da_cons de_str da_nil)) (lv 4))))
  (dss_cons (dset (i := 6) b (by exact (show ¬ (6 ∈ piOf [true, false, false] 0) by decide)) (de_op (og_add b.ok) (lv 6) (de_lst (da_cons (de_op (og_add b.ok) (lv 1) de_str) (da_cons (de_op (og_add b.ok) (de_op (og_add b.ok) (lv 1) de_str) (de_ms PySem.F.slot_str_join PySem.F.type_str_join (og_join b.ok) de_str (da_cons (lv 7) da_nil))) (da_cons (de_op (og_add b.ok) (de_op (og_add b.ok) (lv 1) de_str) (de_ms PySem.F.slot_str_join PySem.F.type_str_join (og_join b.ok) de_str (da_cons (lv 4) da_nil))) da_nil))))))
  (dss_one (ds_ret (de_cl (k__law_pick T) b (dm_lend (dm_val (de_op (og_add b.ok) (lv 6) (de_lst (da_cons (de_op (og_add b.ok) (de_op (og_add b.ok) (lv 1) de_str) (de_ms PySem.F.slot_str_join PySem.F.type_str_join (og_join b.ok) de_str (da_cons (de_lc (own := [(("turn" : Str), 8)]) b.ok (di_rng1 (by rfl) T.n_range de_int) (blkOk_by (by rfl)) (by decide) (fun _ _ _ _ _ => (pg_name (i := 8) b.blk.ok.nd rfl (by first | exact Or.inl rfl | exact Or.inr rfl))) (tgt_name (by simp)) (by decide) (fun _ _ _ _ _ => dts_nil) (fun _ _ _ _ _ => de_str)) da_nil))) (da_cons (de_op (og_add b.ok) (lv 3) de_str) (da_cons (de_lst (da_cons (lv 3) da_nil)) da_nil))))) dm_nil)))))))))))
theorem c__law_wrong_moves : FnScope ["tape", "moves", "one", "two", "three", "odd", "turn"] ["tape", "moves"] (defScope s__law_wrong_moves) := ⟨rfl, rfl, rfl, by decide +kernel, rfl, by decide +kernel, by decide +kernel⟩
theorem k__law_wrong_moves (T : Tx P K mg base C) : Cl md P w K mg base C 3 "_law_wrong_moves" 2 f__law_wrong_moves := by
  exact cl_def (k := 2) (ks := [true, false]) T.d__law_wrong_moves T.hK c__law_wrong_moves rfl fun f cdv A outer s H E σ0 b =>
  (dss_cons (ds_unp (t := (tT 3 (tsCons (tN 2) (tsCons (tN 3) (tsCons (tN 4) tsNil))))) (pg_tup rfl (pgs_cons (pg_name (i := 2) b.ok.nd rfl (by first | exact Or.inl rfl | exact Or.inr rfl)) (pgs_cons (pg_name (i := 3) b.ok.nd rfl (by first | exact Or.inl rfl | exact Or.inr rfl)) (pgs_cons (pg_name (i := 4) b.ok.nd rfl (by first | exact Or.inl rfl | exact Or.inr rfl)) pgs_nil)))) (by exact (tgt_tk T.hK (tgs_cons (tgt_name (by exact (show ¬ (2 ∈ piOf [true, false] 0) by decide))) (tgs_cons (tgt_name (by exact (show ¬ (3 ∈ piOf [true, false] 0) by decide))) (tgs_cons (tgt_name (by exact (show ¬ (4 ∈ piOf [true, false] 0) by decide))) tgs_nil))))) (de_item b.ok (lv 1) de_int (pl_ix fun _ _ => rfl)))
  (dss_cons (dset (i := 5) b (by exact (show ¬ (5 ∈ piOf [true, false] 0) by decide)) (de_lst (da_cons (lv 1) (da_cons (de_tup da_nil) (da_cons (de_callTy (og_tuple b.ok) (by rfl) T.n_tuple bt_tuple (da_cons (de_op (og_add b.ok) (de_cut b.ok (lv 1) dp_none (dp_some de_int)) (de_lst (da_cons de_non da_nil))) da_nil)) (da_cons (de_callTy (og_tuple b.ok) (by rfl) T.n_tuple bt_tuple (da_cons (de_lc (own := [(("turn" : Str), 6)]) b.ok (di_rng1 (by rfl) T.n_range de_int) (blkOk_by (by rfl)) (by decide) (fun _ _ _ _ _ => (pg_name (i := 6) b.blk.ok.nd rfl (by first | exact Or.inl rfl | exact Or.inr rfl))) (tgt_name (by simp)) (by decide) (fun _ _ _ _ _ => dts_nil) (fun _ _ _ _ _ => (de_item b.blk.ok (lv 1) de_int (pl_ix fun _ _ => rfl)))) da_nil)) (da_cons de_non (da_cons de_int (da_cons de_str (da_cons de_dnew da_nil))))))))))
  (dss_cons (dset (i := 5) b (by exact (show ¬ (5 ∈ piOf [true, false] 0) by decide)) (de_op (og_add b.ok) (lv 5) (de_lst (da_cons (de_tup (da_cons (de_tup (da_cons (lv 2) (da_cons (lv 3) da_nil))) da_nil)) (da_cons (de_tup (da_cons (de_tup (da_cons (lv 2) (da_cons (lv 3) (da_cons (lv 4) (da_cons de_str da_nil))))) da_nil)) (da_cons (de_tup (da_cons (de_lst (da_cons (lv 2) (da_cons (lv 3) (da_cons (lv 4) da_nil)))) da_nil)) (da_cons (de_tup (da_cons (de_tup (da_cons (lv 2) (da_cons (lv 3) (da_cons de_str da_nil)))) da_nil)) (da_cons (de_tup (da_cons (de_tup (da_cons (lv 2) (da_cons (lv 3) (da_cons de_int da_nil)))) da_nil)) da_nil))))))))
  (dss_one (ds_ret (de_cl (k__law_pick T) b (dm_lend (dm_val (de_op (og_add b.ok) (lv 5) (de_lst (da_cons (de_tup (da_cons (de_tup (da_cons (de_ms0 PySem.F.slot_str_upper PySem.F.type_str_upper (og_upper b.ok) (lv 2)) (da_cons (lv 3) (da_cons (lv 4) da_nil)))) da_nil)) (da_cons (de_tup (da_cons (de_tup (da_cons (lv 2) (da_cons (lv 3) (da_cons de_str da_nil)))) da_nil)) (da_cons (de_tup (da_cons (de_tup (da_cons (lv 2) (da_cons (lv 3) (da_cons (de_tup (da_cons (lv 4) da_nil)) da_nil)))) da_nil)) da_nil))))) dm_nil))))))))
theorem c_is_name : FnScope ["value", "letter"] ["value"] (defScope s_is_name) := ⟨rfl, rfl, rfl, by decide +kernel, rfl, by decide +kernel, by decide +kernel⟩
theorem k_is_name (T : Tx P K mg base C) : Cl md P w K mg base C 1 "is_name" 1 f_is_name := by
  exact cl_def (k := 0) (ks := [false]) T.d_is_name T.hK c_is_name rfl fun f cdv A outer s H E σ0 b =>
  (dss_cons (ds_if (dt_w (dw_or (dt_not (dt_tru b.ok (de_isi b.ok (by decide) (lv 0) (by rfl) T.n_isinstance (by rfl) T.n_str bt_str))) (dw_or1 (dt_not (dt_chn (og_le b.ok) (og_le b.ok) de_int (de_callB (og_len b.ok) (by rfl) T.n_len bt_len (da_cons (lv 0) da_nil)) (lgi T.c_MAX_LETTERS))))))
  (dss_one (ds_ret de_bl))
  dss_nil)
  (dss_one (ds_ret (de_callB (og_all b.ok) (by rfl) T.n_all bt_all (da_cons (de_lc (own := [(("letter" : Str), 1)]) b.ok (di_seq b.ok (lv 0)) (blkOk_by (by rfl)) (by decide) (fun _ _ _ _ _ => (pg_name (i := 1) b.blk.ok.nd rfl (by first | exact Or.inl rfl | exact Or.inr rfl))) (tgt_name (by simp)) (by decide) (fun _ _ _ _ _ => dts_nil) (fun _ _ _ _ _ => (de_chn (og_le b.blk.ok) (og_le b.blk.ok) de_str (lv 1) de_str))) da_nil)))))
theorem c_is_move : FnScope ["value", "part"] ["value"] (defScope s_is_move) := ⟨rfl, rfl, rfl, by decide +kernel, rfl, by decide +kernel, by decide +kernel⟩
theorem k_is_move (T : Tx P K mg base C) : Cl md P w K mg base C 2 "is_move" 1 f_is_move := by
  exact cl_def (k := 1) (ks := [false]) T.d_is_move T.hK c_is_move rfl fun f cdv A outer s H E σ0 b =>
  (dss_one (ds_ret (de_and (de_isi b.ok (by decide) (lv 0) (by rfl) T.n_isinstance (by rfl) T.n_tuple bt_tuple) (de_and (de_cmp (og_eq b.ok) (de_callB (og_len b.ok) (by rfl) T.n_len bt_len (da_cons (lv 0) da_nil)) de_int (nomark _)) (de_one (de_callB (og_all b.ok) (by rfl) T.n_all bt_all (da_cons (de_lc (own := [(("part" : Str), 1)]) b.ok (di_seq b.ok (lv 0)) (blkOk_by (by rfl)) (by decide) (fun _ _ _ _ _ => (pg_name (i := 1) b.blk.ok.nd rfl (by first | exact Or.inl rfl | exact Or.inr rfl))) (tgt_name (by simp)) (by decide) (fun _ _ _ _ _ => dts_nil) (fun _ _ _ _ _ => (de_cl (k_is_name T) b.blk (dm_val (lv 1) dm_nil)))) da_nil)))))))
theorem c_are_moves : FnScope ["value", "move"] ["value"] (defScope s_are_moves) := ⟨rfl, rfl, rfl, by decide +kernel, rfl, by decide +kernel, by decide +kernel⟩
theorem k_are_moves (T : Tx P K mg base C) : Cl md P w K mg base C 3 "are_moves" 1 f_are_moves := by
  exact cl_def (k := 2) (ks := [false]) T.d_are_moves T.hK c_are_moves rfl fun f cdv A outer s H E σ0 b =>
  (dss_one (ds_ret (de_and (de_isi b.ok (by decide) (lv 0) (by rfl) T.n_isinstance (by rfl) T.n_tuple bt_tuple) (de_and (de_chn (og_le b.ok) (og_le b.ok) de_int (de_callB (og_len b.ok) (by rfl) T.n_len bt_len (da_cons (lv 0) da_nil)) (lgi T.c_MAX_MOVES)) (de_one (de_callB (og_all b.ok) (by rfl) T.n_all bt_all (da_cons (de_lc (own := [(("move" : Str), 1)]) b.ok (di_seq b.ok (lv 0)) (blkOk_by (by rfl)) (by decide) (fun _ _ _ _ _ => (pg_name (i := 1) b.blk.ok.nd rfl (by first | exact Or.inl rfl | exact Or.inr rfl))) (tgt_name (by simp)) (by decide) (fun _ _ _ _ _ => dts_nil) (fun _ _ _ _ _ => (de_cl (k_is_move T) b.blk (dm_val (lv 1) dm_nil)))) da_nil)))))))
theorem c_Action_init : FnScope ["self", "called", "moves"] ["self", "called", "moves"] (defScope s_Action_init) := ⟨rfl, rfl, rfl, by decide +kernel, rfl, by decide +kernel, by decide +kernel⟩
theorem k_Action_init (T : Tx P K mg base C) : Ctr md P w K mg base C 4 0 3 f_Action_init := by
  exact ctr_def (k := 3) (ks := [true, false, false]) T.m_Action_init T.hK c_Action_init rfl fun f cdv A outer s H E σ0 b =>
  (dss_cons (ds_if (dt_not (dt_tru b.ok (de_cl (k_is_name T) b (dm_val (lv 1) dm_nil))))
  (dss_one (ds_rs b (dx_ow T.x_InvalidName)))
  dss_nil)
  (dss_cons (ds_if (dt_not (dt_tru b.ok (de_cl (k_are_moves T) b (dm_val (lv 2) dm_nil))))
  (dss_one (ds_rs b (dx_ow T.x_InvalidAction)))
  dss_nil)
  (dss_cons (ds_putF (i := 0) T.fs_own_called (lv 1))
  (dss_one (ds_putF (i := 0) T.fs_own_moves (de_callTy (og_tuple b.ok) (by rfl) T.n_tuple bt_tuple (da_cons (de_callB (og_sorted b.ok) (by rfl) T.n_sorted bt_sorted (da_cons (de_callTy (og_list b.ok) (by rfl) T.n_list bt_list (da_cons (lv 2) da_nil)) da_nil)) da_nil)))))))
theorem c_Action_str : FnScope ["self", "move"] ["self"] (defScope s_Action_str) := ⟨rfl, rfl, rfl, by decide +kernel, rfl, by decide +kernel, by decide +kernel⟩
theorem k_Action_str (T : Tx P K mg base C) : StrO md P w K mg base C 1 t_Action_str := by
  exact sro_def (k := 0) (ks := [false]) T.m_Action_str T.hK c_Action_str rfl fun f cdv A outer s H E σ0 b =>
  (dss_one (ds_ret (de_fst (.cons (de_fmt (de_fld T.fs_own_called (lv 0))) (.cons de_str (.cons (de_fmt (de_ms PySem.F.slot_str_join PySem.F.type_str_join (og_join b.ok) de_str (da_cons (de_lc (own := [(("move" : Str), 1)]) b.ok (di_seq b.ok (de_fld T.fs_own_moves (lv 0))) (blkOk_by (by rfl)) (by decide) (fun _ _ _ _ _ => (pg_name (i := 1) b.blk.ok.nd rfl (by first | exact Or.inl rfl | exact Or.inr rfl))) (tgt_name (by simp)) (by decide) (fun _ _ _ _ _ => dts_nil) (fun _ _ _ _ _ => (de_ms PySem.F.slot_str_join PySem.F.type_str_join (og_join b.blk.ok) de_str (da_cons (lv 1) da_nil)))) da_nil))) .nil))))))
theorem c_Action_from_line : FnScope ["cls", "line", "called", "blank", "rest", "moves", "part", "found"] ["cls", "line"] (defScope s_Action_from_line) := ⟨rfl, rfl, rfl, by decide +kernel, rfl, by decide +kernel, by decide +kernel⟩
theorem k_Action_from_line (T : Tx P K mg base C) : Cmt false P w K mg base C 6 0 "from_line" 2 f_Action_from_line := by
  exact cmt_def (k := 5) (ks := [false, false]) T.m_Action_from_line T.hK c_Action_from_line rfl fun f cdv A outer s H E σ0 b =>
  (dss_cons (ds_if (dt_not (dt_tru b.ok (de_isi b.ok (by decide) (lv 1) (by rfl) T.n_isinstance (by rfl) T.n_str bt_str)))
  (dss_one (ds_rs b (dx_sp T.x_ParseError b de_non)))
  dss_nil)
  (dss_cons (ds_unp (t := (tT 3 (tsCons (tN 2) (tsCons (tN 3) (tsCons (tN 4) tsNil))))) (pg_tup rfl (pgs_cons (pg_name (i := 2) b.ok.nd rfl (by first | exact Or.inl rfl | exact Or.inr rfl)) (pgs_cons (pg_name (i := 3) b.ok.nd rfl (by first | exact Or.inl rfl | exact Or.inr rfl)) (pgs_cons (pg_name (i := 4) b.ok.nd rfl (by first | exact Or.inl rfl | exact Or.inr rfl)) pgs_nil)))) (by exact (tgt_tk T.hK (tgs_cons (tgt_name (by exact (show ¬ (2 ∈ piOf [false, false] 0) by decide))) (tgs_cons (tgt_name (by exact (show ¬ (3 ∈ piOf [false, false] 0) by decide))) (tgs_cons (tgt_name (by exact (show ¬ (4 ∈ piOf [false, false] 0) by decide))) tgs_nil))))) (de_ms PySem.F.slot_str_partition PySem.F.type_str_partition (og_part b.ok) (lv 1) (da_cons de_str da_nil)))
  (dss_cons (dset (i := 5) b (by exact (show ¬ (5 ∈ piOf [false, false] 0) by decide)) (de_callTy (og_tuple b.ok) (by rfl) T.n_tuple bt_tuple (da_cons (de_lc (own := [(("part" : Str), 6)]) b.ok (di_seq b.ok (de_ms PySem.F.slot_str_split PySem.F.type_str_split (og_split b.ok) (lv 4) (da_cons de_str da_nil))) (blkOk_by (by rfl)) (by decide) (fun _ _ _ _ _ => (pg_name (i := 6) b.blk.ok.nd rfl (by first | exact Or.inl rfl | exact Or.inr rfl))) (tgt_name (by simp)) (by decide) (fun _ _ _ _ _ => dts_nil) (fun _ _ _ _ _ => (de_callTy (og_tuple b.blk.ok) (by rfl) T.n_tuple bt_tuple (da_cons (de_ms PySem.F.slot_str_split PySem.F.type_str_split (og_split b.blk.ok) (lv 6) (da_cons de_str da_nil)) da_nil)))) da_nil)))
  (dss_cons (ds_trH2 b T.h_InvalidName T.h_InvalidAction (fun _ _ _ b1 hp1 => (dss_one (dset (i := 7) b1 (by exact (show ¬ (7 ∈ piOf [false, false] 0) by decide)) (de_makeV (i := 0) (k_Action_init T) b1 (dm_val (lv 2) (dm_val (lv 5) dm_nil)))))) (fun _ _ _ => dx_sp5 T.x_ParseError b de_non))
  (dss_cons (ds_if (dt_cmp (og_ne b.ok) (de_call1T (og_strA (k_Action_str T) b (by decide)) (by rfl) T.n_str bt_str (lv 7)) (lv 1) (nomark _))
  (dss_one (ds_rs b (dx_sp T.x_ParseError b de_non)))
  dss_nil)
  (dss_one (ds_ret (lv 7))))))))
theorem c_Action_called : FnScope ["self"] ["self"] (defScope s_Action_called) := ⟨rfl, rfl, rfl, by decide +kernel, rfl, by decide +kernel, by decide +kernel⟩
theorem k_Action_called (T : Tx P K mg base C) : Prp md P w K mg base C 1 "called" t_Action_called := by
  exact prp_def (k := 0) (ks := [false]) T.m_Action_called T.hK c_Action_called rfl fun f cdv A outer s H E σ0 b =>
  (dss_one (ds_ret (de_fld T.fs_own_called (lv 0))))
theorem c_Action_moves : FnScope ["self"] ["self"] (defScope s_Action_moves) := ⟨rfl, rfl, rfl, by decide +kernel, rfl, by decide +kernel, by decide +kernel⟩
theorem k_Action_moves (T : Tx P K mg base C) : Prp md P w K mg base C 1 "moves" t_Action_moves := by
  exact prp_def (k := 0) (ks := [false]) T.m_Action_moves T.hK c_Action_moves rfl fun f cdv A outer s H E σ0 b =>
  (dss_one (ds_ret (de_fld T.fs_own_moves (lv 0))))
theorem c_Action_owners : FnScope ["self", "owner", "source", "target"] ["self"] (defScope s_Action_owners) := ⟨rfl, rfl, rfl, by decide +kernel, rfl, by decide +kernel, by decide +kernel⟩
theorem k_Action_owners (T : Tx P K mg base C) : Prp md P w K mg base C 1 "owners" t_Action_owners := by
  exact prp_def (k := 0) (ks := [false]) T.m_Action_owners T.hK c_Action_owners rfl fun f cdv A outer s H E σ0 b =>
  (dss_one (ds_ret (de_callTy (og_tuple b.ok) (by rfl) T.n_tuple bt_tuple (da_cons (de_callB (og_sorted b.ok) (by rfl) T.n_sorted bt_sorted (da_cons (de_callTy (og_list b.ok) (by rfl) T.n_list bt_list (da_cons (de_dc (own := [(("owner" : Str), 1), (("source" : Str), 2), (("target" : Str), 3)]) b.ok (di_seq b.ok (de_fld T.fs_own_moves (lv 0))) (blkOk_by (by rfl)) (by decide) (fun _ _ _ _ _ => (pg_tup rfl (pgs_cons (pg_name (i := 1) b.blk.ok.nd rfl (by first | exact Or.inl rfl | exact Or.inr rfl)) (pgs_cons (pg_name (i := 2) b.blk.ok.nd rfl (by first | exact Or.inl rfl | exact Or.inr rfl)) (pgs_cons (pg_name (i := 3) b.blk.ok.nd rfl (by first | exact Or.inl rfl | exact Or.inr rfl)) pgs_nil))))) (tgt_tk T.hK (tgs_cons (tgt_name (by simp)) (tgs_cons (tgt_name (by simp)) (tgs_cons (tgt_name (by simp)) tgs_nil)))) (by decide) (fun _ _ _ _ _ => dts_nil) (fun _ _ _ _ _ => (lv 1)) (fun _ _ _ _ _ => de_bl)) da_nil)) da_nil)) da_nil))))
theorem c_Action_len : FnScope ["self"] ["self"] (defScope s_Action_len) := ⟨rfl, rfl, rfl, by decide +kernel, rfl, by decide +kernel, by decide +kernel⟩
theorem k_Action_len (T : Tx P K mg base C) : LenO md P w K mg base C 1 t_Action_len := by
  exact lno_def (k := 0) (ks := [false]) T.m_Action_len T.hK c_Action_len rfl fun f cdv A outer s H E σ0 b =>
  (dss_one (ds_ret (de_callB (og_len b.ok) (by rfl) T.n_len bt_len (da_cons (de_fld T.fs_own_moves (lv 0)) da_nil))))
theorem c_Action_eq : FnScope ["self", "value"] ["self", "value"] (defScope s_Action_eq) := ⟨rfl, rfl, rfl, by decide +kernel, rfl, by decide +kernel, by decide +kernel⟩
theorem k_Action_eq (T : Tx P K mg base C) : EqO md P w K mg base C 1 t_Action_eq := by
  exact eqo_def (k := 0) (ks := [false, false]) T.m_Action_eq T.hK c_Action_eq rfl rfl fun f cdv A outer s H E σ0 b =>
  (dss_one (ds_ret (de_and (de_isc b.ok T.i_Action (lv 1) T.n_isinstance) (de_and (de_cmp (og_eq b.ok) (de_fld T.fs_own_called (lv 0)) (de_fld T.fs_own_called (lv 1)) (nomark _)) (de_one (de_cmp (og_eq b.ok) (de_fld T.fs_own_moves (lv 0)) (de_fld T.fs_own_moves (lv 1)) (nomark _)))))))
theorem c__law_right : FnScope ["tape", "called", "moves", "line", "made", "told", "move", "same", "one", "others", "turn", "odd", "name", "bad"] ["tape"] (defScope s__law_right) := ⟨rfl, rfl, rfl, by decide +kernel, rfl, by decide +kernel, by decide +kernel⟩
theorem k__law_right (T : Tx P K mg base C) : Cl false P w K mg base C 9 "_law_right" 1 f__law_right := by
  exact cl_defT (k := 8) (ks := [true]) T.d__law_right T.hK c__law_right rfl fun f cdv A outer s H E σ0 b lx =>
  (dss_cons (ds_unp (t := (tT 2 (tsCons (tN 1) (tsCons (tN 2) tsNil)))) (pg_tup rfl (pgs_cons (pg_name (i := 1) b.ok.nd rfl (by first | exact Or.inl rfl | exact Or.inr rfl)) (pgs_cons (pg_name (i := 2) b.ok.nd rfl (by first | exact Or.inl rfl | exact Or.inr rfl)) pgs_nil))) (by exact (tgt_tk T.hK (tgs_cons (tgt_name (by exact (show ¬ (1 ∈ piOf [true] 0) by decide))) (tgs_cons (tgt_name (by exact (show ¬ (2 ∈ piOf [true] 0) by decide))) tgs_nil)))) (de_tup (da_cons (de_cl (k__law_word_drawn T) b (dm_lend dm_nil)) (da_cons (de_cl (k__law_moves_drawn T) b (dm_lend dm_nil)) da_nil))))
  (dss_cons (dset (i := 3) b (by exact (show ¬ (3 ∈ piOf [true] 0) by decide)) (de_cl (k__law_action_line T) b (dm_val (lv 1) (dm_val (lv 2) dm_nil))))
  (dss_cons (dset (i := 4) b (by exact (show ¬ (4 ∈ piOf [true] 0) by decide)) (de_make (k_Action_init T) T.cl_Action b (dm_val (lv 1) (dm_val (de_callTy (og_tuple b.ok) (by rfl) T.n_tuple bt_tuple (da_cons (lv 2) da_nil)) dm_nil))))
  (dss_cons (dset (i := 5) b (by exact (show ¬ (5 ∈ piOf [true] 0) by decide)) (de_lst (da_cons (de_prop (k_Action_called T) b (lv 4)) (da_cons (de_prop (k_Action_moves T) b (lv 4)) (da_cons (de_prop (k_Action_owners T) b (lv 4)) (da_cons (de_call1 (og_lenA (k_Action_len T) b (by decide)) (by rfl) T.n_len bt_len (lv 4)) (da_cons (de_call1T (og_strA (k_Action_str T) b (by decide)) (by rfl) T.n_str bt_str (lv 4)) da_nil)))))))
  (dss_cons (ds_if (dt_cmpW (og_ne b.ok) (de_lst (da_cons (lv 1) (da_cons (de_callTy (og_tuple b.ok) (by rfl) T.n_tuple bt_tuple (da_cons (de_callB (og_sorted b.ok) (by rfl) T.n_sorted bt_sorted (da_cons (lv 2) da_nil)) da_nil)) (da_cons (de_callTy (og_tuple b.ok) (by rfl) T.n_tuple bt_tuple (da_cons (de_sortS b.ok T.n_sorted T.n_set (de_lc (own := [(("move" : Str), 6)]) b.ok (di_seq b.ok (lv 2)) (blkOk_by (by rfl)) (by decide) (fun _ _ _ _ _ => (pg_name (i := 6) b.blk.ok.nd rfl (by first | exact Or.inl rfl | exact Or.inr rfl))) (tgt_name (by simp)) (by decide) (fun _ _ _ _ _ => dts_nil) (fun _ _ _ _ _ => (de_item b.blk.ok (lv 6) de_int (pl_ix fun _ _ => rfl))))) da_nil)) (da_cons (de_callB (og_len b.ok) (by rfl) T.n_len bt_len (da_cons (lv 2) da_nil)) (da_cons (lv 3) da_nil)))))) (nomark _))
  (dss_one (ds_ret de_bl))
  dss_nil)
  (dss_cons (dset (i := 7) b (by exact (show ¬ (7 ∈ piOf [true] 0) by decide)) (de_lst (da_cons (de_make (k_Action_init T) T.cl_Action b (dm_val (lv 1) (dm_val (de_callTy (og_tuple b.ok) (by rfl) T.n_tuple bt_tuple (da_cons (de_cl (k__law_few T) b (dm_lend (dm_val (lv 2) (dm_val de_int dm_nil)))) da_nil)) dm_nil))) (da_cons (de_cmeth (k_Action_from_line T) T.cl_Action b (dm_val (lv 3) dm_nil)) da_nil))))
  (dss_cons (ds_if (dt_cmp (og_ne b.ok) (de_lc (own := [(("one" : Str), 8)]) b.ok (di_seq b.ok (lv 7)) (blkOk_by (by rfl)) (by decide) (fun _ _ _ _ _ => (pg_name (i := 8) b.blk.ok.nd rfl (by first | exact Or.inl rfl | exact Or.inr rfl))) (tgt_name (by simp)) (by decide) (fun _ _ _ _ _ => (dts_one (dt_w (dw_or (dt_cmpA (op_neA (k_Action_eq T) b.blk (by decide)) (lv 4) (lv 8) (nomark _)) (dw_or (dt_not (dt_cmpA (op_eqA (k_Action_eq T) b.blk (by decide)) (lv 8) (lv 4) (nomark _))) (dw_or1 (dt_cmp (og_ne b.blk.ok) (de_call1T (og_strA (k_Action_str T) b.blk (by decide)) (by rfl) T.n_str bt_str (lv 8)) (lv 3) (nomark _)))))))) (fun _ _ _ _ _ => (lv 8))) (de_lst da_nil) (nomark _))
  (dss_one (ds_ret de_bl))
  dss_nil)
  (dss_cons (dset (i := 9) b (by exact (show ¬ (9 ∈ piOf [true] 0) by decide)) (de_lst (da_cons (de_make (k_Action_init T) T.cl_Action b (dm_val (de_if (dt_cmp (og_lt b.ok) (de_callB (og_len b.ok) (by rfl) T.n_len bt_len (da_cons (lv 1) da_nil)) de_int (nomark _)) (de_op (og_add b.ok) (lv 1) de_str) de_str) (dm_val (de_callTy (og_tuple b.ok) (by rfl) T.n_tuple bt_tuple (da_cons (lv 2) da_nil)) dm_nil))) (da_cons (lv 3) (da_cons de_non (da_cons (de_tup (da_cons (lv 1) (da_cons (de_callTy (og_tuple b.ok) (by rfl) T.n_tuple bt_tuple (da_cons (lv 2) da_nil)) da_nil))) da_nil))))))
  (dss_cons (ds_expr (dappV (de_make (k_Action_init T) T.cl_Action b (dm_val (lv 1) (dm_val (de_callTy (og_tuple b.ok) (by rfl) T.n_tuple bt_tuple (da_cons (de_op (og_add b.ok) (de_cut b.ok (lv 2) (dp_some de_int) dp_none) (de_lst (da_cons (de_tup (da_cons (de_item b.ok (de_item b.ok (lv 2) de_int (pl_ix fun _ _ => rfl)) de_int (pl_ix fun _ _ => rfl)) (da_cons (de_item b.ok (de_item b.ok (lv 2) de_int (pl_ix fun _ _ => rfl)) de_int (pl_ix fun _ _ => rfl)) (da_cons de_str da_nil)))) da_nil))) da_nil)) dm_nil)))))
  (dss_cons (ds_expr (dappV (de_if (dt_cmp (og_lt b.ok) (de_callB (og_len b.ok) (by rfl) T.n_len bt_len (da_cons (lv 2) da_nil)) de_int (nomark _)) (de_make (k_Action_init T) T.cl_Action b (dm_val (lv 1) (dm_val (de_callTy (og_tuple b.ok) (by rfl) T.n_tuple bt_tuple (da_cons (de_op (og_add b.ok) (lv 2) (de_cut b.ok (lv 2) dp_none (dp_some de_int))) da_nil)) dm_nil))) de_non)))
  (dss_cons (ds_if (dt_cmp (og_ne b.ok) (de_lc (own := [(("one" : Str), 8)]) b.ok (di_seq b.ok (lv 9)) (blkOk_by (by rfl)) (by decide) (fun _ _ _ _ _ => (pg_name (i := 8) b.blk.ok.nd rfl (by first | exact Or.inl rfl | exact Or.inr rfl))) (tgt_name (by simp)) (by decide) (fun _ _ _ _ _ => (dts_one (dt_w (dw_or (dt_cmpA (op_eqA (k_Action_eq T) b.blk (by decide)) (lv 4) (lv 8) (nomark _)) (dw_or1 (dt_not (dt_cmpA (op_neA (k_Action_eq T) b.blk (by decide)) (lv 4) (lv 8) (nomark _)))))))) (fun _ _ _ _ _ => (lv 8))) (de_lst da_nil) (nomark _))
  (dss_one (ds_ret de_bl))
  dss_nil)
  (dss_cons (ds_for b.ok (passes_of rfl) (di_rng1 (by rfl) T.n_range de_int) (pg_name (i := 10) b.ok.nd rfl (by first | exact Or.inl rfl | exact Or.inr rfl)) (tgt_name (by exact (show ¬ (10 ∈ piOf [true] 0) by decide)))
  (dss_cons (dset (i := 11) b (by exact (show ¬ (11 ∈ piOf [true] 0) by decide)) (de_cl (k__law_wrong_line T) b (dm_lend (dm_val (lv 1) (dm_val (lv 2) dm_nil)))))
  (dss_one (ds_if (dt_cmp (og_ne b.ok) (de_lam (mt__law_met T) b lx (by rfl) (fun _ _ _ _ _ _ _ bl => (de_cmeth (k_Action_from_line T) T.cl_Action bl (dm_val (lv 11) dm_nil)))) de_str (nomark _))
  (dss_one (ds_ret de_bl))
  dss_nil))))
  (dss_cons (ds_unp (t := (tT 2 (tsCons (tN 12) (tsCons (tN 13) tsNil)))) (pg_tup rfl (pgs_cons (pg_name (i := 12) b.ok.nd rfl (by first | exact Or.inl rfl | exact Or.inr rfl)) (pgs_cons (pg_name (i := 13) b.ok.nd rfl (by first | exact Or.inl rfl | exact Or.inr rfl)) pgs_nil))) (by exact (tgt_tk T.hK (tgs_cons (tgt_name (by exact (show ¬ (12 ∈ piOf [true] 0) by decide))) (tgs_cons (tgt_name (by exact (show ¬ (13 ∈ piOf [true] 0) by decide))) tgs_nil)))) (de_tup (da_cons (de_cl (k__law_pick T) b (dm_lend (dm_val (de_lst (da_cons de_non (da_cons de_int (da_cons de_str (da_cons de_str (da_cons (de_op (og_add b.ok) (lv 1) de_str) (da_cons de_str (da_cons (de_tup (da_cons (lv 1) da_nil)) da_nil)))))))) dm_nil))) (da_cons (de_cl (k__law_wrong_moves T) b (dm_lend (dm_val (lv 2) dm_nil))) da_nil))))
  (dss_cons (dset (i := 5) b (by exact (show ¬ (5 ∈ piOf [true] 0) by decide)) (de_lst (da_cons (de_lam (mt__law_met T) b lx (by rfl) (fun _ _ _ _ _ _ _ bl => (de_make (k_Action_init T) T.cl_Action bl (dm_val (lv 12) (dm_val (lv 13) dm_nil))))) da_nil)))
  (dss_cons (ds_expr (dappV (de_lam (mt__law_met T) b lx (by rfl) (fun _ _ _ _ _ _ _ bl => (de_make (k_Action_init T) T.cl_Action bl (dm_val (lv 1) (dm_val (lv 13) dm_nil)))))))
  (dss_one (ds_ret (de_cmpW (og_eq b.ok) (de_lst (da_cons de_str (da_cons de_str da_nil))) (nomark _)))))))))))))))))))
theorem c_law : FnScope ["script", "at", "tape", "twice", "told"] ["script"] (defScope s_law) := ⟨rfl, rfl, rfl, by decide +kernel, rfl, by decide +kernel, by decide +kernel⟩
theorem k_law {fa c_ T_ : Addr} {fd : FuncData} {oc : Value} {od : Option Addr} {kV doc pm : Value} {an : Option Addr} {ct : Value} {osl : Array (Option Value)} (T : Tx P K mg base C) (efd : fd = PySem.W.fnOf "law" "law" (defArgs s_law) (defBody s_law) (defScope s_law) .none kV doc pm an (.ref c_) ct) (lk : K.lookup fa = some ⟨oc, od, .func fd, osl⟩) (hcd : PySem.W.codeIn K (.ref c_) "law" = true) (TB : LamX.TabB base mg c_ T_) (h1 : (T_, ("law" : Str) ++ ".<locals>." ++ "<lambda>") ∈ C.tabs) (h2 : ∀ p ∈ C.tabs, p.1 = T_ → p.2 = ("law" : Str) ++ ".<locals>." ++ "<lambda>") (hp : ∀ ns : List Int, ns.length ≤ 63 → ∃ ps, f_law [.sh (.lst (ns.map D.int))] = .ok (.sh (.bl true)) ps) : FnOk P w K mg base (L2.CX P w) 10 fa fd ["script"] (spLaw K C.tabs 63) := by
  exact fn_topT (k := 9) (ks := [false]) efd lk hcd TB h1 h2 T.hK c_law rfl (fun f cdv A outer s H E σ0 b lx =>
  (dss_cons (ds_for b.ok (passes_of rfl) (di_rng1 (by rfl) T.n_range (de_callB (og_max b.ok) (by rfl) T.n_max bt_max (da_cons de_int (da_cons (de_callB (og_min b.ok) (by rfl) T.n_min bt_min (da_cons de_int (da_cons (de_callB (og_len b.ok) (by rfl) T.n_len bt_len (da_cons (lv 0) da_nil)) da_nil))) da_nil)))) (pg_name (i := 1) b.ok.nd rfl (by first | exact Or.inl rfl | exact Or.inr rfl)) (tgt_name (by exact (show ¬ (1 ∈ piOf [false] 0) by decide)))
  (dss_cons (dset (i := 2) b (by exact (show ¬ (2 ∈ piOf [false] 0) by decide)) (de_cl (k__law_tape T) b (dm_val (lv 0) (dm_val (lv 1) dm_nil))))
  (dss_one (ds_if (dt_w (dw_or (dt_not (dt_tru b.ok (de_cl (k__law_right T) b (dm_lend dm_nil)))) (dw_or1 (dt_not (dt_tru b.ok (de_cl (k__law_right T) b (dm_lend dm_nil)))))))
  (dss_one (ds_ret de_bl))
  dss_nil))))
  (dss_cons (dset (i := 3) b (by exact (show ¬ (3 ∈ piOf [false] 0) by decide)) (de_make (k_Action_init T) T.cl_Action b (dm_val de_str (dm_val (de_tup (da_cons (de_tup (da_cons de_str (da_cons de_str (da_cons de_str da_nil)))) (da_cons (de_tup (da_cons de_str (da_cons de_str (da_cons de_str da_nil)))) (da_cons (de_tup (da_cons de_str (da_cons de_str (da_cons de_str da_nil)))) da_nil)))) dm_nil))))
  (dss_cons (dset (i := 4) b (by exact (show ¬ (4 ∈ piOf [false] 0) by decide)) (de_lst (da_cons (de_call1T (og_strA (k_Action_str T) b (by decide)) (by rfl) T.n_str bt_str (lv 3)) (da_cons (de_prop (k_Action_owners T) b (lv 3)) (da_cons (de_call1 (og_lenA (k_Action_len T) b (by decide)) (by rfl) T.n_len bt_len (lv 3)) (da_cons (lgi T.c_MAX_MOVES) (da_cons (de_cmpA (op_eqA (k_Action_eq T) b (by decide)) (de_cmeth (k_Action_from_line T) T.cl_Action b (dm_val (de_call1T (og_strA (k_Action_str T) b (by decide)) (by rfl) T.n_str bt_str (lv 3)) dm_nil)) (lv 3) (nomark _)) da_nil)))))))
  (dss_cons (ds_expr (dappV (de_lam (mt__law_met T) b lx (by rfl) (fun _ _ _ _ _ _ _ bl => (de_cmeth (k_Action_from_line T) T.cl_Action bl (dm_val de_str dm_nil))))))
  (dss_one (ds_ret (de_cmpW (og_eq b.ok) (de_lst (da_cons de_str (da_cons (de_tup (da_cons de_str (da_cons de_str da_nil))) (da_cons de_int (da_cons de_int (da_cons de_bl (da_cons de_str da_nil))))))) (nomark _))))))))) hp
end
end
end Kx
end

section
set_option maxRecDepth 100000
set_option maxHeartbeats 4000000
open PySem PySem.Spec PyProof.Rows L2 G
namespace Kx
theorem met_mem {l : List Str} {x y : Str} : y ∈ GS.met l x ↔ y ∈ l ∨ y = x := by
  unfold GS.met
  split
  · next h => exact ⟨.inl, fun e => e.elim id fun e => e ▸ h⟩
  · simp
theorem met_len {l : List Str} {x : Str} : (GS.met l x).length = l.length + 1 ↔ x ∉ l := by
  unfold GS.met
  split
  · next h => simp [h]
  · next h => simp [h]
theorem dl_len : ∀ (ys l : List Str), (ys.foldl GS.met l).length = l.length + ys.length ↔ ys.Nodup ∧ ∀ y ∈ ys, y ∉ l
  | [], l => by simp
  | y :: ys, l => by
    have ih := dl_len ys (GS.met l y)
    have hle := GS.dl_le ys (GS.met l y)
    have hm : (GS.met l y).length ≤ l.length + 1 := by unfold GS.met; split <;> simp
    rw [List.foldl_cons, List.length_cons, List.nodup_cons]
    constructor
    · intro e
      have e1 : (GS.met l y).length = l.length + 1 := by omega
      obtain ⟨n1, n2⟩ := ih.mp (by omega)
      have n3 := met_len.mp e1
      refine ⟨⟨fun h => n2 y h (met_mem.mpr (.inr rfl)), n1⟩, fun z hz => ?_⟩
      rcases List.mem_cons.mp hz with rfl | hz
      · exact n3
      · exact fun h => n2 z hz (met_mem.mpr (.inl h))
    · rintro ⟨⟨n1, n2⟩, n3⟩
      have e1 := met_len.mpr (n3 y List.mem_cons_self)
      have := ih.mpr ⟨n2, fun z hz h => by
        rcases met_mem.mp h with h | h
        · exact n3 z (List.mem_cons_of_mem _ hz) h
        · subst h; exact n1 hz⟩
      omega
theorem dl_nodup (ys : List Str) : (GS.dl ys).length = ys.length ↔ ys.Nodup := by
  have := dl_len ys []
  simpa [GS.dl] using this
theorem dl_mem : ∀ (ys l : List Str) (x : Str), x ∈ ys.foldl GS.met l ↔ x ∈ l ∨ x ∈ ys
  | [], l, x => by simp
  | y :: ys, l, x => by
    rw [List.foldl_cons, dl_mem ys (GS.met l y) x, met_mem, List.mem_cons]
    constructor
    · rintro ((h | h) | h)
      · exact .inl h
      · exact .inr (.inl h)
      · exact .inr (.inr h)
    · rintro (h | h | h)
      · exact .inl (.inl h)
      · exact .inl (.inr h)
      · exact .inr h
theorem srt_dl (ys : List Str) : srtS (GS.dl ys) = srtS ys ↔ ys.Nodup := by
  constructor
  · intro h
    have h1 := (srtS_perm (GS.dl ys)).length_eq
    have h2 := (srtS_perm ys).length_eq
    rw [h] at h1
    exact (dl_nodup ys).mp (by omega)
  · intro h
    exact (srtS_uniq (perm_nodup (dl_nd ys [] List.nodup_nil) (fun x hx => ((dl_mem ys [] x).mp hx).elim (fun h => by simp at h) id) ((dl_nodup ys).mpr h).symm)).symm
end Kx
end

section
set_option maxRecDepth 100000
set_option maxHeartbeats 4000000
open PySem PySem.Spec PyProof.Rows L2
namespace G
/-! reckoning: what the parts are at data that are written out -/
section
variable {ρ : Env'} {f g h k : Fe} {fa : Fa} {t th : Env' → Out Bool} {i j : Nat}
@[simp] theorem ev_sNil : sNil ρ = .nx ρ := rfl
@[simp] theorem ev_sSeq {f g : Fs} : sSeq f g ρ = match f ρ with | .nx ρ1 => g ρ1 | o => o := rfl
@[simp] theorem ev_sIf {f g : Fs} : sIf t f g ρ = (t ρ).then' fun b ρ1 => if b = true then f ρ1 else g ρ1 := rfl
@[simp] theorem ev_sSet : sSet i f ρ = (f ρ).then' fun o ρ1 => if i < ρ1.length then .nx (ρ1.set i (some o)) else .bad := rfl
@[simp] theorem ev_sRet : sRet f ρ = (f ρ).then' fun o ρ1 => .ret o ρ1 := rfl
@[simp] theorem ev_sRetN : sRetN ρ = .ret (.sh .non) ρ := rfl
@[simp] theorem ev_sExpr : sExpr f ρ = (f ρ).then' fun _ ρ1 => .nx ρ1 := rfl
@[simp] theorem ev_sBrk : sBrk ρ = .brk ρ := rfl
@[simp] theorem ev_sCnt : sCnt ρ = .cnt ρ := rfl
@[simp] theorem ev_sPutI : sPutI i f g ρ = (g ρ).then' fun o ρ1 => match lstAt i ρ1 with
    | some _ => (f ρ1).then' fun ko ρ2 => match lstAt i ρ2 with
      | some os => match (intD ko.toD).bind (ixN os.length) with
        | some j => .nx (ρ2.set i (some (.lst (os.set j o))))
        | none => .bad
      | none => .bad
    | none => .bad := rfl
@[simp] theorem ev_sPar : sPar i j fa ρ = (fa ρ).then' fun os ρ1 => match os with
    | [o1, o2] => if i < ρ1.length ∧ j < ρ1.length then .nx ((ρ1.set i (some o1)).set j (some o2)) else .bad
    | _ => .bad := rfl
@[simp] theorem ev_sUnp {t : D → Env' → Option Env'} : sUnp t f ρ = (f ρ).then' fun o ρ1 => match t o.toD ρ1 with | some ρ2 => .nx ρ2 | none => .bad := rfl
@[simp] theorem ev_sFor {fi : Env' → Out (List D)} {t : D → Env' → Option Env'} {b : Fs} : sFor fi t b ρ = (fi ρ).then' fun l ρ1 => forG t b l ρ1 := rfl
@[simp] theorem ev_sRaise {f : Env' → Out Xn} : sRaise f ρ = match f ρ with | .ok x ρ' => .exc x ρ' | .exc x ρ' => .exc x ρ' | .bad => .bad := rfl
@[simp] theorem ev_sTry1 {b : Fs} {m : Nat → Bool} {g : Xn → Fs} : sTry1 b m g ρ = match b ρ with | .exc x ρ' => if m x.cls = true then noXs (g x ρ') else .exc x ρ' | o => o := rfl
@[simp] theorem ev_noXs_ret {o : O} : noXs (.ret o ρ) = .ret o ρ := rfl
@[simp] theorem ev_noXs_nx : noXs (.nx ρ) = .nx ρ := rfl
@[simp] theorem ev_eOwn {n : Nat} : eOwn n ρ = .ok ⟨n, []⟩ ρ := rfl
@[simp] theorem ev_eSup {n : Nat} : eSup n f ρ = (f ρ).bind fun o ρ1 => .ok ⟨n, [o.toD]⟩ ρ1 := rfl
@[simp] theorem ev_eVar : eVar i ρ = match ρ[i]? with
    | some (some (.sh d)) => .ok (.sh d) ρ
    | some (some o) => .ok (.sh o.toD) (ρ.set i (some (.sh o.toD)))
    | _ => .bad := rfl
@[simp] theorem ev_eMove : eMove i ρ = match ρ[i]? with
    | some (some o) => .ok o (ρ.set i none)
    | _ => .bad := rfl
@[simp] theorem ev_eNil : eNil ρ = .ok [] ρ := rfl
@[simp] theorem ev_eCons : eCons f fa ρ = (f ρ).bind fun o ρ1 => (fa ρ1).bind fun os ρ2 => .ok (o :: os) ρ2 := rfl
@[simp] theorem ev_e1 {g : D → Option O} : e1 g f ρ = (f ρ).bind fun a ρ1 => fin (g a.toD) ρ1 := rfl
@[simp] theorem ev_e2 {g : D → D → Option O} : e2 g f h ρ = (f ρ).bind fun a ρ1 => (h ρ1).bind fun b ρ2 => fin (g a.toD b.toD) ρ2 := rfl
@[simp] theorem ev_eN {g : List D → Option O} : eN g fa ρ = (fa ρ).bind fun as ρ1 => fin (g (toDs as)) ρ1 := rfl
@[simp] theorem ev_eTup : eTup fa ρ = (fa ρ).bind fun os ρ1 => if os.length ≤ 1000 then .ok (.sh (.tup (toDs os))) ρ1 else .bad := rfl
@[simp] theorem ev_eLst : eLst fa ρ = (fa ρ).bind fun os ρ1 => if os.length ≤ 1000 then .ok (.lst os) ρ1 else .bad := rfl
@[simp] theorem ev_eTru : eTru f ρ = (f ρ).bind fun o ρ1 => match truG o.toD with | some b => .ok b ρ1 | none => .bad := rfl
@[simp] theorem ev_tNt : tNt t ρ = (t ρ).bind fun b ρ1 => .ok (!b) ρ1 := rfl
@[simp] theorem ev_tAn : tAn t th ρ = (t ρ).bind fun b ρ1 => if b = true then th ρ1 else .ok false ρ1 := rfl
@[simp] theorem ev_tOr : tOr' t th ρ = (t ρ).bind fun b ρ1 => if b = true then .ok true ρ1 else th ρ1 := rfl
@[simp] theorem ev_eIf : eIf t f h ρ = (t ρ).bind fun b ρ1 => if b = true then f ρ1 else h ρ1 := rfl
@[simp] theorem ev_eNot : eNot f ρ = (f ρ).bind fun o ρ1 => match truG o.toD with | some b => .ok (bO (!b)) ρ1 | none => .bad := rfl
@[simp] theorem ev_eAnd : eAnd f h ρ = (f ρ).bind fun o ρ1 => match blD o.toD with | some true => h ρ1 | some false => .ok (bO false) ρ1 | none => .bad := rfl
@[simp] theorem ev_eOr : eOr f h ρ = (f ρ).bind fun o ρ1 => match blD o.toD with | some true => .ok (bO true) ρ1 | some false => h ρ1 | none => .bad := rfl
@[simp] theorem ev_eChn {g g' : D → D → Option O} : eChn g g' f h k ρ = (f ρ).bind fun a ρ1 => (h ρ1).bind fun b ρ2 => match bO? (g a.toD b.toD) with
    | some true => (k ρ2).bind fun c ρ3 => fin (g' b.toD c.toD) ρ3
    | some false => .ok (bO false) ρ2
    | none => .bad := rfl
@[simp] theorem ev_eB : eB f ρ = (f ρ).bind fun o ρ1 => match oB o with | some b => .ok b ρ1 | none => .bad := rfl
@[simp] theorem ev_e1v {g : D → Option O} {v : Env' → Option D} : e1v g v ρ = match (v ρ).bind g with | some (.sh d) => if scD d = true then .ok (.sh d) ρ else .bad | _ => .bad := rfl
@[simp] theorem ev_e1l {g : List D → Option O} {v : Env' → Option D} : e1l g v ρ = match (v ρ).bind fun d => g [d] with | some (.sh d) => if scD d = true then .ok (.sh d) ρ else .bad | _ => .bad := rfl
@[simp] theorem ev_e2v {g : D → D → Option O} {v : Env' → Option D} : e2v g f v ρ = (f ρ).bind fun a ρ1 => e1v (g a.toD) v ρ1 := rfl
@[simp] theorem ev_e2w {g : D → D → Option O} : e2w i g h ρ = match vVar i ρ with | some _ => (h ρ).bind fun b ρ1 => e1v (fun d => g d b.toD) (vVar i) ρ1 | none => .bad := rfl
@[simp] theorem ev_vVar : vVar i ρ = match ρ[i]? with | some (some o) => some o.toD | _ => none := rfl
@[simp] theorem ev_lstAt : lstAt i ρ = match ρ[i]? with | some (some (.lst os)) => some os | _ => none := rfl
@[simp] theorem ev_eItemO : eItemO i f ρ = match lstAt i ρ with
    | some _ => (f ρ).bind fun k ρ1 => match lstAt i ρ1 with
      | some os => match (intD k.toD).bind (atI os) with
        | some (.sh d) => .ok (.sh d) ρ1
        | _ => .bad
      | none => .bad
    | none => .bad := rfl
@[simp] theorem ev_eApp : eApp i f ρ = match lstAt i ρ with
    | some _ => (f ρ).bind fun o ρ1 => match lstAt i ρ1 with
      | some os => if os.length < big then .ok (.sh .non) (ρ1.set i (some (.lst (os ++ [o])))) else .bad
      | none => .bad
    | none => .bad := rfl
@[simp] theorem ev_ePopA : ePopA i f ρ = match lstAt i ρ with
    | some _ => (f ρ).bind fun k ρ1 => match lstAt i ρ1 with
      | some os => match intD k.toD with
        | some n => match seqIndex? n os.length with
          | some j => if sm n = true then match os[j]? with
            | some o => .ok o (ρ1.set i (some (.lst (os.eraseIdx j))))
            | none => .bad
            else .bad
          | none => .bad
        | none => .bad
      | none => .bad
    | none => .bad := rfl
@[simp] theorem ev_eMs {g : Str → List D → Option O} : eMs g f fa ρ = (f ρ).bind fun o ρ1 => match o.toD with | .str a => eN (g a) fa ρ1 | _ => .bad := rfl
@[simp] theorem ev_eCut {lo hi : Option Fe} : eCut f lo hi ρ = (f ρ).bind fun o ρ1 => (ePart lo ρ1).bind fun i ρ2 => (ePart hi ρ2).bind fun j ρ3 => fin (cutG o.toD i j) ρ3 := rfl
@[simp] theorem ev_iSeq : iSeq f ρ = (f ρ).bind fun o ρ1 => match itD o.toD with | some l => .ok l ρ1 | none => .bad := rfl
@[simp] theorem ev_iRng1 : iRng1 f ρ = (f ρ).bind fun o ρ1 => match intD o.toD with
    | some j => if sm j = true then .ok ((List.range j.toNat).map fun (k : Nat) => .int k) ρ1 else .bad
    | none => .bad := rfl
@[simp] theorem ev_eLend : eLend i fa ρ = match ρ[i]? with | some (some _) => fa ρ | _ => .bad := rfl
@[simp] theorem ev_tN {d : D} : tN i d ρ = if i < ρ.length then some (ρ.set i (some (.sh d))) else none := rfl
@[simp] theorem ev_ttY : ttY ρ = .ok true ρ := rfl
@[simp] theorem ev_eCall {g : Fn} {ms : List (Option Nat)} : eCall g ms fa ρ = (fa ρ).bind fun os ρ1 => match takeL ms os ρ1 with
  | some (os', ρ2) => match g os' with
    | .ok o ps => match putL ms ps ρ2 with
      | some ρ3 => .ok o ρ3
      | none => .bad
    | .exc x ps => match putL ms ps ρ2 with
      | some ρ3 => .exc x ρ3
      | none => .bad
    | .bad => .bad
  | none => .bad := rfl
@[simp] theorem toD_lst {l : List O} : (O.lst l).toD = .lst (toDs l) := rfl
@[simp] theorem toD_dct {l : List (Kd × O)} : (O.dct l).toD = .dct (toDk l) := rfl
@[simp] theorem toDs_nil : toDs [] = [] := rfl
@[simp] theorem toDs_cons {o : O} {l : List O} : toDs (o :: l) = o.toD :: toDs l := rfl
@[simp] theorem intD_int {n : Int} : G.intD (.int n) = some n := rfl
@[simp] theorem blD_bl {b : Bool} : blD (.bl b) = some b := rfl
@[simp] theorem oB_bl {b : Bool} : oB (.sh (.bl b)) = some b := rfl
@[simp] theorem bO?_bl {b : Bool} : bO? (some (.sh (.bl b))) = some b := rfl
@[simp] theorem scD_int {n : Int} : scD (.int n) = true := rfl
@[simp] theorem scD_bl {b : Bool} : scD (.bl b) = true := rfl
@[simp] theorem scD_str {x : Str} : scD (.str x) = true := rfl
@[simp] theorem truG_bl {b : Bool} : truG (.bl b) = some b := rfl
@[simp] theorem addG_ii {a b : Int} : addG (.int a) (.int b) = some (iO (a + b)) := rfl
@[simp] theorem subG_ii {a b : Int} : subG (.int a) (.int b) = some (iO (a - b)) := rfl
theorem mulG_ok {a b : Int} (h : a.natAbs.log2 + b.natAbs.log2 < 1000000) : mulG (.int a) (.int b) = some (iO (a * b)) := if_pos h
@[simp] theorem modG_ii {a b : Int} : modG (.int a) (.int b) = if 0 < b then some (iO (a % b)) else none := rfl
theorem fdivG_ok {a b : Int} (h : 0 < b) (h2 : b.natAbs.log2 < 9000) : fdivG (.int a) (.int b) = some (iO (a / b)) := if_pos ⟨h, h2⟩
@[simp] theorem negG_i {a : Int} : negG (.int a) = some (iO (-a)) := rfl
@[simp] theorem gLt_ii {a b : Int} : gLt (.int a) (.int b) = some (bO (decide (a < b))) := rfl
@[simp] theorem gGt_ii {a b : Int} : gGt (.int a) (.int b) = some (bO (decide (b < a))) := rfl
@[simp] theorem gLe_ii {a b : Int} : gLe (.int a) (.int b) = some (bO (!decide (b < a))) := rfl
@[simp] theorem gGe_ii {a b : Int} : gGe (.int a) (.int b) = some (bO (!decide (a < b))) := rfl
@[simp] theorem gEq_ii {a b : Int} : gEq (.int a) (.int b) = some (bO (a == b)) := rfl
@[simp] theorem gNe_ii {a b : Int} : gNe (.int a) (.int b) = some (bO (!(a == b))) := rfl
@[simp] theorem gEq_ss {a b : Str} : gEq (.str a) (.str b) = some (bO (a == b)) := rfl
@[simp] theorem gNe_ss {a b : Str} : gNe (.str a) (.str b) = some (bO (!(a == b))) := rfl
@[simp] theorem gEq_bb {a b : Bool} : gEq (.bl a) (.bl b) = some (bO (a == b)) := rfl
@[simp] theorem gNe_bb {a b : Bool} : gNe (.bl a) (.bl b) = some (bO (!(a == b))) := rfl
@[simp] theorem lenG_l {l : List D} : lenG [.lst l] = some (iO l.length) := rfl
@[simp] theorem lenG_t {l : List D} : lenG [.tup l] = some (iO l.length) := rfl
@[simp] theorem lenG_d {l : List (Kd × D)} : lenG [.dct l] = some (iO l.length) := rfl
@[simp] theorem lenG_s {x : Str} : lenG [.str x] = if x.length ≤ big then some (iO x.length) else none := rfl
@[simp] theorem absG_i {i : Int} : absG [.int i] = some (iO (if i < 0 then -i else i)) := rfl
@[simp] theorem maxG_ii {i j : Int} : maxG [.int i, .int j] = some (iO (if j > i then j else i)) := rfl
@[simp] theorem minG_ii {i j : Int} : minG [.int i, .int j] = some (iO (if j < i then j else i)) := rfl
@[simp] theorem intG_i {i : Int} : intG [.int i] = some (iO i) := rfl
@[simp] theorem intG_b {b : Bool} : intG [.bl b] = some (iO (if b then 1 else 0)) := rfl
@[simp] theorem itemG_li {l : List D} {i : Int} : itemG (.lst l) (.int i) = (atI l i).map .sh := rfl
@[simp] theorem itemG_ti {l : List D} {i : Int} : itemG (.tup l) (.int i) = (atI l i).map .sh := rfl
end
theorem fnG_eq {N : Nat} {ks : List Bool} {body : Fs} {os : List O} : fnG N ks body os = match body (os.map some ++ List.replicate (N - os.length) none) with
 | .nx ρ => .ok (.sh .non) (keepL ks ρ)
 | .ret o ρ => .ok o (keepL ks ρ)
 | .exc x ρ => .exc x (keepL ks ρ)
 | _ => .bad := rfl
@[simp] theorem keepL_nil {ρ : Env'} : keepL [] ρ = [] := rfl
@[simp] theorem keepL_t {ks : List Bool} {r : Option O} {ρ : Env'} : keepL (true :: ks) (r :: ρ) = r :: keepL ks ρ := rfl
@[simp] theorem keepL_f {ks : List Bool} {r : Option O} {ρ : Env'} : keepL (false :: ks) (r :: ρ) = none :: keepL ks ρ := rfl
@[simp] theorem takeL_nil {ρ : Env'} : takeL [] [] ρ = some ([], ρ) := rfl
@[simp] theorem takeL_none {ms : List (Option Nat)} {o : O} {os : List O} {ρ : Env'} : takeL (none :: ms) (o :: os) ρ = (takeL ms os ρ).map fun p => (o :: p.1, p.2) := rfl
@[simp] theorem takeL_some {ms : List (Option Nat)} {i : Nat} {os : List O} {ρ : Env'} : takeL (some i :: ms) os ρ = match ρ[i]? with
    | some (some o) => (takeL ms os (ρ.set i none)).map fun p => (o :: p.1, p.2)
    | _ => none := by cases os <;> rfl
@[simp] theorem putL_nil {ρ : Env'} : putL [] [] ρ = some ρ := rfl
@[simp] theorem putL_none {ms : List (Option Nat)} {r : Option O} {ps ρ : Env'} : putL (none :: ms) (r :: ps) ρ = putL ms ps ρ := rfl
@[simp] theorem putL_some {ms : List (Option Nat)} {i : Nat} {r : Option O} {ps ρ : Env'} : putL (some i :: ms) (r :: ps) ρ = match ρ[i]? with
    | some none => putL ms ps (ρ.set i r)
    | _ => none := rfl
/-! a comprehension whose parts change nothing -/
theorem lcG_pure {i : Nat} {tt : Env' → Out Bool} {te : Fe} {ρ : Env'} {p : D → Bool} {v : D → O} (h0 : ρ[i]? = some none) : ∀ {l : List D} {acc : List O}, (∀ d ∈ l, tt (ρ.set i (some (.sh d))) = .ok (p d) (ρ.set i (some (.sh d)))) →
    (∀ d ∈ l, p d = true → te (ρ.set i (some (.sh d))) = .ok (v d) (ρ.set i (some (.sh d)))) → acc.length + l.length < big → lcG (tN i) tt te [i] l ρ acc = .ok (acc ++ (l.filter p).map v) ρ
  | [], acc, _, _, _ => by simp [lcG]
  | d :: l, acc, ht, he, hb => by
    have hi : i < ρ.length := (List.getElem?_eq_some_iff.mp h0).1
    have hw : ∀ x, wipeE (ρ.set i x) [i] = ρ := fun x => by
      show (ρ.set i x).set i none = ρ
      rw [List.set_set, set_at h0]
    have hb' : acc.length < big := by simp at hb; omega
    unfold lcG
    simp only [ev_tN, hi, if_true, ht d List.mem_cons_self, bind_ok, hw]
    cases hp : p d with
    | true =>
      simp only [he d List.mem_cons_self hp, if_true, bind_ok, hb', hw]
      rw [lcG_pure h0 (fun x hx => ht x (List.mem_cons_of_mem _ hx)) (fun x hx => he x (List.mem_cons_of_mem _ hx)) (by simp at hb ⊢; omega), List.filter_cons_of_pos hp]
      simp
    | false =>
      simp only [Bool.false_eq_true, if_false]
      rw [lcG_pure h0 (fun x hx => ht x (List.mem_cons_of_mem _ hx)) (fun x hx => he x (List.mem_cons_of_mem _ hx)) (by simp at hb ⊢; omega), List.filter_cons_of_neg (by simp [hp])]
theorem eLc_pure {i : Nat} {fi : Env' → Out (List D)} {tt : Env' → Out Bool} {te : Fe} {ρ : Env'} {l : List D} {p : D → Bool} {v : D → O} (hf : fi ρ = .ok l ρ) (h0 : ρ[i]? = some none ∨ ∃ d, ρ[i]? = some (some (.sh d)))
    (ht : ∀ d ∈ l, tt (ρ.set i (some (.sh d))) = .ok (p d) (ρ.set i (some (.sh d)))) (he : ∀ d ∈ l, p d = true → te (ρ.set i (some (.sh d))) = .ok (v d) (ρ.set i (some (.sh d)))) (hb : l.length < big) :
    eLc fi (tN i) tt te [i] ρ = .ok (.lst ((l.filter p).map v)) ρ := by
  have hi : i < ρ.length := by
    rcases h0 with h | ⟨d, h⟩
    · exact (List.getElem?_eq_some_iff.mp h).1
    · exact (List.getElem?_eq_some_iff.mp h).1
  have hs : shAll ρ [i] = true := by
    rcases h0 with h | ⟨d, h⟩ <;> simp [shAll, h]
  have e := lcG_pure (ρ := ρ.set i none) (tt := tt) (te := te) (p := p) (v := v) (l := l) (acc := []) (i := i) (by simp [hi]) (fun d hd => by rw [List.set_set]; exact ht d hd) (fun d hd hp => by rw [List.set_set]; exact he d hd hp) (by simpa using hb)
  unfold eLc
  have ew : wipeE ρ [i] = ρ.set i none := rfl
  rw [hf]
  simp only [bind_ok, hs, if_true, ew, e, noX, List.nil_append]
  have eb : backE ρ (ρ.set i none) [i] = ρ := by
    show (ρ.set i none).set i (ρ[i]?.getD none) = ρ
    rw [List.set_set]
    rcases h0 with h | ⟨d, h⟩ <;> (rw [h]; exact set_at h)
  rw [eb]
end G
end

section
set_option maxRecDepth 100000
set_option maxHeartbeats 4000000
open PySem PySem.Spec PyProof.Rows L2
namespace G
/-! reckoning: the parts about instances, texts, clauses -/
section
variable {ρ : Env'} {f h : Fe} {fa : Fa} {i c : Nat} {g : Fn} {ms : List (Option Nat)} {T : Nat → Option Fn}
@[simp] theorem ev_eGiven {o : O} : eGiven o ρ = .ok o ρ := rfl
@[simp] theorem ev_eMth : eMth T ms f fa ρ = (f ρ).bind fun o ρ1 => match o.toD with
  | .ins c l => match T c with
    | some g => eCall g (none :: ms) (eCons (eGiven (.sh (.ins c l))) fa) ρ1
    | none => .bad
  | _ => .bad := rfl
@[simp] theorem ev_ePrp : ePrp T f ρ = eMth (fun c => (T c).map fnNx) [] f eNil ρ := rfl
@[simp] theorem ev_sPutF {gs : Nat → Option Nat} : sPutF i gs f ρ = (f ρ).then' fun o ρ1 => match insAt i ρ1 with
  | some (c, l) => match (gs c).bind fun j => putFO j o l with
    | some l' => .nx (ρ1.set i (some (.ins c l')))
    | none => .bad
  | none => .bad := rfl
@[simp] theorem ev_insAt : insAt i ρ = match ρ[i]? with | some (some (.ins c l)) => some (c, l) | _ => none := rfl
@[simp] theorem ev_eMake : eMake c g ms fa ρ = (fa ρ).bind fun os ρ1 => match takeL ms os ρ1 with
  | some (os', ρ2) => match g (.ins c [] :: os') with
    | .ok (.sh .non) (some self :: ps) => match putL ms ps ρ2 with
      | some ρ3 => .ok self ρ3
      | none => .bad
    | .exc x (_ :: ps) => match putL ms ps ρ2 with
      | some ρ3 => .exc x ρ3
      | none => .bad
    | _ => .bad
  | none => .bad := rfl
@[simp] theorem ev_clAt : clAt i ρ = match ρ[i]? with | some (some (.sh (.cl c'))) => some c' | _ => none := rfl
@[simp] theorem ev_eMakeV : eMakeV i c g ms fa ρ = if clAt i ρ = some c then eMake c g ms fa ρ else .bad := rfl
@[simp] theorem ev_eCmth : eCmth c g ms fa ρ = eCall g (none :: ms) (eCons (eGiven (.sh (.cl c))) fa) ρ := rfl
@[simp] theorem ev_fldG {gs : Nat → Option Nat} {l : List D} : fldG gs (.ins c l) = match gs c with | some j => (l[j]?).map .sh | none => none := rfl
@[simp] theorem ev_sTryH {b : Fs} {m : Nat → Bool} {fx : Env' → Out Xn} : sTryH b m fx ρ = match b ρ with
  | .exc x ρ1 => if m x.cls = true then (match fx ρ1 with
    | .ok y ρ2 => .exc y ρ2
    | _ => .bad) else .exc x ρ1
  | r => r := rfl
@[simp] theorem ev_eLam {hs : Hds} {fin : Option Str} : eLam hs fin f ρ = metG hs fin (f ρ) := rfl
@[simp] theorem toD_ins {l : List O} : (O.ins c l).toD = .ins c (toDs l) := rfl
@[simp] theorem one_self : one c g c = some g := by simp [one]
@[simp] theorem ev_eFjn0 {acc : Str} : eFjn [] acc ρ = .ok (sO acc) ρ := rfl
@[simp] theorem ev_eFjn {fs : List Fe} {acc : Str} : eFjn (f :: fs) acc ρ = (f ρ).bind fun o ρ1 => match o.toD with
    | .str y => if (acc ++ y).length ≤ big then eFjn fs (acc ++ y) ρ1 else .bad
    | _ => .bad := rfl
end
end G
end

section
set_option maxRecDepth 100000
set_option maxHeartbeats 4000000
open PySem PySem.Spec PyProof.Rows L2 G
namespace Kx
/-! the drawing of what a law looks at -/
def Tp (k : Nat) (o : O) : Prop := ∃ g b t : Int, o = .lst [iO g, iO b, iO t] ∧ 0 ≤ g ∧ 0 ≤ b ∧ b < 2 ^ 62 ∧ 0 ≤ t ∧ t ≤ k
theorem log_lt {a : Int} {n : Nat} (h1 : 0 ≤ a) (h2 : a < 2 ^ n) : a.natAbs.log2 < n + 1 := by
  by_cases e : a.natAbs = 0
  · rw [e]; simp
  · have : a.natAbs < 2 ^ n := by
      have : (a.natAbs : Int) < ((2 ^ n : Nat) : Int) := by
        rw [Int.natAbs_of_nonneg h1]; simpa using h2
      exact Int.ofNat_lt.mp this
    have := (Nat.log2_lt e).mpr this
    omega
theorem ix0 {x y z : O} : atI [x, y, z] 0 = some x := rfl
theorem ix1 {x y z : O} : atI [x, y, z] 1 = some y := rfl
theorem ix2 {x y z : O} : atI [x, y, z] 2 = some z := rfl
theorem ixn0 : ixN 3 0 = some 0 := rfl
theorem ixn1 : ixN 3 1 = some 1 := rfl
theorem ixn2 : ixN 3 2 = some 2 := rfl
theorem roll {k : Nat} {o : O} {n : Int} (h : Tp k o) (hk : k < 2 ^ 40) (h0 : 0 < n) (h1 : n < 2 ^ 100) : ∃ r o', f__law_roll [o, .sh (.int n)] = .ok (.sh (.int r)) [some o', none] ∧ 0 ≤ r ∧ r < n ∧ Tp (k + 1) o' := by
  obtain ⟨g, b, t, rfl, hg, hb, hb2, ht, ht2⟩ := h
  by_cases c : 0 < g
  · refine ⟨g % n, .lst [iO (g / n), iO b, iO t], ?_, Int.emod_nonneg _ (by omega), Int.emod_lt_of_pos _ h0, g / n, b, t, rfl, Int.ediv_nonneg hg (by omega), hb, hb2, ht, by push_cast; omega⟩
    have l1 : fdivG (.int g) (.int n) = some (iO (g / n)) := fdivG_ok h0 (by have := log_lt (Int.le_of_lt h0) h1; omega)
    simp [f__law_roll, fnG_eq, b__law_roll, ix0, ixn0, c, h0, l1]
  · have e : g = 0 := by omega
    subst e
    have t1 : t + 1 < 2 ^ 41 := by
      have : (k : Int) < 2 ^ 40 := by exact_mod_cast hk
      omega
    have one0 : 0 ≤ (b + 900107 * (t + 1)) % 2305843009213693951 := Int.emod_nonneg _ (by decide)
    have one1 : (b + 900107 * (t + 1)) % 2305843009213693951 < 2 ^ 62 := Int.lt_trans (Int.emod_lt_of_pos _ (by decide)) (by decide)
    generalize hone : (b + 900107 * (t + 1)) % 2305843009213693951 = one at one0 one1
    have sq0 : 0 ≤ one * one % 1152921504606846883 := Int.emod_nonneg _ (by decide)
    have sq1 : one * one % 1152921504606846883 < 2 ^ 62 := Int.lt_trans (Int.emod_lt_of_pos _ (by decide)) (by decide)
    generalize hsq : one * one % 1152921504606846883 = sq at sq0 sq1
    have l1 := log_lt (by omega : 0 ≤ t + 1) t1
    have l2 := log_lt one0 one1
    have l3 := log_lt sq0 sq1
    have m1 : (900107 : Int).natAbs.log2 = 19 := by decide
    have m2 : (7919 : Int).natAbs.log2 = 12 := by decide
    have c1 : mulG (.int 900107) (.int (t + 1)) = some (iO (900107 * (t + 1))) := mulG_ok (by omega)
    have c2 : mulG (.int one) (.int one) = some (iO (one * one)) := mulG_ok (by omega)
    have c3 : mulG (.int sq) (.int one) = some (iO (sq * one)) := mulG_ok (by omega)
    have c4 : mulG (.int 7919) (.int (t + 1)) = some (iO (7919 * (t + 1))) := mulG_ok (by omega)
    have c5 : ∀ x, fdivG (.int x) (.int 32) = some (iO (x / 32)) := fun x => fdivG_ok (by decide) (by decide)
    refine ⟨(sq * one + 7919 * (t + 1) + b) % 4398046511093 / 32 % n, .lst [iO 0, iO b, iO (t + 1)], ?_, Int.emod_nonneg _ (by omega), Int.emod_lt_of_pos _ h0, 0, b, t + 1, rfl, by decide, hb, hb2, by omega, by push_cast; omega⟩
    simp [f__law_roll, fnG_eq, b__law_roll, ix0, ix1, ix2, ixn0, ixn1, ixn2, h0, c1, c2, c3, c4, c5, hone, hsq]
theorem powG_ok {a b : Int} (h : 0 ≤ b ∧ (Builtin.Int.intBits a : Int) * b ≤ 2 ^ 27) : powG (.int a) (.int b) = some (iO (a ^ b.toNat)) := if_pos h
def T57 : Int := 10 ^ 57
def T570 : Int := T57 ^ 10
def T18 : Int := 10 ^ 18
theorem pow1 : powG (.int 10) (.int 57) = some (iO T57) := powG_ok (a := 10) (b := 57) (by decide +kernel)
theorem pow2 : powG (.int T57) (.int 10) = some (iO T570) := powG_ok (a := T57) (b := 10) (by decide +kernel)
theorem pow3 : powG (.int 10) (.int 18) = some (iO T18) := powG_ok (a := 10) (b := 18) (by decide +kernel)
theorem T570_pos : 0 < T570 := by decide +kernel
theorem T570_lt : T570 < 2 ^ 2000 := by decide +kernel
theorem at_nat {α : Type} {l : List α} {j : Nat} (h : j < l.length) : atI l (j : Int) = some l[j] := by
  unfold atI ixN
  rw [if_pos (Int.natCast_nonneg j), if_pos (by exact_mod_cast h)]
  simp [h]
theorem tape {ns : List Int} {j : Nat} (hj : j < 64) : ∃ o, f__law_tape [.sh (.lst (ns.map D.int)), .sh (.int j)] = .ok o [none, none] ∧ Tp 0 o := by
  have hj' : (j : Int) < 2 ^ 20 := by omega
  obtain ⟨c, hc⟩ : ∃ c : Int, (if (j : Int) < ns.length then atI (ns.map D.int) j = some (.int c) else c = 83 * j + 17) := by
    by_cases h : j < ns.length
    · refine ⟨ns[j], ?_⟩
      rw [if_pos (by exact_mod_cast h), at_nat (by simpa using h)]
      simp
    · exact ⟨_, by rw [if_neg (by exact_mod_cast h)]⟩
  have gr0 : 0 ≤ (if c < 0 then -c else c) % T570 := Int.emod_nonneg _ (by have := T570_pos; omega)
  have gr1 : (if c < 0 then -c else c) % T570 < 2 ^ 2000 := Int.lt_trans (Int.emod_lt_of_pos _ T570_pos) T570_lt
  generalize hgr : (if c < 0 then -c else c) % T570 = great at gr0 gr1
  have l1 := log_lt gr0 gr1
  have l2 := log_lt (Int.natCast_nonneg j) hj'
  have k1 : (1000193 : Int).natAbs.log2 = 19 := by decide
  have k2 : (8221 : Int).natAbs.log2 = 13 := by decide
  have k3 : (83 : Int).natAbs.log2 = 6 := by decide
  have m1 : mulG (.int great) (.int 1000193) = some (iO (great * 1000193)) := mulG_ok (by omega)
  have m2 : mulG (.int 8221) (.int j) = some (iO (8221 * j)) := mulG_ok (by omega)
  have m3 : mulG (.int 83) (.int j) = some (iO (83 * j)) := mulG_ok (by omega)
  have m4 : mulG (.int 41) (.int (if c < 0 then 1 else 0)) = some (iO (41 * (if c < 0 then 1 else 0))) := mulG_ok (by split <;> decide)
  have p0 := T570_pos
  have fin' : ∀ b : Int, (∃ o, o = O.lst [iO (if great - T18 > 0 then great - T18 else 0), iO (b % 2305843009213693907), iO 0] ∧ Tp 0 o) := fun b => ⟨_, rfl, _, _, _, rfl, by split <;> omega, Int.emod_nonneg _ (by decide), Int.lt_trans (Int.emod_lt_of_pos _ (by decide)) (by decide), Int.le_refl _, by simp⟩
  obtain ⟨o, eo, ho⟩ := fin' (great * 1000193 + 8221 * j + 41 * (if c < 0 then 1 else 0) + 5)
  refine ⟨o, ?_, ho⟩
  subst eo
  by_cases h : (j : Int) < ns.length
  · rw [if_pos h] at hc
    simp [f__law_tape, fnG_eq, b__law_tape, h, hc, pow1, pow2, pow3, m1, m2, m3, m4, p0, hgr]
  · rw [if_neg h] at hc
    simp [f__law_tape, fnG_eq, b__law_tape, h, ← hc, pow1, pow2, pow3, m1, m2, m3, m4, p0, hgr]
end Kx
end

section
set_option maxRecDepth 100000
set_option maxHeartbeats 4000000
open PySem PySem.Spec PyProof.Rows L2 G
namespace Kx
theorem nat_of {r : Int} {n : Nat} (h0 : 0 ≤ r) (h1 : r < (n : Int)) : ∃ j : Nat, r = (j : Int) ∧ j < n := ⟨r.toNat, by omega, by omega⟩
theorem pick_l {k : Nat} {o : O} {l : List D} (h : Tp k o) (hk : k < 2 ^ 40) (hl : 0 < l.length) (h1 : l.length < 2 ^ 60) : ∃ d o', f__law_pick [o, .lst (l.map O.sh)] = .ok (.sh d) [some o', none] ∧ d ∈ l ∧ Tp (k + 1) o' := by
  obtain ⟨r, o', er, r0, r1, ht⟩ := roll (n := (l.length : Int)) h hk (by exact_mod_cast hl) (by omega)
  obtain ⟨j, rfl, hj⟩ := nat_of r0 r1
  refine ⟨l[j], o', ?_, List.getElem_mem hj, ht⟩
  simp [f__law_pick, fnG_eq, b__law_pick, toDs_sh, er, at_nat hj]
theorem pick_sl {k : Nat} {o : O} {l : List D} (h : Tp k o) (hk : k < 2 ^ 40) (hl : 0 < l.length) (h1 : l.length < 2 ^ 60) : ∃ d o', f__law_pick [o, .sh (.lst l)] = .ok (.sh d) [some o', none] ∧ d ∈ l ∧ Tp (k + 1) o' := by
  obtain ⟨r, o', er, r0, r1, ht⟩ := roll (n := (l.length : Int)) h hk (by exact_mod_cast hl) (by omega)
  obtain ⟨j, rfl, hj⟩ := nat_of r0 r1
  refine ⟨l[j], o', ?_, List.getElem_mem hj, ht⟩
  simp [f__law_pick, fnG_eq, b__law_pick, er, at_nat hj]
theorem itemG_s {x : Str} {i : Int} (h : x.length ≤ big) : itemG (.str x) (.int i) = (atI x.cps.toList i).map fun c => sO ⟨#[c]⟩ := if_pos h
theorem pick_s {k : Nat} {o : O} {x : Str} (h : Tp k o) (hk : k < 2 ^ 40) (hl : 0 < x.length) (h1 : x.length ≤ big) : ∃ c o', f__law_pick [o, .sh (.str x)] = .ok (sO ⟨#[c]⟩) [some o', none] ∧ c ∈ x.cps.toList ∧ Tp (k + 1) o' := by
  have hb : big = 1000000 := rfl
  obtain ⟨r, o', er, r0, r1, ht⟩ := roll (n := (x.length : Int)) h hk (by exact_mod_cast hl) (by omega)
  obtain ⟨j, rfl, hj⟩ := nat_of r0 r1
  have hj' : j < x.cps.toList.length := by rw [Array.length_toList]; exact hj
  refine ⟨x.cps.toList[j], o', ?_, List.getElem_mem hj', ht⟩
  simp [f__law_pick, fnG_eq, b__law_pick, er, h1, itemG_s h1, at_nat hj']
/-! words -/
def Ltr (c : Nat) : Prop := 97 ≤ c ∧ c ≤ 122
def Wd (x : Str) : Prop := 1 ≤ x.length ∧ x.length ≤ 8 ∧ ∀ c ∈ x.cps.toList, Ltr c
abbrev abc : Str := "abcdefghijklmnopqrstuvwxyz"
theorem abc_l : abc.cps.toList = (List.range 26).map (97 + ·) := by decide +kernel
theorem abc_len : abc.length = 26 := by decide +kernel
theorem abc_ltr {c : Nat} : c ∈ abc.cps.toList ↔ Ltr c := by
  rw [abc_l, List.mem_map]
  constructor
  · rintro ⟨a, h, rfl⟩
    have := List.mem_range.mp h
    constructor <;> omega
  · rintro ⟨h1, h2⟩
    exact ⟨c - 97, List.mem_range.mpr (by omega), by omega⟩
theorem pick_abc {k : Nat} {o : O} (h : Tp k o) (hk : k < 2 ^ 40) : ∃ c o', f__law_pick [o, .sh (.str abc)] = .ok (sO ⟨#[c]⟩) [some o', none] ∧ Ltr c ∧ Tp (k + 1) o' := by
  obtain ⟨c, o', e, hc, ht⟩ := pick_s (x := abc) h hk (by rw [abc_len]; decide) (by rw [abc_len]; decide)
  exact ⟨c, o', e, abc_ltr.mp hc, ht⟩
def one (c : Nat) : Str := ⟨#[c]⟩
/-- the signs of a word are drawn -/
theorem word_loop : ∀ (n i k : Nat) (o : O) (lots : O) (acc : List Nat), Tp k o → k + n < 2 ^ 40 → acc.length + n < 1000 → (∀ c ∈ acc, Ltr c) → ∃ o' cs, cs.length = n ∧ (∀ c ∈ cs, Ltr c) ∧ Tp (k + n) o' ∧
    lcG (tN 2) ttY (eCall f__law_pick [some 0, none] (eLend 0 (eCons (eK (.str abc)) eNil))) [2] ((List.range' i n).map fun (k : Nat) => D.int k) [some o, some lots, none] (acc.map fun c => sO (one c)) = .ok ((acc ++ cs).map fun c => sO (one c)) [some o', some lots, none]
  | 0, i, k, o, lots, acc, h, hk, hl, ha => ⟨o, [], rfl, by simp, h, by simp [lcG]⟩
  | n + 1, i, k, o, lots, acc, h, hk, hl, ha => by
    obtain ⟨c, o1, e1, hc, h1⟩ := pick_abc h (by omega)
    obtain ⟨o', cs, hn, hcs, ht, e2⟩ := word_loop n (i + 1) (k + 1) o1 lots (acc ++ [c]) h1 (by omega) (by simp; omega) (fun x hx => by
      rcases List.mem_append.mp hx with hx | hx
      · exact ha x hx
      · rw [List.mem_singleton.mp hx]; exact hc)
    refine ⟨o', c :: cs, by simp [hn], fun x hx => ?_, by rw [show k + (n + 1) = k + 1 + n by omega]; exact ht, ?_⟩
    · rcases List.mem_cons.mp hx with rfl | hx
      · exact hc
      · exact hcs x hx
    · have hb : acc.length < big := by have : big = 1000000 := rfl; omega
      rw [List.range'_succ, List.map_cons]
      unfold lcG
      simp [e1, hb, wipeE]
      simp at e2
      exact e2
theorem strsD_map : ∀ ys : List Str, strsD (ys.map D.str) = some ys
  | [] => rfl
  | y :: ys => by
    show (strsD (ys.map D.str)).map (y :: ·) = some (y :: ys)
    rw [strsD_map ys]; rfl
theorem toDs_str : ∀ ys : List Str, toDs (ys.map sO) = ys.map D.str
  | [] => rfl
  | y :: ys => by
    show D.str y :: toDs (ys.map sO) = D.str y :: ys.map D.str
    rw [toDs_str ys]
theorem joinG_l {a : Str} {ys : List Str} (h : (ys.map (·.length)).sum + ys.length * a.length ≤ 16777216) : joinG a [.lst (ys.map D.str)] = some (sO (Txt.join a ys)) := by
  show (strsD (ys.map D.str)).bind _ = _
  rw [strsD_map]
  exact if_pos h
theorem join_one : ∀ cs : List Nat, (Str.join ⟨#[]⟩ (cs.map one)).cps.toList = cs
  | [] => rfl
  | [c] => rfl
  | c :: d :: r => by
    have ih := join_one (d :: r)
    show TL.tl (one c ++ (⟨#[]⟩ : Str) ++ Str.join ⟨#[]⟩ ((d :: r).map one)) = _
    rw [TL.tl_append, TL.tl_append]
    show [c] ++ [] ++ (Str.join ⟨#[]⟩ ((d :: r).map one)).cps.toList = _
    rw [ih]
    rfl
theorem empty_str : (Str.ofString "") = ⟨#[]⟩ := by decide +kernel
theorem sm_small {m : Nat} (h : m < 1000000) : sm (m : Int) = true := Nat.ble_eq_true_of_le (by simp; omega)
theorem ones_sum : ∀ l : List Nat, ((l.map one).map (·.length)).sum = l.length
  | [] => rfl
  | a :: l => by
    have ih := ones_sum l
    simp only [List.map_cons, List.sum_cons, ih, List.length_cons]
    show 1 + l.length = l.length + 1
    omega
theorem join_ones {cs : List Nat} (h : cs.length < 1000) : joinG (Str.ofString "") [.lst (cs.map fun c => D.str (one c))] = some (sO (Txt.join (Str.ofString "") (cs.map one))) := by
  have e : (cs.map fun c => D.str (one c)) = (cs.map one).map D.str := by rw [List.map_map]; rfl
  rw [e]
  refine joinG_l ?_
  rw [ones_sum, empty_str, List.length_map]
  show cs.length + cs.length * 0 ≤ 16777216
  omega
theorem drawn_m {d : D} (hd : d ∈ [D.int 1, .int 1, .int 2, .int 3, .int 5, .int 8]) : ∃ m : Nat, d = .int m ∧ 1 ≤ m ∧ m ≤ 8 := by
  simp only [List.mem_cons, List.not_mem_nil, or_false] at hd
  rcases hd with rfl | rfl | rfl | rfl | rfl | rfl
  · exact ⟨1, rfl, by decide, by decide⟩
  · exact ⟨1, rfl, by decide, by decide⟩
  · exact ⟨2, rfl, by decide, by decide⟩
  · exact ⟨3, rfl, by decide, by decide⟩
  · exact ⟨5, rfl, by decide, by decide⟩
  · exact ⟨8, rfl, by decide, by decide⟩
theorem pick6 {k : Nat} {o : O} (h : Tp k o) (hk : k < 2 ^ 40) : ∃ d o', f__law_pick [o, .lst [iO 1, iO 1, iO 2, iO 3, iO 5, iO 8]] = .ok (.sh d) [some o', none] ∧ d ∈ [D.int 1, .int 1, .int 2, .int 3, .int 5, .int 8] ∧ Tp (k + 1) o' :=
  pick_l (l := [.int 1, .int 1, .int 2, .int 3, .int 5, .int 8]) h hk (Nat.succ_pos _) (by show 6 < 2 ^ 60; omega)
theorem Tp.up {k j : Nat} {o : O} (h : Tp k o) (hj : k ≤ j) : Tp j o := by
  obtain ⟨g, b, t, e, q1, q2, q3, q4, q5⟩ := h
  exact ⟨g, b, t, e, q1, q2, q3, q4, Int.le_trans q5 (by exact_mod_cast hj)⟩
theorem toDs_ones (cs : List Nat) : toDs (cs.map fun c => sO (one c)) = cs.map fun c => D.str (one c) := by
  have := toDs_str (cs.map one)
  simpa [List.map_map, Function.comp_def] using this
end Kx
end

section
set_option maxRecDepth 100000
set_option maxHeartbeats 4000000
open PySem PySem.Spec PyProof.Rows L2 G
namespace Kx
theorem w_s1 {o o1 : O} {m : Nat} (e1 : f__law_pick [o, .lst [iO 1, iO 1, iO 2, iO 3, iO 5, iO 8]] = .ok (.sh (.int m)) [some o1, none]) :
  sSet 1 (eCall f__law_pick [some 0, none] (eLend 0 (eCons (eLst (eCons (eK (.int 1)) (eCons (eK (.int 1)) (eCons (eK (.int 2)) (eCons (eK (.int 3)) (eCons (eK (.int 5)) (eCons (eK (.int 8)) eNil))))))) eNil))) [some o, none, none] = .nx [some o1, some (iO m), none] := by
    simp [e1]
theorem lc_rng {te : Fe} {o1 o' : O} {m : Nat} {os : List O} (hsm : sm (m : Int) = true)
    (e2 : lcG (tN 2) ttY te [2] ((List.range' 0 m).map fun (k : Nat) => D.int k) [some o1, some (iO m), none] [] = .ok os [some o', some (iO m), none]) :
   eLc (iRng1 (eVar 1)) (tN 2) ttY te [2] [some o1, some (iO m), none] = .ok (.lst os) [some o', some (iO m), none] := by
    unfold eLc
    simp [hsm, shAll, wipeE, List.range_eq_range', e2, noX, backE]
theorem word_eval {o o1 o' : O} {m : Nat} {cs : List Nat} (e1 : f__law_pick [o, .lst [iO 1, iO 1, iO 2, iO 3, iO 5, iO 8]] = .ok (.sh (.int m)) [some o1, none]) (hsm : sm (m : Int) = true)
    (e2 : lcG (tN 2) ttY (eCall f__law_pick [some 0, none] (eLend 0 (eCons (eK (.str abc)) eNil))) [2] ((List.range' 0 m).map fun (k : Nat) => D.int k) [some o1, some (iO m), none] [] = .ok (cs.map fun c => sO (one c)) [some o', some (iO m), none])
    (hj : joinG (Str.ofString "") [.lst (cs.map fun c => D.str (one c))] = some (sO (Txt.join (Str.ofString "") (cs.map one)))) :
    f__law_word_drawn [o] = .ok (sO (Txt.join (Str.ofString "") (cs.map one))) [some o'] := by
  have s1 := w_s1 e1
  have s2 := lc_rng hsm e2
  have s3 : b__law_word_drawn [some o, none, none] = .ret (sO (Txt.join (Str.ofString "") (cs.map one))) [some o', some (iO m), none] := by
    unfold b__law_word_drawn
    rw [ev_sSeq, s1]
    show sRet _ _ = _
    rw [ev_sRet, ev_eMs]
    show (((Out.ok (O.sh (D.str (Str.ofString ""))) [some o1, some (iO m), none] : Out O).bind _) : Out O).then' _ = _
    rw [bind_ok]
    show (eN (joinG (Str.ofString "")) _ _).then' _ = _
    rw [ev_eN, ev_eCons]
    rw [s2]
    simp only [bind_ok, ev_eNil, toDs_cons, toD_lst, toDs_nil, toDs_ones, hj, fin_some, then_ok]
  unfold f__law_word_drawn
  rw [fnG_eq]
  show (match b__law_word_drawn [some o, none, none] with | .nx ρ => _ | .ret o ρ => _ | .exc x ρ => _ | _ => _) = _
  rw [s3]
  rfl
theorem tl_ones (cs : List Nat) : (Txt.join (Str.ofString "") (cs.map one)).cps.toList = cs := by rw [TL.join_eq, empty_str, join_one]
theorem len_ones (cs : List Nat) : (Txt.join (Str.ofString "") (cs.map one)).length = cs.length := by
  have := congrArg List.length (tl_ones cs)
  rw [Array.length_toList] at this
  exact this
/-- a name of no four letters -/
def Wx (x : Str) : Prop := Wd x ∧ x.length ≠ 4
theorem drawn_4 {m : Nat} (hd : D.int m ∈ [D.int 1, .int 1, .int 2, .int 3, .int 5, .int 8]) : m ≠ 4 := by
  intro e
  subst e
  simp at hd
theorem wordX {k : Nat} {o : O} (h : Tp k o) (hk : k + 20 < 2 ^ 40) : ∃ x o', f__law_word_drawn [o] = .ok (sO x) [some o'] ∧ Wx x ∧ Tp (k + 9) o' := by
  obtain ⟨d, o1, e1, hd, h1⟩ := pick6 h (by omega)
  obtain ⟨m, rfl, m1, m8⟩ := drawn_m hd
  have m4 := drawn_4 hd
  obtain ⟨o', cs, hn, hc, ht, e2⟩ := word_loop m 0 (k + 1) o1 (iO m) [] h1 (by omega) (by simp; omega) (by simp)
  refine ⟨Txt.join (Str.ofString "") (cs.map one), o', word_eval e1 (sm_small (by omega)) e2 (join_ones (by omega)), ⟨⟨?_, ?_, by rw [tl_ones]; exact hc⟩, ?_⟩, ht.up (by omega)⟩
  · rw [len_ones]; omega
  · rw [len_ones]; omega
  · rw [len_ones]; omega
theorem word {k : Nat} {o : O} (h : Tp k o) (hk : k + 20 < 2 ^ 40) : ∃ x o', f__law_word_drawn [o] = .ok (sO x) [some o'] ∧ Wd x ∧ Tp (k + 9) o' := by
  obtain ⟨x, o', e, w, t⟩ := wordX h hk
  exact ⟨x, o', e, w.1, t⟩
end Kx
end

section
set_option maxRecDepth 100000
set_option maxHeartbeats 4000000
open PySem PySem.Spec PyProof.Rows L2 G
namespace Kx
theorem pl_strs : ∀ ys : List Str, plAll 60 (ys.map D.str) = true
  | [] => rfl
  | y :: ys => by
    show (true && plAll 60 (ys.map D.str)) = true
    rw [pl_strs ys]; rfl
theorem any_strs (x : Str) : ∀ ys : List Str, ((ys.map D.str).any fun z => z.eqD (.str x)) = decide (x ∈ ys)
  | [] => rfl
  | y :: ys => by
    show ((y == x) || (ys.map D.str).any fun z => z.eqD (.str x)) = _
    rw [any_strs x ys]
    by_cases h : y = x
    · subst h; simp
    · have h' : ¬ x = y := fun e => h e.symm
      simp [h, h']
theorem inG_l {x : Str} {ys : List Str} : inG (.str x) (.lst (ys.map D.str)) = some (decide (x ∈ ys)) := by
  have : inG (.str x) (.lst (ys.map D.str)) = if ((D.str x).pl 60 && plAll 60 (ys.map D.str)) = true then some ((ys.map D.str).any fun z => z.eqD (.str x)) else none := rfl
  rw [this, pl_strs, any_strs]
  rfl
theorem inG_t {x : Str} {ys : List Str} : inG (.str x) (.tup (ys.map D.str)) = some (decide (x ∈ ys)) := by
  have : inG (.str x) (.tup (ys.map D.str)) = if ((D.str x).pl 60 && plAll 60 (ys.map D.str)) = true then some ((ys.map D.str).any fun z => z.eqD (.str x)) else none := rfl
  rw [this, pl_strs, any_strs]
  rfl
theorem gNin_l {x : Str} {ys : List Str} : gNin (.str x) (.lst (ys.map D.str)) = some (bO (!decide (x ∈ ys))) := by unfold gNin; rw [inG_l]; rfl
theorem nodup_len {α : Type} [DecidableEq α] : ∀ {l m : List α}, l.Nodup → (∀ x ∈ l, x ∈ m) → l.length ≤ m.length
  | [], m, _, _ => Nat.zero_le _
  | a :: l, m, h, hs => by
    have h' := List.nodup_cons.mp h
    have ih := nodup_len (m := m.erase a) h'.2 fun x hx => (List.mem_erase_of_ne (fun e : x = a => h'.1 (by rw [← e]; exact hx))).mpr (hs x (List.mem_cons_of_mem _ hx))
    have := List.length_erase_of_mem (hs a List.mem_cons_self)
    have hp : 0 < m.length := List.length_pos_of_mem (hs a List.mem_cons_self)
    rw [List.length_cons]; omega
theorem one_inj {a b : Nat} (h : one a = one b) : a = b := by
  have := congrArg (fun x : Str => x.cps.toList) h
  simpa [one] using this
/-- the signs that are not taken -/
def freeS (A : Str) (xs : List Str) : List D := (A.cps.toList.map fun c => D.str (one c)).filter fun d => match d with | .str x => !decide (x ∈ xs) | _ => false
theorem free_ne {A : Str} {xs : List Str} (hA : A.cps.toList.Nodup) (h : xs.length < A.length) : ∃ c l, freeS A xs = .str (one c) :: l ∧ c ∈ A.cps.toList ∧ one c ∉ xs := by
  cases e : freeS A xs with
  | cons d l =>
    have hm : d ∈ freeS A xs := by rw [e]; exact List.mem_cons_self
    obtain ⟨h1, h2⟩ := List.mem_filter.mp hm
    obtain ⟨c, hc, rfl⟩ := List.mem_map.mp h1
    exact ⟨c, l, rfl, hc, by simpa using h2⟩
  | nil =>
    have all : ∀ c ∈ A.cps.toList, one c ∈ xs := fun c hc => by
      have q := List.filter_eq_nil_iff.mp e (.str (one c)) (List.mem_map.mpr ⟨c, hc, rfl⟩)
      simpa using q
    have : (A.cps.toList.map one).length ≤ xs.length := nodup_len (List.pairwise_map.mpr (hA.imp fun h e => h (one_inj e))) fun x hx => by
      obtain ⟨c, hc, rfl⟩ := List.mem_map.mp hx
      exact all c hc
    rw [List.length_map, Array.length_toList] at this
    have : A.length ≤ xs.length := this
    omega
theorem wd_one {c : Nat} (h : Ltr c) : Wd (one c) := ⟨Nat.le_refl _, (by show 1 ≤ 8; decide), fun x hx => by
  have : x = c := by simpa [one] using hx
  rw [this]; exact h⟩
def wTest (A : Str) : Env' → Out Bool := eB (e2v gNin (eVar 6) (vVar 2))
theorem left_eval {A : Str} {o lots w : O} {xs : List Str} {x3 x5 : Option O} (hA : A.length < 1000) :
    eLc (iSeq (eK (.str A))) (tN 6) (eB (e2v gNin (eVar 6) (vVar 2))) (eVar 6) [6] [some o, some lots, some (.lst (xs.map sO)), x3, some w, x5, none] = .ok (.lst ((freeS A xs).map O.sh)) [some o, some lots, some (.lst (xs.map sO)), x3, some w, x5, none] := by
  have hl : (A.cps.toList.map fun c => D.str (one c)).length < big := by
    rw [List.length_map, Array.length_toList]
    have : big = 1000000 := rfl
    have : A.cps.size = A.length := rfl
    omega
  refine eLc_pure (l := A.cps.toList.map fun c => D.str (one c)) (p := fun d => match d with | .str x => !decide (x ∈ xs) | _ => false) (v := O.sh) rfl (.inl rfl) (fun d hd => ?_) (fun d hd _ => ?_) hl
  · obtain ⟨c, _, rfl⟩ := List.mem_map.mp hd
    simp [toDs_str, gNin_l]
  · obtain ⟨c, _, rfl⟩ := List.mem_map.mp hd
    simp
theorem words_loopX {A : Str} (hA : A.cps.toList.Nodup) (hA1 : A.length < 1000) (hA2 : ∀ c ∈ A.cps.toList, Ltr c) : ∀ (n i k : Nat) (o lots : O) (xs : List Str) (x3 x4 x5 : Option O), Tp k o → k + 20 * n + 20 < 2 ^ 40 → xs.length + n < A.length → (∀ x ∈ xs, Wx x) → xs.Nodup →
    ∃ (o' : O) (ys : List Str) (x3' x4' x5' : Option O), ys.length = xs.length + n ∧ (∀ x ∈ ys, Wx x) ∧ ys.Nodup ∧ Tp (k + 9 * n) o' ∧
    forG (tN 3) (sSeq (sSet 4 (eCall f__law_word_drawn [some 0] (eLend 0 eNil))) (sSeq (sSet 5 (eLc (iSeq (eK (.str A))) (tN 6) (eB (e2v gNin (eVar 6) (vVar 2))) (eVar 6) [6])) (sExpr (eApp 2 (eIf (eB (e2v gNin (eVar 4) (vVar 2))) (eVar 4) (e2 itemG (eVar 5) (eK (.int 0))))))))
      ((List.range' i n).map fun (k : Nat) => D.int k) [some o, some lots, some (.lst (xs.map sO)), x3, x4, x5, none] = .nx [some o', some lots, some (.lst (ys.map sO)), x3', x4', x5', none]
  | 0, i, k, o, lots, xs, x3, x4, x5, h, hk, hl, hw, hn => ⟨o, xs, x3, x4, x5, rfl, hw, hn, h, rfl⟩
  | n + 1, i, k, o, lots, xs, x3, x4, x5, h, hk, hl, hw, hn => by
    obtain ⟨w, o1, e1, wd, h1⟩ := wordX h (by omega)
    obtain ⟨c, l, ef, hc, hnc⟩ := free_ne hA (show xs.length < A.length by omega)
    have hb : xs.length < big := by have : big = 1000000 := rfl; omega
    have el := left_eval (A := A) (o := o1) (lots := lots) (w := sO w) (xs := xs) (x3 := some (iO i)) (x5 := x5) hA1
    have item : itemG (.lst (D.str (one c) :: l)) (.int 0) = some (sO (one c)) := by
      show (atI _ _).map O.sh = _
      have : atI (D.str (one c) :: l) 0 = some (.str (one c)) := by
        have := at_nat (l := D.str (one c) :: l) (j := 0) (by simp)
        simpa using this
      rw [this]; rfl
    have body : ∃ (y : Str) (x5' : Option O), Wx y ∧ y ∉ xs ∧ (sSeq (sSet 4 (eCall f__law_word_drawn [some 0] (eLend 0 eNil))) (sSeq (sSet 5 (eLc (iSeq (eK (.str A))) (tN 6) (eB (e2v gNin (eVar 6) (vVar 2))) (eVar 6) [6])) (sExpr (eApp 2 (eIf (eB (e2v gNin (eVar 4) (vVar 2))) (eVar 4) (e2 itemG (eVar 5) (eK (.int 0)))))))) [some o, some lots, some (.lst (xs.map sO)), some (iO i), x4, x5, none]
        = .nx [some o1, some lots, some (.lst ((xs ++ [y]).map sO)), some (iO i), some (sO w), x5', none] := by
      by_cases hin : w ∈ xs
      · refine ⟨one c, some (.sh (.lst (D.str (one c) :: l))), ⟨wd_one (hA2 c hc), by show 1 ≠ 4; decide⟩, hnc, ?_⟩
        simp [e1, el, ef, toDs_str, toDs_sh, gNin_l, hin, hb, item]
      · refine ⟨w, some (.lst ((freeS A xs).map O.sh)), wd, hin, ?_⟩
        simp [e1, el, toDs_str, gNin_l, hin, hb]
    obtain ⟨y, x5', wy, ny, eb⟩ := body
    obtain ⟨o', ys, x3', x4', x5'', hl', hw', hn', ht', e'⟩ := words_loopX hA hA1 hA2 n (i + 1) (k + 9) o1 lots (xs ++ [y]) (some (iO i)) (some (sO w)) x5' h1 (by omega) (by simp; omega) (fun x hx => by
      rcases List.mem_append.mp hx with hx | hx
      · exact hw x hx
      · rw [List.mem_singleton.mp hx]; exact wy) (List.nodup_append.mpr ⟨hn, by simp, fun a ha b hb e => by
        have := List.mem_singleton.mp hb
        subst this
        exact ny (e ▸ ha)⟩)
    refine ⟨o', ys, x3', x4', x5'', by rw [hl']; simp; omega, hw', hn', ht'.up (by omega), ?_⟩
    rw [List.range'_succ, List.map_cons]
    unfold forG
    have et : tN 3 (.int i) [some o, some lots, some (.lst (xs.map sO)), x3, x4, x5, none] = some [some o, some lots, some (.lst (xs.map sO)), some (iO i), x4, x5, none] := by simp
    rw [et]
    simp only []
    rw [eb]
    exact e'
end Kx
end

section
set_option maxRecDepth 100000
set_option maxHeartbeats 4000000
open PySem PySem.Spec PyProof.Rows L2 G
namespace Kx
theorem abc_nd : abc.cps.toList.Nodup := by rw [abc_l]; decide
theorem wordsX {k n : Nat} {o : O} (h : Tp k o) (hk : k + 1000 < 2 ^ 40) (hn : n ≤ 20) : ∃ (o' : O) (ys : List Str), f__law_words_drawn [o, iO n] = .ok (.lst (ys.map sO)) [some o', none] ∧ ys.length = n ∧ (∀ x ∈ ys, Wx x) ∧ ys.Nodup ∧ Tp (k + 9 * n) o' := by
  obtain ⟨o', ys, x3, x4, x5, hl, hw, hd, ht, e⟩ := words_loopX abc_nd (by rw [abc_len]; decide) (fun c hc => abc_ltr.mp hc) n 0 k o (iO n) [] none none none h (by omega) (by rw [abc_len]; simp; omega) (by simp) List.nodup_nil
  refine ⟨o', ys, ?_, by simpa using hl, hw, hd, ht⟩
  have hsm : sm (n : Int) = true := sm_small (by omega)
  simp only [List.map_nil] at e
  have s3 : b__law_words_drawn [some o, some (iO n), none, none, none, none, none] = .ret (.lst (ys.map sO)) [some o', some (iO n), none, x3, x4, x5, none] := by
    unfold b__law_words_drawn
    rw [ev_sSeq]
    have q : sSet 2 (eLst eNil) [some o, some (iO n), none, none, none, none, none] = .nx [some o, some (iO n), some (.lst []), none, none, none, none] := by simp
    rw [q]
    show sSeq _ _ _ = _
    rw [ev_sSeq, ev_sFor, ev_iRng1]
    have q2 : eVar 1 [some o, some (iO n), some (.lst []), none, none, none, none] = .ok (iO n) [some o, some (iO n), some (.lst []), none, none, none, none] := rfl
    rw [q2]
    simp only [bind_ok, sh_toD, intD_int, hsm, if_true, then_ok, Int.toNat_natCast, List.range_eq_range']
    rw [e]
    rfl
  unfold f__law_words_drawn
  rw [fnG_eq]
  show (match b__law_words_drawn [some o, some (iO n), none, none, none, none, none] with | .nx ρ => _ | .ret o ρ => _ | .exc x ρ => _ | _ => _) = _
  rw [s3]
  rfl
theorem words {k n : Nat} {o : O} (h : Tp k o) (hk : k + 1000 < 2 ^ 40) (hn : n ≤ 20) : ∃ (o' : O) (ys : List Str), f__law_words_drawn [o, iO n] = .ok (.lst (ys.map sO)) [some o', none] ∧ ys.length = n ∧ (∀ x ∈ ys, Wd x) ∧ ys.Nodup ∧ Tp (k + 9 * n) o' := by
  obtain ⟨o', ys, e, l, w, d, t⟩ := wordsX h hk hn
  exact ⟨o', ys, e, l, fun x hx => (w x hx).1, d, t⟩
/-! some of them, in any order -/
theorem gNe_nil {ys : List Str} : gNe (.lst (ys.map D.str)) (.lst []) = some (bO (!ys.isEmpty)) := by
  rw [gNe_l0]; cases ys <;> rfl
theorem gEq_lnil {ys : List Str} : gEq (.lst (ys.map D.str)) (.lst []) = some (bO ys.isEmpty) := by
  rw [gEq_l0]; cases ys <;> rfl
theorem gNe_tnil {ys : List Str} : gNe (.tup (ys.map D.str)) (.tup []) = some (bO (!ys.isEmpty)) := by
  rw [gNe_t0]; cases ys <;> rfl
theorem eqDs_strs : ∀ xs ys : List Str, eqDs (xs.map D.str) (ys.map D.str) = decide (xs = ys)
  | [], [] => rfl
  | [], _ :: _ => rfl
  | _ :: _, [] => rfl
  | x :: xs, y :: ys => by
    show ((x == y) && eqDs (xs.map D.str) (ys.map D.str)) = _
    rw [eqDs_strs xs ys, Bool.eq_iff_iff]
    simp
theorem pl2 (xs ys : List Str) : (plAll 60 (xs.map D.str) && plAll 60 (ys.map D.str)) = true := by rw [pl_strs, pl_strs]; rfl
theorem gNe_tt {ys : List Str} : gNe (.tup (ys.map D.str)) (.tup (ys.map D.str)) = some (bO false) := by rw [gNe_tup (pl2 ys ys), eqDs_strs]; simp
theorem gNe_ll {ys : List Str} : gNe (.lst (ys.map D.str)) (.lst (ys.map D.str)) = some (bO false) := by rw [gNe_lst (pl2 ys ys), eqDs_strs]; simp
theorem gEq_ll {ys : List Str} : gEq (.lst (ys.map D.str)) (.lst (ys.map D.str)) = some (bO true) := by rw [gEq_lst (pl2 ys ys), eqDs_strs]; simp
theorem gEq_tt {ys : List Str} : gEq (.tup (ys.map D.str)) (.tup (ys.map D.str)) = some (bO true) := by rw [gEq_tup (pl2 ys ys), eqDs_strs]; simp
end Kx
end

section
set_option maxRecDepth 100000
set_option maxHeartbeats 4000000
open PySem PySem.Spec PyProof.Rows L2 G
namespace Kx
/-! the program's words -/
def nmB (x : Str) : Bool := decide (1 ≤ x.length) && decide (x.length ≤ 8) && x.cps.toList.all fun c => !decide (c < 97) && !decide (122 < c)
theorem nmB_wd {x : Str} : nmB x = true ↔ Wd x := by
  unfold nmB Wd Ltr
  simp only [Bool.and_eq_true, decide_eq_true_eq, List.all_eq_true, Bool.not_eq_true', decide_eq_false_iff_not, Nat.not_lt]
  constructor
  · rintro ⟨⟨h1, h2⟩, h3⟩
    exact ⟨h1, h2, h3⟩
  · rintro ⟨h1, h2, h3⟩
    exact ⟨⟨h1, h2⟩, h3⟩
theorem isG_s {x : Str} : isG "str" (.str x) = some (bO true) := rfl
theorem isG_t {l : List D} : isG "tuple" (.tup l) = some (bO true) := rfl
theorem ltG_s {a b : Str} : ltG (.str a) (.str b) = some (decide (a.cps.toList < b.cps.toList)) := rfl
theorem gLe_s {a b : Str} : gLe (.str a) (.str b) = some (bO (!decide (b.cps.toList < a.cps.toList))) := rfl
theorem chr_a : (Str.ofString "a").cps.toList = [97] := by decide +kernel
theorem chr_z : (Str.ofString "z").cps.toList = [122] := by decide +kernel
theorem one_lt {a b : Nat} : (([a] : List Nat) < [b]) ↔ a < b := by
  constructor
  · intro h
    cases h with
    | rel h => exact h
    | cons h => cases h
  · intro h; exact .rel h
theorem le_a {c : Nat} : gLe (.str (Str.ofString "a")) (.str (one c)) = some (bO (!decide (c < 97))) := by
  rw [gLe_s, chr_a]
  have : decide ((one c).cps.toList < [97]) = decide (c < 97) := decide_eq_decide.mpr one_lt
  rw [this]
theorem le_z {c : Nat} : gLe (.str (one c)) (.str (Str.ofString "z")) = some (bO (!decide (122 < c))) := by
  rw [gLe_s, chr_z]
  have : decide (([122] : List Nat) < (one c).cps.toList) = decide (122 < c) := decide_eq_decide.mpr one_lt
  rw [this]
theorem optAll_bl : ∀ bs : List Bool, optAll blOf (bs.map D.bl) = some bs
  | [] => rfl
  | b :: bs => by simp only [List.map_cons, optAll, optAll_bl bs, blOf]
theorem allG_l {bs : List Bool} : allG [.lst (bs.map D.bl)] = some (bO (bs.all id)) := by
  show (optAll blOf (bs.map D.bl)).map _ = _
  rw [optAll_bl]; rfl
theorem toDs_bl : ∀ bs : List Bool, toDs (bs.map bO) = bs.map D.bl
  | [] => rfl
  | b :: bs => by
    show D.bl b :: toDs (bs.map bO) = D.bl b :: bs.map D.bl
    rw [toDs_bl bs]
theorem filter_true {α : Type} (l : List α) : l.filter (fun _ => true) = l := by simp
theorem is_name {x : Str} (h : x.length < big) : f_is_name [sO x] = .ok (bO (nmB x)) [none] := by
  have hb : big = 1000000 := rfl
  have c1 : ∀ ρ : Env', eChn gLe gLe (eK (.int 1)) (eN lenG (eCons (eVar 0) eNil)) (eK (.int 8)) [some (sO x), none] = .ok (bO (decide (1 ≤ x.length) && decide (x.length ≤ 8))) [some (sO x), none] := fun _ => by
    have hl : x.length ≤ big := by omega
    by_cases h1 : (x.length : Int) < 1
    · have : ¬ 1 ≤ x.length := by omega
      simp [hl, h1, this]
    · have h1' : 1 ≤ x.length := by omega
      by_cases h8 : (8 : Int) < x.length
      · have : ¬ x.length ≤ 8 := by omega
        simp [hl, h1, h8, h1', this]
      · have : x.length ≤ 8 := by omega
        simp [hl, h1, h8, h1', this]
  have e2 : eLc (iSeq (eVar 0)) (tN 1) ttY (eChn gLe gLe (eK (.str (Str.ofString "a"))) (eVar 1) (eK (.str (Str.ofString "z")))) [1] [some (sO x), none] =
      .ok (.lst ((x.cps.toList.map fun c => !decide (c < 97) && !decide (122 < c)).map bO)) [some (sO x), none] := by
    have q := eLc_pure (i := 1) (fi := iSeq (eVar 0)) (tt := ttY) (te := eChn gLe gLe (eK (.str (Str.ofString "a"))) (eVar 1) (eK (.str (Str.ofString "z")))) (ρ := [some (sO x), none]) (l := x.cps.toList.map fun c => D.str (one c)) (p := fun _ => true)
      (v := fun d => match d with | .str y => bO ((y.cps.toList.all fun c => !decide (c < 97) && !decide (122 < c))) | _ => bO false) rfl (.inl rfl) (fun d _ => rfl) (fun d hd _ => by
        obtain ⟨c, _, rfl⟩ := List.mem_map.mp hd
        have lz := le_z (c := c)
        have la := le_a (c := c)
        have hv : ((one c).cps.toList.all fun c => !decide (c < 97) && !decide (122 < c)) = (!decide (c < 97) && !decide (122 < c)) := by simp [one]
        show _ = Out.ok (bO ((one c).cps.toList.all fun c => !decide (c < 97) && !decide (122 < c))) _
        rw [hv]
        by_cases h1 : c < 97
        · rw [decide_eq_true h1] at la
          have : (!decide (c < 97)) = false := by simp [h1]
          rw [this, Bool.false_and]
          simp [la]
        · rw [decide_eq_false h1] at la
          have : (!decide (c < 97)) = true := by simp [h1]
          rw [this, Bool.true_and]
          simp [la, lz]) (by rw [List.length_map, Array.length_toList]; exact h)
    rw [q, filter_true, List.map_map, List.map_map]
    congr 2
    apply List.map_congr_left
    intro c _
    simp [one]
  have hs : b_is_name [some (sO x), none] = .ret (bO (nmB x)) [some (sO x), none] := by
    unfold b_is_name
    rw [ev_sSeq, ev_sIf, ev_tOr]
    have t1 : tNt (eTru (e1 (isG "str") (eVar 0))) [some (sO x), none] = .ok false [some (sO x), none] := by simp [isG_s]
    rw [t1]
    simp only [bind_ok, Bool.false_eq_true, if_false]
    rw [ev_tNt, ev_eB, c1 []]
    simp only [bind_ok, oB_bl]
    by_cases hn : (decide (1 ≤ x.length) && decide (x.length ≤ 8)) = true
    · simp only [hn, Bool.not_true, then_ok, Bool.false_eq_true, if_false, ev_sNil]
      rw [ev_sRet, ev_eN, ev_eCons, e2]
      simp only [bind_ok, ev_eNil, toDs_cons, toD_lst, toDs_nil, toDs_bl, allG_l, fin_some, then_ok]
      unfold nmB
      rw [hn, Bool.true_and, List.all_map]
      rfl
    · have hn' : (decide (1 ≤ x.length) && decide (x.length ≤ 8)) = false := by simpa using hn
      simp only [hn', Bool.not_false, then_ok, if_true]
      unfold nmB
      rw [hn', Bool.false_and]
      rfl
  unfold f_is_name
  rw [fnG_eq]
  show (match b_is_name [some (sO x), none] with | .nx ρ => _ | .ret o ρ => _ | .exc x ρ => _ | _ => _) = _
  rw [hs]
  rfl
/-! different ones -/
theorem all_names {ys : List Str} {l : D} (hl : itD l = some (ys.map D.str)) (hy : ∀ y ∈ ys, y.length < big) (hb : ys.length < big) :
    eLc (iSeq (eVar 0)) (tN 1) ttY (eCall f_is_name [none] (eCons (eVar 1) eNil)) [1] [some (.sh l), none] = .ok (.lst ((ys.map nmB).map bO)) [some (.sh l), none] := by
  have q := eLc_pure (i := 1) (fi := iSeq (eVar 0)) (tt := ttY) (te := eCall f_is_name [none] (eCons (eVar 1) eNil)) (ρ := [some (.sh l), none]) (l := ys.map D.str) (p := fun _ => true)
    (v := fun d => match d with | .str y => bO (nmB y) | _ => bO false) (by simp [hl]) (.inl rfl) (fun d _ => rfl) (fun d hd _ => by
      obtain ⟨y, h, rfl⟩ := List.mem_map.mp hd
      simp [is_name (hy y h)]) (by rw [List.length_map]; exact hb)
  rw [q, filter_true, List.map_map, List.map_map]
  rfl
def addK (acc : List (Kd × O)) (y : Str) : List (Kd × O) := putO acc (.inl (.inr y)) (bO true)
theorem dc_names {ρ : Env'} (h0 : ρ[1]? = some none) : ∀ {ys : List Str} {acc : List (Kd × O)}, acc.length + ys.length < big → dcG (tN 1) ttY (eVar 1) (eK (.bl true)) [1] (ys.map D.str) ρ acc = .ok (ys.foldl addK acc) ρ
  | [], acc, _ => rfl
  | y :: ys, acc, hb => by
    have hi : 1 < ρ.length := (List.getElem?_eq_some_iff.mp h0).1
    have hw : ∀ x, wipeE (ρ.set 1 x) [1] = ρ := fun x => by
      show (ρ.set 1 x).set 1 none = ρ
      rw [List.set_set, set_at h0]
    have hb' : acc.length < big := by simp at hb; omega
    have ev : eVar 1 (ρ.set 1 (some (.sh (.str y)))) = .ok (sO y) (ρ.set 1 (some (.sh (.str y)))) := by
      rw [ev_eVar, List.getElem?_set_self hi]
    rw [List.map_cons]
    unfold dcG
    simp only [ev_tN, hi, if_true, ev_ttY, bind_ok, ev, sh_toD]
    simp only [show keyD (.str y) = some (.inr y) from rfl, hb', if_true, hw]
    rw [dc_names h0 (by have := putO_len (l := acc) (k := .inl (.inr y)) (o := O.sh (.bl true)); simp at hb ⊢; omega)]
    rfl
theorem putO_old {k : Kd} {o : O} : ∀ {l : List (Kd × O)}, k ∈ l.map (·.1) → (putO l k o).length = l.length ∧ ∀ x, x ∈ (putO l k o).map (·.1) ↔ x ∈ l.map (·.1)
  | (j, p) :: l, h => by
    unfold putO
    by_cases e : j = k
    · subst e; simp
    · have h' : k ∈ l.map (·.1) := by
        rcases List.mem_cons.mp h with h | h
        · exact absurd h.symm e
        · exact h
      obtain ⟨h1, h2⟩ := putO_old (o := o) h'
      simp only [if_neg e, List.length_cons, h1, true_and]
      intro x
      simp only [List.map_cons, List.mem_cons, h2 x]
  | [], h => by simp at h
theorem putO_new {k : Kd} {o : O} : ∀ {l : List (Kd × O)}, k ∉ l.map (·.1) → (putO l k o).length = l.length + 1 ∧ ∀ x, x ∈ (putO l k o).map (·.1) ↔ x ∈ l.map (·.1) ∨ x = k
  | [], _ => by simp [putO]
  | (j, p) :: l, h => by
    have e : ¬ j = k := fun e => h (by simp [e])
    have h' : k ∉ l.map (·.1) := fun z => h (List.mem_cons_of_mem _ z)
    obtain ⟨h1, h2⟩ := putO_new (o := o) h'
    unfold putO
    simp only [if_neg e, List.length_cons, h1, true_and]
    intro x
    simp only [List.map_cons, List.mem_cons, h2 x, or_assoc]
theorem fold_len : ∀ (ys : List Str) (acc : List (Kd × O)), (ys.foldl addK acc).length ≤ acc.length + ys.length ∧ ((ys.foldl addK acc).length = acc.length + ys.length ↔ ys.Nodup ∧ ∀ y ∈ ys, (Sum.inl (Sum.inr y) : Kd) ∉ acc.map (·.1))
  | [], acc => by simp
  | y :: ys, acc => by
    obtain ⟨ih1, ih2⟩ := fold_len ys (addK acc y)
    show (ys.foldl addK (addK acc y)).length ≤ _ ∧ ((ys.foldl addK (addK acc y)).length = _ ↔ _)
    by_cases h : (Sum.inl (Sum.inr y) : Kd) ∈ acc.map (·.1)
    · obtain ⟨h1, h2⟩ := putO_old (o := bO true) h
      have h1' : (addK acc y).length = acc.length := h1
      rw [h1'] at ih1 ih2
      refine ⟨by simp; omega, ⟨fun e => ?_, fun e => absurd h (e.2 y List.mem_cons_self)⟩⟩
      simp at e; omega
    · obtain ⟨h1, h2⟩ := putO_new (o := bO true) h
      have h1' : (addK acc y).length = acc.length + 1 := h1
      have h2' : ∀ x, x ∈ (addK acc y).map (·.1) ↔ x ∈ acc.map (·.1) ∨ x = .inl (.inr y) := h2
      rw [h1'] at ih1 ih2
      refine ⟨by simp; omega, ?_⟩
      have : (ys.foldl addK (addK acc y)).length = acc.length + (y :: ys).length ↔ (ys.foldl addK (addK acc y)).length = acc.length + 1 + ys.length := by simp; omega
      rw [this, ih2, List.nodup_cons]
      constructor
      · rintro ⟨n, q⟩
        refine ⟨⟨fun hy => q y hy ((h2' _).mpr (.inr rfl)), n⟩, fun z hz => ?_⟩
        rcases List.mem_cons.mp hz with rfl | hz
        · exact h
        · exact fun hm => q z hz ((h2' _).mpr (.inl hm))
      · rintro ⟨⟨hy, n⟩, q⟩
        refine ⟨n, fun z hz hm => ?_⟩
        rcases (h2' _).mp hm with hm | e
        · exact q z (List.mem_cons_of_mem _ hz) hm
        · have : z = y := by injection e with e; injection e
          exact hy (this ▸ hz)
end Kx
end

section
set_option maxRecDepth 100000
set_option maxHeartbeats 4000000
open PySem PySem.Spec PyProof.Rows L2 G
namespace Kx
theorem ret_fn {N : Nat} {ks : List Bool} {body : Fs} {os : List O} {o : O} {ρ : Env'} (h : body (os.map some ++ List.replicate (N - os.length) none) = .ret o ρ) : fnG N ks body os = .ok o (keepL ks ρ) := by rw [fnG_eq, h]
theorem exc_fn {N : Nat} {ks : List Bool} {body : Fs} {os : List O} {x : Xn} {ρ : Env'} (h : body (os.map some ++ List.replicate (N - os.length) none) = .exc x ρ) : fnG N ks body os = .exc x (keepL ks ρ) := by rw [fnG_eq, h]
theorem nx_fn {N : Nat} {ks : List Bool} {body : Fs} {os : List O} {ρ : Env'} (h : body (os.map some ++ List.replicate (N - os.length) none) = .nx ρ) : fnG N ks body os = .ok (.sh .non) (keepL ks ρ) := by rw [fnG_eq, h]
@[simp] theorem itD_lst {l : List D} : itD (.lst l) = some l := rfl
@[simp] theorem itD_tup {l : List D} : itD (.tup l) = some l := rfl
@[simp] theorem itD_str {x : Str} : itD (.str x) = some (x.cps.toList.map fun c => D.str ⟨#[c]⟩) := rfl
/-! values of any kind, as names, moves -/
def okD : D → Bool
  | .str x => decide (x.length < 1000)
  | .ins _ _ => false
  | .exn _ _ => false
  | .cl _ => false
  | _ => true
def isnD : D → Bool
  | .str x => nmB x
  | _ => false
theorem is_nameD {d : D} (h : okD d = true) : f_is_name [.sh d] = .ok (bO (isnD d)) [none] := by
  cases d with
  | str x =>
    have hl : x.length < 1000 := by simpa [okD] using h
    exact is_name (Nat.lt_trans hl (by decide))
  | ins c l => simp [okD] at h
  | exn c l => simp [okD] at h
  | cl c => simp [okD] at h
  | non =>
    have g : isG "str" .non = some (bO false) := rfl
    exact ret_fn (by unfold b_is_name; simp [g]; exact ⟨rfl, rfl⟩)
  | bl b =>
    have g : isG "str" (.bl b) = some (bO false) := rfl
    exact ret_fn (by unfold b_is_name; simp [g]; exact ⟨rfl, rfl⟩)
  | int i =>
    have g : isG "str" (.int i) = some (bO false) := rfl
    exact ret_fn (by unfold b_is_name; simp [g]; exact ⟨rfl, rfl⟩)
  | tup l =>
    have g : isG "str" (.tup l) = some (bO false) := rfl
    exact ret_fn (by unfold b_is_name; simp [g]; exact ⟨rfl, rfl⟩)
  | lst l =>
    have g : isG "str" (.lst l) = some (bO false) := rfl
    exact ret_fn (by unfold b_is_name; simp [g]; exact ⟨rfl, rfl⟩)
  | dct l =>
    have g : isG "str" (.dct l) = some (bO false) := rfl
    exact ret_fn (by unfold b_is_name; simp [g]; exact ⟨rfl, rfl⟩)
theorem each_comp {fn : Fn} {q : D → Bool} {ok : D → Bool} (hq : ∀ d, ok d = true → fn [.sh d] = .ok (bO (q d)) [none]) {l : List D} (h : l.all ok = true) (hb : l.length < 1000) :
    eLc (iSeq (eVar 0)) (tN 1) ttY (eCall fn [none] (eCons (eVar 1) eNil)) [1] [some (.sh (.tup l)), none] = .ok (.lst ((l.map q).map bO)) [some (.sh (.tup l)), none] := by
  have qq := eLc_pure (i := 1) (fi := iSeq (eVar 0)) (tt := ttY) (te := eCall fn [none] (eCons (eVar 1) eNil)) (ρ := [some (.sh (.tup l)), none]) (l := l) (p := fun _ => true)
    (v := fun d => bO (q d)) (by simp) (.inl rfl) (fun d _ => rfl) (fun d hd _ => by
      have := hq d (List.all_eq_true.mp h d hd)
      simp [this]) (Nat.lt_trans hb (by decide))
  rw [qq, filter_true, List.map_map]
  rfl
def mvD : D → Bool
  | .tup l => decide (l.length = 3) && l.all isnD
  | _ => false
def okM : D → Bool
  | .tup l => l.all okD && decide (l.length < 1000)
  | d => okD d
theorem is_moveD {d : D} (h : okM d = true) : f_is_move [.sh d] = .ok (bO (mvD d)) [none] := by
  cases d with
  | tup l =>
    obtain ⟨h1, h2⟩ : l.all okD = true ∧ l.length < 1000 := by simpa [okM] using h
    have hc := each_comp (fn := f_is_name) (q := isnD) (ok := okD) (fun d h => is_nameD h) h1 h2
    have ha : (l.map isnD).all id = l.all isnD := by rw [List.all_map]; rfl
    refine ret_fn (ρ := [some (.sh (.tup l)), none]) ?_
    show b_is_move [some (.sh (.tup l)), none] = _
    unfold b_is_move
    by_cases hl : l.length = 3
    · have e3 : ((l.length : Int) == 3) = true := by rw [hl]; rfl
      simp only [ev_sRet, ev_eAnd, ev_e1, ev_eVar, List.getElem?_cons_zero, bind_ok, sh_toD, isG_t, fin_some, blD_bl, ev_e2, ev_eN, ev_eCons, ev_eNil, toDs_cons, toDs_nil, lenG_t, eK, gEq_ii, e3, hc, toD_lst, toDs_bl, allG_l, ha, then_ok]
      simp [mvD, hl]
    · have e3 : ((l.length : Int) == 3) = false := by simp; omega
      simp [isG_t, e3, mvD, hl]
  | ins c l => simp [okM, okD] at h
  | exn c l => simp [okM, okD] at h
  | cl c => simp [okM, okD] at h
  | str x =>
    have g : isG "tuple" (.str x) = some (bO false) := rfl
    exact ret_fn (by unfold b_is_move; simp [g]; exact ⟨rfl, rfl⟩)
  | non =>
    have g : isG "tuple" .non = some (bO false) := rfl
    exact ret_fn (by unfold b_is_move; simp [g]; exact ⟨rfl, rfl⟩)
  | bl b =>
    have g : isG "tuple" (.bl b) = some (bO false) := rfl
    exact ret_fn (by unfold b_is_move; simp [g]; exact ⟨rfl, rfl⟩)
  | int i =>
    have g : isG "tuple" (.int i) = some (bO false) := rfl
    exact ret_fn (by unfold b_is_move; simp [g]; exact ⟨rfl, rfl⟩)
  | lst l =>
    have g : isG "tuple" (.lst l) = some (bO false) := rfl
    exact ret_fn (by unfold b_is_move; simp [g]; exact ⟨rfl, rfl⟩)
  | dct l =>
    have g : isG "tuple" (.dct l) = some (bO false) := rfl
    exact ret_fn (by unfold b_is_move; simp [g]; exact ⟨rfl, rfl⟩)
def msD : D → Bool
  | .tup l => decide (1 ≤ l.length) && decide (l.length ≤ 4) && l.all mvD
  | _ => false
def okMs : D → Bool
  | .tup l => l.all okM && decide (l.length < 1000)
  | d => okD d
theorem are_movesD {d : D} (h : okMs d = true) : f_are_moves [.sh d] = .ok (bO (msD d)) [none] := by
  cases d with
  | tup l =>
    obtain ⟨h1, h2⟩ : l.all okM = true ∧ l.length < 1000 := by simpa [okMs] using h
    have hc := each_comp (fn := f_is_move) (q := mvD) (ok := okM) (fun d h => is_moveD h) h1 h2
    have ha : (l.map mvD).all id = l.all mvD := by rw [List.all_map]; rfl
    refine ret_fn (ρ := [some (.sh (.tup l)), none]) ?_
    show b_are_moves [some (.sh (.tup l)), none] = _
    unfold b_are_moves
    by_cases hl : 1 ≤ l.length
    · have e1 : ((l.length : Int) < 1) = False := by simp; omega
      by_cases hl2 : l.length ≤ 4
      · have e2 : ((4 : Int) < l.length) = False := by simp; omega
        simp only [ev_sRet, ev_eAnd, ev_e1, ev_eVar, List.getElem?_cons_zero, bind_ok, sh_toD, isG_t, fin_some, blD_bl, ev_eChn, ev_eN, ev_eCons, ev_eNil, toDs_cons, toDs_nil, lenG_t, eK, gLe_ii, e1, e2, decide_false, Bool.not_false, bO?_bl, hc, toD_lst, toDs_bl, allG_l, ha, then_ok]
        simp [msD, hl, hl2]
      · have e2 : ((4 : Int) < l.length) = True := by simp; omega
        simp [isG_t, e1, e2, msD, hl2]
    · have e1 : ((l.length : Int) < 1) = True := by simp; omega
      simp [isG_t, e1, msD, hl]
  | ins c l => simp [okMs, okD] at h
  | exn c l => simp [okMs, okD] at h
  | cl c => simp [okMs, okD] at h
  | str x =>
    have g : isG "tuple" (.str x) = some (bO false) := rfl
    exact ret_fn (by unfold b_are_moves; simp [g]; exact ⟨rfl, rfl⟩)
  | non =>
    have g : isG "tuple" .non = some (bO false) := rfl
    exact ret_fn (by unfold b_are_moves; simp [g]; exact ⟨rfl, rfl⟩)
  | bl b =>
    have g : isG "tuple" (.bl b) = some (bO false) := rfl
    exact ret_fn (by unfold b_are_moves; simp [g]; exact ⟨rfl, rfl⟩)
  | int i =>
    have g : isG "tuple" (.int i) = some (bO false) := rfl
    exact ret_fn (by unfold b_are_moves; simp [g]; exact ⟨rfl, rfl⟩)
  | lst l =>
    have g : isG "tuple" (.lst l) = some (bO false) := rfl
    exact ret_fn (by unfold b_are_moves; simp [g]; exact ⟨rfl, rfl⟩)
  | dct l =>
    have g : isG "tuple" (.dct l) = some (bO false) := rfl
    exact ret_fn (by unfold b_are_moves; simp [g]; exact ⟨rfl, rfl⟩)
end Kx
end

section
set_option maxRecDepth 100000
set_option maxHeartbeats 4000000
open PySem PySem.Spec PyProof.Rows L2 G
namespace Kx
/-! triples, their order -/
abbrev Mv := Str × Str × Str
def mvT (m : Mv) : D := .tup [.str m.1, .str m.2.1, .str m.2.2]
def MvOk (m : Mv) : Prop := Wd m.1 ∧ Wd m.2.1 ∧ Wd m.2.2
noncomputable def leM (m n : Mv) : Bool := leD (mvT m) (mvT n)
noncomputable def srtM (ms : List Mv) : List Mv := ms.mergeSort leM
theorem leD_tot : W.TotalLe leD := W.sortLe_total (listOrd itemOrd) false fun d : D => W.keyToks d.enc
theorem toksM (m : Mv) : W.keyToks (mvT m).enc = [.inl 1, .inr m.1.cps.toList, .inl 1, .inr m.2.1.cps.toList, .inl 1, .inr m.2.2.cps.toList, .inl 0] := rfl
theorem leM_anti {m n : Mv} (h1 : leM m n = true) (h2 : leM n m = true) : m = n := by
  have a1 : (!lexLt itemOrd (W.keyToks (mvT n).enc) (W.keyToks (mvT m).enc)) = true := h1
  have a2 : (!lexLt itemOrd (W.keyToks (mvT m).enc) (W.keyToks (mvT n).enc)) = true := h2
  have e := lex_total _ _ (by simpa using a2) (by simpa using a1)
  rw [toksM, toksM] at e
  simp only [List.cons.injEq, Sum.inr.injEq, true_and, and_true] at e
  obtain ⟨e1, e2, e3⟩ := e
  exact Prod.ext (W.str_of_cps e1) (Prod.ext (W.str_of_cps e2) (W.str_of_cps e3))
theorem leM_tr (a b c : Mv) (h1 : leM a b = true) (h2 : leM b c = true) : leM a c = true := leD_tot.trans _ _ _ h1 h2
theorem leM_to (a b : Mv) : (leM a b || leM b a) = true := by
  rw [Bool.or_eq_true]
  exact leD_tot.total (mvT a) (mvT b)
theorem srtM_perm (ms : List Mv) : (srtM ms).Perm ms := List.mergeSort_perm _ _
theorem srtM_pw (ms : List Mv) : (srtM ms).Pairwise fun a b => leM a b = true := List.pairwise_mergeSort leM_tr leM_to ms
theorem srtM_eq {ms ns : List Mv} (h : ms.Perm ns) (s : ns.Pairwise fun a b => leM a b = true) : srtM ms = ns :=
  List.Perm.eq_of_pairwise (le := fun a b => leM a b = true) (fun a b _ _ h1 h2 => leM_anti h1 h2) (srtM_pw ms) s ((srtM_perm ms).trans h)
theorem srtM_uniq {ms ns : List Mv} (h : ms.Perm ns) : srtM ms = srtM ns := srtM_eq (h.trans (srtM_perm ns).symm) (srtM_pw ns)
theorem srtM_idem (ms : List Mv) : srtM (srtM ms) = srtM ms := srtM_eq (List.Perm.refl _) (srtM_pw ms)
theorem srt_ml (ms : List Mv) : (ms.map mvT).mergeSort leD = (srtM ms).map mvT := (List.map_mergeSort (r := leM) (s := leD) (f := mvT) (l := ms) fun a _ b _ => rfl).symm
theorem pl_mv (ms : List Mv) : ∀ n, plAll (n + 4) (ms.map mvT) = true := by
  intro n
  induction ms with
  | nil => rfl
  | cons m ms ih =>
    show ((mvT m).pl (n + 4) && plAll (n + 4) (ms.map mvT)) = true
    rw [ih]
    rfl
theorem srtOk_mv (ms : List Mv) : srtOk (ms.map mvT) = true := by
  unfold srtOk
  rw [show (60 : Nat) = 56 + 4 from rfl, pl_mv ms 56]
  have h1 : ((ms.map mvT).all fun x => (ms.map mvT).all fun y => W.alike x.enc y.enc) = true := by
    refine List.all_eq_true.mpr fun x hx => List.all_eq_true.mpr fun y hy => ?_
    obtain ⟨a, _, rfl⟩ := List.mem_map.mp hx
    obtain ⟨b, _, rfl⟩ := List.mem_map.mp hy
    rfl
  have h2 : (ms.map mvT).all isTup1 = true := by
    refine List.all_eq_true.mpr fun x hx => ?_
    obtain ⟨a, _, rfl⟩ := List.mem_map.mp hx
    rfl
  rw [h1, h2]
  rfl
theorem sorted_l {ms : List Mv} (h : ms.length ≤ big) : sortedG [.lst (ms.map mvT)] = some (OL ((srtM ms).map mvT)) := by
  show (if _ then _ else _) = _
  rw [if_pos ⟨srtOk_mv ms, by rw [List.length_map]; exact h⟩, srt_ml]
/-! lines -/
abbrev sp : Str := Str.ofString " "
abbrev cm : Str := Str.ofString ","
abbrev cs : Str := Str.ofString ", "
theorem sp_tl : TL.tl sp = [32] := by decide +kernel
theorem sp_ok : sp.cps.all (· < 256) = true := by decide +kernel
theorem sp_len : sp.length = 1 := by decide +kernel
theorem cs_len : cs.length = 2 := by decide +kernel
theorem cs_eq : cs = cm ++ sp := by decide +kernel
theorem sA (a b c : Str) : a ++ b ++ c = a ++ (b ++ c) := congrArg Str.mk (Array.append_assoc : (a.cps ++ b.cps) ++ c.cps = a.cps ++ (b.cps ++ c.cps))
theorem split_ok {ys : List Str} (hne : ys ≠ []) (h : ∀ y ∈ ys, 32 ∉ y.cps.toList) : Txt.split (Txt.join sp ys) sp = ys := TL.split_join (s := 32) (S := []) sp_tl sp_ok hne h
theorem join_inj {xs ys : List Str} (hx : xs ≠ []) (hy : ys ≠ []) (h1 : ∀ y ∈ xs, 32 ∉ y.cps.toList) (h2 : ∀ y ∈ ys, 32 ∉ y.cps.toList) (e : Txt.join sp xs = Txt.join sp ys) : xs = ys := by
  rw [← split_ok hx h1, e, split_ok hy h2]
theorem no_sp {y : Str} (h : Wd y) : 32 ∉ y.cps.toList := fun hm => by
  have := (h.2.2 32 hm).1
  omega
theorem join_app : ∀ (xs ys : List Str), xs ≠ [] → ys ≠ [] → Str.join sp xs ++ sp ++ Str.join sp ys = Str.join sp (xs ++ ys)
  | [x], y :: ys, _, _ => rfl
  | x :: x' :: xs, ys, _, h => by
    have ih := join_app (x' :: xs) ys (by simp) h
    show (x ++ sp ++ Str.join sp (x' :: xs)) ++ sp ++ Str.join sp ys = x ++ sp ++ Str.join sp (x' :: xs ++ ys)
    rw [← ih]
    simp only [sA]
  | [], _, h, _ => absurd rfl h
  | [x], [], _, h => absurd rfl h
def mvS (m : Mv) : Str := Txt.join sp [m.1, m.2.1, m.2.2]
def mvs (ms : List Mv) : Str := Txt.join cs (ms.map mvS)
def lineOf (c : Str) (ms : List Mv) : Str := c ++ sp ++ mvs ms
/-- the words of moves, each but the last with its comma -/
def mw : List Mv → List Str
  | [] => []
  | [m] => [m.1, m.2.1, m.2.2]
  | m :: n :: r => m.1 :: m.2.1 :: (m.2.2 ++ cm) :: mw (n :: r)
theorem mw_ne : ∀ {ms : List Mv}, ms ≠ [] → mw ms ≠ []
  | [m], _ => by simp [mw]
  | m :: n :: r, _ => by simp [mw]
  | [], h => absurd rfl h
theorem mvs_mw : ∀ {ms : List Mv}, ms ≠ [] → mvs ms = Txt.join sp (mw ms)
  | [m], _ => by
    unfold mvs
    rw [TL.join_eq]
    rfl
  | m :: n :: r, _ => by
    have ih := mvs_mw (ms := n :: r) (by simp)
    unfold mvs at ih ⊢
    rw [TL.join_eq] at ih ⊢
    have e1 : Str.join cs ((m :: n :: r).map mvS) = mvS m ++ cs ++ Str.join cs ((n :: r).map mvS) := rfl
    rw [e1, ih, cs_eq, TL.join_eq, TL.join_eq]
    have e2 : mvS m = m.1 ++ sp ++ (m.2.1 ++ sp ++ m.2.2) := by unfold mvS; rw [TL.join_eq]; rfl
    have e3 : Str.join sp (mw (m :: n :: r)) = m.1 ++ sp ++ (m.2.1 ++ sp ++ Str.join sp ((m.2.2 ++ cm) :: mw (n :: r))) := rfl
    have e4 : Str.join sp ((m.2.2 ++ cm) :: mw (n :: r)) = Str.join sp [m.2.2 ++ cm] ++ sp ++ Str.join sp (mw (n :: r)) := (join_app [m.2.2 ++ cm] (mw (n :: r)) (by simp) (mw_ne (by simp))).symm
    rw [e2, e3, e4]
    show _ = m.1 ++ sp ++ (m.2.1 ++ sp ++ (m.2.2 ++ cm ++ sp ++ Str.join sp (mw (n :: r))))
    simp only [sA]
  | [], h => absurd rfl h
theorem line_words {c : Str} {ms : List Mv} (h : ms ≠ []) : lineOf c ms = Txt.join sp (c :: mw ms) := by
  unfold lineOf
  rw [mvs_mw h, TL.join_eq, TL.join_eq]
  exact join_app [c] (mw ms) (by simp) (mw_ne h)
end Kx
end

section
set_option maxRecDepth 100000
set_option maxHeartbeats 4000000
open PySem PySem.Spec PyProof.Rows L2 G
namespace Kx
/-! an action made, told, compared -/
@[simp] theorem listG_t {l : List D} : listG [.tup l] = some (OL l) := rfl
@[simp] theorem listG_l {l : List D} : listG [.lst l] = some (OL l) := rfl
@[simp] theorem tupleG_l {l : List D} : tupleG [.lst l] = some (.sh (.tup l)) := rfl
@[simp] theorem tupleG_t {l : List D} : tupleG [.tup l] = some (.sh (.tup l)) := rfl
def actD (c : Str) (ms : List Mv) : D := .ins 0 [.str c, .tup (ms.map mvT)]
def actO (c : Str) (ms : List Mv) : O := .ins 0 [sO c, .sh (.tup (ms.map mvT))]
theorem act_toD (c : Str) (ms : List Mv) : (actO c ms).toD = actD c ms := rfl
theorem toDs_OL : ∀ l : List D, toDs (l.map O.sh) = l
  | [] => rfl
  | d :: l => by show d :: toDs (l.map O.sh) = _; rw [toDs_OL l]
theorem OL_toD (l : List D) : (OL l).toD = .lst l := by show D.lst (toDs (l.map O.sh)) = _; rw [toDs_OL]
theorem mv_isn {m : Mv} (h : MvOk m) : mvD (mvT m) = true := by
  have a := nmB_wd.mpr h.1
  have b := nmB_wd.mpr h.2.1
  have c := nmB_wd.mpr h.2.2
  simp [mvD, mvT, isnD, a, b, c]
theorem ms_isn {ms : List Mv} (h : ∀ m ∈ ms, MvOk m) (h1 : 1 ≤ ms.length) (h4 : ms.length ≤ 4) : msD (.tup (ms.map mvT)) = true := by
  have a : (ms.map mvT).all mvD = true := List.all_eq_true.mpr fun d hd => by
    obtain ⟨m, hm, rfl⟩ := List.mem_map.mp hd
    exact mv_isn (h m hm)
  simp only [msD, List.length_map, a, Bool.and_true, Bool.and_eq_true, decide_eq_true_eq]
  exact ⟨h1, h4⟩
theorem wd_ok {x : Str} (h : Wd x) : okD (.str x) = true := by
  have := h.2.1
  simp [okD]; omega
theorem mv_ok {m : Mv} (h : MvOk m) : okM (mvT m) = true := by
  simp [okM, mvT, wd_ok h.1, wd_ok h.2.1, wd_ok h.2.2]
theorem ms_ok {ms : List Mv} (h : ∀ m ∈ ms, MvOk m) (h4 : ms.length < 1000) : okMs (.tup (ms.map mvT)) = true := by
  have a : (ms.map mvT).all okM = true := List.all_eq_true.mpr fun d hd => by
    obtain ⟨m, hm, rfl⟩ := List.mem_map.mp hd
    exact mv_ok (h m hm)
  simp [okMs, a, h4]
theorem mvD_inv {d : D} (h : mvD d = true) : ∃ m, d = mvT m ∧ MvOk m := by
  cases d with
  | tup l =>
    simp only [mvD, Bool.and_eq_true, decide_eq_true_eq] at h
    match l, h with
    | [a, b, c], ⟨_, h2⟩ =>
      simp only [List.all_cons, List.all_nil, Bool.and_true, Bool.and_eq_true] at h2
      obtain ⟨ha, hb, hc⟩ := h2
      cases a <;> simp [isnD] at ha
      cases b <;> simp [isnD] at hb
      cases c <;> simp [isnD] at hc
      exact ⟨(_, _, _), rfl, nmB_wd.mp ha, nmB_wd.mp hb, nmB_wd.mp hc⟩
  | _ => simp [mvD] at h
theorem msL_inv : ∀ {l : List D}, l.all mvD = true → ∃ ms : List Mv, l = ms.map mvT ∧ ∀ m ∈ ms, MvOk m
  | [], _ => ⟨[], rfl, by simp⟩
  | d :: l, h => by
    rw [List.all_cons, Bool.and_eq_true] at h
    obtain ⟨m, rfl, hm⟩ := mvD_inv h.1
    obtain ⟨ms, rfl, hs⟩ := msL_inv h.2
    exact ⟨m :: ms, rfl, fun x hx => by
      rcases List.mem_cons.mp hx with e | e
      · rw [e]; exact hm
      · exact hs x e⟩
theorem msD_inv {d : D} (h : msD d = true) : ∃ ms : List Mv, d = .tup (ms.map mvT) ∧ 1 ≤ ms.length ∧ ms.length ≤ 4 ∧ ∀ m ∈ ms, MvOk m := by
  cases d with
  | tup l =>
    simp only [msD, Bool.and_eq_true, decide_eq_true_eq] at h
    obtain ⟨ms, rfl, hs⟩ := msL_inv h.2
    rw [List.length_map] at h
    exact ⟨ms, rfl, h.1.1, h.1.2, hs⟩
  | _ => simp [msD] at h
theorem init_no1 {n m : D} (h : okD n = true) (hn : isnD n = false) : f_Action_init [.ins 0 [], .sh n, .sh m] = .exc ⟨0, []⟩ [some (.ins 0 []), none, none] := by
  have e := is_nameD h
  rw [hn] at e
  refine exc_fn (ρ := [some (.ins 0 []), some (.sh n), some (.sh m)]) ?_
  show b_Action_init [some (.ins 0 []), some (.sh n), some (.sh m)] = _
  unfold b_Action_init
  simp [e]
theorem init_no2 {n m : D} (h : okD n = true) (hn : isnD n = true) (h2 : okMs m = true) (hm : msD m = false) : f_Action_init [.ins 0 [], .sh n, .sh m] = .exc ⟨1, []⟩ [some (.ins 0 []), none, none] := by
  have e := is_nameD h
  rw [hn] at e
  have e2 := are_movesD h2
  rw [hm] at e2
  refine exc_fn (ρ := [some (.ins 0 []), some (.sh n), some (.sh m)]) ?_
  show b_Action_init [some (.ins 0 []), some (.sh n), some (.sh m)] = _
  unfold b_Action_init
  simp [e, e2]
theorem putFO0 {o : O} : putFO 0 o [] = some [o] := rfl
theorem putFO1 {o p : O} : putFO 1 o [p] = some [p, o] := rfl
theorem init_ok {c : Str} {ms : List Mv} (hc : Wd c) (h : ∀ m ∈ ms, MvOk m) (h1 : 1 ≤ ms.length) (h4 : ms.length ≤ 4) :
    f_Action_init [.ins 0 [], sO c, .sh (.tup (ms.map mvT))] = .ok (.sh .non) [some (actO c (srtM ms)), none, none] := by
  have e := is_nameD (wd_ok hc)
  rw [show isnD (.str c) = true from nmB_wd.mpr hc] at e
  have e2 := are_movesD (ms_ok h (by omega))
  rw [ms_isn h h1 h4] at e2
  have hb : ms.length ≤ big := Nat.le_trans h4 (by decide)
  have e3 := sorted_l hb
  refine nx_fn (ρ := [some (actO c (srtM ms)), some (sO c), some (.sh (.tup (ms.map mvT)))]) ?_
  show b_Action_init [some (.ins 0 []), some (sO c), some (.sh (.tup (ms.map mvT)))] = _
  unfold b_Action_init
  simp [e, e2, gs_own_called, gs_own_moves, putFO0, putFO1, OL_toD, e3, toDs_OL, actO]
theorem joinG_t {a : Str} {ys : List Str} (h : (ys.map (·.length)).sum + ys.length * a.length ≤ 16777216) : joinG a [.tup (ys.map D.str)] = some (sO (Txt.join a ys)) := by
  show (strsD (ys.map D.str)).bind _ = _
  rw [strsD_map]
  exact if_pos h
theorem mv_len {m : Mv} (h : MvOk m) : m.1.length ≤ 8 ∧ m.2.1.length ≤ 8 ∧ m.2.2.length ≤ 8 := ⟨h.1.2.1, h.2.1.2.1, h.2.2.2.1⟩
theorem join_mv {m : Mv} (h : MvOk m) : joinG sp [mvT m] = some (sO (mvS m)) := by
  obtain ⟨a, b, c⟩ := mv_len h
  refine joinG_t (ys := [m.1, m.2.1, m.2.2]) ?_
  rw [sp_len]
  simp
  omega
theorem mvS_len {m : Mv} (h : MvOk m) : (mvS m).length ≤ 30 := by
  obtain ⟨a, b, c⟩ := mv_len h
  have := StrLaws.join_length_le sp [m.1, m.2.1, m.2.2]
  rw [sp_len] at this
  unfold mvS
  rw [TL.join_eq]
  simp at this
  omega
theorem mvs_sum : ∀ {ms : List Mv}, (∀ m ∈ ms, MvOk m) → ((ms.map mvS).map (·.length)).sum ≤ 30 * ms.length
  | [], _ => by simp
  | m :: ms, h => by
    have a := mvS_len (h m (by simp))
    have b := mvs_sum (ms := ms) fun x hx => h x (by simp [hx])
    simp only [List.map_cons, List.sum_cons, List.length_cons]
    omega
theorem mvs_len {ms : List Mv} (h : ∀ m ∈ ms, MvOk m) : (mvs ms).length ≤ 32 * ms.length := by
  have a := mvs_sum h
  have b := StrLaws.join_length_le cs (ms.map mvS)
  rw [cs_len, List.length_map] at b
  unfold mvs
  rw [TL.join_eq]
  omega
theorem join_mvs {ms : List Mv} (h : ∀ m ∈ ms, MvOk m) (hl : ms.length ≤ 100) : joinG cs [.lst ((ms.map mvS).map D.str)] = some (sO (mvs ms)) := by
  refine joinG_l ?_
  have a := mvs_sum h
  rw [cs_len, List.length_map]
  omega
/-- the comprehension that joins moves -/
theorem lc_mv {fi : Env' → Out (List D)} {ρ : Env'} {i : Nat} {ms : List Mv} (hf : fi ρ = .ok (ms.map mvT) ρ) (h0 : ρ[i]? = some none ∨ ∃ d, ρ[i]? = some (some (.sh d))) (h : ∀ m ∈ ms, MvOk m) (hl : ms.length ≤ 100) :
    eLc fi (tN i) ttY (eMs joinG (eK (.str sp)) (eCons (eVar i) eNil)) [i] ρ = .ok (.lst ((ms.map mvS).map sO)) ρ := by
  have hi : i < ρ.length := by
    rcases h0 with h | ⟨d, h⟩ <;> exact (List.getElem?_eq_some_iff.mp h).1
  have q := eLc_pure (i := i) (fi := fi) (tt := ttY) (te := eMs joinG (eK (.str sp)) (eCons (eVar i) eNil)) (ρ := ρ) (l := ms.map mvT) (p := fun _ => true)
    (v := fun d => match joinG sp [d] with | some o => o | none => .sh .non) hf h0 (fun d _ => rfl) (fun d hd _ => by
      obtain ⟨m, hm, rfl⟩ := List.mem_map.mp hd
      have e := join_mv (h m hm)
      simp [hi, e]) (by rw [List.length_map]; have : big = 1000000 := rfl; omega)
  rw [q, filter_true, List.map_map, List.map_map]
  congr 2
  refine List.map_congr_left fun m hm => ?_
  show (match joinG sp [mvT m] with | some o => o | none => .sh .non) = sO (mvS m)
  rw [join_mv (h m hm)]
theorem emp_app (a : Str) : Str.empty ++ a = a := by
  have : (#[] : Array Nat) ++ a.cps = a.cps := by simp
  exact congrArg Str.mk this
theorem line_len {c : Str} {ms : List Mv} (hc : Wd c) (h : ∀ m ∈ ms, MvOk m) : (lineOf c ms).length ≤ 9 + 32 * ms.length := by
  have a := mvs_len h
  have b := hc.2.1
  unfold lineOf
  rw [Str.length_append, Str.length_append, sp_len]
  omega
theorem fjn_step {f : Fe} {fs : List Fe} {acc y : Str} {ρ ρ' : Env'} (e : f ρ = .ok (sO y) ρ') (h : (acc ++ y).length ≤ big) : eFjn (f :: fs) acc ρ = eFjn fs (acc ++ y) ρ' := by
  rw [ev_eFjn, e]
  show (if (acc ++ y).length ≤ big then _ else _) = _
  rw [if_pos h]
theorem str_ok {c : Str} {ms : List Mv} (hc : Wd c) (h : ∀ m ∈ ms, MvOk m) (hl : ms.length ≤ 100) : f_Action_str [.sh (actD c ms)] = .ok (sO (lineOf c ms)) [none] := by
  have hb : big = 1000000 := rfl
  have q1 := lc_mv (fi := iSeq (e1 (fldG gs_own_moves) (eVar 0))) (ρ := [some (.sh (actD c ms)), none]) (i := 1) (ms := ms) (by simp [actD, gs_own_moves]) (.inl rfl) h hl
  have q2 := join_mvs h hl
  have l1 := line_len hc h
  have l2 := mvs_len h
  have l3 := hc.2.1
  have fc : fmtD (.str c) = some (sO c) := if_pos (by omega)
  have fm : fmtD (.str (mvs ms)) = some (sO (mvs ms)) := if_pos (by omega)
  have c1 : (Str.empty ++ c).length ≤ big := by rw [emp_app]; omega
  have c2 : (Str.empty ++ c ++ sp).length ≤ big := by rw [emp_app, Str.length_append, sp_len]; omega
  have c3 : (Str.empty ++ c ++ sp ++ mvs ms).length ≤ big := by rw [emp_app]; exact Nat.le_trans l1 (by omega)
  have p1 : (e1 fmtD (e1 (fldG gs_own_called) (eVar 0))) [some (.sh (actD c ms)), none] = .ok (sO c) [some (.sh (actD c ms)), none] := by simp [actD, gs_own_called, fc]
  have p3 : (e1 fmtD (eMs joinG (eK (.str cs)) (eCons (eLc (iSeq (e1 (fldG gs_own_moves) (eVar 0))) (tN 1) ttY (eMs joinG (eK (.str sp)) (eCons (eVar 1) eNil)) [1]) eNil))) [some (.sh (actD c ms)), none] = .ok (sO (mvs ms)) [some (.sh (actD c ms)), none] := by
    rw [ev_e1, ev_eMs]
    show ((eN (joinG cs) (eCons (eLc (iSeq (e1 (fldG gs_own_moves) (eVar 0))) (tN 1) ttY (eMs joinG (eK (.str sp)) (eCons (eVar 1) eNil)) [1]) eNil)) [some (.sh (actD c ms)), none]).bind _ = _
    rw [ev_eN, ev_eCons, q1]
    simp only [bind_ok, ev_eNil, toDs_cons, toDs_nil, toD_lst, toDs_str, q2, fin_some, sh_toD, fm]
  refine ret_fn (ρ := [some (.sh (actD c ms)), none]) ?_
  show b_Action_str [some (.sh (actD c ms)), none] = _
  unfold b_Action_str
  rw [ev_sRet, fjn_step p1 c1, fjn_step (y := sp) rfl c2, fjn_step p3 c3]
  show SO.ret (sO (Str.empty ++ c ++ sp ++ mvs ms)) _ = _
  rw [emp_app]
  rfl
end Kx
end

section
set_option maxRecDepth 100000
set_option maxHeartbeats 4000000
open PySem PySem.Spec PyProof.Rows L2 G
namespace Kx
/-! compared, told -/
theorem eqD_mv (m n : Mv) : (mvT m).eqD (mvT n) = decide (m = n) := by
  obtain ⟨a, b, c⟩ := m
  obtain ⟨a', b', c'⟩ := n
  show ((a == a') && ((b == b') && ((c == c') && true))) = _
  by_cases h1 : a = a' <;> by_cases h2 : b = b' <;> by_cases h3 : c = c' <;> simp [h1, h2, h3]
theorem eqDs_mv : ∀ ms ns : List Mv, eqDs (ms.map mvT) (ns.map mvT) = decide (ms = ns)
  | [], [] => rfl
  | [], _ :: _ => rfl
  | _ :: _, [] => rfl
  | m :: ms, n :: ns => by
    show ((mvT m).eqD (mvT n) && eqDs (ms.map mvT) (ns.map mvT)) = _
    rw [eqD_mv, eqDs_mv ms ns]
    by_cases h1 : m = n <;> by_cases h2 : ms = ns <;> simp [h1, h2]
theorem pl_mv2 (ms ns : List Mv) : (plAll 60 (ms.map mvT) && plAll 60 (ns.map mvT)) = true := by
  rw [show (60 : Nat) = 56 + 4 from rfl, pl_mv ms 56, pl_mv ns 56]; rfl
@[simp] theorem gEq_mv (ms ns : List Mv) : gEq (.tup (ms.map mvT)) (.tup (ns.map mvT)) = some (bO (decide (ms = ns))) := by rw [gEq_tup (pl_mv2 ms ns), eqDs_mv]
@[simp] theorem fld_c {c : Str} {ms : List Mv} : fldG gs_own_called (actD c ms) = some (sO c) := rfl
@[simp] theorem fld_m {c : Str} {ms : List Mv} : fldG gs_own_moves (actD c ms) = some (.sh (.tup (ms.map mvT))) := rfl
theorem eq_act {c c' : Str} {ms ns : List Mv} : f_Action_eq [.sh (actD c ms), .sh (actD c' ns)] = .ok (bO (decide (c = c' ∧ ms = ns))) [none, none] := by
  refine ret_fn (ρ := [some (.sh (actD c ms)), some (.sh (actD c' ns))]) ?_
  show b_Action_eq [some (.sh (actD c ms)), some (.sh (actD c' ns))] = _
  unfold b_Action_eq
  have i : isC is_Action (actD c' ns) = some (bO true) := rfl
  by_cases h : c = c'
  · have hb : (c == c') = true := by simpa using h
    simp [i, hb, h]
  · have hb : (c == c') = false := by simpa using h
    simp [i, hb, h]
theorem eq_other {c : Str} {ms : List Mv} {d : D} (h : isC is_Action d = some (bO false)) : f_Action_eq [.sh (actD c ms), .sh d] = .ok (bO false) [none, none] := by
  refine ret_fn (ρ := [some (.sh (actD c ms)), some (.sh d)]) ?_
  show b_Action_eq [some (.sh (actD c ms)), some (.sh d)] = _
  unfold b_Action_eq
  simp [h]
theorem ans_eq {c : Str} {ms : List Mv} {d : D} {b : Bool} (h : f_Action_eq [.sh (actD c ms), .sh d] = .ok (bO b) [none, none]) : ansG f_Action_eq [actD c ms, d] = some (.bl b) := by
  unfold ansG
  show (match f_Action_eq [.sh (actD c ms), .sh d] with | .ok (.sh d) _ => if scD d = true then some d else none | _ => none) = _
  rw [h]
  rfl
theorem gEqA_a {c : Str} {ms : List Mv} {d : D} {b : Bool} (hR : okR d = true) (h : f_Action_eq [.sh (actD c ms), .sh d] = .ok (bO b) [none, none]) : g2 (gEqA t_Action_eq) (actD c ms) d = some (bO b) := by
  have q : gEqA t_Action_eq (actD c ms) d = some (.bl b) := by
    show (if okR d = true then _ else _) = _
    rw [if_pos hR]
    show ((some f_Action_eq).bind fun g => ansG g [actD c ms, d]).bind _ = _
    rw [Option.bind_some, ans_eq h]
    rfl
  unfold g2
  rw [q]
  rfl
theorem gNeA_a {c : Str} {ms : List Mv} {d : D} {b : Bool} (hR : okR d = true) (h : f_Action_eq [.sh (actD c ms), .sh d] = .ok (bO b) [none, none]) : g2 (gNeA t_Action_eq) (actD c ms) d = some (bO !b) := by
  have q : gNeA t_Action_eq (actD c ms) d = some (.bl !b) := by
    show (if okR d = true then _ else _) = _
    rw [if_pos hR]
    show ((some f_Action_eq).bind fun g => ansG g [actD c ms, d]).bind _ = _
    rw [Option.bind_some, ans_eq h]
    rfl
  unfold g2
  rw [q]
  rfl
theorem gStrA_a {c : Str} {ms : List Mv} (hc : Wd c) (h : ∀ m ∈ ms, MvOk m) (hl : ms.length ≤ 100) : g1 (gStrA t_Action_str) (actD c ms) = some (sO (lineOf c ms)) := by
  have e := str_ok hc h hl
  have l := line_len hc h
  have hb : big = 1000000 := rfl
  have a : ansG f_Action_str [actD c ms] = some (.str (lineOf c ms)) := by
    unfold ansG
    show (match f_Action_str [.sh (actD c ms)] with | .ok (.sh d) _ => if scD d = true then some d else none | _ => none) = _
    rw [e]
    rfl
  have q : gStrA t_Action_str (actD c ms) = some (.str (lineOf c ms)) := by
    show ((some f_Action_str).bind fun g => ansG g [actD c ms]).bind _ = _
    rw [Option.bind_some, a]
    have t : txD (.str (lineOf c ms)) = some (lineOf c ms) := if_pos (by omega)
    show (txD (.str (lineOf c ms))).map D.str = _
    rw [t]
    rfl
  unfold g1
  rw [q]
  rfl
theorem len_act {c : Str} {ms : List Mv} : f_Action_len [.sh (actD c ms)] = .ok (iO ms.length) [none] := by
  refine ret_fn (ρ := [some (.sh (actD c ms))]) ?_
  show b_Action_len [some (.sh (actD c ms))] = _
  unfold b_Action_len
  simp
theorem gLenA_a {c : Str} {ms : List Mv} (hl : ms.length ≤ 100) : g1 (gLenA t_Action_len) (actD c ms) = some (iO ms.length) := by
  have a : ansG f_Action_len [actD c ms] = some (.int ms.length) := by
    unfold ansG
    show (match f_Action_len [.sh (actD c ms)] with | .ok (.sh d) _ => if scD d = true then some d else none | _ => none) = _
    rw [len_act]
    rfl
  have q : gLenA t_Action_len (actD c ms) = some (.int ms.length) := by
    have t : t_Action_len 0 = some f_Action_len := one_self
    have t2 : lnD (.int ms.length) = some (ms.length : Int) := if_pos ⟨by omega, by omega⟩
    have q : gLenA t_Action_len (actD c ms) = ((t_Action_len 0).bind fun g => ansG g [actD c ms]).bind fun d => (lnD d).map D.int := rfl
    rw [q, t, Option.bind_some, a, Option.bind_some, t2]
    rfl
  unfold g1
  rw [q]
  rfl
theorem called_act {c : Str} {ms : List Mv} : f_Action_called [.sh (actD c ms)] = .ok (sO c) [none] := by
  refine ret_fn (ρ := [some (.sh (actD c ms))]) ?_
  show b_Action_called [some (.sh (actD c ms))] = _
  unfold b_Action_called
  simp
theorem moves_act {c : Str} {ms : List Mv} : f_Action_moves [.sh (actD c ms)] = .ok (.sh (.tup (ms.map mvT))) [none] := by
  refine ret_fn (ρ := [some (.sh (actD c ms))]) ?_
  show b_Action_moves [some (.sh (actD c ms))] = _
  unfold b_Action_moves
  simp
/-- a property, read -/
theorem prp_at {g : Fn} {f : Fe} {ρ ρ' : Env'} {c : Str} {ms : List Mv} {o : O} {ps : Env'} (e : f ρ = .ok (.sh (actD c ms)) ρ') (h : g [.sh (actD c ms)] = .ok o [none]) : ePrp (G.one 0 g) f ρ = .ok o ρ' := by
  rw [ev_ePrp, ev_eMth, e]
  show (match ((G.one 0 g 0).map fnNx) with | some g' => eCall g' [none] (eCons (eGiven (.sh (actD c ms))) eNil) ρ' | none => .bad) = _
  rw [one_self]
  show eCall (fnNx g) [none] (eCons (eGiven (.sh (actD c ms))) eNil) ρ' = _
  have q : fnNx g [.sh (actD c ms)] = .ok o [none] := by unfold fnNx; rw [h]
  simp [q]
end Kx
end

section
set_option maxRecDepth 100000
set_option maxHeartbeats 4000000
open PySem PySem.Spec PyProof.Rows L2 G
namespace Kx
/-! lines read -/
@[simp] theorem ev_tT {n : Nat} {u : List D → Env' → Option Env'} {l : List D} {ρ : Env'} : tT n u (.tup l) ρ = if l.length = n then u l ρ else none := rfl
@[simp] theorem ev_tsC {t : D → Env' → Option Env'} {u : List D → Env' → Option Env'} {d : D} {ds : List D} {ρ : Env'} : tsCons t u (d :: ds) ρ = (t d ρ).bind (u ds) := rfl
@[simp] theorem ev_tsN {ρ : Env'} : tsNil [] ρ = some ρ := rfl
theorem join_ge (y : Str) : ∀ ps : List Str, (ps.length - 1) * y.length ≤ (Str.join y ps).length
  | [] => by simp
  | [p] => by simp
  | p :: q :: r => by
    have ih := join_ge y (q :: r)
    have e : Str.join y (p :: q :: r) = p ++ y ++ Str.join y (q :: r) := rfl
    rw [e, Str.length_append, Str.length_append]
    simp only [List.length_cons, Nat.add_sub_cancel] at ih ⊢
    rw [Nat.succ_mul]
    omega
theorem split_few (x y : Str) (hy : 1 ≤ y.length) : (Txt.split x y).length ≤ x.length + 1 := by
  have h := join_ge y (Txt.split x y)
  rw [StrLaws.join_split] at h
  have : ((Txt.split x y).length - 1) * 1 ≤ ((Txt.split x y).length - 1) * y.length := Nat.mul_le_mul_left _ hy
  omega
theorem part_len (x y : Str) : (Txt.partition x y).1.length ≤ x.length ∧ (Txt.partition x y).2.2.length ≤ x.length := by
  have h := congrArg Str.length (StrLaws.partition_sum x y)
  rw [Str.length_append, Str.length_append] at h
  omega
def calOf (x : Str) : Str := (Txt.partition x sp).1
def prtD (p : Str) : D := .tup ((Txt.split p sp).map D.str)
def prtsD (x : Str) : List D := (Txt.split (Txt.partition x sp).2.2 cs).map prtD
theorem splitG_ok {x y : Str} (hy : (y.length == 0) = false) (hx : x.length ≤ 1000) : splitG x [.str y] = some (.lst ((Txt.split x y).map sO)) := if_pos ⟨hy, Nat.le_trans hx (by decide)⟩
theorem sp0 : (sp.length == 0) = false := by rw [sp_len]; rfl
theorem cs0 : (cs.length == 0) = false := by rw [cs_len]; rfl
noncomputable abbrev tail1 : Fs := (sSeq (sTryH (sSet 7 (eMakeV 0 0 f_Action_init [none, none] (eCons (eVar 2) (eCons (eVar 5) eNil)))) (fun n => h_InvalidName n || h_InvalidAction n) (eSup 2 (eK .non)))
  (sSeq (sIf (eB (e2 gNe (e1 (g1 (gStrA t_Action_str)) (eVar 7)) (eVar 1)))
  (sRaise (eSup 2 (eK .non)))
  sNil)
  (sRet (eVar 7))))
abbrev env5 (x : Str) : Env' := [some (.sh (.cl 0)), some (sO x), some (sO (calOf x)), some (sO (Txt.partition x sp).2.1), some (sO (Txt.partition x sp).2.2), some (.sh (.tup (prtsD x))), none, none]
theorem okD_part {p : Str} (h : p.length ≤ 500) : okM (prtD p) = true := by
  have a : ((Txt.split p sp).map D.str).all okD = true := List.all_eq_true.mpr fun d hd => by
    obtain ⟨q, hq, rfl⟩ := List.mem_map.mp hd
    have := part_short hq
    simp [okD]; omega
  have b := split_few p sp (by rw [sp_len]; exact Nat.le_refl _)
  show (((Txt.split p sp).map D.str).all okD && decide (((Txt.split p sp).map D.str).length < 1000)) = true
  rw [a, Bool.true_and, List.length_map, decide_eq_true_eq]
  omega
theorem ok_prts {x : Str} (h : x.length ≤ 500) : okMs (.tup (prtsD x)) = true := by
  have l := (part_len x sp).2
  have a : (prtsD x).all okM = true := List.all_eq_true.mpr fun d hd => by
    obtain ⟨q, hq, rfl⟩ := List.mem_map.mp hd
    have := part_short hq
    exact okD_part (by omega)
  have b := split_few (Txt.partition x sp).2.2 cs (by rw [cs_len]; decide)
  show ((prtsD x).all okM && decide ((prtsD x).length < 1000)) = true
  rw [a, Bool.true_and, decide_eq_true_eq]
  show ((Txt.split (Txt.partition x sp).2.2 cs).map prtD).length < 1000
  rw [List.length_map]
  omega
theorem from_pre {x : Str} (h : x.length ≤ 500) : b_Action_from_line [some (.sh (.cl 0)), some (sO x), none, none, none, none, none, none] = tail1 (env5 x) := by
  have hb : big = 1000000 := rfl
  have l := part_len x sp
  have p1 : partG x [.str sp] = some (.sh (.tup [.str (Txt.partition x sp).1, .str (Txt.partition x sp).2.1, .str (Txt.partition x sp).2.2])) := if_pos ⟨sp0, by omega⟩
  have s1 := splitG_ok (x := (Txt.partition x sp).2.2) cs0 (by omega)
  have f1 := split_few (Txt.partition x sp).2.2 cs (by rw [cs_len]; decide)
  have q := eLc_pure (i := 6) (fi := iSeq (eMs splitG (eVar 4) (eCons (eK (.str cs)) eNil))) (tt := ttY) (te := eN tupleG (eCons (eMs splitG (eVar 6) (eCons (eK (.str sp)) eNil)) eNil))
    (ρ := [some (.sh (.cl 0)), some (sO x), some (sO (calOf x)), some (sO (Txt.partition x sp).2.1), some (sO (Txt.partition x sp).2.2), none, none, none]) (l := (Txt.split (Txt.partition x sp).2.2 cs).map D.str) (p := fun _ => true)
    (v := fun d => match d with | .str p => .sh (prtD p) | _ => .sh .non) (by simp [s1, toDs_str]) (.inl rfl) (fun d _ => rfl) (fun d hd _ => by
      obtain ⟨p, hp, rfl⟩ := List.mem_map.mp hd
      have := part_short hp
      have s2 := splitG_ok (x := p) sp0 (by omega)
      simp [s2, toDs_str, prtD]) (by rw [List.length_map]; omega)
  rw [filter_true, List.map_map] at q
  unfold b_Action_from_line
  rw [ev_sSeq]
  have g1 : sIf (tNt (eTru (e1 (isG "str") (eVar 1)))) (sRaise (eSup 2 (eK .non))) sNil [some (.sh (.cl 0)), some (sO x), none, none, none, none, none, none] = .nx [some (.sh (.cl 0)), some (sO x), none, none, none, none, none, none] := by simp [isG_s]
  rw [g1]
  show sSeq _ _ _ = _
  rw [ev_sSeq]
  have g2 : sUnp (tT 3 (tsCons (tN 2) (tsCons (tN 3) (tsCons (tN 4) tsNil)))) (eMs partG (eVar 1) (eCons (eK (.str sp)) eNil)) [some (.sh (.cl 0)), some (sO x), none, none, none, none, none, none] =
    .nx [some (.sh (.cl 0)), some (sO x), some (sO (calOf x)), some (sO (Txt.partition x sp).2.1), some (sO (Txt.partition x sp).2.2), none, none, none] := by simp [p1, calOf]
  rw [g2]
  show sSeq _ _ _ = _
  rw [ev_sSeq, ev_sSet, ev_eN, ev_eCons, q]
  simp only [bind_ok, ev_eNil, toDs_cons, toDs_nil, toD_lst, tupleG_l, fin_some]
  have e : toDs ((Txt.split (Txt.partition x sp).2.2 cs).map ((fun d => match d with | .str p => .sh (prtD p) | _ => .sh .non) ∘ D.str)) = prtsD x := by
    have e2 : (Txt.split (Txt.partition x sp).2.2 cs).map ((fun d => match d with | .str p => .sh (prtD p) | _ => .sh .non) ∘ D.str) = (prtsD x).map O.sh := by
      unfold prtsD
      rw [List.map_map]
      rfl
    rw [e2, toDs_OL]
  rw [e]
  rfl
abbrev noLine : G.Out O := .exc ⟨2, [.non]⟩ [none, none]
theorem from_fn {x : Str} {o : O} {ρ : Env'} (h : x.length ≤ 500) (e : tail1 (env5 x) = .ret o ρ) : f_Action_from_line [.sh (.cl 0), sO x] = .ok o [none, none] := by
  refine ret_fn (ρ := ρ) ?_
  show b_Action_from_line [some (.sh (.cl 0)), some (sO x), none, none, none, none, none, none] = _
  rw [from_pre h, e]
theorem from_fx {x : Str} {o : Xn} {ρ : Env'} (h : x.length ≤ 500) (e : tail1 (env5 x) = .exc o ρ) : f_Action_from_line [.sh (.cl 0), sO x] = .exc o [none, none] := by
  refine exc_fn (ρ := ρ) ?_
  show b_Action_from_line [some (.sh (.cl 0)), some (sO x), none, none, none, none, none, none] = _
  rw [from_pre h, e]
theorem tail_no {x : Str} {y : Xn} (hy : y = ⟨0, []⟩ ∨ y = ⟨1, []⟩) (e : f_Action_init [.ins 0 [], .sh (.str (calOf x)), .sh (.tup (prtsD x))] = .exc y [some (.ins 0 []), none, none]) : tail1 (env5 x) = .exc ⟨2, [.non]⟩ (env5 x) := by
  have s1 : sSet 7 (eMakeV 0 0 f_Action_init [none, none] (eCons (eVar 2) (eCons (eVar 5) eNil))) (env5 x) = .exc y (env5 x) := by
    simp [e]
  unfold tail1
  rw [ev_sSeq, ev_sTryH, s1]
  rcases hy with rfl | rfl <;> rfl
theorem tail_yes {x : Str} {ms : List Mv} (hc : Wd (calOf x)) (hm : prtsD x = ms.map mvT) (h : ∀ m ∈ ms, MvOk m) (h1 : 1 ≤ ms.length) (h4 : ms.length ≤ 4) :
    tail1 (env5 x) = (if lineOf (calOf x) (srtM ms) = x then SO.ret (.sh (actD (calOf x) (srtM ms))) ((env5 x).set 7 (some (.sh (actD (calOf x) (srtM ms))))) else .exc ⟨2, [.non]⟩ ((env5 x).set 7 (some (.sh (actD (calOf x) (srtM ms)))))) := by
  have e := init_ok hc h h1 h4
  have hs : ∀ m ∈ srtM ms, MvOk m := fun m hm => h m ((srtM_perm ms).mem_iff.mp hm)
  have hl : (srtM ms).length = ms.length := (srtM_perm ms).length_eq
  have st := gStrA_a hc hs (by omega)
  unfold actD at st
  have s1 : sSet 7 (eMakeV 0 0 f_Action_init [none, none] (eCons (eVar 2) (eCons (eVar 5) eNil))) (env5 x) = .nx ((env5 x).set 7 (some (actO (calOf x) (srtM ms)))) := by
    simp [e, hm]
  unfold tail1
  rw [ev_sSeq, ev_sTryH, s1]
  show sSeq _ _ ((env5 x).set 7 (some (actO (calOf x) (srtM ms)))) = _
  by_cases he : lineOf (calOf x) (srtM ms) = x
  · rw [if_pos he]
    have hb : (lineOf (calOf x) (srtM ms) == x) = true := by simpa using he
    simp [st, actO, actD, hb]
  · rw [if_neg he]
    have hb : (lineOf (calOf x) (srtM ms) == x) = false := by simpa using he
    simp [st, actO, actD, hb]
def VLine (c : Str) (ms : List Mv) : Prop := Wd c ∧ (∀ m ∈ ms, MvOk m) ∧ 1 ≤ ms.length ∧ ms.length ≤ 4 ∧ srtM ms = ms
theorem calOk {x : Str} (h : x.length ≤ 500) : okD (.str (calOf x)) = true := by
  have : (calOf x).length ≤ x.length := (part_len x sp).1
  simp [okD]; omega
/-- a string is the line of an action, or none is read -/
theorem from_line {x : Str} (h : x.length ≤ 500) : f_Action_from_line [.sh (.cl 0), sO x] = noLine ∨ ∃ c ms, VLine c ms ∧ x = lineOf c ms ∧ f_Action_from_line [.sh (.cl 0), sO x] = .ok (.sh (actD c ms)) [none, none] := by
  cases hn : isnD (.str (calOf x)) with
  | false => exact .inl (from_fx h (tail_no (.inl rfl) (init_no1 (calOk h) hn)))
  | true =>
    cases hm : msD (.tup (prtsD x)) with
    | false => exact .inl (from_fx h (tail_no (.inr rfl) (init_no2 (calOk h) hn (ok_prts h) hm)))
    | true =>
      obtain ⟨ms, q1, q2, q3, q4⟩ := msD_inv hm
      have q1 : prtsD x = ms.map mvT := by injection q1
      have hc : Wd (calOf x) := nmB_wd.mp hn
      have t := tail_yes hc q1 q4 q2 q3
      by_cases he : lineOf (calOf x) (srtM ms) = x
      · rw [if_pos he] at t
        have hl : (srtM ms).length = ms.length := (srtM_perm ms).length_eq
        exact .inr ⟨calOf x, srtM ms, ⟨hc, fun m hm => q4 m ((srtM_perm ms).mem_iff.mp hm), by omega, by omega, srtM_idem ms⟩, he.symm, from_fn h t⟩
      · rw [if_neg he] at t
        exact .inl (from_fx h t)
theorem cs_tl : TL.tl cs = [44, 32] := by decide +kernel
theorem cs_ok : cs.cps.all (· < 256) = true := by decide +kernel
theorem no_cm {y : Str} (h : Wd y) : 44 ∉ TL.tl y := fun hm => by
  have := (h.2.2 44 hm).1
  omega
theorem mvS_cm {m : Mv} (h : MvOk m) : 44 ∉ TL.tl (mvS m) := by
  unfold mvS
  rw [TL.join_eq, TL.tl_join, sp_tl]
  have a := no_cm h.1
  have b := no_cm h.2.1
  have c := no_cm h.2.2
  simp [TL.joinL, a, b, c]
theorem prt_mv {m : Mv} (h : MvOk m) : prtD (mvS m) = mvT m := by
  unfold prtD mvS
  rw [split_ok (by simp) (fun y hy => by
    simp only [List.mem_cons, List.not_mem_nil, or_false] at hy
    rcases hy with rfl | rfl | rfl
    · exact no_sp h.1
    · exact no_sp h.2.1
    · exact no_sp h.2.2)]
  rfl
theorem from_good {c : Str} {ms : List Mv} (v : VLine c ms) : f_Action_from_line [.sh (.cl 0), sO (lineOf c ms)] = .ok (.sh (actD c ms)) [none, none] := by
  obtain ⟨hc, h, h1, h4, hs⟩ := v
  have l := line_len hc h
  have pt : Txt.partition (lineOf c ms) sp = (c, sp, mvs ms) := TL.partition_app sp_tl (no_sp hc)
  have e1 : calOf (lineOf c ms) = c := by unfold calOf; rw [pt]
  have e2 : prtsD (lineOf c ms) = ms.map mvT := by
    unfold prtsD
    rw [pt]
    have sl : Txt.split (mvs ms) cs = ms.map mvS := by
      unfold mvs
      refine TL.split_join cs_tl cs_ok (by cases ms with
        | nil => simp at h1
        | cons m ms => simp) fun p hp => ?_
      obtain ⟨m, hm, rfl⟩ := List.mem_map.mp hp
      exact mvS_cm (h m hm)
    show (Txt.split (mvs ms) cs).map prtD = _
    rw [sl, List.map_map]
    exact List.map_congr_left fun m hm => prt_mv (h m hm)
  have t := tail_yes (x := lineOf c ms) (by rw [e1]; exact hc) e2 h h1 h4
  rw [e1, hs, if_pos rfl] at t
  exact from_fn (by omega) t
theorem from_other {d : D} (h : isG "str" d = some (bO false)) : f_Action_from_line [.sh (.cl 0), .sh d] = noLine := by
  refine exc_fn (ρ := [some (.sh (.cl 0)), some (.sh d), none, none, none, none, none, none]) ?_
  show b_Action_from_line [some (.sh (.cl 0)), some (.sh d), none, none, none, none, none, none] = _
  unfold b_Action_from_line
  simp [h]
end Kx
end

section
set_option maxRecDepth 100000
set_option maxHeartbeats 4000000
open PySem PySem.Spec PyProof.Rows L2 G
namespace Kx
/-! who moves -/
def dkO (l : List Str) : List (Kd × O) := l.map fun y => (.inl (.inr y), bO true)
theorem putO_dk : ∀ (l : List Str) (x : Str), putO (dkO l) (.inl (.inr x)) (bO true) = dkO (GS.met l x)
  | [], x => by
    unfold GS.met
    rw [if_neg (by simp)]
    rfl
  | y :: l, x => by
    have ih := putO_dk l x
    have e : dkO (y :: l) = (.inl (.inr y), bO true) :: dkO l := rfl
    rw [e]
    unfold putO
    by_cases h : y = x
    · subst h
      rw [if_pos rfl]
      unfold GS.met
      rw [if_pos (by simp)]
      rfl
    · have hk : ¬ ((Sum.inl (Sum.inr y) : Kd) = Sum.inl (Sum.inr x)) := fun q => h (by injection q with q; injection q)
      rw [if_neg hk, ih]
      unfold GS.met
      by_cases hx : x ∈ l
      · rw [if_pos hx, if_pos (by simp [hx])]; rfl
      · have hx' : ¬ x ∈ y :: l := by simp [hx]; exact fun q => h q.symm
        rw [if_neg hx, if_neg hx']; rfl
theorem dkO_len (l : List Str) : (dkO l).length = l.length := by unfold dkO; rw [List.length_map]
theorem dc_own {s : Option O} : ∀ (ms : List Mv) (l : List Str), l.length + ms.length < 1000 →
    dcG (tT 3 (tsCons (tN 1) (tsCons (tN 2) (tsCons (tN 3) tsNil)))) ttY (eVar 1) (eK (.bl true)) [1, 2, 3] (ms.map mvT) [s, none, none, none] (dkO l) = .ok (dkO ((ms.map (·.1)).foldl GS.met l)) [s, none, none, none]
  | [], l, h => rfl
  | m :: ms, l, h => by
    have hb : (dkO l).length < big := by rw [dkO_len]; have : big = 1000000 := rfl; omega
    have hl : (GS.met l m.1).length ≤ l.length + 1 := by unfold GS.met; split <;> simp
    have ih := dc_own (s := s) ms (GS.met l m.1) (by simp at h; omega)
    rw [List.map_cons]
    unfold dcG
    have e1 : tT 3 (tsCons (tN 1) (tsCons (tN 2) (tsCons (tN 3) tsNil))) (mvT m) [s, none, none, none] = some [s, some (sO m.1), some (sO m.2.1), some (sO m.2.2)] := by
      simp [mvT]
    rw [e1]
    have e2 : keyD (.str m.1) = some (.inr m.1) := rfl
    simp [e2, hb, putO_dk, wipeE]
    exact ih
theorem toDk_dk : ∀ l : List Str, keysL (toDk (dkO l)) = some (l.map D.str)
  | [] => rfl
  | y :: l => by
    have e : toDk (dkO (y :: l)) = (.inl (.inr y), .bl true) :: toDk (dkO l) := rfl
    rw [e]
    show (keysL (toDk (dkO l))).map _ = _
    rw [toDk_dk l]
    rfl
noncomputable def ownS (ms : List Mv) : D := .tup ((srtS (GS.dl (ms.map (·.1)))).map D.str)
theorem sortedG_s {ys : List Str} (h : ys.length ≤ big) : sortedG [.lst (ys.map D.str)] = some (OL ((srtS ys).map D.str)) := by
  show (if _ then _ else _) = _
  rw [if_pos ⟨srtOk_strs ys, by rw [List.length_map]; exact h⟩, srt_strs]
theorem dl_pos {ys : List Str} (h : 1 ≤ ys.length) : GS.dl ys ≠ [] := by
  cases ys with
  | nil => simp at h
  | cons y ys =>
    have : y ∈ GS.dl (y :: ys) := (dl_mem (y :: ys) [] y).mpr (.inr (by simp))
    exact List.ne_nil_of_mem this
theorem owners_act {c : Str} {ms : List Mv} (h1 : 1 ≤ ms.length) (hl : ms.length ≤ 100) : f_Action_owners [.sh (actD c ms)] = .ok (.sh (ownS ms)) [none] := by
  refine ret_fn (ρ := [some (.sh (actD c ms)), none, none, none]) ?_
  show b_Action_owners [some (.sh (actD c ms)), none, none, none] = _
  have q := dc_own (s := some (.sh (actD c ms))) ms [] (by simp; omega)
  have q1 : eDc (iSeq (e1 (fldG gs_own_moves) (eVar 0))) (tT 3 (tsCons (tN 1) (tsCons (tN 2) (tsCons (tN 3) tsNil)))) ttY (eVar 1) (eK (.bl true)) [1, 2, 3] [some (.sh (actD c ms)), none, none, none] = .ok (.dct (dkO (GS.dl (ms.map (·.1))))) [some (.sh (actD c ms)), none, none, none] := by
    unfold eDc
    have i1 : iSeq (e1 (fldG gs_own_moves) (eVar 0)) [some (.sh (actD c ms)), none, none, none] = .ok (ms.map mvT) [some (.sh (actD c ms)), none, none, none] := by simp
    rw [i1]
    simp only [bind_ok]
    have i2 : shAll [some (.sh (actD c ms)), none, none, none] [1, 2, 3] = true := rfl
    have i3 : wipeE [some (.sh (actD c ms)), none, none, none] [1, 2, 3] = [some (.sh (actD c ms)), none, none, none] := rfl
    have i4 : dcG (tT 3 (tsCons (tN 1) (tsCons (tN 2) (tsCons (tN 3) tsNil)))) ttY (eVar 1) (eK (.bl true)) [1, 2, 3] (ms.map mvT) [some (.sh (actD c ms)), none, none, none] [] = .ok (dkO (GS.dl (ms.map (·.1)))) [some (.sh (actD c ms)), none, none, none] := q
    rw [i2, i3, i4]
    rfl
  have ne := dl_pos (ys := ms.map (·.1)) (by rw [List.length_map]; exact h1)
  have le : (GS.dl (ms.map (·.1))).length ≤ ms.length := by
    have := GS.dl_le (ms.map (·.1)) []
    simpa [GS.dl] using this
  have q2 : listG [.dct (toDk (dkO (GS.dl (ms.map (·.1)))))] = some (OL ((GS.dl (ms.map (·.1))).map D.str)) := by
    have e : (toDk (dkO (GS.dl (ms.map (·.1))))).isEmpty = false := by
      cases e : GS.dl (ms.map (·.1)) with
      | nil => exact absurd e ne
      | cons a l => rfl
    show (if (toDk (dkO (GS.dl (ms.map (·.1))))).isEmpty = true then none else (keysL _).map OL) = _
    rw [e, toDk_dk]
    rfl
  have q3 := sortedG_s (ys := GS.dl (ms.map (·.1))) (by have : big = 1000000 := rfl; omega)
  unfold b_Action_owners
  rw [ev_sRet, ev_eN, ev_eCons, ev_eN, ev_eCons, ev_eN, ev_eCons, q1]
  simp [q2, OL_toD, q3, ownS]
theorem strsD_m (ms : List Mv) : strsD ((ms.map (·.1)).map D.str) = some (ms.map (·.1)) := strsD_map _
theorem sortSet_l {ys : List Str} (h : ys.length < 4000) : sortSetG (.lst (ys.map D.str)) = some (OL ((srtS (GS.dl ys)).map D.str)) := by
  show (strsD (ys.map D.str)).bind _ = _
  rw [strsD_map]
  exact if_pos h
theorem dl_nodup2 (ys : List Str) : (GS.dl ys).Nodup := dl_nd ys [] List.nodup_nil
theorem dl_in {ys : List Str} {x : Str} : x ∈ GS.dl ys ↔ x ∈ ys := by
  have := dl_mem ys [] x
  simpa [GS.dl] using this
theorem srt_dl_perm {xs ys : List Str} (h : xs.Perm ys) : srtS (GS.dl xs) = srtS (GS.dl ys) := by
  have s1 : ∀ x ∈ GS.dl xs, x ∈ GS.dl ys := fun x hx => dl_in.mpr (h.mem_iff.mp (dl_in.mp hx))
  have s2 : ∀ x ∈ GS.dl ys, x ∈ GS.dl xs := fun x hx => dl_in.mpr (h.mem_iff.mpr (dl_in.mp hx))
  have l1 := nodup_len (dl_nodup2 xs) s1
  have l2 := nodup_len (dl_nodup2 ys) s2
  exact (srtS_uniq (perm_nodup (dl_nodup2 xs) s1 (by omega))).symm
theorem ownS_perm {ms ns : List Mv} (h : ms.Perm ns) : ownS ms = ownS ns := by
  unfold ownS
  rw [srt_dl_perm (h.map (·.1))]
theorem cat_s {a b : Str} (h : a.length + b.length ≤ 10000) : addG (.str a) (.str b) = some (sO (a ++ b)) := if_pos (by have : big = 1000000 := rfl; omega)
/-- the law's own line -/
theorem action_line {c : Str} {ms : List Mv} (hc : Wd c) (h : ∀ m ∈ ms, MvOk m) (hl : ms.length ≤ 100) : f__law_action_line [sO c, .sh (.lst (ms.map mvT))] = .ok (sO (lineOf c (srtM ms))) [none, none] := by
  have hb : big = 1000000 := rfl
  have hs : ∀ m ∈ srtM ms, MvOk m := fun m hm => h m ((srtM_perm ms).mem_iff.mp hm)
  have hl' : (srtM ms).length = ms.length := (srtM_perm ms).length_eq
  have e3 := sorted_l (ms := ms) (by omega)
  have q1 := lc_mv (fi := iSeq (eN sortedG (eCons (eVar 1) eNil))) (ρ := [some (sO c), some (.sh (.lst (ms.map mvT))), none]) (i := 2) (ms := srtM ms) (by simp [e3, OL_toD]) (.inl rfl) hs (by omega)
  have q2 := join_mvs hs (by omega)
  have l2 := mvs_len hs
  have l3 := hc.2.1
  have a1 : addG (.str c) (.str sp) = some (sO (c ++ sp)) := cat_s (by rw [sp_len]; omega)
  have a2 : addG (.str (c ++ sp)) (.str (mvs (srtM ms))) = some (sO (lineOf c (srtM ms))) := cat_s (by rw [Str.length_append, sp_len]; omega)
  refine ret_fn (ρ := [some (sO c), some (.sh (.lst (ms.map mvT))), none]) ?_
  show b__law_action_line [some (sO c), some (.sh (.lst (ms.map mvT))), none] = _
  unfold b__law_action_line
  have p1 : (e2 addG (eVar 0) (eK (.str sp))) [some (sO c), some (.sh (.lst (ms.map mvT))), none] = .ok (sO (c ++ sp)) [some (sO c), some (.sh (.lst (ms.map mvT))), none] := by simp [a1]
  have p3 : (eMs joinG (eK (.str cs)) (eCons (eLc (iSeq (eN sortedG (eCons (eVar 1) eNil))) (tN 2) ttY (eMs joinG (eK (.str sp)) (eCons (eVar 2) eNil)) [2]) eNil)) [some (sO c), some (.sh (.lst (ms.map mvT))), none] = .ok (sO (mvs (srtM ms))) [some (sO c), some (.sh (.lst (ms.map mvT))), none] := by
    rw [ev_eMs]
    show ((eN (joinG cs) (eCons _ eNil)) [some (sO c), some (.sh (.lst (ms.map mvT))), none]) = _
    rw [ev_eN, ev_eCons, q1]
    simp only [bind_ok, ev_eNil, toDs_cons, toDs_nil, toD_lst, toDs_str, q2, fin_some, sh_toD]
  rw [ev_sRet, ev_e2, p1, bind_ok, p3]
  simp [a2]
end Kx
end

section
set_option maxRecDepth 100000
set_option maxHeartbeats 4000000
open PySem PySem.Spec PyProof.Rows L2 G
namespace Kx
/-! moves drawn, put in other orders -/
abbrev mvO (m : Mv) : O := .sh (mvT m)
theorem toDs_mv : ∀ ms : List Mv, toDs (ms.map mvO) = ms.map mvT
  | [] => rfl
  | m :: ms => by
    show mvT m :: toDs (ms.map mvO) = mvT m :: ms.map mvT
    rw [toDs_mv ms]
theorem seqIx {j n : Nat} (h : j < n) : seqIndex? (j : Int) n = some j := by
  unfold seqIndex?
  have h1 : ¬ ((j : Int) < 0) := by omega
  have h2 : (j : Int) < n := by omega
  simp [h1, h2, h]
theorem erase_map {α β : Type} (f : α → β) : ∀ (l : List α) (j : Nat), (l.map f).eraseIdx j = (l.eraseIdx j).map f
  | [], _ => rfl
  | a :: l, 0 => rfl
  | a :: l, j + 1 => by
    show f a :: (l.map f).eraseIdx j = f a :: (l.eraseIdx j).map f
    rw [erase_map f l j]
theorem erase_perm {α : Type} : ∀ (l : List α) (j : Nat) (h : j < l.length), List.Perm (l[j] :: l.eraseIdx j) l
  | a :: l, 0, _ => List.Perm.refl _
  | a :: l, j + 1, h => (List.Perm.swap a (l[j]'(by simpa using h)) (l.eraseIdx j)).trans (List.Perm.cons a (erase_perm l j (by simpa using h)))
abbrev fewC : Env' → Out Bool := tAn (eB (e2w 3 gNe (eLst eNil))) (eB (e2 gLt (e1l lenG (vVar 4)) (eVar 2)))
abbrev fewB : Fs := sExpr (eApp 4 (ePopA 3 (eCall f__law_roll [some 0, none] (eLend 0 (eCons (e1l lenG (vVar 3)) eNil)))))
theorem few_loop {it : O} : ∀ (n m k : Nat) (o : O) (ls fs : List Mv), ls.length = n → n < m → Tp k o → k + n < 2 ^ 39 → ls.length + fs.length ≤ 4 → ∃ (o' : O) (ys : List Mv), List.Perm ys (fs ++ ls) ∧ Tp (k + n) o' ∧
    whF fewC fewB m [some o, some it, some (iO 4), some (.lst (ls.map mvO)), some (.lst (fs.map mvO))] = .nx [some o', some it, some (iO 4), some (.lst []), some (.lst (ys.map mvO))]
  | 0, m + 1, k, o, ls, fs, hn, hm, h, hk, hl => by
    have e : ls = [] := List.eq_nil_of_length_eq_zero hn
    subst e
    refine ⟨o, fs, by simp, h, ?_⟩
    have g0 : gNe (.lst []) (.lst []) = some (bO false) := gNe_l0
    unfold whF
    simp [g0]
  | n + 1, m + 1, k, o, ls, fs, hn, hm, h, hk, hl => by
    obtain ⟨r, o1, er, r0, r1, h1⟩ := roll (n := (ls.length : Int)) h (by omega) (by omega) (by omega)
    obtain ⟨j, rfl, hj⟩ := nat_of r0 r1
    have hb : fs.length < big := by have : big = 1000000 := rfl; omega
    have hf : (fs.length : Int) < 4 := by omega
    have hne : (ls.map mvT).isEmpty = false := by cases ls with
      | nil => simp at hn
      | cons a l => rfl
    obtain ⟨o', ys, hp, ht, e'⟩ := few_loop (it := it) n m (k + 1) o1 (ls.eraseIdx j) (fs ++ [ls[j]]) (by rw [List.length_eraseIdx, if_pos hj]; omega) (by omega) h1 (by omega) (by rw [List.length_eraseIdx, if_pos hj]; simp; omega)
    refine ⟨o', ys, hp.trans ?_, by rw [show k + (n + 1) = k + 1 + n by omega]; exact ht, ?_⟩
    · rw [List.append_assoc]
      refine List.Perm.append_left fs ?_
      show List.Perm (ls[j] :: ls.eraseIdx j) ls
      exact erase_perm ls j hj
    · have hsm : sm (j : Int) = true := sm_small (by omega)
      have hix := seqIx hj
      have g0 : gNe (.lst (ls.map mvT)) (.lst []) = some (bO (!(ls.map mvT).isEmpty)) := gNe_l0
      rw [hne] at g0
      have ec : fewC [some o, some it, some (iO 4), some (.lst (ls.map mvO)), some (.lst (fs.map mvO))] = .ok true [some o, some it, some (iO 4), some (.lst (ls.map mvO)), some (.lst (fs.map mvO))] := by
        simp [toDs_mv, g0, hf]
      have eb : fewB [some o, some it, some (iO 4), some (.lst (ls.map mvO)), some (.lst (fs.map mvO))] = .nx [some o1, some it, some (iO 4), some (.lst ((ls.eraseIdx j).map mvO)), some (.lst ((fs ++ [ls[j]]).map mvO))] := by
        simp [toDs_mv, er, hix, hsm, hb, hj, erase_map]
      unfold whF
      rw [ec]
      simp only []
      rw [eb]
      exact e'
theorem few {k : Nat} {o : O} {ls : List Mv} (h : Tp k o) (hk : k + 100 < 2 ^ 39) (hl : ls.length ≤ 4) : ∃ (o' : O) (ys : List Mv), List.Perm ys ls ∧ Tp (k + ls.length) o' ∧
    f__law_few [o, .sh (.lst (ls.map mvT)), iO 4] = .ok (.lst (ys.map mvO)) [some o', none, none] := by
  obtain ⟨o', ys, hp, ht, e⟩ := few_loop (it := .sh (.lst (ls.map mvT))) ls.length fuel k o ls [] rfl (by have : fuel = 1000000 := rfl; omega) h (by omega) (by simpa using hl)
  refine ⟨o', ys, by simpa using hp, ht, ?_⟩
  have hlist : listG [.lst (ls.map mvT)] = some (.lst (ls.map mvO)) := by
    show some (OL (ls.map mvT)) = _
    unfold OL
    rw [List.map_map]; rfl
  simp only [List.map_nil] at e
  have s3 : b__law_few [some o, some (.sh (.lst (ls.map mvT))), some (iO 4), none, none] = .ret (.lst (ys.map mvO)) [some o', some (.sh (.lst (ls.map mvT))), some (iO 4), some (.lst []), none] := by
    unfold b__law_few
    rw [ev_sSeq]
    have q : sPar 3 4 (eCons (eN listG (eCons (eVar 1) eNil)) (eCons (eLst eNil) eNil)) [some o, some (.sh (.lst (ls.map mvT))), some (iO 4), none, none] = .nx [some o, some (.sh (.lst (ls.map mvT))), some (iO 4), some (.lst (ls.map mvO)), some (.lst [])] := by
      simp [hlist, -listG_l]
    rw [q]
    show sSeq _ _ _ = _
    rw [ev_sSeq]
    show (match whF fewC fewB fuel _ with | .nx ρ1 => _ | o => _) = _
    rw [e]
    rfl
  unfold f__law_few
  rw [fnG_eq]
  show (match b__law_few [some o, some (.sh (.lst (ls.map mvT))), some (iO 4), none, none] with | .nx ρ => _ | .ret o ρ => _ | .exc x ρ => _ | _ => _) = _
  rw [s3]
  rfl
/-- moves of drawn names, none of four letters -/
def MvX (m : Mv) : Prop := Wx m.1 ∧ Wx m.2.1 ∧ Wx m.2.2
theorem MvX.ok {m : Mv} (h : MvX m) : MvOk m := ⟨h.1.1, h.2.1.1, h.2.2.1⟩
theorem atI_last {α : Type} {l : List α} {a : α} : atI (l ++ [a]) (-1) = some a := by
  have h : (l ++ [a]).length = l.length + 1 := by simp
  have q : ixN (l ++ [a]).length (-1) = some l.length := by
    unfold ixN
    rw [if_neg (by decide), h, if_pos (by omega)]
    congr 1
    omega
  unfold atI
  rw [q]
  simp
theorem mem_strs {ys : List Str} {d : D} (h : d ∈ ys.map D.str) : ∃ y, y ∈ ys ∧ d = .str y := by
  obtain ⟨y, hy, rfl⟩ := List.mem_map.mp h
  exact ⟨y, hy, rfl⟩
def Shw (X : O) (ys : List Str) : Prop := X = .lst (ys.map sO) ∨ X = .sh (.lst (ys.map D.str))
abbrev shS (ys : List Str) : O := .sh (.lst (ys.map D.str))
theorem eVar_shw {X : O} {ys : List Str} {ρ : Env'} {i : Nat} (h : ρ[i]? = some (some X)) (hs : Shw X ys) : eVar i ρ = .ok (shS ys) (ρ.set i (some (shS ys))) := by
  rw [ev_eVar, h]
  rcases hs with rfl | rfl
  · show Out.ok (O.sh (.lst (toDs (ys.map sO)))) _ = _
    simp [toDs_str]
  · rw [set_at h]
abbrev mdT : Fs := sSet 5 (eTup (eCons (eCall f__law_pick [some 0, none] (eLend 0 (eCons (eVar 1) eNil))) (eCons (eCall f__law_pick [some 0, none] (eLend 0 (eCons (eVar 2) eNil))) (eCons (eCall f__law_pick [some 0, none] (eLend 0 (eCons (eVar 2) eNil))) eNil))))
abbrev mdA : Fs := sExpr (eApp 3 (eIf (tOr' (eB (e2w 3 gEq (eLst eNil))) (eB (e2 gGt (eCall f__law_roll [some 0, none] (eLend 0 (eCons (eK (.int 4)) eNil))) (eK (.int 0))))) (eVar 5) (eItemO 3 (e1 negG (eK (.int 1))))))
theorem md_turn {k : Nat} {o X1 X2 : O} {ys zs : List Str} {F x4 x5 : Option O} (h : Tp k o) (hk : k + 10 < 2 ^ 39) (h1 : Shw X1 ys) (h2 : Shw X2 zs) (l1 : 0 < ys.length) (l2 : 0 < zs.length) (b1 : ys.length < 100) (b2 : zs.length < 100)
    (w1 : ∀ y ∈ ys, Wx y) (w2 : ∀ y ∈ zs, Wx y) : ∃ o' m, MvX m ∧ Tp (k + 3) o' ∧ mdT [some o, some X1, some X2, F, x4, x5] = .nx [some o', some (shS ys), some (shS zs), F, x4, some (mvO m)] := by
  obtain ⟨d1, o1, e1, m1, t1⟩ := pick_sl (l := ys.map D.str) h (by omega) (by simpa using l1) (by rw [List.length_map]; omega)
  obtain ⟨d2, o2, e2, m2, t2⟩ := pick_sl (l := zs.map D.str) t1 (by omega) (by simpa using l2) (by rw [List.length_map]; omega)
  obtain ⟨d3, o3, e3, m3, t3⟩ := pick_sl (l := zs.map D.str) t2 (by omega) (by simpa using l2) (by rw [List.length_map]; omega)
  obtain ⟨a, ha, rfl⟩ := mem_strs m1
  obtain ⟨b, hb, rfl⟩ := mem_strs m2
  obtain ⟨c, hc, rfl⟩ := mem_strs m3
  refine ⟨o3, (a, b, c), ⟨w1 a ha, w2 b hb, w2 c hc⟩, t3, ?_⟩
  have q1 : eVar 1 [some o, some X1, some X2, F, x4, x5] = .ok (shS ys) [some o, some (shS ys), some X2, F, x4, x5] := eVar_shw rfl h1
  have q2 : eVar 2 [some o1, some (shS ys), some X2, F, x4, x5] = .ok (shS zs) [some o1, some (shS ys), some (shS zs), F, x4, x5] := eVar_shw rfl h2
  have c1 : eCall f__law_pick [some 0, none] (eLend 0 (eCons (eVar 1) eNil)) [some o, some X1, some X2, F, x4, x5] = .ok (sO a) [some o1, some (shS ys), some X2, F, x4, x5] := by
    rw [ev_eCall, ev_eLend]
    show ((eCons (eVar 1) eNil) [some o, some X1, some X2, F, x4, x5]).bind _ = _
    rw [ev_eCons, q1]
    simp [e1]
  have c2 : eCall f__law_pick [some 0, none] (eLend 0 (eCons (eVar 2) eNil)) [some o1, some (shS ys), some X2, F, x4, x5] = .ok (sO b) [some o2, some (shS ys), some (shS zs), F, x4, x5] := by
    rw [ev_eCall, ev_eLend]
    show ((eCons (eVar 2) eNil) [some o1, some (shS ys), some X2, F, x4, x5]).bind _ = _
    rw [ev_eCons, q2]
    simp [e2]
  have c3 : eCall f__law_pick [some 0, none] (eLend 0 (eCons (eVar 2) eNil)) [some o2, some (shS ys), some (shS zs), F, x4, x5] = .ok (sO c) [some o3, some (shS ys), some (shS zs), F, x4, x5] := by
    simp [e3]
  unfold mdT
  rw [ev_sSet, ev_eTup, ev_eCons, c1, bind_ok, ev_eCons, c2, bind_ok, ev_eCons, c3, bind_ok]
  simp [mvT]
theorem md_app {k : Nat} {o : O} {X1 X2 x4 : Option O} {fs : List Mv} {m : Mv} (h : Tp k o) (hk : k + 10 < 2 ^ 39) (hf : ∀ m ∈ fs, MvX m) (hm : MvX m) (hl : fs.length < 4) :
    ∃ o' n, MvX n ∧ Tp (k + 1) o' ∧ mdA [some o, X1, X2, some (.lst (fs.map mvO)), x4, some (mvO m)] = .nx [some o', X1, X2, some (.lst ((fs ++ [n]).map mvO)), x4, some (mvO m)] := by
  have hb : fs.length < big := by have : big = 1000000 := rfl; omega
  rcases List.eq_nil_or_concat fs with rfl | ⟨gs, g, rfl⟩
  · refine ⟨o, m, hm, h.up (by omega), ?_⟩
    have g0 : gEq (.lst []) (.lst []) = some (bO true) := gEq_l0
    have b0 : 0 < big := by decide
    simp [g0, b0]
  · obtain ⟨r, o1, er, r0, r1, t1⟩ := roll (n := 4) h (by omega) (by omega) (by omega)
    obtain ⟨fs, ef⟩ : ∃ fs, fs = gs.concat g := ⟨_, rfl⟩
    have al : atI (fs.map mvO) (-1) = some (mvO g) := by
      rw [ef, List.concat_eq_append, List.map_append]
      exact atI_last
    have gm : g ∈ fs := by rw [ef, List.concat_eq_append]; simp
    rw [← ef] at hf hb hl ⊢
    have g0 : gEq (.lst (fs.map mvT)) (.lst []) = some (bO (fs.map mvT).isEmpty) := gEq_l0
    have ie : (fs.map mvT).isEmpty = false := by rw [ef]; simp
    rw [ie] at g0
    have td := toDs_mv fs
    by_cases hr : 0 < r
    · refine ⟨o1, m, hm, t1, ?_⟩
      simp [td, g0, er, hr, hb]
    · refine ⟨o1, g, hf g gm, t1, ?_⟩
      simp [td, g0, er, hr, hb, al]
theorem md_loop {ys zs : List Str} (l1 : 0 < ys.length) (l2 : 0 < zs.length) (b1 : ys.length < 100) (b2 : zs.length < 100) (w1 : ∀ y ∈ ys, Wx y) (w2 : ∀ y ∈ zs, Wx y) :
    ∀ (n i k : Nat) (o X1 X2 : O) (fs : List Mv) (x4 x5 : Option O), Tp k o → k + 20 * n < 2 ^ 39 → fs.length + n ≤ 4 → Shw X1 ys → Shw X2 zs → (∀ m ∈ fs, MvX m) →
    ∃ (o' X1' X2' : O) (gs : List Mv) (x4' x5' : Option O), gs.length = fs.length + n ∧ (∀ m ∈ gs, MvX m) ∧ Tp (k + 4 * n) o' ∧
    forG (tN 4) (sSeq mdT mdA) ((List.range' i n).map fun (k : Nat) => D.int k) [some o, some X1, some X2, some (.lst (fs.map mvO)), x4, x5] = .nx [some o', some X1', some X2', some (.lst (gs.map mvO)), x4', x5']
  | 0, i, k, o, X1, X2, fs, x4, x5, h, hk, hl, h1, h2, hf => ⟨o, X1, X2, fs, x4, x5, rfl, hf, h, rfl⟩
  | n + 1, i, k, o, X1, X2, fs, x4, x5, h, hk, hl, h1, h2, hf => by
    obtain ⟨o1, m, hm, t1, e1⟩ := md_turn (F := some (.lst (fs.map mvO))) (x4 := some (iO i)) (x5 := x5) h (by omega) h1 h2 l1 l2 b1 b2 w1 w2
    obtain ⟨o2, g, hg, t2, e2⟩ := md_app (X1 := some (shS ys)) (X2 := some (shS zs)) (x4 := some (iO i)) t1 (by omega) hf hm (by omega)
    obtain ⟨o', X1', X2', gs, x4', x5', hlen, hgs, ht, e'⟩ := md_loop l1 l2 b1 b2 w1 w2 n (i + 1) (k + 4) o2 (shS ys) (shS zs) (fs ++ [g]) (some (iO i)) (some (mvO m)) t2 (by omega) (by simp; omega) (.inr rfl) (.inr rfl) (fun x hx => by
      rcases List.mem_append.mp hx with hx | hx
      · exact hf x hx
      · rw [List.mem_singleton.mp hx]; exact hg)
    refine ⟨o', X1', X2', gs, x4', x5', by rw [hlen]; simp; omega, hgs, ht.up (by omega), ?_⟩
    rw [List.range'_succ, List.map_cons]
    unfold forG
    have et : tN 4 (.int i) [some o, some X1, some X2, some (.lst (fs.map mvO)), x4, x5] = some [some o, some X1, some X2, some (.lst (fs.map mvO)), some (iO i), x5] := by simp
    rw [et]
    simp only []
    rw [ev_sSeq, e1]
    simp only []
    rw [e2]
    exact e'
theorem moves_drawn {k : Nat} {o : O} (h : Tp k o) (hk : k + 2000 < 2 ^ 39) : ∃ (o' : O) (ms : List Mv), f__law_moves_drawn [o] = .ok (.lst (ms.map mvO)) [some o'] ∧ 1 ≤ ms.length ∧ ms.length ≤ 4 ∧ (∀ m ∈ ms, MvX m) ∧ Tp (k + 100) o' := by
  obtain ⟨r, o1, er, r0, r1, t1⟩ := roll (n := 3) h (by omega) (by omega) (by omega)
  obtain ⟨j, rfl, hj⟩ := nat_of (n := 3) r0 r1
  obtain ⟨o2, ys, ew, ly, wy, _, t2⟩ := wordsX (n := 1 + j) t1 (by omega) (by omega)
  obtain ⟨o3, zs, ez, lz, wz, _, t3⟩ := wordsX (n := 2) t2 (by omega) (by omega)
  obtain ⟨r', o4, er', r0', r1', t4⟩ := roll (n := 4) t3 (by omega) (by omega) (by omega)
  obtain ⟨j', rfl, hj'⟩ := nat_of (n := 4) r0' r1'
  obtain ⟨o5, X1, X2, gs, x4, x5, lg, wg, t5, e5⟩ := md_loop (ys := ys) (zs := zs) (by omega) (by omega) (by omega) (by omega) wy wz (1 + j') 0 _ o4 (.lst (ys.map sO)) (.lst (zs.map sO)) [] none none t4 (by omega) (by simp; omega) (.inl rfl) (.inl rfl) (by simp)
  refine ⟨o5, gs, ?_, by simp at lg; omega, by simp at lg; omega, wg, t5.up (by omega)⟩
  have ew' : f__law_words_drawn [o1, iO (1 + (j : Int))] = .ok (.lst (ys.map sO)) [some o2, none] := by
    have : ((1 + j : Nat) : Int) = 1 + (j : Int) := by omega
    rw [← this]; exact ew
  have ez' : f__law_words_drawn [o2, iO 2] = .ok (.lst (zs.map sO)) [some o3, none] := ez
  have s1 : sPar 1 2 (eCons (eCall f__law_words_drawn [some 0, none] (eLend 0 (eCons (e2 addG (eK (.int 1)) (eCall f__law_roll [some 0, none] (eLend 0 (eCons (eK (.int 3)) eNil)))) eNil))) (eCons (eCall f__law_words_drawn [some 0, none] (eLend 0 (eCons (eK (.int 2)) eNil))) eNil)) [some o, none, none, none, none, none]
    = .nx [some o3, some (.lst (ys.map sO)), some (.lst (zs.map sO)), none, none, none] := by
    simp [er, ew', ez']
  have hsm : sm (1 + (j' : Int)) = true := by
    have : ((1 + j' : Nat) : Int) = 1 + (j' : Int) := by omega
    rw [← this]; exact sm_small (by omega)
  have s2 : iRng1 (e2 addG (eK (.int 1)) (eCall f__law_roll [some 0, none] (eLend 0 (eCons (eK (.int 4)) eNil)))) [some o3, some (.lst (ys.map sO)), some (.lst (zs.map sO)), some (.lst []), none, none] = .ok ((List.range' 0 (1 + j')).map fun (k : Nat) => D.int k) [some o4, some (.lst (ys.map sO)), some (.lst (zs.map sO)), some (.lst []), none, none] := by
    have tn : (1 + (j' : Int)).toNat = 1 + j' := by omega
    simp [er', hsm, tn, List.range_eq_range']
  have s3 : b__law_moves_drawn [some o, none, none, none, none, none] = .ret (.lst (gs.map mvO)) [some o5, some X1, some X2, none, x4, x5] := by
    unfold b__law_moves_drawn
    rw [ev_sSeq, s1]
    show sSeq _ _ _ = _
    rw [ev_sSeq]
    have q : sSet 3 (eLst eNil) [some o3, some (.lst (ys.map sO)), some (.lst (zs.map sO)), none, none, none] = .nx [some o3, some (.lst (ys.map sO)), some (.lst (zs.map sO)), some (.lst []), none, none] := by simp
    rw [q]
    show sSeq _ _ _ = _
    rw [ev_sSeq, ev_sFor, s2]
    simp only [then_ok]
    simp only [List.map_nil] at e5
    rw [e5]
    rfl
  unfold f__law_moves_drawn
  rw [fnG_eq]
  show (match b__law_moves_drawn [some o, none, none, none, none, none] with | .nx ρ => _ | .ret o ρ => _ | .exc x ρ => _ | _ => _) = _
  rw [s3]
  rfl
end Kx
end

section
set_option maxRecDepth 100000
set_option maxHeartbeats 4000000
open PySem PySem.Spec PyProof.Rows L2 G
namespace Kx
/-! texts that are no line -/
def NL (x : Str) : Prop := ∀ c ms, VLine c ms → x ≠ lineOf c ms
theorem wd_ends {x : Str} (h : Wd x) : ∃ p a, TL.tl x = p ++ [a] ∧ Ltr a := by
  have hl : 1 ≤ (TL.tl x).length := by rw [← TL.len_tl]; exact h.1
  rcases List.eq_nil_or_concat (TL.tl x) with e | ⟨p, a, e⟩
  · rw [e] at hl; simp at hl
  · rw [List.concat_eq_append] at e
    exact ⟨p, a, e, h.2.2 a (by show a ∈ TL.tl x; rw [e]; simp)⟩
theorem wd_starts {x : Str} (h : Wd x) : ∃ a r, TL.tl x = a :: r ∧ Ltr a := by
  have hl : 1 ≤ (TL.tl x).length := by rw [← TL.len_tl]; exact h.1
  cases e : TL.tl x with
  | nil => rw [e] at hl; simp at hl
  | cons a r => exact ⟨a, r, rfl, h.2.2 a (by show a ∈ TL.tl x; rw [e]; simp)⟩
theorem mvS_eq (m : Mv) : mvS m = m.1 ++ sp ++ (m.2.1 ++ sp ++ m.2.2) := by unfold mvS; rw [TL.join_eq]; rfl
theorem mvs_one (m : Mv) : mvs [m] = mvS m := by unfold mvs; rw [TL.join_eq]; rfl
theorem mvs_two (m n : Mv) (r : List Mv) : mvs (m :: n :: r) = mvS m ++ cs ++ mvs (n :: r) := by unfold mvs; rw [TL.join_eq, TL.join_eq]; rfl
theorem mvS_tl (m : Mv) : TL.tl (mvS m) = TL.tl m.1 ++ (32 :: (TL.tl m.2.1 ++ (32 :: TL.tl m.2.2))) := by
  rw [mvS_eq, TL.tl_append, TL.tl_append, TL.tl_append, TL.tl_append, sp_tl]
  simp
theorem mvs_ends : ∀ {ms : List Mv}, ms ≠ [] → (∀ m ∈ ms, MvOk m) → ∃ p a, TL.tl (mvs ms) = p ++ [a] ∧ Ltr a
  | [m], _, h => by
    obtain ⟨p, a, e, l⟩ := wd_ends (h m (by simp)).2.2
    refine ⟨TL.tl m.1 ++ (32 :: (TL.tl m.2.1 ++ (32 :: p))), a, ?_, l⟩
    rw [mvs_one, mvS_tl, e]
    simp
  | m :: n :: r, _, h => by
    obtain ⟨p, a, e, l⟩ := mvs_ends (ms := n :: r) (by simp) fun x hx => h x (by simp at hx ⊢; exact .inr hx)
    refine ⟨TL.tl (mvS m ++ cs) ++ p, a, ?_, l⟩
    rw [mvs_two, TL.tl_append, e]
    simp
  | [], h, _ => absurd rfl h
theorem mvs_starts : ∀ {ms : List Mv}, ms ≠ [] → (∀ m ∈ ms, MvOk m) → ∃ a r, TL.tl (mvs ms) = a :: r ∧ Ltr a
  | [m], _, h => by
    obtain ⟨a, r, e, l⟩ := wd_starts (h m (by simp)).1
    refine ⟨a, r ++ (32 :: (TL.tl m.2.1 ++ (32 :: TL.tl m.2.2))), ?_, l⟩
    rw [mvs_one, mvS_tl, e]
    simp
  | m :: n :: r, _, h => by
    obtain ⟨a, r', e, l⟩ := wd_starts (h m (by simp)).1
    refine ⟨a, r' ++ (32 :: (TL.tl m.2.1 ++ (32 :: TL.tl m.2.2))) ++ TL.tl cs ++ TL.tl (mvs (n :: r)), ?_, l⟩
    rw [mvs_two, TL.tl_append, TL.tl_append, mvS_tl, e]
    simp
  | [], h, _ => absurd rfl h
theorem VLine.ne {c : Str} {ms : List Mv} (v : VLine c ms) : ms ≠ [] := fun e => by
  have := v.2.2.1
  rw [e] at this
  simp at this
theorem line_tl (c : Str) (ms : List Mv) : TL.tl (lineOf c ms) = TL.tl c ++ (32 :: TL.tl (mvs ms)) := by
  unfold lineOf
  rw [TL.tl_append, TL.tl_append, sp_tl]
  simp
theorem nl_end {x : Str} {p : List Nat} {b : Nat} (e : TL.tl x = p ++ [b]) (h : ¬ Ltr b) : NL x := fun c ms v q => by
  obtain ⟨p', a, e', l⟩ := mvs_ends v.ne v.2.1
  rw [q, line_tl, e'] at e
  have e2 : (TL.tl c ++ (32 :: p')) ++ [a] = p ++ [b] := by rw [← e]; simp
  have := (List.append_inj' e2 rfl).2
  injection this with z
  exact h (z ▸ l)
theorem nl_start {x : Str} {r : List Nat} {b : Nat} (e : TL.tl x = b :: r) (h : ¬ Ltr b) : NL x := fun c ms v q => by
  obtain ⟨a, r', e', l⟩ := wd_starts v.1
  rw [q, line_tl, e'] at e
  have e2 : a :: (r' ++ (32 :: TL.tl (mvs ms))) = b :: r := e
  injection e2 with z
  exact h (z ▸ l)
theorem nl_empty {x : Str} (e : TL.tl x = []) : NL x := fun c ms v q => by
  rw [q, line_tl] at e
  simp at e
theorem part_eq {c a r : Str} {ms : List Mv} (v : VLine c ms) (ha : 32 ∉ TL.tl a) (q : a ++ sp ++ r = lineOf c ms) : a = c ∧ r = mvs ms := by
  have p1 : Txt.partition (a ++ sp ++ r) sp = (a, sp, r) := TL.partition_app sp_tl ha
  have p2 : Txt.partition (lineOf c ms) sp = (c, sp, mvs ms) := TL.partition_app sp_tl (no_sp v.1)
  rw [q, p2] at p1
  injection p1 with z1 z2
  injection z2 with z2 z3
  exact ⟨z1.symm, z3.symm⟩
theorem nl_name {a r : Str} (ha : 32 ∉ TL.tl a) (h : ¬ Wd a) : NL (a ++ sp ++ r) := fun c ms v q => h ((part_eq v ha q).1 ▸ v.1)
theorem nl_rest {a r : Str} {t : List Nat} {b : Nat} (ha : 32 ∉ TL.tl a) (e : TL.tl r = b :: t) (h : ¬ Ltr b) : NL (a ++ sp ++ r) := fun c ms v q => by
  obtain ⟨z, r', e', l⟩ := mvs_starts v.ne v.2.1
  rw [(part_eq v ha q).2, e'] at e
  injection e with z
  exact h (z ▸ l)
/-- each comma has a blank behind it -/
def cmOk : List Nat → Bool
  | [] => true
  | 44 :: b :: r => b == 32 && cmOk (b :: r)
  | 44 :: [] => false
  | _ :: r => cmOk r
theorem cmOk_skip : ∀ {w r : List Nat}, 44 ∉ w → cmOk (w ++ r) = cmOk r
  | [], r, _ => rfl
  | a :: w, r, h => by
    have ha : a ≠ 44 := fun e => h (by simp [e])
    have ih := cmOk_skip (w := w) (r := r) fun e => h (by simp [e])
    show cmOk (a :: (w ++ r)) = cmOk r
    rw [cmOk, ih]
    · intro b r' e; exact absurd e ha
    · intro e; exact absurd e ha
theorem cmOk_cs {r : List Nat} : cmOk (44 :: 32 :: r) = cmOk r := by
  rw [cmOk]
  have : cmOk (32 :: r) = cmOk r := cmOk_skip (w := [32]) (by decide)
  rw [this]
  rfl
theorem cmOk_bad : ∀ {p q : List Nat} {b : Nat}, b ≠ 32 → cmOk (p ++ 44 :: b :: q) = false
  | [], q, b, h => by
    show cmOk (44 :: b :: q) = false
    rw [cmOk]
    simp [h]
  | a :: p, q, b, h => by
    have ih := cmOk_bad (p := p) (q := q) h
    show cmOk (a :: (p ++ 44 :: b :: q)) = false
    by_cases ha : a = 44
    · subst ha
      cases hp : p ++ 44 :: b :: q with
      | nil => simp at hp
      | cons d t =>
        rw [hp] at ih
        rw [cmOk, ih]
        simp
    · rw [cmOk, ih]
      · intro b r' e; exact absurd e ha
      · intro e; exact absurd e ha
theorem mvs_cm : ∀ {ms : List Mv}, (∀ m ∈ ms, MvOk m) → cmOk (TL.tl (mvs ms)) = true
  | [], _ => rfl
  | [m], h => by
    rw [mvs_one]
    have := cmOk_skip (r := []) (mvS_cm (h m (by simp)))
    rw [List.append_nil] at this
    rw [this]
    rfl
  | m :: n :: r, h => by
    have ih := mvs_cm (ms := n :: r) fun x hx => h x (by simp at hx ⊢; exact .inr hx)
    rw [mvs_two, TL.tl_append, TL.tl_append, cs_tl, List.append_assoc, cmOk_skip (mvS_cm (h m (by simp)))]
    show cmOk (44 :: 32 :: TL.tl (mvs (n :: r))) = true
    rw [cmOk_cs, ih]
theorem nl_comma {a r : Str} {p q : List Nat} {b : Nat} (ha : 32 ∉ TL.tl a) (e : TL.tl r = p ++ 44 :: b :: q) (h : b ≠ 32) : NL (a ++ sp ++ r) := fun c ms v z => by
  have k := mvs_cm v.2.1
  rw [← (part_eq v ha z).2, e, cmOk_bad h] at k
  cases k
theorem mvT_inj {m n : Mv} (h : mvT m = mvT n) : m = n := by
  obtain ⟨a, b, c⟩ := m
  obtain ⟨a', b', c'⟩ := n
  injection h with h
  injection h with h1 h
  injection h with h2 h
  injection h with h3 _
  injection h1 with h1
  injection h2 with h2
  injection h3 with h3
  exact Prod.ext h1 (Prod.ext h2 h3)
theorem mvs_split {ms : List Mv} (h : ∀ m ∈ ms, MvOk m) (hne : ms ≠ []) : Txt.split (mvs ms) cs = ms.map mvS := by
  unfold mvs
  refine TL.split_join cs_tl cs_ok (by simpa using hne) fun p hp => ?_
  obtain ⟨m, hm, rfl⟩ := List.mem_map.mp hp
  exact mvS_cm (h m hm)
theorem mvs_inj {ms ns : List Mv} (h : ∀ m ∈ ms, MvOk m) (hne : ms ≠ []) (h2 : ∀ m ∈ ns, MvOk m) (hne2 : ns ≠ []) (e : mvs ms = mvs ns) : ms = ns := by
  have q := mvs_split h hne
  rw [e, mvs_split h2 hne2] at q
  have q2 := congrArg (List.map prtD) q
  rw [List.map_map, List.map_map] at q2
  have q3 : ns.map mvT = ms.map mvT := by
    rw [List.map_congr_left (g := prtD ∘ mvS) fun m hm => (prt_mv (h2 m hm)).symm, List.map_congr_left (l := ms) (g := prtD ∘ mvS) fun m hm => (prt_mv (h m hm)).symm]
    exact q2
  exact ((List.map_inj_right fun _ _ => mvT_inj).mp q3).symm
theorem nl_line {c : Str} {ms : List Mv} (hc : Wd c) (h : ∀ m ∈ ms, MvOk m) (hne : ms ≠ []) (hb : srtM ms ≠ ms ∨ 4 < ms.length) : NL (lineOf c ms) := fun c' ns v e => by
  have p := part_eq (a := c) (r := mvs ms) v (no_sp hc) e
  have q := mvs_inj h hne v.2.1 v.ne p.2
  rcases hb with hb | hb
  · exact hb (q ▸ v.2.2.2.2)
  · rw [q] at hb
    have := v.2.2.2.1
    omega
theorem mw_len : ∀ {ms : List Mv}, (mw ms).length = 3 * ms.length
  | [] => rfl
  | [m] => rfl
  | m :: n :: r => by
    have ih := mw_len (ms := n :: r)
    show (mw (n :: r)).length + 1 + 1 + 1 = _
    rw [ih]
    simp
    omega
theorem cm_tl : TL.tl cm = [44] := by decide +kernel
theorem mw_sp : ∀ {ms : List Mv}, (∀ m ∈ ms, MvOk m) → ∀ w ∈ mw ms, 32 ∉ TL.tl w
  | [], _, w, hw => by simp [mw] at hw
  | [m], h, w, hw => by
    obtain ⟨a, b, c⟩ := h m (by simp)
    simp only [mw, List.mem_cons, List.not_mem_nil, or_false] at hw
    rcases hw with rfl | rfl | rfl
    · exact no_sp a
    · exact no_sp b
    · exact no_sp c
  | m :: n :: r, h, w, hw => by
    obtain ⟨a, b, c⟩ := h m (by simp)
    simp only [mw, List.mem_cons] at hw
    rcases hw with rfl | rfl | rfl | hw
    · exact no_sp a
    · exact no_sp b
    · rw [TL.tl_append, cm_tl]
      have := no_sp c
      have : 32 ∉ TL.tl m.2.2 := this
      simp [this]
    · exact mw_sp (ms := n :: r) (fun x hx => h x (by simp at hx ⊢; exact .inr hx)) w hw
theorem nl_words {ws : List Str} (hne : ws ≠ []) (h : ∀ w ∈ ws, 32 ∉ TL.tl w) (hl : ws.length % 3 ≠ 1 ∨ ws.length = 1) : NL (Txt.join sp ws) := fun c ms v e => by
  rw [line_words v.ne] at e
  have q := join_inj hne (by simp) h (fun w hw => by
    rcases List.mem_cons.mp hw with rfl | hw
    · exact no_sp v.1
    · exact mw_sp v.2.1 w hw) e
  have l := congrArg List.length q
  rw [List.length_cons, mw_len] at l
  have := v.2.2.1
  omega
/-! and none is read from them -/
theorem from_nl {x : Str} (h : x.length ≤ 500) (n : NL x) : f_Action_from_line [.sh (.cl 0), sO x] = noLine := by
  rcases from_line h with e | ⟨c, ms, v, e, _⟩
  · exact e
  · exact absurd e (n c ms v)
end Kx
end

section
set_option maxRecDepth 100000
set_option maxHeartbeats 4000000
open PySem PySem.Spec PyProof.Rows L2 G
namespace Kx
/-! what the law draws for a line -/
abbrev aM : Mv := (Str.ofString "a", Str.ofString "a", Str.ofString "a")
abbrev bM : Mv := (Str.ofString "b", Str.ofString "a", Str.ofString "a")
abbrev zM : Mv := (Str.ofString "zzz", Str.ofString "s", Str.ofString "s")
theorem wd_of {x : Str} (h : nmB x = true) : Wd x := nmB_wd.mp h
theorem aM_ok : MvOk aM := ⟨wd_of (by decide +kernel), wd_of (by decide +kernel), wd_of (by decide +kernel)⟩
theorem bM_ok : MvOk bM := ⟨wd_of (by decide +kernel), wd_of (by decide +kernel), wd_of (by decide +kernel)⟩
theorem zM_ok : MvOk zM := ⟨wd_of (by decide +kernel), wd_of (by decide +kernel), wd_of (by decide +kernel)⟩
theorem aM_s : mvS aM = Str.ofString "a a a" := by decide +kernel
theorem bM_s : mvS bM = Str.ofString "b a a" := by decide +kernel
theorem zM_s : mvS zM = Str.ofString "zzz s s" := by decide +kernel
theorem mvS_inj {m n : Mv} (h : MvOk m) (h2 : MvOk n) (e : mvS m = mvS n) : m = n := mvT_inj (by rw [← prt_mv h, e, prt_mv h2])
theorem toks_a : W.keyToks (mvT aM).enc = [.inl 1, .inr [97], .inl 1, .inr [97], .inl 1, .inr [97], .inl 0] := by
  rw [toksM, chr_a]
theorem chr_b : (Str.ofString "b").cps.toList = [98] := by decide +kernel
theorem toks_b : W.keyToks (mvT bM).enc = [.inl 1, .inr [98], .inl 1, .inr [97], .inl 1, .inr [97], .inl 0] := by
  rw [toksM, chr_a, chr_b]
theorem not_lt_a {x : Str} (h : Wd x) : itemOrd.blt (.inr x.cps.toList) (.inr [97]) = false := by
  obtain ⟨a, r, e, l⟩ := wd_starts h
  have e : x.cps.toList = a :: r := e
  show decide (x.cps.toList < [97]) = false
  rw [e, decide_eq_false_iff_not]
  intro q
  have := l.1
  cases q with
  | rel q => omega
  | cons q => cases q
theorem leM_a {m : Mv} (h : MvOk m) : leM aM m = true := by
  show (!lexLt itemOrd (W.keyToks (mvT m).enc) (W.keyToks (mvT aM).enc)) = true
  rw [toks_a, toksM, Bool.not_eq_true']
  rw [lex_self]
  refine lex_false.mpr ⟨not_lt_a h.1, .inr ?_⟩
  rw [lex_self]
  refine lex_false.mpr ⟨not_lt_a h.2.1, .inr ?_⟩
  rw [lex_self]
  refine lex_false.mpr ⟨not_lt_a h.2.2, .inr ?_⟩
  exact lex_self _ _ _
theorem not_ba : leM bM aM = false := by
  show (!lexLt itemOrd (W.keyToks (mvT aM).enc) (W.keyToks (mvT bM).enc)) = false
  rw [toks_a, toks_b, Bool.not_eq_false', lex_self, lex_cons]
  rfl
/-- moves in another order than the text wants, or with one more -/
theorem turn_a {S : List Mv} {m : Mv} (hm : MvOk m) (hn : m ≠ aM) : srtM ((S ++ [m]) ++ [aM]) ≠ (S ++ [m]) ++ [aM] := fun e => by
  have p := srtM_pw ((S ++ [m]) ++ [aM])
  rw [e, List.pairwise_append] at p
  exact hn (leM_anti (p.2.2 m (by simp) aM (by simp)) (leM_a hm))
theorem turn_b {S : List Mv} (h : aM ∈ S) : srtM (bM :: S) ≠ bM :: S := fun e => by
  have p := srtM_pw (bM :: S)
  rw [e, List.pairwise_cons] at p
  have := p.1 aM h
  rw [not_ba] at this
  cases this
def turnM (S : List Mv) (m : Mv) : List Mv := if mvS m = Str.ofString "a a a" then bM :: S else S ++ [aM]
theorem turn_nl {c : Str} {S Q : List Mv} {m : Mv} (hc : Wd c) (h : ∀ m ∈ S, MvOk m) (e : S = Q ++ [m]) : NL (lineOf c (turnM S m)) := by
  have hm : MvOk m := h m (by rw [e]; simp)
  unfold turnM
  split
  · next q =>
    have : m = aM := mvS_inj hm aM_ok (by rw [q, aM_s])
    refine nl_line hc (fun x hx => ?_) (by simp) (.inl (turn_b (by rw [e, this]; simp)))
    rcases List.mem_cons.mp hx with rfl | hx
    · exact bM_ok
    · exact h x hx
  · next q =>
    have : m ≠ aM := fun z => q (by rw [z, aM_s])
    refine nl_line hc (fun x hx => ?_) (by simp) (.inl (by rw [e]; exact turn_a hm this))
    rcases List.mem_append.mp hx with hx | hx
    · exact h x hx
    · rw [List.mem_singleton.mp hx]; exact aM_ok
def odds (c : Str) (ms S : List Mv) (m : Mv) : List D := [.str c, .str (c ++ sp), .str (sp ++ lineOf c S), .str (lineOf c S ++ sp), .str (lineOf c S ++ cm), .str (lineOf c S ++ cs), .str (Txt.replace (lineOf c S) sp (Str.ofString "  ")),
  .str (Str.ofString "action " ++ lineOf c S), .str (lineOf c S ++ Str.ofString " s"), .str (Txt.upper (lineOf c S)), .str (c ++ sp ++ Txt.join cm (S.map mvS ++ [Str.ofString "a b c"])), .str (Str.ofString ""), .non, .int 5, .lst (ms.map mvT), .tup [.str (lineOf c S)],
  .str (c ++ Str.ofString " a b"), .str (lineOf c (turnM S m)), .str (c ++ cs ++ mvs S), .str (lineOf c [zM, zM, zM, zM, zM]), .str (lineOf c S ++ Str.ofString "\n"), .lst [.str (lineOf c S)]]
theorem emp_r (a : Str) : a ++ Str.ofString "" = a := by
  have : a.cps ++ (#[] : Array Nat) = a.cps := by simp
  rw [empty_str]
  exact congrArg Str.mk this
theorem emp_l (a : Str) : Str.ofString "" ++ a = a := by
  have : (#[] : Array Nat) ++ a.cps = a.cps := by simp
  rw [empty_str]
  exact congrArg Str.mk this
theorem n32 : ¬ Ltr 32 := by unfold Ltr; omega
theorem n44 : ¬ Ltr 44 := by unfold Ltr; omega
theorem n10 : ¬ Ltr 10 := by unfold Ltr; omega
theorem rep_tl (x : Str) : TL.tl (Txt.replace x sp (Str.ofString "  ")) = StrLaws.dbl 32 (TL.tl x) := by
  have h1 : sp = ⟨#[32]⟩ := by decide +kernel
  have h2 : Str.ofString "  " = ⟨#[32, 32]⟩ := by decide +kernel
  have := StrLaws.replace_double x 32
  rw [h1, h2]
  exact this
section
variable {c : Str} {S : List Mv} (hc : Wd c) (h : ∀ m ∈ S, MvOk m) (hne : S ≠ [])
include hc h hne
theorem line_join : lineOf c S = Txt.join sp (c :: mw S) := line_words hne
theorem ws_ok : ∀ w ∈ c :: mw S, 32 ∉ TL.tl w := fun w hw => by
  rcases List.mem_cons.mp hw with rfl | hw
  · exact no_sp hc
  · exact mw_sp h w hw
theorem nl1 : NL c := by
  have := nl_words (ws := [c]) (by simp) (fun w hw => by rw [List.mem_singleton.mp hw]; exact no_sp hc) (.inr rfl)
  rw [TL.join_eq] at this
  exact this
theorem nl2 : NL (c ++ sp) := nl_end (by rw [TL.tl_append, sp_tl]) n32
theorem nl3 : NL (sp ++ lineOf c S) := nl_start (by rw [TL.tl_append, sp_tl]; rfl) n32
theorem nl4 : NL (lineOf c S ++ sp) := nl_end (by rw [TL.tl_append, sp_tl]) n32
theorem nl5 : NL (lineOf c S ++ cm) := nl_end (by rw [TL.tl_append, cm_tl]) n44
theorem nl6 : NL (lineOf c S ++ cs) := nl_end (p := TL.tl (lineOf c S) ++ [44]) (by rw [TL.tl_append, cs_tl]; simp) n32
theorem nl7 : NL (Txt.replace (lineOf c S) sp (Str.ofString "  ")) := by
  have t := rep_tl (lineOf c S)
  rw [line_tl, StrLaws.dbl_append, StrLaws.dbl_free 32 _ (no_sp hc)] at t
  have e : StrLaws.dbl 32 (32 :: TL.tl (mvs S)) = 32 :: 32 :: StrLaws.dbl 32 (TL.tl (mvs S)) := by
    show (if (32 : Nat) = 32 then _ else _) = _
    rw [if_pos rfl]
  rw [e] at t
  have q : Txt.replace (lineOf c S) sp (Str.ofString "  ") = c ++ sp ++ ⟨(32 :: StrLaws.dbl 32 (TL.tl (mvs S))).toArray⟩ := by
    refine TL.ext_tl ?_
    rw [t, TL.tl_append, TL.tl_append, sp_tl, TL.tl_mk]
    simp
  rw [q]
  exact nl_rest (no_sp hc) (TL.tl_mk _) n32
theorem nl8 : NL (Str.ofString "action " ++ lineOf c S) := by
  have e : Str.ofString "action " ++ lineOf c S = Txt.join sp (Str.ofString "action" :: c :: mw S) := by
    rw [line_join hc h hne, show Str.ofString "action " = Str.ofString "action" ++ sp by decide +kernel, TL.join_eq, TL.join_eq]
    exact join_app [Str.ofString "action"] (c :: mw S) (by simp) (by simp)
  rw [e]
  refine nl_words (by simp) (fun w hw => ?_) (.inl ?_)
  · rcases List.mem_cons.mp hw with rfl | hw
    · decide +kernel
    · exact ws_ok hc h hne w hw
  · rw [List.length_cons, List.length_cons, mw_len]; omega
theorem nl9 : NL (lineOf c S ++ Str.ofString " s") := by
  have e : lineOf c S ++ Str.ofString " s" = Txt.join sp ((c :: mw S) ++ [Str.ofString "s"]) := by
    rw [line_join hc h hne, show Str.ofString " s" = sp ++ Str.ofString "s" by decide +kernel, TL.join_eq, TL.join_eq, ← sA]
    exact join_app (c :: mw S) [Str.ofString "s"] (by simp) (by simp)
  rw [e]
  refine nl_words (by simp) (fun w hw => ?_) (.inl ?_)
  · rcases List.mem_append.mp hw with hw | hw
    · exact ws_ok hc h hne w hw
    · rw [List.mem_singleton.mp hw]; decide +kernel
  · rw [List.length_append, List.length_cons, mw_len]; simp; omega
theorem nl10 : NL (Txt.upper (lineOf c S)) := by
  obtain ⟨a, r, e, l⟩ := wd_starts hc
  have q : lineOf c S = ⟨#[a]⟩ ++ ⟨(r ++ (32 :: TL.tl (mvs S))).toArray⟩ := by
    refine TL.ext_tl ?_
    rw [line_tl, e, TL.tl_append, TL.tl_mk]
    rfl
  have l1 := l.1
  have l2 := l.2
  rw [q, PySem.W.KOpn.upper_app, PySem.W.KOpn.upper_one (by omega), if_pos ⟨l1, l2⟩]
  refine nl_start (b := a - 32) (by rw [TL.tl_append]; rfl) ?_
  unfold Ltr
  omega
theorem nl11 : NL (c ++ sp ++ Txt.join cm (S.map mvS ++ [Str.ofString "a b c"])) := by
  have gen : ∀ ps : List Str, ps ≠ [] → ∃ p q, TL.tl (Str.join cm (ps ++ [Str.ofString "a b c"])) = p ++ 44 :: 97 :: q := by
    have ea : TL.tl (Str.ofString "a b c") = 97 :: [32, 98, 32, 99] := by decide +kernel
    intro ps
    induction ps with
    | nil => intro h; exact absurd rfl h
    | cons x ps ih =>
      intro _
      cases ps with
      | nil =>
        refine ⟨TL.tl x, [32, 98, 32, 99], ?_⟩
        show TL.tl (x ++ cm ++ Str.ofString "a b c") = _
        rw [TL.tl_append, TL.tl_append, cm_tl, ea]
        simp
      | cons y ps =>
        obtain ⟨p, q, e⟩ := ih (by simp)
        refine ⟨TL.tl (x ++ cm) ++ p, q, ?_⟩
        show TL.tl (x ++ cm ++ Str.join cm ((y :: ps) ++ [Str.ofString "a b c"])) = _
        rw [TL.tl_append, e]
        simp
  obtain ⟨p, q, e⟩ := gen (S.map mvS) (by simpa using hne)
  exact nl_comma (no_sp hc) (by rw [TL.join_eq]; exact e) (by decide)
theorem nl12 : NL (Str.ofString "") := nl_empty (by decide +kernel)
theorem nl17 : NL (c ++ Str.ofString " a b") := by
  have e : c ++ Str.ofString " a b" = Txt.join sp [c, Str.ofString "a", Str.ofString "b"] := by
    rw [show Str.ofString " a b" = sp ++ (Str.ofString "a" ++ sp ++ Str.ofString "b") by decide +kernel, TL.join_eq, ← sA]
    rfl
  rw [e]
  refine nl_words (by simp) (fun w hw => ?_) (.inl (by show (3 : Nat) % 3 ≠ 1; decide))
  simp only [List.mem_cons, List.not_mem_nil, or_false] at hw
  rcases hw with rfl | rfl | rfl
  · exact no_sp hc
  · decide +kernel
  · decide +kernel
theorem nl19 : NL (c ++ cs ++ mvs S) := by
  have e : c ++ cs ++ mvs S = (c ++ cm) ++ sp ++ mvs S := by rw [cs_eq]; simp only [sA]
  rw [e]
  refine nl_name ?_ fun w => ?_
  · have := no_sp hc
    have : 32 ∉ TL.tl c := this
    rw [TL.tl_append, cm_tl]
    simp [this]
  · have := w.2.2 44 (by show 44 ∈ TL.tl (c ++ cm); rw [TL.tl_append, cm_tl]; simp)
    exact n44 this
theorem nl20 : NL (lineOf c [zM, zM, zM, zM, zM]) := nl_line hc (fun x hx => by
  have : x = zM := by simpa using hx
  rw [this]; exact zM_ok) (by simp) (.inr (by decide))
theorem nl21 : NL (lineOf c S ++ Str.ofString "\n") := nl_end (b := 10) (by rw [TL.tl_append, show TL.tl (Str.ofString "\n") = [10] by decide +kernel]) n10
end
end Kx
end

section
set_option maxRecDepth 100000
set_option maxHeartbeats 4000000
open PySem PySem.Spec PyProof.Rows L2 G
namespace Kx
/-! how long they are; none is read -/
theorem up_len : ∀ {l : List Nat}, (∀ a ∈ l, a < 128) → (Txt.upper ⟨l.toArray⟩).length = l.length
  | [], _ => by decide +kernel
  | a :: l, h => by
    have e : (⟨(a :: l).toArray⟩ : Str) = ⟨#[a]⟩ ++ ⟨l.toArray⟩ := TL.ext_tl (by rw [TL.tl_append, TL.tl_mk]; rfl)
    rw [e, PySem.W.KOpn.upper_app, PySem.W.KOpn.upper_one (h a (by simp)), Str.length_append, up_len (fun b hb => h b (by simp [hb]))]
    show 1 + l.length = l.length + 1
    omega
theorem up_len' {x : Str} (h : ∀ a ∈ TL.tl x, a < 128) : (Txt.upper x).length = x.length := by
  have e : x = ⟨(TL.tl x).toArray⟩ := TL.ext_tl (by rw [TL.tl_mk])
  have q := up_len h
  rw [← e] at q
  rw [q, TL.len_tl]
theorem wd_128 {x : Str} (h : Wd x) : ∀ a ∈ TL.tl x, a < 128 := fun a ha => by
  have := (h.2.2 a ha).2
  omega
theorem mvS_128 {m : Mv} (h : MvOk m) : ∀ a ∈ TL.tl (mvS m), a < 128 := fun a ha => by
  rw [mvS_tl] at ha
  simp only [List.mem_append, List.mem_cons] at ha
  rcases ha with ha | rfl | ha | rfl | ha
  · exact wd_128 h.1 a ha
  · decide
  · exact wd_128 h.2.1 a ha
  · decide
  · exact wd_128 h.2.2 a ha
theorem mvs_128 : ∀ {S : List Mv}, (∀ m ∈ S, MvOk m) → ∀ a ∈ TL.tl (mvs S), a < 128
  | [], _, a, ha => by
    have e : TL.tl (mvs []) = [] := rfl
    rw [e] at ha; cases ha
  | [m], h, a, ha => by
    rw [mvs_one] at ha
    exact mvS_128 (h m (by simp)) a ha
  | m :: n :: r, h, a, ha => by
    rw [mvs_two, TL.tl_append, TL.tl_append, cs_tl] at ha
    simp only [List.mem_append, List.mem_cons, List.not_mem_nil, or_false] at ha
    rcases ha with (ha | rfl | rfl) | ha
    · exact mvS_128 (h m (by simp)) a ha
    · decide
    · decide
    · exact mvs_128 (S := n :: r) (fun x hx => h x (by simp at hx ⊢; exact .inr hx)) a ha
theorem line_128 {c : Str} {S : List Mv} (hc : Wd c) (h : ∀ m ∈ S, MvOk m) : ∀ a ∈ TL.tl (lineOf c S), a < 128 := fun a ha => by
  rw [line_tl] at ha
  simp only [List.mem_append, List.mem_cons] at ha
  rcases ha with ha | rfl | ha
  · exact wd_128 hc a ha
  · decide
  · exact mvs_128 h a ha
theorem dbl_len : ∀ l : List Nat, (StrLaws.dbl 32 l).length ≤ 2 * l.length
  | [] => by decide
  | k :: r => by
    have := dbl_len r
    unfold StrLaws.dbl
    split <;> simp <;> omega
theorem rep_len (x : Str) : (Txt.replace x sp (Str.ofString "  ")).length ≤ 2 * x.length := by
  rw [TL.len_tl, rep_tl, TL.len_tl]
  exact dbl_len _
theorem turn_len {S : List Mv} {m : Mv} : (turnM S m).length = S.length + 1 := by unfold turnM; split <;> simp
theorem turn_ok {S : List Mv} {m : Mv} (h : ∀ m ∈ S, MvOk m) : ∀ x ∈ turnM S m, MvOk x := fun x hx => by
  unfold turnM at hx
  split at hx
  · rcases List.mem_cons.mp hx with rfl | hx
    · exact bM_ok
    · exact h x hx
  · rcases List.mem_append.mp hx with hx | hx
    · exact h x hx
    · rw [List.mem_singleton.mp hx]; exact aM_ok
theorem abc_sum {S : List Mv} (h : ∀ m ∈ S, MvOk m) : ((S.map mvS ++ [Str.ofString "a b c"]).map (·.length)).sum ≤ 30 * S.length + 5 := by
  have a := mvs_sum h
  rw [List.map_append, List.sum_append]
  have e : ([Str.ofString "a b c"].map (·.length)).sum = 5 := by decide +kernel
  rw [e]
  omega
theorem cm_len : cm.length = 1 := by decide +kernel
theorem abc_join {S : List Mv} (h : ∀ m ∈ S, MvOk m) (hl : S.length ≤ 4) : (Txt.join cm (S.map mvS ++ [Str.ofString "a b c"])).length ≤ 200 := by
  have a := abc_sum h
  have b := StrLaws.join_length_le cm (S.map mvS ++ [Str.ofString "a b c"])
  rw [cm_len, List.length_append, List.length_map] at b
  rw [TL.join_eq]
  simp only [List.length_singleton] at b
  omega
theorem zs_ok : ∀ x ∈ [zM, zM, zM, zM, zM], MvOk x := fun x hx => by
  have : x = zM := by simpa using hx
  rw [this]; exact zM_ok
theorem odd_no {c : Str} {ms S Q : List Mv} {m : Mv} {d : D} (hc : Wd c) (h : ∀ m ∈ S, MvOk m) (hl : S.length ≤ 4) (e : S = Q ++ [m]) (hd : d ∈ odds c ms S m) : f_Action_from_line [.sh (.cl 0), .sh d] = noLine := by
  have hne : S ≠ [] := by rw [e]; simp
  have l1 := line_len hc h
  have l2 := hc.2.1
  have l3 := line_len hc (turn_ok (m := m) h)
  rw [turn_len] at l3
  have l4 := mvs_len h
  have l5 := line_len hc zs_ok
  have l6 := rep_len (lineOf c S)
  have l7 := up_len' (line_128 hc h)
  have l8 := abc_join h hl
  have k1 : (Str.ofString "action ").length = 7 := by decide +kernel
  have k2 : (Str.ofString " s").length = 2 := by decide +kernel
  have k3 : (Str.ofString " a b").length = 4 := by decide +kernel
  have k4 : (Str.ofString "\n").length = 1 := by decide +kernel
  have k5 : (Str.ofString "").length = 0 := by decide +kernel
  have l5' : (lineOf c [zM, zM, zM, zM, zM]).length ≤ 169 := l5
  unfold odds at hd
  simp only [List.mem_cons, List.not_mem_nil, or_false] at hd
  rcases hd with rfl | rfl | rfl | rfl | rfl | rfl | rfl | rfl | rfl | rfl | rfl | rfl | rfl | rfl | rfl | rfl | rfl | rfl | rfl | rfl | rfl | rfl
  · exact from_nl (by omega) (nl1 hc h hne)
  · exact from_nl (by rw [Str.length_append, sp_len]; omega) (nl2 hc h hne)
  · exact from_nl (by rw [Str.length_append, sp_len]; omega) (nl3 hc h hne)
  · exact from_nl (by rw [Str.length_append, sp_len]; omega) (nl4 hc h hne)
  · exact from_nl (by rw [Str.length_append, cm_len]; omega) (nl5 hc h hne)
  · exact from_nl (by rw [Str.length_append, cs_len]; omega) (nl6 hc h hne)
  · exact from_nl (by omega) (nl7 hc h hne)
  · exact from_nl (by rw [Str.length_append, k1]; omega) (nl8 hc h hne)
  · exact from_nl (by rw [Str.length_append, k2]; omega) (nl9 hc h hne)
  · exact from_nl (by omega) (nl10 hc h hne)
  · exact from_nl (by rw [Str.length_append, Str.length_append, sp_len]; omega) (nl11 hc h hne)
  · exact from_nl (by omega) (nl12 hc h hne)
  · exact from_other rfl
  · exact from_other rfl
  · exact from_other rfl
  · exact from_other rfl
  · exact from_nl (by rw [Str.length_append, k3]; omega) (nl17 hc h hne)
  · exact from_nl (by omega) (turn_nl hc h e)
  · exact from_nl (by rw [Str.length_append, Str.length_append, cs_len]; omega) (nl19 hc h hne)
  · exact from_nl (by omega) (nl20 hc h hne)
  · exact from_nl (by rw [Str.length_append, k4]; omega) (nl21 hc h hne)
  · exact from_other rfl
end Kx
end

section
set_option maxRecDepth 100000
set_option maxHeartbeats 4000000
open PySem PySem.Spec PyProof.Rows L2 G
namespace Kx
/-! a wrong line, drawn -/
theorem addG_ll {l m : List D} (h : l.length + m.length ≤ 1000) : addG (.lst l) (.lst m) = some (OL (l ++ m)) := if_pos (by have : big = 1000000 := rfl; omega)
theorem eVar_OL {i : Nat} {ρ : Env'} {l : List D} (h : ρ[i]? = some (some (OL l))) : eVar i ρ = .ok (.sh (.lst l)) (ρ.set i (some (.sh (.lst l)))) := by
  rw [ev_eVar, h]
  show Out.ok (O.sh (OL l).toD) (ρ.set i (some (.sh (OL l).toD))) = _
  rw [OL_toD]
theorem ms_K {g : Str → List D → Option O} {x : Str} {fa : Fa} {ρ : Env'} : eMs g (eK (.str x)) fa ρ = eN (g x) fa ρ := rfl
theorem strs_app (ps : List Str) (x : Str) : ps.map D.str ++ [D.str x] = (ps ++ [x]).map D.str := by simp
theorem join_cm {ps : List Str} (h : (ps.map (·.length)).sum + ps.length ≤ 1000) : joinG cm [.lst (ps.map D.str)] = some (sO (Txt.join cm ps)) := joinG_l (by rw [cm_len]; omega)
theorem zzz_lc {ρ : Env'} (h : ρ[8]? = some none) : eLc (iRng1 (eK (.int 5))) (tN 8) ttY (eK (.str (Str.ofString "zzz s s"))) [8] ρ = .ok (.lst (([zM, zM, zM, zM, zM].map mvS).map sO)) ρ := by
  have h8 : 8 < ρ.length := (List.getElem?_eq_some_iff.mp h).1
  have q := eLc_pure (i := 8) (fi := iRng1 (eK (.int 5))) (tt := ttY) (te := eK (.str (Str.ofString "zzz s s"))) (ρ := ρ) (l := (List.range 5).map fun k : Nat => D.int k) (p := fun _ => true) (v := fun _ => sO (Str.ofString "zzz s s"))
    (by have : sm 5 = true := by decide
        simp [this]) (.inl h) (fun _ _ => rfl) (fun _ _ _ => rfl) (by decide)
  rw [q]
  simp only [List.map_cons, List.map_nil, zM_s]
  rfl
section
variable {o : O} {c L : Str} {ms : List D} {ps : List Str} {x6 x7 x8 : Option O}
theorem wl2 (hl : L.length ≤ 137) (hc : c.length ≤ 8) {X4 : Option O} : sSet 6 (eLst (eCons (eVar 1) (eCons (e2 addG (eVar 1) (eK (.str (" " : Str)))) (eCons (e2 addG (eK (.str (" " : Str))) (eVar 3)) (eCons (e2 addG (eVar 3) (eK (.str (" " : Str)))) (eCons (e2 addG (eVar 3) (eK (.str ("," : Str)))) (eCons (e2 addG (eVar 3) (eK (.str (", " : Str)))) (eCons (e1 (replG (" " : Str) ("  " : Str)) (eVar 3)) eNil))))))))
    [some o, some (sO c), some (.sh (.lst ms)), some (sO L), X4, none, none, none, none]
    = .nx [some o, some (sO c), some (.sh (.lst ms)), some (sO L), X4, none, some (OL [.str c, .str (c ++ sp), .str (sp ++ L), .str (L ++ sp), .str (L ++ cm), .str (L ++ cs), .str (Txt.replace L sp (Str.ofString "  "))]), none, none] := by
  have a1 : addG (.str c) (.str sp) = some (sO (c ++ sp)) := cat_s (by rw [sp_len]; omega)
  have a2 : addG (.str sp) (.str L) = some (sO (sp ++ L)) := cat_s (by rw [sp_len]; omega)
  have a3 : addG (.str L) (.str sp) = some (sO (L ++ sp)) := cat_s (by rw [sp_len]; omega)
  have a4 : addG (.str L) (.str cm) = some (sO (L ++ cm)) := cat_s (by rw [cm_len]; omega)
  have a5 : addG (.str L) (.str cs) = some (sO (L ++ cs)) := cat_s (by rw [cs_len]; omega)
  have a6 : replG sp (Str.ofString "  ") (.str L) = some (sO (Txt.replace L sp (Str.ofString "  "))) := if_pos (by
    have : (Str.ofString "  ").length = 2 := by decide +kernel
    have hb : big = 1000000 := rfl
    rw [this]; omega)
  simp [a1, a2, a3, a4, a5, a6, OL]
theorem wl3 (hl : L.length ≤ 137) {l : List D} (hb : l.length < 1000) {X4 : Option O} : sExpr (eApp 6 (e2 addG (eK (.str ("action " : Str))) (eVar 3)))
    [some o, some (sO c), some (.sh (.lst ms)), some (sO L), X4, none, some (OL l), none, none]
    = .nx [some o, some (sO c), some (.sh (.lst ms)), some (sO L), X4, none, some (OL (l ++ [.str (Str.ofString "action " ++ L)])), none, none] := by
  have a1 : addG (.str (Str.ofString "action ")) (.str L) = some (sO (Str.ofString "action " ++ L)) := cat_s (by
    have : (Str.ofString "action ").length = 7 := by decide +kernel
    rw [this]; omega)
  have hb' : l.length < big := by have : big = 1000000 := rfl; omega
  simp [a1, OL, hb']
theorem wl4 (hl : L.length ≤ 137) (hc : c.length ≤ 8) {l : List D} (hb : l.length < 100) (hp : (ps.map (·.length)).sum + ps.length ≤ 200) : 
    sSet 6 (e2 addG (eVar 6) (eLst (eCons (e2 addG (eVar 3) (eK (.str (" s" : Str)))) (eCons (eMs upperG (eVar 3) eNil) (eCons (e2 addG (e2 addG (eVar 1) (eK (.str (" " : Str)))) (eMs joinG (eK (.str ("," : Str))) (eCons (e2 addG (eVar 4) (eLst (eCons (eK (.str ("a b c" : Str))) eNil))) eNil))) (eCons (eK (.str ("" : Str))) (eCons (eK .non) (eCons (eK (.int 5)) (eCons (eVar 2) (eCons (eTup (eCons (eVar 3) eNil)) eNil))))))))))
    [some o, some (sO c), some (.sh (.lst ms)), some (sO L), some (.lst (ps.map sO)), none, some (OL l), none, none]
    = .nx [some o, some (sO c), some (.sh (.lst ms)), some (sO L), some (.sh (.lst (ps.map D.str))), none, some (OL (l ++ [.str (L ++ Str.ofString " s"), .str (Txt.upper L), .str (c ++ sp ++ Txt.join cm (ps ++ [Str.ofString "a b c"])), .str (Str.ofString ""), .non, .int 5, .lst ms, .tup [.str L]])), none, none] := by
  have hbig : big = 1000000 := rfl
  have k5 : (Str.ofString "a b c").length = 5 := by decide +kernel
  have a1 : addG (.str L) (.str (Str.ofString " s")) = some (sO (L ++ Str.ofString " s")) := cat_s (by
    have : (Str.ofString " s").length = 2 := by decide +kernel
    rw [this]; omega)
  have a2 : upperG L [] = some (sO (Txt.upper L)) := if_pos (by omega)
  have a3 : addG (.str c) (.str sp) = some (sO (c ++ sp)) := cat_s (by rw [sp_len]; omega)
  have pl : ps.length ≤ 200 := by omega
  have a4 : addG (.lst (ps.map D.str)) (.lst [.str (Str.ofString "a b c")]) = some (OL ((ps ++ [Str.ofString "a b c"]).map D.str)) := by
    rw [addG_ll (by simp; omega), strs_app]
  have hs : ((ps ++ [Str.ofString "a b c"]).map (·.length)).sum + (ps ++ [Str.ofString "a b c"]).length ≤ 300 := by
    rw [List.map_append, List.sum_append, List.length_append, List.map_cons, List.map_nil, k5]
    simp
    omega
  have a5 := join_cm (ps := ps ++ [Str.ofString "a b c"]) (by omega)
  have jl : (Txt.join cm (ps ++ [Str.ofString "a b c"])).length ≤ 300 := by
    have := StrLaws.join_length_le cm (ps ++ [Str.ofString "a b c"])
    rw [cm_len] at this
    rw [TL.join_eq]
    omega
  have a6 : addG (.str (c ++ sp)) (.str (Txt.join cm (ps ++ [Str.ofString "a b c"]))) = some (sO (c ++ sp ++ Txt.join cm (ps ++ [Str.ofString "a b c"]))) := cat_s (by rw [Str.length_append, sp_len]; omega)
  have a7 : ∀ m : List D, m.length ≤ 100 → addG (.lst l) (.lst m) = some (OL (l ++ m)) := fun m hm => addG_ll (by omega)
  have a5' : joinG cm [.lst (ps.map D.str ++ [.str (Str.ofString "a b c")])] = some (sO (Txt.join cm (ps ++ [Str.ofString "a b c"]))) := by rw [strs_app]; exact a5
  have td : toDs (ps.map sO) = ps.map D.str := toDs_str ps
  simp only [List.map_append, List.map_cons, List.map_nil] at a4
  rw [ev_sSet, ev_e2, eVar_OL (l := l) rfl, bind_ok]
  simp [a1, a2, a3, a4, a5', a6, a7, td, OL_toD]
theorem wl5 {S Q : List Mv} {m : Mv} (hS : ps = S.map mvS) (e : S = Q ++ [m]) (h4 : S.length ≤ 4) {X6 : Option O} :
    sSet 7 (eIf (eB (e2 gNe (e2 itemG (eVar 4) (e1 negG (eK (.int 1)))) (eK (.str ("a a a" : Str))))) (e2 addG (eVar 4) (eLst (eCons (eK (.str ("a a a" : Str))) eNil))) (e2 addG (eLst (eCons (eK (.str ("b a a" : Str))) eNil)) (eVar 4)))
    [some o, some (sO c), some (.sh (.lst ms)), some (sO L), some (.sh (.lst (ps.map D.str))), none, X6, none, none]
    = .nx [some o, some (sO c), some (.sh (.lst ms)), some (sO L), some (.sh (.lst (ps.map D.str))), none, X6, some (OL (((turnM S m).map mvS).map D.str)), none] := by
  have pl : (ps.map D.str).length ≤ 4 := by rw [hS]; simpa using h4
  have ai : atI (ps.map D.str) (-1) = some (.str (mvS m)) := by
    rw [hS, e, List.map_append, List.map_append]
    exact atI_last
  have a1 : addG (.lst (ps.map D.str)) (.lst [.str (Str.ofString "a a a")]) = some (OL ((ps ++ [Str.ofString "a a a"]).map D.str)) := by
    rw [addG_ll (by simp at pl ⊢; omega), strs_app]
  have a2 : addG (.lst [.str (Str.ofString "b a a")]) (.lst (ps.map D.str)) = some (OL ((Str.ofString "b a a" :: ps).map D.str)) := by
    rw [addG_ll (by simp at pl ⊢; omega)]; rfl
  by_cases hm : mvS m = Str.ofString "a a a"
  · have t : (turnM S m).map mvS = Str.ofString "b a a" :: ps := by unfold turnM; rw [if_pos hm, List.map_cons, bM_s, hS]
    rw [t]
    have hb : (mvS m == Str.ofString "a a a") = true := by simpa using hm
    simp only [List.map_cons] at a2
    simp [ai, hb, a2]
  · have t : (turnM S m).map mvS = ps ++ [Str.ofString "a a a"] := by unfold turnM; rw [if_neg hm, List.map_append, List.map_cons, List.map_nil, aM_s, hS]
    rw [t]
    have hb : (mvS m == Str.ofString "a a a") = false := by simpa using hm
    simp only [List.map_append, List.map_cons, List.map_nil] at a1
    simp [ai, hb, a1]
theorem wl6 {S : List Mv} {T : List Mv} (hS : ∀ m ∈ S, MvOk m) (hT : ∀ m ∈ T, MvOk m) (hc : c.length ≤ 8) {l : List D} (hb : l.length < 100) (h4 : S.length ≤ 4) (h5 : T.length ≤ 5) :
    sSet 6 (e2 addG (eVar 6) (eLst (eCons (e2 addG (eVar 1) (eK (.str (" a b" : Str)))) (eCons (e2 addG (e2 addG (eVar 1) (eK (.str (" " : Str)))) (eMs joinG (eK (.str (", " : Str))) (eCons (eVar 7) eNil))) (eCons (e2 addG (e2 addG (eVar 1) (eK (.str (", " : Str)))) (eMs joinG (eK (.str (", " : Str))) (eCons (eVar 4) eNil))) eNil)))))
    [some o, some (sO c), some (.sh (.lst ms)), some (sO L), some (.sh (.lst ((S.map mvS).map D.str))), none, some (OL l), some (OL ((T.map mvS).map D.str)), none]
    = .nx [some o, some (sO c), some (.sh (.lst ms)), some (sO L), some (.sh (.lst ((S.map mvS).map D.str))), none, some (OL (l ++ [.str (c ++ Str.ofString " a b"), .str (lineOf c T), .str (c ++ cs ++ mvs S)])), some (.sh (.lst ((T.map mvS).map D.str))), none] := by
  have j1 := join_mvs hS (by omega)
  have j2 := join_mvs hT (by omega)
  have m1 := mvs_len hS
  have m2 := mvs_len hT
  generalize hps : S.map mvS = ps at *
  generalize hts : T.map mvS = ts at *
  have a1 : addG (.str c) (.str (Str.ofString " a b")) = some (sO (c ++ Str.ofString " a b")) := cat_s (by
    have : (Str.ofString " a b").length = 4 := by decide +kernel
    rw [this]; omega)
  have a2 : addG (.str c) (.str sp) = some (sO (c ++ sp)) := cat_s (by rw [sp_len]; omega)
  have a3 : addG (.str c) (.str cs) = some (sO (c ++ cs)) := cat_s (by rw [cs_len]; omega)
  have a4 : addG (.str (c ++ sp)) (.str (mvs T)) = some (sO (lineOf c T)) := cat_s (by rw [Str.length_append, sp_len]; omega)
  have a5 : addG (.str (c ++ cs)) (.str (mvs S)) = some (sO (c ++ cs ++ mvs S)) := cat_s (by rw [Str.length_append, cs_len]; omega)
  have a7 : ∀ m : List D, m.length ≤ 100 → addG (.lst l) (.lst m) = some (OL (l ++ m)) := fun m hm => addG_ll (by omega)
  have o1 : OL (ts.map D.str) = .lst (ts.map sO) := by unfold OL; rw [List.map_map]; rfl
  have td : toDs (ts.map sO) = ts.map D.str := toDs_str ts
  rw [o1, ev_sSet, ev_e2, eVar_OL (l := l) rfl, bind_ok]
  simp [a1, a2, a3, a4, a5, a7, j1, j2, td, OL_toD]
theorem wl7 {S : List Mv} {X4 X7 : Option O} {l : List D} {k : Nat} (ht : Tp k o) (hk : k + 10 < 2 ^ 39) (hc : Wd c) (hL : L.length ≤ 137) (hb : l.length < 100) :
    ∃ d o', sRet (eCall f__law_pick [some 0, none] (eLend 0 (eCons (e2 addG (eVar 6) (eLst (eCons (e2 addG (e2 addG (eVar 1) (eK (.str (" " : Str)))) (eMs joinG (eK (.str (", " : Str))) (eCons (eLc (iRng1 (eK (.int 5))) (tN 8) ttY (eK (.str ("zzz s s" : Str))) [8]) eNil))) (eCons (e2 addG (eVar 3) (eK (.str ("\n" : Str)))) (eCons (eLst (eCons (eVar 3) eNil)) eNil))))) eNil)))
    [some o, some (sO c), some (.sh (.lst ms)), some (sO L), X4, none, some (OL l), X7, none]
    = .ret (.sh d) [some o', some (sO c), some (.sh (.lst ms)), some (sO L), X4, none, some (.sh (.lst l)), X7, none] ∧ d ∈ l ++ [.str (lineOf c [zM, zM, zM, zM, zM]), .str (L ++ Str.ofString "\n"), .lst [.str L]] ∧ Tp (k + 1) o' := by
  obtain ⟨d, o', e, hd, ht'⟩ := pick_l (l := l ++ [.str (lineOf c [zM, zM, zM, zM, zM]), .str (L ++ Str.ofString "\n"), .lst [.str L]]) ht (by omega) (by simp) (by simp; omega)
  have q1 := zzz_lc (ρ := [some o, some (sO c), some (.sh (.lst ms)), some (sO L), X4, none, some (.sh (.lst l)), X7, none]) rfl
  have j1 := join_mvs zs_ok (by decide)
  have m1 := mvs_len zs_ok
  have c8 := hc.2.1
  have a2 : addG (.str c) (.str sp) = some (sO (c ++ sp)) := cat_s (by rw [sp_len]; omega)
  have a4 : addG (.str (c ++ sp)) (.str (mvs [zM, zM, zM, zM, zM])) = some (sO (lineOf c [zM, zM, zM, zM, zM])) := cat_s (by rw [Str.length_append, sp_len]; simp at m1; omega)
  have a5 : addG (.str L) (.str (Str.ofString "\n")) = some (sO (L ++ Str.ofString "\n")) := cat_s (by
    have : (Str.ofString "\n").length = 1 := by decide +kernel
    rw [this]; omega)
  have a7 : ∀ m : List D, m.length ≤ 100 → addG (.lst l) (.lst m) = some (OL (l ++ m)) := fun m hm => addG_ll (by omega)
  have td : toDs (([zM, zM, zM, zM, zM].map mvS).map sO) = ([zM, zM, zM, zM, zM].map mvS).map D.str := toDs_str _
  refine ⟨d, o', ?_, hd, ht'⟩
  have q6 : eVar 6 [some o, some (sO c), some (.sh (.lst ms)), some (sO L), X4, none, some (OL l), X7, none] = .ok (.sh (.lst l)) [some o, some (sO c), some (.sh (.lst ms)), some (sO L), X4, none, some (.sh (.lst l)), X7, none] := by
    simp [OL, toDs_OL]
  have qz : (eMs joinG (eK (.str (", " : Str))) (eCons (eLc (iRng1 (eK (.int 5))) (tN 8) ttY (eK (.str ("zzz s s" : Str))) [8]) eNil)) [some o, some (sO c), some (.sh (.lst ms)), some (sO L), X4, none, some (.sh (.lst l)), X7, none] = .ok (sO (mvs [zM, zM, zM, zM, zM])) [some o, some (sO c), some (.sh (.lst ms)), some (sO L), X4, none, some (.sh (.lst l)), X7, none] := by
    rw [ms_K, ev_eN, ev_eCons, q1]
    simp only [bind_ok, ev_eNil, toDs_cons, toDs_nil, toD_lst, td, j1, fin_some]
  have q7 : (e2 addG (eVar 6) (eLst (eCons (e2 addG (e2 addG (eVar 1) (eK (.str (" " : Str)))) (eMs joinG (eK (.str (", " : Str))) (eCons (eLc (iRng1 (eK (.int 5))) (tN 8) ttY (eK (.str ("zzz s s" : Str))) [8]) eNil))) (eCons (e2 addG (eVar 3) (eK (.str ("\n" : Str)))) (eCons (eLst (eCons (eVar 3) eNil)) eNil))))) [some o, some (sO c), some (.sh (.lst ms)), some (sO L), X4, none, some (OL l), X7, none] = .ok (OL (l ++ [.str (lineOf c [zM, zM, zM, zM, zM]), .str (L ++ Str.ofString "\n"), .lst [.str L]])) [some o, some (sO c), some (.sh (.lst ms)), some (sO L), X4, none, some (.sh (.lst l)), X7, none] := by
    rw [ev_e2, q6, bind_ok, ev_eLst, ev_eCons, ev_e2]
    have p1 : (e2 addG (eVar 1) (eK (.str (" " : Str)))) [some o, some (sO c), some (.sh (.lst ms)), some (sO L), X4, none, some (.sh (.lst l)), X7, none] = .ok (sO (c ++ sp)) [some o, some (sO c), some (.sh (.lst ms)), some (sO L), X4, none, some (.sh (.lst l)), X7, none] := by simp [a2]
    rw [p1, bind_ok, qz]
    simp [a4, a5, a7, OL_toD]
  have q8 : (O.lst (List.map O.sh (l ++ [.str (lineOf c [zM, zM, zM, zM, zM]), .str (L ++ Str.ofString "\n"), .lst [.str L]]))) = OL (l ++ [.str (lineOf c [zM, zM, zM, zM, zM]), .str (L ++ Str.ofString "\n"), .lst [.str L]]) := rfl
  rw [q8] at e
  rw [ev_sRet, ev_eCall, ev_eLend]
  show (((eCons _ eNil) [some o, some (sO c), some (.sh (.lst ms)), some (sO L), X4, none, some (OL l), X7, none]).bind _).then' _ = _
  rw [ev_eCons, q7]
  simp [e]
end
theorem wrong_line {k : Nat} {o : O} {c : Str} {ms : List Mv} (ht : Tp k o) (hk : k + 10 < 2 ^ 39) (hc : Wd c) (h : ∀ m ∈ ms, MvOk m) (h1 : 1 ≤ ms.length) (h4 : ms.length ≤ 4) :
    ∃ d o', f__law_wrong_line [o, sO c, .sh (.lst (ms.map mvT))] = .ok (.sh d) [some o', none, none] ∧ f_Action_from_line [.sh (.cl 0), .sh d] = noLine ∧ Tp (k + 1) o' := by
  obtain ⟨S, eS⟩ : ∃ S, S = srtM ms := ⟨_, rfl⟩
  have hs : ∀ m ∈ S, MvOk m := fun m hm => h m ((srtM_perm ms).mem_iff.mp (eS ▸ hm))
  have hl' : S.length = ms.length := by rw [eS]; exact (srtM_perm ms).length_eq
  have hbig : big = 1000000 := rfl
  have e3 := sorted_l (ms := ms) (by omega)
  have al := action_line hc h (by omega)
  rw [← eS] at e3 al
  have q2 := lc_mv (fi := iSeq (eN sortedG (eCons (eVar 2) eNil))) (ρ := [some o, some (sO c), some (.sh (.lst (ms.map mvT))), none, none, none, none, none, none]) (i := 5) (ms := S) (by simp [e3, OL_toD]) (.inl rfl) hs (by omega)
  obtain ⟨Q, m, e⟩ : ∃ Q m, S = Q ++ [m] := by
    rcases List.eq_nil_or_concat S with e | ⟨Q, m, e⟩
    · rw [e] at hl'; simp at hl'; omega
    · exact ⟨Q, m, by rw [e, List.concat_eq_append]⟩
  have ll := line_len hc hs
  have c8 := hc.2.1
  have ps := mvs_sum hs
  have s1 : sPar 3 4 (eCons (eCall f__law_action_line [none, none] (eCons (eVar 1) (eCons (eVar 2) eNil))) (eCons (eLc (iSeq (eN sortedG (eCons (eVar 2) eNil))) (tN 5) ttY (eMs joinG (eK (.str (" " : Str))) (eCons (eVar 5) eNil)) [5]) eNil)) [some o, some (sO c), some (.sh (.lst (ms.map mvT))), none, none, none, none, none, none]
    = .nx [some o, some (sO c), some (.sh (.lst (ms.map mvT))), some (sO (lineOf c S)), some (.lst ((S.map mvS).map sO)), none, none, none, none] := by
    have q1 : eCall f__law_action_line [none, none] (eCons (eVar 1) (eCons (eVar 2) eNil)) [some o, some (sO c), some (.sh (.lst (ms.map mvT))), none, none, none, none, none, none] = .ok (sO (lineOf c S)) [some o, some (sO c), some (.sh (.lst (ms.map mvT))), none, none, none, none, none, none] := by
      simp [al]
    rw [ev_sPar, ev_eCons, q1, bind_ok, ev_eCons, q2]
    simp
  have w2 := wl2 (o := o) (c := c) (L := lineOf c S) (ms := ms.map mvT) (by omega) c8 (X4 := some (.lst ((S.map mvS).map sO)))
  have w3 := wl3 (o := o) (c := c) (L := lineOf c S) (ms := ms.map mvT) (l := [.str c, .str (c ++ sp), .str (sp ++ lineOf c S), .str (lineOf c S ++ sp), .str (lineOf c S ++ cm), .str (lineOf c S ++ cs), .str (Txt.replace (lineOf c S) sp (Str.ofString "  "))]) (by omega) (by simp) (X4 := some (.lst ((S.map mvS).map sO)))
  have w4 := wl4 (o := o) (c := c) (L := lineOf c S) (ms := ms.map mvT) (ps := S.map mvS) (l := [.str c, .str (c ++ sp), .str (sp ++ lineOf c S), .str (lineOf c S ++ sp), .str (lineOf c S ++ cm), .str (lineOf c S ++ cs), .str (Txt.replace (lineOf c S) sp (Str.ofString "  "))] ++ [.str (Str.ofString "action " ++ lineOf c S)]) (by omega) c8 (by simp) (by rw [List.length_map]; omega)
  have w5 := fun X6 => wl5 (o := o) (c := c) (L := lineOf c S) (ms := ms.map mvT) (ps := S.map mvS) (S := S) (Q := Q) (m := m) rfl e (by omega) (X6 := X6)
  have w6 := fun l hb => wl6 (o := o) (c := c) (L := lineOf c S) (ms := ms.map mvT) (S := S) (T := turnM S m) hs (turn_ok hs) c8 (l := l) hb (by omega) (by rw [turn_len]; omega)
  have w7 := fun l hb => wl7 (o := o) (c := c) (L := lineOf c S) (ms := ms.map mvT) (S := S) (X4 := some (.sh (.lst ((S.map mvS).map D.str)))) (X7 := some (.sh (.lst (((turnM S m).map mvS).map D.str)))) (l := l) (k := k) ht hk hc (by omega) hb
  obtain ⟨d, o', e7, hd, ht'⟩ := w7 ((([.str c, .str (c ++ sp), .str (sp ++ lineOf c S), .str (lineOf c S ++ sp), .str (lineOf c S ++ cm), .str (lineOf c S ++ cs), .str (Txt.replace (lineOf c S) sp (Str.ofString "  "))] ++ [.str (Str.ofString "action " ++ lineOf c S)]) ++ [.str (lineOf c S ++ Str.ofString " s"), .str (Txt.upper (lineOf c S)), .str (c ++ sp ++ Txt.join cm (S.map mvS ++ [Str.ofString "a b c"])), .str (Str.ofString ""), .non, .int 5, .lst (ms.map mvT), .tup [.str (lineOf c S)]]) ++ [.str (c ++ Str.ofString " a b"), .str (lineOf c (turnM S m)), .str (c ++ cs ++ mvs S)]) (by simp)
  refine ⟨d, o', ?_, odd_no (ms := ms) hc hs (by omega) e ?_, ht'⟩
  · unfold f__law_wrong_line
    rw [fnG_eq]
    obtain ⟨x3, x4, x5, x6, x7, x8, s3⟩ : ∃ x3 x4 x5 x6 x7 x8, b__law_wrong_line [some o, some (sO c), some (.sh (.lst (ms.map mvT))), none, none, none, none, none, none] = .ret (.sh d) [some o', some (sO c), some (.sh (.lst (ms.map mvT))), x3, x4, x5, x6, x7, x8] := by
      refine ⟨_, _, _, _, _, _, Eq.trans ?_ e7⟩
      unfold b__law_wrong_line
      rw [ev_sSeq, s1]
      show sSeq _ _ _ = _
      rw [ev_sSeq, w2]
      show sSeq _ _ _ = _
      rw [ev_sSeq, w3]
      show sSeq _ _ _ = _
      rw [ev_sSeq, w4]
      show sSeq _ _ _ = _
      rw [ev_sSeq, w5]
      show sSeq _ _ _ = _
      rw [ev_sSeq, w6 _ (by simp)]
    show (match b__law_wrong_line [some o, some (sO c), some (.sh (.lst (ms.map mvT))), none, none, none, none, none, none] with | .nx ρ => _ | .ret o ρ => _ | .exc x ρ => _ | _ => _) = _
    rw [s3]
    rfl
  · unfold odds
    simpa using hd
end Kx
end

section
set_option maxRecDepth 100000
set_option maxHeartbeats 4000000
open PySem PySem.Spec PyProof.Rows L2 G
namespace Kx
/-! wrong moves, wrong names -/
def bads (ms : List Mv) (m : Mv) : List D := [.lst (ms.map mvT), .tup [], .tup [mvT m, .non], .tup [mvT m, mvT m, mvT m, mvT m, mvT m], .non, .int 5, .str (Str.ofString "abc"), .dct [],
  .tup [.tup [.str m.1, .str m.2.1]], .tup [.tup [.str m.1, .str m.2.1, .str m.2.2, .str (Str.ofString "s")]], .tup [.lst [.str m.1, .str m.2.1, .str m.2.2]], .tup [.tup [.str m.1, .str m.2.1, .str (Str.ofString "")]], .tup [.tup [.str m.1, .str m.2.1, .int 1]],
  .tup [.tup [.str (Txt.upper m.1), .str m.2.1, .str m.2.2]], .tup [.tup [.str m.1, .str m.2.1, .str (Str.ofString "zzzzzzzzz")]], .tup [.tup [.str m.1, .str m.2.1, .tup [.str m.2.2]]]]
theorem nm_up {x : Str} (h : Wd x) : nmB (Txt.upper x) = false := by
  cases e : nmB (Txt.upper x) with
  | false => rfl
  | true =>
    exfalso
    have w := nmB_wd.mp e
    obtain ⟨a, r, e1, l⟩ := wd_starts h
    have q : x = ⟨#[a]⟩ ++ ⟨r.toArray⟩ := TL.ext_tl (by rw [e1, TL.tl_append, TL.tl_mk]; rfl)
    have l1 := l.1
    have l2 := l.2
    rw [q, PySem.W.KOpn.upper_app, PySem.W.KOpn.upper_one (by omega), if_pos ⟨l1, l2⟩] at w
    have := (w.2.2 (a - 32) (by
      show a - 32 ∈ TL.tl (_ ++ _)
      rw [TL.tl_append]
      simp [TL.tl])).1
    omega
theorem ok_up {x : Str} (h : Wd x) : okD (.str (Txt.upper x)) = true := by
  have := up_len' (wd_128 h)
  have := h.2.1
  simp [okD]
  omega
theorem bad_no {ms : List Mv} {m : Mv} {d : D} (h : MvOk m) (hd : d ∈ bads ms m) : okMs d = true ∧ msD d = false := by
  have a := nmB_wd.mpr h.1
  have b := nmB_wd.mpr h.2.1
  have c := nmB_wd.mpr h.2.2
  have a' := wd_ok h.1
  have b' := wd_ok h.2.1
  have c' := wd_ok h.2.2
  have u := nm_up h.1
  have u' := ok_up h.1
  have z : nmB (Str.ofString "zzzzzzzzz") = false := by decide +kernel
  have z' : okD (.str (Str.ofString "zzzzzzzzz")) = true := by decide +kernel
  have e : nmB (Str.ofString "") = false := by decide +kernel
  have e' : okD (.str (Str.ofString "")) = true := by decide +kernel
  have s' : okD (.str (Str.ofString "s")) = true := by decide +kernel
  have t' : okD (.str (Str.ofString "abc")) = true := by decide +kernel
  have on : okD .non = true := rfl
  have oi : ∀ i, okD (.int i) = true := fun _ => rfl
  have ol : ∀ l, okD (.lst l) = true := fun _ => rfl
  have ot : ∀ l, okD (.tup l) = true := fun _ => rfl
  have od : ∀ l, okD (.dct l) = true := fun _ => rfl
  unfold bads at hd
  simp only [List.mem_cons, List.not_mem_nil, or_false] at hd
  rcases hd with rfl | rfl | rfl | rfl | rfl | rfl | rfl | rfl | rfl | rfl | rfl | rfl | rfl | rfl | rfl | rfl <;>
    simp [okMs, okM, msD, mvD, isnD, mvT, a, b, c, a', b', c', u, u', z, z', e, e', s', t', on, oi, ol, ot, od]
theorem five_lc {ρ : Env'} {ms : List D} {d : D} {X : D} (h : ρ[6]? = some none) (h1 : ρ[1]? = some (some (.sh (.lst ms)))) (e : itemG (.lst ms) (.int 0) = some (.sh d)) :
    eLc (iRng1 (eK (.int 5))) (tN 6) ttY (e2 itemG (eVar 1) (eK (.int 0))) [6] ρ = .ok (.lst [.sh d, .sh d, .sh d, .sh d, .sh d]) ρ := by
  have q := eLc_pure (i := 6) (fi := iRng1 (eK (.int 5))) (tt := ttY) (te := e2 itemG (eVar 1) (eK (.int 0))) (ρ := ρ) (l := (List.range 5).map fun k : Nat => D.int k) (p := fun _ => true) (v := fun _ => .sh d)
    (by have : sm 5 = true := by decide
        simp [this]) (.inl h) (fun _ _ => rfl) (fun x _ _ => by
        have g1 : (ρ.set 6 (some (.sh x)))[1]? = some (some (.sh (.lst ms))) := by rw [List.getElem?_set_ne (by decide)]; exact h1
        rw [ev_e2, ev_eVar, g1]
        show (fin (itemG (.lst ms) (.int 0)) _) = _
        rw [e]
        rfl) (by decide)
  rw [q]
  rfl
theorem at0 {α : Type} {d : α} {l : List α} : atI (d :: l) 0 = some d := at_nat (l := d :: l) (j := 0) (by simp)
section
variable {ms : List Mv}
theorem cut_hd (h1 : 1 ≤ ms.length) (h4 : ms.length ≤ 4) : cutG (.lst (ms.map mvT)) none (some 1) = some (OL ((ms.take 1).map mvT)) := by
  show some (OL (cutL (ms.map mvT) none (some 1))) = _
  unfold cutL
  have s1 : HT.sIx (ms.map mvT).length 0 none = 0 := rfl
  have s2 : HT.sIx (ms.map mvT).length (ms.map mvT).length (some 1) = 1 := by
    rw [List.length_map]
    have : ms.length = 1 ∨ ms.length = 2 ∨ ms.length = 3 ∨ ms.length = 4 := by omega
    rcases this with h | h | h | h <;> rw [h] <;> rfl
  rw [s1, s2, List.map_take]
  rfl
theorem cut_tl (h1 : 1 ≤ ms.length) (h4 : ms.length ≤ 4) : cutG (.lst (ms.map mvT)) (some 1) none = some (OL ((ms.drop 1).map mvT)) := by
  show some (OL (cutL (ms.map mvT) (some 1) none)) = _
  unfold cutL
  have s1 : HT.sIx (ms.map mvT).length 0 (some 1) = 1 := by
    rw [List.length_map]
    have : ms.length = 1 ∨ ms.length = 2 ∨ ms.length = 3 ∨ ms.length = 4 := by omega
    rcases this with h | h | h | h <;> rw [h] <;> rfl
  have s2 : HT.sIx (ms.map mvT).length (ms.map mvT).length none = ms.length := by rw [List.length_map]; rfl
  rw [s1, s2, List.map_drop, List.take_of_length_le (by simp)]
end
section
variable {o : O} {ms : List Mv} {m : Mv} {r : List Mv}
theorem wm1 (e : ms = m :: r) : sUnp (tT 3 (tsCons (tN 2) (tsCons (tN 3) (tsCons (tN 4) tsNil)))) (e2 itemG (eVar 1) (eK (.int 0))) [some o, some (.sh (.lst (ms.map mvT))), none, none, none, none, none]
    = .nx [some o, some (.sh (.lst (ms.map mvT))), some (sO m.1), some (sO m.2.1), some (sO m.2.2), none, none] := by
  have i : atI (ms.map mvT) 0 = some (mvT m) := by rw [e]; exact at0
  have t : mvT m = .tup [.str m.1, .str m.2.1, .str m.2.2] := rfl
  simp [i, t]
theorem wm2 (e : ms = m :: r) (hl : ms.length ≤ 4) {a b c : O} : sSet 5 (eLst (eCons (eVar 1) (eCons (eTup eNil) (eCons (eN tupleG (eCons (e2 addG (eCut (eVar 1) none (some (eK (.int 1)))) (eLst (eCons (eK .non) eNil))) eNil)) (eCons (eN tupleG (eCons (eLc (iRng1 (eK (.int 5))) (tN 6) ttY (e2 itemG (eVar 1) (eK (.int 0))) [6]) eNil)) (eCons (eK .non) (eCons (eK (.int 5)) (eCons (eK (.str ("abc" : Str))) (eCons eDnew eNil)))))))))
    [some o, some (.sh (.lst (ms.map mvT))), some a, some b, some c, none, none]
    = .nx [some o, some (.sh (.lst (ms.map mvT))), some a, some b, some c, some (.lst [.sh (.lst (ms.map mvT)), .sh (.tup []), .sh (.tup [mvT m, .non]), .sh (.tup [mvT m, mvT m, mvT m, mvT m, mvT m]), .sh .non, iO 5, sO (Str.ofString "abc"), .dct []]), none] := by
  have i : itemG (.lst (ms.map mvT)) (.int 0) = some (mvO m) := by
    show (atI (ms.map mvT) 0).map O.sh = _
    rw [e, List.map_cons, at0]
    rfl
  have q := five_lc (ρ := [some o, some (.sh (.lst (ms.map mvT))), some a, some b, some c, none, none]) (X := .non) rfl rfl i
  have k : cutG (.lst (ms.map mvT)) none (some 1) = some (OL [mvT m]) := by
    rw [cut_hd (by rw [e]; simp) hl, e]
    rfl
  have k2 : addG (.lst [mvT m]) (.lst [.non]) = some (OL [mvT m, .non]) := addG_ll (by simp)
  have p1 : eCut (eVar 1) none (some (eK (.int 1))) [some o, some (.sh (.lst (ms.map mvT))), some a, some b, some c, none, none] = .ok (OL [mvT m]) [some o, some (.sh (.lst (ms.map mvT))), some a, some b, some c, none, none] := by
    rw [ev_eCut]
    show fin (cutG (.lst (ms.map mvT)) none (some 1)) _ = _
    rw [k]
    rfl
  have p2 : eN tupleG (eCons (e2 addG (eCut (eVar 1) none (some (eK (.int 1)))) (eLst (eCons (eK .non) eNil))) eNil) [some o, some (.sh (.lst (ms.map mvT))), some a, some b, some c, none, none] = .ok (.sh (.tup [mvT m, .non])) [some o, some (.sh (.lst (ms.map mvT))), some a, some b, some c, none, none] := by
    rw [ev_eN, ev_eCons, ev_e2, p1]
    simp [OL_toD, k2]
  have p3 : eN tupleG (eCons (eLc (iRng1 (eK (.int 5))) (tN 6) ttY (e2 itemG (eVar 1) (eK (.int 0))) [6]) eNil) [some o, some (.sh (.lst (ms.map mvT))), some a, some b, some c, none, none] = .ok (.sh (.tup [mvT m, mvT m, mvT m, mvT m, mvT m])) [some o, some (.sh (.lst (ms.map mvT))), some a, some b, some c, none, none] := by
    rw [ev_eN, ev_eCons, q]
    simp
  have p0 : eVar 1 [some o, some (.sh (.lst (ms.map mvT))), some a, some b, some c, none, none] = .ok (.sh (.lst (ms.map mvT))) [some o, some (.sh (.lst (ms.map mvT))), some a, some b, some c, none, none] := rfl
  have p4 : eTup eNil [some o, some (.sh (.lst (ms.map mvT))), some a, some b, some c, none, none] = .ok (.sh (.tup [])) [some o, some (.sh (.lst (ms.map mvT))), some a, some b, some c, none, none] := by simp
  rw [ev_sSet, ev_eLst, ev_eCons, p0, bind_ok, ev_eCons, p4, bind_ok, ev_eCons, p2, bind_ok, ev_eCons, p3, bind_ok]
  simp [eDnew]
end
theorem wrong_moves {k : Nat} {o : O} {ms : List Mv} (ht : Tp k o) (hk : k + 10 < 2 ^ 39) (h : ∀ m ∈ ms, MvOk m) (h1 : 1 ≤ ms.length) (h4 : ms.length ≤ 4) :
    ∃ d o', f__law_wrong_moves [o, .sh (.lst (ms.map mvT))] = .ok (.sh d) [some o', none] ∧ (okMs d = true ∧ msD d = false) ∧ Tp (k + 1) o' := by
  obtain ⟨m, r, e⟩ : ∃ m r, ms = m :: r := by
    cases ms with
    | nil => simp at h1
    | cons m r => exact ⟨m, r, rfl⟩
  have hm : MvOk m := h m (by rw [e]; simp)
  obtain ⟨d, o', ep, hd, ht'⟩ := pick_l (l := bads ms m) ht (by omega) (by simp [bads]) (by simp [bads])
  refine ⟨d, o', ?_, bad_no hm hd, ht'⟩
  have w1 := wm1 (o := o) e
  have w2 := wm2 (o := o) e h4 (a := sO m.1) (b := sO m.2.1) (c := sO m.2.2)
  have u : upperG m.1 [] = some (sO (Txt.upper m.1)) := if_pos (by have := hm.1.2.1; have : big = 1000000 := rfl; omega)
  have w3 : sSet 5 (e2 addG (eVar 5) (eLst (eCons (eTup (eCons (eTup (eCons (eVar 2) (eCons (eVar 3) eNil))) eNil)) (eCons (eTup (eCons (eTup (eCons (eVar 2) (eCons (eVar 3) (eCons (eVar 4) (eCons (eK (.str ("s" : Str))) eNil))))) eNil)) (eCons (eTup (eCons (eLst (eCons (eVar 2) (eCons (eVar 3) (eCons (eVar 4) eNil)))) eNil)) (eCons (eTup (eCons (eTup (eCons (eVar 2) (eCons (eVar 3) (eCons (eK (.str ("" : Str))) eNil)))) eNil)) (eCons (eTup (eCons (eTup (eCons (eVar 2) (eCons (eVar 3) (eCons (eK (.int 1)) eNil)))) eNil)) eNil)))))))
      [some o, some (.sh (.lst (ms.map mvT))), some (sO m.1), some (sO m.2.1), some (sO m.2.2), some (.lst [.sh (.lst (ms.map mvT)), .sh (.tup []), .sh (.tup [mvT m, .non]), .sh (.tup [mvT m, mvT m, mvT m, mvT m, mvT m]), .sh .non, iO 5, sO (Str.ofString "abc"), .dct []]), none]
      = .nx [some o, some (.sh (.lst (ms.map mvT))), some (sO m.1), some (sO m.2.1), some (sO m.2.2), some (OL ((bads ms m).take 13)), none] := by
    have a := @addG_ll [.lst (ms.map mvT), .tup [], .tup [mvT m, .non], .tup [mvT m, mvT m, mvT m, mvT m, mvT m], .non, .int 5, .str (Str.ofString "abc"), .dct []] [.tup [.tup [.str m.1, .str m.2.1]], .tup [.tup [.str m.1, .str m.2.1, .str m.2.2, .str (Str.ofString "s")]], .tup [.lst [.str m.1, .str m.2.1, .str m.2.2]], .tup [.tup [.str m.1, .str m.2.1, .str (Str.ofString "")]], .tup [.tup [.str m.1, .str m.2.1, .int 1]]] (by show 8 + 5 ≤ 1000; decide)
    have td : toDk [] = [] := rfl
    simp [a, td, bads]
  have w4 : sRet (eCall f__law_pick [some 0, none] (eLend 0 (eCons (e2 addG (eVar 5) (eLst (eCons (eTup (eCons (eTup (eCons (eMs upperG (eVar 2) eNil) (eCons (eVar 3) (eCons (eVar 4) eNil)))) eNil)) (eCons (eTup (eCons (eTup (eCons (eVar 2) (eCons (eVar 3) (eCons (eK (.str ("zzzzzzzzz" : Str))) eNil)))) eNil)) (eCons (eTup (eCons (eTup (eCons (eVar 2) (eCons (eVar 3) (eCons (eTup (eCons (eVar 4) eNil)) eNil)))) eNil)) eNil))))) eNil)))
      [some o, some (.sh (.lst (ms.map mvT))), some (sO m.1), some (sO m.2.1), some (sO m.2.2), some (OL ((bads ms m).take 13)), none]
      = .ret (.sh d) [some o', some (.sh (.lst (ms.map mvT))), some (sO m.1), some (sO m.2.1), some (sO m.2.2), some (.sh (.lst ((bads ms m).take 13))), none] := by
    have a := @addG_ll ((bads ms m).take 13) [.tup [.tup [.str (Txt.upper m.1), .str m.2.1, .str m.2.2]], .tup [.tup [.str m.1, .str m.2.1, .str (Str.ofString "zzzzzzzzz")]], .tup [.tup [.str m.1, .str m.2.1, .tup [.str m.2.2]]]] (by show 13 + 3 ≤ 1000; decide)
    have a2 : (bads ms m).take 13 ++ [.tup [.tup [.str (Txt.upper m.1), .str m.2.1, .str m.2.2]], .tup [.tup [.str m.1, .str m.2.1, .str (Str.ofString "zzzzzzzzz")]], .tup [.tup [.str m.1, .str m.2.1, .tup [.str m.2.2]]]] = bads ms m := rfl
    rw [a2] at a
    have q5 : eVar 5 [some o, some (.sh (.lst (ms.map mvT))), some (sO m.1), some (sO m.2.1), some (sO m.2.2), some (OL ((bads ms m).take 13)), none] = .ok (.sh (.lst ((bads ms m).take 13))) [some o, some (.sh (.lst (ms.map mvT))), some (sO m.1), some (sO m.2.1), some (sO m.2.2), some (.sh (.lst ((bads ms m).take 13))), none] := by
      rw [ev_eVar]
      show Out.ok (O.sh (OL ((bads ms m).take 13)).toD) _ = _
      rw [OL_toD]
      rfl
    generalize (bads ms m).take 13 = bs at *
    have ep' : f__law_pick [o, OL (bads ms m)] = .ok (.sh d) [some o', none] := ep
    rw [ev_sRet, ev_eCall, ev_eLend]
    show (((eCons _ eNil) [some o, some (.sh (.lst (ms.map mvT))), some (sO m.1), some (sO m.2.1), some (sO m.2.2), some (OL bs), none]).bind _).then' _ = _
    rw [ev_eCons, ev_e2, q5, bind_ok]
    simp [u, a, ep']
  unfold f__law_wrong_moves
  rw [fnG_eq]
  obtain ⟨x2, x3, x4, x5, x6, s3⟩ : ∃ x2 x3 x4 x5 x6, b__law_wrong_moves [some o, some (.sh (.lst (ms.map mvT))), none, none, none, none, none] = .ret (.sh d) [some o', some (.sh (.lst (ms.map mvT))), x2, x3, x4, x5, x6] := by
    refine ⟨_, _, _, _, _, Eq.trans ?_ w4⟩
    unfold b__law_wrong_moves
    rw [ev_sSeq, w1]
    show sSeq _ _ _ = _
    rw [ev_sSeq, w2]
    show sSeq _ _ _ = _
    rw [ev_sSeq, w3]
  show (match b__law_wrong_moves [some o, some (.sh (.lst (ms.map mvT))), none, none, none, none, none] with | .nx ρ => _ | .ret o ρ => _ | .exc x ρ => _ | _ => _) = _
  rw [s3]
  rfl
def nmsBad (c : Str) : List D := [.non, .int 5, .str (Str.ofString ""), .str (Str.ofString "A"), .str (c ++ sp), .str (Str.ofString "zzzzzzzzz"), .tup [.str c]]
theorem nms_no {c : Str} {d : D} (hc : Wd c) (hd : d ∈ nmsBad c) : okD d = true ∧ isnD d = false := by
  have c8 := hc.2.1
  unfold nmsBad at hd
  simp only [List.mem_cons, List.not_mem_nil, or_false] at hd
  rcases hd with rfl | rfl | rfl | rfl | rfl | rfl | rfl
  · exact ⟨rfl, rfl⟩
  · exact ⟨rfl, rfl⟩
  · exact ⟨by decide +kernel, by decide +kernel⟩
  · exact ⟨by decide +kernel, by decide +kernel⟩
  · refine ⟨by simp [okD, Str.length_append, sp_len]; omega, ?_⟩
    show nmB (c ++ sp) = false
    cases e : nmB (c ++ sp) with
    | false => rfl
    | true =>
      exfalso
      have w := (nmB_wd.mp e).2.2 32 (by show 32 ∈ TL.tl (c ++ sp); rw [TL.tl_append, sp_tl]; simp)
      exact n32 w
  · exact ⟨by decide +kernel, by decide +kernel⟩
  · exact ⟨rfl, rfl⟩
end Kx
end

section
set_option maxRecDepth 100000
set_option maxHeartbeats 4000000
open PySem PySem.Spec PyProof.Rows L2 G
namespace Kx
/-! parts of what is right -/
abbrev shM (ms : List Mv) : O := .sh (.lst (ms.map mvT))
abbrev tuM (ms : List Mv) : O := .sh (.tup (ms.map mvT))
theorem mk_at {fa : Fa} {ρ ρ' : Env'} {c : Str} {ms : List Mv} (e : fa ρ = .ok [sO c, tuM ms] ρ') (hc : Wd c) (h : ∀ m ∈ ms, MvOk m) (h1 : 1 ≤ ms.length) (h4 : ms.length ≤ 4) :
    eMake 0 f_Action_init [none, none] fa ρ = .ok (actO c (srtM ms)) ρ' := by
  have q := init_ok hc h h1 h4
  rw [ev_eMake, e]
  simp [q]
theorem mk_no {fa : Fa} {ρ ρ' : Env'} {n m : D} {x : Xn} (e : fa ρ = .ok [.sh n, .sh m] ρ') (q : f_Action_init [.ins 0 [], .sh n, .sh m] = .exc x [some (.ins 0 []), none, none]) :
    eMake 0 f_Action_init [none, none] fa ρ = .exc x ρ' := by
  rw [ev_eMake, e]
  simp [q]
theorem fl_at {fa : Fa} {ρ ρ' : Env'} {d : D} {r : O} (e : fa ρ = .ok [.sh d] ρ') (q : f_Action_from_line [.sh (.cl 0), .sh d] = .ok r [none, none]) : eCmth 0 f_Action_from_line [none] fa ρ = .ok r ρ' := by
  rw [ev_eCmth, ev_eCall, ev_eCons]
  simp [e, q]
theorem fl_no {fa : Fa} {ρ ρ' : Env'} {d : D} (e : fa ρ = .ok [.sh d] ρ') (q : f_Action_from_line [.sh (.cl 0), .sh d] = noLine) : eCmth 0 f_Action_from_line [none] fa ρ = .exc ⟨2, [.non]⟩ ρ' := by
  rw [ev_eCmth, ev_eCall, ev_eCons]
  simp [e, q]
theorem lam_no {fa : Fa} {ρ ρ' : Env'} {d : D} (e : fa ρ = .ok [.sh d] ρ') (q : f_Action_from_line [.sh (.cl 0), .sh d] = noLine) : eLam hs__law_met fin__law_met (eCmth 0 f_Action_from_line [none] fa) ρ = .ok (sO (Str.ofString "parse None")) ρ' := by
  rw [ev_eLam, fl_no e q]
  have r : metS hs__law_met ⟨2, [.non]⟩ = some (sO (Str.ofString "parse None")) := by
    have e : Str.ofString "parse None" = Str.ofString "parse " ++ Str.ofString "None" := by decide +kernel
    rw [e]
    rfl
  show (match metS hs__law_met ⟨2, [.non]⟩ with | some z => Out.ok z ρ' | none => .bad) = _
  rw [r]
theorem lam_mk {fa : Fa} {ρ ρ' : Env'} {n m : D} {i : Nat} {w : O} (e : fa ρ = .ok [.sh n, .sh m] ρ') (q : f_Action_init [.ins 0 [], .sh n, .sh m] = .exc ⟨i, []⟩ [some (.ins 0 []), none, none]) (r : metS hs__law_met ⟨i, []⟩ = some w) :
    eLam hs__law_met fin__law_met (eMake 0 f_Action_init [none, none] fa) ρ = .ok w ρ' := by
  rw [ev_eLam, mk_no e q]
  show (match metS hs__law_met ⟨i, []⟩ with | some z => Out.ok z ρ' | none => .bad) = _
  rw [r]
theorem say0 : metS hs__law_met ⟨0, []⟩ = some (sO (Str.ofString "name")) := rfl
theorem say1 : metS hs__law_met ⟨1, []⟩ = some (sO (Str.ofString "action")) := rfl
/-- drawn -/
theorem lr1 {k : Nat} {o : O} (ht : Tp k o) (hk : k + 5000 < 2 ^ 39) : ∃ c ms o', Wx c ∧ 1 ≤ ms.length ∧ ms.length ≤ 4 ∧ (∀ m ∈ ms, MvX m) ∧ Tp (k + 200) o' ∧
    sUnp (tT 2 (tsCons (tN 1) (tsCons (tN 2) tsNil))) (eTup (eCons (eCall f__law_word_drawn [some 0] (eLend 0 eNil)) (eCons (eCall f__law_moves_drawn [some 0] (eLend 0 eNil)) eNil))) [some o, none, none, none, none, none, none, none, none, none, none, none, none, none]
    = .nx [some o', some (sO c), some (shM ms), none, none, none, none, none, none, none, none, none, none, none] := by
  obtain ⟨c, o1, e1', hc, t1⟩ := wordX ht (by omega)
  obtain ⟨o2, ms, e2', h1, h4, hm, t2⟩ := moves_drawn t1 (by omega)
  refine ⟨c, ms, o2, hc, h1, h4, hm, t2.up (by omega), ?_⟩
  simp [e1', e2', toDs_mv]
section
variable {o : O} {c L : Str} {ms S : List Mv} {x1 x2 x3 x4 x5 x6 x7 x8 x9 x10 x11 x12 x13 : Option O}
theorem lr3 (hc : Wd c) (h : ∀ m ∈ ms, MvOk m) (h4 : ms.length ≤ 4) : sSet 3 (eCall f__law_action_line [none, none] (eCons (eVar 1) (eCons (eVar 2) eNil))) [some o, some (sO c), some (shM ms), x3, x4, x5, x6, x7, x8, x9, x10, x11, x12, x13]
    = .nx [some o, some (sO c), some (shM ms), some (sO (lineOf c (srtM ms))), x4, x5, x6, x7, x8, x9, x10, x11, x12, x13] := by
  have q := action_line hc h (by omega)
  simp [q]
theorem lr4 (hc : Wd c) (h : ∀ m ∈ ms, MvOk m) (h1 : 1 ≤ ms.length) (h4 : ms.length ≤ 4) : sSet 4 (eMake 0 f_Action_init [none, none] (eCons (eVar 1) (eCons (eN tupleG (eCons (eVar 2) eNil)) eNil))) [some o, some (sO c), some (shM ms), x3, x4, x5, x6, x7, x8, x9, x10, x11, x12, x13]
    = .nx [some o, some (sO c), some (shM ms), x3, some (actO c (srtM ms)), x5, x6, x7, x8, x9, x10, x11, x12, x13] := by
  rw [ev_sSet, mk_at (ms := ms) (c := c) (ρ' := [some o, some (sO c), some (shM ms), x3, x4, x5, x6, x7, x8, x9, x10, x11, x12, x13]) (by simp) hc h h1 h4]
  simp
theorem lr5 (hc : Wd c) (h : ∀ m ∈ S, MvOk m) (h1 : 1 ≤ S.length) (h4 : S.length ≤ 4) : sSet 5 (eLst (eCons (ePrp t_Action_called (eVar 4)) (eCons (ePrp t_Action_moves (eVar 4)) (eCons (ePrp t_Action_owners (eVar 4)) (eCons (e1 (g1 (gLenA t_Action_len)) (eVar 4)) (eCons (e1 (g1 (gStrA t_Action_str)) (eVar 4)) eNil))))))
    [some o, x1, x2, x3, some (actO c S), x5, x6, x7, x8, x9, x10, x11, x12, x13]
    = .nx [some o, x1, x2, x3, some (.sh (actD c S)), some (.lst [sO c, tuM S, .sh (ownS S), iO S.length, sO (lineOf c S)]), x6, x7, x8, x9, x10, x11, x12, x13] := by
  have q1 : ePrp t_Action_called (eVar 4) [some o, x1, x2, x3, some (actO c S), x5, x6, x7, x8, x9, x10, x11, x12, x13] = .ok (sO c) [some o, x1, x2, x3, some (.sh (actD c S)), x5, x6, x7, x8, x9, x10, x11, x12, x13] := prp_at (ps := []) rfl called_act
  have q2 : ePrp t_Action_moves (eVar 4) [some o, x1, x2, x3, some (.sh (actD c S)), x5, x6, x7, x8, x9, x10, x11, x12, x13] = .ok (tuM S) [some o, x1, x2, x3, some (.sh (actD c S)), x5, x6, x7, x8, x9, x10, x11, x12, x13] := prp_at (ps := []) rfl moves_act
  have q3 : ePrp t_Action_owners (eVar 4) [some o, x1, x2, x3, some (.sh (actD c S)), x5, x6, x7, x8, x9, x10, x11, x12, x13] = .ok (.sh (ownS S)) [some o, x1, x2, x3, some (.sh (actD c S)), x5, x6, x7, x8, x9, x10, x11, x12, x13] := prp_at (ps := []) rfl (owners_act h1 (by omega))
  have q4 := gLenA_a (c := c) (ms := S) (by omega)
  have q5 := gStrA_a hc h (by omega)
  rw [ev_sSet, ev_eLst, ev_eCons, q1, bind_ok, ev_eCons, q2, bind_ok, ev_eCons, q3, bind_ok]
  simp [q4, q5]
theorem heads_lc {ρ : Env'} (hl : ms.length ≤ 4) (h : ρ[6]? = some none) (h2 : ρ[2]? = some (some (shM ms))) :
    eLc (iSeq (eVar 2)) (tN 6) ttY (e2 itemG (eVar 6) (eK (.int 0))) [6] ρ = .ok (.lst ((ms.map (·.1)).map sO)) ρ := by
  have h6 : 6 < ρ.length := (List.getElem?_eq_some_iff.mp h).1
  have q := eLc_pure (i := 6) (fi := iSeq (eVar 2)) (tt := ttY) (te := e2 itemG (eVar 6) (eK (.int 0))) (ρ := ρ) (l := ms.map mvT) (p := fun _ => true) (v := fun d => match itemG d (.int 0) with | some o => o | none => .sh .non)
    (by simp [h2]) (.inl h) (fun _ _ => rfl) (fun d hd _ => by
      obtain ⟨m, _, rfl⟩ := List.mem_map.mp hd
      have i : itemG (mvT m) (.int 0) = some (sO m.1) := rfl
      simp [h6, i]) (by rw [List.length_map]; have : big = 1000000 := rfl; omega)
  rw [q, filter_true, List.map_map, List.map_map]
  rfl
noncomputable abbrev tD (c : Str) (S : List Mv) (n : Nat) (L : Str) : List D := [.str c, .tup (S.map mvT), ownS S, .int n, .str L]
theorem pl_tD {c : Str} {S : List Mv} {n : Nat} {L : Str} : plAll 60 (tD c S n L) = true := by
  show (true && (plAll 59 (S.map mvT) && ((ownS S).pl 60 && (true && (true && true))))) = true
  have e : (ownS S).pl 60 = true := by
    show plAll 59 _ = true
    have gen : ∀ ys : List Str, plAll 59 (ys.map D.str) = true := fun ys => by
      induction ys with
      | nil => rfl
      | cons y ys ih => show (true && plAll 59 (ys.map D.str)) = true; rw [ih]; rfl
    exact gen _
  rw [e, show (59 : Nat) = 55 + 4 from rfl, pl_mv S 55]
  rfl
theorem lr6 (hS : S = srtM ms) (h4 : ms.length ≤ 4) :
    sIf (eB (e2w 5 gNe (eLst (eCons (eVar 1) (eCons (eN tupleG (eCons (eN sortedG (eCons (eVar 2) eNil)) eNil)) (eCons (eN tupleG (eCons (e1 sortSetG (eLc (iSeq (eVar 2)) (tN 6) ttY (e2 itemG (eVar 6) (eK (.int 0))) [6])) eNil)) (eCons (eN lenG (eCons (eVar 2) eNil)) (eCons (eVar 3) eNil))))))))
      (sRet (eK (.bl false))) sNil
    [some o, some (sO c), some (shM ms), some (sO L), x4, some (.lst [sO c, tuM S, .sh (ownS S), iO S.length, sO L]), none, x7, x8, x9, x10, x11, x12, x13]
    = .nx [some o, some (sO c), some (shM ms), some (sO L), x4, some (.lst [sO c, tuM S, .sh (ownS S), iO S.length, sO L]), none, x7, x8, x9, x10, x11, x12, x13] := by
  have hbig : big = 1000000 := rfl
  have q0 := heads_lc (ρ := [some o, some (sO c), some (shM ms), some (sO L), x4, some (.lst [sO c, tuM S, .sh (ownS S), iO S.length, sO L]), none, x7, x8, x9, x10, x11, x12, x13]) h4 rfl rfl
  have q1 := sorted_l (ms := ms) (by omega)
  have q2 := sortSet_l (ys := ms.map (·.1)) (by rw [List.length_map]; omega)
  have q3 : O.sh (.tup ((srtS (GS.dl (ms.map (·.1)))).map D.str)) = .sh (ownS S) := by
    have := ownS_perm (srtM_perm ms)
    rw [← hS] at this
    rw [this]
    rfl
  have q4 : S.length = ms.length := by rw [hS]; exact (srtM_perm ms).length_eq
  have g : gNe (.lst (tD c S S.length L)) (.lst (tD c S S.length L)) = some (bO false) := by
    rw [gNe_lst (by rw [pl_tD]; rfl), eqDs_refl _ _ pl_tD]; rfl
  have p1 : eN tupleG (eCons (eN sortedG (eCons (eVar 2) eNil)) eNil) [some o, some (sO c), some (shM ms), some (sO L), x4, some (.lst [sO c, tuM S, .sh (ownS S), iO S.length, sO L]), none, x7, x8, x9, x10, x11, x12, x13] = .ok (tuM S) [some o, some (sO c), some (shM ms), some (sO L), x4, some (.lst [sO c, tuM S, .sh (ownS S), iO S.length, sO L]), none, x7, x8, x9, x10, x11, x12, x13] := by
    simp [q1, OL_toD, hS]
  have p2 : eN tupleG (eCons (e1 sortSetG (eLc (iSeq (eVar 2)) (tN 6) ttY (e2 itemG (eVar 6) (eK (.int 0))) [6])) eNil) [some o, some (sO c), some (shM ms), some (sO L), x4, some (.lst [sO c, tuM S, .sh (ownS S), iO S.length, sO L]), none, x7, x8, x9, x10, x11, x12, x13] = .ok (.sh (ownS S)) [some o, some (sO c), some (shM ms), some (sO L), x4, some (.lst [sO c, tuM S, .sh (ownS S), iO S.length, sO L]), none, x7, x8, x9, x10, x11, x12, x13] := by
    rw [ev_eN, ev_eCons, ev_e1, q0]
    simp only [bind_ok, toD_lst, toDs_str, q2, fin_some, ev_eNil, toDs_cons, toDs_nil, OL_toD, tupleG_l, q3]
  have p3 : eLst (eCons (eVar 1) (eCons (eN tupleG (eCons (eN sortedG (eCons (eVar 2) eNil)) eNil)) (eCons (eN tupleG (eCons (e1 sortSetG (eLc (iSeq (eVar 2)) (tN 6) ttY (e2 itemG (eVar 6) (eK (.int 0))) [6])) eNil)) (eCons (eN lenG (eCons (eVar 2) eNil)) (eCons (eVar 3) eNil))))) [some o, some (sO c), some (shM ms), some (sO L), x4, some (.lst [sO c, tuM S, .sh (ownS S), iO S.length, sO L]), none, x7, x8, x9, x10, x11, x12, x13]
      = .ok (.lst [sO c, tuM S, .sh (ownS S), iO S.length, sO L]) [some o, some (sO c), some (shM ms), some (sO L), x4, some (.lst [sO c, tuM S, .sh (ownS S), iO S.length, sO L]), none, x7, x8, x9, x10, x11, x12, x13] := by
    have p0 : eVar 1 [some o, some (sO c), some (shM ms), some (sO L), x4, some (.lst [sO c, tuM S, .sh (ownS S), iO S.length, sO L]), none, x7, x8, x9, x10, x11, x12, x13] = .ok (sO c) [some o, some (sO c), some (shM ms), some (sO L), x4, some (.lst [sO c, tuM S, .sh (ownS S), iO S.length, sO L]), none, x7, x8, x9, x10, x11, x12, x13] := rfl
    rw [ev_eLst, ev_eCons, p0, bind_ok, ev_eCons, p1, bind_ok, ev_eCons, p2, bind_ok]
    simp [q4]
  have td : toDs [sO c, tuM S, .sh (ownS S), iO S.length, sO L] = tD c S S.length L := rfl
  rw [ev_sIf, ev_eB, ev_e2w]
  have v5 : vVar 5 [some o, some (sO c), some (shM ms), some (sO L), x4, some (.lst [sO c, tuM S, .sh (ownS S), iO S.length, sO L]), none, x7, x8, x9, x10, x11, x12, x13] = some (.lst (tD c S S.length L)) := rfl
  rw [v5]
  simp only [p3, bind_ok, ev_e1v, v5, toD_lst, td, Option.bind_some, g, scD_bl, if_true, oB_bl, then_ok, Bool.false_eq_true, if_false, ev_sNil]
end
end Kx
end

section
set_option maxRecDepth 100000
set_option maxHeartbeats 4000000
open PySem PySem.Spec PyProof.Rows L2 G
namespace Kx
/-! the same, and others -/
theorem eLc_mv {fi : Env' → Out (List D)} {t : D → Env' → Option Env'} {tt : Env' → Out Bool} {te : Fe} {is : List Nat} {ρ ρ' : Env'} {l : List D} (h1 : fi ρ = .ok l ρ') (h2 : fi ρ' = .ok l ρ') : eLc fi t tt te is ρ = eLc fi t tt te is ρ' := by
  unfold eLc
  rw [h1, h2]
section
variable {o : O} {c L : Str} {ms S : List Mv} {x1 x2 x3 x4 x5 x6 x7 x8 x9 x10 x11 x12 x13 : Option O}
theorem lr7 {k : Nat} (ht : Tp k o) (hk : k + 2000 < 2 ^ 39) (hc : Wd c) (h : ∀ m ∈ ms, MvOk m) (h1 : 1 ≤ ms.length) (h4 : ms.length ≤ 4) (hS : S = srtM ms) : ∃ o', Tp (k + 4) o' ∧
    sSet 7 (eLst (eCons (eMake 0 f_Action_init [none, none] (eCons (eVar 1) (eCons (eN tupleG (eCons (eCall f__law_few [some 0, none, none] (eLend 0 (eCons (eVar 2) (eCons (eK (.int 4)) eNil)))) eNil)) eNil))) (eCons (eCmth 0 f_Action_from_line [none] (eCons (eVar 3) eNil)) eNil)))
    [some o, some (sO c), some (shM ms), some (sO (lineOf c S)), x4, x5, x6, x7, x8, x9, x10, x11, x12, x13]
    = .nx [some o', some (sO c), some (shM ms), some (sO (lineOf c S)), x4, x5, x6, some (.lst [actO c S, .sh (actD c S)]), x8, x9, x10, x11, x12, x13] := by
  obtain ⟨o', ys, hp, t, e⟩ := few (ls := ms) ht (by omega) h4
  refine ⟨o', t.up (by omega), ?_⟩
  have hl := hp.length_eq
  have hy : ∀ m ∈ ys, MvOk m := fun m hm => h m (hp.mem_iff.mp hm)
  have es : srtM ys = S := by rw [hS]; exact srtM_uniq hp
  have q1 := mk_at (fa := eCons (eVar 1) (eCons (eN tupleG (eCons (eCall f__law_few [some 0, none, none] (eLend 0 (eCons (eVar 2) (eCons (eK (.int 4)) eNil)))) eNil)) eNil)) (c := c) (ms := ys)
    (ρ := [some o, some (sO c), some (shM ms), some (sO (lineOf c S)), x4, x5, x6, x7, x8, x9, x10, x11, x12, x13]) (ρ' := [some o', some (sO c), some (shM ms), some (sO (lineOf c S)), x4, x5, x6, x7, x8, x9, x10, x11, x12, x13])
    (by simp [e, toDs_mv]) hc hy (by omega) (by omega)
  have hl2 : S.length = ms.length := by rw [hS]; exact (srtM_perm ms).length_eq
  have v : VLine c S := ⟨hc, fun m hm => h m (by rw [hS] at hm; exact (srtM_perm ms).mem_iff.mp hm), by omega, by omega, by rw [hS]; exact srtM_idem ms⟩
  have q2 := fl_at (fa := eCons (eVar 3) eNil) (ρ := [some o', some (sO c), some (shM ms), some (sO (lineOf c S)), x4, x5, x6, x7, x8, x9, x10, x11, x12, x13]) (ρ' := [some o', some (sO c), some (shM ms), some (sO (lineOf c S)), x4, x5, x6, x7, x8, x9, x10, x11, x12, x13]) (by simp) (from_good v)
  rw [ev_sSet, ev_eLst, ev_eCons, q1, bind_ok, ev_eCons, q2, bind_ok, es]
  simp
theorem lr8 (hc : Wd c) (h : ∀ m ∈ S, MvOk m) (h4 : S.length ≤ 4) :
    sIf (eB (e2 gNe (eLc (iSeq (eVar 7)) (tN 8) (tOr' (eB (e2 (g2 (gNeA t_Action_eq)) (eVar 4) (eVar 8))) (tOr' (tNt (eB (e2 (g2 (gEqA t_Action_eq)) (eVar 8) (eVar 4)))) (eB (e2 gNe (e1 (g1 (gStrA t_Action_str)) (eVar 8)) (eVar 3))))) (eVar 8) [8]) (eLst eNil)))
      (sRet (eK (.bl false))) sNil
    [some o, x1, x2, some (sO (lineOf c S)), some (.sh (actD c S)), x5, x6, some (.lst [actO c S, .sh (actD c S)]), none, x9, x10, x11, x12, x13]
    = .nx [some o, x1, x2, some (sO (lineOf c S)), some (.sh (actD c S)), x5, x6, some (.sh (.lst [actD c S, actD c S])), none, x9, x10, x11, x12, x13] := by
  have a : f_Action_eq [.sh (actD c S), .sh (actD c S)] = .ok (bO true) [none, none] := by
    have := eq_act (c := c) (c' := c) (ms := S) (ns := S)
    simpa using this
  have n1 : g2 (gNeA t_Action_eq) (actD c S) (actD c S) = some (bO false) := gNeA_a rfl a
  have n2 : g2 (gEqA t_Action_eq) (actD c S) (actD c S) = some (bO true) := gEqA_a rfl a
  have n3 := gStrA_a hc h (by omega)
  have q := eLc_pure (i := 8) (fi := iSeq (eVar 7)) (tt := tOr' (eB (e2 (g2 (gNeA t_Action_eq)) (eVar 4) (eVar 8))) (tOr' (tNt (eB (e2 (g2 (gEqA t_Action_eq)) (eVar 8) (eVar 4)))) (eB (e2 gNe (e1 (g1 (gStrA t_Action_str)) (eVar 8)) (eVar 3))))) (te := eVar 8)
    (ρ := [some o, x1, x2, some (sO (lineOf c S)), some (.sh (actD c S)), x5, x6, some (.sh (.lst [actD c S, actD c S])), none, x9, x10, x11, x12, x13]) (l := [actD c S, actD c S]) (p := fun _ => false) (v := fun d => .sh d)
    rfl (.inl rfl) (fun d hd => by
      have hd : d = actD c S := by simpa using hd
      subst hd
      simp [n1, n2, n3]) (fun d _ hp => by cases hp) (by show (2 : Nat) < big; decide)
  have m := eLc_mv (fi := iSeq (eVar 7)) (t := tN 8) (tt := tOr' (eB (e2 (g2 (gNeA t_Action_eq)) (eVar 4) (eVar 8))) (tOr' (tNt (eB (e2 (g2 (gEqA t_Action_eq)) (eVar 8) (eVar 4)))) (eB (e2 gNe (e1 (g1 (gStrA t_Action_str)) (eVar 8)) (eVar 3))))) (te := eVar 8) (is := [8]) (l := [actD c S, actD c S])
    (ρ := [some o, x1, x2, some (sO (lineOf c S)), some (.sh (actD c S)), x5, x6, some (.lst [actO c S, .sh (actD c S)]), none, x9, x10, x11, x12, x13])
    (ρ' := [some o, x1, x2, some (sO (lineOf c S)), some (.sh (actD c S)), x5, x6, some (.sh (.lst [actD c S, actD c S])), none, x9, x10, x11, x12, x13]) rfl rfl
  have g : gNe (.lst []) (.lst []) = some (bO false) := gNe_l0
  rw [ev_sIf, ev_eB, ev_e2, m, q]
  simp [g]
/-! others -/
def othN (c : Str) : Str := if c.length < 8 then c ++ Str.ofString "a" else Str.ofString "z"
theorem a_tl : TL.tl (Str.ofString "a") = [97] := by decide +kernel
theorem oth_wd (hc : Wd c) : Wd (othN c) := by
  unfold othN
  split
  · next h8 =>
    refine ⟨?_, ?_, ?_⟩
    · rw [Str.length_append]; have := hc.1; omega
    · rw [Str.length_append]; have : (Str.ofString "a").length = 1 := by decide +kernel
      omega
    · intro a ha
      have ha : a ∈ TL.tl (c ++ Str.ofString "a") := ha
      rw [TL.tl_append, a_tl] at ha
      rcases List.mem_append.mp ha with ha | ha
      · exact hc.2.2 a ha
      · rw [List.mem_singleton.mp ha]; unfold Ltr; omega
  · exact wd_of (by decide +kernel)
theorem oth_ne (c : Str) : c ≠ othN c := fun e => by
  unfold othN at e
  split at e
  · have l := congrArg Str.length e
    rw [Str.length_append] at l
    have : (Str.ofString "a").length = 1 := by decide +kernel
    omega
  · next h8 =>
    have l := congrArg Str.length e
    have : (Str.ofString "z").length = 1 := by decide +kernel
    omega
abbrev zz4 : Str := Str.ofString "zzzz"
def altM (ms : List Mv) : List Mv := match ms with
  | [] => []
  | m :: r => r ++ [(m.1, m.2.1, zz4)]
def lngM (ms : List Mv) : List Mv := ms ++ ms.take 1
theorem zz4_wd : Wd zz4 := wd_of (by decide +kernel)
theorem zz4_len : zz4.length = 4 := by decide +kernel
theorem alt_ok (h : ∀ m ∈ ms, MvOk m) : ∀ m ∈ altM ms, MvOk m := fun x hx => by
  cases ms with
  | nil => cases hx
  | cons m r =>
    rcases List.mem_append.mp hx with hx | hx
    · exact h x (by simp [hx])
    · rw [List.mem_singleton.mp hx]
      have := h m (by simp)
      exact ⟨this.1, this.2.1, zz4_wd⟩
theorem alt_len : (altM ms).length = ms.length := by cases ms <;> simp [altM]
theorem alt_ne (h : ∀ m ∈ ms, MvX m) (h1 : 1 ≤ ms.length) : srtM ms ≠ srtM (altM ms) := fun e => by
  cases ms with
  | nil => simp at h1
  | cons m r =>
    have i : (m.1, m.2.1, zz4) ∈ srtM (altM (m :: r)) := (srtM_perm _).mem_iff.mpr (by unfold altM; simp)
    rw [← e] at i
    have := (h _ ((srtM_perm _).mem_iff.mp i)).2.2.2
    exact this zz4_len
theorem lng_ok (h : ∀ m ∈ ms, MvOk m) : ∀ m ∈ lngM ms, MvOk m := fun x hx => by
  rcases List.mem_append.mp hx with hx | hx
  · exact h x hx
  · exact h x (List.mem_of_mem_take hx)
theorem lng_len (h1 : 1 ≤ ms.length) : (lngM ms).length = ms.length + 1 := by
  unfold lngM
  rw [List.length_append, List.length_take]
  omega
theorem lng_ne (h1 : 1 ≤ ms.length) : srtM ms ≠ srtM (lngM ms) := fun e => by
  have l := congrArg List.length e
  rw [(srtM_perm _).length_eq, (srtM_perm _).length_eq, lng_len h1] at l
  omega
def Unl (c : Str) (S : List Mv) (d : D) : Prop := okR d = true ∧ f_Action_eq [.sh (actD c S), .sh d] = .ok (bO false) [none, none]
theorem unl_act {c' : Str} {S' : List Mv} (h : ¬ (c = c' ∧ S = S')) : Unl c S (actD c' S') := ⟨rfl, by
  have q := eq_act (c := c) (c' := c') (ms := S) (ns := S')
  rw [decide_eq_false h] at q
  exact q⟩
theorem lr9 (hc : Wd c) (h : ∀ m ∈ ms, MvOk m) (h1 : 1 ≤ ms.length) (h4 : ms.length ≤ 4) :
    sSet 9 (eLst (eCons (eMake 0 f_Action_init [none, none] (eCons (eIf (eB (e2 gLt (eN lenG (eCons (eVar 1) eNil)) (eK (.int 8)))) (e2 addG (eVar 1) (eK (.str ("a" : Str)))) (eK (.str ("z" : Str)))) (eCons (eN tupleG (eCons (eVar 2) eNil)) eNil))) (eCons (eVar 3) (eCons (eK .non) (eCons (eTup (eCons (eVar 1) (eCons (eN tupleG (eCons (eVar 2) eNil)) eNil))) eNil)))))
    [some o, some (sO c), some (shM ms), some (sO L), x4, x5, x6, x7, x8, x9, x10, x11, x12, x13]
    = .nx [some o, some (sO c), some (shM ms), some (sO L), x4, x5, x6, x7, x8, some (.lst [actO (othN c) (srtM ms), sO L, .sh .non, .sh (.tup [.str c, .tup (ms.map mvT)])]), x10, x11, x12, x13] := by
  have a1 : addG (.str c) (.str (Str.ofString "a")) = some (sO (c ++ Str.ofString "a")) := cat_s (by
    have : (Str.ofString "a").length = 1 := by decide +kernel
    have := hc.2.1
    omega)
  have lb : c.length ≤ big := by have := hc.2.1; have : big = 1000000 := rfl; omega
  have q := mk_at (fa := eCons (eIf (eB (e2 gLt (eN lenG (eCons (eVar 1) eNil)) (eK (.int 8)))) (e2 addG (eVar 1) (eK (.str ("a" : Str)))) (eK (.str ("z" : Str)))) (eCons (eN tupleG (eCons (eVar 2) eNil)) eNil)) (c := othN c) (ms := ms)
    (ρ := [some o, some (sO c), some (shM ms), some (sO L), x4, x5, x6, x7, x8, x9, x10, x11, x12, x13]) (ρ' := [some o, some (sO c), some (shM ms), some (sO L), x4, x5, x6, x7, x8, x9, x10, x11, x12, x13])
    (by
      unfold othN
      by_cases h8 : c.length < 8
      · have h8' : (c.length : Int) < 8 := by omega
        rw [if_pos h8]
        simp [lb, h8', a1]
      · have h8' : ¬ (c.length : Int) < 8 := by omega
        rw [if_neg h8]
        simp [lb, h8']) (oth_wd hc) h h1 h4
  rw [ev_sSet, ev_eLst, ev_eCons, q, bind_ok]
  simp
theorem lr10 (hc : Wd c) (h : ∀ m ∈ ms, MvOk m) (h1 : 1 ≤ ms.length) (h4 : ms.length ≤ 4) {os : List O} (hb : os.length < 1000) :
    sExpr (eApp 9 (eMake 0 f_Action_init [none, none] (eCons (eVar 1) (eCons (eN tupleG (eCons (e2 addG (eCut (eVar 2) (some (eK (.int 1))) none) (eLst (eCons (eTup (eCons (e2 itemG (e2 itemG (eVar 2) (eK (.int 0))) (eK (.int 0))) (eCons (e2 itemG (e2 itemG (eVar 2) (eK (.int 0))) (eK (.int 1))) (eCons (eK (.str ("zzzz" : Str))) eNil)))) eNil))) eNil)) eNil))))
    [some o, some (sO c), some (shM ms), x3, x4, x5, x6, x7, x8, some (.lst os), x10, x11, x12, x13]
    = .nx [some o, some (sO c), some (shM ms), x3, x4, x5, x6, x7, x8, some (.lst (os ++ [actO c (srtM (altM ms))])), x10, x11, x12, x13] := by
  have hb' : os.length < big := by have : big = 1000000 := rfl; omega
  obtain ⟨m, r, e⟩ : ∃ m r, ms = m :: r := by
    cases ms with
    | nil => simp at h1
    | cons m r => exact ⟨m, r, rfl⟩
  have k := cut_tl h1 h4
  have i0 : atI (ms.map mvT) 0 = some (mvT m) := by rw [e]; exact at0
  have i1 : itemG (mvT m) (.int 0) = some (sO m.1) := rfl
  have i2 : itemG (mvT m) (.int 1) = some (sO m.2.1) := rfl
  have ad : addG (.lst ((ms.drop 1).map mvT)) (.lst [.tup [.str m.1, .str m.2.1, .str zz4]]) = some (OL ((altM ms).map mvT)) := by
    rw [addG_ll (by simp; omega), e]
    unfold altM
    rw [List.map_append]
    rfl
  have cu : eCut (eVar 2) (some (eK (.int 1))) none [some o, some (sO c), some (shM ms), x3, x4, x5, x6, x7, x8, some (.lst os), x10, x11, x12, x13] = .ok (OL ((ms.drop 1).map mvT)) [some o, some (sO c), some (shM ms), x3, x4, x5, x6, x7, x8, some (.lst os), x10, x11, x12, x13] := by
    rw [ev_eCut]
    show fin (cutG (.lst (ms.map mvT)) (some 1) none) _ = _
    rw [k]
    rfl
  generalize (ms.drop 1).map mvT = tl at cu ad
  have q := mk_at (fa := eCons (eVar 1) (eCons (eN tupleG (eCons (e2 addG (eCut (eVar 2) (some (eK (.int 1))) none) (eLst (eCons (eTup (eCons (e2 itemG (e2 itemG (eVar 2) (eK (.int 0))) (eK (.int 0))) (eCons (e2 itemG (e2 itemG (eVar 2) (eK (.int 0))) (eK (.int 1))) (eCons (eK (.str ("zzzz" : Str))) eNil)))) eNil))) eNil)) eNil)) (c := c) (ms := altM ms)
    (ρ := [some o, some (sO c), some (shM ms), x3, x4, x5, x6, x7, x8, some (.lst os), x10, x11, x12, x13]) (ρ' := [some o, some (sO c), some (shM ms), x3, x4, x5, x6, x7, x8, some (.lst os), x10, x11, x12, x13])
    (by
      have p0 : eVar 1 [some o, some (sO c), some (shM ms), x3, x4, x5, x6, x7, x8, some (.lst os), x10, x11, x12, x13] = .ok (sO c) [some o, some (sO c), some (shM ms), x3, x4, x5, x6, x7, x8, some (.lst os), x10, x11, x12, x13] := rfl
      rw [ev_eCons, p0, bind_ok, ev_eCons, ev_eN, ev_eCons, ev_e2, cu, bind_ok]
      simp [i0, i1, i2, ad, OL_toD]) hc (alt_ok h) (by rw [alt_len]; exact h1) (by rw [alt_len]; exact h4)
  rw [ev_sExpr, ev_eApp]
  show ((eMake 0 f_Action_init [none, none] _ _).bind _).then' _ = _
  rw [q]
  simp [hb']
theorem lr11 (hc : Wd c) (h : ∀ m ∈ ms, MvX m) (h1 : 1 ≤ ms.length) (h4 : ms.length ≤ 4) {os : List O} (hb : os.length < 1000) : ∃ X : O, Unl c (srtM ms) X.toD ∧
    sExpr (eApp 9 (eIf (eB (e2 gLt (eN lenG (eCons (eVar 2) eNil)) (eK (.int 4)))) (eMake 0 f_Action_init [none, none] (eCons (eVar 1) (eCons (eN tupleG (eCons (e2 addG (eVar 2) (eCut (eVar 2) none (some (eK (.int 1))))) eNil)) eNil))) (eK .non)))
    [some o, some (sO c), some (shM ms), x3, x4, x5, x6, x7, x8, some (.lst os), x10, x11, x12, x13]
    = .nx [some o, some (sO c), some (shM ms), x3, x4, x5, x6, x7, x8, some (.lst (os ++ [X])), x10, x11, x12, x13] := by
  have hb' : os.length < big := by have : big = 1000000 := rfl; omega
  have hM : ∀ m ∈ ms, MvOk m := fun m hm => (h m hm).ok
  by_cases h3 : ms.length < 4
  · refine ⟨actO c (srtM (lngM ms)), unl_act fun e => lng_ne h1 e.2, ?_⟩
    have h3' : (ms.length : Int) < 4 := by omega
    have k := cut_hd h1 h4
    have cu : eCut (eVar 2) none (some (eK (.int 1))) [some o, some (sO c), some (shM ms), x3, x4, x5, x6, x7, x8, some (.lst os), x10, x11, x12, x13] = .ok (OL ((ms.take 1).map mvT)) [some o, some (sO c), some (shM ms), x3, x4, x5, x6, x7, x8, some (.lst os), x10, x11, x12, x13] := by
      rw [ev_eCut]
      show fin (cutG (.lst (ms.map mvT)) none (some 1)) _ = _
      rw [k]
      rfl
    have ad : addG (.lst (ms.map mvT)) (.lst ((ms.take 1).map mvT)) = some (OL ((lngM ms).map mvT)) := by
      rw [addG_ll (by simp; omega)]
      unfold lngM
      rw [List.map_append]
    generalize (ms.take 1).map mvT = tl at cu ad
    have q := mk_at (fa := eCons (eVar 1) (eCons (eN tupleG (eCons (e2 addG (eVar 2) (eCut (eVar 2) none (some (eK (.int 1))))) eNil)) eNil)) (c := c) (ms := lngM ms)
      (ρ := [some o, some (sO c), some (shM ms), x3, x4, x5, x6, x7, x8, some (.lst os), x10, x11, x12, x13]) (ρ' := [some o, some (sO c), some (shM ms), x3, x4, x5, x6, x7, x8, some (.lst os), x10, x11, x12, x13])
      (by
        have p0 : eVar 1 [some o, some (sO c), some (shM ms), x3, x4, x5, x6, x7, x8, some (.lst os), x10, x11, x12, x13] = .ok (sO c) [some o, some (sO c), some (shM ms), x3, x4, x5, x6, x7, x8, some (.lst os), x10, x11, x12, x13] := rfl
        have p1 : eVar 2 [some o, some (sO c), some (shM ms), x3, x4, x5, x6, x7, x8, some (.lst os), x10, x11, x12, x13] = .ok (shM ms) [some o, some (sO c), some (shM ms), x3, x4, x5, x6, x7, x8, some (.lst os), x10, x11, x12, x13] := rfl
        rw [ev_eCons, p0, bind_ok, ev_eCons, ev_eN, ev_eCons, ev_e2, p1, bind_ok, cu, bind_ok]
        simp [ad, OL_toD]) hc (lng_ok hM) (by rw [lng_len h1]; omega) (by rw [lng_len h1]; omega)
    have c0 : (eB (e2 gLt (eN lenG (eCons (eVar 2) eNil)) (eK (.int 4)))) [some o, some (sO c), some (shM ms), x3, x4, x5, x6, x7, x8, some (.lst os), x10, x11, x12, x13] = .ok true [some o, some (sO c), some (shM ms), x3, x4, x5, x6, x7, x8, some (.lst os), x10, x11, x12, x13] := by simp [h3']
    rw [ev_sExpr, ev_eApp]
    show ((eIf _ _ _ _).bind _).then' _ = _
    rw [ev_eIf, c0, bind_ok, if_pos rfl, q]
    simp [hb']
  · refine ⟨.sh .non, ⟨rfl, eq_other rfl⟩, ?_⟩
    have h3' : ¬ (ms.length : Int) < 4 := by omega
    simp [h3', hb']
theorem lr12 {os : List O} {ds : List D} (td : toDs os = ds) (hb : ds.length < 1000) (hu : ∀ d ∈ ds, Unl c S d) :
    sIf (eB (e2 gNe (eLc (iSeq (eVar 9)) (tN 8) (tOr' (eB (e2 (g2 (gEqA t_Action_eq)) (eVar 4) (eVar 8))) (tNt (eB (e2 (g2 (gNeA t_Action_eq)) (eVar 4) (eVar 8))))) (eVar 8) [8]) (eLst eNil)))
      (sRet (eK (.bl false))) sNil
    [some o, x1, x2, x3, some (.sh (actD c S)), x5, x6, x7, none, some (.lst os), x10, x11, x12, x13]
    = .nx [some o, x1, x2, x3, some (.sh (actD c S)), x5, x6, x7, none, some (.sh (.lst ds)), x10, x11, x12, x13] := by
  have q := eLc_pure (i := 8) (fi := iSeq (eVar 9)) (tt := tOr' (eB (e2 (g2 (gEqA t_Action_eq)) (eVar 4) (eVar 8))) (tNt (eB (e2 (g2 (gNeA t_Action_eq)) (eVar 4) (eVar 8))))) (te := eVar 8)
    (ρ := [some o, x1, x2, x3, some (.sh (actD c S)), x5, x6, x7, none, some (.sh (.lst ds)), x10, x11, x12, x13]) (l := ds) (p := fun _ => false) (v := fun d => .sh d)
    rfl (.inl rfl) (fun d hd => by
      obtain ⟨r, e⟩ := hu d hd
      have n1 : g2 (gNeA t_Action_eq) (actD c S) d = some (bO true) := gNeA_a r e
      have n2 : g2 (gEqA t_Action_eq) (actD c S) d = some (bO false) := gEqA_a r e
      simp [n1, n2]) (fun d _ hp => by cases hp) (by have : big = 1000000 := rfl; omega)
  have m := eLc_mv (fi := iSeq (eVar 9)) (t := tN 8) (tt := tOr' (eB (e2 (g2 (gEqA t_Action_eq)) (eVar 4) (eVar 8))) (tNt (eB (e2 (g2 (gNeA t_Action_eq)) (eVar 4) (eVar 8))))) (te := eVar 8) (is := [8]) (l := ds)
    (ρ := [some o, x1, x2, x3, some (.sh (actD c S)), x5, x6, x7, none, some (.lst os), x10, x11, x12, x13])
    (ρ' := [some o, x1, x2, x3, some (.sh (actD c S)), x5, x6, x7, none, some (.sh (.lst ds)), x10, x11, x12, x13]) (by simp [td]) rfl
  have g : gNe (.lst []) (.lst []) = some (bO false) := gNe_l0
  have ef : ds.filter (fun _ => false) = [] := List.filter_eq_nil_iff.mpr (by simp)
  rw [ef] at q
  rw [ev_sIf, ev_eB, ev_e2, m, q]
  simp [g]
end
end Kx
end

section
set_option maxRecDepth 100000
set_option maxHeartbeats 4000000
open PySem PySem.Spec PyProof.Rows L2 G
namespace Kx
/-! all that is right -/
noncomputable abbrev rtA : Fs := sSet 11 (eCall f__law_wrong_line [some 0, none, none] (eLend 0 (eCons (eVar 1) (eCons (eVar 2) eNil))))
noncomputable abbrev rtB : Fs := sIf (eB (e2 gNe (eLam hs__law_met fin__law_met (eCmth 0 f_Action_from_line [none] (eCons (eVar 11) eNil))) (eK (.str ("parse None" : Str)))))
  (sRet (eK (.bl false)))
  sNil
section
variable {o : O} {c L : Str} {ms S : List Mv} {x1 x2 x3 x4 x5 x6 x7 x8 x9 x10 x11 x12 x13 : Option O}
theorem rt_turn {k : Nat} (ht : Tp k o) (hk : k + 10 < 2 ^ 39) (hc : Wd c) (h : ∀ m ∈ ms, MvOk m) (h1 : 1 ≤ ms.length) (h4 : ms.length ≤ 4) : ∃ o' y, Tp (k + 1) o' ∧
    sSeq rtA rtB [some o, some (sO c), some (shM ms), x3, x4, x5, x6, x7, x8, x9, x10, x11, x12, x13] = .nx [some o', some (sO c), some (shM ms), x3, x4, x5, x6, x7, x8, x9, x10, y, x12, x13] := by
  obtain ⟨d, o', e, hd, t⟩ := wrong_line ht hk hc h h1 h4
  refine ⟨o', some (.sh d), t, ?_⟩
  have s1 : rtA [some o, some (sO c), some (shM ms), x3, x4, x5, x6, x7, x8, x9, x10, x11, x12, x13] = .nx [some o', some (sO c), some (shM ms), x3, x4, x5, x6, x7, x8, x9, x10, some (.sh d), x12, x13] := by
    simp [e]
  have s2 := lam_no (fa := eCons (eVar 11) eNil) (d := d) (ρ := [some o', some (sO c), some (shM ms), x3, x4, x5, x6, x7, x8, x9, x10, some (.sh d), x12, x13]) (ρ' := [some o', some (sO c), some (shM ms), x3, x4, x5, x6, x7, x8, x9, x10, some (.sh d), x12, x13]) (by simp) hd
  rw [ev_sSeq, s1]
  show rtB _ = _
  unfold rtB
  rw [ev_sIf, ev_eB, ev_e2, s2]
  simp
theorem rt_loop (hc : Wd c) (h : ∀ m ∈ ms, MvOk m) (h1 : 1 ≤ ms.length) (h4 : ms.length ≤ 4) : ∀ (n i k : Nat) (o : O) (x10 x11 : Option O), Tp k o → k + n + 10 < 2 ^ 39 → ∃ o' y10 y11, Tp (k + n) o' ∧
    forG (tN 10) (sSeq rtA rtB) ((List.range' i n).map fun (k : Nat) => D.int k) [some o, some (sO c), some (shM ms), x3, x4, x5, x6, x7, x8, x9, x10, x11, x12, x13] = .nx [some o', some (sO c), some (shM ms), x3, x4, x5, x6, x7, x8, x9, y10, y11, x12, x13]
  | 0, i, k, o, x10, x11, ht, hk => ⟨o, x10, x11, ht, rfl⟩
  | n + 1, i, k, o, x10, x11, ht, hk => by
    obtain ⟨o1, y, t1, q1⟩ := rt_turn (x3 := x3) (x4 := x4) (x5 := x5) (x6 := x6) (x7 := x7) (x8 := x8) (x9 := x9) (x10 := some (iO i)) (x11 := x11) (x12 := x12) (x13 := x13) ht (by omega) hc h h1 h4
    obtain ⟨o', y10, y11, t', q'⟩ := rt_loop hc h h1 h4 n (i + 1) (k + 1) o1 (some (iO i)) y t1 (by omega)
    refine ⟨o', y10, y11, by rw [show k + (n + 1) = k + 1 + n by omega]; exact t', ?_⟩
    rw [List.range'_succ, List.map_cons]
    unfold forG
    have et : tN 10 (.int i) [some o, some (sO c), some (shM ms), x3, x4, x5, x6, x7, x8, x9, x10, x11, x12, x13] = some [some o, some (sO c), some (shM ms), x3, x4, x5, x6, x7, x8, x9, some (iO i), x11, x12, x13] := by simp
    rw [et]
    dsimp only
    rw [q1]
    exact q'
theorem rt_for {k : Nat} (ht : Tp k o) (hk : k + 20 < 2 ^ 39) (hc : Wd c) (h : ∀ m ∈ ms, MvOk m) (h1 : 1 ≤ ms.length) (h4 : ms.length ≤ 4) : ∃ o' y10 y11, Tp (k + 4) o' ∧
    sFor (iRng1 (eK (.int 4))) (tN 10) (sSeq rtA rtB) [some o, some (sO c), some (shM ms), x3, x4, x5, x6, x7, x8, x9, x10, x11, x12, x13] = .nx [some o', some (sO c), some (shM ms), x3, x4, x5, x6, x7, x8, x9, y10, y11, x12, x13] := by
  obtain ⟨o', y10, y11, t', q'⟩ := rt_loop (x3 := x3) (x4 := x4) (x5 := x5) (x6 := x6) (x7 := x7) (x8 := x8) (x9 := x9) (x12 := x12) (x13 := x13) hc h h1 h4 4 0 k o x10 x11 ht (by omega)
  refine ⟨o', y10, y11, t', ?_⟩
  have f : iRng1 (eK (.int 4)) [some o, some (sO c), some (shM ms), x3, x4, x5, x6, x7, x8, x9, x10, x11, x12, x13] = .ok ((List.range' 0 4).map fun (k : Nat) => D.int k) [some o, some (sO c), some (shM ms), x3, x4, x5, x6, x7, x8, x9, x10, x11, x12, x13] := by
    have : sm 4 = true := by decide
    simp only [ev_iRng1, eK, bind_ok, sh_toD, intD_int, this, if_true]
    rfl
  rw [ev_sFor, f]
  simp only [then_ok]
  exact q'
theorem lr13 {k : Nat} (ht : Tp k o) (hk : k + 20 < 2 ^ 39) (hc : Wd c) (h : ∀ m ∈ ms, MvOk m) (h1 : 1 ≤ ms.length) (h4 : ms.length ≤ 4) : ∃ o' n b, Tp (k + 2) o' ∧ (okD n = true ∧ isnD n = false) ∧ (okMs b = true ∧ msD b = false) ∧
    sUnp (tT 2 (tsCons (tN 12) (tsCons (tN 13) tsNil))) (eTup (eCons (eCall f__law_pick [some 0, none] (eLend 0 (eCons (eLst (eCons (eK .non) (eCons (eK (.int 5)) (eCons (eK (.str ("" : Str))) (eCons (eK (.str ("A" : Str))) (eCons (e2 addG (eVar 1) (eK (.str (" " : Str)))) (eCons (eK (.str ("zzzzzzzzz" : Str))) (eCons (eTup (eCons (eVar 1) eNil)) eNil)))))))) eNil))) (eCons (eCall f__law_wrong_moves [some 0, none] (eLend 0 (eCons (eVar 2) eNil))) eNil)))
    [some o, some (sO c), some (shM ms), x3, x4, x5, x6, x7, x8, x9, x10, x11, x12, x13] = .nx [some o', some (sO c), some (shM ms), x3, x4, x5, x6, x7, x8, x9, x10, x11, some (.sh n), some (.sh b)] := by
  obtain ⟨n, o1, en, hn, t1⟩ := pick_l (l := nmsBad c) ht (by omega) (by simp [nmsBad]) (by simp [nmsBad])
  obtain ⟨b, o2, eb, hb, t2⟩ := wrong_moves t1 (by omega) h h1 h4
  refine ⟨o2, n, b, t2, nms_no hc hn, hb, ?_⟩
  have a1 : addG (.str c) (.str sp) = some (sO (c ++ sp)) := cat_s (by rw [sp_len]; have := hc.2.1; omega)
  have en' : f__law_pick [o, .lst [.sh .non, iO 5, sO (Str.ofString ""), sO (Str.ofString "A"), sO (c ++ sp), sO (Str.ofString "zzzzzzzzz"), .sh (.tup [.str c])]] = .ok (.sh n) [some o1, none] := en
  have p1 : eCall f__law_pick [some 0, none] (eLend 0 (eCons (eLst (eCons (eK .non) (eCons (eK (.int 5)) (eCons (eK (.str ("" : Str))) (eCons (eK (.str ("A" : Str))) (eCons (e2 addG (eVar 1) (eK (.str (" " : Str)))) (eCons (eK (.str ("zzzzzzzzz" : Str))) (eCons (eTup (eCons (eVar 1) eNil)) eNil)))))))) eNil))
      [some o, some (sO c), some (shM ms), x3, x4, x5, x6, x7, x8, x9, x10, x11, x12, x13] = .ok (.sh n) [some o1, some (sO c), some (shM ms), x3, x4, x5, x6, x7, x8, x9, x10, x11, x12, x13] := by
    simp [a1, en']
  rw [ev_sUnp, ev_eTup, ev_eCons, p1, bind_ok]
  simp [eb]
theorem lr14 {n b : D} (hn : okD n = true ∧ isnD n = false) : sSet 5 (eLst (eCons (eLam hs__law_met fin__law_met (eMake 0 f_Action_init [none, none] (eCons (eVar 12) (eCons (eVar 13) eNil)))) eNil))
    [some o, x1, x2, x3, x4, x5, x6, x7, x8, x9, x10, x11, some (.sh n), some (.sh b)] = .nx [some o, x1, x2, x3, x4, some (.lst [sO (Str.ofString "name")]), x6, x7, x8, x9, x10, x11, some (.sh n), some (.sh b)] := by
  have q := lam_mk (fa := eCons (eVar 12) (eCons (eVar 13) eNil)) (n := n) (m := b) (ρ := [some o, x1, x2, x3, x4, x5, x6, x7, x8, x9, x10, x11, some (.sh n), some (.sh b)]) (ρ' := [some o, x1, x2, x3, x4, x5, x6, x7, x8, x9, x10, x11, some (.sh n), some (.sh b)]) (by simp) (init_no1 hn.1 hn.2) say0
  rw [ev_sSet, ev_eLst, ev_eCons, q]
  simp
theorem lr15 {n b : D} (hc : Wd c) (hb : okMs b = true ∧ msD b = false) : sExpr (eApp 5 (eLam hs__law_met fin__law_met (eMake 0 f_Action_init [none, none] (eCons (eVar 1) (eCons (eVar 13) eNil)))))
    [some o, some (sO c), x2, x3, x4, some (.lst [sO (Str.ofString "name")]), x6, x7, x8, x9, x10, x11, some (.sh n), some (.sh b)] = .nx [some o, some (sO c), x2, x3, x4, some (.lst [sO (Str.ofString "name"), sO (Str.ofString "action")]), x6, x7, x8, x9, x10, x11, some (.sh n), some (.sh b)] := by
  have q := lam_mk (fa := eCons (eVar 1) (eCons (eVar 13) eNil)) (n := .str c) (m := b) (ρ := [some o, some (sO c), x2, x3, x4, some (.lst [sO (Str.ofString "name")]), x6, x7, x8, x9, x10, x11, some (.sh n), some (.sh b)]) (ρ' := [some o, some (sO c), x2, x3, x4, some (.lst [sO (Str.ofString "name")]), x6, x7, x8, x9, x10, x11, some (.sh n), some (.sh b)]) (by simp) (init_no2 (wd_ok hc) (nmB_wd.mpr hc) hb.1 hb.2) say1
  have hbig : 1 < big := by decide
  rw [ev_sExpr, ev_eApp]
  show ((eLam _ _ _ _).bind _).then' _ = _
  rw [q]
  simp [hbig]
theorem lr16 : sRet (e2w 5 gEq (eLst (eCons (eK (.str ("name" : Str))) (eCons (eK (.str ("action" : Str))) eNil))))
    [some o, x1, x2, x3, x4, some (.lst [sO (Str.ofString "name"), sO (Str.ofString "action")]), x6, x7, x8, x9, x10, x11, x12, x13] = .ret (bO true) [some o, x1, x2, x3, x4, some (.lst [sO (Str.ofString "name"), sO (Str.ofString "action")]), x6, x7, x8, x9, x10, x11, x12, x13] := by
  have g := gEq_ll (ys := [Str.ofString "name", Str.ofString "action"])
  simp only [List.map_cons, List.map_nil] at g
  simp [g]
end
theorem law_right {k : Nat} {o : O} (ht : Tp k o) (hk : k + 10000 < 2 ^ 39) : ∃ o', Tp (k + 300) o' ∧ f__law_right [o] = .ok (bO true) [some o'] := by
  obtain ⟨c, ms, o1, hcx, h1, h4, hx, t1, s1⟩ := lr1 ht (by omega)
  have hc : Wd c := hcx.1
  have h : ∀ m ∈ ms, MvOk m := fun m hm => (hx m hm).ok
  obtain ⟨S, eS⟩ : ∃ S, S = srtM ms := ⟨_, rfl⟩
  have hl : S.length = ms.length := by rw [eS]; exact (srtM_perm ms).length_eq
  have hs : ∀ m ∈ S, MvOk m := fun m hm => h m (by rw [eS] at hm; exact (srtM_perm ms).mem_iff.mp hm)
  have s3 := lr3 (o := o1) (x3 := none) (x4 := none) (x5 := none) (x6 := none) (x7 := none) (x8 := none) (x9 := none) (x10 := none) (x11 := none) (x12 := none) (x13 := none) hc h h4
  rw [← eS] at s3
  have s4 := lr4 (o := o1) (x3 := some (sO (lineOf c S))) (x4 := none) (x5 := none) (x6 := none) (x7 := none) (x8 := none) (x9 := none) (x10 := none) (x11 := none) (x12 := none) (x13 := none) hc h h1 h4
  rw [← eS] at s4
  have s5 := lr5 (o := o1) (S := S) (x1 := some (sO c)) (x2 := some (shM ms)) (x3 := some (sO (lineOf c S))) (x5 := none) (x6 := none) (x7 := none) (x8 := none) (x9 := none) (x10 := none) (x11 := none) (x12 := none) (x13 := none) hc hs (by omega) (by omega)
  have s6 := lr6 (o := o1) (c := c) (L := lineOf c S) (S := S) (x4 := some (.sh (actD c S))) (x7 := none) (x8 := none) (x9 := none) (x10 := none) (x11 := none) (x12 := none) (x13 := none) eS h4
  obtain ⟨o2, t2, s7⟩ := lr7 (S := S) (x4 := some (.sh (actD c S))) (x5 := some (.lst [sO c, tuM S, .sh (ownS S), iO S.length, sO (lineOf c S)])) (x6 := none) (x7 := none) (x8 := none) (x9 := none) (x10 := none) (x11 := none) (x12 := none) (x13 := none) t1 (by omega) hc h h1 h4 eS
  have s8 := lr8 (o := o2) (S := S) (x1 := some (sO c)) (x2 := some (shM ms)) (x5 := some (.lst [sO c, tuM S, .sh (ownS S), iO S.length, sO (lineOf c S)])) (x6 := none) (x9 := none) (x10 := none) (x11 := none) (x12 := none) (x13 := none) hc hs (by omega)
  have s9 := lr9 (o := o2) (L := lineOf c S) (x4 := some (.sh (actD c S))) (x5 := some (.lst [sO c, tuM S, .sh (ownS S), iO S.length, sO (lineOf c S)])) (x6 := none) (x7 := some (.sh (.lst [actD c S, actD c S]))) (x8 := none) (x9 := none) (x10 := none) (x11 := none) (x12 := none) (x13 := none) hc h h1 h4
  rw [← eS] at s9
  have s10 := lr10 (o := o2) (x3 := some (sO (lineOf c S))) (x4 := some (.sh (actD c S))) (x5 := some (.lst [sO c, tuM S, .sh (ownS S), iO S.length, sO (lineOf c S)])) (x6 := none) (x7 := some (.sh (.lst [actD c S, actD c S]))) (x8 := none) (x10 := none) (x11 := none) (x12 := none) (x13 := none) hc h h1 h4 (os := [actO (othN c) S, sO (lineOf c S), .sh .non, .sh (.tup [.str c, .tup (ms.map mvT)])]) (by simp)
  obtain ⟨X, hX, s11⟩ := lr11 (o := o2) (x3 := some (sO (lineOf c S))) (x4 := some (.sh (actD c S))) (x5 := some (.lst [sO c, tuM S, .sh (ownS S), iO S.length, sO (lineOf c S)])) (x6 := none) (x7 := some (.sh (.lst [actD c S, actD c S]))) (x8 := none) (x10 := none) (x11 := none) (x12 := none) (x13 := none) hc hx h1 h4 (os := [actO (othN c) S, sO (lineOf c S), .sh .non, .sh (.tup [.str c, .tup (ms.map mvT)])] ++ [actO c (srtM (altM ms))]) (by simp)
  rw [← eS] at hX
  have hu : ∀ d ∈ [actD (othN c) S, .str (lineOf c S), .non, .tup [.str c, .tup (ms.map mvT)], actD c (srtM (altM ms)), X.toD], Unl c S d := fun d hd => by
    simp only [List.mem_cons, List.not_mem_nil, or_false] at hd
    rcases hd with rfl | rfl | rfl | rfl | rfl | rfl
    · exact unl_act fun q => oth_ne c q.1
    · exact ⟨rfl, eq_other rfl⟩
    · exact ⟨rfl, eq_other rfl⟩
    · exact ⟨rfl, eq_other rfl⟩
    · exact unl_act fun q => alt_ne hx h1 (by rw [← eS]; exact q.2)
    · exact hX
  have s12 := lr12 (o := o2) (c := c) (S := S) (x1 := some (sO c)) (x2 := some (shM ms)) (x3 := some (sO (lineOf c S))) (x5 := some (.lst [sO c, tuM S, .sh (ownS S), iO S.length, sO (lineOf c S)])) (x6 := none) (x7 := some (.sh (.lst [actD c S, actD c S]))) (x10 := none) (x11 := none) (x12 := none) (x13 := none)
    (os := [actO (othN c) S, sO (lineOf c S), .sh .non, .sh (.tup [.str c, .tup (ms.map mvT)])] ++ [actO c (srtM (altM ms))] ++ [X]) (ds := [actD (othN c) S, .str (lineOf c S), .non, .tup [.str c, .tup (ms.map mvT)], actD c (srtM (altM ms)), X.toD]) rfl (by simp) hu
  obtain ⟨o3, y10, y11, t3, s13⟩ := rt_for (o := o2) (x3 := some (sO (lineOf c S))) (x4 := some (.sh (actD c S))) (x5 := some (.lst [sO c, tuM S, .sh (ownS S), iO S.length, sO (lineOf c S)])) (x6 := none) (x7 := some (.sh (.lst [actD c S, actD c S]))) (x8 := none) (x9 := some (.sh (.lst [actD (othN c) S, .str (lineOf c S), .non, .tup [.str c, .tup (ms.map mvT)], actD c (srtM (altM ms)), X.toD]))) (x10 := none) (x11 := none) (x12 := none) (x13 := none) t2 (by omega) hc h h1 h4
  obtain ⟨o4, n, b, t4, hn, hb, s14⟩ := lr13 (o := o3) (x3 := some (sO (lineOf c S))) (x4 := some (.sh (actD c S))) (x5 := some (.lst [sO c, tuM S, .sh (ownS S), iO S.length, sO (lineOf c S)])) (x6 := none) (x7 := some (.sh (.lst [actD c S, actD c S]))) (x8 := none) (x9 := some (.sh (.lst [actD (othN c) S, .str (lineOf c S), .non, .tup [.str c, .tup (ms.map mvT)], actD c (srtM (altM ms)), X.toD]))) (x10 := y10) (x11 := y11) (x12 := none) (x13 := none) t3 (by omega) hc h h1 h4
  refine ⟨o4, t4.up (by omega), ?_⟩
  obtain ⟨x1, x2, x3, x4, x5, x6, x7, x8, x9, x10, x11, x12, x13, sb⟩ : ∃ x1 x2 x3 x4 x5 x6 x7 x8 x9 x10 x11 x12 x13, b__law_right [some o, none, none, none, none, none, none, none, none, none, none, none, none, none] = .ret (bO true) [some o4, x1, x2, x3, x4, x5, x6, x7, x8, x9, x10, x11, x12, x13] := by
    refine ⟨_, _, _, _, _, _, _, _, _, _, _, _, _, Eq.trans ?_ (lr16 (o := o4) (x1 := some (sO c)) (x2 := some (shM ms)) (x3 := some (sO (lineOf c S))) (x4 := some (.sh (actD c S))) (x6 := none) (x7 := some (.sh (.lst [actD c S, actD c S]))) (x8 := none) (x9 := some (.sh (.lst [actD (othN c) S, .str (lineOf c S), .non, .tup [.str c, .tup (ms.map mvT)], actD c (srtM (altM ms)), X.toD]))) (x10 := y10) (x11 := y11) (x12 := some (.sh n)) (x13 := some (.sh b)))⟩
    unfold b__law_right
    rw [ev_sSeq, s1]
    show sSeq _ _ _ = _
    rw [ev_sSeq, s3]
    show sSeq _ _ _ = _
    rw [ev_sSeq, s4]
    show sSeq _ _ _ = _
    rw [ev_sSeq, s5]
    show sSeq _ _ _ = _
    rw [ev_sSeq, s6]
    show sSeq _ _ _ = _
    rw [ev_sSeq, s7]
    show sSeq _ _ _ = _
    rw [ev_sSeq, s8]
    show sSeq _ _ _ = _
    rw [ev_sSeq, s9]
    show sSeq _ _ _ = _
    rw [ev_sSeq, s10]
    show sSeq _ _ _ = _
    rw [ev_sSeq, s11]
    show sSeq _ _ _ = _
    rw [ev_sSeq, s12]
    show sSeq _ _ _ = _
    rw [ev_sSeq, s13]
    show sSeq _ _ _ = _
    rw [ev_sSeq, s14]
    show sSeq _ _ _ = _
    rw [ev_sSeq, lr14 hn]
    show sSeq _ _ _ = _
    rw [ev_sSeq, lr15 hc hb]
  unfold f__law_right
  rw [fnG_eq]
  show (match b__law_right [some o, none, none, none, none, none, none, none, none, none, none, none, none, none] with | .nx ρ => _ | .ret o ρ => _ | .exc x ρ => _ | _ => _) = _
  rw [sb]
  rfl
end Kx
end

section
set_option maxRecDepth 100000
set_option maxHeartbeats 4000000
open PySem PySem.Spec PyProof.Rows L2 G
namespace Kx
/-! the law -/
abbrev LF : Env' → Out (List D) := iRng1 (eN maxG (eCons (eK (.int 1)) (eCons (eN minG (eCons (eK (.int 8)) (eCons (eN lenG (eCons (eVar 0) eNil)) eNil))) eNil)))
noncomputable abbrev LB : Fs := (sSeq (sSet 2 (eCall f__law_tape [none, none] (eCons (eVar 0) (eCons (eVar 1) eNil))))
  (sIf (tOr' (tNt (eTru (eCall f__law_right [some 2] (eLend 2 eNil)))) (tNt (eTru (eCall f__law_right [some 2] (eLend 2 eNil)))))
  (sRet (eK (.bl false)))
  sNil))
theorem law_turn {ns : List Int} {j : Nat} (hj : j < 64) {x2 x3 x4 : Option O} : ∃ y2 : Option O, LB [some (.sh (.lst (ns.map D.int))), some (iO j), x2, x3, x4] = .nx [some (.sh (.lst (ns.map D.int))), some (iO j), y2, x3, x4] := by
  obtain ⟨o, e0, t0⟩ := tape (ns := ns) hj
  obtain ⟨o1, t1, q1⟩ := law_right t0 (by decide)
  obtain ⟨o2, t2, q2⟩ := law_right t1 (by decide)
  refine ⟨some o2, ?_⟩
  unfold LB
  simp [e0, q1, q2]
theorem law_loop {ns : List Int} : ∀ (n i : Nat), i + n ≤ 64 → ∀ (x1 x2 x3 x4 : Option O), ∃ y1 y2 : Option O, forG (tN 1) LB ((List.range' i n).map fun (k : Nat) => D.int k) [some (.sh (.lst (ns.map D.int))), x1, x2, x3, x4]
    = .nx [some (.sh (.lst (ns.map D.int))), y1, y2, x3, x4]
  | 0, i, _, x1, x2, x3, x4 => ⟨x1, x2, rfl⟩
  | n + 1, i, h, x1, x2, x3, x4 => by
    obtain ⟨y2, e⟩ := law_turn (ns := ns) (j := i) (by omega) (x2 := x2) (x3 := x3) (x4 := x4)
    obtain ⟨z1, z2, e'⟩ := law_loop (ns := ns) n (i + 1) (by omega) (some (iO i)) y2 x3 x4
    refine ⟨z1, z2, ?_⟩
    rw [List.range'_succ, List.map_cons]
    unfold forG
    have et : tN 1 (.int i) [some (.sh (.lst (ns.map D.int))), x1, x2, x3, x4] = some [some (.sh (.lst (ns.map D.int))), some (iO i), x2, x3, x4] := by simp
    rw [et]
    dsimp only
    rw [e]
    exact e'
/-! the written action -/
abbrev kinM : Mv := (Str.ofString "kin", Str.ofString "s", Str.ofString "t")
abbrev annM : Mv := (Str.ofString "ann", Str.ofString "s", Str.ofString "s")
abbrev swp : Str := Str.ofString "swap"
theorem swp_wd : Wd swp := wd_of (by decide +kernel)
theorem kin_ok : MvOk kinM := ⟨wd_of (by decide +kernel), wd_of (by decide +kernel), wd_of (by decide +kernel)⟩
theorem ann_ok : MvOk annM := ⟨wd_of (by decide +kernel), wd_of (by decide +kernel), wd_of (by decide +kernel)⟩
theorem chr_kin : (Str.ofString "kin").cps.toList = [107, 105, 110] := by decide +kernel
theorem chr_ann : (Str.ofString "ann").cps.toList = [97, 110, 110] := by decide +kernel
theorem chr_s : (Str.ofString "s").cps.toList = [115] := by decide +kernel
theorem chr_t : (Str.ofString "t").cps.toList = [116] := by decide +kernel
theorem le_ak : leM annM kinM = true := by
  show (!lexLt itemOrd (W.keyToks (mvT kinM).enc) (W.keyToks (mvT annM).enc)) = true
  rw [toksM, toksM, chr_kin, chr_ann, chr_s, chr_t, Bool.not_eq_true', lex_self, lex_cons]
  rfl
theorem le_kk : leM kinM kinM = true := by
  have := leM_to kinM kinM
  simpa using this
theorem srt3 : srtM [kinM, annM, kinM] = [annM, kinM, kinM] := srtM_eq (List.Perm.swap _ _ _) (by
  simp only [List.pairwise_cons, List.mem_cons, List.not_mem_nil, or_false]
  refine ⟨fun x hx => ?_, fun x hx => ?_, fun x hx => (by cases hx), List.Pairwise.nil⟩
  · rcases hx with rfl | rfl <;> exact le_ak
  · rw [hx]; exact le_kk)
theorem srt2 : srtM [kinM, annM] = [annM, kinM] := srtM_eq (List.Perm.swap _ _ _) (by
  simp only [List.pairwise_cons, List.mem_cons, List.not_mem_nil, or_false]
  refine ⟨fun x hx => ?_, fun x hx => (by cases hx), List.Pairwise.nil⟩
  rw [hx]; exact le_ak)
theorem two_ok : ∀ m ∈ [kinM, annM, kinM], MvOk m := fun m hm => by
  simp only [List.mem_cons, List.not_mem_nil, or_false] at hm
  rcases hm with rfl | rfl | rfl
  · exact kin_ok
  · exact ann_ok
  · exact kin_ok
abbrev T3 : List Mv := [annM, kinM, kinM]
theorem T3_ok : ∀ m ∈ T3, MvOk m := fun m hm => by
  simp only [List.mem_cons, List.not_mem_nil, or_false] at hm
  rcases hm with rfl | rfl | rfl
  · exact ann_ok
  · exact kin_ok
  · exact kin_ok
theorem T3_line : VLine swp T3 := ⟨swp_wd, T3_ok, by decide, by decide, by
  have := srtM_idem [kinM, annM, kinM]
  rw [srt3] at this
  exact this⟩
theorem line3 : lineOf swp T3 = Str.ofString "swap ann s s, kin s t, kin s t" := by decide +kernel
theorem line2 : Str.ofString "swap kin s t, ann s s" = lineOf swp [kinM, annM] := by decide +kernel
theorem own3 : ownS T3 = .tup [.str (Str.ofString "ann"), .str (Str.ofString "kin")] := by
  have e : GS.dl (T3.map (·.1)) = [Str.ofString "ann", Str.ofString "kin"] := by decide +kernel
  have s : srtS [Str.ofString "ann", Str.ofString "kin"] = [Str.ofString "ann", Str.ofString "kin"] := by
    unfold srtS
    refine List.mergeSort_of_pairwise ?_
    simp only [List.pairwise_cons, List.mem_cons, List.not_mem_nil, or_false]
    refine ⟨fun x hx => ?_, fun x hx => (by cases hx), List.Pairwise.nil⟩
    rw [hx]
    show (!lexLt itemOrd (W.keyToks (D.str (Str.ofString "kin")).enc) (W.keyToks (D.str (Str.ofString "ann")).enc)) = true
    have t1 : W.keyToks (D.str (Str.ofString "kin")).enc = [.inr (Str.ofString "kin").cps.toList] := rfl
    have t2 : W.keyToks (D.str (Str.ofString "ann")).enc = [.inr (Str.ofString "ann").cps.toList] := rfl
    rw [t1, t2, chr_kin, chr_ann]
    rfl
  unfold ownS
  rw [e, s]
  rfl
theorem swap_no : f_Action_from_line [.sh (.cl 0), .sh (.str (Str.ofString "swap kin s t, ann s s"))] = noLine := by
  rw [line2]
  have ok : ∀ m ∈ [kinM, annM], MvOk m := fun m hm => by
    simp only [List.mem_cons, List.not_mem_nil, or_false] at hm
    rcases hm with rfl | rfl
    · exact kin_ok
    · exact ann_ok
  have l := line_len swp_wd ok
  refine from_nl (by simp at l; omega) (nl_line swp_wd ok (by simp) (.inl ?_))
  rw [srt2]
  decide +kernel
section
variable {x0 x1 x2 x3 x4 : Option O}
theorem le1 : sSet 3 (eMake 0 f_Action_init [none, none] (eCons (eK (.str ("swap" : Str))) (eCons (eTup (eCons (eTup (eCons (eK (.str ("kin" : Str))) (eCons (eK (.str ("s" : Str))) (eCons (eK (.str ("t" : Str))) eNil)))) (eCons (eTup (eCons (eK (.str ("ann" : Str))) (eCons (eK (.str ("s" : Str))) (eCons (eK (.str ("s" : Str))) eNil)))) (eCons (eTup (eCons (eK (.str ("kin" : Str))) (eCons (eK (.str ("s" : Str))) (eCons (eK (.str ("t" : Str))) eNil)))) eNil)))) eNil)))
    [x0, x1, x2, x3, x4] = .nx [x0, x1, x2, some (actO swp T3), x4] := by
  have q := mk_at (fa := eCons (eK (.str ("swap" : Str))) (eCons (eTup (eCons (eTup (eCons (eK (.str ("kin" : Str))) (eCons (eK (.str ("s" : Str))) (eCons (eK (.str ("t" : Str))) eNil)))) (eCons (eTup (eCons (eK (.str ("ann" : Str))) (eCons (eK (.str ("s" : Str))) (eCons (eK (.str ("s" : Str))) eNil)))) (eCons (eTup (eCons (eK (.str ("kin" : Str))) (eCons (eK (.str ("s" : Str))) (eCons (eK (.str ("t" : Str))) eNil)))) eNil)))) eNil))
    (c := swp) (ms := [kinM, annM, kinM]) (ρ := [x0, x1, x2, x3, x4]) (ρ' := [x0, x1, x2, x3, x4]) rfl swp_wd two_ok (by decide) (by decide)
  rw [srt3] at q
  rw [ev_sSet, q]
  simp
noncomputable abbrev told5 : List O := [sO (lineOf swp T3), .sh (ownS T3), iO 3, iO 4, bO true]
theorem le2 : sSet 4 (eLst (eCons (e1 (g1 (gStrA t_Action_str)) (eVar 3)) (eCons (ePrp t_Action_owners (eVar 3)) (eCons (e1 (g1 (gLenA t_Action_len)) (eVar 3)) (eCons (eK (.int 4)) (eCons (e2 (g2 (gEqA t_Action_eq)) (eCmth 0 f_Action_from_line [none] (eCons (e1 (g1 (gStrA t_Action_str)) (eVar 3)) eNil)) (eVar 3)) eNil))))))
    [x0, x1, x2, some (actO swp T3), x4] = .nx [x0, x1, x2, some (.sh (actD swp T3)), some (.lst told5)] := by
  have q1 := gStrA_a swp_wd T3_ok (by decide)
  have q2 : ePrp t_Action_owners (eVar 3) [x0, x1, x2, some (.sh (actD swp T3)), x4] = .ok (.sh (ownS T3)) [x0, x1, x2, some (.sh (actD swp T3)), x4] := prp_at (ps := []) rfl (owners_act (by decide) (by decide))
  have q3 : g1 (gLenA t_Action_len) (actD swp T3) = some (iO 3) := gLenA_a (by decide)
  have a : f_Action_eq [.sh (actD swp T3), .sh (actD swp T3)] = .ok (bO true) [none, none] := by
    have := eq_act (c := swp) (c' := swp) (ms := T3) (ns := T3)
    simpa using this
  have q4 : g2 (gEqA t_Action_eq) (actD swp T3) (actD swp T3) = some (bO true) := gEqA_a rfl a
  have p1 : (e1 (g1 (gStrA t_Action_str)) (eVar 3)) [x0, x1, x2, some (actO swp T3), x4] = .ok (sO (lineOf swp T3)) [x0, x1, x2, some (.sh (actD swp T3)), x4] := by
    have v : eVar 3 [x0, x1, x2, some (actO swp T3), x4] = .ok (.sh (actD swp T3)) [x0, x1, x2, some (.sh (actD swp T3)), x4] := rfl
    rw [ev_e1, v, bind_ok]
    show fin (g1 (gStrA t_Action_str) (actD swp T3)) _ = _
    rw [q1]
    rfl
  have v : eVar 3 [x0, x1, x2, some (.sh (actD swp T3)), x4] = .ok (.sh (actD swp T3)) [x0, x1, x2, some (.sh (actD swp T3)), x4] := rfl
  have p2 : (e1 (g1 (gStrA t_Action_str)) (eVar 3)) [x0, x1, x2, some (.sh (actD swp T3)), x4] = .ok (sO (lineOf swp T3)) [x0, x1, x2, some (.sh (actD swp T3)), x4] := by
    rw [ev_e1, v, bind_ok]
    show fin (g1 (gStrA t_Action_str) (actD swp T3)) _ = _
    rw [q1]
    rfl
  have p3 : (e1 (g1 (gLenA t_Action_len)) (eVar 3)) [x0, x1, x2, some (.sh (actD swp T3)), x4] = .ok (iO 3) [x0, x1, x2, some (.sh (actD swp T3)), x4] := by
    rw [ev_e1, v, bind_ok]
    show fin (g1 (gLenA t_Action_len) (actD swp T3)) _ = _
    rw [q3]
    rfl
  have p4 := fl_at (fa := eCons (e1 (g1 (gStrA t_Action_str)) (eVar 3)) eNil) (ρ := [x0, x1, x2, some (.sh (actD swp T3)), x4]) (ρ' := [x0, x1, x2, some (.sh (actD swp T3)), x4]) (d := .str (lineOf swp T3)) (by rw [ev_eCons, p2]; rfl) (from_good T3_line)
  have p5 : (e2 (g2 (gEqA t_Action_eq)) (eCmth 0 f_Action_from_line [none] (eCons (e1 (g1 (gStrA t_Action_str)) (eVar 3)) eNil)) (eVar 3)) [x0, x1, x2, some (.sh (actD swp T3)), x4] = .ok (bO true) [x0, x1, x2, some (.sh (actD swp T3)), x4] := by
    rw [ev_e2, p4, bind_ok, v, bind_ok]
    show fin (g2 (gEqA t_Action_eq) (actD swp T3) (actD swp T3)) _ = _
    rw [q4]
    rfl
  rw [ev_sSet, ev_eLst, ev_eCons, p1, bind_ok, ev_eCons, q2, bind_ok, ev_eCons, p3, bind_ok, ev_eCons]
  have pk : eK (.int 4) [x0, x1, x2, some (.sh (actD swp T3)), x4] = .ok (iO 4) [x0, x1, x2, some (.sh (actD swp T3)), x4] := rfl
  rw [pk, bind_ok, ev_eCons, p5, bind_ok]
  rfl
theorem le3 : sExpr (eApp 4 (eLam hs__law_met fin__law_met (eCmth 0 f_Action_from_line [none] (eCons (eK (.str ("swap kin s t, ann s s" : Str))) eNil))))
    [x0, x1, x2, x3, some (.lst told5)] = .nx [x0, x1, x2, x3, some (.lst (told5 ++ [sO (Str.ofString "parse None")]))] := by
  have q := lam_no (fa := eCons (eK (.str ("swap kin s t, ann s s" : Str))) eNil) (ρ := [x0, x1, x2, x3, some (.lst told5)]) (ρ' := [x0, x1, x2, x3, some (.lst told5)]) (d := .str (Str.ofString "swap kin s t, ann s s")) rfl swap_no
  rw [ev_sExpr, ev_eApp]
  show ((eLam _ _ _ _).bind _).then' _ = _
  rw [q]
  rfl
theorem le4 : ∃ ρ, sRet (e2w 4 gEq (eLst (eCons (eK (.str ("swap ann s s, kin s t, kin s t" : Str))) (eCons (eTup (eCons (eK (.str ("ann" : Str))) (eCons (eK (.str ("kin" : Str))) eNil))) (eCons (eK (.int 3)) (eCons (eK (.int 4)) (eCons (eK (.bl true)) (eCons (eK (.str ("parse None" : Str))) eNil))))))))
    [x0, x1, x2, x3, some (.lst (told5 ++ [sO (Str.ofString "parse None")]))] = .ret (bO true) ρ := by
  have g : gEq (.lst [.str (lineOf swp T3), ownS T3, .int 3, .int 4, .bl true, .str (Str.ofString "parse None")]) (.lst [.str (Str.ofString "swap ann s s, kin s t, kin s t"), .tup [.str (Str.ofString "ann"), .str (Str.ofString "kin")], .int 3, .int 4, .bl true, .str (Str.ofString "parse None")]) = some (bO true) := by
    rw [own3, line3, gEq_lst rfl, eqDs_refl _ 60 rfl]
  refine ⟨[x0, x1, x2, x3, some (.lst (told5 ++ [sO (Str.ofString "parse None")]))], ?_⟩
  simp [g]
end
theorem pure_law (ns : List Int) (_h : ns.length ≤ 63) : ∃ ps, f_law [.sh (.lst (ns.map D.int))] = .ok (.sh (.bl true)) ps := by
  obtain ⟨m, hm, hm6⟩ : ∃ m : Nat, (if (if (ns.length : Int) < 8 then (ns.length : Int) else 8) > 1 then (if (ns.length : Int) < 8 then (ns.length : Int) else 8) else 1) = (m : Int) ∧ m ≤ 8 := by
    by_cases h6 : (ns.length : Int) < 8
    · rw [if_pos h6]
      by_cases h1 : (ns.length : Int) > 1
      · exact ⟨ns.length, by rw [if_pos h1], by omega⟩
      · exact ⟨1, by rw [if_neg h1]; rfl, by omega⟩
    · rw [if_neg h6]
      exact ⟨8, by rw [if_pos (by decide)]; rfl, Nat.le_refl _⟩
  obtain ⟨y1, y2, e⟩ := law_loop (ns := ns) m 0 (by omega) none none none none
  have hsm : sm (m : Int) = true := sm_small (by omega)
  have hf : LF [some (.sh (.lst (ns.map D.int))), none, none, none, none] = .ok ((List.range' 0 m).map fun (k : Nat) => D.int k) [some (.sh (.lst (ns.map D.int))), none, none, none, none] := by
    unfold LF
    simp only [ev_iRng1, ev_eN, ev_eCons, ev_eNil, ev_eVar, List.getElem?_cons_zero, bind_ok, toDs_cons, toDs_nil, sh_toD, lenG_l, List.length_map, fin_some, minG_ii, maxG_ii, hm, intD_int, hsm, if_true, Int.toNat_natCast, List.range_eq_range']
  obtain ⟨ρ, e4⟩ := le4 (x0 := some (.sh (.lst (ns.map D.int)))) (x1 := y1) (x2 := y2) (x3 := some (.sh (actD swp T3)))
  have hs : b_law [some (.sh (.lst (ns.map D.int))), none, none, none, none] = .ret (.sh (.bl true)) ρ := by
    unfold b_law
    unfold LF at hf
    unfold LB at e
    rw [ev_sSeq, ev_sFor, hf]
    simp only [then_ok]
    rw [e]
    show sSeq _ _ _ = _
    rw [ev_sSeq, le1]
    show sSeq _ _ _ = _
    rw [ev_sSeq, le2]
    show sSeq _ _ _ = _
    rw [ev_sSeq, le3]
    exact e4
  exact ⟨_, ret_fn hs⟩
end Kx
end

section
set_option maxRecDepth 100000
set_option maxHeartbeats 4000000
open PySem PySem.Spec PyProof.Rows L2 G
namespace Kx
def q_ParseError : Nat → Pos := fun n => match n with | 0 => ⟨11, 8, 11, 13⟩ | 1 => ⟨11, 8, 11, 15⟩ | 2 => ⟨11, 8, 11, 24⟩ | 3 => ⟨11, 25, 11, 50⟩ | 4 => ⟨11, 8, 11, 51⟩ | 5 => ⟨11, 8, 11, 51⟩ | 6 => ⟨12, 8, 12, 12⟩ | 7 => ⟨12, 8, 12, 17⟩ | 8 => ⟨12, 20, 12, 24⟩ | _ => ⟨12, 8, 12, 24⟩
end Kx
namespace Kx
theorem all_mk {P qq : Program} {w : World} {K : PySem.W.Frag} {h : Heap} {mg : Str → Option Value} {fa : Addr} (X : K.In h) (G : h.Ns mainGlobals mg) (hfa : mg "law" = some (.ref fa))
    {a__law_tape a__law_roll a__law_pick a__law_few a__law_word_drawn a__law_action_line a__law_words_drawn a__law_moves_drawn a__law_wrong_line a__law_wrong_moves a_is_name a_is_move a_are_moves a__law_right a_law a__law_met : Addr}
    {od__law_tape an__law_tape : Option Addr} {sl__law_tape : Array (Option Value)} {oc__law_tape kV__law_tape dc__law_tape pm__law_tape cd__law_tape ct__law_tape : Value}
    {od__law_roll an__law_roll : Option Addr} {sl__law_roll : Array (Option Value)} {oc__law_roll kV__law_roll dc__law_roll pm__law_roll cd__law_roll ct__law_roll : Value}
    {od__law_pick an__law_pick : Option Addr} {sl__law_pick : Array (Option Value)} {oc__law_pick kV__law_pick dc__law_pick pm__law_pick cd__law_pick ct__law_pick : Value}
    {od__law_few an__law_few : Option Addr} {sl__law_few : Array (Option Value)} {oc__law_few kV__law_few dc__law_few pm__law_few cd__law_few ct__law_few : Value}
    {od__law_word_drawn an__law_word_drawn : Option Addr} {sl__law_word_drawn : Array (Option Value)} {oc__law_word_drawn kV__law_word_drawn dc__law_word_drawn pm__law_word_drawn cd__law_word_drawn ct__law_word_drawn : Value}
    {od__law_action_line an__law_action_line : Option Addr} {sl__law_action_line : Array (Option Value)} {oc__law_action_line kV__law_action_line dc__law_action_line pm__law_action_line cd__law_action_line ct__law_action_line : Value}
    {od__law_words_drawn an__law_words_drawn : Option Addr} {sl__law_words_drawn : Array (Option Value)} {oc__law_words_drawn kV__law_words_drawn dc__law_words_drawn pm__law_words_drawn cd__law_words_drawn ct__law_words_drawn : Value}
    {od__law_moves_drawn an__law_moves_drawn : Option Addr} {sl__law_moves_drawn : Array (Option Value)} {oc__law_moves_drawn kV__law_moves_drawn dc__law_moves_drawn pm__law_moves_drawn cd__law_moves_drawn ct__law_moves_drawn : Value}
    {od__law_wrong_line an__law_wrong_line : Option Addr} {sl__law_wrong_line : Array (Option Value)} {oc__law_wrong_line kV__law_wrong_line dc__law_wrong_line pm__law_wrong_line cd__law_wrong_line ct__law_wrong_line : Value}
    {od__law_wrong_moves an__law_wrong_moves : Option Addr} {sl__law_wrong_moves : Array (Option Value)} {oc__law_wrong_moves kV__law_wrong_moves dc__law_wrong_moves pm__law_wrong_moves cd__law_wrong_moves ct__law_wrong_moves : Value}
    {od_is_name an_is_name : Option Addr} {sl_is_name : Array (Option Value)} {oc_is_name kV_is_name dc_is_name pm_is_name cd_is_name ct_is_name : Value}
    {od_is_move an_is_move : Option Addr} {sl_is_move : Array (Option Value)} {oc_is_move kV_is_move dc_is_move pm_is_move cd_is_move ct_is_move : Value}
    {od_are_moves an_are_moves : Option Addr} {sl_are_moves : Array (Option Value)} {oc_are_moves kV_are_moves dc_are_moves pm_are_moves cd_are_moves ct_are_moves : Value}
    {od__law_right an__law_right : Option Addr} {sl__law_right : Array (Option Value)} {oc__law_right kV__law_right dc__law_right pm__law_right ct__law_right : Value}
    {cl__law_right tb__law_right : Addr} {dr__law_right : DefRec} {lcl__law_right : Value} {lcd__law_right : Option Addr} {lcs__law_right : Array (Option Value)} {lvs__law_right : Array Value}
    {od_law an_law : Option Addr} {sl_law : Array (Option Value)} {oc_law kV_law dc_law pm_law ct_law : Value}
    {cl_law tb_law : Addr} {dr_law : DefRec} {lcl_law : Value} {lcd_law : Option Addr} {lcs_law : Array (Option Value)} {lvs_law : Array Value}
    {od__law_met an__law_met : Option Addr} {sl__law_met : Array (Option Value)} {oc__law_met kV__law_met dc__law_met pm__law_met cd__law_met ct__law_met : Value}
    {A_Action : Addr}
    {D_Action_own_called : Addr}
    {D_Action_own_moves : Addr}
    {a_Action_init : Addr} {od_Action_init an_Action_init : Option Addr} {sl_Action_init : Array (Option Value)} {oc_Action_init kV_Action_init dc_Action_init pm_Action_init cd_Action_init ct_Action_init : Value}
    {a_Action_str : Addr} {od_Action_str an_Action_str : Option Addr} {sl_Action_str : Array (Option Value)} {oc_Action_str kV_Action_str dc_Action_str pm_Action_str cd_Action_str ct_Action_str : Value}
    {a_Action_from_line : Addr} {od_Action_from_line an_Action_from_line : Option Addr} {sl_Action_from_line : Array (Option Value)} {oc_Action_from_line kV_Action_from_line dc_Action_from_line pm_Action_from_line cd_Action_from_line ct_Action_from_line : Value}
    {pd_Action_from_line : Addr} {rr_Action_from_line : List Value}
    {a_Action_called : Addr} {od_Action_called an_Action_called : Option Addr} {sl_Action_called : Array (Option Value)} {oc_Action_called kV_Action_called dc_Action_called pm_Action_called cd_Action_called ct_Action_called : Value}
    {pd_Action_called : Addr} {rr_Action_called : List Value}
    {a_Action_moves : Addr} {od_Action_moves an_Action_moves : Option Addr} {sl_Action_moves : Array (Option Value)} {oc_Action_moves kV_Action_moves dc_Action_moves pm_Action_moves cd_Action_moves ct_Action_moves : Value}
    {pd_Action_moves : Addr} {rr_Action_moves : List Value}
    {a_Action_owners : Addr} {od_Action_owners an_Action_owners : Option Addr} {sl_Action_owners : Array (Option Value)} {oc_Action_owners kV_Action_owners dc_Action_owners pm_Action_owners cd_Action_owners ct_Action_owners : Value}
    {pd_Action_owners : Addr} {rr_Action_owners : List Value}
    {a_Action_len : Addr} {od_Action_len an_Action_len : Option Addr} {sl_Action_len : Array (Option Value)} {oc_Action_len kV_Action_len dc_Action_len pm_Action_len cd_Action_len ct_Action_len : Value}
    {a_Action_eq : Addr} {od_Action_eq an_Action_eq : Option Addr} {sl_Action_eq : Array (Option Value)} {oc_Action_eq kV_Action_eq dc_Action_eq pm_Action_eq cd_Action_eq ct_Action_eq : Value}
    {tk_MAX_LETTERS : Tok}
    {tk_MAX_MOVES : Tok}
    {X_InvalidAction : Addr}
    {X_InvalidName : Addr}
    {X_ParseError : Addr}
    {I_ParseError cda_ParseError cc_ParseError : Addr} {cdt_ParseError : ClassData} {oci_ParseError kVi_ParseError dci_ParseError pmi_ParseError cti_ParseError cl_ParseError ccl_ParseError : Value} {odi_ParseError ani_ParseError cld_ParseError cdd_ParseError : Option Addr} {sli_ParseError csl_ParseError ccs_ParseError : Array (Option Value)} {vs_ParseError : Array Value} {fl_ParseError : Str} {tf_ParseError : Tok}
    (g__law_tape : PySem.W.nsIn K mainGlobals "_law_tape" = some (some (.ref a__law_tape)))
    (l__law_tape : K.lookup a__law_tape = some ⟨oc__law_tape, od__law_tape, .func (PySem.W.fnOf "_law_tape" "_law_tape" (defArgs s__law_tape) (defBody s__law_tape) (defScope s__law_tape) .none kV__law_tape dc__law_tape pm__law_tape an__law_tape cd__law_tape ct__law_tape), sl__law_tape⟩)
    (c0__law_tape : PySem.W.codeIn K cd__law_tape "_law_tape" = true)
    (p__law_tape : PySem.W.keepIn K (.ref a__law_tape) = true)
    (g__law_roll : PySem.W.nsIn K mainGlobals "_law_roll" = some (some (.ref a__law_roll)))
    (l__law_roll : K.lookup a__law_roll = some ⟨oc__law_roll, od__law_roll, .func (PySem.W.fnOf "_law_roll" "_law_roll" (defArgs s__law_roll) (defBody s__law_roll) (defScope s__law_roll) .none kV__law_roll dc__law_roll pm__law_roll an__law_roll cd__law_roll ct__law_roll), sl__law_roll⟩)
    (c0__law_roll : PySem.W.codeIn K cd__law_roll "_law_roll" = true)
    (p__law_roll : PySem.W.keepIn K (.ref a__law_roll) = true)
    (g__law_pick : PySem.W.nsIn K mainGlobals "_law_pick" = some (some (.ref a__law_pick)))
    (l__law_pick : K.lookup a__law_pick = some ⟨oc__law_pick, od__law_pick, .func (PySem.W.fnOf "_law_pick" "_law_pick" (defArgs s__law_pick) (defBody s__law_pick) (defScope s__law_pick) .none kV__law_pick dc__law_pick pm__law_pick an__law_pick cd__law_pick ct__law_pick), sl__law_pick⟩)
    (c0__law_pick : PySem.W.codeIn K cd__law_pick "_law_pick" = true)
    (p__law_pick : PySem.W.keepIn K (.ref a__law_pick) = true)
    (g__law_few : PySem.W.nsIn K mainGlobals "_law_few" = some (some (.ref a__law_few)))
    (l__law_few : K.lookup a__law_few = some ⟨oc__law_few, od__law_few, .func (PySem.W.fnOf "_law_few" "_law_few" (defArgs s__law_few) (defBody s__law_few) (defScope s__law_few) .none kV__law_few dc__law_few pm__law_few an__law_few cd__law_few ct__law_few), sl__law_few⟩)
    (c0__law_few : PySem.W.codeIn K cd__law_few "_law_few" = true)
    (p__law_few : PySem.W.keepIn K (.ref a__law_few) = true)
    (g__law_word_drawn : PySem.W.nsIn K mainGlobals "_law_word_drawn" = some (some (.ref a__law_word_drawn)))
    (l__law_word_drawn : K.lookup a__law_word_drawn = some ⟨oc__law_word_drawn, od__law_word_drawn, .func (PySem.W.fnOf "_law_word_drawn" "_law_word_drawn" (defArgs s__law_word_drawn) (defBody s__law_word_drawn) (defScope s__law_word_drawn) .none kV__law_word_drawn dc__law_word_drawn pm__law_word_drawn an__law_word_drawn cd__law_word_drawn ct__law_word_drawn), sl__law_word_drawn⟩)
    (c0__law_word_drawn : PySem.W.codeIn K cd__law_word_drawn "_law_word_drawn" = true)
    (p__law_word_drawn : PySem.W.keepIn K (.ref a__law_word_drawn) = true)
    (g__law_action_line : PySem.W.nsIn K mainGlobals "_law_action_line" = some (some (.ref a__law_action_line)))
    (l__law_action_line : K.lookup a__law_action_line = some ⟨oc__law_action_line, od__law_action_line, .func (PySem.W.fnOf "_law_action_line" "_law_action_line" (defArgs s__law_action_line) (defBody s__law_action_line) (defScope s__law_action_line) .none kV__law_action_line dc__law_action_line pm__law_action_line an__law_action_line cd__law_action_line ct__law_action_line), sl__law_action_line⟩)
    (c0__law_action_line : PySem.W.codeIn K cd__law_action_line "_law_action_line" = true)
    (p__law_action_line : PySem.W.keepIn K (.ref a__law_action_line) = true)
    (g__law_words_drawn : PySem.W.nsIn K mainGlobals "_law_words_drawn" = some (some (.ref a__law_words_drawn)))
    (l__law_words_drawn : K.lookup a__law_words_drawn = some ⟨oc__law_words_drawn, od__law_words_drawn, .func (PySem.W.fnOf "_law_words_drawn" "_law_words_drawn" (defArgs s__law_words_drawn) (defBody s__law_words_drawn) (defScope s__law_words_drawn) .none kV__law_words_drawn dc__law_words_drawn pm__law_words_drawn an__law_words_drawn cd__law_words_drawn ct__law_words_drawn), sl__law_words_drawn⟩)
    (c0__law_words_drawn : PySem.W.codeIn K cd__law_words_drawn "_law_words_drawn" = true)
    (p__law_words_drawn : PySem.W.keepIn K (.ref a__law_words_drawn) = true)
    (g__law_moves_drawn : PySem.W.nsIn K mainGlobals "_law_moves_drawn" = some (some (.ref a__law_moves_drawn)))
    (l__law_moves_drawn : K.lookup a__law_moves_drawn = some ⟨oc__law_moves_drawn, od__law_moves_drawn, .func (PySem.W.fnOf "_law_moves_drawn" "_law_moves_drawn" (defArgs s__law_moves_drawn) (defBody s__law_moves_drawn) (defScope s__law_moves_drawn) .none kV__law_moves_drawn dc__law_moves_drawn pm__law_moves_drawn an__law_moves_drawn cd__law_moves_drawn ct__law_moves_drawn), sl__law_moves_drawn⟩)
    (c0__law_moves_drawn : PySem.W.codeIn K cd__law_moves_drawn "_law_moves_drawn" = true)
    (p__law_moves_drawn : PySem.W.keepIn K (.ref a__law_moves_drawn) = true)
    (g__law_wrong_line : PySem.W.nsIn K mainGlobals "_law_wrong_line" = some (some (.ref a__law_wrong_line)))
    (l__law_wrong_line : K.lookup a__law_wrong_line = some ⟨oc__law_wrong_line, od__law_wrong_line, .func (PySem.W.fnOf "_law_wrong_line" "_law_wrong_line" (defArgs s__law_wrong_line) (defBody s__law_wrong_line) (defScope s__law_wrong_line) .none kV__law_wrong_line dc__law_wrong_line pm__law_wrong_line an__law_wrong_line cd__law_wrong_line ct__law_wrong_line), sl__law_wrong_line⟩)
    (c0__law_wrong_line : PySem.W.codeIn K cd__law_wrong_line "_law_wrong_line" = true)
    (p__law_wrong_line : PySem.W.keepIn K (.ref a__law_wrong_line) = true)
    (g__law_wrong_moves : PySem.W.nsIn K mainGlobals "_law_wrong_moves" = some (some (.ref a__law_wrong_moves)))
    (l__law_wrong_moves : K.lookup a__law_wrong_moves = some ⟨oc__law_wrong_moves, od__law_wrong_moves, .func (PySem.W.fnOf "_law_wrong_moves" "_law_wrong_moves" (defArgs s__law_wrong_moves) (defBody s__law_wrong_moves) (defScope s__law_wrong_moves) .none kV__law_wrong_moves dc__law_wrong_moves pm__law_wrong_moves an__law_wrong_moves cd__law_wrong_moves ct__law_wrong_moves), sl__law_wrong_moves⟩)
    (c0__law_wrong_moves : PySem.W.codeIn K cd__law_wrong_moves "_law_wrong_moves" = true)
    (p__law_wrong_moves : PySem.W.keepIn K (.ref a__law_wrong_moves) = true)
    (g_is_name : PySem.W.nsIn K mainGlobals "is_name" = some (some (.ref a_is_name)))
    (l_is_name : K.lookup a_is_name = some ⟨oc_is_name, od_is_name, .func (PySem.W.fnOf "is_name" "is_name" (defArgs s_is_name) (defBody s_is_name) (defScope s_is_name) .none kV_is_name dc_is_name pm_is_name an_is_name cd_is_name ct_is_name), sl_is_name⟩)
    (c0_is_name : PySem.W.codeIn K cd_is_name "is_name" = true)
    (p_is_name : PySem.W.keepIn K (.ref a_is_name) = true)
    (g_is_move : PySem.W.nsIn K mainGlobals "is_move" = some (some (.ref a_is_move)))
    (l_is_move : K.lookup a_is_move = some ⟨oc_is_move, od_is_move, .func (PySem.W.fnOf "is_move" "is_move" (defArgs s_is_move) (defBody s_is_move) (defScope s_is_move) .none kV_is_move dc_is_move pm_is_move an_is_move cd_is_move ct_is_move), sl_is_move⟩)
    (c0_is_move : PySem.W.codeIn K cd_is_move "is_move" = true)
    (p_is_move : PySem.W.keepIn K (.ref a_is_move) = true)
    (g_are_moves : PySem.W.nsIn K mainGlobals "are_moves" = some (some (.ref a_are_moves)))
    (l_are_moves : K.lookup a_are_moves = some ⟨oc_are_moves, od_are_moves, .func (PySem.W.fnOf "are_moves" "are_moves" (defArgs s_are_moves) (defBody s_are_moves) (defScope s_are_moves) .none kV_are_moves dc_are_moves pm_are_moves an_are_moves cd_are_moves ct_are_moves), sl_are_moves⟩)
    (c0_are_moves : PySem.W.codeIn K cd_are_moves "are_moves" = true)
    (p_are_moves : PySem.W.keepIn K (.ref a_are_moves) = true)
    (g__law_right : PySem.W.nsIn K mainGlobals "_law_right" = some (some (.ref a__law_right)))
    (l__law_right : K.lookup a__law_right = some ⟨oc__law_right, od__law_right, .func (PySem.W.fnOf "_law_right" "_law_right" (defArgs s__law_right) (defBody s__law_right) (defScope s__law_right) .none kV__law_right dc__law_right pm__law_right an__law_right (.ref cl__law_right) ct__law_right), sl__law_right⟩)
    (c0__law_right : PySem.W.codeIn K (.ref cl__law_right) "_law_right" = true)
    (lc__law_right : K.lookup cl__law_right = some ⟨lcl__law_right, lcd__law_right, .fields lvs__law_right, lcs__law_right⟩)
    (tv__law_right : lvs__law_right[11]? = some (.ref tb__law_right))
    (nt__law_right : K.lookup tb__law_right = none)
    (rc__law_right : (recsOf qq).find? (fun e => e.name == ("_law_right" : Str)) = some dr__law_right)
    (p__law_right : PySem.W.keepIn K (.ref a__law_right) = true)
    (g_law : PySem.W.nsIn K mainGlobals "law" = some (some (.ref a_law)))
    (l_law : K.lookup a_law = some ⟨oc_law, od_law, .func (PySem.W.fnOf "law" "law" (defArgs s_law) (defBody s_law) (defScope s_law) .none kV_law dc_law pm_law an_law (.ref cl_law) ct_law), sl_law⟩)
    (c0_law : PySem.W.codeIn K (.ref cl_law) "law" = true)
    (lc_law : K.lookup cl_law = some ⟨lcl_law, lcd_law, .fields lvs_law, lcs_law⟩)
    (tv_law : lvs_law[11]? = some (.ref tb_law))
    (nt_law : K.lookup tb_law = none)
    (rc_law : (recsOf qq).find? (fun e => e.name == ("law" : Str)) = some dr_law)
    (p_law : PySem.W.keepIn K (.ref a_law) = true)
    (g__law_met : PySem.W.nsIn K mainGlobals "_law_met" = some (some (.ref a__law_met)))
    (l__law_met : K.lookup a__law_met = some ⟨oc__law_met, od__law_met, .func (PySem.W.fnOf "_law_met" "_law_met" (defArgs s__law_met) (defBody s__law_met) (defScope s__law_met) .none kV__law_met dc__law_met pm__law_met an__law_met cd__law_met ct__law_met), sl__law_met⟩)
    (c0__law_met : PySem.W.codeIn K cd__law_met "_law_met" = true)
    (p__law_met : PySem.W.keepIn K (.ref a__law_met) = true)
    (gk_Action : PySem.W.nsIn K mainGlobals "Action" = some (some (.ref A_Action)))
    (pg_Action : PySem.W.plainGet K A_Action Str.empty = true)
    (ik_Action : PySem.W.isClsIn K A_Action = true)
    (po_Action : PySem.W.plainOver K A_Action = true)
    (sc_Action : PySem.W.findIn K (.ref A_Action) "__setattr__" = some (some (.builtin "object.__setattr__")))
    (da_Action_own_called : PySem.W.findIn K (.ref A_Action) "own_called" = some (some (.ref D_Action_own_called)))
    (dg_Action_own_called : PySem.W.specialIn K (.ref D_Action_own_called) "__get__" = some (some (.builtin "member_descriptor.__get__")))
    (dk_Action_own_called : PySem.W.takesIn K (.ref D_Action_own_called) = some true)
    (dt_Action_own_called : PySem.W.typeIn K (.ref D_Action_own_called) = some (.type "member_descriptor"))
    (di_Action_own_called : PySem.W.slotIn K D_Action_own_called A_Action = some 0)
    (da_Action_own_moves : PySem.W.findIn K (.ref A_Action) "own_moves" = some (some (.ref D_Action_own_moves)))
    (dg_Action_own_moves : PySem.W.specialIn K (.ref D_Action_own_moves) "__get__" = some (some (.builtin "member_descriptor.__get__")))
    (dk_Action_own_moves : PySem.W.takesIn K (.ref D_Action_own_moves) = some true)
    (dt_Action_own_moves : PySem.W.typeIn K (.ref D_Action_own_moves) = some (.type "member_descriptor"))
    (di_Action_own_moves : PySem.W.slotIn K D_Action_own_moves A_Action = some 1)
    (cm_Action : PySem.W.mroIn K A_Action (.type "object") = some true)
    (ca_Action : PySem.W.findIn K (.ref A_Action) "__class__" = some (some (.builtin "object.__class__")))
    (cn_ : PySem.W.specialIn K (.builtin "object.__class__") "__get__" = some (some (.builtin "getset_descriptor.__get__")))
    (ct_ : PySem.W.takesIn K (.builtin "object.__class__") = some true)
    (ty_Action : PySem.W.typeIn K (.ref A_Action) = some (.type "type"))
    (ib_NoneType_Action : PySem.W.subIn K (.type "NoneType") (.ref A_Action) = some false)
    (ib_bool_Action : PySem.W.subIn K (.type "bool") (.ref A_Action) = some false)
    (ib_int_Action : PySem.W.subIn K (.type "int") (.ref A_Action) = some false)
    (ib_str_Action : PySem.W.subIn K (.type "str") (.ref A_Action) = some false)
    (ib_tuple_Action : PySem.W.subIn K (.type "tuple") (.ref A_Action) = some false)
    (ib_list_Action : PySem.W.subIn K (.type "list") (.ref A_Action) = some false)
    (ib_dict_Action : PySem.W.subIn K (.type "dict") (.ref A_Action) = some false)
    (ij_Action_Action : PySem.W.subIn K (.ref A_Action) (.ref A_Action) = some true)
    (fi_Action_init : PySem.W.findIn K (.ref A_Action) "__init__" = some (some (.ref a_Action_init)))
    (if_Action_init : PySem.W.isFn K (.ref a_Action_init) = true)
    (mk_Action_init : PySem.W.makesIn K A_Action = true)
    (kk_Action_init : PySem.W.keepIn K (.ref A_Action) = true)
    (l_Action_init : K.lookup a_Action_init = some ⟨oc_Action_init, od_Action_init, .func (PySem.W.fnOf "__init__" "Action.__init__" (defArgs s_Action_init) (defBody s_Action_init) (defScope s_Action_init) .none kV_Action_init dc_Action_init pm_Action_init an_Action_init cd_Action_init ct_Action_init), sl_Action_init⟩)
    (c0_Action_init : PySem.W.codeIn K cd_Action_init "Action.__init__" = true)
    (p_Action_init : PySem.W.keepIn K (.ref a_Action_init) = true)
    (fi_Action_str : PySem.W.findIn K (.ref A_Action) "__str__" = some (some (.ref a_Action_str)))
    (if_Action_str : PySem.W.isFn K (.ref a_Action_str) = true)
    (fm_Action_str : PySem.W.findIn K (.ref A_Action) "__format__" = some (some (.builtin "object.__format__")))
    (l_Action_str : K.lookup a_Action_str = some ⟨oc_Action_str, od_Action_str, .func (PySem.W.fnOf "__str__" "Action.__str__" (defArgs s_Action_str) (defBody s_Action_str) (defScope s_Action_str) .none kV_Action_str dc_Action_str pm_Action_str an_Action_str cd_Action_str ct_Action_str), sl_Action_str⟩)
    (c0_Action_str : PySem.W.codeIn K cd_Action_str "Action.__str__" = true)
    (p_Action_str : PySem.W.keepIn K (.ref a_Action_str) = true)
    (rd_Action_from_line : PySem.W.readsIn K A_Action (.type "type") = true)
    (ga_Action_from_line : PySem.W.specialIn K (.ref A_Action) "__getattribute__" = some (some (.builtin "type.__getattribute__")))
    (fc_Action_from_line : PySem.W.findCls K (.ref A_Action) (.type "type") "from_line" = some (.get (.builtin "classmethod.__get__") (.ref pd_Action_from_line) .none (.ref A_Action)))
    (re_Action_from_line : PySem.W.recIn K pd_Action_from_line "classmethod" = some (.ref a_Action_from_line :: rr_Action_from_line))
    (fn_Action_from_line : PySem.W.fnIn K a_Action_from_line = true)
    (l_Action_from_line : K.lookup a_Action_from_line = some ⟨oc_Action_from_line, od_Action_from_line, .func (PySem.W.fnOf "from_line" "Action.from_line" (defArgs s_Action_from_line) (defBody s_Action_from_line) (defScope s_Action_from_line) .none kV_Action_from_line dc_Action_from_line pm_Action_from_line an_Action_from_line cd_Action_from_line ct_Action_from_line), sl_Action_from_line⟩)
    (c0_Action_from_line : PySem.W.codeIn K cd_Action_from_line "Action.from_line" = true)
    (p_Action_from_line : PySem.W.keepIn K (.ref a_Action_from_line) = true)
    (fi_Action_called : PySem.W.findIn K (.ref A_Action) "called" = some (some (.ref pd_Action_called)))
    (sg_Action_called : PySem.W.specialIn K (.ref pd_Action_called) "__get__" = some (some (.builtin "property.__get__")))
    (tk_Action_called : PySem.W.takesIn K (.ref pd_Action_called) = some true)
    (re_Action_called : PySem.W.recIn K pd_Action_called "property" = some (.ref a_Action_called :: rr_Action_called))
    (l_Action_called : K.lookup a_Action_called = some ⟨oc_Action_called, od_Action_called, .func (PySem.W.fnOf "called" "Action.called" (defArgs s_Action_called) (defBody s_Action_called) (defScope s_Action_called) .none kV_Action_called dc_Action_called pm_Action_called an_Action_called cd_Action_called ct_Action_called), sl_Action_called⟩)
    (c0_Action_called : PySem.W.codeIn K cd_Action_called "Action.called" = true)
    (p_Action_called : PySem.W.keepIn K (.ref a_Action_called) = true)
    (fi_Action_moves : PySem.W.findIn K (.ref A_Action) "moves" = some (some (.ref pd_Action_moves)))
    (sg_Action_moves : PySem.W.specialIn K (.ref pd_Action_moves) "__get__" = some (some (.builtin "property.__get__")))
    (tk_Action_moves : PySem.W.takesIn K (.ref pd_Action_moves) = some true)
    (re_Action_moves : PySem.W.recIn K pd_Action_moves "property" = some (.ref a_Action_moves :: rr_Action_moves))
    (l_Action_moves : K.lookup a_Action_moves = some ⟨oc_Action_moves, od_Action_moves, .func (PySem.W.fnOf "moves" "Action.moves" (defArgs s_Action_moves) (defBody s_Action_moves) (defScope s_Action_moves) .none kV_Action_moves dc_Action_moves pm_Action_moves an_Action_moves cd_Action_moves ct_Action_moves), sl_Action_moves⟩)
    (c0_Action_moves : PySem.W.codeIn K cd_Action_moves "Action.moves" = true)
    (p_Action_moves : PySem.W.keepIn K (.ref a_Action_moves) = true)
    (fi_Action_owners : PySem.W.findIn K (.ref A_Action) "owners" = some (some (.ref pd_Action_owners)))
    (sg_Action_owners : PySem.W.specialIn K (.ref pd_Action_owners) "__get__" = some (some (.builtin "property.__get__")))
    (tk_Action_owners : PySem.W.takesIn K (.ref pd_Action_owners) = some true)
    (re_Action_owners : PySem.W.recIn K pd_Action_owners "property" = some (.ref a_Action_owners :: rr_Action_owners))
    (l_Action_owners : K.lookup a_Action_owners = some ⟨oc_Action_owners, od_Action_owners, .func (PySem.W.fnOf "owners" "Action.owners" (defArgs s_Action_owners) (defBody s_Action_owners) (defScope s_Action_owners) .none kV_Action_owners dc_Action_owners pm_Action_owners an_Action_owners cd_Action_owners ct_Action_owners), sl_Action_owners⟩)
    (c0_Action_owners : PySem.W.codeIn K cd_Action_owners "Action.owners" = true)
    (p_Action_owners : PySem.W.keepIn K (.ref a_Action_owners) = true)
    (fi_Action_len : PySem.W.findIn K (.ref A_Action) "__len__" = some (some (.ref a_Action_len)))
    (if_Action_len : PySem.W.isFn K (.ref a_Action_len) = true)
    (l_Action_len : K.lookup a_Action_len = some ⟨oc_Action_len, od_Action_len, .func (PySem.W.fnOf "__len__" "Action.__len__" (defArgs s_Action_len) (defBody s_Action_len) (defScope s_Action_len) .none kV_Action_len dc_Action_len pm_Action_len an_Action_len cd_Action_len ct_Action_len), sl_Action_len⟩)
    (c0_Action_len : PySem.W.codeIn K cd_Action_len "Action.__len__" = true)
    (p_Action_len : PySem.W.keepIn K (.ref a_Action_len) = true)
    (fi_Action_eq : PySem.W.findIn K (.ref A_Action) "__eq__" = some (some (.ref a_Action_eq)))
    (if_Action_eq : PySem.W.isFn K (.ref a_Action_eq) = true)
    (ne_Action_eq : PySem.W.findIn K (.ref A_Action) "__ne__" = some (some (.builtin "object.__ne__")))
    (so_Action_eq : PySem.W.subIn K (.ref A_Action) (.type "object") = some true)
    (nb_NoneType_Action_eq : PySem.W.notFirst K A_Action (.type "NoneType") = true)
    (nb_bool_Action_eq : PySem.W.notFirst K A_Action (.type "bool") = true)
    (nb_int_Action_eq : PySem.W.notFirst K A_Action (.type "int") = true)
    (nb_str_Action_eq : PySem.W.notFirst K A_Action (.type "str") = true)
    (nb_tuple_Action_eq : PySem.W.notFirst K A_Action (.type "tuple") = true)
    (nb_list_Action_eq : PySem.W.notFirst K A_Action (.type "list") = true)
    (nb_dict_Action_eq : PySem.W.notFirst K A_Action (.type "dict") = true)
    (nc_Action_Action_eq : PySem.W.notFirst K A_Action (.ref A_Action) = true)
    (l_Action_eq : K.lookup a_Action_eq = some ⟨oc_Action_eq, od_Action_eq, .func (PySem.W.fnOf "__eq__" "Action.__eq__" (defArgs s_Action_eq) (defBody s_Action_eq) (defScope s_Action_eq) .none kV_Action_eq dc_Action_eq pm_Action_eq an_Action_eq cd_Action_eq ct_Action_eq), sl_Action_eq⟩)
    (c0_Action_eq : PySem.W.codeIn K cd_Action_eq "Action.__eq__" = true)
    (p_Action_eq : PySem.W.keepIn K (.ref a_Action_eq) = true)
    (z_abs : PySem.W.nsIn K mainGlobals "abs" = some none)
    (z_all : PySem.W.nsIn K mainGlobals "all" = some none)
    (z_int : PySem.W.nsIn K mainGlobals "int" = some none)
    (z_isinstance : PySem.W.nsIn K mainGlobals "isinstance" = some none)
    (z_len : PySem.W.nsIn K mainGlobals "len" = some none)
    (z_list : PySem.W.nsIn K mainGlobals "list" = some none)
    (z_max : PySem.W.nsIn K mainGlobals "max" = some none)
    (z_min : PySem.W.nsIn K mainGlobals "min" = some none)
    (z_range : PySem.W.nsIn K mainGlobals "range" = some none)
    (z_repr : PySem.W.nsIn K mainGlobals "repr" = some none)
    (z_set : PySem.W.nsIn K mainGlobals "set" = some none)
    (z_sorted : PySem.W.nsIn K mainGlobals "sorted" = some none)
    (z_str : PySem.W.nsIn K mainGlobals "str" = some none)
    (z_tuple : PySem.W.nsIn K mainGlobals "tuple" = some none)
    (z_super : PySem.W.nsIn K mainGlobals "super" = some none)
    (op : PySem.W.nsIn K cStatics "thirdparty.any" = some none)
    (v_MAX_LETTERS : PySem.W.nsIn K mainGlobals "MAX_LETTERS" = some (some (.int 8 tk_MAX_LETTERS)))
    (v_MAX_MOVES : PySem.W.nsIn K mainGlobals "MAX_MOVES" = some (some (.int 4 tk_MAX_MOVES)))
    (gx_InvalidAction : PySem.W.nsIn K mainGlobals "InvalidAction" = some (some (.ref X_InvalidAction)))
    (tx_InvalidAction : PySem.W.typeIn K (.ref X_InvalidAction) = some (.type "type"))
    (ex_InvalidAction : PySem.W.subIn K (.ref X_InvalidAction) (.type "BaseException") = some true)
    (kx_InvalidAction : PySem.W.keepIn K (.ref X_InvalidAction) = true)
    (qx_InvalidAction : PySem.W.excIn K X_InvalidAction [.type "ValueError", .type "Exception", .type "BaseException", .type "object"] "ValueError.__new__" = true)
    (gx_InvalidName : PySem.W.nsIn K mainGlobals "InvalidName" = some (some (.ref X_InvalidName)))
    (tx_InvalidName : PySem.W.typeIn K (.ref X_InvalidName) = some (.type "type"))
    (ex_InvalidName : PySem.W.subIn K (.ref X_InvalidName) (.type "BaseException") = some true)
    (kx_InvalidName : PySem.W.keepIn K (.ref X_InvalidName) = true)
    (qx_InvalidName : PySem.W.excIn K X_InvalidName [.type "ValueError", .type "Exception", .type "BaseException", .type "object"] "ValueError.__new__" = true)
    (gx_ParseError : PySem.W.nsIn K mainGlobals "ParseError" = some (some (.ref X_ParseError)))
    (tx_ParseError : PySem.W.typeIn K (.ref X_ParseError) = some (.type "type"))
    (ex_ParseError : PySem.W.subIn K (.ref X_ParseError) (.type "BaseException") = some true)
    (kx_ParseError : PySem.W.keepIn K (.ref X_ParseError) = true)
    (xi_ParseError : PySem.W.excInitIn K X_ParseError [.type "ValueError", .type "Exception", .type "BaseException", .type "object"] "ValueError.__new__" = true)
    (cl0_ParseError : PySem.W.clsIn K X_ParseError = some cdt_ParseError)
    (rv_ParseError : PySem.HandSPX.refsVE cdt_ParseError.mro = true)
    (hd_ParseError : cdt_ParseError.hasDict = true)
    (sa_ParseError : PySem.W.findIn K (.ref X_ParseError) "__setattr__" = some (some (.builtin "object.__setattr__")))
    (nn_ParseError : PySem.W.findIn K (.ref X_ParseError) "line" = some none)
    (ic_ParseError : PySem.W.findIn K (.ref X_ParseError) "__init__" = some (some (.ref I_ParseError)))
    (ti_ParseError : PySem.W.typeIn K (.ref I_ParseError) = some (.type "function"))
    (hb_ParseError : PySem.W.subIn K (.ref X_ParseError) (.type "ValueError") = some true)
    (me_ParseError : PySem.W.mroIn K X_ParseError (.ref X_ParseError) = some true)
    (su_ParseError : PySem.W.ks_superIn K X_ParseError X_ParseError "__init__" = some (some (.builtin "ValueError.__init__")))
    (li_ParseError : K.lookup I_ParseError = some ⟨oci_ParseError, odi_ParseError, .func (PySem.W.ksFn "__init__" "ParseError.__init__" (GX.iArgs "line" ⟨10, 17, 10, 21⟩ ⟨10, 23, 10, 27⟩) (GX.iBody "line" ("the text cannot be read" : Str) 0 q_ParseError) (GX.iScope "line") .none kVi_ParseError dci_ParseError pmi_ParseError ani_ParseError (.ref cda_ParseError) cti_ParseError cc_ParseError), sli_ParseError⟩)
    (ci_ParseError : PySem.W.codeIn K (.ref cda_ParseError) "ParseError.__init__" = true)
    (ce_ParseError : K.lookup cc_ParseError = some ⟨cl_ParseError, cld_ParseError, .cell (some (.ref X_ParseError)), csl_ParseError⟩)
    (cf_ParseError : K.lookup cda_ParseError = some ⟨ccl_ParseError, cdd_ParseError, .fields vs_ParseError, ccs_ParseError⟩)
    (vf_ParseError : vs_ParseError[2]? = some (.str fl_ParseError tf_ParseError))
    (ff_ParseError : ((P.main.file : Str) == fl_ParseError) = true)
    (is_InvalidAction : PySem.W.isClsIn K X_InvalidAction = true)
    (sb_InvalidName_InvalidAction : PySem.W.subIn K (.ref X_InvalidName) (.ref X_InvalidAction) = some false)
    (sb_InvalidAction_InvalidAction : PySem.W.subIn K (.ref X_InvalidAction) (.ref X_InvalidAction) = some true)
    (sb_ParseError_InvalidAction : PySem.W.subIn K (.ref X_ParseError) (.ref X_InvalidAction) = some false)
    (is_InvalidName : PySem.W.isClsIn K X_InvalidName = true)
    (sb_InvalidName_InvalidName : PySem.W.subIn K (.ref X_InvalidName) (.ref X_InvalidName) = some true)
    (sb_InvalidAction_InvalidName : PySem.W.subIn K (.ref X_InvalidAction) (.ref X_InvalidName) = some false)
    (sb_ParseError_InvalidName : PySem.W.subIn K (.ref X_ParseError) (.ref X_InvalidName) = some false)
    (xa_ParseError : PySem.W.findIn K (.ref X_ParseError) "__getattribute__" = some (some (.builtin "BaseException.__getattribute__")))
    (xg_ParseError : PySem.W.findIn K (.ref X_ParseError) "__getattr__" = some none)
    (xh_ParseError : PySem.W.hasDictIn K X_ParseError = true)
    (is_ParseError : PySem.W.isClsIn K X_ParseError = true)
    (sb_InvalidName_ParseError : PySem.W.subIn K (.ref X_InvalidName) (.ref X_ParseError) = some false)
    (sb_InvalidAction_ParseError : PySem.W.subIn K (.ref X_InvalidAction) (.ref X_ParseError) = some false)
    (sb_ParseError_ParseError : PySem.W.subIn K (.ref X_ParseError) (.ref X_ParseError) = some true)
    (top_s : (P.main.scope.names.lookup ("super" : Str)).isSome = false)
    (nd_tabs : [tb__law_right, tb_law].Nodup)
    : ∃ (fd : FuncData) (cs : List (Addr × Addr)) (T : List (Addr × Str)), (∀ (s : Shared) (v : Value), BindsTo s fd ⟨[v], []⟩ [("script", v)]) ∧ (∀ p ∈ cs, K.lookup p.2 = none) ∧ (∀ p ∈ cs, ∃ (y : Str) (e : DefRec), (recsOf qq).find? (fun e => e.name == y) = some e ∧ PySem.W.tabIn K y = some p) ∧ (∀ t ∈ T, ∃ p ∈ cs, p.2 = t.1) ∧ ∀ base : Heap, K.In base → base.Ns mainGlobals mg → (∀ p ∈ cs, LamX.TabB base mg p.1 p.2) → FnOk P w K mg base (L2.CX P w) 10 fa fd ["script"] (spLaw K T 63) := by
  have e := hfa.symm.trans (PySem.W.mg_of X G g_law)
  cases e
  let C : Cn := { K := K, cls := fun n => match n with  | _ => A_Action, ecl := fun n => match n with | 0 => .ref X_InvalidName | 1 => .ref X_InvalidAction | _ => .ref X_ParseError, fld := fun n => match n with | 0 => [] | 1 => [] | _ => ["line"], tabs := [(tb__law_right, ("_law_right" : Str) ++ ".<locals>." ++ "<lambda>"), (tb_law, ("law" : Str) ++ ".<locals>." ++ "<lambda>")] }
  have F__law_tape := fun_mk (st := s__law_tape) l__law_tape c0__law_tape p__law_tape
  have B__law_tape := F__law_tape.binds (ps := ["script", "spot"]) fun _ _ _ _ _ _ us hl => match us, hl with | [_, _], _ => rfl
  have F__law_roll := fun_mk (st := s__law_roll) l__law_roll c0__law_roll p__law_roll
  have B__law_roll := F__law_roll.binds (ps := ["tape", "total"]) fun _ _ _ _ _ _ us hl => match us, hl with | [_, _], _ => rfl
  have F__law_pick := fun_mk (st := s__law_pick) l__law_pick c0__law_pick p__law_pick
  have B__law_pick := F__law_pick.binds (ps := ["tape", "items"]) fun _ _ _ _ _ _ us hl => match us, hl with | [_, _], _ => rfl
  have F__law_few := fun_mk (st := s__law_few) l__law_few c0__law_few p__law_few
  have B__law_few := F__law_few.binds (ps := ["tape", "items", "many"]) fun _ _ _ _ _ _ us hl => match us, hl with | [_, _, _], _ => rfl
  have F__law_word_drawn := fun_mk (st := s__law_word_drawn) l__law_word_drawn c0__law_word_drawn p__law_word_drawn
  have B__law_word_drawn := F__law_word_drawn.binds (ps := ["tape"]) fun _ _ _ _ _ _ us hl => match us, hl with | [_], _ => rfl
  have F__law_action_line := fun_mk (st := s__law_action_line) l__law_action_line c0__law_action_line p__law_action_line
  have B__law_action_line := F__law_action_line.binds (ps := ["called", "moves"]) fun _ _ _ _ _ _ us hl => match us, hl with | [_, _], _ => rfl
  have F__law_words_drawn := fun_mk (st := s__law_words_drawn) l__law_words_drawn c0__law_words_drawn p__law_words_drawn
  have B__law_words_drawn := F__law_words_drawn.binds (ps := ["tape", "lots"]) fun _ _ _ _ _ _ us hl => match us, hl with | [_, _], _ => rfl
  have F__law_moves_drawn := fun_mk (st := s__law_moves_drawn) l__law_moves_drawn c0__law_moves_drawn p__law_moves_drawn
  have B__law_moves_drawn := F__law_moves_drawn.binds (ps := ["tape"]) fun _ _ _ _ _ _ us hl => match us, hl with | [_], _ => rfl
  have F__law_wrong_line := fun_mk (st := s__law_wrong_line) l__law_wrong_line c0__law_wrong_line p__law_wrong_line
  have B__law_wrong_line := F__law_wrong_line.binds (ps := ["tape", "called", "moves"]) fun _ _ _ _ _ _ us hl => match us, hl with | [_, _, _], _ => rfl
  have F__law_wrong_moves := fun_mk (st := s__law_wrong_moves) l__law_wrong_moves c0__law_wrong_moves p__law_wrong_moves
  have B__law_wrong_moves := F__law_wrong_moves.binds (ps := ["tape", "moves"]) fun _ _ _ _ _ _ us hl => match us, hl with | [_, _], _ => rfl
  have F_is_name := fun_mk (st := s_is_name) l_is_name c0_is_name p_is_name
  have B_is_name := F_is_name.binds (ps := ["value"]) fun _ _ _ _ _ _ us hl => match us, hl with | [_], _ => rfl
  have F_is_move := fun_mk (st := s_is_move) l_is_move c0_is_move p_is_move
  have B_is_move := F_is_move.binds (ps := ["value"]) fun _ _ _ _ _ _ us hl => match us, hl with | [_], _ => rfl
  have F_are_moves := fun_mk (st := s_are_moves) l_are_moves c0_are_moves p_are_moves
  have B_are_moves := F_are_moves.binds (ps := ["value"]) fun _ _ _ _ _ _ us hl => match us, hl with | [_], _ => rfl
  have F_Action_init := fun_mk (st := s_Action_init) l_Action_init c0_Action_init p_Action_init
  have B_Action_init := F_Action_init.binds (ps := ["self", "called", "moves"]) fun _ _ _ _ _ _ us hl => match us, hl with | [_, _, _], _ => rfl
  have F_Action_str := fun_mk (st := s_Action_str) l_Action_str c0_Action_str p_Action_str
  have B_Action_str := F_Action_str.binds (ps := ["self"]) fun _ _ _ _ _ _ us hl => match us, hl with | [_], _ => rfl
  have F_Action_from_line := fun_mk (st := s_Action_from_line) l_Action_from_line c0_Action_from_line p_Action_from_line
  have B_Action_from_line := F_Action_from_line.binds (ps := ["cls", "line"]) fun _ _ _ _ _ _ us hl => match us, hl with | [_, _], _ => rfl
  have F_Action_called := fun_mk (st := s_Action_called) l_Action_called c0_Action_called p_Action_called
  have B_Action_called := F_Action_called.binds (ps := ["self"]) fun _ _ _ _ _ _ us hl => match us, hl with | [_], _ => rfl
  have F_Action_moves := fun_mk (st := s_Action_moves) l_Action_moves c0_Action_moves p_Action_moves
  have B_Action_moves := F_Action_moves.binds (ps := ["self"]) fun _ _ _ _ _ _ us hl => match us, hl with | [_], _ => rfl
  have F_Action_owners := fun_mk (st := s_Action_owners) l_Action_owners c0_Action_owners p_Action_owners
  have B_Action_owners := F_Action_owners.binds (ps := ["self"]) fun _ _ _ _ _ _ us hl => match us, hl with | [_], _ => rfl
  have F_Action_len := fun_mk (st := s_Action_len) l_Action_len c0_Action_len p_Action_len
  have B_Action_len := F_Action_len.binds (ps := ["self"]) fun _ _ _ _ _ _ us hl => match us, hl with | [_], _ => rfl
  have F_Action_eq := fun_mk (st := s_Action_eq) l_Action_eq c0_Action_eq p_Action_eq
  have B_Action_eq := F_Action_eq.binds (ps := ["self", "value"]) fun _ _ _ _ _ _ us hl => match us, hl with | [_, _], _ => rfl
  have F__law_right := fun_mk (st := s__law_right) l__law_right c0__law_right p__law_right
  have B__law_right := F__law_right.binds (ps := ["tape"]) fun _ _ _ _ _ _ us hl => match us, hl with | [_], _ => rfl
  have F_law := fun_mk (st := s_law) l_law c0_law p_law
  have F__law_met := fun_mk (st := s__law_met) l__law_met c0__law_met p__law_met
  have B__law_met := F__law_met.binds (ps := ["call"]) fun _ _ _ _ _ _ us hl => match us, hl with | [_], _ => rfl
  have T : ∀ base : Heap, (∀ p ∈ ([(cl__law_right, tb__law_right), (cl_law, tb_law)] : List (Addr × Addr)), LamX.TabB base mg p.1 p.2) → Tx P K mg base C := fun base HT => {
    hK := rfl
    d__law_tape := ⟨a__law_tape, _, F__law_tape, PySem.W.mg_of X G g__law_tape, B__law_tape⟩
    d__law_roll := ⟨a__law_roll, _, F__law_roll, PySem.W.mg_of X G g__law_roll, B__law_roll⟩
    d__law_pick := ⟨a__law_pick, _, F__law_pick, PySem.W.mg_of X G g__law_pick, B__law_pick⟩
    d__law_few := ⟨a__law_few, _, F__law_few, PySem.W.mg_of X G g__law_few, B__law_few⟩
    d__law_word_drawn := ⟨a__law_word_drawn, _, F__law_word_drawn, PySem.W.mg_of X G g__law_word_drawn, B__law_word_drawn⟩
    d__law_action_line := ⟨a__law_action_line, _, F__law_action_line, PySem.W.mg_of X G g__law_action_line, B__law_action_line⟩
    d__law_words_drawn := ⟨a__law_words_drawn, _, F__law_words_drawn, PySem.W.mg_of X G g__law_words_drawn, B__law_words_drawn⟩
    d__law_moves_drawn := ⟨a__law_moves_drawn, _, F__law_moves_drawn, PySem.W.mg_of X G g__law_moves_drawn, B__law_moves_drawn⟩
    d__law_wrong_line := ⟨a__law_wrong_line, _, F__law_wrong_line, PySem.W.mg_of X G g__law_wrong_line, B__law_wrong_line⟩
    d__law_wrong_moves := ⟨a__law_wrong_moves, _, F__law_wrong_moves, PySem.W.mg_of X G g__law_wrong_moves, B__law_wrong_moves⟩
    d_is_name := ⟨a_is_name, _, F_is_name, PySem.W.mg_of X G g_is_name, B_is_name⟩
    d_is_move := ⟨a_is_move, _, F_is_move, PySem.W.mg_of X G g_is_move, B_is_move⟩
    d_are_moves := ⟨a_are_moves, _, F_are_moves, PySem.W.mg_of X G g_are_moves, B_are_moves⟩
    m_Action_init := ⟨a_Action_init, _, ⟨mk_Action_init, fi_Action_init, if_Action_init, kk_Action_init⟩, F_Action_init, B_Action_init⟩
    m_Action_str := ⟨⟨a_Action_str, _, fi_Action_str, if_Action_str, F_Action_str, B_Action_str⟩, fm_Action_str, cm_Action⟩
    m_Action_from_line := ⟨.type "type", pd_Action_from_line, a_Action_from_line, _, ⟨rd_Action_from_line, ga_Action_from_line⟩, ⟨fc_Action_from_line, ⟨_, re_Action_from_line⟩, fn_Action_from_line⟩, F_Action_from_line, B_Action_from_line⟩
    m_Action_called := ⟨⟨pg_Action, ik_Action, po_Action, sc_Action⟩, pd_Action_called, a_Action_called, _, fi_Action_called, sg_Action_called, tk_Action_called, ⟨_, re_Action_called⟩, F_Action_called, B_Action_called⟩
    m_Action_moves := ⟨⟨pg_Action, ik_Action, po_Action, sc_Action⟩, pd_Action_moves, a_Action_moves, _, fi_Action_moves, sg_Action_moves, tk_Action_moves, ⟨_, re_Action_moves⟩, F_Action_moves, B_Action_moves⟩
    m_Action_owners := ⟨⟨pg_Action, ik_Action, po_Action, sc_Action⟩, pd_Action_owners, a_Action_owners, _, fi_Action_owners, sg_Action_owners, tk_Action_owners, ⟨_, re_Action_owners⟩, F_Action_owners, B_Action_owners⟩
    m_Action_len := ⟨a_Action_len, _, fi_Action_len, if_Action_len, F_Action_len, B_Action_len⟩
    m_Action_eq := ⟨⟨a_Action_eq, _, fi_Action_eq, if_Action_eq, F_Action_eq, B_Action_eq⟩, ne_Action_eq, so_Action_eq, all_base nb_NoneType_Action_eq nb_bool_Action_eq nb_int_Action_eq nb_str_Action_eq nb_tuple_Action_eq nb_list_Action_eq nb_dict_Action_eq, fun c => match c with  | _ + 0 => nc_Action_Action_eq⟩
    d__law_right := ⟨cl__law_right, tb__law_right, a__law_right, _, _, _, _, _, _, _, _, l__law_right, c0__law_right, p__law_right, PySem.W.mg_of X G g__law_right, B__law_right, HT _ (.head _), (.head _), (tabs_uni (T := [(tb__law_right, _), (tb_law, _)]) nd_tabs (.head _))⟩
    d__law_met := ⟨a__law_met, _, F__law_met, PySem.W.mg_of X G g__law_met, B__law_met⟩
    cl_Action := PySem.W.mg_of X G gk_Action
    fs_own_called := ⟨fun c j h => by
      unfold gs_own_called at h
      by_cases h0 : c = 0
      · subst h0
        cases h
        exact ⟨⟨pg_Action, ik_Action, po_Action, sc_Action⟩, D_Action_own_called, da_Action_own_called, dg_Action_own_called, dk_Action_own_called, dt_Action_own_called, di_Action_own_called, by decide⟩
      · rw [if_neg h0] at h
        cases h⟩
    fs_own_moves := ⟨fun c j h => by
      unfold gs_own_moves at h
      by_cases h0 : c = 0
      · subst h0
        cases h
        exact ⟨⟨pg_Action, ik_Action, po_Action, sc_Action⟩, D_Action_own_moves, da_Action_own_moves, dg_Action_own_moves, dk_Action_own_moves, dt_Action_own_moves, di_Action_own_moves, by decide⟩
      · rw [if_neg h0] at h
        cases h⟩
    i_Action := ⟨A_Action, PySem.W.mg_of X G gk_Action, all_base (kit_of_sub ik_Action ty_Action ib_NoneType_Action (fun h => absurd h (by simp))) (kit_of_sub ik_Action ty_Action ib_bool_Action (fun h => absurd h (by simp))) (kit_of_sub ik_Action ty_Action ib_int_Action (fun h => absurd h (by simp))) (kit_of_sub ik_Action ty_Action ib_str_Action (fun h => absurd h (by simp))) (kit_of_sub ik_Action ty_Action ib_tuple_Action (fun h => absurd h (by simp))) (kit_of_sub ik_Action ty_Action ib_list_Action (fun h => absurd h (by simp))) (kit_of_sub ik_Action ty_Action ib_dict_Action (fun h => absurd h (by simp))), fun c => match c with  | _ + 0 => ⟨kit_of_sub ik_Action ty_Action ij_Action_Action (fun _ => rfl), ⟨pg_Action, ik_Action, po_Action, sc_Action⟩, ⟨ca_Action, cn_, ct_, cm_Action⟩⟩⟩
    n_abs := PySem.W.mg_none_of X G z_abs
    n_all := PySem.W.mg_none_of X G z_all
    n_int := PySem.W.mg_none_of X G z_int
    n_isinstance := PySem.W.mg_none_of X G z_isinstance
    n_len := PySem.W.mg_none_of X G z_len
    n_list := PySem.W.mg_none_of X G z_list
    n_max := PySem.W.mg_none_of X G z_max
    n_min := PySem.W.mg_none_of X G z_min
    n_range := PySem.W.mg_none_of X G z_range
    n_repr := PySem.W.mg_none_of X G z_repr
    n_set := PySem.W.mg_none_of X G z_set
    n_sorted := PySem.W.mg_none_of X G z_sorted
    n_str := PySem.W.mg_none_of X G z_str
    n_tuple := PySem.W.mg_none_of X G z_tuple
    c_MAX_LETTERS := ⟨tk_MAX_LETTERS, PySem.W.mg_of X G v_MAX_LETTERS⟩
    c_MAX_MOVES := ⟨tk_MAX_MOVES, PySem.W.mg_of X G v_MAX_MOVES⟩
    x_InvalidAction := ⟨X_InvalidAction, "ValueError", "ValueError.__new__", "ValueError.__init__", [.type "ValueError", .type "Exception", .type "BaseException", .type "object"], rfl, PySem.F.excBase_ValueError, qx_InvalidAction, PySem.W.mg_of X G gx_InvalidAction, kx_InvalidAction, ex_InvalidAction, tx_InvalidAction⟩
    x_InvalidName := ⟨X_InvalidName, "ValueError", "ValueError.__new__", "ValueError.__init__", [.type "ValueError", .type "Exception", .type "BaseException", .type "object"], rfl, PySem.F.excBase_ValueError, qx_InvalidName, PySem.W.mg_of X G gx_InvalidName, kx_InvalidName, ex_InvalidName, tx_InvalidName⟩
    x_ParseError := ⟨X_ParseError, I_ParseError, "ValueError", "ValueError.__new__", "ValueError.__init__", [.type "ValueError", .type "Exception", .type "BaseException", .type "object"], rfl, rfl, { gC := PySem.W.mg_of X G gx_ParseError, gS := PySem.W.mg_none_of X G z_super, xi := xi_ParseError, cls := ⟨cdt_ParseError, cl0_ParseError, rv_ParseError, hd_ParseError⟩, sa := sa_ParseError, noN := nn_ParseError, iC := ic_ParseError, tC := ti_ParseError, kC := kx_ParseError, exC := ex_ParseError, tyC := tx_ParseError, hB := hb_ParseError, me := me_ParseError, sup := su_ParseError, op := op, fn := ⟨_, _, _, _, _, _, _, _, _, _, _, _, _, _, _, _, _, _, _, _, _, _, _, _, _, _, li_ParseError, rfl, ci_ParseError, ce_ParseError, cf_ParseError, vf_ParseError, ff_ParseError, by first | rfl | decide⟩, top := top_s }, GX.nm_line, PySem.W.kxs_ValueError, PySem.F.excBase_ValueError⟩
    h_InvalidAction := ⟨.ref X_InvalidAction, PySem.W.mg_of X G gx_InvalidAction, fun n => by
      unfold h_InvalidAction
      exact match n with | 0 => exm_of ex_InvalidAction is_InvalidAction tx_InvalidAction sb_InvalidName_InvalidAction | 1 => exm_of ex_InvalidAction is_InvalidAction tx_InvalidAction sb_InvalidAction_InvalidAction | _ + 2 => exm_of ex_InvalidAction is_InvalidAction tx_InvalidAction sb_ParseError_InvalidAction⟩
    h_InvalidName := ⟨.ref X_InvalidName, PySem.W.mg_of X G gx_InvalidName, fun n => by
      unfold h_InvalidName
      exact match n with | 0 => exm_of ex_InvalidName is_InvalidName tx_InvalidName sb_InvalidName_InvalidName | 1 => exm_of ex_InvalidName is_InvalidName tx_InvalidName sb_InvalidAction_InvalidName | _ + 2 => exm_of ex_InvalidName is_InvalidName tx_InvalidName sb_ParseError_InvalidName⟩
    h_ParseError := ⟨.ref X_ParseError, PySem.W.mg_of X G gx_ParseError, fun n => by
      unfold h_ParseError
      exact match n with | 0 => exm_of ex_ParseError is_ParseError tx_ParseError sb_InvalidName_ParseError | 1 => exm_of ex_ParseError is_ParseError tx_ParseError sb_InvalidAction_ParseError | _ + 2 => exm_of ex_ParseError is_ParseError tx_ParseError sb_ParseError_ParseError⟩
    f_ParseError := ⟨X_ParseError, (fun k => match k with | 0 => fun h => by cases (show false = true from h) | 1 => fun h => by cases (show false = true from h) | _ + 2 => fun _ => ⟨rfl, rfl⟩), ⟨xa_ParseError, xg_ParseError, ex_ParseError, xh_ParseError⟩, nn_ParseError⟩
  }
  exact ⟨_, [(cl__law_right, tb__law_right), (cl_law, tb_law)], C.tabs, fun s v => .of_eq rfl, (List.forall_mem_cons.mpr ⟨nt__law_right, (List.forall_mem_cons.mpr ⟨nt_law, (fun _ h => nomatch h)⟩)⟩), (List.forall_mem_cons.mpr ⟨⟨_, _, rc__law_right, tabIn_of g__law_right l__law_right rfl lc__law_right tv__law_right⟩, (List.forall_mem_cons.mpr ⟨⟨_, _, rc_law, tabIn_of g_law l_law rfl lc_law tv_law⟩, (fun _ h => nomatch h)⟩)⟩), (List.forall_mem_cons.mpr ⟨⟨_, (.head _), rfl⟩, (List.forall_mem_cons.mpr ⟨⟨_, (.tail _ (.head _)), rfl⟩, (fun _ h => nomatch h)⟩)⟩), fun base _ _ HT => k_law (T base HT) rfl l_law c0_law (HT _ (.tail _ (.head _))) (.tail _ (.head _)) (tabs_uni (T := [(tb__law_right, _), (tb_law, _)]) nd_tabs (.tail _ (.head _))) pure_law⟩
end Kx
open PySem PySem.W PyProof.Rows in
set_option maxRecDepth 100000 in
set_option maxHeartbeats 0 in
theorem PySem.Challenge.cw_groupclocks_k05_actions_and_their_lines_holds : PySem.Challenge.rw_groupclocks_k05_actions_and_their_lines.Holds := by
  w_on; o_law; k_head; (case hw => w_witness2)
  k_fill
  refine G.walk_D (l := PySem.Challenge.rw_groupclocks_k05_actions_and_their_lines) (k := 10) (n := 63) (x := "script") rfl (by decide) rfl ⟨rfl, by decide, by decide⟩ (fun w h Y => by first | exact PySem.W.kIn_of Y | exact PySem.W.km_in_of Y) ?F
  case F =>
    intro w mg fa h KX G hmg
    refine' Kx.all_mk KX G hmg ?g__law_tape ?l__law_tape ?c0__law_tape ?p__law_tape ?g__law_roll ?l__law_roll ?c0__law_roll ?p__law_roll ?g__law_pick ?l__law_pick ?c0__law_pick ?p__law_pick ?g__law_few ?l__law_few ?c0__law_few ?p__law_few ?g__law_word_drawn ?l__law_word_drawn ?c0__law_word_drawn ?p__law_word_drawn ?g__law_action_line ?l__law_action_line ?c0__law_action_line ?p__law_action_line ?g__law_words_drawn ?l__law_words_drawn ?c0__law_words_drawn ?p__law_words_drawn ?g__law_moves_drawn ?l__law_moves_drawn ?c0__law_moves_drawn ?p__law_moves_drawn ?g__law_wrong_line ?l__law_wrong_line ?c0__law_wrong_line ?p__law_wrong_line ?g__law_wrong_moves ?l__law_wrong_moves ?c0__law_wrong_moves ?p__law_wrong_moves ?g_is_name ?l_is_name ?c0_is_name ?p_is_name ?g_is_move ?l_is_move ?c0_is_move ?p_is_move ?g_are_moves ?l_are_moves ?c0_are_moves ?p_are_moves ?g__law_right ?l__law_right ?c0__law_right ?lc__law_right ?tv__law_right ?nt__law_right ?rc__law_right ?p__law_right ?g_law ?l_law ?c0_law ?lc_law ?tv_law ?nt_law ?rc_law ?p_law ?g__law_met ?l__law_met ?c0__law_met ?p__law_met ?gk_Action ?pg_Action ?ik_Action ?po_Action ?sc_Action ?da_Action_own_called ?dg_Action_own_called ?dk_Action_own_called ?dt_Action_own_called ?di_Action_own_called ?da_Action_own_moves ?dg_Action_own_moves ?dk_Action_own_moves ?dt_Action_own_moves ?di_Action_own_moves ?cm_Action ?ca_Action ?cn_ ?ct_ ?ty_Action ?ib_NoneType_Action ?ib_bool_Action ?ib_int_Action ?ib_str_Action ?ib_tuple_Action ?ib_list_Action ?ib_dict_Action ?ij_Action_Action ?fi_Action_init ?if_Action_init ?mk_Action_init ?kk_Action_init ?l_Action_init ?c0_Action_init ?p_Action_init ?fi_Action_str ?if_Action_str ?fm_Action_str ?l_Action_str ?c0_Action_str ?p_Action_str ?rd_Action_from_line ?ga_Action_from_line ?fc_Action_from_line ?re_Action_from_line ?fn_Action_from_line ?l_Action_from_line ?c0_Action_from_line ?p_Action_from_line ?fi_Action_called ?sg_Action_called ?tk_Action_called ?re_Action_called ?l_Action_called ?c0_Action_called ?p_Action_called ?fi_Action_moves ?sg_Action_moves ?tk_Action_moves ?re_Action_moves ?l_Action_moves ?c0_Action_moves ?p_Action_moves ?fi_Action_owners ?sg_Action_owners ?tk_Action_owners ?re_Action_owners ?l_Action_owners ?c0_Action_owners ?p_Action_owners ?fi_Action_len ?if_Action_len ?l_Action_len ?c0_Action_len ?p_Action_len ?fi_Action_eq ?if_Action_eq ?ne_Action_eq ?so_Action_eq ?nb_NoneType_Action_eq ?nb_bool_Action_eq ?nb_int_Action_eq ?nb_str_Action_eq ?nb_tuple_Action_eq ?nb_list_Action_eq ?nb_dict_Action_eq ?nc_Action_Action_eq ?l_Action_eq ?c0_Action_eq ?p_Action_eq ?z_abs ?z_all ?z_int ?z_isinstance ?z_len ?z_list ?z_max ?z_min ?z_range ?z_repr ?z_set ?z_sorted ?z_str ?z_tuple ?z_super ?op ?v_MAX_LETTERS ?v_MAX_MOVES ?gx_InvalidAction ?tx_InvalidAction ?ex_InvalidAction ?kx_InvalidAction ?qx_InvalidAction ?gx_InvalidName ?tx_InvalidName ?ex_InvalidName ?kx_InvalidName ?qx_InvalidName ?gx_ParseError ?tx_ParseError ?ex_ParseError ?kx_ParseError ?xi_ParseError ?cl0_ParseError ?rv_ParseError ?hd_ParseError ?sa_ParseError ?nn_ParseError ?ic_ParseError ?ti_ParseError ?hb_ParseError ?me_ParseError ?su_ParseError ?li_ParseError ?ci_ParseError ?ce_ParseError ?cf_ParseError ?vf_ParseError ?ff_ParseError ?is_InvalidAction ?sb_InvalidName_InvalidAction ?sb_InvalidAction_InvalidAction ?sb_ParseError_InvalidAction ?is_InvalidName ?sb_InvalidName_InvalidName ?sb_InvalidAction_InvalidName ?sb_ParseError_InvalidName ?xa_ParseError ?xg_ParseError ?xh_ParseError ?is_ParseError ?sb_InvalidName_ParseError ?sb_InvalidAction_ParseError ?sb_ParseError_ParseError ?top_s ?nd_tabs
    (case g__law_tape => k_is)
    (case l__law_tape => k_is)
    (case c0__law_tape => k_is)
    (case p__law_tape => k_is)
    (case g__law_roll => k_is)
    (case l__law_roll => k_is)
    (case c0__law_roll => k_is)
    (case p__law_roll => k_is)
    (case g__law_pick => k_is)
    (case l__law_pick => k_is)
    (case c0__law_pick => k_is)
    (case p__law_pick => k_is)
    (case g__law_few => k_is)
    (case l__law_few => k_is)
    (case c0__law_few => k_is)
    (case p__law_few => k_is)
    (case g__law_word_drawn => k_is)
    (case l__law_word_drawn => k_is)
    (case c0__law_word_drawn => k_is)
    (case p__law_word_drawn => k_is)
    (case g__law_action_line => k_is)
    (case l__law_action_line => k_is)
    (case c0__law_action_line => k_is)
    (case p__law_action_line => k_is)
    (case g__law_words_drawn => k_is)
    (case l__law_words_drawn => k_is)
    (case c0__law_words_drawn => k_is)
    (case p__law_words_drawn => k_is)
    (case g__law_moves_drawn => k_is)
    (case l__law_moves_drawn => k_is)
    (case c0__law_moves_drawn => k_is)
    (case p__law_moves_drawn => k_is)
    (case g__law_wrong_line => k_is)
    (case l__law_wrong_line => k_is)
    (case c0__law_wrong_line => k_is)
    (case p__law_wrong_line => k_is)
    (case g__law_wrong_moves => k_is)
    (case l__law_wrong_moves => k_is)
    (case c0__law_wrong_moves => k_is)
    (case p__law_wrong_moves => k_is)
    (case g_is_name => k_is)
    (case l_is_name => k_is)
    (case c0_is_name => k_is)
    (case p_is_name => k_is)
    (case g_is_move => k_is)
    (case l_is_move => k_is)
    (case c0_is_move => k_is)
    (case p_is_move => k_is)
    (case g_are_moves => k_is)
    (case l_are_moves => k_is)
    (case c0_are_moves => k_is)
    (case p_are_moves => k_is)
    (case g__law_right => k_is)
    (case l__law_right => k_is)
    (case c0__law_right => k_is)
    (case lc__law_right => k_is)
    (case tv__law_right => rfl)
    (case nt__law_right => first | kernel_rfl | rfl)
    (case rc__law_right => first | rfl | kernel_rfl)
    (case p__law_right => k_is)
    (case g_law => k_is)
    (case l_law => k_is)
    (case c0_law => k_is)
    (case lc_law => k_is)
    (case tv_law => rfl)
    (case nt_law => first | kernel_rfl | rfl)
    (case rc_law => first | rfl | kernel_rfl)
    (case p_law => k_is)
    (case g__law_met => k_is)
    (case l__law_met => k_is)
    (case c0__law_met => k_is)
    (case p__law_met => k_is)
    (case gk_Action => k_is)
    (case pg_Action => k_is)
    (case ik_Action => k_is)
    (case po_Action => k_is)
    (case sc_Action => k_is)
    (case da_Action_own_called => k_is)
    (case dg_Action_own_called => k_is)
    (case dk_Action_own_called => k_is)
    (case dt_Action_own_called => k_is)
    (case di_Action_own_called => k_is)
    (case da_Action_own_moves => k_is)
    (case dg_Action_own_moves => k_is)
    (case dk_Action_own_moves => k_is)
    (case dt_Action_own_moves => k_is)
    (case di_Action_own_moves => k_is)
    (case cm_Action => k_is)
    (case ca_Action => k_is)
    (case cn_ => k_is)
    (case ct_ => k_is)
    (case ty_Action => k_is)
    (case ib_NoneType_Action => k_is)
    (case ib_bool_Action => k_is)
    (case ib_int_Action => k_is)
    (case ib_str_Action => k_is)
    (case ib_tuple_Action => k_is)
    (case ib_list_Action => k_is)
    (case ib_dict_Action => k_is)
    (case ij_Action_Action => k_is)
    (case fi_Action_init => k_is)
    (case if_Action_init => k_is)
    (case mk_Action_init => k_is)
    (case kk_Action_init => k_is)
    (case l_Action_init => k_is)
    (case c0_Action_init => k_is)
    (case p_Action_init => k_is)
    (case fi_Action_str => k_is)
    (case if_Action_str => k_is)
    (case fm_Action_str => k_is)
    (case l_Action_str => k_is)
    (case c0_Action_str => k_is)
    (case p_Action_str => k_is)
    (case rd_Action_from_line => k_is)
    (case ga_Action_from_line => k_is)
    (case fc_Action_from_line => k_is)
    (case re_Action_from_line => k_is)
    (case fn_Action_from_line => k_is)
    (case l_Action_from_line => k_is)
    (case c0_Action_from_line => k_is)
    (case p_Action_from_line => k_is)
    (case fi_Action_called => k_is)
    (case sg_Action_called => k_is)
    (case tk_Action_called => k_is)
    (case re_Action_called => k_is)
    (case l_Action_called => k_is)
    (case c0_Action_called => k_is)
    (case p_Action_called => k_is)
    (case fi_Action_moves => k_is)
    (case sg_Action_moves => k_is)
    (case tk_Action_moves => k_is)
    (case re_Action_moves => k_is)
    (case l_Action_moves => k_is)
    (case c0_Action_moves => k_is)
    (case p_Action_moves => k_is)
    (case fi_Action_owners => k_is)
    (case sg_Action_owners => k_is)
    (case tk_Action_owners => k_is)
    (case re_Action_owners => k_is)
    (case l_Action_owners => k_is)
    (case c0_Action_owners => k_is)
    (case p_Action_owners => k_is)
    (case fi_Action_len => k_is)
    (case if_Action_len => k_is)
    (case l_Action_len => k_is)
    (case c0_Action_len => k_is)
    (case p_Action_len => k_is)
    (case fi_Action_eq => k_is)
    (case if_Action_eq => k_is)
    (case ne_Action_eq => k_is)
    (case so_Action_eq => k_is)
    (case nb_NoneType_Action_eq => k_is)
    (case nb_bool_Action_eq => k_is)
    (case nb_int_Action_eq => k_is)
    (case nb_str_Action_eq => k_is)
    (case nb_tuple_Action_eq => k_is)
    (case nb_list_Action_eq => k_is)
    (case nb_dict_Action_eq => k_is)
    (case nc_Action_Action_eq => k_is)
    (case l_Action_eq => k_is)
    (case c0_Action_eq => k_is)
    (case p_Action_eq => k_is)
    (case z_abs => k_is)
    (case z_all => k_is)
    (case z_int => k_is)
    (case z_isinstance => k_is)
    (case z_len => k_is)
    (case z_list => k_is)
    (case z_max => k_is)
    (case z_min => k_is)
    (case z_range => k_is)
    (case z_repr => k_is)
    (case z_set => k_is)
    (case z_sorted => k_is)
    (case z_str => k_is)
    (case z_tuple => k_is)
    (case z_super => k_is)
    (case op => k_is)
    (case v_MAX_LETTERS => k_is)
    (case v_MAX_MOVES => k_is)
    (case gx_InvalidAction => k_is)
    (case tx_InvalidAction => k_is)
    (case ex_InvalidAction => k_is)
    (case kx_InvalidAction => k_is)
    (case qx_InvalidAction => k_exc)
    (case gx_InvalidName => k_is)
    (case tx_InvalidName => k_is)
    (case ex_InvalidName => k_is)
    (case kx_InvalidName => k_is)
    (case qx_InvalidName => k_exc)
    (case gx_ParseError => k_is)
    (case tx_ParseError => k_is)
    (case ex_ParseError => k_is)
    (case kx_ParseError => k_is)
    (case xi_ParseError => kx_is)
    (case cl0_ParseError => k_is)
    (case rv_ParseError => rfl)
    (case hd_ParseError => rfl)
    (case sa_ParseError => k_is)
    (case nn_ParseError => k_is)
    (case ic_ParseError => k_is)
    (case ti_ParseError => k_is)
    (case hb_ParseError => k_is)
    (case me_ParseError => k_is)
    (case su_ParseError => first | ks_is | k_is)
    (case li_ParseError => k_is)
    (case ci_ParseError => k_is)
    (case ce_ParseError => k_is)
    (case cf_ParseError => k_is)
    (case vf_ParseError => rfl)
    (case ff_ParseError => rfl)
    (case is_InvalidAction => k_is)
    (case sb_InvalidName_InvalidAction => k_is)
    (case sb_InvalidAction_InvalidAction => k_is)
    (case sb_ParseError_InvalidAction => k_is)
    (case is_InvalidName => k_is)
    (case sb_InvalidName_InvalidName => k_is)
    (case sb_InvalidAction_InvalidName => k_is)
    (case sb_ParseError_InvalidName => k_is)
    (case xa_ParseError => k_is)
    (case xg_ParseError => k_is)
    (case xh_ParseError => k_is)
    (case is_ParseError => k_is)
    (case sb_InvalidName_ParseError => k_is)
    (case sb_InvalidAction_ParseError => k_is)
    (case sb_ParseError_ParseError => k_is)
    (case top_s => rfl)
    (case nd_tabs => decide)
end
