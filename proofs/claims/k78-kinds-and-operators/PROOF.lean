import PyProof.Rows.All
import Wide.All
import OpenK.AllK
import Wide.FinOn
import HandS.ForMost
import HandS.ForExc
import HandS.SetKeys
import HandS.Flow
import HandS.TupAny
import HandS.IsInst
import HandS.SortInts
import HandS.Deep
import HandS.NoneIn
import HandS.Wide
import HandS.TupLen
import KE.KExcSuper
import KE.KSuper
import HandS.ExcInit
import HandS.ExcField
import HandS.ExcIs
import HandS.ExcCtx
import KE.KExcIs
import HandS.CallSlots
import KE.KOpsOwn
import PyProof.EqKinds
import HandS.OwnEq
import HandS.Property
import HandS.ClsMeth
import PySem.Challenge.RW_cheapturns_k78_kinds_and_operators
set_option Elab.async false
set_option linter.all false
set_option maxRecDepth 100000
set_option maxHeartbeats 1000000
/-! VS.1: data trees, ownership, the state relation. -/
namespace VS
open PySem L2

/-- data: what a value of the program is, as a tree. The Bool of a list, dict, set, object: owned (may be changed) or shared (never changes any more). -/
inductive D where
  | non | bl (b : Bool) | int (i : Int) | str (x : Str) | cls (c : String)
  | lst (o : Bool) (xs : List D) | tup (xs : List D)
  | dic (o : Bool) (kvs : List (Key × D)) | dct (o : Bool) (kvs : List (List Key × D))
  | set (o : Bool) (ks : List Key)
  | fro (xs : List D)
  | obj (o : Bool) (c : String) (fs : List (Str × D))
  | exn (c : String) (fs : List (Str × D))

/-- what the relation leans on -/
structure Kc where
  K : PySem.W.Frag
  P : Program
  w : World
  ca : String → Addr
  /-- the exception that an except suite has in hand: where it stands, its class, its dict -/
  ex : Option (Addr × String × Option Addr) := none

mutual
inductive Own (κ : Kc) (F H : Hp) : V → D → List Addr → Prop where
  | non : Own κ F H .non .non []
  | bl (b : Bool) : Own κ F H (.bl b) (.bl b) []
  | int (i : Int) : Own κ F H (.int i) (.int i) []
  | str (x : Str) : Own κ F H (.str x) (.str x) []
  | cls (c : String) : Own κ F H (.ref (κ.ca c)) (.cls c) []
  | lstS {a : Addr} {vs : List V} {ds : List D} (h : F a = some (.lst vs)) (l : OwnL κ F H vs ds []) : Own κ F H (.ref a) (.lst false ds) []
  | fro {a : Addr} {vs : List V} {ds : List D} (h : SqL κ.K F a vs) (l : OwnL κ F H vs ds []) : Own κ F H (.ref a) (.fro ds) []
  | setS {a : Addr} {ks : List Key} {S : Key → Bool} (h : F a = some (SetK κ.P κ.w a S ks.length)) (e : ∀ k, S k = true ↔ k ∈ ks) (nd : ks.Nodup) : Own κ F H (.ref a) (.set false ks) []
  | setO {a : Addr} {ks : List Key} {S : Key → Bool} (h : H a = some (SetK κ.P κ.w a S ks.length)) (e : ∀ k, S k = true ↔ k ∈ ks) (nd : ks.Nodup) : Own κ F H (.ref a) (.set true ks) [a]
  | lstO {a : Addr} {vs : List V} {ds : List D} {O : List Addr} (h : H a = some (.lst vs)) (l : OwnL κ F H vs ds O) : Own κ F H (.ref a) (.lst true ds) (a :: O)
  | tup {a : Addr} {vs : List V} {ds : List D} {O : List Addr} (h : H a = some (.tup vs)) (l : OwnL κ F H vs ds O) : Own κ F H (.ref a) (.tup ds) O
  | dicS {a : Addr} {kv : List (Key × V)} {kd : List (Key × D)} (h : F a = some (.dK kv)) (e : kv.map Prod.fst = kd.map Prod.fst) (l : OwnL κ F H (kv.map Prod.snd) (kd.map Prod.snd) []) : Own κ F H (.ref a) (.dic false kd) []
  | dicO {a : Addr} {kv : List (Key × V)} {kd : List (Key × D)} {O : List Addr} (h : H a = some (.dK kv)) (e : kv.map Prod.fst = kd.map Prod.fst) (l : OwnL κ F H (kv.map Prod.snd) (kd.map Prod.snd) O) : Own κ F H (.ref a) (.dic true kd) (a :: O)
  | dctS {a : Addr} {kv : List (List Key × V)} {kd : List (List Key × D)} (h : F a = some (.dT kv)) (e : kv.map Prod.fst = kd.map Prod.fst) (l : OwnL κ F H (kv.map Prod.snd) (kd.map Prod.snd) []) : Own κ F H (.ref a) (.dct false kd) []
  | dctO {a : Addr} {kv : List (List Key × V)} {kd : List (List Key × D)} {O : List Addr} (h : H a = some (.dT kv)) (e : kv.map Prod.fst = kd.map Prod.fst) (l : OwnL κ F H (kv.map Prod.snd) (kd.map Prod.snd) O) : Own κ F H (.ref a) (.dct true kd) (a :: O)
  | objS {a dx : Addr} {c : String} {fv : List (Str × V)} {fd : List (Str × D)} (h : F a = some (.ins (κ.ca c) dx fv)) (e : fv.map Prod.fst = fd.map Prod.fst) (l : OwnL κ F H (fv.map Prod.snd) (fd.map Prod.snd) []) : Own κ F H (.ref a) (.obj false c fd) []
  | objO {a dx : Addr} {c : String} {fv : List (Str × V)} {fd : List (Str × D)} {O : List Addr} (h : H a = some (.ins (κ.ca c) dx fv)) (e : fv.map Prod.fst = fd.map Prod.fst) (l : OwnL κ F H (fv.map Prod.snd) (fd.map Prod.snd) O) : Own κ F H (.ref a) (.obj true c fd) (a :: O)
  | exn0 {a : Addr} {c : String} (h : κ.ex = some (a, c, none)) : Own κ F H (.ref a) (.exn c []) []
  | exn {a dx : Addr} {c : String} {fv : List (Str × V)} {fd : List (Str × D)} (h0 : κ.ex = some (a, c, some dx)) (h : F dx = some (.xd fv)) (e : fv.map Prod.fst = fd.map Prod.fst) (l : OwnL κ F H (fv.map Prod.snd) (fd.map Prod.snd) []) : Own κ F H (.ref a) (.exn c fd) []
inductive OwnL (κ : Kc) (F H : Hp) : List V → List D → List Addr → Prop where
  | nil : OwnL κ F H [] [] []
  | cons {v : V} {d : D} {vs : List V} {ds : List D} {O1 O2 : List Addr} (h : Own κ F H v d O1) (t : OwnL κ F H vs ds O2) : OwnL κ F H (v :: vs) (d :: ds) (O1 ++ O2)
end

/-- what stays of a heap: every tuple, every frozen thing -/
structure Keeps (H H' : Hp) : Prop where
  t : ∀ a xs, H a = some (.tup xs) → H' a = some (.tup xs)
  z : ∀ a o u, H a = some (.frz o u) → H' a = some (.frz o u)

variable {κ : Kc} {F F' H H' : Hp}

theorem sqT_keep {K : PySem.W.Frag} {a : Addr} {vs : List V} (k : Keeps H H') (h : SqT K H a vs) : SqT K H' a vs := by
  rcases h with (h | ⟨o, h⟩) | h
  · exact .inl (.inl (k.t _ _ h))
  · exact .inl (.inr ⟨o, k.z _ _ _ h⟩)
  · exact .inr h

mutual
theorem Own.frame {v : V} {d : D} {O : List Addr} (x : Own κ F H v d O) (f : Same F F') (k : Keeps H H') (h : ∀ a ∈ O, H' a = H a) : Own κ F' H' v d O := by
  match x with
  | .non => exact .non
  | .bl b => exact .bl b
  | .int i => exact .int i
  | .str s => exact .str s
  | .cls c => exact .cls c
  | .lstS h1 l => exact .lstS (f _ _ h1) (l.frame f k (fun a ha => nomatch ha))
  | .fro h1 l => exact .fro (f.seq h1) (l.frame f k (fun a ha => nomatch ha))
  | .setS h1 e n => exact .setS (f _ _ h1) e n
  | .setO h1 e n => exact .setO ((h _ (List.mem_cons_self)).trans h1) e n
  | .lstO h1 l => exact .lstO ((h _ (List.mem_cons_self)).trans h1) (l.frame f k fun a ha => h a (List.mem_cons_of_mem _ ha))
  | .tup h1 l => exact .tup (k.t _ _ h1) (l.frame f k h)
  | .dicS h1 e l => exact .dicS (f _ _ h1) e (l.frame f k (fun a ha => nomatch ha))
  | .dicO h1 e l => exact .dicO ((h _ (List.mem_cons_self)).trans h1) e (l.frame f k fun a ha => h a (List.mem_cons_of_mem _ ha))
  | .dctS h1 e l => exact .dctS (f _ _ h1) e (l.frame f k (fun a ha => nomatch ha))
  | .dctO h1 e l => exact .dctO ((h _ (List.mem_cons_self)).trans h1) e (l.frame f k fun a ha => h a (List.mem_cons_of_mem _ ha))
  | .objS h1 e l => exact .objS (f _ _ h1) e (l.frame f k (fun a ha => nomatch ha))
  | .objO h1 e l => exact .objO ((h _ (List.mem_cons_self)).trans h1) e (l.frame f k fun a ha => h a (List.mem_cons_of_mem _ ha))
  | .exn0 h0 => exact .exn0 h0
  | .exn h0 h1 e l => exact .exn h0 (f _ _ h1) e (l.frame f k (fun a ha => nomatch ha))
theorem OwnL.frame {vs : List V} {ds : List D} {O : List Addr} (x : OwnL κ F H vs ds O) (f : Same F F') (k : Keeps H H') (h : ∀ a ∈ O, H' a = H a) : OwnL κ F' H' vs ds O := by
  match x with
  | .nil => exact .nil
  | .cons h1 l => exact .cons (h1.frame f k fun a ha => h a (List.mem_append_left _ ha)) (l.frame f k fun a ha => h a (List.mem_append_right _ ha))
end

mutual
/-- what is owned stands in the heap and may be changed -/
theorem Own.mut {v : V} {d : D} {O : List Addr} (x : Own κ F H v d O) : ∀ a ∈ O, Mut (H a) := by
  match x with
  | .non | .bl b | .int i | .str s | .cls c | .lstS _ _ | .fro _ _ | .setS _ _ _ | .dicS _ _ _ | .dctS _ _ _ | .objS _ _ _ | .exn0 _ | .exn _ _ _ _ => exact fun a ha => nomatch ha
  | .lstO h1 l => exact fun a ha => (List.mem_cons.mp ha).elim (fun e => by rw [e, h1]; trivial) (l.mut a)
  | .tup h1 l => exact l.mut
  | .setO h1 e n => exact fun a ha => (List.mem_cons.mp ha).elim (fun e => by rw [e, h1]; trivial) (fun h => nomatch h)
  | .dicO h1 e l => exact fun a ha => (List.mem_cons.mp ha).elim (fun e => by rw [e, h1]; trivial) (l.mut a)
  | .dctO h1 e l => exact fun a ha => (List.mem_cons.mp ha).elim (fun e => by rw [e, h1]; trivial) (l.mut a)
  | .objO h1 e l => exact fun a ha => (List.mem_cons.mp ha).elim (fun e => by rw [e, h1]; trivial) (l.mut a)
theorem OwnL.mut {vs : List V} {ds : List D} {O : List Addr} (x : OwnL κ F H vs ds O) : ∀ a ∈ O, Mut (H a) := by
  match x with
  | .nil => exact fun a ha => nomatch ha
  | .cons h1 l => exact fun a ha => (List.mem_append.mp ha).elim (h1.mut a) (l.mut a)
end
end VS
set_option Elab.async false
set_option linter.all false
set_option maxRecDepth 100000
set_option maxHeartbeats 1000000
namespace VS
open PySem L2

abbrev Env := List (Option D)
inductive R (α : Type) where
  | ok (a : α) (e : VS.Env) | exc (c : String) (fs : List (Str × D)) (e : VS.Env) | stk
abbrev M (α : Type) := VS.Env → R α
def R.bind {α β : Type} (r : R α) (g : α → M β) : R β := match r with
  | .ok a e => g a e
  | .exc c fs e => .exc c fs e
  | .stk => .stk
def M.bind {α β : Type} (f : M α) (g : α → M β) : M β := fun env => (f env).bind g
def M.ret {α : Type} (a : α) : M α := fun env => .ok a env
def M.of {α : Type} (o : Option α) : M α := fun env => match o with
  | some a => .ok a env
  | none => .stk

inductive OwnE (κ : Kc) (F H : Hp) : St → VS.Env → List Addr → Prop where
  | nil : OwnE κ F H [] [] []
  | skip {s : Option V} {σ : St} {env : VS.Env} {O : List Addr} (t : OwnE κ F H σ env O) : OwnE κ F H (s :: σ) (none :: env) O
  | told {v : V} {d : D} {σ : St} {env : VS.Env} {O1 O2 : List Addr} (h : Own κ F H v d O1) (t : OwnE κ F H σ env O2) : OwnE κ F H (some v :: σ) (some d :: env) (O1 ++ O2)

variable {κ : Kc} {F F' F1 F2 H H' H1 H2 : Hp}

theorem OwnE.frame {σ : St} {env : VS.Env} {O : List Addr} (x : OwnE κ F H σ env O) (f : Same F F') (k : Keeps H H') (h : ∀ a ∈ O, H' a = H a) : OwnE κ F' H' σ env O := by
  induction x with
  | nil => exact .nil
  | skip t ih => exact .skip (ih h)
  | told h1 t ih => exact .told (h1.frame f k fun a ha => h a (List.mem_append_left _ ha)) (ih fun a ha => h a (List.mem_append_right _ ha))
theorem OwnE.mut {σ : St} {env : VS.Env} {O : List Addr} (x : OwnE κ F H σ env O) : ∀ a ∈ O, Mut (H a) := by
  induction x with
  | nil => exact fun a ha => nomatch ha
  | skip t ih => exact ih
  | told h1 t ih => exact fun a ha => (List.mem_append.mp ha).elim (h1.mut a) (ih a)
theorem OwnE.length {σ : St} {env : VS.Env} {O : List Addr} (x : OwnE κ F H σ env O) : σ.length = env.length := by
  induction x with
  | nil => rfl
  | skip t ih => simp [ih]
  | told h1 t ih => simp [ih]
/-- a slot that is told -/
theorem OwnE.get {σ : St} {env : VS.Env} {O : List Addr} (x : OwnE κ F H σ env O) : ∀ {i : Nat} {d : D}, env[i]? = some (some d) → ∃ v A O1 B, σ[i]? = some (some v) ∧ O = A ++ (O1 ++ B) ∧ Own κ F H v d O1 ∧
    ∀ {F' H' : Hp} {v' : V} {d' : D} {O' : List Addr}, Same F F' → Keeps H H' → (∀ a ∈ A ++ B, H' a = H a) → Own κ F' H' v' d' O' → OwnE κ F' H' (σ.set i (some v')) (env.set i (some d')) (A ++ (O' ++ B)) := by
  induction x with
  | nil => intro i d h; simp at h
  | skip t ih =>
    intro i d h
    cases i with
    | zero => simp at h
    | succ i =>
      obtain ⟨v, A, O1, B, h1, e, w, p⟩ := ih (by simpa using h)
      exact ⟨v, A, O1, B, by simpa using h1, e, w, fun f k hh y => .skip (p f k hh y)⟩
  | @told v0 d0 σ0 env0 P1 P2 h1 t ih =>
    intro i d h
    cases i with
    | zero =>
      simp at h
      subst h
      exact ⟨v0, [], P1, P2, rfl, rfl, h1, fun f k hh y => by rw [List.nil_append]; exact .told y (t.frame f k hh)⟩
    | succ i =>
      obtain ⟨v, A, O1, B, h2, e, w, p⟩ := ih (by simpa using h)
      refine ⟨v, P1 ++ A, O1, B, by simpa using h2, by rw [e, List.append_assoc], w, fun {F' H' v' d' O'} f k hh y => ?_⟩
      rw [List.append_assoc]
      exact .told (h1.frame f k fun a ha => hh a (by simp [ha])) (p f k (fun a ha => hh a (by simp at ha ⊢; rcases ha with h | h <;> simp [h])) y)
/-- a slot is forgotten, whatever it holds then -/
theorem OwnE.drop {σ : St} {env : VS.Env} {O : List Addr} (x : OwnE κ F H σ env O) : ∀ (i : Nat) (s : Option V), ∃ A O1 B, O = A ++ (O1 ++ B) ∧ OwnE κ F H (σ.set i s) (env.set i none) (A ++ B) ∧ OwnE κ F H σ (env.set i none) (A ++ B) := by
  induction x with
  | nil => exact fun i s => ⟨[], [], [], rfl, .nil, .nil⟩
  | skip t ih =>
    intro i s
    cases i with
    | zero => exact ⟨[], [], _, rfl, .skip t, .skip t⟩
    | succ i =>
      obtain ⟨A, O1, B, e, y, z⟩ := ih i s
      exact ⟨A, O1, B, e, .skip y, .skip z⟩
  | @told v0 d0 σ0 env0 P1 P2 h1 t ih =>
    intro i s
    cases i with
    | zero => exact ⟨[], P1, P2, rfl, .skip t, .skip t⟩
    | succ i =>
      obtain ⟨A, O1, B, e, y, z⟩ := ih i s
      refine ⟨P1 ++ A, O1, B, by rw [e, List.append_assoc], ?_, ?_⟩
      · rw [List.append_assoc]; exact .told h1 y
      · rw [List.append_assoc]; exact .told h1 z
/-- a slot is set -/
theorem OwnE.put {σ : St} {env : VS.Env} {O : List Addr} (x : OwnE κ F H σ env O) : ∀ {i : Nat} {v : V} {d : D} {Od : List Addr}, i < env.length → Own κ F H v d Od → ∃ A O1 B, O = A ++ (O1 ++ B) ∧ OwnE κ F H (σ.set i (some v)) (env.set i (some d)) (A ++ (Od ++ B)) := by
  induction x with
  | nil => intro i v d Od h; simp at h
  | skip t ih =>
    intro i v d Od h y
    cases i with
    | zero => exact ⟨[], [], _, rfl, by rw [List.nil_append]; first | exact .told y t | exact .skip t⟩
    | succ i =>
      obtain ⟨A, O1, B, e, z⟩ := ih (by simpa using h) y
      exact ⟨A, O1, B, e, .skip z⟩
  | @told v0 d0 σ0 env0 P1 P2 h1 t ih =>
    intro i v d Od h y
    cases i with
    | zero => exact ⟨[], P1, P2, rfl, by rw [List.nil_append]; first | exact .told y t | exact .skip t⟩
    | succ i =>
      obtain ⟨A, O1, B, e, z⟩ := ih (by simpa using h) y
      exact ⟨P1 ++ A, O1, B, by rw [e, List.append_assoc], by rw [List.append_assoc]; exact .told h1 z⟩

/-- the state: shared heap F, heap H, slots, their data, what they own -/
structure Stt (κ : Kc) (F H : Hp) (σ : St) (env : VS.Env) (O : List Addr) : Prop where
  sub : Same F H
  own : OwnE κ F H σ env O
  nd : O.Nodup
  fr : ∀ a ∈ O, F a = none

/-- from a state that owned O to one that owns O' -/
structure Post (F H : Hp) (O : List Addr) (F' H' : Hp) (O' : List Addr) : Prop where
  f : Same F F'
  fr : ∀ a o, H a = some o → a ∉ O → H' a = some o
  own : ∀ a ∈ O', a ∈ O ∨ H a = none
  fnew : ∀ a o, F' a = some o → (∃ u, F a = some u) ∨ a ∈ O ∨ H a = none
  k : Keeps H H'

theorem Keeps.refl (H : Hp) : Keeps H H := ⟨fun _ _ h => h, fun _ _ _ h => h⟩
theorem Keeps.trans (a : Keeps H H1) (b : Keeps H1 H2) : Keeps H H2 := ⟨fun x xs h => b.t x xs (a.t x xs h), fun x o u h => b.z x o u (a.z x o u h)⟩
theorem Keeps.same (h : Same H H') : Keeps H H' := ⟨fun _ _ e => h _ _ e, fun _ _ _ e => h _ _ e⟩
theorem Post.refl {O : List Addr} : Post F H O F H O := ⟨Same.refl F, fun _ _ h _ => h, fun _ h => .inl h, fun _ o h => .inl ⟨o, h⟩, Keeps.refl H⟩
theorem none_or {H : Hp} (a : Addr) : H a = none ∨ ∃ o, H a = some o := by
  cases H a with
  | none => exact .inl rfl
  | some o => exact .inr ⟨o, rfl⟩
theorem Post.back {O O' : List Addr} (p : Post F H O F' H' O') {a : Addr} (h : H' a = none) : a ∈ O ∨ H a = none := by
  by_cases ha : a ∈ O
  · exact .inl ha
  · rcases none_or (H := H) a with h1 | ⟨o, h1⟩
    · exact .inr h1
    · have := p.fr a o h1 ha
      rw [h] at this; cases this
theorem Post.trans {O O1 O2 : List Addr} (p : Post F H O F1 H1 O1) (q : Post F1 H1 O1 F2 H2 O2) : Post F H O F2 H2 O2 where
  f := p.f.trans q.f
  fr := fun a o h n => q.fr a o (p.fr a o h n) fun h1 => by
    rcases p.own a h1 with h2 | h2
    · exact n h2
    · rw [h] at h2; cases h2
  own := fun a h => by
    rcases q.own a h with h1 | h1
    · exact p.own a h1
    · exact p.back h1
  fnew := fun a o h => by
    rcases q.fnew a o h with ⟨u, h1⟩ | h1 | h1
    · exact p.fnew a u h1
    · exact .inr (p.own a h1)
    · exact .inr (p.back h1)
  k := p.k.trans q.k
/-- with more owned ahead, untouched -/
theorem Post.wide {O O' Op : List Addr} (p : Post F H O F' H' O') : Post F H (O ++ Op) F' H' (O' ++ Op) where
  f := p.f
  fr := fun a o h n => p.fr a o h fun h1 => n (List.mem_append_left _ h1)
  own := fun a h => by
    rcases List.mem_append.mp h with h1 | h1
    · rcases p.own a h1 with h2 | h2
      · exact .inl (List.mem_append_left _ h2)
      · exact .inr h2
    · exact .inl (List.mem_append_right _ h1)
  fnew := fun a o h => by
    rcases p.fnew a o h with h1 | h1 | h1
    · exact .inl h1
    · exact .inr (.inl (List.mem_append_left _ h1))
    · exact .inr (.inr h1)
  k := p.k
/-- less is owned behind; more ahead -/
theorem Post.less {O P O' P' : List Addr} (p : Post F H O F' H' O') (h : ∀ a ∈ O, a ∈ P) (h' : ∀ a ∈ P', a ∈ O') : Post F H P F' H' P' where
  f := p.f
  fr := fun a o e n => p.fr a o e fun h1 => n (h a h1)
  own := fun a e => by
    rcases p.own a (h' a e) with h1 | h1
    · exact .inl (h a h1)
    · exact .inr h1
  fnew := fun a o e => by
    rcases p.fnew a o e with h1 | h1 | h1
    · exact .inl h1
    · exact .inr (.inl (h a h1))
    · exact .inr (.inr h1)
  k := p.k

/-- an exception's dict -/
def ExcOk (κ : Kc) (F H : Hp) (d : Option Addr) (fs : List (Str × D)) : Prop :=
  (d = none ∧ fs = []) ∨ ∃ dx fv, d = some dx ∧ F dx = some (.xd fv) ∧ fv.map Prod.fst = fs.map Prod.fst ∧ OwnL κ F H (fv.map Prod.snd) (fs.map Prod.snd) []

/-- how what is made lies in the heap -/
abbrev Rel (α β : Type) := St → Hp → Hp → β → α → List Addr → Prop
def Fin {α β : Type} (κ : Kc) (W : WX) (rel : Rel α β) (σ : St) (F H : Hp) (O : List Addr) (r : R α) (Q : β → Hp → Prop) : Prop := match r with
  | .ok a env' => ∀ F' H' b O' Ob, Post F H O F' H' (O' ++ Ob) → Stt κ F' H' σ env' O' → rel σ F' H' b a Ob → (O' ++ Ob).Nodup → (∀ x ∈ Ob, F' x = none) → Q b H'
  | .exc c fs env' => ∀ F' H' dx O', Post F H O F' H' O' → Stt κ F' H' σ env' O' → ExcOk κ F' H' dx fs → W (.ref (κ.ca c)) dx σ H'
  | .stk => False
def tX {α β : Type} (κ : Kc) (W : WX) (rel : Rel α β) (f : M α) : St → Hp → (β → Hp → Prop) → Prop := fun σ H Q =>
  ∃ F env O, Stt κ F H σ env O ∧ Fin κ W rel σ F H O (f env) Q

/-- a predicate of the heaps that stays where its own stays -/
def Framed (PD : Hp → Hp → List Addr → Prop) : Prop := ∀ F F' H H' O, PD F H O → Same F F' → Keeps H H' → (∀ a ∈ O, H' a = H a) → PD F' H' O

theorem disj {A B : List Addr} (h : (A ++ B).Nodup) : ∀ a ∈ B, a ∉ A := fun a hb ha => (List.nodup_append.mp h).2.2 a ha a hb rfl
/-- evaluate a part while PD is pending -/
theorem Fin.part {α β γ δ : Type} {W : WX} {rel : Rel α β} {rel2 : Rel γ δ} {σ : St} {O Op : List Addr} {env : VS.Env} {f : M α} {g : α → M γ} {Q : δ → Hp → Prop} {PD : Hp → Hp → List Addr → Prop}
    (fd : Framed PD) (S : Stt κ F H σ env O) (p : PD F H Op) (nd : (O ++ Op).Nodup) (np : ∀ x ∈ Op, F x = none) (mu : ∀ x ∈ Op, Mut (H x))
    (fin : Fin κ W rel2 σ F H (O ++ Op) (M.bind f g env) Q) :
    Fin κ W rel σ F H O (f env) fun b H1 => ∃ a F1 env1 O1 Ob, Stt κ F1 H1 σ env1 O1 ∧ PD F1 H1 Op ∧ rel σ F1 H1 b a Ob ∧ (O1 ++ (Op ++ Ob)).Nodup ∧ (∀ x ∈ Op ++ Ob, F1 x = none) ∧ (∀ x ∈ Op, Mut (H1 x)) ∧
      Fin κ W rel2 σ F1 H1 (O1 ++ (Op ++ Ob)) (g a env1) Q := by
  unfold M.bind at fin
  cases e : f env with
  | stk => rw [e] at fin; exact fin
  | exc c fs env' =>
    rw [e] at fin
    intro F' H' dx O' P S' x
    exact fin F' H' dx O' (P.less (fun a h => List.mem_append_left _ h) fun a h => h) S' x
  | ok a env1 =>
    rw [e] at fin
    intro F1 H1 b O1 Ob P S1 r nd1 n1
    have hk : ∀ x ∈ Op, H1 x = H x := fun x hx => by
      rcases none_or (H := H) x with h | ⟨o, h⟩
      · have := mu x hx; rw [h] at this; exact this.elim
      · rw [P.fr x o h (disj nd x hx), h]
    have dj : ∀ x ∈ Op, x ∉ O1 ++ Ob := fun x hx h => by
      rcases P.own x h with h1 | h1
      · exact disj nd x hx h1
      · have := mu x hx; rw [h1] at this; exact this.elim
    have PP : Post F H (O ++ Op) F1 H1 (O1 ++ (Op ++ Ob)) := P.wide.less (fun a h => h) fun a h => by
      simp only [List.mem_append] at h ⊢
      rcases h with h | h | h <;> simp [h]
    have ndd : (O1 ++ (Op ++ Ob)).Nodup := by
      have n2 := (List.nodup_append.mp nd).2.1
      obtain ⟨m1, m2, m3⟩ := List.nodup_append.mp nd1
      refine List.nodup_append.mpr ⟨m1, List.nodup_append.mpr ⟨n2, m2, fun a ha b hb e => dj a ha (by rw [e]; simp [hb])⟩, fun a ha b hb e => ?_⟩
      rcases List.mem_append.mp hb with h | h
      · exact dj b h (by rw [← e]; simp [ha])
      · exact m3 a ha b h e
    have nn : ∀ x ∈ Op ++ Ob, F1 x = none := fun x hx => by
      rcases List.mem_append.mp hx with h | h
      · rcases none_or (H := F1) x with q | ⟨o, q⟩
        · exact q
        · rcases P.fnew x o q with ⟨u, h1⟩ | h1 | h1
          · rw [np x h] at h1; cases h1
          · exact (disj nd x h h1).elim
          · have := mu x h; rw [h1] at this; exact this.elim
      · exact n1 x h
    refine ⟨a, F1, env1, O1, Ob, S1, fd _ _ _ _ _ p P.f P.k hk, r, ndd, nn, fun x hx => by rw [hk x hx]; exact mu x hx, ?_⟩
    have fin' : Fin κ W rel2 σ F H (O ++ Op) (g a env1) Q := fin
    revert fin'
    cases g a env1 with
    | stk => exact fun z => z
    | exc c fs e2 => exact fun fin' F2 H2 dx O2 P2 S2 x => fin' F2 H2 dx O2 (PP.trans P2) S2 x
    | ok c e2 => exact fun fin' F2 H2 d O2 Oc P2 S2 r2 nd2 n2 => fin' F2 H2 d O2 Oc (PP.trans P2) S2 r2 nd2 n2
/-- .. nothing is pending -/
theorem Fin.first {α β γ δ : Type} {W : WX} {rel : Rel α β} {rel2 : Rel γ δ} {σ : St} {O : List Addr} {env : VS.Env} {f : M α} {g : α → M γ} {Q : δ → Hp → Prop}
    (S : Stt κ F H σ env O) (fin : Fin κ W rel2 σ F H O (M.bind f g env) Q) :
    Fin κ W rel σ F H O (f env) fun b H1 => ∃ a F1 env1 O1 Ob, Stt κ F1 H1 σ env1 O1 ∧ rel σ F1 H1 b a Ob ∧ (O1 ++ Ob).Nodup ∧ (∀ x ∈ Ob, F1 x = none) ∧ Fin κ W rel2 σ F1 H1 (O1 ++ Ob) (g a env1) Q := by
  have q := Fin.part (rel := rel) (PD := fun _ _ O => O = []) (Op := []) (fun _ _ _ _ _ e _ _ _ => e) S rfl (by simpa using S.nd) (fun x hx => nomatch hx) (fun x hx => nomatch hx) (by simpa using fin)
  revert q
  cases f env with
  | stk => exact fun z => z
  | exc c fs e2 => exact fun z => z
  | ok a e2 =>
    intro z F' H' b O' Ob P S' r nd n
    obtain ⟨a, F1, env1, O1, Ob1, S1, _, r1, nd1, n1, _, fin1⟩ := z F' H' b O' Ob P S' r nd n
    exact ⟨a, F1, env1, O1, Ob1, S1, r1, by simpa using nd1, by simpa using n1, by simpa using fin1⟩
end VS
set_option Elab.async false
set_option linter.all false
set_option maxRecDepth 100000
set_option maxHeartbeats 1000000
namespace VS
open PySem L2

/-- an operand: a value in hand, or a slot that is looked at when the operation is done -/
inductive Hd where
  | val (d : D) | var (i : Nat)
def Hd.get (env : VS.Env) : Hd → Option D
  | .val d => some d
  | .var i => (env[i]?).join
def getAll (env : VS.Env) : List Hd → Option (List D)
  | [] => some []
  | h :: hs => match h.get env with
    | some d => (match getAll env hs with
      | some ds => some (d :: ds)
      | none => none)
    | none => none

inductive OwnH (κ : Kc) (σ : St) (F H : Hp) : V → Hd → List Addr → Prop where
  | val {v : V} {d : D} {O : List Addr} (h : Own κ F H v d O) : OwnH κ σ F H v (.val d) O
  | var {v : V} {i : Nat} (h : σ[i]? = some (some v)) : OwnH κ σ F H v (.var i) []
inductive OwnHs (κ : Kc) (σ : St) (F H : Hp) : List V → List Hd → List Addr → Prop where
  | nil : OwnHs κ σ F H [] [] []
  | cons {v : V} {d : Hd} {vs : List V} {ds : List Hd} {O1 O2 : List Addr} (h : OwnH κ σ F H v d O1) (t : OwnHs κ σ F H vs ds O2) : OwnHs κ σ F H (v :: vs) (d :: ds) (O1 ++ O2)

def rE (κ : Kc) : Rel D V := fun _ F H v d O => Own κ F H v d O
def rH (κ : Kc) : Rel Hd V := fun σ F H v d O => OwnH κ σ F H v d O
def rHs (κ : Kc) : Rel (List Hd) (List V) := fun σ F H v d O => OwnHs κ σ F H v d O
def rB : Rel Bool Bool := fun _ _ _ b a O => b = a ∧ O = []

structure SE (κ : Kc) (X : Cx) (W : WX) (e : Expr) (f : M D) : Prop where
  pe : PE X e (tX κ W (rE κ) f)
structure SH (κ : Kc) (X : Cx) (W : WX) (e : Expr) (f : M Hd) : Prop where
  pe : PE X e (tX κ W (rH κ) f)
structure SA (κ : Kc) (X : Cx) (W : WX) (es : List Expr) (f : M (List Hd)) : Prop where
  pa : PA X es (tX κ W (rHs κ) f)
structure ST (κ : Kc) (X : Cx) (W : WX) (e : Expr) (f : M Bool) : Prop where
  pt : PT X e (tX κ W rB f)

theorem pe_mono {X : Cx} {e : Expr} {t t' : TE} (h : PE X e t) (i : ∀ σ H Q, t' σ H Q → t σ H Q) : PE X e t' := ⟨fun pins s σ H Q I q => h.run pins s σ H Q I (i _ _ _ q)⟩
theorem pa_mono {X : Cx} {e : List Expr} {t t' : TA} (h : PA X e t) (i : ∀ σ H Q, t' σ H Q → t σ H Q) : PA X e t' := ⟨fun pos pins s σ H Q I q => h.run pos pins s σ H Q I (i _ _ _ q)⟩
theorem pt_mono {X : Cx} {e : Expr} {t t' : TT} (h : PT X e t) (i : ∀ σ H Q, t' σ H Q → t σ H Q) : PT X e t' := ⟨fun pins s σ H Q I q => h.run pins s σ H Q I (i _ _ _ q)⟩
theorem pw_mono {X : Cx} {e : Expr} {t t' : TT} (h : PW X e t) (i : ∀ σ H Q, t' σ H Q → t σ H Q) : PW X e t' := ⟨fun wh pins s σ H Q I q => h.run wh pins s σ H Q I (i _ _ _ q)⟩

variable {κ : Kc} {W : WX} {F F' F1 F2 H H' H1 H2 : Hp} {X : Cx}

theorem OwnH.frame {σ : St} {v : V} {h : Hd} {O : List Addr} (x : OwnH κ σ F H v h O) (f : Same F F') (k : Keeps H H') (hh : ∀ a ∈ O, H' a = H a) : OwnH κ σ F' H' v h O := by
  cases x with
  | val h => exact .val (h.frame f k hh)
  | var h => exact .var h
theorem OwnH.mut {σ : St} {v : V} {h : Hd} {O : List Addr} (x : OwnH κ σ F H v h O) : ∀ a ∈ O, Mut (H a) := by
  cases x with
  | val h => exact h.mut
  | var h => exact fun a ha => nomatch ha
theorem OwnHs.frame {σ : St} {vs : List V} {hs : List Hd} {O : List Addr} (x : OwnHs κ σ F H vs hs O) (f : Same F F') (k : Keeps H H') (hh : ∀ a ∈ O, H' a = H a) : OwnHs κ σ F' H' vs hs O := by
  induction x with
  | nil => exact .nil
  | cons h t ih => exact .cons (h.frame f k fun a ha => hh a (List.mem_append_left _ ha)) (ih fun a ha => hh a (List.mem_append_right _ ha))
theorem OwnHs.mut {σ : St} {vs : List V} {hs : List Hd} {O : List Addr} (x : OwnHs κ σ F H vs hs O) : ∀ a ∈ O, Mut (H a) := by
  induction x with
  | nil => exact fun a ha => nomatch ha
  | cons h t ih => exact fun a ha => (List.mem_append.mp ha).elim (h.mut a) (ih a)
/-- an operand, looked at -/
theorem OwnH.look {σ : St} {env : VS.Env} {O : List Addr} (S : Stt κ F H σ env O) {v : V} {h : Hd} {Oh : List Addr} (x : OwnH κ σ F H v h Oh) {d : D} (e : h.get env = some d) : ∃ Od, Own κ F H v d Od := by
  cases x with
  | val y =>
    cases e
    exact ⟨_, y⟩
  | @var i hv =>
    have e' : env[i]? = some (some d) := by
      have e : (env[i]?).join = some d := e
      cases q : env[i]? with
      | none => rw [q] at e; cases e
      | some o => rw [q] at e; cases o with
        | none => cases e
        | some u => cases e; rfl
    obtain ⟨v', A, O1, B, h1, _, y, _⟩ := S.own.get e'
    rw [hv] at h1
    cases h1
    exact ⟨_, y⟩
theorem OwnHs.look {σ : St} {env : VS.Env} {O : List Addr} (S : Stt κ F H σ env O) {vs : List V} {hs : List Hd} {Oh : List Addr} (x : OwnHs κ σ F H vs hs Oh) : ∀ {ds : List D}, getAll env hs = some ds → ∃ Od, OwnL κ F H vs ds Od := by
  induction x with
  | nil =>
    intro ds e
    cases e
    exact ⟨_, .nil⟩
  | @cons v d vs hs O1 O2 h t ih =>
    intro ds e
    unfold getAll at e
    cases q : d.get env with
    | none => rw [q] at e; cases e
    | some d0 =>
      rw [q] at e
      cases q2 : getAll env hs with
      | none => rw [q2] at e; cases e
      | some ds0 =>
        rw [q2] at e
        cases e
        obtain ⟨A, y⟩ := h.look S q
        obtain ⟨B, z⟩ := ih q2
        exact ⟨_, .cons y z⟩

/-! ### operands -/
theorem tX_map {α α' β : Type} {rel : Rel α β} {rel' : Rel α' β} {f : M α} {g : α → α'} (hg : ∀ σ F H b a O, rel σ F H b a O → rel' σ F H b (g a) O) {σ : St} {H : Hp} {Q : β → Hp → Prop} (h : tX κ W rel' (M.bind f fun a => M.ret (g a)) σ H Q) : tX κ W rel f σ H Q := by
  obtain ⟨F, env, O, S, fin⟩ := h
  refine ⟨F, env, O, S, ?_⟩
  unfold M.bind at fin
  revert fin
  cases f env with
  | stk => exact fun z => z
  | exc c fs e => exact fun z => z
  | ok a e => exact fun z F' H' b O' Ob P S' r nd n => z F' H' b O' Ob P S' (hg _ _ _ _ _ _ r) nd n
theorem sh_val {e : Expr} {f : M D} (h : SE κ X W e f) : SH κ X W e (M.bind f fun d => M.ret (.val d)) :=
  ⟨pe_mono h.pe fun σ H Q q => tX_map (fun _ _ _ _ _ _ r => .val r) q⟩
def mRef (i : Nat) : M Hd := fun env => match env[i]? with
  | some (some _) => .ok (.var i) env
  | _ => .stk
theorem sh_var {x : Str} {pos : Pos} (i : Nat) (h : PE X (.Name x pos) (tVar i)) : SH κ X W (.Name x pos) (mRef i) := ⟨pe_mono h fun σ H Q ⟨F, env, O, S, fin⟩ => by
  unfold mRef at fin
  cases q : env[i]? with
  | none => rw [q] at fin; exact fin.elim
  | some o =>
    cases o with
    | none => rw [q] at fin; exact fin.elim
    | some d =>
      rw [q] at fin
      obtain ⟨v, A, O1, B, h1, e, y, _⟩ := S.own.get q
      refine ⟨v, h1, ?_⟩
      exact fin F H v O [] (by rw [List.append_nil]; exact Post.refl) S (.var h1) (by rw [List.append_nil]; exact S.nd) (fun x hx => nomatch hx)⟩
def mCons (f : M Hd) (fs : M (List Hd)) : M (List Hd) := M.bind f fun h => M.bind fs fun hs => M.ret (h :: hs)
def mNil : M (List Hd) := M.ret []
theorem tA_nil {σ : St} {H : Hp} {Q : List V → Hp → Prop} (h : tX κ W (rHs κ) mNil σ H Q) : Q [] H := by
  obtain ⟨F, env, O, S, fin⟩ := h
  exact fin F H [] O [] (by rw [List.append_nil]; exact Post.refl) S .nil (by rw [List.append_nil]; exact S.nd) (fun x hx => nomatch hx)
theorem tA_cons {f : M Hd} {fs : M (List Hd)} {σ : St} {H : Hp} {Q : List V → Hp → Prop} (h : tX κ W (rHs κ) (mCons f fs) σ H Q) : tX κ W (rH κ) f σ H fun x H1 => tX κ W (rHs κ) fs σ H1 fun xs H2 => Q (x :: xs) H2 := by
  obtain ⟨F, env, O, S, fin⟩ := h
  refine ⟨F, env, O, S, ?_⟩
  have q := Fin.first (rel := rH κ) S fin
  revert q
  cases f env with
  | stk => exact fun z => z
  | exc c fs e2 => exact fun z => z
  | ok a e2 =>
    intro z F' H' b O' Ob P S' r nd n
    obtain ⟨a, F1, env1, O1, Ob1, S1, r1, nd1, n1, fin1⟩ := z F' H' b O' Ob P S' r nd n
    refine ⟨F1, env1, O1, S1, ?_⟩
    have q := Fin.part (rel := rHs κ) (PD := fun F H O => OwnH κ σ F H b a O) (fun _ _ _ _ _ x f k h => x.frame f k h) S1 r1 nd1 n1 r1.mut fin1
    revert q
    cases fs env1 with
    | stk => exact fun z => z
    | exc c fs e2 => exact fun z => z
    | ok as e3 =>
      intro z F' H' bs O' Obs P S' r nd n
      obtain ⟨as, F2, env2, O2, Ob2, S2, x2, r2, nd2, n2, _, fin2⟩ := z F' H' bs O' Obs P S' r nd n
      exact fin2 F2 H' (b :: bs) O2 (Ob1 ++ Ob2) Post.refl S2 (.cons x2 r2) nd2 n2
theorem sa_nil : SA κ X W [] mNil := ⟨pa_mono pa_nil fun _ _ _ q => tA_nil q⟩
theorem sa_cons {e : Expr} {es : List Expr} {f : M Hd} {fs : M (List Hd)} (h : SH κ X W e f) (t : SA κ X W es fs) (hs : starEach (e :: es) X.env = (false, eval e X.env) :: starEach es X.env := by rfl) : SA κ X W (e :: es) (mCons f fs) :=
  ⟨pa_mono (pa_cons h.pe t.pa hs) fun _ _ _ q => tA_cons q⟩

/-! ### operations that change nothing: the answer is new, or holds nothing that is owned -/
def mOp (op : List D → Option D) (fa : M (List Hd)) : M D := M.bind fa fun hs env => match getAll env hs with
  | some ds => (match op ds with
    | some d => .ok d env
    | none => .stk)
  | none => .stk
/-- r holds where op answers -/
def OpOk (κ : Kc) (r : List V → Hp → VK → Prop) (op : List D → Option D) : Prop :=
  ∀ (F H : Hp) (vs : List V) (ds : List D) (Os : List Addr) (Q : VK) (d : D), Same F H → OwnL κ F H vs ds Os → op ds = some d →
    (∀ H' v Od, Same H H' → Own κ F H' v d Od → Od.Nodup → (∀ a ∈ Od, H a = none) → Q v H') → r vs H Q
theorem fin_op {r : List V → Hp → VK → Prop} {op : List D → Option D} (ok : OpOk κ r op) {σ : St} {env : VS.Env} {O Oh : List Addr} {vs : List V} {hs : List Hd} {Q : VK} (S : Stt κ F H σ env O) (x : OwnHs κ σ F H vs hs Oh)
    (fin : Fin κ W (rE κ) σ F H (O ++ Oh) (match getAll env hs with
      | some ds => (match op ds with
        | some d => .ok d env
        | none => .stk)
      | none => .stk) Q) : r vs H Q := by
  cases q : getAll env hs with
  | none => rw [q] at fin; exact fin.elim
  | some ds =>
    rw [q] at fin
    obtain ⟨Od, y⟩ := x.look S q
    cases q2 : op ds with
    | none => simp only [q2] at fin; exact fin.elim
    | some d =>
      simp only [q2] at fin
      refine ok F H vs ds Od Q d S.sub y q2 fun H' v Od' sm z nd nw => ?_
      have nf : ∀ a ∈ Od', F a = none := fun a ha => S.sub.free (nw a ha)
      have dj : ∀ a ∈ Od', a ∉ O := fun a ha ho => by
        have := S.own.mut a ho
        rw [nw a ha] at this; exact this.elim
      refine fin F H' v O Od' ⟨Same.refl F, fun a o e _ => sm a o e, fun a ha => ?_, fun a o e => .inl ⟨o, e⟩, Keeps.same sm⟩ ⟨S.sub.trans sm, S.own.frame (Same.refl F) (Keeps.same sm) fun a ha => ?_, S.nd, S.fr⟩ z
        (List.nodup_append.mpr ⟨S.nd, nd, fun a ha b hb e => dj b hb (e ▸ ha)⟩) nf
      · rcases List.mem_append.mp ha with h | h
        · exact .inl (List.mem_append_left _ h)
        · exact .inr (nw a h)
      · rcases none_or (H := H) a with h | ⟨o, h⟩
        · have := S.own.mut a ha; rw [h] at this; exact this.elim
        · rw [sm a o h, h]
theorem tX_op {r : List V → Hp → VK → Prop} {op : List D → Option D} (ok : OpOk κ r op) {fa : M (List Hd)} {σ : St} {H : Hp} {Q : VK} (h : tX κ W (rE κ) (mOp op fa) σ H Q) : tX κ W (rHs κ) fa σ H fun vs H1 => r vs H1 Q := by
  obtain ⟨F, env, O, S, fin⟩ := h
  refine ⟨F, env, O, S, ?_⟩
  have q := Fin.first (rel := rHs κ) S fin
  revert q
  cases fa env with
  | stk => exact fun z => z
  | exc c fs e2 => exact fun z => z
  | ok a e2 =>
    intro z F' H' b O' Ob P S' r nd n
    obtain ⟨a, F1, env1, O1, Ob1, S1, r1, nd1, n1, fin1⟩ := z F' H' b O' Ob P S' r nd n
    exact fin_op ok S1 r1 fin1
/-- one, two operands -/
def m1 (f : M Hd) : M (List Hd) := mCons f mNil
def m2 (f g : M Hd) : M (List Hd) := mCons f (mCons g mNil)
def on1 (r : V → Hp → VK → Prop) : List V → Hp → VK → Prop := fun vs H Q => ∀ x, vs = [x] → r x H Q
def on2 (r : R2) : List V → Hp → VK → Prop := fun vs H Q => ∀ x y, vs = [x, y] → r x y H Q
theorem tX_op1 {r : V → Hp → VK → Prop} {op : List D → Option D} (ok : OpOk κ (on1 r) op) {f : M Hd} {σ : St} {H : Hp} {Q : VK} (h : tX κ W (rE κ) (mOp op (m1 f)) σ H Q) : tX κ W (rH κ) f σ H fun x H1 => r x H1 Q := by
  have q := tA_cons (tX_op ok h)
  obtain ⟨F, env, O, S, fin⟩ := q
  refine ⟨F, env, O, S, ?_⟩
  revert fin
  cases f env with
  | stk => exact fun z => z
  | exc c fs e2 => exact fun z => z
  | ok a e2 => exact fun z F' H' b O' Ob P S' r nd n => tA_nil (z F' H' b O' Ob P S' r nd n) b rfl
theorem tX_imp {α β : Type} {rel : Rel α β} {f : M α} {σ : St} {H : Hp} {Q Q' : β → Hp → Prop} (h : tX κ W rel f σ H Q) (i : ∀ b H, Q b H → Q' b H) : tX κ W rel f σ H Q' := by
  obtain ⟨F, env, O, S, fin⟩ := h
  refine ⟨F, env, O, S, ?_⟩
  revert fin
  cases f env with
  | stk => exact fun z => z
  | exc c fs e2 => exact fun z => z
  | ok a e2 => exact fun z F' H' b O' Ob P S' r nd n => i _ _ (z F' H' b O' Ob P S' r nd n)
theorem tX_op2 {r : R2} {op : List D → Option D} (ok : OpOk κ (on2 r) op) {f g : M Hd} {σ : St} {H : Hp} {Q : VK} (h : tX κ W (rE κ) (mOp op (m2 f g)) σ H Q) :
    tX κ W (rH κ) f σ H fun x H1 => tX κ W (rH κ) g σ H1 fun y H2 => r x y H2 Q :=
  tX_imp (tA_cons (tX_op ok h)) fun _ _ h1 => tX_imp (tA_cons h1) fun _ _ h2 => tA_nil h2 _ _ rfl
theorem se_bin {a b : Expr} {op : Operator} {pos : Pos} {r : R2} {o : List D → Option D} {f g : M Hd} (ho : OpR X (binaryOp op) r) (ok : OpOk κ (on2 r) o) (ha : SH κ X W a f) (hb : SH κ X W b g) : SE κ X W (.BinOp a op b pos) (mOp o (m2 f g)) :=
  ⟨pe_mono (pe_op ho ha.pe hb.pe) fun _ _ _ q => tX_op2 ok q⟩
theorem se_cmp {a b : Expr} {op : CmpOp} {pos : Pos} {r : R2} {o : List D → Option D} {f g : M Hd} (ho : OpR X (compareOp op) r) (ok : OpOk κ (on2 r) o) (ha : SH κ X W a f) (hb : SH κ X W b g) (hm : behindInMarks op b = false := by rfl) : SE κ X W (.Compare a [op] [b] pos) (mOp o (m2 f g)) :=
  ⟨pe_mono (pe_cmpR ho ha.pe hb.pe hm) fun _ _ _ q => tX_op2 ok q⟩
theorem se_un {a : Expr} {op : UnaryOp} {pos : Pos} {r : V → Hp → VK → Prop} {o : List D → Option D} {f : M Hd} (ho : UnR X (unaryOp op) r) (ok : OpOk κ (on1 r) o) (ha : SH κ X W a f) : SE κ X W (.UnaryOp op a pos) (mOp o (m1 f)) :=
  ⟨pe_mono (pe_un ho ha.pe) fun _ _ _ q => tX_op1 ok q⟩
end VS
set_option Elab.async false
set_option linter.all false
set_option maxRecDepth 100000
set_option maxHeartbeats 1000000
namespace VS
open PySem L2
mutual
/-- the tree, shared -/
def share : D → D
  | .non => .non
  | .bl b => .bl b
  | .int i => .int i
  | .str x => .str x
  | .cls c => .cls c
  | .lst _ xs => .lst false (shareL xs)
  | .tup xs => .tup (shareL xs)
  | .dic _ kvs => .dic false (shareK kvs)
  | .dct _ kvs => .dct false (shareT kvs)
  | .set _ ks => .set false ks
  | .obj _ c fs => .obj false c (shareF fs)
  | .exn c fs => .exn c fs
  | .fro xs => .fro xs
def shareL : List D → List D
  | [] => []
  | x :: xs => share x :: shareL xs
def shareK : List (Key × D) → List (Key × D)
  | [] => []
  | (k, x) :: xs => (k, share x) :: shareK xs
def shareT : List (List Key × D) → List (List Key × D)
  | [] => []
  | (k, x) :: xs => (k, share x) :: shareT xs
def shareF : List (Str × D) → List (Str × D)
  | [] => []
  | (k, x) :: xs => (k, share x) :: shareF xs
end
theorem shareL_map : ∀ xs, shareL xs = xs.map share
  | [] => rfl
  | x :: xs => by rw [shareL, shareL_map xs]; rfl
theorem shareK_map : ∀ xs, shareK xs = xs.map fun p => (p.1, share p.2)
  | [] => rfl
  | (k, x) :: xs => by rw [shareK, shareK_map xs]; rfl
theorem shareT_map : ∀ xs, shareT xs = xs.map fun p => (p.1, share p.2)
  | [] => rfl
  | (k, x) :: xs => by rw [shareT, shareT_map xs]; rfl
theorem shareF_map : ∀ xs, shareF xs = xs.map fun p => (p.1, share p.2)
  | [] => rfl
  | (k, x) :: xs => by rw [shareF, shareF_map xs]; rfl
mutual
/-- nothing in it is owned -/
def shrd : D → Bool
  | .non => true
  | .bl _ => true
  | .int _ => true
  | .str _ => true
  | .cls _ => true
  | .lst o xs => !o
  | .tup xs => shrdL xs
  | .dic o kvs => !o
  | .dct o kvs => !o
  | .set o _ => !o
  | .obj o _ fs => !o
  | .exn _ _ => true
  | .fro _ => true
def shrdL : List D → Bool
  | [] => true
  | x :: xs => shrd x && shrdL xs
end
variable {κ : Kc} {W : WX} {F F' F1 F2 H H' H1 H2 : Hp} {X : Cx}
mutual
theorem Own.shrd {v : V} {d : D} {O : List Addr} (x : Own κ F H v d O) (h : shrd d = true) : O = [] := by
  match x with
  | .non | .bl b | .int i | .str s | .cls c | .lstS _ _ | .fro _ _ | .setS _ _ _ | .dicS _ _ _ | .dctS _ _ _ | .objS _ _ _ | .exn0 _ | .exn _ _ _ _ => rfl
  | .lstO h1 l => cases h
  | .setO h1 e n => cases h
  | .tup h1 l => exact l.shrd h
  | .dicO h1 e l => cases h
  | .dctO h1 e l => cases h
  | .objO h1 e l => cases h
theorem OwnL.shrd {vs : List V} {ds : List D} {O : List Addr} (x : OwnL κ F H vs ds O) (h : shrdL ds = true) : O = [] := by
  match x with
  | .nil => rfl
  | .cons h1 l =>
    have h' := Bool.and_eq_true_iff.mp h
    rw [h1.shrd h'.1, l.shrd h'.2]
    rfl
end
mutual
/-- what was owned stands in the shared heap now -/
theorem Own.share {v : V} {d : D} {O : List Addr} (x : Own κ F H v d O) (f : Same F F') (h : ∀ a ∈ O, F' a = H a) : Own κ F' H v (share d) [] := by
  match x with
  | .non => exact .non
  | .bl b => exact .bl b
  | .int i => exact .int i
  | .str s => exact .str s
  | .cls c => exact .cls c
  | .lstS h1 l => exact .lstS (f _ _ h1) (l.share f (fun a ha => nomatch ha))
  | .fro h1 l => exact .fro (f.seq h1) (l.frame f (Keeps.refl H) (fun a ha => nomatch ha))
  | .setS h1 e n => exact .setS (f _ _ h1) e n
  | .setO h1 e n => exact .setS ((h _ (List.mem_cons_self)).trans h1) e n
  | .lstO h1 l => exact .lstS ((h _ (List.mem_cons_self)).trans h1) (l.share f fun a ha => h a (List.mem_cons_of_mem _ ha))
  | .tup h1 l => exact .tup h1 (l.share f h)
  | .dicS h1 e l => exact .dicS (f _ _ h1) (by rw [e, shareK_map, List.map_map]; rfl) (by rw [shareK_map, List.map_map]; have q := l.share f (fun a ha => nomatch ha); rw [shareL_map, List.map_map] at q; exact q)
  | .dicO h1 e l => exact .dicS ((h _ (List.mem_cons_self)).trans h1) (by rw [e, shareK_map, List.map_map]; rfl) (by rw [shareK_map, List.map_map]; have q := l.share f fun a ha => h a (List.mem_cons_of_mem _ ha); rw [shareL_map, List.map_map] at q; exact q)
  | .dctS h1 e l => exact .dctS (f _ _ h1) (by rw [e, shareT_map, List.map_map]; rfl) (by rw [shareT_map, List.map_map]; have q := l.share f (fun a ha => nomatch ha); rw [shareL_map, List.map_map] at q; exact q)
  | .dctO h1 e l => exact .dctS ((h _ (List.mem_cons_self)).trans h1) (by rw [e, shareT_map, List.map_map]; rfl) (by rw [shareT_map, List.map_map]; have q := l.share f fun a ha => h a (List.mem_cons_of_mem _ ha); rw [shareL_map, List.map_map] at q; exact q)
  | .objS h1 e l => exact .objS (f _ _ h1) (by rw [e, shareF_map, List.map_map]; rfl) (by rw [shareF_map, List.map_map]; have q := l.share f (fun a ha => nomatch ha); rw [shareL_map, List.map_map] at q; exact q)
  | .objO h1 e l => exact .objS ((h _ (List.mem_cons_self)).trans h1) (by rw [e, shareF_map, List.map_map]; rfl) (by rw [shareF_map, List.map_map]; have q := l.share f fun a ha => h a (List.mem_cons_of_mem _ ha); rw [shareL_map, List.map_map] at q; exact q)
  | .exn0 h0 => exact .exn0 h0
  | .exn h0 h1 e l => exact .exn h0 (f _ _ h1) e (l.frame f (Keeps.refl H) (fun a ha => nomatch ha))
theorem OwnL.share {vs : List V} {ds : List D} {O : List Addr} (x : OwnL κ F H vs ds O) (f : Same F F') (h : ∀ a ∈ O, F' a = H a) : OwnL κ F' H vs (shareL ds) [] := by
  match x with
  | .nil => exact .nil
  | .cons h1 l => exact .cons (O1 := []) (O2 := []) (h1.share f fun a ha => h a (List.mem_append_left _ ha)) (l.share f fun a ha => h a (List.mem_append_right _ ha))
end
/-- the shared heap, with the objects at O -/
def plus (F H : Hp) (O : List Addr) : Hp := fun a => if a ∈ O then H a else F a
theorem plus_in {O : List Addr} {a : Addr} (h : a ∈ O) : plus F H O a = H a := if_pos h
theorem plus_out {O : List Addr} {a : Addr} (h : a ∉ O) : plus F H O a = F a := if_neg h
theorem plus_same {O : List Addr} (h : ∀ a ∈ O, F a = none) : Same F (plus F H O) := fun a o e => by
  rw [plus_out fun ha => by rw [h a ha] at e; cases e]; exact e
theorem plus_sub {O : List Addr} (h : Same F H) : Same (plus F H O) H := fun a o e => by
  unfold plus at e
  split at e
  · exact e
  · exact h a o e
/-- a value in hand is shared -/
theorem Stt.shareVal {σ : St} {env : VS.Env} {O Od : List Addr} {v : V} {d : D} (S : Stt κ F H σ env O) (y : Own κ F H v d Od) (nd : (O ++ Od).Nodup) (n : ∀ x ∈ Od, F x = none) :
    ∃ F', Post F H (O ++ Od) F' H O ∧ Stt κ F' H σ env O ∧ Own κ F' H v (share d) [] := by
  refine ⟨plus F H Od, ⟨plus_same n, fun a o e _ => e, fun a h => .inl (List.mem_append_left _ h), fun a o e => ?_, Keeps.refl H⟩, ⟨plus_sub S.sub, S.own.frame (plus_same n) (Keeps.refl H) (fun _ _ => rfl), S.nd, fun a ha => ?_⟩, y.share (plus_same n) fun a ha => plus_in ha⟩
  · by_cases h : a ∈ Od
    · exact .inr (.inl (List.mem_append_right _ h))
    · rw [plus_out h] at e; exact .inl ⟨o, e⟩
  · rw [plus_out fun h => (disj nd a h) ha]; exact S.fr a ha

/-! ### operands taken: a value in hand with what it owns, a slot's value where nothing in it is owned -/
def Hd.take (env : VS.Env) : Hd → Option D
  | .val d => some d
  | .var i => match (env[i]?).join with
    | some d => if shrd d = true then some d else none
    | none => none
def takeAll (env : VS.Env) : List Hd → Option (List D)
  | [] => some []
  | h :: hs => match h.take env with
    | some d => (match takeAll env hs with
      | some ds => some (d :: ds)
      | none => none)
    | none => none
theorem OwnH.take {σ : St} {env : VS.Env} {O : List Addr} (S : Stt κ F H σ env O) {v : V} {h : Hd} {Oh : List Addr} (x : OwnH κ σ F H v h Oh) {d : D} (e : h.take env = some d) : Own κ F H v d Oh := by
  cases x with
  | val y => cases e; exact y
  | @var i hv =>
    have e : (match (env[i]?).join with
      | some d => if VS.shrd d = true then some d else none
      | none => none) = some d := e
    cases q : (env[i]?).join with
    | none => rw [q] at e; cases e
    | some d0 =>
      rw [q] at e
      dsimp only at e
      by_cases hs : VS.shrd d0 = true
      · rw [if_pos hs] at e
        cases e
        have x : OwnH κ σ F H v (.var i) [] := .var hv
        obtain ⟨Od, y⟩ := x.look S (d := d) q
        have := y.shrd hs
        subst this
        exact y
      · rw [if_neg hs] at e; cases e
theorem OwnHs.take {σ : St} {env : VS.Env} {O : List Addr} (S : Stt κ F H σ env O) {vs : List V} {hs : List Hd} {Oh : List Addr} (x : OwnHs κ σ F H vs hs Oh) : ∀ {ds : List D}, takeAll env hs = some ds → OwnL κ F H vs ds Oh := by
  induction x with
  | nil =>
    intro ds e
    cases e
    exact .nil
  | @cons v d vs hs O1 O2 h t ih =>
    intro ds e
    unfold takeAll at e
    cases q : d.take env with
    | none => rw [q] at e; cases e
    | some d0 =>
      rw [q] at e
      cases q2 : takeAll env hs with
      | none => rw [q2] at e; cases e
      | some ds0 =>
        rw [q2] at e
        cases e
        exact .cons (h.take S q) (ih q2)
/-- an operation that takes its operands -/
def mTk (op : List D → Option D) (fa : M (List Hd)) : M D := M.bind fa fun hs env => match takeAll env hs with
  | some ds => (match op ds with
    | some d => .ok d env
    | none => .stk)
  | none => .stk
def OpTk (κ : Kc) (r : List V → Hp → VK → Prop) (op : List D → Option D) : Prop :=
  ∀ (F H : Hp) (vs : List V) (ds : List D) (Os : List Addr) (Q : VK) (d : D), Same F H → OwnL κ F H vs ds Os → Os.Nodup → (∀ a ∈ Os, F a = none) → op ds = some d →
    (∀ H' v Od, Same H H' → Own κ F H' v d Od → Od.Nodup → (∀ a ∈ Od, a ∈ Os ∨ H a = none) → Q v H') → r vs H Q
theorem fin_tk {r : List V → Hp → VK → Prop} {op : List D → Option D} (ok : OpTk κ r op) {σ : St} {env : VS.Env} {O Oh : List Addr} {vs : List V} {hs : List Hd} {Q : VK} (S : Stt κ F H σ env O) (x : OwnHs κ σ F H vs hs Oh)
    (nd0 : (O ++ Oh).Nodup) (n0 : ∀ x ∈ Oh, F x = none) (fin : Fin κ W (rE κ) σ F H (O ++ Oh) (match takeAll env hs with
      | some ds => (match op ds with
        | some d => .ok d env
        | none => .stk)
      | none => .stk) Q) : r vs H Q := by
  cases q : takeAll env hs with
  | none => rw [q] at fin; exact fin.elim
  | some ds =>
    rw [q] at fin
    have y := x.take S q
    cases q2 : op ds with
    | none => simp only [q2] at fin; exact fin.elim
    | some d =>
      simp only [q2] at fin
      refine ok F H vs ds Oh Q d S.sub y (List.nodup_append.mp nd0).2.1 n0 q2 fun H' v Od' sm z nd nw => ?_
      have nf : ∀ a ∈ Od', F a = none := fun a ha => (nw a ha).elim (n0 a) S.sub.free
      have dj : ∀ a ∈ Od', a ∉ O := fun a ha ho => by
        rcases nw a ha with h | h
        · exact disj nd0 a h ho
        · have := S.own.mut a ho
          rw [h] at this; exact this.elim
      refine fin F H' v O Od' ⟨Same.refl F, fun a o e _ => sm a o e, fun a ha => ?_, fun a o e => .inl ⟨o, e⟩, Keeps.same sm⟩ ⟨S.sub.trans sm, S.own.frame (Same.refl F) (Keeps.same sm) fun a ha => ?_, S.nd, S.fr⟩ z
        (List.nodup_append.mpr ⟨S.nd, nd, fun a ha b hb e => dj b hb (e ▸ ha)⟩) nf
      · rcases List.mem_append.mp ha with h | h
        · exact .inl (List.mem_append_left _ h)
        · rcases nw a h with h | h
          · exact .inl (List.mem_append_right _ h)
          · exact .inr h
      · rcases none_or (H := H) a with h | ⟨o, h⟩
        · have := S.own.mut a ha; rw [h] at this; exact this.elim
        · rw [sm a o h, h]
theorem tX_tk {r : List V → Hp → VK → Prop} {op : List D → Option D} (ok : OpTk κ r op) {fa : M (List Hd)} {σ : St} {H : Hp} {Q : VK} (h : tX κ W (rE κ) (mTk op fa) σ H Q) : tX κ W (rHs κ) fa σ H fun vs H1 => r vs H1 Q := by
  obtain ⟨F, env, O, S, fin⟩ := h
  refine ⟨F, env, O, S, ?_⟩
  have q := Fin.first (rel := rHs κ) S fin
  revert q
  cases fa env with
  | stk => exact fun z => z
  | exc c fs e2 => exact fun z => z
  | ok a e2 =>
    intro z F' H' b O' Ob P S' r nd n
    obtain ⟨a, F1, env1, O1, Ob1, S1, r1, nd1, n1, fin1⟩ := z F' H' b O' Ob P S' r nd n
    exact fin_tk ok S1 r1 nd1 n1 fin1

/-! ### constants, names, displays -/
theorem tX_ret {α β : Type} {rel : Rel α β} {a : α} {σ : St} {H : Hp} {Q : β → Hp → Prop} {b : β} (r : ∀ F, rel σ F H b a []) (h : tX κ W rel (M.ret a) σ H Q) : Q b H := by
  obtain ⟨F, env, O, S, fin⟩ := h
  exact fin F H b O [] (by rw [List.append_nil]; exact Post.refl) S (r F) (by rw [List.append_nil]; exact S.nd) (fun x hx => nomatch hx)
theorem se_int {i : Int} {j pos} : SE κ X W (.Constant (.int i) j pos) (M.ret (.int i)) := ⟨pe_mono pe_int fun _ _ _ q => tX_ret (fun _ => .int i) q⟩
theorem se_bl {i : Bool} {j pos} : SE κ X W (.Constant (.bool i) j pos) (M.ret (.bl i)) := ⟨pe_mono pe_bl fun _ _ _ q => tX_ret (fun _ => .bl i) q⟩
theorem se_non {j pos} : SE κ X W (.Constant .none j pos) (M.ret .non) := ⟨pe_mono pe_non fun _ _ _ q => tX_ret (fun _ => .non) q⟩
theorem se_str {x : Str} {j pos} : SE κ X W (.Constant (.str x) j pos) (M.ret (.str x)) := ⟨pe_mono pe_str fun _ _ _ q => tX_ret (fun _ => .str x) q⟩
/-- a module's constant that is a number, a text -/
theorem se_gint {x : Str} {pos : Pos} {i : Int} {u : Value} (hg : Gl X x) (hm : X.mg x = some u) (r : RelV (.int i) u) (hd : (x == ("__debug__" : Str)) = false := by decide) : SE κ X W (.Name x pos) (M.ret (.int i)) := ⟨pe_mono (pe_glob hg hm r hd) fun _ _ _ q => tX_ret (fun _ => .int i) q⟩
theorem se_gstr {x : Str} {pos : Pos} {i : Str} {u : Value} (hg : Gl X x) (hm : X.mg x = some u) (r : RelV (.str i) u) (hd : (x == ("__debug__" : Str)) = false := by decide) : SE κ X W (.Name x pos) (M.ret (.str i)) := ⟨pe_mono (pe_glob hg hm r hd) fun _ _ _ q => tX_ret (fun _ => .str i) q⟩
/-- an operand, taken as a value -/
def mTake (f : M Hd) : M D := M.bind f fun h env => match h.take env with
  | some d => .ok d env
  | none => .stk
theorem se_take {e : Expr} {f : M Hd} (h : SH κ X W e f) : SE κ X W e (mTake f) := ⟨pe_mono h.pe fun σ H Q q => by
  obtain ⟨F, env, O, S, fin⟩ := q
  refine ⟨F, env, O, S, ?_⟩
  have q := Fin.first (rel := rH κ) S fin
  revert q
  cases f env with
  | stk => exact fun z => z
  | exc c fs e2 => exact fun z => z
  | ok a e2 =>
    intro z F' H' b O' Ob P S' r nd n
    obtain ⟨a, F1, env1, O1, Ob1, S1, r1, nd1, n1, fin1⟩ := z F' H' b O' Ob P S' r nd n
    cases q : a.take env1 with
    | none => simp only [q] at fin1; exact fin1.elim
    | some d =>
      simp only [q] at fin1
      exact fin1 F1 H' b O1 Ob1 Post.refl S1 (OwnH.take S1 r1 q) nd1 n1⟩
/-- a slot's value is moved out of it -/
def mMove (i : Nat) : M D := fun env => match env[i]? with
  | some (some d) => .ok d (env.set i none)
  | _ => .stk
/-- a slot's value is shared from now on -/
def mShare (i : Nat) : M D := fun env => match env[i]? with
  | some (some d) => .ok (share d) (env.set i (some (share d)))
  | _ => .stk
theorem nodup_move {A O1 B : List Addr} (h : (A ++ (O1 ++ B)).Nodup) : ((A ++ B) ++ O1).Nodup :=
  (List.Perm.nodup_iff (by rw [List.append_assoc]; exact List.Perm.append_left A List.perm_append_comm)).mp h
theorem set_self {α : Type} : ∀ {l : List α} {i : Nat} {x : α}, l[i]? = some x → l.set i x = l
  | [], _, _, h => by simp at h
  | y :: l, 0, x, h => by simp at h; subst h; rfl
  | y :: l, i + 1, x, h => by rw [List.set_cons_succ, set_self (by simpa using h)]
theorem OwnE.out {σ : St} {env : VS.Env} {O : List Addr} (x : OwnE κ F H σ env O) : ∀ {i : Nat} {d : D}, env[i]? = some (some d) → ∃ v A O1 B, σ[i]? = some (some v) ∧ O = A ++ (O1 ++ B) ∧ Own κ F H v d O1 ∧ OwnE κ F H σ (env.set i none) (A ++ B) := by
  induction x with
  | nil => intro i d h; simp at h
  | skip t ih =>
    intro i d h
    cases i with
    | zero => simp at h
    | succ i =>
      obtain ⟨v, A, O1, B, h1, e, w, p⟩ := ih (by simpa using h)
      exact ⟨v, A, O1, B, by simpa using h1, e, w, .skip p⟩
  | @told v0 d0 σ0 env0 P1 P2 h1 t ih =>
    intro i d h
    cases i with
    | zero =>
      simp at h
      subst h
      exact ⟨v0, [], P1, P2, rfl, rfl, h1, .skip t⟩
    | succ i =>
      obtain ⟨v, A, O1, B, h2, e, w, p⟩ := ih (by simpa using h)
      exact ⟨v, P1 ++ A, O1, B, by simpa using h2, by rw [e, List.append_assoc], w, by rw [List.append_assoc]; exact .told h1 p⟩
theorem se_move {x : Str} {pos : Pos} (i : Nat) (h : PE X (.Name x pos) (tVar i)) : SE κ X W (.Name x pos) (mMove i) := ⟨pe_mono h fun σ H Q ⟨F, env, O, S, fin⟩ => by
  unfold mMove at fin
  cases q : env[i]? with
  | none => rw [q] at fin; exact fin.elim
  | some o =>
    cases o with
    | none => rw [q] at fin; exact fin.elim
    | some d =>
      rw [q] at fin
      obtain ⟨v, A, O1, B, h1, e, y, z⟩ := S.own.out q
      refine ⟨v, h1, ?_⟩
      have nd := nodup_move (e ▸ S.nd)
      have mem : ∀ a, a ∈ (A ++ B) ++ O1 → a ∈ O := fun a ha => by
        rw [e]; simp only [List.mem_append] at ha ⊢; rcases ha with (h | h) | h <;> simp [h]
      exact fin F H v (A ++ B) O1 (Post.refl.less (fun _ h => h) mem) ⟨S.sub, z, (List.nodup_append.mp nd).1, fun a ha => S.fr a (mem a (List.mem_append_left _ ha))⟩ y nd fun a ha => S.fr a (mem a (List.mem_append_right _ ha))⟩
theorem se_share {x : Str} {pos : Pos} (i : Nat) (h : PE X (.Name x pos) (tVar i)) : SE κ X W (.Name x pos) (mShare i) := ⟨pe_mono h fun σ H Q ⟨F, env, O, S, fin⟩ => by
  unfold mShare at fin
  cases q : env[i]? with
  | none => rw [q] at fin; exact fin.elim
  | some o =>
    cases o with
    | none => rw [q] at fin; exact fin.elim
    | some d =>
      rw [q] at fin
      obtain ⟨v, A, O1, B, h1, e, y, z⟩ := S.own.get q
      refine ⟨v, h1, ?_⟩
      have n1 : ∀ x ∈ O1, F x = none := fun a ha => S.fr a (by rw [e]; simp [ha])
      have nd := nodup_move (e ▸ S.nd)
      have y' := y.share (plus_same n1) (fun a ha => plus_in (F := F) (H := H) ha)
      have mem : ∀ a, a ∈ A ++ ([] ++ B) → a ∈ O := fun a ha => by
        rw [e]; simp only [List.mem_append, List.nil_append] at ha ⊢; rcases ha with h | h <;> simp [h]
      refine fin (plus F H O1) H v (A ++ ([] ++ B)) [] ⟨plus_same n1, fun a o e _ => e, fun a ha => .inl (mem a (by simpa using ha)), fun a o e' => ?_, Keeps.refl H⟩ ⟨plus_sub S.sub, ?_, ?_, fun a ha => ?_⟩ y' ?_ (fun a ha => nomatch ha)
      · by_cases h : a ∈ O1
        · exact .inr (.inl (by rw [e]; simp [h]))
        · rw [plus_out h] at e'; exact .inl ⟨o, e'⟩
      · have := z (plus_same n1) (Keeps.refl H) (fun _ _ => rfl) y'
        rw [set_self h1] at this
        exact this
      · rw [List.nil_append]; exact (List.nodup_append.mp nd).1
      · rw [plus_out fun h => disj nd a h (by simpa using ha)]; exact S.fr a (mem a ha)
      · rw [List.append_nil, List.nil_append]; exact (List.nodup_append.mp nd).1⟩
def oTup : List D → Option D := fun ds => if ds.length ≤ sizeLine then some (.tup ds) else none
def oLst : List D → Option D := fun ds => if ds.length ≤ sizeLine then some (.lst true ds) else none
theorem OwnL.length {vs : List V} {ds : List D} {O : List Addr} (x : OwnL κ F H vs ds O) : vs.length = ds.length := by
  match x with
  | .nil => rfl
  | .cons h1 l => simp [l.length]
/-- a new object at p -/
theorem same_new {p : Addr} {o : HO} (h : H p = none) : Same H (upd H p o) := fun a u e => by
  rw [upd_ne (ne_of_none e h)]; exact e
theorem OwnL.new {vs : List V} {ds : List D} {O : List Addr} {p : Addr} {o : HO} (x : OwnL κ F H vs ds O) (h : H p = none) : OwnL κ F (upd H p o) vs ds O :=
  x.frame (Same.refl F) (Keeps.same (same_new h)) fun a ha => upd_ne fun e => by
    have := x.mut a ha
    rw [e, h] at this
    exact this
theorem tk_tup : OpTk κ (fun xs H Q => xs.length ≤ sizeLine ∧ ∀ p, H p = none → Q (.ref p) (upd H p (.tup xs))) oTup := by
  intro F H vs ds Os Q d sm x nd nf e k
  unfold oTup at e
  split at e
  · rename_i hl
    cases e
    exact ⟨by rw [x.length]; exact hl, fun p hp => k _ _ Os (same_new hp) (.tup upd_same (x.new hp)) nd fun a ha => .inl ha⟩
  · cases e
theorem tk_lst : OpTk κ (fun xs H Q => xs.length ≤ sizeLine ∧ ∀ p, H p = none → Q (.ref p) (upd H p (.lst xs))) oLst := by
  intro F H vs ds Os Q d sm x nd nf e k
  unfold oLst at e
  split at e
  · rename_i hl
    cases e
    refine ⟨by rw [x.length]; exact hl, fun p hp => k _ _ (p :: Os) (same_new hp) (.lstO upd_same (x.new hp)) (List.nodup_cons.mpr ⟨fun h => ?_, nd⟩) fun a ha => ?_⟩
    · have := x.mut p h; rw [hp] at this; exact this
    · rcases List.mem_cons.mp ha with h | h
      · exact .inr (h ▸ hp)
      · exact .inl h
  · cases e
theorem se_tup {es : List Expr} {x1 pos} {fa : M (List Hd)} (h : SA κ X W es fa) : SE κ X W (.Tuple es x1 pos) (mTk oTup fa) := ⟨pe_mono (pe_tup h.pa) fun _ _ _ q => tX_tk tk_tup q⟩
theorem se_lst {es : List Expr} {pos} {fa : M (List Hd)} (h : SA κ X W es fa) : SE κ X W (.List es pos) (mTk oLst fa) := ⟨pe_mono (pe_lst h.pa) fun _ _ _ q => tX_tk tk_lst q⟩
end VS
set_option Elab.async false
set_option linter.all false
set_option maxRecDepth 100000
set_option maxHeartbeats 1000000
namespace VS
open PySem L2
/-! ### statements -/
inductive Fl where
  | nx | rt (d : D) | bk | ct
def PinEq (pi : List Nat) (σ σ' : St) : Prop := ∀ i ∈ pi, σ'[i]? = σ[i]?
theorem PinEq.refl {pi : List Nat} {σ : St} : PinEq pi σ σ := fun _ _ => rfl
theorem PinEq.trans {pi : List Nat} {σ σ1 σ2 : St} (a : PinEq pi σ σ1) (b : PinEq pi σ1 σ2) : PinEq pi σ σ2 := fun i h => (b i h).trans (a i h)
def FinS (κ : Kc) (W : WX) (pi : List Nat) (σ : St) (F H : Hp) (O : List Addr) (r : R Fl) (Dn : Ends) : Prop := match r with
  | .ok .nx env' => ∀ F' H' σ' O', Post F H O F' H' O' → Stt κ F' H' σ' env' O' → PinEq pi σ σ' → Dn.nx σ' H'
  | .ok .bk env' => ∀ F' H' σ' O', Post F H O F' H' O' → Stt κ F' H' σ' env' O' → PinEq pi σ σ' → Dn.bk σ' H'
  | .ok .ct env' => ∀ F' H' σ' O', Post F H O F' H' O' → Stt κ F' H' σ' env' O' → PinEq pi σ σ' → Dn.ct σ' H'
  | .ok (.rt d) env' => ∀ F' H' σ' v O' Od, Post F H O F' H' (O' ++ Od) → Stt κ F' H' σ' env' O' → PinEq pi σ σ' → Own κ F' H' v d Od → (O' ++ Od).Nodup → (∀ x ∈ Od, F' x = none) → Dn.rt v H'
  | .exc c fs env' => ∀ F' H' σ' dx O', Post F H O F' H' O' → Stt κ F' H' σ' env' O' → PinEq pi σ σ' → ExcOk κ F' H' dx fs → W (.ref (κ.ca c)) dx σ' H'
  | .stk => False
def tS (κ : Kc) (W : WX) (pi : List Nat) (f : M Fl) : TS := fun Dn σ H => ∃ F env O, Stt κ F H σ env O ∧ FinS κ W pi σ F H O (f env) Dn
structure SS (κ : Kc) (X : Cx) (W : WX) (pi : List Nat) (st : Stmt) (f : M Fl) : Prop where
  ps : PS X st (tS κ W pi f)
structure SSs (κ : Kc) (X : Cx) (W : WX) (pi : List Nat) (st : List Stmt) (f : M Fl) : Prop where
  ps : PSs X st (tS κ W pi f)
theorem ps_mono {X : Cx} {e : Stmt} {t t' : TS} (h : PS X e t) (i : ∀ D σ H, t' D σ H → t D σ H) : PS X e t' := ⟨fun pins s σ H D I q => h.run pins s σ H D I (i _ _ _ q)⟩
theorem pss_mono {X : Cx} {e : List Stmt} {t t' : TS} (h : PSs X e t) (i : ∀ D σ H, t' D σ H → t D σ H) : PSs X e t' := ⟨fun pins s σ H D I q => h.run pins s σ H D I (i _ _ _ q)⟩
variable {κ : Kc} {W : WX} {pi : List Nat} {F F' F1 F2 H H' H1 H2 : Hp} {X : Cx}

/-- from further on -/
theorem FinS.on {σ σ1 : St} {O O1 : List Addr} {r : R Fl} {Dn : Ends} (fin : FinS κ W pi σ F H O r Dn) (P : Post F H O F1 H1 O1) (pq : PinEq pi σ σ1) : FinS κ W pi σ1 F1 H1 O1 r Dn := by
  revert fin
  match r with
  | .stk => exact fun z => z
  | .exc c fs e => exact fun z F' H' σ' dx O' P2 S q x => z F' H' σ' dx O' (P.trans P2) S (pq.trans q) x
  | .ok .nx e => exact fun z F' H' σ' O' P2 S q => z F' H' σ' O' (P.trans P2) S (pq.trans q)
  | .ok .bk e => exact fun z F' H' σ' O' P2 S q => z F' H' σ' O' (P.trans P2) S (pq.trans q)
  | .ok .ct e => exact fun z F' H' σ' O' P2 S q => z F' H' σ' O' (P.trans P2) S (pq.trans q)
  | .ok (.rt d) e => exact fun z F' H' σ' v O' Od P2 S q => z F' H' σ' v O' Od (P.trans P2) S (pq.trans q)
/-- an expression's part of a statement -/
theorem FinS.part {α β : Type} {rel : Rel α β} {σ : St} {O : List Addr} {env : VS.Env} {f : M α} {g : α → M Fl} {Dn : Ends}
    (S : Stt κ F H σ env O) (fin : FinS κ W pi σ F H O (M.bind f g env) Dn) :
    Fin κ W rel σ F H O (f env) fun b H1 => ∃ a F1 env1 O1 Ob, Stt κ F1 H1 σ env1 O1 ∧ rel σ F1 H1 b a Ob ∧ (O1 ++ Ob).Nodup ∧ (∀ x ∈ Ob, F1 x = none) ∧ FinS κ W pi σ F1 H1 (O1 ++ Ob) (g a env1) Dn := by
  unfold M.bind at fin
  revert fin
  cases f env with
  | stk => exact fun z => z
  | exc c fs e => exact fun z F' H' dx O' P S' x => z F' H' σ dx O' P S' PinEq.refl x
  | ok a e => exact fun z F' H' b O' Ob P S' r nd n => ⟨a, F', e, O', Ob, S', r, nd, n, z.on P PinEq.refl⟩
theorem tS_part {α β : Type} {rel : Rel α β} {f : M α} {g : α → M Fl} {Dn : Ends} {σ : St} {H : Hp} (h : tS κ W pi (M.bind f g) Dn σ H) :
    tX κ W rel f σ H fun b H1 => ∃ a F1 env1 O1 Ob, Stt κ F1 H1 σ env1 O1 ∧ rel σ F1 H1 b a Ob ∧ (O1 ++ Ob).Nodup ∧ (∀ x ∈ Ob, F1 x = none) ∧ FinS κ W pi σ F1 H1 (O1 ++ Ob) (g a env1) Dn := by
  obtain ⟨F, env, O, S, fin⟩ := h
  exact ⟨F, env, O, S, FinS.part S fin⟩
theorem Post.drop {O Op : List Addr} : Post F H (O ++ Op) F H O := Post.refl.less (fun _ h => h) fun _ h => List.mem_append_left _ h

def mThen (f g : M Fl) : M Fl := M.bind f fun fl => match fl with
  | .nx => g
  | fl => M.ret fl
def mNx : M Fl := M.ret .nx
theorem ss_nil : SSs κ X W pi [] mNx := ⟨pss_mono pss_nil fun Dn σ H ⟨F, env, O, S, fin⟩ => fin F H σ O Post.refl S PinEq.refl⟩
theorem ss_cons {st : Stmt} {rest : List Stmt} {f g : M Fl} (a : SS κ X W pi st f) (b : SSs κ X W pi rest g) : SSs κ X W pi (st :: rest) (mThen f g) := ⟨pss_mono (pss_cons a.ps b.ps) fun Dn σ H ⟨F, env, O, S, fin⟩ => by
  refine ⟨F, env, O, S, ?_⟩
  unfold mThen M.bind at fin
  revert fin
  match f env with
  | .stk => exact fun z => z
  | .exc c fs e => exact fun z => z
  | .ok .nx e => exact fun z F' H' σ' O' P S' q => ⟨F', e, O', S', z.on P q⟩
  | .ok .bk e => exact fun z => z
  | .ok .ct e => exact fun z => z
  | .ok (.rt d) e => exact fun z => z⟩
theorem ss_one {st : Stmt} {f : M Fl} (a : SS κ X W pi st f) : SSs κ X W pi [st] f := ⟨pss_one a.ps⟩
theorem ss_pass {pos : Pos} : SS κ X W pi (.Pass pos) mNx := ⟨ps_mono ps_pass fun Dn σ H ⟨F, env, O, S, fin⟩ => fin F H σ O Post.refl S PinEq.refl⟩
theorem ss_break {pos : Pos} : SS κ X W pi (.Break pos) (M.ret .bk) := ⟨ps_mono ps_break fun Dn σ H ⟨F, env, O, S, fin⟩ => fin F H σ O Post.refl S PinEq.refl⟩
theorem ss_continue {pos : Pos} : SS κ X W pi (.Continue pos) (M.ret .ct) := ⟨ps_mono ps_continue fun Dn σ H ⟨F, env, O, S, fin⟩ => fin F H σ O Post.refl S PinEq.refl⟩
theorem ss_doc {x j pos pos'} : SS κ X W pi (.Expr (.Constant (.str x) j pos) pos') mNx := ⟨ps_mono ps_doc fun Dn σ H ⟨F, env, O, S, fin⟩ => fin F H σ O Post.refl S PinEq.refl⟩
theorem ss_expr {e : Expr} {pos : Pos} {f : M D} (h : SE κ X W e f) (hs : swapsWith e none pos.line X.env = pure false := by rfl) : SS κ X W pi (.Expr e pos) (M.bind f fun _ => mNx) :=
  ⟨ps_mono (ps_expr h.pe hs) fun Dn σ H q => tX_imp (tS_part q) fun b H1 ⟨a, F1, env1, O1, Ob, S1, r, nd, n, fin⟩ => fin F1 H1 σ O1 Post.drop S1 PinEq.refl⟩
theorem ss_ret {e : Expr} {pos : Pos} {f : M D} (h : SE κ X W e f) : SS κ X W pi (.Return (some e) pos) (M.bind f fun d => M.ret (.rt d)) :=
  ⟨ps_mono (ps_ret h.pe) fun Dn σ H q => tX_imp (tS_part q) fun b H1 ⟨a, F1, env1, O1, Ob, S1, r, nd, n, fin⟩ => fin F1 H1 σ b O1 Ob Post.refl S1 PinEq.refl r nd n⟩
theorem ss_retN {pos : Pos} : SS κ X W pi (.Return none pos) (M.ret (.rt .non)) := ⟨ps_mono ps_retN fun Dn σ H ⟨F, env, O, S, fin⟩ => fin F H σ .non O [] (by rw [List.append_nil]; exact Post.refl) S PinEq.refl .non (by rw [List.append_nil]; exact S.nd) (fun x hx => nomatch hx)⟩
def mIf (c : M Bool) (f g : M Fl) : M Fl := M.bind c fun b => if b = true then f else g
theorem ss_if {c : Expr} {a b : List Stmt} {pos : Pos} {fc : M Bool} {f g : M Fl} (hc : ST κ X W c fc) (ha : SSs κ X W pi a f) (hb : SSs κ X W pi b g) : SS κ X W pi (.If c a b pos) (mIf fc f g) :=
  ⟨ps_mono (ps_if hc.pt ha.ps hb.ps) fun Dn σ H q => tX_imp (tS_part q) fun b H1 ⟨a, F1, env1, O1, Ob, S1, r, nd, n, fin⟩ => by
    obtain ⟨rfl, rfl⟩ := r
    rw [List.append_nil] at fin
    cases b with
    | true => exact ⟨F1, env1, O1, S1, fin⟩
    | false => exact ⟨F1, env1, O1, S1, fin⟩⟩

/-! ### targets -/
inductive Tg where
  | nm (i : Nat) | tp (ts : List Tg)
mutual
def bindT : Tg → D → VS.Env → Option VS.Env
  | .nm i, d, env => if i < env.length then some (env.set i (some d)) else none
  | .tp ts, .tup ds, env => if ts.length = ds.length then bindTs ts ds env else none
  | .tp ts, .lst _ ds, env => if ts.length = ds.length then bindTs ts ds env else none
  | .tp _, _, _ => none
def bindTs : List Tg → List D → VS.Env → Option VS.Env
  | [], [], env => some env
  | t :: ts, d :: ds, env => match bindT t d env with
    | some env1 => bindTs ts ds env1
    | none => none
  | _, _, _ => none
end
mutual
def Tg.free (pi : List Nat) : Tg → Bool
  | .nm i => !pi.contains i
  | .tp ts => Tg.frees pi ts
def Tg.frees (pi : List Nat) : List Tg → Bool
  | [] => true
  | t :: ts => Tg.free pi t && Tg.frees pi ts
end
def gT (κ : Kc) (pi : List Nat) (tg : Tg) : TG := fun v σ H Q => ∃ F env O Od d env', Stt κ F H σ env O ∧ Own κ F H v d Od ∧ (O ++ Od).Nodup ∧ (∀ x ∈ Od, F x = none) ∧ bindT tg d env = some env' ∧
  ∀ σ' O', Stt κ F H σ' env' O' → PinEq pi σ σ' → (∀ a ∈ O', a ∈ O ++ Od) → Q σ' H
def gTs (κ : Kc) (pi : List Nat) (ts : List Tg) : TGs := fun vs σ H Q => ∃ F env O Od ds env', Stt κ F H σ env O ∧ OwnL κ F H vs ds Od ∧ (O ++ Od).Nodup ∧ (∀ x ∈ Od, F x = none) ∧ bindTs ts ds env = some env' ∧
  ∀ σ' O', Stt κ F H σ' env' O' → PinEq pi σ σ' → (∀ a ∈ O', a ∈ O ++ Od) → Q σ' H
structure SG (κ : Kc) (X : Cx) (pi : List Nat) (tg : Expr) (t : Tg) : Prop where
  pg : PG X tg (gT κ pi t)
structure SGs (κ : Kc) (X : Cx) (pi : List Nat) (tg : List Expr) (t : List Tg) : Prop where
  pg : PGs X tg (gTs κ pi t)
theorem pg_mono {X : Cx} {e : Expr} {t t' : TG} (h : PG X e t) (i : ∀ v σ H Q, t' v σ H Q → t v σ H Q) : PG X e t' := ⟨fun pins s σ H v u Q I r q => h.run pins s σ H v u Q I r (i _ _ _ _ q)⟩
theorem pgs_mono {X : Cx} {e : List Expr} {t t' : TGs} (h : PGs X e t) (i : ∀ v σ H Q, t' v σ H Q → t v σ H Q) : PGs X e t' := ⟨fun pins s σ H v u Q I r q => h.run pins s σ H v u Q I r (i _ _ _ _ q)⟩
theorem nodup_put {A O1 B Od : List Addr} (h : ((A ++ (O1 ++ B)) ++ Od).Nodup) : (A ++ (Od ++ B)).Nodup := by
  have h1 : ((A ++ B) ++ Od).Nodup := h.sublist (List.Sublist.append (List.Sublist.append (List.Sublist.refl A) (List.sublist_append_right O1 B)) (List.Sublist.refl Od))
  exact (List.Perm.nodup_iff (by rw [List.append_assoc]; exact List.Perm.append_left A List.perm_append_comm)).mp h1
/-- a value goes into a slot -/
theorem Stt.put {σ : St} {env : VS.Env} {O Od : List Addr} {v : V} {d : D} {i : Nat} (S : Stt κ F H σ env O) (y : Own κ F H v d Od) (nd : (O ++ Od).Nodup) (n : ∀ x ∈ Od, F x = none) (hi : i < env.length) :
    ∃ O', Stt κ F H (σ.set i (some v)) (env.set i (some d)) O' ∧ ∀ a ∈ O', a ∈ O ++ Od := by
  obtain ⟨A, O1, B, e, z⟩ := S.own.put hi y
  have mem : ∀ a ∈ A ++ (Od ++ B), a ∈ O ++ Od := fun a ha => by
    rw [e]; simp only [List.mem_append] at ha ⊢; rcases ha with h | h | h <;> simp [h]
  refine ⟨A ++ (Od ++ B), ⟨S.sub, z, nodup_put (e ▸ nd), fun a ha => ?_⟩, mem⟩
  rcases List.mem_append.mp (mem a ha) with h | h
  · exact S.fr a h
  · exact n a h
theorem sg_name {x : Str} {pos : Pos} (i : Nat) (hf : pi.contains i = false) (h : PG X (.Name x pos) (gName i)) : SG κ X pi (.Name x pos) (.nm i) :=
  ⟨pg_mono h fun v σ H Q ⟨F, env, O, Od, d, env', S, y, nd, n, e, k⟩ => by
    have e : (if i < env.length then some (env.set i (some d)) else none) = some env' := by unfold bindT at e; exact e
    split at e
    · rename_i hi
      cases e
      obtain ⟨O', S', m⟩ := S.put y nd n hi
      refine k _ O' S' (fun j hj => ?_) m
      refine List.getElem?_set_ne fun q => ?_
      subst q
      rw [List.contains_iff_mem.mpr hj] at hf
      cases hf
    · cases e⟩
theorem sgs_nil : SGs κ X pi [] [] := ⟨pgs_mono pgs_nil fun vs σ H Q ⟨F, env, O, Od, ds, env', S, y, nd, n, e, k⟩ => by
  cases ds with
  | nil =>
    cases y
    cases e
    exact ⟨rfl, k σ O S PinEq.refl fun a ha => List.mem_append_left _ ha⟩
  | cons d ds => cases e⟩
theorem sgs_cons {e : Expr} {es : List Expr} {t : Tg} {ts : List Tg} (h1 : SG κ X pi e t) (h2 : SGs κ X pi es ts)
    (hs : (assignEach (e :: es) X.env).map (·.2) = assign e X.env :: (assignEach es X.env).map (·.2) := by rfl) : SGs κ X pi (e :: es) (t :: ts) := ⟨pgs_mono (pgs_cons h1.pg h2.pg hs) fun vs σ H Q ⟨F, env, O, Od, ds, env', S, y, nd, n, e, k⟩ => by
  cases ds with
  | nil => cases e
  | cons d ds =>
    cases y with
    | @cons v _ vr _ O1 O2 y1 y2 =>
    have e : (match bindT t d env with
      | some env1 => bindTs ts ds env1
      | none => none) = some env' := by unfold bindTs at e; exact e
    cases q : bindT t d env with
    | none => rw [q] at e; cases e
    | some env1 =>
      rw [q] at e
      have nd' : ((O ++ O1) ++ O2).Nodup := by rw [List.append_assoc]; exact nd
      refine ⟨v, vr, rfl, F, env, O, O1, d, env1, S, y1, (List.nodup_append.mp nd').1, fun a ha => n a (List.mem_append_left _ ha), q, fun σ1 O1' S1 pq m => ?_⟩
      refine ⟨F, env1, O1', O2, ds, env', S1, y2, ?_, fun a ha => n a (List.mem_append_right _ ha), e, fun σ' O' S' pq' m' => k σ' O' S' (pq.trans pq') fun a ha => ?_⟩
      · obtain ⟨m1, m2, m3⟩ := List.nodup_append.mp nd'
        exact List.nodup_append.mpr ⟨S1.nd, m2, fun a ha b hb => m3 a (m a ha) b hb⟩
      · rcases List.mem_append.mp (m' a ha) with h | h
        · have := m a h; simp only [List.mem_append] at this ⊢; rcases this with h | h <;> simp [h]
        · simp [h]⟩
theorem pg_or {X : Cx} {e : Expr} {t t' : TG} (h : PG X e t) (h' : PG X e t') : PG X e (fun v σ H Q => t v σ H Q ∨ t' v σ H Q) :=
  ⟨fun pins s σ H v u Q I r q => q.elim (h.run pins s σ H v u Q I r) (h'.run pins s σ H v u Q I r)⟩
theorem sg_tup {es : List Expr} {k : Nat} {pos : Pos} {ts : List Tg} (hc : X.calm = true) (h : SGs κ X pi es ts) (hk : X.K = κ.K := by rfl)
    (hn : (assignEach es X.env).length = ts.length := by rfl) (hst : (assignEach es X.env).findIdx? (·.1) = none := by rfl) : SG κ X pi (.Tuple es k pos) (.tp ts) := ⟨pg_mono (pg_or (pg_tup hc h.pg hn hst) (pg_unl hc h.pg hn hst)) fun v σ H Q ⟨F, env, O, Od, d, env', S, y, nd, n, e, k⟩ => by
  cases y with
  | @tup a vs ds _ h1 l =>
    have e : (if ts.length = ds.length then bindTs ts ds env else none) = some env' := by unfold bindT at e; exact e
    split at e
    · rename_i hl
      exact .inl ⟨a, vs, rfl, SqT.of h1, by rw [l.length, hl], F, env, O, Od, ds, env', S, l, nd, n, e, k⟩
    · cases e
  | @lstS a vs ds h1 l =>
    have e : (if ts.length = ds.length then bindTs ts ds env else none) = some env' := by unfold bindT at e; exact e
    split at e
    · rename_i hl
      exact .inr ⟨a, vs, rfl, SqL.of (S.sub _ _ h1), by rw [l.length, hl], F, env, O, [], ds, env', S, l, nd, n, e, k⟩
    · cases e
  | @lstO a vs ds Oc h1 l =>
    have e : (if ts.length = ds.length then bindTs ts ds env else none) = some env' := by unfold bindT at e; exact e
    split at e
    · rename_i hl
      exact .inr ⟨a, vs, rfl, SqL.of h1, by rw [l.length, hl], F, env, O, Oc, ds, env', S, l, nd.sublist (List.Sublist.append (List.Sublist.refl O) (List.sublist_cons_self a Oc)), fun x hx => n x (List.mem_cons_of_mem _ hx), e,
        fun σ' O' S' pq m => k σ' O' S' pq fun b hb => by
          have := m b hb
          simp only [List.mem_append, List.mem_cons] at this ⊢
          rcases this with h | h <;> simp [h]⟩
    · cases e
  | _ => unfold bindT at e; cases e⟩
def mAsg (t : Tg) (f : M D) : M Fl := M.bind f fun d env => match bindT t d env with
  | some env' => .ok .nx env'
  | none => .stk
theorem ss_asg {tg e : Expr} {pos : Pos} {t : Tg} {f : M D} (he : SE κ X W e f) (hg : SG κ X pi tg t) (hs : swapsWithSole [tg] e pos.line X.env = pure false := by rfl) (hw : swappedStores [tg] e X.env = pure none := by rfl)
    (h1 : (assignEach [tg] X.env).map (·.2) = [assign tg X.env] := by rfl) : SS κ X W pi (.Assign [tg] e pos) (mAsg t f) :=
  ⟨ps_mono (ps_asg he.pe hg.pg hs hw h1) fun Dn σ H q => tX_imp (tS_part q) fun b H1 ⟨a, F1, env1, O1, Ob, S1, r, nd, n, fin⟩ => by
    cases q : bindT t a env1 with
    | none => simp only [q] at fin; exact fin.elim
    | some env' =>
      simp only [q] at fin
      exact ⟨F1, env1, O1, Ob, a, env', S1, r, nd, n, q, fun σ' O' S' pq m => fin F1 H1 σ' O' (Post.refl.less (fun _ h => h) m) S' pq⟩⟩
theorem ss_set {i : Nat} {x : Str} {e : Expr} {pos pos' : Pos} {f : M D} (he : SE κ X W e f) (hf : pi.contains i = false) (hN : X.N.Nodup) (hi : X.N[i]? = some x) (hx : Loc X.env.scope x) (hs : swapsWith e (some (.Name x pos')) pos.line X.env = pure false := by rfl) (hl : X.fn x = true ∨ X.env.scope.names.lookup x = some .local := by first | exact .inl rfl | exact .inr rfl | assumption) :
    SS κ X W pi (.Assign [.Name x pos'] e pos) (mAsg (.nm i) f) :=
  ⟨ps_mono (ps_set hN hi hx he.pe hs hl) fun Dn σ H q => tX_imp (tS_part q) fun b H1 ⟨a, F1, env1, O1, Ob, S1, r, nd, n, fin⟩ => by
    have e : bindT (.nm i) a env1 = if i < env1.length then some (env1.set i (some a)) else none := by unfold bindT; rfl
    rw [e] at fin
    by_cases hlt : i < env1.length
    · rw [if_pos hlt] at fin
      obtain ⟨O', S', m⟩ := S1.put r nd n hlt
      refine fin F1 H1 _ O' (Post.refl.less (fun _ h => h) m) S' fun j hj => ?_
      refine List.getElem?_set_ne fun q => ?_
      subst q
      rw [List.contains_iff_mem.mpr hj] at hf
      cases hf
    · rw [if_neg hlt] at fin
      exact fin.elim⟩
end VS
set_option Elab.async false
set_option linter.all false
set_option maxRecDepth 100000
set_option maxHeartbeats 1000000
namespace VS
open PySem L2
variable {κ : Kc} {W : WX} {pi : List Nat} {F F' F1 F2 H H' H1 H2 : Hp} {X : Cx}

/-! ### what a datum says of its value -/
/-- room for the language's own recursion -/
structure UR (A : Around) : Prop where
  un : A.units + 200 < cLine
theorem UR.of {k : Nat} {A : Around} (r : Room k A) : UR A := ⟨by have := r.un; omega⟩
theorem UR.units {A : Around} (r : UR A) : A.units + 64 < cLine := by have := r.un; omega
theorem UR.mark {A : Around} (r : UR A) (v : Option Value) : UR (A.mark v) := ⟨r.un⟩
theorem OwnL.one {vs : List V} {d : D} {O : List Addr} (x : OwnL κ F H vs [d] O) : ∃ v O1, vs = [v] ∧ Own κ F H v d O1 := by
  cases x with
  | cons h t =>
    cases t with
    | nil => exact ⟨_, _, rfl, h⟩
theorem OwnL.two {vs : List V} {d e : D} {O : List Addr} (x : OwnL κ F H vs [d, e] O) : ∃ v w O1 O2, vs = [v, w] ∧ Own κ F H v d O1 ∧ Own κ F H w e O2 := by
  cases x with
  | cons h t =>
    obtain ⟨w, O2, rfl, y⟩ := t.one
    exact ⟨_, _, _, _, rfl, h, y⟩
theorem OwnL.three {vs : List V} {d e f : D} {O : List Addr} (x : OwnL κ F H vs [d, e, f] O) : ∃ v w u O1 O2 O3, vs = [v, w, u] ∧ Own κ F H v d O1 ∧ Own κ F H w e O2 ∧ Own κ F H u f O3 := by
  cases x with
  | cons h t =>
    obtain ⟨w, u, O2, O3, rfl, y, z⟩ := t.two
    exact ⟨_, _, _, _, _, _, rfl, h, y, z⟩
theorem Own.int_inv {v : V} {i : Int} {O : List Addr} (x : Own κ F H v (.int i) O) : v = .int i := by cases x; rfl
theorem Own.str_inv {v : V} {i : Str} {O : List Addr} (x : Own κ F H v (.str i) O) : v = .str i := by cases x; rfl
theorem Own.bl_inv {v : V} {i : Bool} {O : List Addr} (x : Own κ F H v (.bl i) O) : v = .bl i := by cases x; rfl
theorem Own.non_inv {v : V} {O : List Addr} (x : Own κ F H v .non O) : v = .non := by cases x; rfl
theorem Own.lst_inv {v : V} {o : Bool} {ds : List D} {O : List Addr} (sm : Same F H) (x : Own κ F H v (.lst o ds) O) : ∃ a vs O', v = .ref a ∧ H a = some (.lst vs) ∧ OwnL κ F H vs ds O' := by
  cases x with
  | lstS h l => exact ⟨_, _, _, rfl, sm _ _ h, l⟩
  | lstO h l => exact ⟨_, _, _, rfl, h, l⟩
theorem Own.tup_inv {v : V} {ds : List D} {O : List Addr} (x : Own κ F H v (.tup ds) O) : ∃ a vs, v = .ref a ∧ H a = some (.tup vs) ∧ OwnL κ F H vs ds O := by
  cases x with
  | tup h l => exact ⟨_, _, rfl, h, l⟩
theorem Own.fro_inv {v : V} {ds : List D} {O : List Addr} (sm : Same F H) (x : Own κ F H v (.fro ds) O) : ∃ a vs, v = .ref a ∧ SqL κ.K H a vs ∧ OwnL κ F H vs ds [] := by
  cases x with
  | fro h l => exact ⟨_, _, rfl, sm.seq h, l⟩
theorem OwnL.free {vs : List V} {ds : List D} {O : List Addr} (x : OwnL κ F H vs ds O) (h : shrdL ds = true) : OwnL κ F H vs ds [] := by
  have := x.shrd h
  subst this
  exact x
theorem Own.free {v : V} {d : D} {O : List Addr} (x : Own κ F H v d O) (h : VS.shrd d = true) : Own κ F H v d [] := by
  have := x.shrd h
  subst this
  exact x
theorem OwnL.app {vs ws : List V} {ds es : List D} (x : OwnL κ F H vs ds []) (y : OwnL κ F H ws es []) : OwnL κ F H (vs ++ ws) (ds ++ es) [] := by
  induction ds generalizing vs with
  | nil => cases x; exact y
  | cons d ds ih =>
    generalize hO : ([] : List Addr) = O at x
    cases x with
    | @cons v _ vs' _ O1 O2 h t =>
      obtain ⟨rfl, rfl⟩ := List.append_eq_nil_iff.mp hO.symm
      exact .cons (O1 := []) (O2 := []) h (ih t)
/-- the answer holds nothing new -/
theorem same_self {Q : VK} {v : V} {d : D} (k : ∀ H' v Od, Same H H' → Own κ F H' v d Od → Od.Nodup → (∀ a ∈ Od, H a = none) → Q v H') (y : Own κ F H v d []) : Q v H :=
  k H v [] (Same.refl H) y List.nodup_nil (fun a ha => nomatch ha)
/-- the answer is a new list, a new tuple -/
theorem new_lst {Q : VK} {p : Addr} {ds : List D} {vs : List V} (k : ∀ H' v Od, Same H H' → Own κ F H' v (.lst true ds) Od → Od.Nodup → (∀ a ∈ Od, H a = none) → Q v H') (hp : H p = none) (y : OwnL κ F H vs ds []) : Q (.ref p) (upd H p (.lst vs)) :=
  k _ _ [p] (same_new hp) (.lstO upd_same (y.new hp)) (by simp) fun a ha => by rw [List.mem_singleton.mp ha]; exact hp
theorem new_tup {Q : VK} {p : Addr} {ds : List D} {vs : List V} (k : ∀ H' v Od, Same H H' → Own κ F H' v (.tup ds) Od → Od.Nodup → (∀ a ∈ Od, H a = none) → Q v H') (hp : H p = none) (y : OwnL κ F H vs ds []) : Q (.ref p) (upd H p (.tup vs)) :=
  k _ _ [] (same_new hp) (.tup upd_same (y.new hp)) (by simp) (fun a ha => nomatch ha)

/-! ### ints -/
def oInt2 (g : Int → Int → Option D) : List D → Option D
  | [.int i, .int j] => g i j
  | _ => none
def oSub : List D → Option D := oInt2 fun i j => some (.int (i - j))
def oFdiv : List D → Option D := oInt2 fun i j => if 0 < j ∧ j.natAbs.log2 < 9000 then some (.int (i / j)) else none
def oMod : List D → Option D := oInt2 fun i j => if 0 < j then some (.int (i % j)) else none
def oPow : List D → Option D := oInt2 fun i j => if 0 ≤ j ∧ j ≤ 1000000 ∧ i.natAbs < 2 ^ 64 then some (.int (i ^ j.toNat)) else none
theorem ok_int2 {r : R2} {g : Int → Int → Option D} (h : ∀ i j d H (Q : VK), g i j = some d → (∀ v, Own κ F H v d [] → Q v H) → r (.int i) (.int j) H Q) : ∀ (H : Hp) (vs : List V) (ds : List D) (Os : List Addr) (Q : VK) (d : D), Same F H → OwnL κ F H vs ds Os → oInt2 g ds = some d →
    (∀ H' v Od, Same H H' → Own κ F H' v d Od → Od.Nodup → (∀ a ∈ Od, H a = none) → Q v H') → on2 r vs H Q := by
  intro H vs ds Os Q d sm x e k y z hyz
  unfold oInt2 at e
  split at e
  · obtain ⟨v, w, O1, O2, rfl, p, q⟩ := x.two
    cases hyz
    rw [p.int_inv, q.int_inv]
    exact h _ _ _ _ _ e fun v o => same_self k o
  · cases e
theorem ok_sub : OpOk κ (on2 (rI0 fun i j => .int (i - j))) oSub := fun F => ok_int2 fun i j d H Q e k => by cases e; exact ⟨i, j, rfl, rfl, k _ (.int _)⟩
theorem ok_fdiv : OpOk κ (on2 (rI CDivW fun i j => .int (i / j))) oFdiv := fun F => ok_int2 fun i j d H Q e k => by
  split at e
  · rename_i h
    cases e
    exact ⟨i, j, rfl, rfl, h, k _ (.int _)⟩
  · cases e
theorem ok_mod : OpOk κ (on2 (rI (fun _ j => 0 < j) fun i j => .int (i % j))) oMod := fun F => ok_int2 fun i j d H Q e k => by
  split at e
  · rename_i h
    cases e
    exact ⟨i, j, rfl, rfl, h, k _ (.int _)⟩
  · cases e
theorem ok_pow : OpOk κ (on2 (rI CPow fun i j => .int (i ^ j.toNat))) oPow := fun F => ok_int2 fun i j d H Q e k => by
  split at e
  · rename_i h
    cases e
    exact ⟨i, j, rfl, rfl, h, k _ (.int _)⟩
  · cases e
def oNeg : List D → Option D
  | [.int i] => some (.int (-i))
  | _ => none
theorem ok_neg : OpOk κ (on1 (rU fun i => .int (-i))) oNeg := by
  intro F H vs ds Os Q d sm x e k y hy
  unfold oNeg at e
  split at e
  · obtain ⟨v, O1, rfl, p⟩ := x.one
    cases hy
    cases e
    rw [p.int_inv]
    exact ⟨_, rfl, same_self k (.int _)⟩
  · cases e

/-! ### + of ints, texts, lists, tuples; * of ints, a list by an int -/
def oAdd : List D → Option D
  | [.int i, .int j] => some (.int (i + j))
  | [.str a, .str b] => if a.length + b.length ≤ sizeLine then some (.str (a ++ b)) else none
  | [.lst _ xs, .lst _ ys] => if shrdL xs = true ∧ shrdL ys = true ∧ xs.length + ys.length ≤ sizeLine then some (.lst true (xs ++ ys)) else none
  | [.tup xs, .tup ys] => if shrdL xs = true ∧ shrdL ys = true ∧ xs.length + ys.length ≤ sizeLine then some (.tup (xs ++ ys)) else none
  | _ => none
def rPlus (K : PySem.W.Frag) : R2 := fun x y H Q => rI0 (fun i j => .int (i + j)) x y H Q ∨ ((∃ i j, x = .str i ∧ y = .str j ∧ i.length + j.length ≤ sizeLine ∧ Q (.str (i ++ j)) H) ∨ (rCat x y H Q ∨ rCatA K x y H Q))
theorem or_plus : OpR X (binaryOp .Add) (rPlus X.K) := op_add.or (op_add_str.or (op_cat.or op_catA))
theorem ok_add : OpOk κ (on2 (rPlus κ.K)) oAdd := by
  intro F H vs ds Os Q d sm x e k y z hyz
  unfold oAdd at e
  split at e
  · obtain ⟨v, w, O1, O2, rfl, p, q⟩ := x.two
    cases hyz
    cases e
    rw [p.int_inv, q.int_inv]
    exact .inl ⟨_, _, rfl, rfl, same_self k (.int _)⟩
  · obtain ⟨v, w, O1, O2, rfl, p, q⟩ := x.two
    cases hyz
    split at e
    · rename_i h
      cases e
      rw [p.str_inv, q.str_inv]
      exact .inr (.inl ⟨_, _, rfl, rfl, h, same_self k (.str _)⟩)
    · cases e
  · obtain ⟨v, w, O1, O2, rfl, p, q⟩ := x.two
    cases hyz
    split at e
    · rename_i h
      cases e
      obtain ⟨a, xs, _, rfl, ha, lx⟩ := p.lst_inv sm
      obtain ⟨b, ys, _, rfl, hb, ly⟩ := q.lst_inv sm
      refine .inr (.inr (.inl ⟨a, b, xs, ys, rfl, rfl, ha, hb, by rw [lx.length, ly.length]; exact h.2.2, fun p hp => new_lst k hp ((lx.free h.1).app (ly.free h.2.1))⟩))
    · cases e
  · obtain ⟨v, w, O1, O2, rfl, p, q⟩ := x.two
    cases hyz
    split at e
    · rename_i h
      cases e
      obtain ⟨a, xs, rfl, ha, lx⟩ := p.tup_inv
      obtain ⟨b, ys, rfl, hb, ly⟩ := q.tup_inv
      have lx' := lx.free h.1
      have ly' := ly.free h.2.1
      refine .inr (.inr (.inr ⟨a, b, xs, ys, rfl, rfl, SqT.of ha, SqT.of hb, by rw [lx.length, ly.length]; exact h.2.2, fun e => ?_, fun _ e => ?_, fun _ _ p hp => new_tup k hp (lx'.app ly')⟩))
      · subst e
        cases lx'
        exact same_self k (.tup hb ly')
      · subst e
        cases ly'
        exact same_self k (.tup ha (by rw [List.append_nil]; exact lx'))
    · cases e
  · cases e
theorem se_add {a b : Expr} {pos : Pos} {f g : M Hd} (ha : SH κ X W a f) (hb : SH κ X W b g) (hk : X.K = κ.K := by rfl) : SE κ X W (.BinOp a .Add b pos) (mOp oAdd (m2 f g)) := se_bin (r := rPlus κ.K) (by rw [← hk]; exact or_plus) ok_add ha hb
theorem se_sub {a b : Expr} {pos : Pos} {f g : M Hd} (ha : SH κ X W a f) (hb : SH κ X W b g) : SE κ X W (.BinOp a .Sub b pos) (mOp oSub (m2 f g)) := se_bin op_sub ok_sub ha hb
theorem se_fdiv {a b : Expr} {pos : Pos} {f g : M Hd} (ha : SH κ X W a f) (hb : SH κ X W b g) : SE κ X W (.BinOp a .FloorDiv b pos) (mOp oFdiv (m2 f g)) := se_bin op_fdivW ok_fdiv ha hb
theorem se_mod {a b : Expr} {pos : Pos} {f g : M Hd} (ha : SH κ X W a f) (hb : SH κ X W b g) : SE κ X W (.BinOp a .Mod b pos) (mOp oMod (m2 f g)) := se_bin op_mod ok_mod ha hb
theorem se_pow {a b : Expr} {pos : Pos} {f g : M Hd} (ha : SH κ X W a f) (hb : SH κ X W b g) : SE κ X W (.BinOp a .Pow b pos) (mOp oPow (m2 f g)) := se_bin op_pow ok_pow ha hb
theorem se_neg {a : Expr} {pos : Pos} {f : M Hd} (ha : SH κ X W a f) : SE κ X W (.UnaryOp .USub a pos) (mOp oNeg (m1 f)) := se_un un_neg ok_neg ha
def oMul : List D → Option D
  | [.int i, .int j] => if i.natAbs.log2 + j.natAbs.log2 < 1000000 then some (.int (i * j)) else none
  | [.lst _ xs, .int k] => if shrdL xs = true ∧ -(2 ^ 63) ≤ k ∧ k < 2 ^ 63 ∧ xs.length * k.toNat ≤ sizeLine then some (.lst true (List.replicate k.toNat xs).flatten) else none
  | _ => none
theorem OwnL.rep {vs : List V} {ds : List D} (x : OwnL κ F H vs ds []) : ∀ n : Nat, OwnL κ F H (List.replicate n vs).flatten (List.replicate n ds).flatten []
  | 0 => .nil
  | n + 1 => by
    rw [List.replicate_succ, List.replicate_succ, List.flatten_cons, List.flatten_cons]
    exact x.app (OwnL.rep x n)
theorem ok_mul : OpOk κ (on2 fun x y H Q => rI CMulW (fun i j => .int (i * j)) x y H Q ∨ rRep x y H Q) oMul := by
  intro F H vs ds Os Q d sm x e k y z hyz
  unfold oMul at e
  split at e
  · obtain ⟨v, w, O1, O2, rfl, p, q⟩ := x.two
    cases hyz
    split at e
    · rename_i h
      cases e
      rw [p.int_inv, q.int_inv]
      exact .inl ⟨_, _, rfl, rfl, h, same_self k (.int _)⟩
    · cases e
  · obtain ⟨v, w, O1, O2, rfl, p, q⟩ := x.two
    cases hyz
    split at e
    · rename_i h
      cases e
      obtain ⟨a, xs, _, rfl, ha, lx⟩ := p.lst_inv sm
      rw [q.int_inv]
      refine .inr ⟨a, _, xs, rfl, rfl, ha, h.2.1, h.2.2.1, by rw [lx.length]; exact h.2.2.2, fun p hp => new_lst k hp ((lx.free h.1).rep _)⟩
    · cases e
  · cases e
theorem se_mul {a b : Expr} {pos : Pos} {f g : M Hd} (ha : SH κ X W a f) (hb : SH κ X W b g) : SE κ X W (.BinOp a .Mult b pos) (mOp oMul (m2 f g)) := se_bin (op_mulW.or op_rep) ok_mul ha hb

/-! ### <, <=, >, >= of ints and texts -/
def oLt : List D → Option D
  | [.int i, .int j] => some (.bl (decide (i < j)))
  | [.str i, .str j] => some (.bl (decide (i.cps.toList < j.cps.toList)))
  | _ => none
def oLe : List D → Option D
  | [.int i, .int j] => some (.bl (decide (i ≤ j)))
  | [.str i, .str j] => some (.bl (!decide (j.cps.toList < i.cps.toList)))
  | _ => none
def oGt : List D → Option D
  | [.int i, .int j] => some (.bl (decide (j < i)))
  | [.str i, .str j] => some (.bl (decide (j.cps.toList < i.cps.toList)))
  | _ => none
def oGe : List D → Option D
  | [.int i, .int j] => some (.bl (decide (j ≤ i)))
  | [.str i, .str j] => some (.bl (!decide (i.cps.toList < j.cps.toList)))
  | _ => none
theorem ok_is {op : List D → Option D} {r1 r2 : R2} {gi : Int → Int → Bool} {gs : Str → Str → Bool} (h1 : ∀ i j H (Q : VK), Q (.bl (gi i j)) H → r1 (.int i) (.int j) H Q) (h2 : ∀ i j H (Q : VK), Q (.bl (gs i j)) H → r2 (.str i) (.str j) H Q)
    (ho : ∀ ds d, op ds = some d → (∃ i j, ds = [.int i, .int j] ∧ d = .bl (gi i j)) ∨ ∃ i j, ds = [.str i, .str j] ∧ d = .bl (gs i j)) : OpOk κ (on2 fun x y H Q => r1 x y H Q ∨ r2 x y H Q) op := by
  intro F H vs ds Os Q d sm x e k y z hyz
  rcases ho ds d e with ⟨i, j, rfl, rfl⟩ | ⟨i, j, rfl, rfl⟩
  · obtain ⟨v, w, O1, O2, rfl, p, q⟩ := x.two
    cases hyz
    rw [p.int_inv, q.int_inv]
    exact .inl (h1 _ _ _ _ (same_self k (.bl _)))
  · obtain ⟨v, w, O1, O2, rfl, p, q⟩ := x.two
    cases hyz
    rw [p.str_inv, q.str_inv]
    exact .inr (h2 _ _ _ _ (same_self k (.bl _)))
theorem se_lt {a b : Expr} {pos : Pos} {f g : M Hd} (ha : SH κ X W a f) (hb : SH κ X W b g) (hm : behindInMarks .Lt b = false := by rfl) : SE κ X W (.Compare a [.Lt] [b] pos) (mOp oLt (m2 f g)) :=
  se_cmp (op_lt.or op_lt_str) (ok_is (fun i j H Q q => ⟨i, j, rfl, rfl, q⟩) (fun i j H Q q => ⟨i, j, rfl, rfl, q⟩) fun ds d e => by
    unfold oLt at e
    split at e <;> cases e
    · exact .inl ⟨_, _, rfl, rfl⟩
    · exact .inr ⟨_, _, rfl, rfl⟩) ha hb hm
theorem se_le {a b : Expr} {pos : Pos} {f g : M Hd} (ha : SH κ X W a f) (hb : SH κ X W b g) (hm : behindInMarks .LtE b = false := by rfl) : SE κ X W (.Compare a [.LtE] [b] pos) (mOp oLe (m2 f g)) :=
  se_cmp (op_le.or op_le_str) (ok_is (fun i j H Q q => ⟨i, j, rfl, rfl, q⟩) (fun i j H Q q => ⟨i, j, rfl, rfl, q⟩) fun ds d e => by
    unfold oLe at e
    split at e <;> cases e
    · exact .inl ⟨_, _, rfl, rfl⟩
    · exact .inr ⟨_, _, rfl, rfl⟩) ha hb hm
theorem se_gt {a b : Expr} {pos : Pos} {f g : M Hd} (ha : SH κ X W a f) (hb : SH κ X W b g) (hm : behindInMarks .Gt b = false := by rfl) : SE κ X W (.Compare a [.Gt] [b] pos) (mOp oGt (m2 f g)) :=
  se_cmp (op_gt.or op_gt_str) (ok_is (fun i j H Q q => ⟨i, j, rfl, rfl, q⟩) (fun i j H Q q => ⟨i, j, rfl, rfl, q⟩) fun ds d e => by
    unfold oGt at e
    split at e <;> cases e
    · exact .inl ⟨_, _, rfl, rfl⟩
    · exact .inr ⟨_, _, rfl, rfl⟩) ha hb hm
theorem se_ge {a b : Expr} {pos : Pos} {f g : M Hd} (ha : SH κ X W a f) (hb : SH κ X W b g) (hm : behindInMarks .GtE b = false := by rfl) : SE κ X W (.Compare a [.GtE] [b] pos) (mOp oGe (m2 f g)) :=
  se_cmp (op_ge.or op_ge_str) (ok_is (fun i j H Q q => ⟨i, j, rfl, rfl, q⟩) (fun i j H Q q => ⟨i, j, rfl, rfl, q⟩) fun ds d e => by
    unfold oGe at e
    split at e <;> cases e
    · exact .inl ⟨_, _, rfl, rfl⟩
    · exact .inr ⟨_, _, rfl, rfl⟩) ha hb hm

/-! ### == and != of data -/
mutual
def pd : D → Option PyData
  | .non => some .none
  | .bl b => some (.bool b)
  | .int i => some (.int i)
  | .str x => some (.str x)
  | .lst _ xs => (pdL xs).map .list
  | .fro xs => (pdL xs).map .list
  | .tup xs => (pdL xs).map .tuple
  | .cls _ => none
  | .dic _ _ => none
  | .dct _ _ => none
  | .set _ _ => none
  | .obj _ _ _ => none
  | .exn _ _ => none
def pdL : List D → Option (List PyData)
  | [] => some []
  | x :: xs => match pd x with
    | some p => (match pdL xs with
      | some ps => some (p :: ps)
      | none => none)
    | none => none
end
theorem sqL_sub {K : PySem.W.Frag} {a : Addr} {vs : List V} (sm : Same F H) (h : SqL K F a vs) : SqL K H a vs := sm.seq h
mutual
theorem Own.dp {v : V} {d : D} {O : List Addr} (sm : Same F H) (x : Own κ F H v d O) : ∀ p, pd d = some p → Dp κ.K H v p := by
  intro p e
  match x with
  | .non => cases e; exact .non
  | .bl b => cases e; exact .bl b
  | .int i => cases e; exact .int i
  | .str s => cases e; exact .str s
  | .cls c => cases e
  | .lstS h1 l =>
    unfold pd at e
    obtain ⟨ps, e1, rfl⟩ := Option.map_eq_some_iff.mp e
    exact .lst (SqL.of (sm _ _ h1)) (l.dp sm ps e1)
  | .fro h1 l =>
    unfold pd at e
    obtain ⟨ps, e1, rfl⟩ := Option.map_eq_some_iff.mp e
    exact .lst (sm.seq h1) (l.dp sm ps e1)
  | .lstO h1 l =>
    unfold pd at e
    obtain ⟨ps, e1, rfl⟩ := Option.map_eq_some_iff.mp e
    exact .lst (SqL.of h1) (l.dp sm ps e1)
  | .tup h1 l =>
    unfold pd at e
    obtain ⟨ps, e1, rfl⟩ := Option.map_eq_some_iff.mp e
    exact .tup (SqT.of h1) (l.dp sm ps e1)
  | .setS h1 a b => cases e
  | .setO h1 a b => cases e
  | .dicS h1 a l => cases e
  | .dicO h1 a l => cases e
  | .dctS h1 a l => cases e
  | .dctO h1 a l => cases e
  | .objS h1 a l => cases e
  | .objO h1 a l => cases e
theorem OwnL.dp {vs : List V} {ds : List D} {O : List Addr} (sm : Same F H) (x : OwnL κ F H vs ds O) : ∀ p, pdL ds = some p → DpAll κ.K H vs p := by
  intro p e
  match x with
  | .nil => cases e; exact .nil
  | .cons (d := d) (ds := ds) h1 l =>
    unfold pdL at e
    cases q : pd d with
    | none => rw [q] at e; cases e
    | some p1 =>
      rw [q] at e
      cases q2 : pdL ds with
      | none => rw [q2] at e; cases e
      | some ps =>
        rw [q2] at e
        cases e
        exact .cons (h1.dp sm p1 q) (l.dp sm ps q2)
end
def oEq : List D → Option D
  | [d, e] => match pd d, pd e with
    | some p, some q => if SeqAt.shaped p = true ∧ SeqAt.shaped q = true then some (.bl (PyData.eqv p q)) else none
    | _, _ => none
  | _ => none
def oNe : List D → Option D
  | [d, e] => match pd d, pd e with
    | some p, some q => if SeqAt.shaped p = true ∧ SeqAt.shaped q = true then some (.bl (!PyData.eqv p q)) else none
    | _, _ => none
  | _ => none
theorem ok_eq : OpOk κ (on2 (rEqD κ.K)) oEq := by
  intro F H vs ds Os Q d sm x e k y z hyz
  unfold oEq at e
  split at e
  · rename_i d1 d2
    obtain ⟨v, w, O1, O2, rfl, a, b⟩ := x.two
    cases hyz
    split at e
    · rename_i p q e1 e2
      split at e
      · rename_i h
        cases e
        exact ⟨p, q, a.dp sm p e1, b.dp sm q e2, h.1, h.2, same_self k (.bl _)⟩
      · cases e
    · cases e
  · cases e
theorem ok_ne : OpOk κ (on2 (rNeD κ.K)) oNe := by
  intro F H vs ds Os Q d sm x e k y z hyz
  unfold oNe at e
  split at e
  · rename_i d1 d2
    obtain ⟨v, w, O1, O2, rfl, a, b⟩ := x.two
    cases hyz
    split at e
    · rename_i p q e1 e2
      split at e
      · rename_i h
        cases e
        exact ⟨p, q, a.dp sm p e1, b.dp sm q e2, h.1, h.2, same_self k (.bl _)⟩
      · cases e
    · cases e
  · cases e
theorem se_eq {a b : Expr} {pos : Pos} {f g : M Hd} (hr : UR X.A) (ha : SH κ X W a f) (hb : SH κ X W b g) (hm : behindInMarks .Eq b = false := by rfl) (hk : X.K = κ.K := by rfl) : SE κ X W (.Compare a [.Eq] [b] pos) (mOp oEq (m2 f g)) :=
  se_cmp (r := rEqD κ.K) (by rw [← hk]; exact op_eqD hr.units) ok_eq ha hb hm
theorem se_ne {a b : Expr} {pos : Pos} {f g : M Hd} (hr : UR X.A) (ha : SH κ X W a f) (hb : SH κ X W b g) (hm : behindInMarks .NotEq b = false := by rfl) (hk : X.K = κ.K := by rfl) : SE κ X W (.Compare a [.NotEq] [b] pos) (mOp oNe (m2 f g)) :=
  se_cmp (r := rNeD κ.K) (by rw [← hk]; exact op_neD hr.units) ok_ne ha hb hm
/-! ### is None -/
def isNon : D → Bool
  | .non => true
  | _ => false
def oIs : List D → Option D
  | [d, .non] => some (.bl (isNon d))
  | _ => none
def oIsNot : List D → Option D
  | [d, .non] => some (.bl (!isNon d))
  | _ => none
theorem Own.isNon {v : V} {d : D} {O : List Addr} (x : Own κ F H v d O) : decide (v = .non) = VS.isNon d := by
  cases x <;> rfl
theorem ok_isN : OpOk κ (on2 fun x y H Q => y = .non ∧ Q (.bl (decide (x = .non))) H) oIs := by
  intro F H vs ds Os Q d sm x e k y z hyz
  unfold oIs at e
  split at e
  · obtain ⟨v, w, O1, O2, rfl, a, b⟩ := x.two
    cases hyz
    cases e
    refine ⟨b.non_inv, ?_⟩
    rw [a.isNon]
    exact same_self k (.bl _)
  · cases e
theorem ok_isNotN : OpOk κ (on2 fun x y H Q => y = .non ∧ Q (.bl (!decide (x = .non))) H) oIsNot := by
  intro F H vs ds Os Q d sm x e k y z hyz
  unfold oIsNot at e
  split at e
  · obtain ⟨v, w, O1, O2, rfl, a, b⟩ := x.two
    cases hyz
    cases e
    refine ⟨b.non_inv, ?_⟩
    rw [a.isNon]
    exact same_self k (.bl _)
  · cases e
theorem se_is {a b : Expr} {pos : Pos} {f g : M Hd} (ha : SH κ X W a f) (hb : SH κ X W b g) (hm : behindInMarks .Is b = false := by rfl) : SE κ X W (.Compare a [.Is] [b] pos) (mOp oIs (m2 f g)) := se_cmp op_isN ok_isN ha hb hm
theorem se_isNot {a b : Expr} {pos : Pos} {f g : M Hd} (ha : SH κ X W a f) (hb : SH κ X W b g) (hm : behindInMarks .IsNot b = false := by rfl) : SE κ X W (.Compare a [.IsNot] [b] pos) (mOp oIsNot (m2 f g)) := se_cmp op_notN ok_isNotN ha hb hm
end VS
set_option Elab.async false
set_option linter.all false
set_option maxRecDepth 100000
set_option maxHeartbeats 1000000
namespace VS
open PySem L2
variable {κ : Kc} {W : WX} {pi : List Nat} {F F' F1 F2 H H' H1 H2 : Hp} {X : Cx}

/-! ### dicts and sets, looked at -/
def lookD {α : Type} [DecidableEq α] (kvs : List (α × D)) (k : α) : Option D := (kvs.find? fun kv => decide (kv.1 = k)).map (·.2)
def hasKey (k : Key) (ks : List Key) : Bool := ks.any fun j => decide (j = k)
theorem hasKey_iff {k : Key} {ks : List Key} : hasKey k ks = true ↔ k ∈ ks := by
  unfold hasKey
  rw [List.any_eq_true]
  exact ⟨fun ⟨x, h, e⟩ => (of_decide_eq_true e) ▸ h, fun h => ⟨k, h, decide_eq_true rfl⟩⟩
def keyOf : D → Option Key
  | .int i => some (.inl i)
  | .str x => some (.inr x)
  | _ => none
def keysOf : List D → Option (List Key)
  | [] => some []
  | d :: ds => match keyOf d with
    | some k => (match keysOf ds with
      | some ks => some (k :: ks)
      | none => none)
    | none => none
theorem Own.key {v : V} {d : D} {O : List Addr} (x : Own κ F H v d O) {k : Key} (e : keyOf d = some k) : v = kV k := by
  cases x <;> cases e <;> rfl
theorem OwnL.keys {vs : List V} {ds : List D} {O : List Addr} (x : OwnL κ F H vs ds O) : ∀ {ks : List Key}, keysOf ds = some ks → vs = ks.map kV := by
  intro ks e
  induction ds generalizing vs O ks with
  | nil => cases x; cases e; rfl
  | cons d ds ih =>
    cases x with
    | cons h t =>
      unfold keysOf at e
      cases q : keyOf d with
      | none => rw [q] at e; cases e
      | some k =>
        rw [q] at e
        cases q2 : keysOf ds with
        | none => rw [q2] at e; cases e
        | some ks0 =>
          rw [q2] at e
          cases e
          rw [h.key q, ih t q2]
          rfl
/-- the pairs of a dict: found on both sides or on none -/
theorem OwnL.look {α : Type} [DecidableEq α] : ∀ {kv : List (α × V)} {kd : List (α × D)} {O : List Addr}, kv.map Prod.fst = kd.map Prod.fst → OwnL κ F H (kv.map Prod.snd) (kd.map Prod.snd) O → ∀ k : α,
    (valV kv k = none ∧ lookD kd k = none) ∨ ∃ v d O1, valV kv k = some v ∧ lookD kd k = some d ∧ Own κ F H v d O1
  | [], [], _, _, _, k => .inl ⟨rfl, rfl⟩
  | [], _ :: _, _, e, _, _ => by simp at e
  | _ :: _, [], _, e, _, _ => by simp at e
  | (a, v) :: kv, (b, d) :: kd, O, e, x, k => by
    rw [List.map_cons, List.map_cons] at e x
    injection e with e1 e2
    cases x with
    | @cons _ _ _ _ O1 O2 h t =>
    have e1 : a = b := e1
    subst e1
    by_cases q : a = k
    · refine .inr ⟨v, d, O1, valV_pos (p := (a, v)) q, ?_, h⟩
      unfold lookD
      rw [List.find?_cons_of_pos (by simpa using q)]
      rfl
    · rw [valV_neg (p := (a, v)) q]
      have : lookD ((a, d) :: kd) k = lookD kd k := by
        unfold lookD
        rw [List.find?_cons_of_neg (by simpa using q)]
      rw [this]
      exact OwnL.look e2 t k
theorem Own.dic_inv {v : V} {o : Bool} {kd : List (Key × D)} {O : List Addr} (sm : Same F H) (x : Own κ F H v (.dic o kd) O) : ∃ a kv O', v = .ref a ∧ H a = some (.dK kv) ∧ kv.map Prod.fst = kd.map Prod.fst ∧ OwnL κ F H (kv.map Prod.snd) (kd.map Prod.snd) O' := by
  cases x with
  | dicS h e l => exact ⟨_, _, _, rfl, sm _ _ h, e, l⟩
  | dicO h e l => exact ⟨_, _, _, rfl, h, e, l⟩
theorem Own.dct_inv {v : V} {o : Bool} {kd : List (List Key × D)} {O : List Addr} (sm : Same F H) (x : Own κ F H v (.dct o kd) O) : ∃ a kv O', v = .ref a ∧ H a = some (.dT kv) ∧ kv.map Prod.fst = kd.map Prod.fst ∧ OwnL κ F H (kv.map Prod.snd) (kd.map Prod.snd) O' := by
  cases x with
  | dctS h e l => exact ⟨_, _, _, rfl, sm _ _ h, e, l⟩
  | dctO h e l => exact ⟨_, _, _, rfl, h, e, l⟩
theorem Own.set_inv {v : V} {o : Bool} {ks : List Key} {O : List Addr} (sm : Same F H) (x : Own κ F H v (.set o ks) O) : ∃ a S, v = .ref a ∧ H a = some (SetK κ.P κ.w a S ks.length) ∧ (∀ k, S k = true ↔ k ∈ ks) ∧ ks.Nodup := by
  cases x with
  | setS h e l => exact ⟨_, _, rfl, sm _ _ h, e, l⟩
  | setO h e l => exact ⟨_, _, rfl, h, e, l⟩
/-- a dict's key: a number, a text; a tuple of such -/
def dHas : D → D → Option (Option D)
  | .dic _ kvs, x => match keyOf x with
    | some k => some (lookD kvs k)
    | none => none
  | .dct _ kvs, .tup ds => match keysOf ds with
    | some k => some (lookD kvs k)
    | none => none
  | _, _ => none
theorem dget_of {v w : V} {c x : D} {O1 O2 : List Addr} (sm : Same F H) (y : Own κ F H v c O1) (z : Own κ F H w x O2) {r : Option D} (e : dHas c x = some r) :
    ∃ a, v = .ref a ∧ ((DGet H a w none ∧ r = none) ∨ ∃ u d O3, DGet H a w (some u) ∧ r = some d ∧ Own κ F H u d O3) := by
  unfold dHas at e
  split at e
  · obtain ⟨a, kv, O', rfl, ha, ek, l⟩ := y.dic_inv sm
    split at e
    · rename_i k hk
      cases e
      rw [z.key hk]
      refine ⟨a, rfl, ?_⟩
      have g := DGet.k (k := k) ha
      rcases OwnL.look ek l k with ⟨h1, h2⟩ | ⟨u, d, O3, h1, h2, h3⟩
      · rw [h1] at g; exact .inl ⟨g, h2⟩
      · rw [h1] at g; exact .inr ⟨u, d, O3, g, h2, h3⟩
    · cases e
  · obtain ⟨a, kv, O', rfl, ha, ek, l⟩ := y.dct_inv sm
    obtain ⟨b, vs, rfl, hb, lt⟩ := z.tup_inv
    split at e
    · rename_i k hk
      cases e
      rw [lt.keys hk] at hb
      refine ⟨a, rfl, ?_⟩
      have g := DGet.t (k := k) ha hb
      rcases OwnL.look ek l k with ⟨h1, h2⟩ | ⟨u, d, O3, h1, h2, h3⟩
      · rw [h1] at g; exact .inl ⟨g, h2⟩
      · rw [h1] at g; exact .inr ⟨u, d, O3, g, h2, h3⟩
    · cases e
  · cases e

/-! ### in, not in -/
def flatD : D → Bool
  | .non => true
  | .bl _ => true
  | .int _ => true
  | .str _ => true
  | _ => false
def eqF : D → D → Bool
  | .non, .non => true
  | .bl a, .bl b => a == b
  | .bl a, .int b => (if a then 1 else 0) == b
  | .int a, .bl b => a == (if b then 1 else 0)
  | .int a, .int b => a == b
  | .str a, .str b => a == b
  | _, _ => false
theorem Own.flat {v : V} {d : D} {O : List Addr} (x : Own κ F H v d O) (h : flatD d = true) : flatV v = true := by
  cases x <;> first | rfl | cases h
theorem Own.eqF {v w : V} {d e : D} {O O2 : List Addr} (x : Own κ F H v d O) (y : Own κ F H w e O2) (h : flatD d = true) (h2 : flatD e = true) : eqV v w = VS.eqF d e := by
  cases x <;> first | (cases h; done) | (cases y <;> first | (cases h2; done) | rfl)
theorem OwnL.flats {vs : List V} {ds : List D} {O : List Addr} (x : OwnL κ F H vs ds O) (h : ds.all flatD = true) : vs.all flatV = true := by
  induction ds generalizing vs O with
  | nil => cases x; rfl
  | cons d ds ih =>
    cases x with
    | cons a t =>
      rw [List.all_cons, Bool.and_eq_true] at h ⊢
      exact ⟨a.flat h.1, ih t h.2⟩
theorem OwnL.inF {vs : List V} {ds : List D} {O O2 : List Addr} (x : OwnL κ F H vs ds O) (h : ds.all flatD = true) {w : V} {e : D} (y : Own κ F H w e O2) (h2 : flatD e = true) : inV w vs = ds.any fun z => VS.eqF z e := by
  unfold inV
  induction ds generalizing vs O with
  | nil => cases x; rfl
  | cons d ds ih =>
    cases x with
    | cons a t =>
      rw [List.all_cons, Bool.and_eq_true] at h
      rw [List.any_cons, List.any_cons, a.eqF y h.1 h2, ih t h.2]
def inB : List D → Option Bool
  | [x, .tup ds] => if flatD x = true ∧ ds.all flatD = true then some (ds.any fun z => eqF z x) else none
  | [.str x, .str z] => match x.cps.toList with
    | [c] => some (decide (c ∈ z.cps.toList))
    | _ => none
  | [x, .set _ ks] => match keyOf x with
    | some k => some (hasKey k ks)
    | none => none
  | [x, .lst _ ds] => match pd x, pdL ds with
    | some p, some ps => if SeqAt.shaped p = true ∧ SeqAt.shaped (.list ps) = true then some (ps.any fun z => PyData.eqv z p) else none
    | _, _ => none
  | [x, c] => match dHas c x with
    | some r => some r.isSome
    | none => none
  | _ => none
def oIn (ds : List D) : Option D := (inB ds).map .bl
def oNotIn (ds : List D) : Option D := (inB ds).map fun b => .bl (!b)
def rDIn (neg : Bool) : R2 := fun x y H Q => ∃ a o, y = .ref a ∧ DGet H a x o ∧ Q (.bl (if neg then !o.isSome else o.isSome)) H
theorem or_din (hu : X.A.units + 1 < cLine) : OpR X (compareOp .In) (rDIn false) := by
  intro pins s σ H x y v u Q I rx ry h
  obtain ⟨a, o, rfl, g, q⟩ := h
  obtain rfl : u = Value.ref a := ry
  exact d_in hu I g rx fun s3 I3 => ⟨.bl o.isSome, H, I3, rfl, q⟩
theorem or_dnotin (hu : X.A.units + 1 < cLine) : OpR X (compareOp .NotIn) (rDIn true) := by
  intro pins s σ H x y v u Q I rx ry h
  obtain ⟨a, o, rfl, g, q⟩ := h
  obtain rfl : u = Value.ref a := ry
  exact d_notIn hu I g rx fun s3 I3 => ⟨.bl (!o.isSome), H, I3, rfl, q⟩
def rSgn (neg : Bool) : R2 := fun x y H Q => ∃ (c : Nat) (z : Str), x = .str ⟨#[c]⟩ ∧ y = .str z ∧ Q (.bl (if neg then !decide (c ∈ z.cps.toList) else decide (c ∈ z.cps.toList))) H
def rDat (K : PySem.W.Frag) (neg : Bool) : R2 := fun x y H Q => ∃ d ds, Dp K H x d ∧ Dp K H y (.list ds) ∧ SeqAt.shaped d = true ∧ SeqAt.shaped (.list ds) = true ∧ Q (.bl (if neg then !ds.any fun z => PyData.eqv z d else ds.any fun z => PyData.eqv z d)) H
def rInU (K : PySem.W.Frag) (P : Program) (w : World) (neg : Bool) : R2 := fun x y H Q => rIn K neg x y H Q ∨ (rSgn neg x y H Q ∨ (rSInK P w neg x y H Q ∨ (rDat K neg x y H Q ∨ rDIn neg x y H Q)))
theorem or_inU (hr : UR X.A) : OpR X (compareOp .In) (rInU X.K X.prog X.w false) := by
  have h1 : OpR X (compareOp .In) (rSgn false) := fun pins s σ H x y v u Q I rx ry ⟨c, z, e1, e2, q⟩ => op_in_sign pins s σ H x y v u Q I rx ry ⟨c, z, e1, e2, by simpa using q⟩
  have h2 : OpR X (compareOp .In) (rDat X.K false) := fun pins s σ H x y v u Q I rx ry ⟨d, ds, e1, e2, e3, e4, q⟩ => op_inD (by have := hr.un; omega) pins s σ H x y v u Q I rx ry ⟨d, ds, e1, e2, e3, e4, by simpa using q⟩
  exact op_in_seq.or (h1.or (or_sinK.or (h2.or (or_din (by have := hr.un; omega)))))
theorem or_notInU (hr : UR X.A) : OpR X (compareOp .NotIn) (rInU X.K X.prog X.w true) := by
  have h1 : OpR X (compareOp .NotIn) (rSgn true) := fun pins s σ H x y v u Q I rx ry ⟨c, z, e1, e2, q⟩ => op_notIn_sign pins s σ H x y v u Q I rx ry ⟨c, z, e1, e2, by simpa using q⟩
  have h2 : OpR X (compareOp .NotIn) (rDat X.K true) := fun pins s σ H x y v u Q I rx ry ⟨d, ds, e1, e2, e3, e4, q⟩ => op_notInD (by have := hr.un; omega) pins s σ H x y v u Q I rx ry ⟨d, ds, e1, e2, e3, e4, by simpa using q⟩
  exact op_notIn_seq.or (h1.or (or_snotinK.or (h2.or (or_dnotin (by have := hr.un; omega)))))
theorem inU_of {neg : Bool} {vs : List V} {ds : List D} {Os : List Addr} {b : Bool} (sm : Same F H) (x : OwnL κ F H vs ds Os) (e : inB ds = some b) {Q : VK} (q : Q (.bl (if neg then !b else b)) H) : on2 (rInU κ.K κ.P κ.w neg) vs H Q := by
  intro y z hyz
  unfold inB at e
  split at e
  · obtain ⟨v, w, O1, O2, rfl, p, r⟩ := x.two
    cases hyz
    split at e
    · rename_i h
      cases e
      obtain ⟨a, us, rfl, ha, l⟩ := r.tup_inv
      refine .inl ⟨a, us, rfl, .inr (SqT.of ha), p.flat h.1, l.flats h.2, ?_⟩
      rw [l.inF h.2 p h.1]
      exact q
    · cases e
  · obtain ⟨v, w, O1, O2, rfl, p, r⟩ := x.two
    cases hyz
    rename_i s1 s2
    split at e
    · rename_i c hc
      cases e
      rw [p.str_inv, r.str_inv]
      refine .inr (.inl ⟨c, _, ?_, rfl, q⟩)
      have e2 : s1.cps = #[c] := by
        apply Array.ext'
        rw [hc]
      obtain ⟨cps⟩ := s1
      have e3 : cps = #[c] := e2
      rw [e3]
    · cases e
  · obtain ⟨v, w, O1, O2, rfl, p, r⟩ := x.two
    cases hyz
    split at e
    · rename_i k hk
      cases e
      obtain ⟨a, S, rfl, ha, hs, _⟩ := r.set_inv sm
      rw [p.key hk]
      refine .inr (.inr (.inl ⟨k, a, S, _, rfl, rfl, ha, ?_⟩))
      have e2 : ∀ ks', (∀ k, S k = true ↔ k ∈ ks') → S k = hasKey k ks' := fun ks' h' => by
        rw [Bool.eq_iff_iff, h' k, hasKey_iff]
      rw [e2 _ hs]
      exact q
    · cases e
  · obtain ⟨v, w, O1, O2, rfl, p, r⟩ := x.two
    cases hyz
    split at e
    · rename_i p1 ps e1 e2
      split at e
      · rename_i h
        cases e
        refine .inr (.inr (.inr (.inl ⟨p1, ps, p.dp sm _ e1, r.dp sm _ (by unfold pd; rw [e2]; rfl), h.1, h.2, q⟩)))
      · cases e
    · cases e
  · obtain ⟨v, w, O1, O2, rfl, p, r⟩ := x.two
    cases hyz
    split at e
    · rename_i r0 hr0
      cases e
      obtain ⟨a, rfl, h⟩ := dget_of sm r p hr0
      rcases h with ⟨g, rfl⟩ | ⟨u, d, O3, g, rfl, _⟩
      · exact .inr (.inr (.inr (.inr ⟨a, none, rfl, g, q⟩)))
      · exact .inr (.inr (.inr (.inr ⟨a, some u, rfl, g, q⟩)))
    · cases e
  · cases e
theorem ok_in : OpOk κ (on2 (rInU κ.K κ.P κ.w false)) oIn := by
  intro F H vs ds Os Q d sm x e k
  obtain ⟨b, e1, rfl⟩ := Option.map_eq_some_iff.mp e
  exact inU_of sm x e1 (same_self k (.bl _))
theorem ok_notIn : OpOk κ (on2 (rInU κ.K κ.P κ.w true)) oNotIn := by
  intro F H vs ds Os Q d sm x e k
  obtain ⟨b, e1, rfl⟩ := Option.map_eq_some_iff.mp e
  exact inU_of sm x e1 (same_self k (.bl _))
/-- κ speaks of X -/
structure Kc.On (κ : Kc) (X : Cx) : Prop where
  K : X.K = κ.K
  P : X.prog = κ.P
  w : X.w = κ.w
theorem se_in {a b : Expr} {pos : Pos} {f g : M Hd} (hr : UR X.A) (ha : SH κ X W a f) (hb : SH κ X W b g) (hm : behindInMarks .In b = false := by rfl) (ho : κ.On X := by exact ⟨rfl, rfl, rfl⟩) : SE κ X W (.Compare a [.In] [b] pos) (mOp oIn (m2 f g)) :=
  se_cmp (r := rInU κ.K κ.P κ.w false) (by rw [← ho.K, ← ho.P, ← ho.w]; exact or_inU hr) ok_in ha hb hm
theorem se_notIn {a b : Expr} {pos : Pos} {f g : M Hd} (hr : UR X.A) (ha : SH κ X W a f) (hb : SH κ X W b g) (hm : behindInMarks .NotIn b = false := by rfl) (ho : κ.On X := by exact ⟨rfl, rfl, rfl⟩) : SE κ X W (.Compare a [.NotIn] [b] pos) (mOp oNotIn (m2 f g)) :=
  se_cmp (r := rInU κ.K κ.P κ.w true) (by rw [← ho.K, ← ho.P, ← ho.w]; exact or_notInU hr) ok_notIn ha hb hm

/-! ### a[i] -/
theorem OwnL.at {vs : List V} {ds : List D} {O : List Addr} (x : OwnL κ F H vs ds O) : ∀ {j : Nat} {d : D}, ds[j]? = some d → ∃ v O1, vs[j]? = some v ∧ Own κ F H v d O1 := by
  induction ds generalizing vs O with
  | nil => intro j d h; simp at h
  | cons d ds ih =>
    cases x with
    | cons a t =>
      intro j d' h
      cases j with
      | zero => simp at h; subst h; exact ⟨_, _, rfl, a⟩
      | succ j => exact ih t (by simpa using h)
theorem OwnL.atI {vs : List V} {ds : List D} {O : List Addr} (x : OwnL κ F H vs ds O) {i : Int} {d : D} (h : L2.atI ds i = some d) : ∃ v O1, L2.atI vs i = some v ∧ Own κ F H v d O1 := by
  unfold L2.atI at h ⊢
  rw [x.length]
  cases q : ixN ds.length i with
  | none => rw [q] at h; cases h
  | some j => rw [q] at h; exact x.at h
def ifShrd : Option D → Option D
  | some d => if shrd d = true then some d else none
  | none => none
theorem ifShrd_eq {r : Option D} {d : D} (e : ifShrd r = some d) : r = some d ∧ shrd d = true := by
  cases r with
  | none => cases e
  | some d0 =>
    unfold ifShrd at e
    dsimp only at e
    split at e
    · rename_i h
      cases e
      exact ⟨rfl, h⟩
    · cases e
def oIx : List D → Option D
  | [.lst _ ds, .int i] => ifShrd (L2.atI ds i)
  | [.tup ds, .int i] => ifShrd (L2.atI ds i)
  | [.fro ds, .int i] => ifShrd (L2.atI ds i)
  | [.str z, .int i] => if z.length ≤ sizeLine then (L2.atI z.cps.toList i).map fun c => .str ⟨#[c]⟩ else none
  | [c, x] => match dHas c x with
    | some r => ifShrd r
    | none => none
  | _ => none
def rIxDc : R2 := fun x y H Q => ∃ a v, x = .ref a ∧ DGet H a y (some v) ∧ Q v H
theorem ix_dct (hu : X.A.units + 1 < cLine) : IxR X rIxDc := by
  intro value slice pins s σ H x y v u Q I rx ry h hs
  obtain ⟨a, z, rfl, g, q⟩ := h
  obtain rfl : v = Value.ref a := rx
  exact PyProof.Rows.tail_any (dict_typeIs I g) PySem.F.slot_dict_getitem.lookup (d_getItem hu I g ry fun w' s3 I3 rw' => ⟨z, H, I3, rw', q⟩) hs
theorem ok_ix : OpOk κ (on2 fun x y H Q => rIx κ.K x y H Q ∨ rIxDc x y H Q) oIx := by
  intro F H vs ds Os Q d sm x e k y z hyz
  unfold oIx at e
  split at e
  · obtain ⟨v, w, O1, O2, rfl, p, q⟩ := x.two
    cases hyz
    obtain ⟨e1, hs⟩ := ifShrd_eq e
    obtain ⟨a, us, O', rfl, ha, l⟩ := p.lst_inv sm
    obtain ⟨u, O3, hu, yu⟩ := l.atI e1
    rw [q.int_inv]
    exact .inl (.inl ⟨a, us, _, u, rfl, rfl, SqL.of ha, hu, same_self k (yu.free hs)⟩)
  · obtain ⟨v, w, O1, O2, rfl, p, q⟩ := x.two
    cases hyz
    obtain ⟨e1, hs⟩ := ifShrd_eq e
    obtain ⟨a, us, rfl, ha, l⟩ := p.tup_inv
    obtain ⟨u, O3, hu, yu⟩ := l.atI e1
    rw [q.int_inv]
    exact .inl (.inr (.inl ⟨a, us, _, u, rfl, rfl, SqT.of ha, hu, same_self k (yu.free hs)⟩))
  · obtain ⟨v, w, O1, O2, rfl, p, q⟩ := x.two
    cases hyz
    obtain ⟨e1, hs⟩ := ifShrd_eq e
    obtain ⟨a, us, rfl, ha, l⟩ := p.fro_inv sm
    obtain ⟨u, O3, hu, yu⟩ := l.atI e1
    rw [q.int_inv]
    exact .inl (.inl ⟨a, us, _, u, rfl, rfl, ha, hu, same_self k (yu.free hs)⟩)
  · obtain ⟨v, w, O1, O2, rfl, p, q⟩ := x.two
    cases hyz
    split at e
    · rename_i hl
      obtain ⟨c, e1, rfl⟩ := Option.map_eq_some_iff.mp e
      rw [p.str_inv, q.int_inv]
      exact .inl (.inr (.inr ⟨_, _, c, rfl, rfl, hl, e1, same_self k (.str _)⟩))
    · cases e
  · obtain ⟨v, w, O1, O2, rfl, p, q⟩ := x.two
    cases hyz
    split at e
    · rename_i r0 hr0
      obtain ⟨e1, hs⟩ := ifShrd_eq e
      obtain ⟨a, rfl, h⟩ := dget_of sm p q hr0
      rcases h with ⟨g, rfl⟩ | ⟨u, d', O3, g, rfl, yu⟩
      · cases e1
      · cases e1
        exact .inr ⟨a, u, rfl, g, same_self k (yu.free hs)⟩
    · cases e
  · cases e
theorem se_ix {a b : Expr} {pos : Pos} {f g : M Hd} (hr : UR X.A) (ha : SH κ X W a f) (hb : SH κ X W b g) (hs : PlainIx b := by exact fun _ _ => rfl) (hk : X.K = κ.K := by rfl) : SE κ X W (.Subscript a b pos) (mOp oIx (m2 f g)) :=
  ⟨pe_mono (pe_ix (r := fun x y H Q => rIx κ.K x y H Q ∨ rIxDc x y H Q) (by rw [← hk]; exact ix_seq.or (ix_dct (by have := hr.un; omega))) ha.pe hb.pe hs) fun _ _ _ q => tX_op2 ok_ix q⟩

/-! ### len and other built-ins -/
theorem se_callB {x id : String} {p pos : Pos} {e : Expr} {es : List Expr} {r : List V → Hp → VK → Prop} {op : List D → Option D} {fa : M (List Hd)} (hc : CallR X (.builtin id) r) (ok : OpOk κ r op) (hg : Gl X (x : Str)) (hm : X.mg (x : Str) = none) (hv : bootBuiltins (x : Str) = some (.builtin id)) (ha : SA κ X W (e :: es) fa)
    (hn : (x : Str) ≠ "__name__" := by decide) (hdb : ((x : Str) == ("__debug__" : Str)) = false := by decide)
    (he : starEach (e :: es) X.env = (false, eval e X.env) :: starEach es X.env := by rfl) (hpl : (backTo pos (starEach es X.env)).any (·.1) = false := by rfl) : SE κ X W (.Call (.Name (x : Str) p) (e :: es) [] pos) (mOp op fa) :=
  ⟨pe_mono (pe_callB hc hg hm hv ha.pa hn hdb he hpl) fun _ _ _ q => tX_op ok q⟩
theorem se_callTy {x T : String} {p pos : Pos} {e : Expr} {es : List Expr} {r : List V → Hp → VK → Prop} {op : List D → Option D} {fa : M (List Hd)} (hc : CallR X (.type T) r) (ok : OpOk κ r op) (hg : Gl X (x : Str)) (hm : X.mg (x : Str) = none) (hv : bootBuiltins (x : Str) = some (.type T)) (ha : SA κ X W (e :: es) fa)
    (hn : (x : Str) ≠ "__name__" := by decide) (hdb : ((x : Str) == ("__debug__" : Str)) = false := by decide)
    (he : starEach (e :: es) X.env = (false, eval e X.env) :: starEach es X.env := by rfl) (hpl : (backTo pos (starEach es X.env)).any (·.1) = false := by rfl) : SE κ X W (.Call (.Name (x : Str) p) (e :: es) [] pos) (mOp op fa) :=
  ⟨pe_mono (pe_callTy hc hg hm hv ha.pa hn hdb he hpl) fun _ _ _ q => tX_op ok q⟩
def oLen : List D → Option D
  | [.str z] => if z.length ≤ sizeLine then some (.int z.length) else none
  | [.lst _ ds] => some (.int ds.length)
  | [.tup ds] => some (.int ds.length)
  | [.fro ds] => some (.int ds.length)
  | [.dic _ kvs] => some (.int kvs.length)
  | [.dct _ kvs] => some (.int kvs.length)
  | _ => none
theorem ok_len : OpOk κ (fun xs H Q => (∃ x n, xs = [x] ∧ LenV κ.K x H n ∧ Q (.int n) H) ∨ ((∃ a kvs, xs = [V.ref a] ∧ H a = some (.dK kvs) ∧ Q (.int kvs.length) H) ∨ rLenT xs H Q)) oLen := by
  intro F H vs ds Os Q d sm x e k
  unfold oLen at e
  split at e
  · obtain ⟨v, O1, rfl, p⟩ := x.one
    split at e
    · rename_i h
      cases e
      rw [p.str_inv]
      exact .inl ⟨_, _, rfl, ⟨h, rfl⟩, same_self k (.int _)⟩
    · cases e
  · obtain ⟨v, O1, rfl, p⟩ := x.one
    cases e
    obtain ⟨a, us, O', rfl, ha, l⟩ := p.lst_inv sm
    exact .inl ⟨_, _, rfl, .inl ⟨us, SqL.of ha, rfl⟩, by rw [l.length]; exact same_self k (.int _)⟩
  · obtain ⟨v, O1, rfl, p⟩ := x.one
    cases e
    obtain ⟨a, us, rfl, ha, l⟩ := p.tup_inv
    exact .inl ⟨_, _, rfl, .inr ⟨us, SqT.of ha, rfl⟩, by rw [l.length]; exact same_self k (.int _)⟩
  · obtain ⟨v, O1, rfl, p⟩ := x.one
    cases e
    obtain ⟨a, us, rfl, ha, l⟩ := p.fro_inv sm
    exact .inl ⟨_, _, rfl, .inl ⟨us, ha, rfl⟩, by rw [l.length]; exact same_self k (.int _)⟩
  · obtain ⟨v, O1, rfl, p⟩ := x.one
    cases e
    obtain ⟨a, kv, O', rfl, ha, ek, l⟩ := p.dic_inv sm
    have this := congrArg List.length ek
    rw [List.length_map, List.length_map] at this
    exact .inr (.inl ⟨a, kv, rfl, ha, by rw [this]; exact same_self k (.int _)⟩)
  · obtain ⟨v, O1, rfl, p⟩ := x.one
    cases e
    obtain ⟨a, kv, O', rfl, ha, ek, l⟩ := p.dct_inv sm
    have this := congrArg List.length ek
    rw [List.length_map, List.length_map] at this
    exact .inr (.inr ⟨a, kv, rfl, ha, by rw [this]; exact same_self k (.int _)⟩)
  · cases e
theorem se_len {p pos : Pos} {e : Expr} {f : M Hd} (hg : Gl X ("len" : Str)) (hm : X.mg ("len" : Str) = none) (ha : SH κ X W e f) (hk : X.K = κ.K := by rfl) (hs : starEach [e] X.env = (false, eval e X.env) :: starEach [] X.env := by rfl) :
    SE κ X W (.Call (.Name ("len" : Str) p) [e] [] pos) (mOp oLen (m1 f)) :=
  se_callB (x := "len") (id := "len") (r := fun xs H Q => (∃ x n, xs = [x] ∧ LenV κ.K x H n ∧ Q (.int n) H) ∨ ((∃ a kvs, xs = [V.ref a] ∧ H a = some (.dK kvs) ∧ Q (.int kvs.length) H) ∨ rLenT xs H Q))
    (by rw [← hk]; exact call_len.or (call_lenD.or call_len_dT)) ok_len hg hm PySem.boot_len (sa_cons ha sa_nil hs) (he := hs) (hpl := rfl)

/-! ### tests -/
def truthD : D → Option Bool
  | .non => some false
  | .bl b => some b
  | .int i => some (i != 0)
  | .str y => if y.length ≤ sizeLine then some ((y.length : Int) != 0) else none
  | .lst _ xs => some (!xs.isEmpty)
  | .fro xs => some (!xs.isEmpty)
  | .tup xs => some (!xs.isEmpty)
  | .dic _ xs => some (!xs.isEmpty)
  | _ => none
theorem OwnL.isEmpty {vs : List V} {ds : List D} {O : List Addr} (x : OwnL κ F H vs ds O) : vs.isEmpty = ds.isEmpty := by
  cases x <;> rfl
theorem Own.truth {v : V} {d : D} {O : List Addr} (sm : Same F H) (x : Own κ F H v d O) {b : Bool} (e : truthD d = some b) : TruV κ.K v H b := by
  cases x with
  | non => cases e; rfl
  | bl b => cases e; rfl
  | int i => cases e; rfl
  | str y =>
    have e : (if y.length ≤ sizeLine then some ((y.length : Int) != 0) else none) = some b := e
    split at e
    · rename_i h; cases e; exact ⟨h, rfl⟩
    · cases e
  | lstS h l => cases e; exact .inl ⟨_, SqL.of (sm _ _ h), by rw [l.isEmpty]⟩
  | lstO h l => cases e; exact .inl ⟨_, SqL.of h, by rw [l.isEmpty]⟩
  | fro h l => cases e; exact .inl ⟨_, sm.seq h, by rw [l.isEmpty]⟩
  | tup h l => cases e; exact .inr (.inl ⟨_, SqT.of h, by rw [l.isEmpty]⟩)
  | @dicS a kv kd h ek l =>
    cases e
    refine .inr (.inr ⟨_, sm _ _ h, ?_⟩)
    cases kv <;> cases kd <;> first | rfl | simp at ek
  | @dicO a kv kd O' h ek l =>
    cases e
    refine .inr (.inr ⟨_, h, ?_⟩)
    cases kv <;> cases kd <;> first | rfl | simp at ek
  | _ => cases e
def mB (f : M D) : M Bool := M.bind f fun d env => match d with
  | .bl b => .ok b env
  | _ => .stk
def mTru (f : M Hd) : M Bool := M.bind f fun h env => match h.get env with
  | some d => (match truthD d with
    | some b => .ok b env
    | none => .stk)
  | none => .stk
theorem tX_B {f : M D} {σ : St} {H : Hp} {Q : Bool → Hp → Prop} (h : tX κ W rB (mB f) σ H Q) : tX κ W (rE κ) f σ H fun x H' => ∃ k, x = .bl k ∧ Q k H' := by
  obtain ⟨F, env, O, S, fin⟩ := h
  refine ⟨F, env, O, S, ?_⟩
  unfold mB M.bind at fin
  revert fin
  cases f env with
  | stk => exact fun z => z
  | exc c fs e => exact fun z => z
  | ok a e =>
    intro z F' H' b O' Ob P S' r nd n
    cases a with
    | bl k => exact ⟨k, r.bl_inv, z F' H' k O' [] (P.less (fun _ h => h) fun a h => List.mem_append_left _ (by simpa using h)) S' ⟨rfl, rfl⟩ (by rw [List.append_nil]; exact S'.nd) fun x hx => nomatch hx⟩
    | _ => exact z.elim
theorem tX_tru {f : M Hd} {σ : St} {H : Hp} {Q : Bool → Hp → Prop} (h : tX κ W rB (mTru f) σ H Q) : tX κ W (rH κ) f σ H fun x H' => ∃ k, TruV κ.K x H' k ∧ Q k H' := by
  obtain ⟨F, env, O, S, fin⟩ := h
  refine ⟨F, env, O, S, ?_⟩
  have q := Fin.first (rel := rH κ) S fin
  revert q
  cases f env with
  | stk => exact fun z => z
  | exc c fs e => exact fun z => z
  | ok a e =>
    intro z F' H' b O' Ob P S' r nd n
    obtain ⟨a, F1, env1, O1, Ob1, S1, r1, nd1, n1, fin1⟩ := z F' H' b O' Ob P S' r nd n
    cases q1 : a.get env1 with
    | none => simp only [q1] at fin1; exact fin1.elim
    | some d =>
      simp only [q1] at fin1
      cases q2 : truthD d with
      | none => simp only [q2] at fin1; exact fin1.elim
      | some k =>
        simp only [q2] at fin1
        obtain ⟨Od, y⟩ := OwnH.look S1 r1 q1
        exact ⟨k, y.truth S1.sub q2, fin1 F1 H' k O1 [] (Post.refl.less (fun _ h => h) fun a h => List.mem_append_left _ (by simpa using h)) S1 ⟨rfl, rfl⟩ (by rw [List.append_nil]; exact S1.nd) fun x hx => nomatch hx⟩
theorem st_tru {e : Expr} {f : M Hd} (ha : SH κ X W e f) (he : ∀ whole, isTrue e X.env whole = (do let v ← whole; standAt e.pos; holding [v] (truthy v)) := by intro _; rfl) (hk : X.K = κ.K := by rfl) : ST κ X W e (mTru f) :=
  ⟨pt_mono (pt_truth ha.pe he) fun _ _ _ q => by rw [hk]; exact tX_tru q⟩
/-- a comparison as a test -/
theorem st_cmp {a b : Expr} {op : CmpOp} {pos : Pos} {r : R2} {o : List D → Option D} {f g : M Hd} (ho : OpR X (compareOp op) r) (ok : OpOk κ (on2 r) o) (ha : SH κ X W a f) (hb : SH κ X W b g) (hm : behindInMarks op b = false := by rfl) : ST κ X W (.Compare a [op] [b] pos) (mB (mOp o (m2 f g))) :=
  ⟨pt_mono (pt_cmpR ho ha.pe hb.pe hm) fun _ _ _ q => tX_op2 (r := fun x y H Q => r x y H Q) (by exact ok) (by
    have := tX_B q
    exact this)⟩
theorem st_not {a : Expr} {pos : Pos} {f : M Bool} (ha : ST κ X W a f) : ST κ X W (.UnaryOp .Not a pos) (M.bind f fun b => M.ret (!b)) :=
  ⟨pt_mono (pt_not ha.pt) fun σ H Q q => by
    obtain ⟨F, env, O, S, fin⟩ := q
    refine ⟨F, env, O, S, ?_⟩
    unfold M.bind at fin
    revert fin
    cases f env with
    | stk => exact fun z => z
    | exc c fs e => exact fun z => z
    | ok a e =>
      intro z F' H' b O' Ob P S' r nd n
      obtain ⟨rfl, rfl⟩ := r
      exact z F' H' (!b) O' [] P S' ⟨rfl, rfl⟩ nd n⟩
structure SW (κ : Kc) (X : Cx) (W : WX) (e : Expr) (f : M Bool) : Prop where
  pw : PW X e (tX κ W rB f)
theorem st_w {e : Expr} {f : M Bool} (h : SW κ X W e f) : ST κ X W e f := ⟨h.pw.pt⟩
theorem sw_and1 {a : Expr} {pos : Pos} {f : M Bool} (ha : ST κ X W a f) : SW κ X W (.BoolOp .And [a] pos) f := ⟨pw_and1 ha.pt⟩
theorem sw_or1 {a : Expr} {pos : Pos} {f : M Bool} (ha : ST κ X W a f) : SW κ X W (.BoolOp .Or [a] pos) f := ⟨pw_or1 ha.pt⟩
def mAnd (f g : M Bool) : M Bool := M.bind f fun b => if b = true then g else M.ret false
def mOr (f g : M Bool) : M Bool := M.bind f fun b => if b = true then M.ret true else g
theorem tX_test {α β : Type} {rel : Rel α β} {f : M Bool} {g : Bool → M α} {σ : St} {H : Hp} {Q : β → Hp → Prop} (h : tX κ W rel (M.bind f g) σ H Q) : tX κ W rB f σ H fun b H1 => tX κ W rel (g b) σ H1 Q := by
  obtain ⟨F, env, O, S, fin⟩ := h
  refine ⟨F, env, O, S, ?_⟩
  have q := Fin.first (rel := rB) S fin
  revert q
  cases f env with
  | stk => exact fun z => z
  | exc c fs e => exact fun z => z
  | ok a e =>
    intro z F' H' b O' Ob P S' r nd n
    obtain ⟨a, F1, env1, O1, Ob1, S1, r1, nd1, n1, fin1⟩ := z F' H' b O' Ob P S' r nd n
    obtain ⟨rfl, rfl⟩ := r1
    exact ⟨F1, env1, O1, S1, by simpa using fin1⟩
theorem sw_and {a b : Expr} {rest : List Expr} {pos : Pos} {f g : M Bool} (ha : ST κ X W a f) (hb : SW κ X W (.BoolOp .And (b :: rest) pos) g) : SW κ X W (.BoolOp .And (a :: b :: rest) pos) (mAnd f g) :=
  ⟨pw_mono (pw_and ha.pt hb.pw) fun σ H Q q => tX_imp (tX_test q) fun b H1 h => by
    cases b with
    | true => exact h
    | false => exact tX_ret (fun _ => ⟨rfl, rfl⟩) h⟩
theorem sw_or {a b : Expr} {rest : List Expr} {pos : Pos} {f g : M Bool} (ha : ST κ X W a f) (hb : SW κ X W (.BoolOp .Or (b :: rest) pos) g) : SW κ X W (.BoolOp .Or (a :: b :: rest) pos) (mOr f g) :=
  ⟨pw_mono (pw_or ha.pt hb.pw) fun σ H Q q => tX_imp (tX_test q) fun b H1 h => by
    cases b with
    | false => exact h
    | true => exact tX_ret (fun _ => ⟨rfl, rfl⟩) h⟩
/-! ### and, or, not, if-else as values -/
def mCond (c : M Bool) (f g : M D) : M D := M.bind c fun b => if b = true then f else g
theorem se_ifExp {c a b : Expr} {pos : Pos} {fc : M Bool} {f g : M D} (hc : ST κ X W c fc) (ha : SE κ X W a f) (hb : SE κ X W b g) : SE κ X W (.IfExp c a b pos) (mCond fc f g) :=
  ⟨pe_mono (pe_ifExp hc.pt ha.pe hb.pe) fun σ H Q q => tX_imp (tX_test q) fun b H1 h => by
    cases b with
    | true => exact h
    | false => exact h⟩
/-- bools alone -/
def mAndV (f g : M D) : M D := M.bind (mB f) fun b => if b = true then g else M.ret (.bl false)
def mOrV (f g : M D) : M D := M.bind (mB f) fun b => if b = true then M.ret (.bl true) else g
theorem se_and {a b : Expr} {rest : List Expr} {pos : Pos} {f g : M D} (ha : SE κ X W a f) (hb : SE κ X W (.BoolOp .And (b :: rest) pos) g) : SE κ X W (.BoolOp .And (a :: b :: rest) pos) (mAndV f g) :=
  ⟨pe_mono (pe_and ha.pe hb.pe) fun σ H Q q => tX_imp (tX_B (tX_test q)) fun x H1 ⟨k, e, h⟩ => ⟨k, e, by
    cases k with
    | true => exact h
    | false => exact tX_ret (fun _ => .bl _) h⟩⟩
theorem se_or {a b : Expr} {rest : List Expr} {pos : Pos} {f g : M D} (ha : SE κ X W a f) (hb : SE κ X W (.BoolOp .Or (b :: rest) pos) g) : SE κ X W (.BoolOp .Or (a :: b :: rest) pos) (mOrV f g) :=
  ⟨pe_mono (pe_or ha.pe hb.pe) fun σ H Q q => tX_imp (tX_B (tX_test q)) fun x H1 ⟨k, e, h⟩ => ⟨k, e, by
    cases k with
    | false => exact h
    | true => exact tX_ret (fun _ => .bl _) h⟩⟩
theorem se_one {a : Expr} {op : BoolOp} {pos : Pos} {f : M D} (ha : SE κ X W a f) : SE κ X W (.BoolOp op [a] pos) f := ⟨pe_one ha.pe⟩
/-- not of a bool -/
def oNot : List D → Option D
  | [.bl b] => some (.bl (!b))
  | _ => none
theorem se_not {a : Expr} {pos : Pos} {f : M D} (ha : SE κ X W a f) : SE κ X W (.UnaryOp .Not a pos) (M.bind (mB f) fun b => M.ret (.bl (!b))) :=
  ⟨pe_mono (pe_not ha.pe) fun σ H Q q => tX_imp (tX_B (tX_test q)) fun x H1 ⟨k, e, h⟩ => ⟨k, e, tX_ret (fun _ => .bl _) h⟩⟩
end VS
set_option Elab.async false
set_option linter.all false
set_option maxRecDepth 100000
set_option maxHeartbeats 1000000
namespace VS
open PySem L2
variable {κ : Kc} {W : WX} {pi : List Nat} {F F' F1 F2 H H' H1 H2 : Hp} {X : Cx}

/-! ### while -/
def mLoop (again : M Fl) : Fl → M Fl
  | .nx => again
  | .ct => again
  | .bk => M.ret .nx
  | .rt d => M.ret (.rt d)
def mWhile (c : M Bool) (b : M Fl) : Nat → M Fl
  | 0 => fun _ => .stk
  | n + 1 => M.bind c fun t => if t = true then M.bind b (mLoop (mWhile c b n)) else M.ret .nx
/-- a body of a loop: to the next turn, or out -/
theorem tS_turn {b g : M Fl} {σ : St} {O : List Addr} {env : VS.Env} {Dn : Ends} {N : St → Hp → Prop} (S : Stt κ F H σ env O) (fin : FinS κ W pi σ F H O (M.bind b (mLoop g) env) Dn)
    (hN : ∀ F' H' σ' O' env', Post F H O F' H' O' → Stt κ F' H' σ' env' O' → PinEq pi σ σ' → FinS κ W pi σ' F' H' O' (g env') Dn → N σ' H') : tS κ W pi b { Dn with nx := N, ct := N, bk := Dn.nx } σ H := by
  refine ⟨F, env, O, S, ?_⟩
  unfold M.bind at fin
  revert fin
  match b env with
  | .stk => exact fun z => z
  | .exc c fs e => exact fun z => z
  | .ok .nx e => exact fun z F' H' σ' O' P S' q => hN F' H' σ' O' e P S' q (z.on P q)
  | .ok .ct e => exact fun z F' H' σ' O' P S' q => hN F' H' σ' O' e P S' q (z.on P q)
  | .ok .bk e => exact fun z => z
  | .ok (.rt d) e => exact fun z => z
theorem ss_while {c : Expr} {body : List Stmt} {pos : Pos} {fc : M Bool} {fb : M Fl} (n : Nat) (hp : PassesOwn (model X.prog X.w) X.A X.env X.xe) (hc : ST κ X W c fc) (hb : SSs κ X W pi body fb) : SS κ X W pi (.While c body [] pos) (mWhile fc fb n) :=
  ⟨ps_mono (ps_while hp hc.pt hb.ps) fun Dn σ0 H0 ⟨F0, env0, O0, S0, fin0⟩ => by
    refine ⟨fun m σ H => ∃ F env O, Stt κ F H σ env O ∧ FinS κ W pi σ F H O (mWhile fc fb m env) Dn, ⟨n, F0, env0, O0, S0, fin0⟩, ?_⟩
    rintro m σ H ⟨F, env, O, S, fin⟩
    cases m with
    | zero => exact fin.elim
    | succ m =>
      have fin : FinS κ W pi σ F H O (M.bind fc (fun t => if t = true then M.bind fb (mLoop (mWhile fc fb m)) else M.ret .nx) env) Dn := fin
      refine tX_imp (tS_part (rel := rB) ⟨F, env, O, S, fin⟩) ?_
      rintro b H1 ⟨a, F1, env1, O1, Ob, S1, ⟨rfl, rfl⟩, nd, n1, fin1⟩
      rw [List.append_nil] at fin1
      cases b with
      | true =>
        rw [if_pos rfl] at fin1 ⊢
        refine ⟨fun σ' H' => ∃ F env O, Stt κ F H' σ' env O ∧ FinS κ W pi σ' F H' O (mWhile fc fb m env) Dn, fun σ' H' h => ⟨m, Nat.lt_succ_self m, h⟩, ?_⟩
        exact tS_turn S1 fin1 fun F' H' σ' O' env' P S' q z => ⟨F', env', O', S', z⟩
      | false =>
        rw [if_neg Bool.false_ne_true] at fin1 ⊢
        exact fin1 F1 H1 σ O1 Post.refl S1 PinEq.refl⟩

/-! ### for -/
/-- J yields these, whatever grows meanwhile -/
def Serves (κ : Kc) (F0 H0 : Hp) (J : It) (items : List D) : Prop :=
  ∀ F H, Same F0 F → Same F H → Keeps H0 H → ∀ i, (∀ d, items[i]? = some d → J.go i H ∧ ∀ x H', J.yld i H x H' → Same H H' ∧ Own κ F H' x d []) ∧ (items.length ≤ i → J.stop i H)
def rI (κ : Kc) : Rel (List D) It := fun _ F H J items O => O = [] ∧ Serves κ F H J items
structure SI (κ : Kc) (X : Cx) (W : WX) (tg e : Expr) (f : M (List D)) : Prop where
  pi : PI X tg e (tX κ W (rI κ) f)
theorem pi_mono {X : Cx} {tg e : Expr} {t t' : TI} (h : PI X tg e t) (i : ∀ σ H Q, t' σ H Q → t σ H Q) : PI X tg e t' := ⟨fun pins s σ H R I q => h.run pins s σ H R I (i _ _ _ q)⟩
def forL (t : Tg) (body : M Fl) : List D → M Fl
  | [] => M.ret .nx
  | x :: xs => fun env => match bindT t x env with
    | some env1 => M.bind body (mLoop (forL t body xs)) env1
    | none => .stk
def mFor (t : Tg) (fi : M (List D)) (body : M Fl) : M Fl := M.bind fi (forL t body)
theorem Stt.grow {σ : St} {env : VS.Env} {O : List Addr} (S : Stt κ F H σ env O) (sm : Same H H') : Stt κ F H' σ env O :=
  ⟨S.sub.trans sm, S.own.frame (Same.refl F) (Keeps.same sm) fun a ha => by
    rcases none_or (H := H) a with h | ⟨o, h⟩
    · have := S.own.mut a ha; rw [h] at this; exact this.elim
    · rw [sm a o h, h], S.nd, S.fr⟩
theorem Post.grow {O : List Addr} (sm : Same H H') : Post F H O F H' O := ⟨Same.refl F, fun a o e _ => sm a o e, fun a h => .inl h, fun a o e => .inl ⟨o, e⟩, Keeps.same sm⟩
theorem ss_for {tg iter : Expr} {body : List Stmt} {pos : Pos} {t : Tg} {fi : M (List D)} {fb : M Fl} (hp : PassesOwn (model X.prog X.w) X.A X.env X.xe) (hc : X.calm = true) (hi : SI κ X W tg iter fi) (hg : SG κ X pi tg t) (hb : SSs κ X W pi body fb)
    (hs : ∀ x, foldedSetIterable iter X.env x = pure x := by intro _; rfl) : SS κ X W pi (.For tg iter body [] pos) (mFor t fi fb) :=
  ⟨ps_mono (ps_for hp hc hi.pi hg.pg hb.ps hs) fun Dn σ0 H0 q0 => by
    refine tX_imp (tS_part q0) ?_
    rintro J H1 ⟨items, F1, env1, O1, Ob, S1, ⟨rfl, sv⟩, nd, n1, fin1⟩
    rw [List.append_nil] at fin1
    refine ⟨fun i m σ H => m + i = items.length ∧ ∃ F env O, Stt κ F H σ env O ∧ Same F1 F ∧ Keeps H1 H ∧ FinS κ W pi σ F H O (forL t fb (items.drop i) env) Dn, ⟨items.length, rfl, F1, env1, O1, S1, Same.refl F1, Keeps.refl H1, by rw [List.drop_zero]; exact fin1⟩, ?_⟩
    rintro i m σ H ⟨hm, F, env, O, S, sf, kh, fin⟩
    obtain ⟨h1, h2⟩ := sv F H sf S.sub kh i
    by_cases hi : i < items.length
    · refine .inr ?_
      have hd : items[i]? = some items[i] := List.getElem?_eq_getElem hi
      obtain ⟨go, yl⟩ := h1 _ hd
      refine ⟨go, fun σ' H' => (m - 1) + (i + 1) = items.length ∧ ∃ F env O, Stt κ F H' σ' env O ∧ Same F1 F ∧ Keeps H1 H' ∧ FinS κ W pi σ' F H' O (forL t fb (items.drop (i + 1)) env) Dn, fun σ' H' h => ⟨m - 1, by omega, h⟩, fun x H' hy => ?_⟩
      obtain ⟨sm, y⟩ := yl x H' hy
      rw [List.drop_eq_getElem_cons hi] at fin
      have fin : FinS κ W pi σ F H O (match bindT t items[i] env with
        | some env1 => M.bind fb (mLoop (forL t fb (items.drop (i + 1)))) env1
        | none => .stk) Dn := fin
      cases q : bindT t items[i] env with
      | none => rw [q] at fin; exact fin.elim
      | some env2 =>
        rw [q] at fin
        refine ⟨F, env, O, [], items[i], env2, S.grow sm, y, by rw [List.append_nil]; exact S.nd, (fun a ha => nomatch ha), q, fun σ2 O2 S2 pq mm => ?_⟩
        refine tS_turn S2 (fin.on ((Post.grow sm).trans (Post.refl.less (fun _ h => h) fun a ha => by simpa using mm a ha)) pq) fun F' H3 σ' O' env' P S' pq' z => ⟨by omega, F', env', O', S', sf.trans P.f, (kh.trans (Keeps.same sm)).trans P.k, z⟩
    · refine .inl ⟨h2 (by omega), ?_⟩
      rw [List.drop_eq_nil_of_le (by omega)] at fin
      exact fin F H σ O Post.refl S PinEq.refl⟩

/-! #### what is walked -/
/-- the items of a list or tuple (shared), the signs of a text -/
def itemsOf : D → Option (List D)
  | .lst false ds => some ds
  | .fro ds => some ds
  | .tup ds => if shrdL ds = true then some ds else none
  | .str z => some (z.cps.toList.map fun c => .str ⟨#[c]⟩)
  | _ => none
/-- a value in hand is shared first -/
def mItems (f : M Hd) : M (List D) := M.bind f fun h env => match h with
  | .val d => (match itemsOf (share d) with
    | some ds => .ok ds env
    | none => .stk)
  | .var i => (match (env[i]?).join with
    | some d => (match itemsOf d with
      | some ds => .ok ds env
      | none => .stk)
    | none => .stk)
theorem OwnL.at0 {vs : List V} {ds : List D} (x : OwnL κ F H vs ds []) : ∀ {j : Nat} {d : D}, ds[j]? = some d → ∃ v, vs[j]? = some v ∧ Own κ F H v d [] := by
  induction ds generalizing vs with
  | nil => intro j d h; simp at h
  | cons d ds ih =>
    generalize hO : ([] : List Addr) = O at x
    cases x with
    | @cons v _ vs' _ O1 O2 h t =>
      obtain ⟨rfl, rfl⟩ := List.append_eq_nil_iff.mp hO.symm
      intro j d' e
      cases j with
      | zero => simp at e; subst e; exact ⟨_, rfl, h⟩
      | succ j => exact ih t (by simpa using e)
/-- what a reading of the list at a gives is a reading of vs -/
def UniqL (K : PySem.W.Frag) (a : Addr) (H : Hp) (vs : List V) : Prop := ∃ ws, SqL K H a ws ∧ ws = vs
theorem serves_of {J : It} {ds : List D} (h : ∀ F' H', Same F F' → Same F' H' → Keeps H H' → (∀ i d, ds[i]? = some d → J.go i H' ∧ ∀ x H2, J.yld i H' x H2 → Same H' H2 ∧ Own κ F' H2 x d []) ∧ ∀ i, ds.length ≤ i → J.stop i H') : Serves κ F H J ds :=
  fun F' H' sf sub kh i => ⟨(h F' H' sf sub kh).1 i, (h F' H' sf sub kh).2 i⟩
theorem serves_list {a : Addr} {vs : List V} {ds : List D} (h : SqL κ.K F a vs) (l : OwnL κ F H vs ds []) : Serves κ F H (Itl κ.K a) ds := serves_of fun F' H' sf sub kh => by
  have h' : SqL κ.K H' a vs := sub.seq (sf.seq h)
  have l' : OwnL κ F' H' vs ds [] := l.frame sf kh (fun a ha => nomatch ha)
  refine ⟨fun i d hd => ?_, fun i hl => ⟨vs, h', by rw [l.length]; exact hl⟩⟩
  obtain ⟨v, hv, y⟩ := l'.at0 hd
  refine ⟨⟨vs, v, h', hv⟩, fun x H2 ⟨e, q⟩ => ?_⟩
  subst e
  have := q vs h'
  rw [hv] at this
  cases this
  exact ⟨Same.refl _, y⟩
theorem serves_tup {a : Addr} {vs : List V} {ds : List D} (h : H a = some (.tup vs)) (l : OwnL κ F H vs ds []) : Serves κ F H (Itt κ.K a) ds := serves_of fun F' H' sf sub kh => by
  have h' : SqT κ.K H' a vs := SqT.of (kh.t _ _ h)
  have l' : OwnL κ F' H' vs ds [] := l.frame sf kh (fun a ha => nomatch ha)
  refine ⟨fun i d hd => ?_, fun i hl => ⟨vs, h', by rw [l.length]; exact hl⟩⟩
  obtain ⟨v, hv, y⟩ := l'.at0 hd
  refine ⟨⟨vs, v, h', hv⟩, fun x H2 ⟨e, q⟩ => ?_⟩
  subst e
  have := q vs h'
  rw [hv] at this
  cases this
  exact ⟨Same.refl _, y⟩
theorem serves_str {z : Str} : Serves κ F H (Its z) (z.cps.toList.map fun c => .str ⟨#[c]⟩) := serves_of fun F' H' sf sub kh => by
  refine ⟨fun i d hd => ?_, fun i hl => ?_⟩
  · rw [List.getElem?_map] at hd
    obtain ⟨c, hc, rfl⟩ := Option.map_eq_some_iff.mp hd
    have hlt : i < z.cps.size := by
      have := (List.getElem?_eq_some_iff.mp hc).1
      simpa using this
    refine ⟨hlt, fun x H2 ⟨e, c', hc', ex⟩ => ?_⟩
    subst e
    have e3 : z.cps[i]? = some c := by rw [← Array.getElem?_toList]; exact hc
    rw [e3] at hc'
    cases hc'
    subst ex
    exact ⟨Same.refl _, .str _⟩
  · show z.cps.size ≤ i
    simpa using hl
theorem serves_rng {lo : Int} {n : Nat} : Serves κ F H (Itr lo n) ((List.range n).map fun (k : Nat) => .int (lo + (k : Int))) := serves_of fun F' H' sf sub kh => by
  refine ⟨fun i d hd => ?_, fun i hl => ?_⟩
  · rw [List.getElem?_map] at hd
    obtain ⟨c, hc, rfl⟩ := Option.map_eq_some_iff.mp hd
    have hlt : i < n := by simpa using (List.getElem?_eq_some_iff.mp hc).1
    have hci : c = i := by
      rw [List.getElem?_range hlt] at hc
      exact (Option.some.inj hc).symm
    subst hci
    refine ⟨hlt, fun x H2 ⟨e, ex⟩ => ?_⟩
    subst e
    subst ex
    exact ⟨Same.refl _, .int _⟩
  · show n ≤ i
    simpa using hl
theorem serves_enum {a : Addr} {vs : List V} {ds : List D} (h : SqL κ.K F a vs) (l : OwnL κ F H vs ds []) : Serves κ F H (Ite κ.K a) (ds.zipIdx.map fun p => .tup [.int (p.2 : Nat), p.1]) := serves_of fun F' H' sf sub kh => by
  have h' : SqL κ.K H' a vs := sub.seq (sf.seq h)
  have l' : OwnL κ F' H' vs ds [] := l.frame sf kh (fun a ha => nomatch ha)
  refine ⟨fun i d hd => ?_, fun i hl => ⟨vs, h', by rw [l.length]; simpa using hl⟩⟩
  rw [List.getElem?_map, List.getElem?_zipIdx] at hd
  obtain ⟨p, hp, rfl⟩ := Option.map_eq_some_iff.mp hd
  obtain ⟨d, hd1, rfl⟩ := Option.map_eq_some_iff.mp hp
  obtain ⟨v, hv, y⟩ := l'.at0 hd1
  refine ⟨⟨vs, v, h', hv⟩, fun x H2 ⟨T, x', e1, e2, e3, q⟩ => ?_⟩
  subst e1
  subst e3
  have := q vs h'
  rw [hv] at this
  cases this
  refine ⟨same_new e2, .tup upd_same ?_⟩
  rw [show (0 + i) = i from Nat.zero_add i]
  exact .cons (O1 := []) (O2 := []) (.int _) (.cons (O1 := []) (O2 := []) (y.frame (Same.refl F') (Keeps.same (same_new e2)) (fun a ha => nomatch ha)) .nil)
theorem serves_zip {a b : Addr} {vs ws : List V} {ds es : List D} (h : SqL κ.K F a vs) (l : OwnL κ F H vs ds []) (g : SqL κ.K F b ws) (m : OwnL κ F H ws es []) : Serves κ F H (Itz κ.K a b) ((ds.zip es).map fun p => .tup [p.1, p.2]) := serves_of fun F' H' sf sub kh => by
  have h' : SqL κ.K H' a vs := sub.seq (sf.seq h)
  have l' : OwnL κ F' H' vs ds [] := l.frame sf kh (fun a ha => nomatch ha)
  have g' : SqL κ.K H' b ws := sub.seq (sf.seq g)
  have m' : OwnL κ F' H' ws es [] := m.frame sf kh (fun a ha => nomatch ha)
  refine ⟨fun i d hd => ?_, fun i hl => ⟨vs, ws, h', g', by rw [l.length, m.length]; simp at hl; omega⟩⟩
  rw [List.getElem?_map] at hd
  obtain ⟨p, hp, rfl⟩ := Option.map_eq_some_iff.mp hd
  obtain ⟨hd1, hd2⟩ := List.getElem?_zip_eq_some.mp hp
  obtain ⟨v, hv, y⟩ := l'.at0 hd1
  obtain ⟨w, hw, z⟩ := m'.at0 hd2
  refine ⟨⟨vs, ws, v, w, h', g', hv, hw⟩, fun x H2 ⟨T, x1, y1, e1, e2, e3, q, r⟩ => ?_⟩
  subst e1
  subst e3
  have q1 := q vs h'
  rw [hv] at q1
  have r1 := r ws g'
  rw [hw] at r1
  obtain rfl : v = x1 := Option.some.inj q1
  obtain rfl : w = y1 := Option.some.inj r1
  have fr : ∀ {u : V} {d : D}, Own κ F' H' u d [] → Own κ F' (upd H' T (.tup [v, w])) u d [] := fun y => y.frame (Same.refl F') (Keeps.same (same_new e2)) (fun a ha => nomatch ha)
  exact ⟨same_new e2, .tup upd_same (.cons (O1 := []) (O2 := []) (fr y) (.cons (O1 := []) (O2 := []) (fr z) .nil))⟩
/-- a shared datum that is walked: by its kind -/
theorem items_cases {v : V} {d : D} {ds : List D} (y : Own κ F H v d []) (e : itemsOf d = some ds) :
    (∃ a vs, v = .ref a ∧ SqL κ.K F a vs ∧ OwnL κ F H vs ds []) ∨ (∃ a vs, v = .ref a ∧ H a = some (.tup vs) ∧ OwnL κ F H vs ds []) ∨ ∃ z, v = .str z ∧ ds = z.cps.toList.map fun c => .str ⟨#[c]⟩ := by
  cases y with
  | lstS h l => cases e; exact .inl ⟨_, _, rfl, SqL.of h, l⟩
  | fro h l => cases e; exact .inl ⟨_, _, rfl, h, l⟩
  | @tup a vs ds' O h l =>
    have e : (if shrdL ds' = true then some ds' else none) = some ds := e
    split at e
    · cases e; exact .inr (.inl ⟨_, _, rfl, h, l⟩)
    · cases e
  | str z => cases e; exact .inr (.inr ⟨z, rfl, rfl⟩)
  | _ => cases e
theorem Own.noO {v : V} {d : D} {ds : List D} {O : List Addr} (x : Own κ F H v d O) (e : itemsOf d = some ds) : O = [] := by
  cases x with
  | lstS h l => rfl
  | fro h l => rfl
  | str z => rfl
  | @tup a vs ds' O h l =>
    have e : (if shrdL ds' = true then some ds' else none) = some ds := e
    split at e
    · rename_i hs; exact l.shrd hs
    · cases e
  | _ => cases e
/-- the datum that mItems walks, and its value -/
theorem items_at {a0 : Hd} {e0 : VS.Env} {σ : St} {O0 : List Addr} {R : It → Hp → Prop} {F0 H0 : Hp} (fin : Fin κ W (rI κ) σ F0 H0 O0 ((match a0 with
      | .val d => (match itemsOf (share d) with
        | some ds => .ok ds e0
        | none => .stk)
      | .var i => (match (e0[i]?).join with
        | some d => (match itemsOf d with
          | some ds => .ok ds e0
          | none => .stk)
        | none => .stk)) : VS.R (List D)) R) : ∃ d ds, itemsOf d = some ds ∧ Fin κ W (rI κ) σ F0 H0 O0 (.ok ds e0) R ∧
    ∀ F' H' b O' Ob, Stt κ F' H' σ e0 O' → OwnH κ σ F' H' b a0 Ob → (O' ++ Ob).Nodup → (∀ x ∈ Ob, F' x = none) → ∃ F2, Post F' H' (O' ++ Ob) F2 H' O' ∧ Stt κ F2 H' σ e0 O' ∧ Own κ F2 H' b d [] := by
  cases a0 with
  | val d =>
    dsimp only at fin
    cases q : itemsOf (share d) with
    | none => rw [q] at fin; exact fin.elim
    | some ds =>
      rw [q] at fin
      refine ⟨share d, ds, q, fin, fun F' H' b O' Ob S r nd n => ?_⟩
      cases r with
      | val y => exact S.shareVal y nd n
  | var i =>
    dsimp only at fin
    cases q : (e0[i]?).join with
    | none => rw [q] at fin; exact fin.elim
    | some d =>
      rw [q] at fin
      cases q2 : itemsOf d with
      | none => simp only [q2] at fin; exact fin.elim
      | some ds =>
        simp only [q2] at fin
        refine ⟨d, ds, q2, fin, fun F' H' b O' Ob S r nd n => ?_⟩
        obtain ⟨Od, y⟩ := OwnH.look S r (d := d) q
        have := y.noO q2
        subst this
        exact ⟨F', Post.refl.less (fun _ h => h) fun a h => List.mem_append_left _ h, S, y⟩
theorem si_of {tg e : Expr} {f : M Hd} (he : SH κ X W e f) (hk : X.K = κ.K := by rfl) : SI κ X W tg e (mItems f) := ⟨⟨fun pins s σ H R I h => by
  obtain ⟨F, env, O, S, fin⟩ := h
  unfold mItems M.bind at fin
  cases q : f env with
  | stk => rw [q] at fin; exact fin.elim
  | exc c fs e =>
    rw [q] at fin
    exact (pi_list he.pe).run pins s σ H R I ⟨F, env, O, S, by rw [q]; exact fin⟩
  | ok a0 e0 =>
    rw [q] at fin
    obtain ⟨d, ds, hd, fin1, k⟩ := items_at fin
    have go : ∀ (Q : V → Hp → Prop), (∀ F2 H2 b O2, Stt κ F2 H2 σ e0 O2 → Own κ F2 H2 b d [] → Post F H O F2 H2 O2 → Q b H2) → tX κ W (rH κ) f σ H Q := fun Q hq => ⟨F, env, O, S, by
      rw [q]
      intro F' H' b O' Ob P S' r nd n
      obtain ⟨F2, P2, S2, y⟩ := k F' H' b O' Ob S' r nd n
      exact hq F2 H' b O' S2 y (P.trans P2)⟩
    have fin2 : ∀ {F2 H2 O2 J}, Stt κ F2 H2 σ e0 O2 → Post F H O F2 H2 O2 → Serves κ F2 H2 J ds → R J H2 := fun {F2 H2 O2 J} S2 P2 sv => fin1 F2 H2 J O2 [] (by rw [List.append_nil]; exact P2) S2 ⟨rfl, sv⟩ (by rw [List.append_nil]; exact S2.nd) fun x hx => nomatch hx
    cases d with
    | lst o xs =>
      cases o with
      | true => cases hd
      | false =>
        cases hd
        refine (pi_list he.pe).run pins s σ H R I (go _ fun F2 H2 b O2 S2 y P2 => ?_)
        cases y with
        | lstS h l => exact ⟨_, rfl, ⟨_, SqL.of (S2.sub _ _ h)⟩, by rw [hk]; exact fin2 S2 P2 (serves_list (SqL.of h) l)⟩
    | fro xs =>
      cases hd
      refine (pi_list he.pe).run pins s σ H R I (go _ fun F2 H2 b O2 S2 y P2 => ?_)
      cases y with
      | fro h l => exact ⟨_, rfl, ⟨_, by rw [hk]; exact S2.sub.seq h⟩, by rw [hk]; exact fin2 S2 P2 (serves_list h l)⟩
    | tup xs =>
      have hd : (if shrdL xs = true then some xs else none) = some ds := hd
      split at hd
      · cases hd
        refine (pi_tup he.pe).run pins s σ H R I (go _ fun F2 H2 b O2 S2 y P2 => ?_)
        cases y with
        | tup h l => exact ⟨_, rfl, ⟨_, SqT.of h⟩, by rw [hk]; exact fin2 S2 P2 (serves_tup h l)⟩
      · cases hd
    | str z =>
      cases hd
      refine (pi_str he.pe).run pins s σ H R I (go _ fun F2 H2 b O2 S2 y P2 => ?_)
      cases y with
      | str z => exact ⟨_, rfl, fin2 S2 P2 serves_str⟩
    | _ => cases hd⟩⟩
theorem tX_part {α β γ δ : Type} {rel : Rel α β} {rel2 : Rel γ δ} {f : M α} {g : α → M γ} {σ : St} {H : Hp} {Q : δ → Hp → Prop} (h : tX κ W rel2 (M.bind f g) σ H Q) :
    tX κ W rel f σ H fun b H1 => ∃ a F1 env1 O1 Ob, Stt κ F1 H1 σ env1 O1 ∧ rel σ F1 H1 b a Ob ∧ (O1 ++ Ob).Nodup ∧ (∀ x ∈ Ob, F1 x = none) ∧ Fin κ W rel2 σ F1 H1 (O1 ++ Ob) (g a env1) Q := by
  obtain ⟨F, env, O, S, fin⟩ := h
  exact ⟨F, env, O, S, Fin.first S fin⟩
/-- range(n), range(a, b) -/
def rgItems (a b : Int) : List D := (List.range (b - a).toNat).map fun (k : Nat) => .int (a + (k : Int))
theorem ret_items {σ : St} {H1 : Hp} {O1 Ob : List Addr} {env1 : VS.Env} {R : It → Hp → Prop} {J : It} {items : List D} (S1 : Stt κ F1 H1 σ env1 O1) (z : Fin κ W (rI κ) σ F1 H1 (O1 ++ Ob) (.ok items env1) R) (sv : Serves κ F1 H1 J items) : R J H1 :=
  z F1 H1 J O1 [] (Post.refl.less (fun _ h => h) fun a h => List.mem_append_left _ (by simpa using h)) S1 ⟨rfl, sv⟩ (by rw [List.append_nil]; exact S1.nd) fun x hx => nomatch hx
def mRng1 (fa : M (List Hd)) : M (List D) := M.bind fa fun hs env => match getAll env hs with
  | some [.int j] => if -(2 ^ 62) ≤ j ∧ j < 2 ^ 62 then .ok (rgItems 0 j) env else .stk
  | _ => .stk
def mRng2 (fa : M (List Hd)) : M (List D) := M.bind fa fun hs env => match getAll env hs with
  | some [.int i, .int j] => if -(2 ^ 62) ≤ i ∧ i < 2 ^ 62 ∧ -(2 ^ 62) ≤ j ∧ j < 2 ^ 62 then .ok (rgItems i j) env else .stk
  | _ => .stk
theorem si_range1 {tg a : Expr} {p pos : Pos} {f : M Hd} (hg : Gl X ("range" : Str)) (hm : X.mg ("range" : Str) = none) (ha : SH κ X W a f) (hs1 : starEach (a :: []) X.env = (false, eval a X.env) :: starEach [] X.env := by rfl) (hs : starEach [a] X.env = [(false, eval a X.env)] := by rfl) :
    SI κ X W tg (.Call (.Name ("range" : Str) p) [a] [] pos) (mRng1 (m1 f)) := ⟨pi_mono (pi_range1 hg hm (sa_cons ha sa_nil hs1).pa hs) fun σ H R h => by
  refine tX_imp (tX_part (rel := rHs κ) h) fun vs H1 ⟨hs, F1, env1, O1, Ob, S1, r, nd, n, fin⟩ => ?_
  split at fin
  · rename_i j q
    split at fin
    · rename_i h
      obtain ⟨Od, l⟩ := r.look S1 q
      obtain ⟨v, _, rfl, y⟩ := l.one
      rw [y.int_inv]
      refine ⟨j, rfl, h.1, h.2, ret_items S1 fin ?_⟩
      unfold rgItems
      rw [Int.sub_zero]
      exact serves_rng
    · exact fin.elim
  · exact fin.elim⟩
theorem si_range2 {tg a b : Expr} {p pos : Pos} {f g : M Hd} (hg : Gl X ("range" : Str)) (hm : X.mg ("range" : Str) = none) (ha : SH κ X W a f) (hb : SH κ X W b g) (hs1 : starEach (a :: [b]) X.env = (false, eval a X.env) :: starEach [b] X.env := by rfl) (hs2 : starEach (b :: []) X.env = (false, eval b X.env) :: starEach [] X.env := by rfl)
    (hs : starEach [a, b] X.env = [(false, eval a X.env), (false, eval b X.env)] := by rfl) (hs3 : starEach [b] X.env = [(false, eval b X.env)] := by rfl) :
    SI κ X W tg (.Call (.Name ("range" : Str) p) [a, b] [] pos) (mRng2 (m2 f g)) := ⟨pi_mono (pi_range2 hg hm (sa_cons ha (sa_cons hb sa_nil hs2) hs1).pa hs hs3) fun σ H R h => by
  refine tX_imp (tX_part (rel := rHs κ) h) fun vs H1 ⟨hs, F1, env1, O1, Ob, S1, r, nd, n, fin⟩ => ?_
  split at fin
  · rename_i i j q
    split at fin
    · rename_i h
      obtain ⟨Od, l⟩ := r.look S1 q
      obtain ⟨v, w, _, _, rfl, y, z⟩ := l.two
      rw [y.int_inv, z.int_inv]
      exact ⟨i, j, rfl, h, ret_items S1 fin serves_rng⟩
    · exact fin.elim
  · exact fin.elim⟩
end VS
set_option Elab.async false
set_option linter.all false
set_option maxRecDepth 100000
set_option maxHeartbeats 1000000
namespace VS
open PySem L2
variable {κ : Kc} {W : WX} {pi : List Nat} {F F' F1 F2 H H' H1 H2 : Hp} {X : Cx}

/-! ### defs -/
/-- what a def does: the data of its arguments; its answer, what its in-out arguments hold then -/
abbrev FD := List D → R D
def outsOf (io : List Nat) (env : VS.Env) : VS.Env := io.map fun i => (env[i]?).join
def runF (N : Nat) (io : List Nat) (body : M Fl) : FD := fun ds => match body (ds.map some ++ List.replicate (N - ds.length) none) with
  | .ok .nx env => .ok .non (outsOf io env)
  | .ok (.rt d) env => .ok d (outsOf io env)
  | .exc c fs _ => .exc c fs []
  | _ => .stk
def FinF (κ : Kc) (io : List Nat) (vs : List V) (F H : Hp) (O : List Addr) (r : R D) (Q : VK) (E : XK) : Prop := match r with
  | .ok d outs => ∀ F' H' v O' Od, Post F H O F' H' (O' ++ Od) → Same F' H' → OwnE κ F' H' (io.map fun i => vs[i]?) outs O' → Own κ F' H' v d Od → (O' ++ Od).Nodup → (∀ a ∈ O' ++ Od, F' a = none) → Q v H'
  | .exc c fs _ => ∀ F' H' dx, Post F H O F' H' [] → Same F' H' → ExcOk κ F' H' dx fs → E (.ref (κ.ca c)) dx H'
  | .stk => False
def spD (κ : Kc) (np : Nat) (io : List Nat) (den : FD) : Sp := fun vs H Q E => vs.length = np ∧ ∃ F ds O, Same F H ∧ OwnL κ F H vs ds O ∧ O.Nodup ∧ (∀ a ∈ O, F a = none) ∧ FinF κ io vs F H O (den ds) Q E

theorem OwnL.start {vs : List V} {ds : List D} {O : List Addr} (x : OwnL κ F H vs ds O) (n : Nat) : OwnE κ F H (vs.map some ++ List.replicate n none) (ds.map some ++ List.replicate n none) O := by
  induction ds generalizing vs O with
  | nil =>
    cases x
    induction n with
    | zero => exact .nil
    | succ n ih => exact .skip ih
  | cons d ds ih =>
    cases x with
    | cons h t => exact .told h (ih t)
/-- some slots of a state -/
theorem OwnE.pick {σ : St} : ∀ {io : List Nat} {env : VS.Env} {O : List Addr}, io.Nodup → OwnE κ F H σ env O → O.Nodup → ∃ O', OwnE κ F H (io.map fun i => (σ[i]?).join) (outsOf io env) O' ∧ O'.Nodup ∧ ∀ a ∈ O', a ∈ O
  | [], _, _, _, _, _ => ⟨[], .nil, List.nodup_nil, fun a h => nomatch h⟩
  | i :: io, env, O, nd, x, no => by
    obtain ⟨ni, ndi⟩ := List.nodup_cons.mp nd
    cases q : (env[i]?).join with
    | none =>
      obtain ⟨O', y, n, m⟩ := OwnE.pick ndi x no
      refine ⟨O', ?_, n, m⟩
      unfold outsOf
      rw [List.map_cons, List.map_cons, q]
      exact .skip y
    | some d =>
      have q' : env[i]? = some (some d) := by
        cases e : env[i]? with
        | none => rw [e] at q; cases q
        | some o => rw [e] at q; cases o with
          | none => cases q
          | some u => cases q; rfl
      obtain ⟨v, A, O1, B, h1, e, y, z⟩ := x.out q'
      have nd2 := nodup_move (e ▸ no)
      obtain ⟨O', y', n, m⟩ := OwnE.pick ndi z (List.nodup_append.mp nd2).1
      have same : outsOf io (env.set i none) = outsOf io env := by
        unfold outsOf
        refine List.map_congr_left fun j hj => ?_
        rw [List.getElem?_set_ne fun e => ni (by rw [e]; exact hj)]
      rw [same] at y'
      refine ⟨O1 ++ O', ?_, ?_, fun a ha => ?_⟩
      · unfold outsOf
        rw [List.map_cons, List.map_cons, q, h1]
        exact .told y y'
      · obtain ⟨m1, m2, m3⟩ := List.nodup_append.mp nd2
        exact List.nodup_append.mpr ⟨m2, n, fun a ha b hb e => m3 b (m b hb) a ha e.symm⟩
      · rcases List.mem_append.mp ha with h | h
        · rw [e]; simp [h]
        · have := m a h
          rw [e]; simp only [List.mem_append] at this ⊢; rcases this with h | h <;> simp [h]
theorem join_start {vs : List V} {n i : Nat} (h : i < vs.length) : ((vs.map some ++ List.replicate n none)[i]?).join = vs[i]? := by
  rw [List.getElem?_append_left (by simpa using h), List.getElem?_map]
  cases vs[i]? <;> rfl
/-- THE RULE for a def -/
theorem fn_ok {P : Program} {w : World} {K : PySem.W.Frag} {mg : Str → Option Value} {base : Heap} {x qual : Str} {st : Stmt} {f : Addr} {fd : FuncData} {N ps : List Str} {k : Nat} {io : List Nat} {m : M Fl} {ca : String → Addr}
    (Fn : Fun K x qual st f fd) (S : FnScope N ps (defScope st)) (hio : io.Nodup ∧ ∀ i ∈ io, i < ps.length)
    (hbody : ∀ (cdv : Value) (A : Around) (outer : List PySem.Env) (s : Shared) (H : Hp) (E : XK), Room k (A.deeper (PyProof.Rows.envOfC qual (defScope st) s.heap.objs.size f cdv)) →
      SSs ⟨K, P, w, ca, none⟩ (cxOf (L2.CX P w) P w K mg base N qual (defScope st) f cdv A outer s H E) (fun cls d _ H => E cls d H) io (defBody st) m) :
    FnOk P w K mg base (L2.CX P w) (k + 1) f fd ps (spD ⟨K, P, w, ca, none⟩ ps.length io (runF N.length io m)) := by
  refine Fn.okX S (fun vs H Q E h => h.1) fun cdv A outer s H vs Q E hr hsp => ⟨_, (hbody cdv A outer s H E hr).ps, ?_⟩
  obtain ⟨hl, F, ds, O, sub, x, nd, nf, fin⟩ := hsp
  refine ⟨F, ds.map some ++ List.replicate (N.length - ds.length) none, O, ⟨sub, ?_, nd, nf⟩, ?_⟩
  · show OwnE _ F H (L2.start N vs) _ O
    unfold L2.start
    rw [← x.length]
    exact x.start _
  · have ends : ∀ {F' H' σ' env' O' Od}, Post F H O F' H' (O' ++ Od) → Stt ⟨K, P, w, ca, none⟩ F' H' σ' env' O' → PinEq io (L2.start N vs) σ' → (O' ++ Od).Nodup → (∀ a ∈ Od, F' a = none) →
        ∃ O2, Post F H O F' H' (O2 ++ Od) ∧ OwnE ⟨K, P, w, ca, none⟩ F' H' (io.map fun i => vs[i]?) (outsOf io env') O2 ∧ (O2 ++ Od).Nodup ∧ ∀ a ∈ O2 ++ Od, F' a = none := fun {F' H' σ' env' O' Od} P' S' pq nd' nf' => by
      obtain ⟨O2, y, n, mm⟩ := OwnE.pick hio.1 S'.own S'.nd
      have e : (io.map fun i => (σ'[i]?).join) = io.map fun i => vs[i]? := List.map_congr_left fun i hi => by
        rw [pq i hi]
        unfold L2.start
        exact join_start (by rw [hl]; exact hio.2 i hi)
      rw [e] at y
      obtain ⟨m1, m2, m3⟩ := List.nodup_append.mp nd'
      refine ⟨O2, P'.less (fun _ h => h) fun a ha => ?_, y, List.nodup_append.mpr ⟨n, m2, fun a ha b hb => m3 a (mm a ha) b hb⟩, fun a ha => ?_⟩
      · rcases List.mem_append.mp ha with h | h
        · exact List.mem_append_left _ (mm a h)
        · exact List.mem_append_right _ h
      · rcases List.mem_append.mp ha with h | h
        · exact S'.fr a (mm a h)
        · exact nf' a h
    unfold runF at fin
    revert fin
    generalize m (ds.map some ++ List.replicate (N.length - ds.length) none) = mm
    match mm with
    | .stk => exact fun z => z
    | .exc c fs e => exact fun z F' H' σ' dx O' P' S' pq xo => z F' H' dx (P'.less (fun _ h => h) fun a h => nomatch h) S'.sub xo
    | .ok .nx e =>
        intro z F' H' σ' O' P' S' pq
        obtain ⟨O2, p1, p2, p3, p4⟩ := ends (Od := []) (by rw [List.append_nil]; exact P') S' pq (by rw [List.append_nil]; exact S'.nd) (fun a h => nomatch h)
        exact z F' H' .non O2 [] p1 S'.sub p2 .non p3 p4
    | .ok .bk e => exact fun z => z.elim
    | .ok .ct e => exact fun z => z.elim
    | .ok (.rt d) e =>
        intro z F' H' σ' v O' Od P' S' pq y nd' nf'
        obtain ⟨O2, p1, p2, p3, p4⟩ := ends P' S' pq nd' nf'
        exact z F' H' v O2 Od p1 S'.sub p2 y p3 p4

/-! ### calls -/
def prep (io : List Nat) : Nat → List Hd → VS.Env → Option (List D × VS.Env)
  | _, [], env => some ([], env)
  | k, .val d :: hs, env => match prep io (k + 1) hs env with
    | some (ds, e) => some (d :: ds, e)
    | none => none
  | k, .var i :: hs, env => match (env[i]?).join with
    | some d => if io.contains k = true then (match prep io (k + 1) hs (env.set i none) with
        | some (ds, e) => some (d :: ds, e)
        | none => none)
      else if shrd d = true then (match prep io (k + 1) hs env with
        | some (ds, e) => some (d :: ds, e)
        | none => none)
      else none
    | none => none
def putBack (hs : List Hd) : List Nat → VS.Env → VS.Env → VS.Env
  | k :: io, some o :: outs, env => match hs[k]? with
    | some (.var i) => putBack hs io outs (env.set i (some o))
    | _ => putBack hs io outs env
  | _ :: io, none :: outs, env => putBack hs io outs env
  | _, _, env => env
theorem join_some {env : VS.Env} {i : Nat} {d : D} (q : (env[i]?).join = some d) : env[i]? = some (some d) := by
  cases e : env[i]? with
  | none => rw [e] at q; cases q
  | some o => rw [e] at q; cases o with
    | none => cases q
    | some u => cases q; rfl
theorem prep_ok {io : List Nat} {σ : St} : ∀ {hs : List Hd} {k : Nat} {env : VS.Env} {O Oh : List Addr} {vs : List V} {ds : List D} {e1 : VS.Env}, Stt κ F H σ env O → OwnHs κ σ F H vs hs Oh → (O ++ Oh).Nodup → (∀ a ∈ Oh, F a = none) → prep io k hs env = some (ds, e1) →
    ∃ O1 Oa, Stt κ F H σ e1 O1 ∧ OwnL κ F H vs ds Oa ∧ (O1 ++ Oa).Nodup ∧ ∀ a ∈ O1 ++ Oa, a ∈ O ++ Oh := by
  intro hs
  induction hs with
  | nil =>
    intro k env O Oh vs ds e1 S x nd nf e
    cases x
    cases e
    exact ⟨O, [], S, .nil, nd, fun a h => h⟩
  | cons h hs ih =>
    intro k env O Oh vs ds e1 S x nd nf e
    cases x with
    | @cons v _ vs' _ P1 P2 h1 t =>
    have fin : ∀ {O0 : List Addr} {env0 : VS.Env} {d : D} {Oi : List Addr} {ds' : List D} {e' : VS.Env}, Stt κ F H σ env0 O0 → Own κ F H v d Oi → (O0 ++ (Oi ++ P2)).Nodup → (∀ a ∈ O0 ++ Oi, a ∈ O ++ (P1 ++ P2)) → prep io (k + 1) hs env0 = some (ds', e') →
        ∃ O1 Oa, Stt κ F H σ e' O1 ∧ OwnL κ F H (v :: vs') (d :: ds') Oa ∧ (O1 ++ Oa).Nodup ∧ ∀ a ∈ O1 ++ Oa, a ∈ O ++ (P1 ++ P2) := fun {O0 env0 d Oi ds' e'} S0 y nd0 mm e0 => by
      obtain ⟨m1, m2, m3⟩ := List.nodup_append.mp nd0
      obtain ⟨m4, m5, m6⟩ := List.nodup_append.mp m2
      obtain ⟨O1, Oa, S1, l, n1, mm1⟩ := ih S0 t (List.nodup_append.mpr ⟨m1, m5, fun a ha b hb => m3 a ha b (List.mem_append_right _ hb)⟩) (fun a ha => nf a (List.mem_append_right _ ha)) e0
      obtain ⟨k1, k2, k3⟩ := List.nodup_append.mp n1
      have dj : ∀ a ∈ Oi, a ∉ O1 ++ Oa := fun a ha hb => by
        rcases List.mem_append.mp (mm1 a hb) with h | h
        · exact m3 a h a (List.mem_append_left _ ha) rfl
        · exact m6 a ha a h rfl
      refine ⟨O1, Oi ++ Oa, S1, .cons y l, List.nodup_append.mpr ⟨k1, List.nodup_append.mpr ⟨m4, k2, fun a ha b hb e => dj a ha (List.mem_append_right _ (e ▸ hb))⟩, fun a ha b hb e => ?_⟩, fun a ha => ?_⟩
      · rcases List.mem_append.mp hb with h | h
        · exact dj b h (List.mem_append_left _ (e ▸ ha))
        · exact k3 a ha b h e
      · have up : ∀ a ∈ O1 ++ Oa, a ∈ O ++ (P1 ++ P2) := fun a ha => by
          rcases List.mem_append.mp (mm1 a ha) with h | h
          · exact mm a (List.mem_append_left _ h)
          · simp [h]
        rcases List.mem_append.mp ha with h | h
        · exact up a (List.mem_append_left _ h)
        · rcases List.mem_append.mp h with h | h
          · exact mm a (List.mem_append_right _ h)
          · exact up a (List.mem_append_right _ h)
    cases h1 with
    | @val d _ y =>
      have e : (match prep io (k + 1) hs env with
        | some (ds, e) => some (d :: ds, e)
        | none => none) = some (ds, e1) := e
      cases q : prep io (k + 1) hs env with
      | none => rw [q] at e; cases e
      | some p =>
        obtain ⟨ds', e'⟩ := p
        rw [q] at e
        cases e
        exact fin S y nd (fun a ha => by simp only [List.mem_append] at ha ⊢; rcases ha with h | h <;> simp [h]) q
    | @var i hv =>
      have e : (match (env[i]?).join with
        | some d => if io.contains k = true then (match prep io (k + 1) hs (env.set i none) with
            | some (ds, e) => some (d :: ds, e)
            | none => none)
          else if shrd d = true then (match prep io (k + 1) hs env with
            | some (ds, e) => some (d :: ds, e)
            | none => none)
          else none
        | none => none) = some (ds, e1) := e
      cases q : (env[i]?).join with
      | none => rw [q] at e; cases e
      | some d =>
        simp only [q] at e
        by_cases hc : io.contains k = true
        · rw [if_pos hc] at e
          cases q2 : prep io (k + 1) hs (env.set i none) with
          | none => rw [q2] at e; cases e
          | some p =>
            obtain ⟨ds', e'⟩ := p
            rw [q2] at e
            cases e
            obtain ⟨v', A, O1, B, h2, eo, y, z⟩ := S.own.out (join_some q)
            rw [hv] at h2
            cases h2
            have nd2 := nodup_move (eo ▸ S.nd)
            have mem : ∀ a, a ∈ (A ++ B) ++ O1 → a ∈ O := fun a ha => by
              rw [eo]; simp only [List.mem_append] at ha ⊢; rcases ha with (h | h) | h <;> simp [h]
            refine fin (O0 := A ++ B) (Oi := O1) ⟨S.sub, z, (List.nodup_append.mp nd2).1, fun a ha => S.fr a (mem a (List.mem_append_left _ ha))⟩ y ?_ (fun a ha => List.mem_append_left _ (mem a ha)) q2
            rw [← List.append_assoc]
            obtain ⟨m1, m2, m3⟩ := List.nodup_append.mp nd
            exact List.nodup_append.mpr ⟨nd2, m2, fun a ha b hb => m3 a (mem a ha) b hb⟩
        · rw [if_neg hc] at e
          by_cases hs' : shrd d = true
          · rw [if_pos hs'] at e
            cases q2 : prep io (k + 1) hs env with
            | none => rw [q2] at e; cases e
            | some p =>
              obtain ⟨ds', e'⟩ := p
              rw [q2] at e
              cases e
              have xx : OwnH κ σ F H v (.var i) [] := .var hv
              obtain ⟨Od, y⟩ := xx.look S (d := d) q
              exact fin S (y.free hs') nd (fun a ha => by simp only [List.mem_append] at ha ⊢; rcases ha with h | h <;> simp_all) q2
          · rw [if_neg hs'] at e; cases e
theorem OwnHs.at {σ : St} {vs : List V} {hs : List Hd} {O : List Addr} (x : OwnHs κ σ F H vs hs O) : ∀ {k i : Nat}, hs[k]? = some (.var i) → ∃ v, vs[k]? = some v ∧ σ[i]? = some (some v) := by
  induction x with
  | nil => intro k i h; simp at h
  | cons h t ih =>
    intro k i e
    cases k with
    | zero =>
      simp at e
      subst e
      cases h with
      | var hv => exact ⟨_, rfl, hv⟩
    | succ k => exact ih (by simpa using e)
theorem OwnE.length_lt {σ : St} {env : VS.Env} {O : List Addr} (x : OwnE κ F H σ env O) {i : Nat} {v : V} (h : σ[i]? = some (some v)) : i < env.length := by
  rw [← x.length]
  exact (List.getElem?_eq_some_iff.mp h).1
theorem putBack_ok {hs : List Hd} {vs : List V} {σ : St} (hv : ∀ (k i : Nat), hs[k]? = some (Hd.var i) → ∃ v, vs[k]? = some v ∧ σ[i]? = some (some v)) : ∀ {io : List Nat} {outs env : VS.Env} {O Oo : List Addr}, Stt κ F H σ env O → OwnE κ F H (io.map fun i => vs[i]?) outs Oo → (O ++ Oo).Nodup → (∀ a ∈ Oo, F a = none) →
    ∃ O', Stt κ F H σ (putBack hs io outs env) O' ∧ ∀ a ∈ O', a ∈ O ++ Oo
  | [], outs, env, O, Oo, S, x, nd, nf => by
    cases x
    exact ⟨O, S, fun a h => List.mem_append_left _ h⟩
  | k :: io, outs, env, O, Oo, S, x, nd, nf => by
    rw [List.map_cons] at x
    generalize hu : vs[k]? = u at x
    cases x with
    | @skip _ _ outs' _ t =>
      show ∃ O', Stt κ F H σ (putBack hs io outs' env) O' ∧ _
      exact putBack_ok hv S t nd nf
    | @told v d _ outs' O1 O2 h t =>
      obtain ⟨m1, m2, m3⟩ := List.nodup_append.mp nd
      obtain ⟨m4, m5, m6⟩ := List.nodup_append.mp m2
      show ∃ O', Stt κ F H σ (match hs[k]? with
        | some (.var i) => putBack hs io outs' (env.set i (some d))
        | _ => putBack hs io outs' env) O' ∧ ∀ a ∈ O', a ∈ O ++ (O1 ++ O2)
      have dflt : ∃ O', Stt κ F H σ (putBack hs io outs' env) O' ∧ ∀ a ∈ O', a ∈ O ++ (O1 ++ O2) := by
        obtain ⟨O', S', m⟩ := putBack_ok hv S t (List.nodup_append.mpr ⟨m1, m5, fun a ha b hb => m3 a ha b (List.mem_append_right _ hb)⟩) fun a ha => nf a (List.mem_append_right _ ha)
        exact ⟨O', S', fun a ha => by have := m a ha; simp only [List.mem_append] at this ⊢; rcases this with h | h <;> simp [h]⟩
      split
      · rename_i i q
        obtain ⟨v', e1, e2⟩ := hv k i q
        rw [e1] at hu
        cases hu
        obtain ⟨O', S', m⟩ := S.put h (List.nodup_append.mpr ⟨m1, m4, fun a ha b hb => m3 a ha b (List.mem_append_left _ hb)⟩) (fun a ha => nf a (List.mem_append_left _ ha)) (S.own.length_lt e2)
        rw [set_self e2] at S'
        have dj : ∀ a ∈ O', ∀ b ∈ O2, a ≠ b := fun a ha b hb e => by
          rcases List.mem_append.mp (m a ha) with h | h
          · exact m3 a h b (List.mem_append_right _ hb) e
          · exact m6 a h b hb e
        obtain ⟨O3, S3, m'⟩ := putBack_ok hv S' t (List.nodup_append.mpr ⟨S'.nd, m5, dj⟩) fun a ha => nf a (List.mem_append_right _ ha)
        refine ⟨O3, S3, fun a ha => ?_⟩
        rcases List.mem_append.mp (m' a ha) with h | h
        · have := m a h; simp only [List.mem_append] at this ⊢; rcases this with h | h <;> simp [h]
        · simp [h]
      · exact dflt
def mCall (io : List Nat) (den : FD) (fa : M (List Hd)) : M D := M.bind fa fun hs env => match prep io 0 hs env with
  | some (ds, env1) => (match den ds with
    | .ok d outs => .ok d (putBack hs io outs env1)
    | .exc c fs _ => .exc c fs env1
    | .stk => .stk)
  | none => .stk
/-- what a callee promises, from what a caller wants -/
theorem call_part {np : Nat} {io : List Nat} {den : FD} {σ : St} {env : VS.Env} {O Oh : List Addr} {vs : List V} {hs : List Hd} {Q : VK} (S : Stt κ F H σ env O) (x : OwnHs κ σ F H vs hs Oh) (nd : (O ++ Oh).Nodup) (nf : ∀ a ∈ Oh, F a = none) (hl : vs.length = np)
    (fin : Fin κ W (rE κ) σ F H (O ++ Oh) (match prep io 0 hs env with
      | some (ds, env1) => (match den ds with
        | .ok d outs => .ok d (putBack hs io outs env1)
        | .exc c fs _ => .exc c fs env1
        | .stk => .stk)
      | none => .stk) Q) : spD κ np io den vs H Q (WE W σ) := by
  cases q : prep io 0 hs env with
  | none => rw [q] at fin; exact fin.elim
  | some p =>
    obtain ⟨ds, env1⟩ := p
    rw [q] at fin
    dsimp only at fin
    obtain ⟨O1, Oa, S1, l, n1, mm⟩ := prep_ok S x nd nf q
    obtain ⟨k1, k2, k3⟩ := List.nodup_append.mp n1
    have na : ∀ a ∈ O1 ++ Oa, F a = none := fun a ha => by
      rcases List.mem_append.mp (mm a ha) with h | h
      · exact S.fr a h
      · exact nf a h
    refine ⟨hl, F, ds, Oa, S.sub, l, k2, fun a ha => na a (List.mem_append_right _ ha), ?_⟩
    -- the caller's own, behind the call
    have back : ∀ {F' H' : Hp} {P : List Addr}, Post F H Oa F' H' P → P.Nodup → Same F' H' → Stt κ F' H' σ env1 O1 ∧ (O1 ++ P).Nodup ∧ Post F H (O ++ Oh) F' H' (O1 ++ P) := fun {F' H' P} p np' sm => by
      have ho : ∀ a ∈ O1, H' a = H a ∧ a ∉ P ∧ F' a = none := fun a ha => by
        have hm := S1.own.mut a ha
        have hna : a ∉ Oa := fun h => k3 a ha a h rfl
        rcases none_or (H := H) a with h | ⟨o, h⟩
        · rw [h] at hm; exact hm.elim
        · refine ⟨by rw [p.fr a o h hna, h], fun hp => ?_, ?_⟩
          · rcases p.own a hp with h1 | h1
            · exact hna h1
            · rw [h] at h1; cases h1
          · rcases none_or (H := F') a with h2 | ⟨u, h2⟩
            · exact h2
            · rcases p.fnew a u h2 with ⟨u', h3⟩ | h3 | h3
              · rw [S1.fr a ha] at h3; cases h3
              · exact (hna h3).elim
              · rw [h] at h3; cases h3
      refine ⟨⟨sm, S1.own.frame p.f p.k fun a ha => (ho a ha).1, S1.nd, fun a ha => (ho a ha).2.2⟩, List.nodup_append.mpr ⟨k1, np', fun a ha b hb e => (ho a ha).2.1 (e ▸ hb)⟩, ?_⟩
      have pw : Post F H (Oa ++ O1) F' H' (P ++ O1) := p.wide
      exact pw.less (fun a ha => mm a (by simp only [List.mem_append] at ha ⊢; rcases ha with h | h <;> simp [h])) fun a ha => by simp only [List.mem_append] at ha ⊢; rcases ha with h | h <;> simp [h]
    revert fin
    match den ds with
    | .stk => exact fun z => z
    | .exc c fs e =>
        intro z F' H' dx p sm xo
        obtain ⟨S', n', P'⟩ := back p List.nodup_nil sm
        rw [List.append_nil] at P'
        exact z F' H' dx O1 P' S' xo
    | .ok d outs =>
        intro z F' H' v O' Od p sm xo y n2 nf2
        obtain ⟨S', n', P'⟩ := back p n2 sm
        obtain ⟨j1, j2, j3⟩ := List.nodup_append.mp n'
        obtain ⟨j4, j5, j6⟩ := List.nodup_append.mp j2
        obtain ⟨O3, S3, m3⟩ := putBack_ok (hs := hs) (vs := vs) (fun k i h => x.at h) S' xo (List.nodup_append.mpr ⟨j1, j4, fun a ha b hb => j3 a ha b (List.mem_append_left _ hb)⟩) fun a ha => nf2 a (List.mem_append_left _ ha)
        refine z F' H' v O3 Od (P'.less (fun _ h => h) fun a ha => ?_) S3 y (List.nodup_append.mpr ⟨S3.nd, j5, fun a ha b hb e => ?_⟩) fun a ha => nf2 a (List.mem_append_right _ ha)
        · rcases List.mem_append.mp ha with h | h
          · have := m3 a h; simp only [List.mem_append] at this ⊢; rcases this with h | h <;> simp [h]
          · simp [h]
        · rcases List.mem_append.mp (m3 a ha) with h | h
          · exact j3 a h b (List.mem_append_right _ hb) e
          · exact j6 a h b hb e
theorem OwnHs.length {σ : St} {vs : List V} {hs : List Hd} {O : List Addr} (x : OwnHs κ σ F H vs hs O) : vs.length = hs.length := by
  induction x with
  | nil => rfl
  | cons h t ih => simp [ih]
/-- the number of written arguments -/
def Many (fa : M (List Hd)) (n : Nat) : Prop := ∀ env hs env', fa env = .ok hs env' → hs.length = n
theorem many_nil : Many mNil 0 := fun env hs env' h => by cases h; rfl
theorem many_cons {f : M Hd} {fs : M (List Hd)} {n : Nat} (h : Many fs n) : Many (mCons f fs) (n + 1) := fun env hs env' e => by
  unfold mCons M.bind R.bind at e
  cases q : f env with
  | stk => rw [q] at e; cases e
  | exc c fs e2 => rw [q] at e; cases e
  | ok a e2 =>
    rw [q] at e
    dsimp only at e
    cases q2 : fs e2 with
    | stk => rw [q2] at e; cases e
    | exc c fs e3 => rw [q2] at e; cases e
    | ok as e3 =>
      rw [q2] at e
      cases e
      rw [List.length_cons, h _ _ _ q2]
theorem tX_call {np : Nat} {io : List Nat} {den : FD} {fa : M (List Hd)} {σ : St} {H : Hp} {Q : VK} (hn : Many fa np) (h : tX κ W (rE κ) (mCall io den fa) σ H Q) : tX κ W (rHs κ) fa σ H fun vs H1 => spD κ np io den vs H1 Q (WE W σ) := by
  obtain ⟨F, env, O, S, fin⟩ := h
  refine ⟨F, env, O, S, ?_⟩
  unfold mCall M.bind at fin
  revert fin
  cases e : fa env with
  | stk => exact fun z => z
  | exc c fs e2 => exact fun z => z
  | ok a0 e0 =>
    intro fin F' H' b O' Ob P S' r nd n
    refine call_part (W := W) S' r nd n (by rw [r.length]; exact hn _ _ _ e) ?_
    have fin : Fin κ W (rE κ) σ F H O (match prep io 0 a0 e0 with
      | some (ds, env1) => (match den ds with
        | .ok d outs => .ok d (putBack a0 io outs env1)
        | .exc c fs _ => .exc c fs env1
        | .stk => .stk)
      | none => .stk) Q := fin
    revert fin
    generalize (match prep io 0 a0 e0 with
      | some (ds, env1) => (match den ds with
        | .ok d outs => R.ok d (putBack a0 io outs env1)
        | .exc c fs _ => .exc c fs env1
        | .stk => .stk)
      | none => .stk) = rr
    cases rr with
    | stk => exact fun z => z
    | exc c fs e2 => exact fun z F2 H2 dx O2 P2 S2 x => z F2 H2 dx O2 (P.trans P2) S2 x
    | ok c e2 => exact fun z F2 H2 d O2 Oc P2 S2 r2 nd2 n2 => z F2 H2 d O2 Oc (P.trans P2) S2 r2 nd2 n2
theorem se_call {k : Nat} {f : Addr} {fd : FuncData} {ps : List Str} {x : Str} {p pos : Pos} {e : Expr} {es : List Expr} {np : Nat} {io : List Nat} {den : FD} {fa : M (List Hd)} (Fo : FnOk X.prog X.w X.K X.mg X.base (L2.CX X.prog X.w) k f fd ps (spD κ np io den)) (hr : Room k X.A) (hg : Gl X x) (hm : X.mg x = some (.ref f)) (hk : PySem.W.keepIn X.K (.ref f) = true) (hb : Binds X.K fd ps [])
    (tk : Takes X W) (ha : SA κ X W (e :: es) fa) (hn : Many fa np) (hdb : (x == ("__debug__" : Str)) = false := by decide) (he : starEach (e :: es) X.env = (false, eval e X.env) :: starEach es X.env := by rfl) (hpl : (backTo pos (starEach es X.env)).any (·.1) = false := by rfl) :
    SE κ X W (.Call (.Name x p) (e :: es) [] pos) (mCall io den fa) :=
  ⟨pe_mono (pe_callS (E := WE W) Fo hr hg hm hk hb (fun σ => passAt tk σ) ha.pa hdb he hpl) fun σ H Q q => tX_call hn q⟩
end VS
set_option Elab.async false
set_option linter.all false
set_option maxRecDepth 100000
set_option maxHeartbeats 1000000
namespace VS
open PySem L2
variable {κ : Kc} {W : WX} {pi : List Nat} {F F' F1 F2 H H' H1 H2 : Hp} {X : Cx}

/-! ### list comprehensions -/
def wipeE (own : List Nat) (env : VS.Env) : VS.Env := own.foldl (fun e i => e.set i none) env
/-- the block's own slots as they were ahead (where nothing in them is owned) -/
def restore (own : List Nat) (e0 env : VS.Env) : VS.Env := own.foldl (fun e i => e.set i (match (e0[i]?).join with
  | some d => if shrd d = true then some d else none
  | none => none)) env
/-- what raises gets stuck here -/
def noX {α : Type} (f : M α) : M α := fun env => match f env with
  | .ok a e => .ok a e
  | _ => .stk
def lcL (own : List Nat) (t : Tg) (ft : M Bool) (fe : M D) : List D → List D → M D
  | [], acc => M.ret (.lst true acc)
  | x :: xs, acc => fun env => match bindT t x env with
    | some env1 => M.bind (noX ft) (fun b => if b = true then M.bind (noX fe) (fun y e => if acc.length < sizeLine then lcL own t ft fe xs (acc ++ [y]) (wipeE own e) else .stk) else fun e => lcL own t ft fe xs acc (wipeE own e)) env1
    | none => .stk
def mLc (own : List Nat) (t : Tg) (fi : M (List D)) (ft : M Bool) (fe : M D) : M D := M.bind fi fun items env => match lcL own t ft fe items [] (wipeE own env) with
  | .ok d e => .ok d (restore own env e)
  | _ => .stk
abbrev W0 : WX := fun _ _ _ _ => False

theorem wipe_get {σ : St} : ∀ {vs : List Nat} {i : Nat}, (wipe σ vs)[i]? = if i ∈ vs ∧ i < σ.length then some none else σ[i]?
  | [], i => by simp [wipe]
  | v :: vs, i => by
    unfold wipe
    by_cases h : v = i
    · subst h
      by_cases hl : v < σ.length
      · rw [List.getElem?_set_self (by rw [wipe_length]; exact hl), if_pos ⟨List.mem_cons_self, hl⟩]
      · rw [List.getElem?_eq_none (by rw [List.length_set, wipe_length]; omega), if_neg (fun h => hl h.2), List.getElem?_eq_none (by omega)]
    · rw [List.getElem?_set_ne h, wipe_get]
      by_cases h2 : i ∈ vs ∧ i < σ.length
      · rw [if_pos h2, if_pos ⟨List.mem_cons_of_mem _ h2.1, h2.2⟩]
      · rw [if_neg h2, if_neg fun h3 => h2 ⟨(List.mem_cons.mp h3.1).elim (fun e => (h e.symm).elim) id, h3.2⟩]
/-- only the block's own slots changed -/
theorem wipe_same {σ σ' : St} {vs : List Nat} (hl : σ'.length = σ.length) (h : ∀ i, i ∉ vs → σ'[i]? = σ[i]?) : wipe σ' vs = wipe σ vs := by
  apply List.ext_getElem?
  intro i
  rw [wipe_get, wipe_get, hl]
  by_cases hi : i ∈ vs
  · by_cases h2 : i < σ.length
    · rw [if_pos ⟨hi, h2⟩, if_pos ⟨hi, h2⟩]
    · rw [if_neg fun h => h2 h.2, if_neg fun h => h2 h.2, List.getElem?_eq_none (by omega), List.getElem?_eq_none (by omega)]
  · rw [if_neg fun h => hi h.1, if_neg fun h => hi h.1, h i hi]
theorem wipe_wipe {σ : St} {vs : List Nat} : wipe (wipe σ vs) vs = wipe σ vs := wipe_same (wipe_length σ vs) fun i hi => by rw [wipe_get, if_neg fun h => hi h.1]
theorem Stt.set_none {σ : St} {env : VS.Env} {O : List Addr} (S : Stt κ F H σ env O) (i : Nat) (s : Option V) : ∃ O', Stt κ F H (σ.set i s) (env.set i none) O' ∧ Stt κ F H σ (env.set i none) O' ∧ ∀ a ∈ O', a ∈ O := by
  obtain ⟨A, O1, B, e, y, z⟩ := S.own.drop i s
  have mem : ∀ a ∈ A ++ B, a ∈ O := fun a ha => by rw [e]; simp only [List.mem_append] at ha ⊢; rcases ha with h | h <;> simp [h]
  have nd : (A ++ B).Nodup := (e ▸ S.nd).sublist (List.Sublist.append (List.Sublist.refl A) (List.sublist_append_right O1 B))
  exact ⟨A ++ B, ⟨S.sub, y, nd, fun a ha => S.fr a (mem a ha)⟩, ⟨S.sub, z, nd, fun a ha => S.fr a (mem a ha)⟩, mem⟩
theorem wipe_snoc {σ : St} {vs : List Nat} {v : Nat} : wipe (σ.set v none) vs = wipe σ (v :: vs) := by
  apply List.ext_getElem?
  intro i
  rw [wipe_get, wipe_get, List.length_set]
  by_cases h : v = i
  · subst h
    by_cases hl : v < σ.length
    · rw [if_pos (⟨List.mem_cons_self, hl⟩ : v ∈ v :: vs ∧ v < σ.length)]
      split
      · rfl
      · rw [List.getElem?_set_self hl]
    · rw [if_neg fun h => hl h.2, if_neg fun h => hl h.2, List.getElem?_eq_none (by rw [List.length_set]; omega), List.getElem?_eq_none (by omega)]
  · rw [List.getElem?_set_ne h]
    by_cases h2 : i ∈ vs ∧ i < σ.length
    · rw [if_pos h2, if_pos ⟨List.mem_cons_of_mem _ h2.1, h2.2⟩]
    · rw [if_neg h2, if_neg fun h3 => h2 ⟨(List.mem_cons.mp h3.1).elim (fun e => (h e.symm).elim) id, h3.2⟩]
theorem Stt.wipe : ∀ {own : List Nat} {σ : St} {env : VS.Env} {O : List Addr}, Stt κ F H σ env O → ∃ O', Stt κ F H (L2.wipe σ own) (wipeE own env) O' ∧ ∀ a ∈ O', a ∈ O
  | [], σ, env, O, S => ⟨O, S, fun _ h => h⟩
  | v :: vs, σ, env, O, S => by
    obtain ⟨O1, S1, _, m1⟩ := S.set_none v none
    obtain ⟨O2, S2, m2⟩ := Stt.wipe (own := vs) S1
    rw [wipe_snoc] at S2
    exact ⟨O2, S2, fun a h => m1 a (m2 a h)⟩
/-- a slot of a state that may be told again: its value stands, nothing in it is owned -/
theorem Stt.tell {σ : St} {env : VS.Env} {O : List Addr} {i : Nat} {v : V} {d : D} (S : Stt κ F H σ env O) (hv : σ[i]? = some (some v)) (y : Own κ F H v d []) : ∃ O', Stt κ F H σ (env.set i (some d)) O' ∧ ∀ a ∈ O', a ∈ O := by
  obtain ⟨O', S', m⟩ := S.put (i := i) y (by rw [List.append_nil]; exact S.nd) (fun a h => nomatch h) (S.own.length_lt hv)
  rw [set_self hv] at S'
  exact ⟨O', S', fun a h => by simpa using m a h⟩
/-- the slots may hold more than is told of them -/
theorem OwnE.lift {σ σ' : St} {env : VS.Env} {O : List Addr} (x : OwnE κ F H σ env O) (hl : σ'.length = σ.length) (h : ∀ (i : Nat) (v : V), σ[i]? = some (some v) → σ'[i]? = some (some v)) : OwnE κ F H σ' env O := by
  induction x generalizing σ' with
  | nil => cases σ' with
    | nil => exact .nil
    | cons a b => simp at hl
  | @skip s σ env O t ih =>
    cases σ' with
    | nil => simp at hl
    | cons a b => exact .skip (ih (by simpa using hl) fun i v e => by simpa using h (i + 1) v (by simpa using e))
  | @told v d σ env O1 O2 h1 t ih =>
    cases σ' with
    | nil => simp at hl
    | cons a b =>
      have := h 0 v rfl
      simp at this
      subst this
      exact .told h1 (ih (by simpa using hl) fun i v e => by simpa using h (i + 1) v (by simpa using e))
theorem Stt.restore {own : List Nat} {σ : St} {e0 env : VS.Env} {O O0 : List Addr} {F0 H0 : Hp} (S0 : Stt κ F0 H0 σ e0 O0) (f : Same F0 F) (k : Keeps H0 H) (S : Stt κ F H (L2.wipe σ own) env O) : ∃ O', Stt κ F H σ (restore own e0 env) O' ∧ ∀ a ∈ O', a ∈ O := by
  have S1 : Stt κ F H σ env O := ⟨S.sub, S.own.lift (by rw [wipe_length]) fun i v e => by
    rw [wipe_get] at e
    split at e
    · cases e
    · exact e, S.nd, S.fr⟩
  have go : ∀ (vs : List Nat) (env : VS.Env) (O : List Addr), Stt κ F H σ env O → ∃ O', Stt κ F H σ (VS.restore vs e0 env) O' ∧ ∀ a ∈ O', a ∈ O := by
    intro vs
    induction vs with
    | nil => exact fun env O S => ⟨O, S, fun _ h => h⟩
    | cons i vs ih =>
      intro env O S
      show ∃ O', Stt κ F H σ (VS.restore vs e0 (env.set i (match (e0[i]?).join with
        | some d => if shrd d = true then some d else none
        | none => none))) O' ∧ _
      have dflt : ∃ O', Stt κ F H σ (VS.restore vs e0 (env.set i none)) O' ∧ ∀ a ∈ O', a ∈ O := by
        obtain ⟨O1, _, S1, m1⟩ := S.set_none i none
        obtain ⟨O2, S2, m2⟩ := ih _ _ S1
        exact ⟨O2, S2, fun a h => m1 a (m2 a h)⟩
      cases q : (e0[i]?).join with
      | none => exact dflt
      | some d =>
        dsimp only
        split
        · rename_i hs
          obtain ⟨v, A, O1, B, hv, _, y, _⟩ := S0.own.out (join_some q)
          have y' := (y.free hs).frame f k (fun a h => nomatch h)
          obtain ⟨O1, S1, m1⟩ := S.tell hv y'
          obtain ⟨O2, S2, m2⟩ := ih _ _ S1
          exact ⟨O2, S2, fun a h => m1 a (m2 a h)⟩
        · exact dflt
  exact go own env O S1
/-- the tests of a clause -/
structure STs (κ : Kc) (X : Cx) (W : WX) (ifs : List Expr) (f : M Bool) : Prop where
  pt : PTs X ifs (tX κ W rB f)
theorem sts_nil : STs κ X W [] (M.ret true) := ⟨⟨fun pins s σ H Q I q => pts_nil.run pins s σ H Q I (tX_ret (fun _ => ⟨rfl, rfl⟩) q)⟩⟩
theorem sts_one {c : Expr} {f : M Bool} (h : ST κ X W c f) : STs κ X W [c] f := ⟨pts_one h.pt⟩
/-- the slots that are not the block's own -/
def others (n : Nat) (own : List Nat) : List Nat := (List.range n).filter fun i => !own.contains i
theorem mem_others {n i : Nat} {own : List Nat} (h : i < n) (ho : i ∉ own) : i ∈ others n own := List.mem_filter.mpr ⟨List.mem_range.mpr h, by simpa using ho⟩
/-- the list that is being made -/
def PAcc (κ : Kc) (L : Addr) (acc : List D) : Hp → Hp → List Addr → Prop := fun F H O => ∃ vs Oa, O = L :: Oa ∧ H L = some (.lst vs) ∧ OwnL κ F H vs acc Oa
theorem pacc_framed {L : Addr} {acc : List D} : Framed (PAcc κ L acc) := fun F F' H H' O ⟨vs, Oa, e, h, l⟩ f k hh => by
  subst e
  exact ⟨vs, Oa, rfl, (hh L List.mem_cons_self).trans h, l.frame f k fun a ha => hh a (List.mem_cons_of_mem _ ha)⟩
theorem PAcc.mut {L : Addr} {acc : List D} {O : List Addr} (p : PAcc κ L acc F H O) : ∀ x ∈ O, Mut (H x) := by
  obtain ⟨vs, Oa, rfl, h, l⟩ := p
  intro x hx
  rcases List.mem_cons.mp hx with e | e
  · rw [e, h]; trivial
  · exact l.mut x e
theorem OwnL.snoc {vs : List V} {ds : List D} {O Od : List Addr} {v : V} {d : D} (x : OwnL κ F H vs ds O) (y : Own κ F H v d Od) : OwnL κ F H (vs ++ [v]) (ds ++ [d]) (O ++ Od) := by
  induction ds generalizing vs O with
  | nil =>
    cases x
    have := OwnL.cons y (OwnL.nil (κ := κ) (F := F) (H := H))
    rw [List.append_nil] at this
    exact this
  | cons e ds ih =>
    cases x with
    | cons a t =>
      rw [List.append_assoc]
      exact .cons a (ih t)
theorem Stt.tells {σ : St} {env : VS.Env} {O : List Addr} (S : Stt κ F H σ env O) : σ.length = env.length := S.own.length
theorem bindT_length : (∀ (t : Tg) (d : D) (env env' : VS.Env), bindT t d env = some env' → env'.length = env.length) ∧ ∀ (ts : List Tg) (ds : List D) (env env' : VS.Env), bindTs ts ds env = some env' → env'.length = env.length := by
  refine ⟨fun t => ?_, fun ts => ?_⟩
  · exact Tg.rec (motive_1 := fun t => ∀ (d : D) (env env' : VS.Env), bindT t d env = some env' → env'.length = env.length) (motive_2 := fun ts => ∀ (ds : List D) (env env' : VS.Env), bindTs ts ds env = some env' → env'.length = env.length)
      (fun i d env env' h => by
        unfold bindT at h
        split at h
        · cases h; simp
        · cases h)
      (fun ts ih d env env' h => by
        cases d with
        | tup ds =>
          have h : (if ts.length = ds.length then bindTs ts ds env else none) = some env' := by unfold bindT at h; exact h
          split at h
          · exact ih _ _ _ h
          · cases h
        | lst o ds =>
          have h : (if ts.length = ds.length then bindTs ts ds env else none) = some env' := by unfold bindT at h; exact h
          split at h
          · exact ih _ _ _ h
          · cases h
        | _ => unfold bindT at h; cases h)
      (fun ds env env' h => by
        cases ds with
        | nil => cases h; rfl
        | cons a b => cases h)
      (fun t ts ih1 ih2 ds env env' h => by
        cases ds with
        | nil => cases h
        | cons d ds =>
          have h : (match bindT t d env with
            | some env1 => bindTs ts ds env1
            | none => none) = some env' := by unfold bindTs at h; exact h
          cases q : bindT t d env with
          | none => rw [q] at h; cases h
          | some e1 => rw [q] at h; rw [ih2 _ _ _ h, ih1 _ _ _ q]) t
  · exact Tg.rec_1 (motive_1 := fun t => ∀ (d : D) (env env' : VS.Env), bindT t d env = some env' → env'.length = env.length) (motive_2 := fun ts => ∀ (ds : List D) (env env' : VS.Env), bindTs ts ds env = some env' → env'.length = env.length)
      (fun i d env env' h => by
        unfold bindT at h
        split at h
        · cases h; simp
        · cases h)
      (fun ts ih d env env' h => by
        cases d with
        | tup ds =>
          have h : (if ts.length = ds.length then bindTs ts ds env else none) = some env' := by unfold bindT at h; exact h
          split at h
          · exact ih _ _ _ h
          · cases h
        | lst o ds =>
          have h : (if ts.length = ds.length then bindTs ts ds env else none) = some env' := by unfold bindT at h; exact h
          split at h
          · exact ih _ _ _ h
          · cases h
        | _ => unfold bindT at h; cases h)
      (fun ds env env' h => by
        cases ds with
        | nil => cases h; rfl
        | cons a b => cases h)
      (fun t ts ih1 ih2 ds env env' h => by
        cases ds with
        | nil => cases h
        | cons d ds =>
          have h : (match bindT t d env with
            | some env1 => bindTs ts ds env1
            | none => none) = some env' := by unfold bindTs at h; exact h
          cases q : bindT t d env with
          | none => rw [q] at h; cases h
          | some e1 => rw [q] at h; rw [ih2 _ _ _ h, ih1 _ _ _ q]) ts
/-- one turn's end -/
theorem lc_next {own : List Nat} {t : Tg} {ft : M Bool} {fe : M D} {σ σ2 : St} {L : Addr} {acc : List D} {items : List D} {env : VS.Env} {O Op : List Addr} {Q : VK} (S : Stt κ F H σ2 env O) (hw : L2.wipe σ2 own = L2.wipe σ own) (p : PAcc κ L acc F H Op) (nd : (O ++ Op).Nodup) (nf : ∀ x ∈ Op, F x = none)
    (fin : Fin κ W0 (rE κ) (L2.wipe σ own) F H (O ++ Op) (lcL own t ft fe items acc (wipeE own env)) Q) :
    ∃ O' Op', Stt κ F H (L2.wipe σ own) (wipeE own env) O' ∧ PAcc κ L acc F H Op' ∧ (O' ++ Op').Nodup ∧ (∀ x ∈ Op', F x = none) ∧ Fin κ W0 (rE κ) (L2.wipe σ own) F H (O' ++ Op') (lcL own t ft fe items acc (wipeE own env)) Q := by
  obtain ⟨O', S', m⟩ := S.wipe (own := own)
  rw [hw] at S'
  obtain ⟨m1, m2, m3⟩ := List.nodup_append.mp nd
  have P : Post F H (O ++ Op) F H (O' ++ Op) := Post.refl.less (fun _ h => h) fun a ha => by
    rcases List.mem_append.mp ha with h | h
    · exact List.mem_append_left _ (m a h)
    · exact List.mem_append_right _ h
  refine ⟨O', Op, S', p, List.nodup_append.mpr ⟨S'.nd, m2, fun a ha b hb => m3 a (m a ha) b hb⟩, nf, ?_⟩
  revert fin
  cases lcL own t ft fe items acc (wipeE own env) with
  | stk => exact fun z => z
  | exc c fs e2 => exact fun z F2 H2 dx O2 P2 S2 x => z F2 H2 dx O2 (P.trans P2) S2 x
  | ok c e2 => exact fun z F2 H2 d O2 Oc P2 S2 r2 nd2 n2 => z F2 H2 d O2 Oc (P.trans P2) S2 r2 nd2 n2
/-- evaluate a part while PD is pending; behind it another wish, at other slots -/
theorem Fin.part2 {α β γ δ : Type} {W W' : WX} {rel : Rel α β} {rel2 : Rel γ δ} {σ σ' : St} {O Op : List Addr} {env : VS.Env} {f : M α} {g : α → M γ} {Q : δ → Hp → Prop} {PD : Hp → Hp → List Addr → Prop}
    (fd : Framed PD) (S : Stt κ F H σ env O) (p : PD F H Op) (nd : (O ++ Op).Nodup) (np : ∀ x ∈ Op, F x = none) (mu : ∀ x ∈ Op, Mut (H x))
    (fin : Fin κ W' rel2 σ' F H (O ++ Op) (M.bind (noX f) g env) Q) :
    Fin κ W rel σ F H O (f env) fun b H1 => ∃ a F1 env1 O1 Ob, Stt κ F1 H1 σ env1 O1 ∧ PD F1 H1 Op ∧ rel σ F1 H1 b a Ob ∧ (O1 ++ (Op ++ Ob)).Nodup ∧ (∀ x ∈ Op ++ Ob, F1 x = none) ∧ (∀ x ∈ Op, Mut (H1 x)) ∧ Same F F1 ∧ Keeps H H1 ∧
      Fin κ W' rel2 σ' F1 H1 (O1 ++ (Op ++ Ob)) (g a env1) Q := by
  unfold M.bind noX at fin
  cases e : f env with
  | stk => rw [e] at fin; exact fin
  | exc c fs env' => rw [e] at fin; exact False.elim fin
  | ok a env1 =>
    rw [e] at fin
    intro F1 H1 b O1 Ob P S1 r nd1 n1
    have hk : ∀ x ∈ Op, H1 x = H x := fun x hx => by
      rcases none_or (H := H) x with h | ⟨o, h⟩
      · have := mu x hx; rw [h] at this; exact this.elim
      · rw [P.fr x o h (disj nd x hx), h]
    have dj : ∀ x ∈ Op, x ∉ O1 ++ Ob := fun x hx h => by
      rcases P.own x h with h1 | h1
      · exact disj nd x hx h1
      · have := mu x hx; rw [h1] at this; exact this.elim
    have PP : Post F H (O ++ Op) F1 H1 (O1 ++ (Op ++ Ob)) := P.wide.less (fun a h => h) fun a h => by
      simp only [List.mem_append] at h ⊢
      rcases h with h | h | h <;> simp [h]
    have ndd : (O1 ++ (Op ++ Ob)).Nodup := by
      have n2 := (List.nodup_append.mp nd).2.1
      obtain ⟨m1, m2, m3⟩ := List.nodup_append.mp nd1
      refine List.nodup_append.mpr ⟨m1, List.nodup_append.mpr ⟨n2, m2, fun a ha b hb e => dj a ha (by rw [e]; simp [hb])⟩, fun a ha b hb e => ?_⟩
      rcases List.mem_append.mp hb with h | h
      · exact dj b h (by rw [← e]; simp [ha])
      · exact m3 a ha b h e
    have nn : ∀ x ∈ Op ++ Ob, F1 x = none := fun x hx => by
      rcases List.mem_append.mp hx with h | h
      · rcases none_or (H := F1) x with q | ⟨o, q⟩
        · exact q
        · rcases P.fnew x o q with ⟨u, h1⟩ | h1 | h1
          · rw [np x h] at h1; cases h1
          · exact (disj nd x h h1).elim
          · have := mu x h; rw [h1] at this; exact this.elim
      · exact n1 x h
    refine ⟨a, F1, env1, O1, Ob, S1, fd _ _ _ _ _ p P.f P.k hk, r, ndd, nn, fun x hx => by rw [hk x hx]; exact mu x hx, P.f, P.k, ?_⟩
    have fin' : Fin κ W' rel2 σ' F H (O ++ Op) (g a env1) Q := fin
    revert fin'
    cases g a env1 with
    | stk => exact fun z => z
    | exc c fs e2 => exact fun fin' F2 H2 dx O2 P2 S2 x => fin' F2 H2 dx O2 (PP.trans P2) S2 x
    | ok c e2 => exact fun fin' F2 H2 d O2 Oc P2 S2 r2 nd2 n2 => fin' F2 H2 d O2 Oc (PP.trans P2) S2 r2 nd2 n2
theorem lc_read {own : List Nat} {t : Tg} {fi : M (List D)} {ft : M Bool} {fe : M D} {n : Nat} {σ0 : St} {H0 : Hp} {Q : VK} (hn : σ0.length = n) (q0 : tX κ W (rE κ) (mLc own t fi ft fe) σ0 H0 Q) :
    tLc (tX κ W (rI κ) fi) (gT κ (others n own) t) (tX κ W0 rB ft) (tX κ W0 (rE κ) fe) own σ0 H0 Q := by
  refine tX_imp (tX_part (rel := rI κ) q0) ?_
  rintro J H1 ⟨items, F1, env1, O1, Ob, S1, ⟨rfl, sv⟩, nd, n1, fin1⟩ L hL
  rw [List.append_nil] at fin1
  have sm0 := same_new (o := .lst []) hL
  -- the loop's wish
  have fin2 : Fin κ W0 (rE κ) (L2.wipe σ0 own) F1 (upd H1 L (.lst [])) (O1 ++ [L]) (lcL own t ft fe items [] (wipeE own env1)) Q := by
    revert fin1
    cases lcL own t ft fe items [] (wipeE own env1) with
    | stk => exact fun z => z
    | exc c fs e2 => exact fun z => z.elim
    | ok d e2 =>
      intro z F2 H2 v O2 Od P2 S2 y nd2 n2
      have P1 : Post F1 H1 O1 F1 (upd H1 L (.lst [])) (O1 ++ [L]) := ⟨Same.refl _, fun a o e _ => sm0 a o e, fun a h => (List.mem_append.mp h).elim .inl fun h => .inr (by rw [List.mem_singleton.mp h]; exact hL), fun a o e => .inl ⟨o, e⟩, Keeps.same sm0⟩
      have P3 := P1.trans P2
      obtain ⟨O3, S3, m3⟩ := Stt.restore S1 P3.f P3.k S2
      obtain ⟨k1, k2, k3⟩ := List.nodup_append.mp nd2
      exact z F2 H2 v O3 Od (P3.less (fun _ h => h) fun a ha => by
        rcases List.mem_append.mp ha with h | h
        · exact List.mem_append_left _ (m3 a h)
        · exact List.mem_append_right _ h) S3 y (List.nodup_append.mpr ⟨S3.nd, k2, fun a ha b hb => k3 a (m3 a ha) b hb⟩) n2
  have sg := S1.grow sm0
  have ndL : (O1 ++ [L]).Nodup := List.nodup_append.mpr ⟨S1.nd, by simp, fun a ha b hb e => by
    rw [List.mem_singleton.mp hb] at e
    have := S1.own.mut a ha
    rw [e, hL] at this
    exact this⟩
  obtain ⟨O', Op', S', p', nd', nf', fin'⟩ := lc_next (σ := σ0) (L := L) (acc := []) sg rfl ⟨[], [], rfl, upd_same, .nil⟩ ndL (fun x hx => by rw [List.mem_singleton.mp hx]; exact S1.sub.free hL) fin2
  refine ⟨fun i m H => m + i = items.length ∧ ∃ F O Op acc env, Stt κ F H (L2.wipe σ0 own) (wipeE own env) O ∧ PAcc κ L acc F H Op ∧ (O ++ Op).Nodup ∧ (∀ x ∈ Op, F x = none) ∧ Same F1 F ∧ Keeps H1 H ∧ Fin κ W0 (rE κ) (L2.wipe σ0 own) F H (O ++ Op) (lcL own t ft fe (items.drop i) acc (wipeE own env)) Q,
    ⟨items.length, rfl, F1, O', Op', [], env1, S', p', nd', nf', Same.refl _, Keeps.same sm0, by rw [List.drop_zero]; exact fin'⟩, ?_⟩
  rintro i m H ⟨hm, F, O, Op, acc, env, S, p, nd3, nf3, sf, kh, fin3⟩
  obtain ⟨h1, h2⟩ := sv F H sf S.sub kh i
  by_cases hi : i < items.length
  · refine .inr ?_
    obtain ⟨go, yl⟩ := h1 _ (List.getElem?_eq_getElem hi)
    refine ⟨go, fun H' => (m - 1) + (i + 1) = items.length ∧ ∃ F O Op acc env, Stt κ F H' (L2.wipe σ0 own) (wipeE own env) O ∧ PAcc κ L acc F H' Op ∧ (O ++ Op).Nodup ∧ (∀ x ∈ Op, F x = none) ∧ Same F1 F ∧ Keeps H1 H' ∧ Fin κ W0 (rE κ) (L2.wipe σ0 own) F H' (O ++ Op) (lcL own t ft fe (items.drop (i + 1)) acc (wipeE own env)) Q,
      fun H' h => ⟨m - 1, by omega, h⟩, fun x H' hy => ?_⟩
    obtain ⟨sm, y⟩ := yl x H' hy
    rw [List.drop_eq_getElem_cons hi] at fin3
    have fin3 : Fin κ W0 (rE κ) (L2.wipe σ0 own) F H (O ++ Op) (match bindT t items[i] (wipeE own env) with
      | some env1 => M.bind (noX ft) (fun b => if b = true then M.bind (noX fe) (fun y e => if acc.length < sizeLine then lcL own t ft fe (items.drop (i + 1)) (acc ++ [y]) (wipeE own e) else .stk) else fun e => lcL own t ft fe (items.drop (i + 1)) acc (wipeE own e)) env1
      | none => .stk) Q := fin3
    cases q : bindT t items[i] (wipeE own env) with
    | none => rw [q] at fin3; exact fin3.elim
    | some env2 =>
      simp only [q] at fin3
      refine ⟨F, wipeE own env, O, [], items[i], env2, S.grow sm, y, by rw [List.append_nil]; exact S.nd, (fun a ha => nomatch ha), q, fun σ2 O2 S2 pq mm => ?_⟩
      have hlen : σ2.length = σ0.length := by rw [S2.tells, bindT_length.1 _ _ _ _ q, ← S.tells, wipe_length]
      have hw : L2.wipe σ2 own = L2.wipe σ0 own := by
        rw [wipe_same (σ := L2.wipe σ0 own) (σ' := σ2) (vs := own) (by rw [wipe_length]; exact hlen) (fun j hj => ?_)]
        · exact wipe_wipe
        · by_cases hjn : j < n
          · exact pq j (mem_others hjn hj)
          · rw [List.getElem?_eq_none (by omega), List.getElem?_eq_none (by rw [wipe_length]; omega)]
      refine ⟨hw, ?_⟩
      have mm' : ∀ a ∈ O2, a ∈ O := fun a ha => by simpa using mm a ha
      obtain ⟨j1, j2, j3⟩ := List.nodup_append.mp nd3
      have nd4 : (O2 ++ Op).Nodup := List.nodup_append.mpr ⟨S2.nd, j2, fun a ha b hb => j3 a (mm' a ha) b hb⟩
      have p2 : PAcc κ L acc F H' Op := pacc_framed _ _ _ _ _ p (Same.refl F) (Keeps.same sm) fun a ha => by
        rcases none_or (H := H) a with h | ⟨o, h⟩
        · have := p.mut a ha; rw [h] at this; exact this.elim
        · rw [sm a o h, h]
      have PG : Post F H (O ++ Op) F H' (O2 ++ Op) := (Post.grow sm).trans (Post.refl.less (fun _ h => h) fun a ha => by
        rcases List.mem_append.mp ha with h | h
        · exact List.mem_append_left _ (mm' a h)
        · exact List.mem_append_right _ h)
      have fin4 : Fin κ W0 (rE κ) (L2.wipe σ0 own) F H' (O2 ++ Op) (M.bind (noX ft) (fun b => if b = true then M.bind (noX fe) (fun y e => if acc.length < sizeLine then lcL own t ft fe (items.drop (i + 1)) (acc ++ [y]) (wipeE own e) else .stk) else fun e => lcL own t ft fe (items.drop (i + 1)) acc (wipeE own e)) env2) Q := by
        revert fin3
        generalize M.bind (noX ft) (fun b => if b = true then M.bind (noX fe) (fun y e => if acc.length < sizeLine then lcL own t ft fe (items.drop (i + 1)) (acc ++ [y]) (wipeE own e) else .stk) else fun e => lcL own t ft fe (items.drop (i + 1)) acc (wipeE own e)) env2 = rr
        cases rr with
        | stk => exact fun z => z
        | exc c fs e2 => exact fun z F2 H2 dx O2 P2 S2 x => z F2 H2 dx O2 (PG.trans P2) S2 x
        | ok c e2 => exact fun z F2 H2 d O2 Oc P2 S2 r2 nd2 n2 => z F2 H2 d O2 Oc (PG.trans P2) S2 r2 nd2 n2
      refine ⟨F, env2, O2, S2, ?_⟩
      have q1 := Fin.part2 (W := W0) (rel := rB) pacc_framed S2 p2 nd4 nf3 p2.mut fin4
      revert q1
      cases ft env2 with
      | stk => exact fun z => z
      | exc c fs e2 => exact fun z => z
      | ok b0 e2 =>
        intro z F4 H4 b O4 Ob P4 S4 r4 nd4' n4
        obtain ⟨b', F5, env5, O5, Ob5, S5, p5, ⟨rfl, rfl⟩, nd5, nf5, mu5, sf5, kp5, fin5⟩ := z F4 H4 b O4 Ob P4 S4 r4 nd4' n4
        rw [List.append_nil] at nd5 fin5 nf5
        cases b with
        | false =>
          obtain ⟨O6, Op6, S6, p6, nd6, nf6, fin6⟩ := lc_next (σ := σ0) S5 hw p5 nd5 nf5 fin5
          exact ⟨by omega, F5, O6, Op6, acc, env5, S6, p6, nd6, nf6, sf.trans sf5, (kh.trans (Keeps.same sm)).trans kp5, fin6⟩
        | true =>
          refine ⟨F5, env5, O5, S5, ?_⟩
          have q2 := Fin.part2 (W := W0) (rel := rE κ) pacc_framed S5 p5 nd5 nf5 mu5 fin5
          revert q2
          cases fe env5 with
          | stk => exact fun z => z
          | exc c fs e2 => exact fun z => z
          | ok y0 e3 =>
            intro z F7 H7 v O7 Ov P7 S7 r7 nd7 n7
            obtain ⟨y1, F8, env8, O8, Ov8, S8, p8, r8, nd8, nf8, mu8, sf8, kp8, fin8⟩ := z F7 H7 v O7 Ov P7 S7 r7 nd7 n7
            obtain ⟨vs, Oa, rfl, hl, l⟩ := p8
            by_cases hz : acc.length < sizeLine
            · rw [if_pos hz] at fin8
              refine ⟨vs, hl, by rw [l.length]; exact hz, ?_⟩
              -- the new item is appended
              have nL : L ∉ Oa ++ Ov8 ∧ L ∉ O8 := by
                obtain ⟨k1, k2, k3⟩ := List.nodup_append.mp nd8
                have := (List.nodup_cons.mp (show (L :: (Oa ++ Ov8)).Nodup from k2)).1
                exact ⟨this, fun h => k3 L h L (by simp) rfl⟩
              have ne : ∀ a, a ≠ L → upd H7 L (.lst (vs ++ [v])) a = H7 a := fun a h => upd_ne h
              have kpU : Keeps H7 (upd H7 L (.lst (vs ++ [v]))) := ⟨fun a xs e => by
                rw [upd_ne (ne_of e hl (by intro q; cases q))]; exact e, fun a o u e => by
                rw [upd_ne (ne_of e hl (by intro q; cases q))]; exact e⟩
              have PU : Post F8 H7 (O8 ++ (L :: Oa ++ Ov8)) F8 (upd H7 L (.lst (vs ++ [v]))) (O8 ++ (L :: (Oa ++ Ov8))) := ⟨Same.refl _, fun a o e h => by
                rw [upd_ne fun q => h (by rw [q]; simp)]; exact e, fun a h => .inl h, fun a o e => .inl ⟨o, e⟩, kpU⟩
              have S9 : Stt κ F8 (upd H7 L (.lst (vs ++ [v]))) σ2 env8 O8 := ⟨fun a o e => by
                rw [upd_ne fun q => by rw [q, nf8 L (by simp)] at e; cases e]; exact S8.sub a o e, S8.own.frame (Same.refl _) kpU (fun a h => ne a fun q => nL.2 (q ▸ h)), S8.nd, S8.fr⟩
              have p9 : PAcc κ L (acc ++ [y1]) F8 (upd H7 L (.lst (vs ++ [v]))) (L :: (Oa ++ Ov8)) := ⟨_, _, rfl, upd_same, (OwnL.snoc l r8).frame (Same.refl _) kpU fun a h => ne a fun q => nL.1 (q ▸ h)⟩
              have fin9 : Fin κ W0 (rE κ) (L2.wipe σ0 own) F8 (upd H7 L (.lst (vs ++ [v]))) (O8 ++ (L :: (Oa ++ Ov8))) (lcL own t ft fe (items.drop (i + 1)) (acc ++ [y1]) (wipeE own env8)) Q := by
                revert fin8
                cases lcL own t ft fe (items.drop (i + 1)) (acc ++ [y1]) (wipeE own env8) with
                | stk => exact fun z => z
                | exc c fs e2 => exact fun z F2 H2 dx O2 P2 S2 x => z F2 H2 dx O2 (PU.trans P2) S2 x
                | ok c e2 => exact fun z F2 H2 d O2 Oc P2 S2 r2 nd2 n2 => z F2 H2 d O2 Oc (PU.trans P2) S2 r2 nd2 n2
              obtain ⟨O6, Op6, S6, p6, nd6, nf6, fin6⟩ := lc_next (σ := σ0) S9 hw p9 nd8 nf8 fin9
              exact ⟨by omega, F8, O6, Op6, acc ++ [y1], env8, S6, p6, nd6, nf6, (sf.trans sf5).trans sf8, (((kh.trans (Keeps.same sm)).trans kp5).trans kp8).trans kpU, fin6⟩
            · rw [if_neg hz] at fin8
              exact fin8.elim
  · refine .inl ⟨h2 (by omega), ?_⟩
    rw [List.drop_eq_nil_of_le (by omega)] at fin3
    obtain ⟨vs, Oa, rfl, hl, l⟩ := p
    exact fin3 F H (.ref L) O (L :: Oa) Post.refl S (.lstO hl l) nd3 nf3

theorem pe_monoI {X : Cx} {e : Expr} {t t' : TE} (h : PE X e t) (i : ∀ σ H Q, σ.length = X.N.length → t' σ H Q → t σ H Q) : PE X e t' := ⟨fun pins s σ H Q I q => h.run pins s σ H Q I (i _ _ _ I.len q)⟩
theorem ps_monoI {X : Cx} {e : Stmt} {t t' : TS} (h : PS X e t) (i : ∀ D σ H, σ.length = X.N.length → t' D σ H → t D σ H) : PS X e t' := ⟨fun pins s σ H D I q => h.run pins s σ H D I (i _ _ _ I.len q)⟩
/-- the contexts of a comprehension's block -/
abbrev Cx.inBlk (X : Cx) (scope : Scope) (s : Shared) (H : Hp) (C : Addr) (cl : List (Str × Addr)) (fp : List Addr) : Cx := X.blk s H scope (compEnvC scope cl C X.env) fp
theorem se_lc {elt tg iter : Expr} {ifs : List Expr} {scope : Scope} {own : List (Str × Nat)} {pos : Pos} {t : Tg} {fi : M (List D)} {ft : M Bool} {fe : M D} (hc : X.calm = true) (hN : X.N.Nodup) (hi : SI κ X W tg iter fi) (ok : BlkOk X.N X.env.scope scope own)
    (hg : ∀ (s : Shared) (H : Hp) (C : Addr) (cl : List (Str × Addr)) (fp : List Addr), SG κ (Cx.inBlk X scope s H C cl fp) (others X.N.length (own.map (·.2))) tg t) (ht : ∀ (s : Shared) (H : Hp) (C : Addr) (cl : List (Str × Addr)) (fp : List Addr), STs κ (Cx.inBlk X scope s H C cl fp) W0 ifs ft)
    (he : ∀ (s : Shared) (H : Hp) (C : Addr) (cl : List (Str × Addr)) (fp : List Addr), SE κ (Cx.inBlk X scope s H C cl fp) W0 elt fe) (hs : ∀ x, foldedSetIterable iter X.env x = pure x := by intro _; rfl) :
    SE κ X W (.ListComp elt [⟨tg, iter, ifs, 0⟩] scope pos) (mLc (own.map (·.2)) t fi ft fe) :=
  ⟨pe_monoI (pe_lc hc hN hi.pi ok (fun s H C cl fp => (hg s H C cl fp).pg) (fun s H C cl fp => (ht s H C cl fp).pt) (fun s H C cl fp => (he s H C cl fp).pe) hs) fun σ H Q hl q => lc_read hl q⟩
/-- name = [..] on one line, the name a local -/
theorem ss_setLc {i : Nat} {y : Str} {py : Pos} {elt tg iter : Expr} {ifs : List Expr} {scope : Scope} {own : List (Str × Nat)} {pos spos : Pos} {t : Tg} {fi : M (List D)} {ft : M Bool} {fe : M D} (hc : X.calm = true) (hN : X.N.Nodup) (hf : pi.contains i = false) (hy : X.N[i]? = some y) (hyl : X.env.scope.names.lookup y = some .local)
    (hsw : swapsWith (.ListComp elt [⟨tg, iter, ifs, 0⟩] scope pos) (some (.Name y py)) spos.line X.env = pure true) (hi : SI κ X W tg iter fi) (ok : BlkOk X.N X.env.scope scope own)
    (hg : ∀ (s : Shared) (H : Hp) (C : Addr) (cl : List (Str × Addr)) (fp : List Addr), SG κ (Cx.inBlk X scope s H C cl fp) (others X.N.length (own.map (·.2))) tg t) (ht : ∀ (s : Shared) (H : Hp) (C : Addr) (cl : List (Str × Addr)) (fp : List Addr), STs κ (Cx.inBlk X scope s H C cl fp) W0 ifs ft)
    (he : ∀ (s : Shared) (H : Hp) (C : Addr) (cl : List (Str × Addr)) (fp : List Addr), SE κ (Cx.inBlk X scope s H C cl fp) W0 elt fe) (hs : ∀ x, foldedSetIterable iter X.env x = pure x := by intro _; rfl) :
    SS κ X W pi (.Assign [.Name y py] (.ListComp elt [⟨tg, iter, ifs, 0⟩] scope pos) spos) (mAsg (.nm i) (mLc (own.map (·.2)) t fi ft fe)) :=
  ⟨ps_monoI (ps_setLc hc hN hy hyl hsw hi.pi ok (fun s H C cl fp => (hg s H C cl fp).pg) (fun s H C cl fp => (ht s H C cl fp).pt) (fun s H C cl fp => (he s H C cl fp).pe) hs) fun Dn σ H hl q =>
    lc_read (Q := fun x H1 => gName i x σ H1 Dn.nx) hl (tX_imp (tS_part q) fun b H1 ⟨a, F1, env1, O1, Ob, S1, r, nd, n, fin⟩ => by
      have e : bindT (.nm i) a env1 = if i < env1.length then some (env1.set i (some a)) else none := by unfold bindT; rfl
      rw [e] at fin
      by_cases hlt : i < env1.length
      · rw [if_pos hlt] at fin
        obtain ⟨O', S', m⟩ := S1.put r nd n hlt
        refine fin F1 H1 _ O' (Post.refl.less (fun _ h => h) m) S' fun j hj => ?_
        refine List.getElem?_set_ne fun q => ?_
        subst q
        rw [List.contains_iff_mem.mpr hj] at hf
        cases hf
      · rw [if_neg hlt] at fin
        exact fin.elim)⟩
end VS
set_option Elab.async false
set_option linter.all false
set_option maxRecDepth 100000
set_option maxHeartbeats 1000000
namespace VS
open PySem L2
variable {κ : Kc} {W : WX} {pi : List Nat} {F F' F1 F2 H H' H1 H2 : Hp} {X : Cx}

/-! ### an owned slot is changed -/
/-- slot i holds v, told as d, that owns Oi -/
structure SlotAt (κ : Kc) (F H : Hp) (σ : St) (env : VS.Env) (O : List Addr) (i : Nat) (d : D) (v : V) (A Oi B : List Addr) : Prop where
  hv : σ[i]? = some (some v)
  eo : O = A ++ (Oi ++ B)
  own : Own κ F H v d Oi
  p : ∀ {F' H' : Hp} {v' : V} {d' : D} {O' : List Addr}, Same F F' → Keeps H H' → (∀ a ∈ A ++ B, H' a = H a) → Own κ F' H' v' d' O' → OwnE κ F' H' (σ.set i (some v')) (env.set i (some d')) (A ++ (O' ++ B))
theorem Stt.slot {σ : St} {env : VS.Env} {O : List Addr} {i : Nat} {d : D} (S : Stt κ F H σ env O) (e : env[i]? = some (some d)) : ∃ v A Oi B, SlotAt κ F H σ env O i d v A Oi B := by
  obtain ⟨v, A, Oi, B, hv, eo, y, p⟩ := S.own.get e
  exact ⟨v, A, Oi, B, hv, eo, y, fun a b c d => p a b c d⟩
theorem SlotAt.nodup {σ : St} {env : VS.Env} {O Oh A Oi B : List Addr} {i : Nat} {d : D} {v : V} (Z : SlotAt κ F H σ env O i d v A Oi B) (S : Stt κ F H σ env O) (nd : (O ++ Oh).Nodup) : (Oi ++ Oh).Nodup := by
  obtain ⟨m1, m2, m3⟩ := List.nodup_append.mp nd
  have h1 : Oi.Nodup := (List.nodup_append.mp (nodup_move (Z.eo ▸ S.nd))).2.1
  exact List.nodup_append.mpr ⟨h1, m2, fun x hx b hb => m3 x (by rw [Z.eo]; simp [hx]) b hb⟩
/-- at a (owned by slot i) stands another object; the slot's tree is d' -/
theorem Stt.turn {σ : St} {env : VS.Env} {O Oh A Oi B Oi' Od : List Addr} {i : Nat} {d0 d' : D} {v : V} {a : Addr} {o : HO} (S : Stt κ F H σ env O) (Z : SlotAt κ F H σ env O i d0 v A Oi B) (nd : (O ++ Oh).Nodup) (nf : ∀ x ∈ Oh, F x = none)
    (ha : a ∈ Oi) (y' : Own κ F (upd H a o) v d' Oi') (nd2 : (Oi' ++ Od).Nodup) (mm : ∀ x ∈ Oi' ++ Od, x ∈ Oi ++ Oh) :
    ∃ O', Stt κ F (upd H a o) σ (env.set i (some d')) O' ∧ Post F H (O ++ Oh) F (upd H a o) (O' ++ Od) ∧ (O' ++ Od).Nodup ∧ ∀ x ∈ Od, F x = none := by
  obtain ⟨hv, eo, y, p⟩ := Z
  have mu := S.own.mut a (by rw [eo]; simp [ha])
  have keep : ∀ b, b ≠ a → upd H a o b = H b := fun b h => upd_ne h
  have kp : Keeps H (upd H a o) := ⟨fun b xs h => by
    rw [keep b fun q => by subst q; rw [h] at mu; exact mu]; exact h, fun b ob u h => by
    rw [keep b fun q => by subst q; rw [h] at mu; exact mu]; exact h⟩
  have ndm := nodup_move (eo ▸ S.nd)
  obtain ⟨q1, q2, q3⟩ := List.nodup_append.mp ndm
  have nab : ∀ b ∈ A ++ B, b ≠ a := fun b hb e => q3 b hb a ha e
  have ow := p (Same.refl F) kp (fun b hb => keep b (nab b hb)) y'
  rw [set_self hv] at ow
  have memAB : ∀ b ∈ A ++ B, b ∈ O := fun b hb => by rw [eo]; simp only [List.mem_append] at hb ⊢; rcases hb with h | h <;> simp [h]
  have memI : ∀ b ∈ Oi ++ Oh, b ∈ O ++ Oh := fun b hb => by rw [eo]; simp only [List.mem_append] at hb ⊢; rcases hb with h | h <;> simp [h]
  have djAB : ∀ b ∈ A ++ B, b ∉ Oi' ++ Od := fun b hb h => by
    rcases List.mem_append.mp (mm b h) with h | h
    · exact q3 b hb b h rfl
    · exact disj nd b h (memAB b hb)
  have mem : ∀ b ∈ A ++ (Oi' ++ B), b ∈ O ++ Oh := fun b hb => by
    simp only [List.mem_append] at hb
    rcases hb with h | h | h
    · exact List.mem_append_left _ (memAB b (List.mem_append_left _ h))
    · exact memI b (mm b (List.mem_append_left _ h))
    · exact List.mem_append_left _ (memAB b (List.mem_append_right _ h))
  have nF : ∀ b ∈ O ++ Oh, F b = none := fun b hb => (List.mem_append.mp hb).elim (S.fr b) (nf b)
  obtain ⟨r1, r2, r3⟩ := List.nodup_append.mp nd2
  have ndO : (A ++ (Oi' ++ B)).Nodup := by
    obtain ⟨s1, s2, s3⟩ := List.nodup_append.mp q1
    refine List.nodup_append.mpr ⟨s1, List.nodup_append.mpr ⟨r1, s2, fun x hx b hb e => djAB b (List.mem_append_right _ hb) (List.mem_append_left _ (e ▸ hx))⟩, fun x hx b hb e => ?_⟩
    rcases List.mem_append.mp hb with h | h
    · exact djAB x (List.mem_append_left _ hx) (List.mem_append_left _ (e ▸ h))
    · exact s3 x hx b h e
  refine ⟨A ++ (Oi' ++ B), ⟨fun b u h => ?_, ow, ndO, fun b hb => nF b (mem b hb)⟩, ⟨Same.refl F, fun b u h n => ?_, fun b hb => ?_, fun b u h => .inl ⟨u, h⟩, kp⟩, List.nodup_append.mpr ⟨ndO, r2, fun x hx b hb e => ?_⟩, fun x hx => nF x (memI x (mm x (List.mem_append_right _ hx)))⟩
  · rw [keep b fun q => by subst q; rw [S.fr b (by rw [eo]; simp [ha])] at h; cases h]; exact S.sub b u h
  · rw [keep b fun q => n (by rw [q, eo]; simp [ha])]; exact h
  · rcases List.mem_append.mp hb with h | h
    · exact .inl (mem b h)
    · exact .inl (memI b (mm b (List.mem_append_right _ h)))
  · simp only [List.mem_append] at hx
    rcases hx with h | h | h
    · exact djAB x (List.mem_append_left _ h) (List.mem_append_right _ (e ▸ hb))
    · exact r3 x h b hb e
    · exact djAB x (List.mem_append_right _ h) (List.mem_append_right _ (e ▸ hb))

/-! ### methods of a list in a slot -/
/-- r, of a list's items ds and arguments es, leaves ds' and answers d -/
def ListM (κ : Kc) (r : V → List V → Hp → VK → Prop) (op : List D → List D → Option (List D × D)) : Prop :=
  ∀ (F H : Hp) (a : Addr) (xs : List V) (ds : List D) (O1 : List Addr) (vs : List V) (es : List D) (Oa : List Addr) (ds' : List D) (d : D) (Q : VK), H a = some (.lst xs) → OwnL κ F H xs ds O1 → OwnL κ F H vs es Oa → Same F H → (O1 ++ Oa).Nodup → op ds es = some (ds', d) →
    (∀ xs' v O1' Od, OwnL κ F H xs' ds' O1' → Own κ F H v d Od → (O1' ++ Od).Nodup → (∀ x ∈ O1' ++ Od, x ∈ O1 ++ Oa) → Q v (upd H a (.lst xs'))) → r (.ref a) vs H Q
def mLm (i : Nat) (op : List D → List D → Option (List D × D)) (fa : M (List Hd)) : M D := fun env0 => match (env0[i]?).join with
  | some (.lst true _) => M.bind fa (fun hs env => match (env[i]?).join with
    | some (.lst true ds) => (match takeAll env hs with
      | some es => (match op ds es with
        | some (ds', d) => .ok d (env.set i (some (.lst true ds')))
        | none => .stk)
      | none => .stk)
    | _ => .stk) env0
  | _ => .stk
theorem lm_end {r : V → List V → Hp → VK → Prop} {op : List D → List D → Option (List D × D)} (ok : ListM κ r op) {σ : St} {env : VS.Env} {O Oh : List Addr} {i : Nat} {v : V} {vs : List V} {hs : List Hd} {Q : VK} (hv : σ[i]? = some (some v)) (S : Stt κ F H σ env O) (x : OwnHs κ σ F H vs hs Oh) (nd : (O ++ Oh).Nodup) (nf : ∀ x ∈ Oh, F x = none)
    (fin : Fin κ W (rE κ) σ F H (O ++ Oh) (match (env[i]?).join with
      | some (.lst true ds) => (match takeAll env hs with
        | some es => (match op ds es with
          | some (ds', d) => .ok d (env.set i (some (.lst true ds')))
          | none => .stk)
        | none => .stk)
      | _ => .stk) Q) : r v vs H Q := by
  split at fin
  · rename_i ds q
    cases q2 : takeAll env hs with
    | none => rw [q2] at fin; exact fin.elim
    | some es =>
      simp only [q2] at fin
      cases q3 : op ds es with
      | none => simp only [q3] at fin; exact fin.elim
      | some p =>
        obtain ⟨ds', d⟩ := p
        simp only [q3] at fin
        have l := x.take S q2
        obtain ⟨v', A, Oi, B, Z⟩ := S.slot (join_some q)
        have hv' := Z.hv
        rw [hv] at hv'
        cases hv'
        have y := Z.own
        cases y with
        | @lstO a xs _ O1 ha lx =>
          have ndi : ((a :: O1) ++ Oh).Nodup := Z.nodup S nd
          refine ok F H a xs ds O1 vs es Oh ds' d Q ha lx l S.sub (List.nodup_cons.mp ndi).2 q3 fun xs' v O1' Od lx' yv nd' mm => ?_
          have na : a ∉ O1' ++ Od := fun h => (List.nodup_cons.mp ndi).1 (mm a h)
          have fr : ∀ b ∈ O1' ++ Od, upd H a (.lst xs') b = H b := fun b hb => upd_ne fun e => na (e ▸ hb)
          have kp : Keeps H (upd H a (.lst xs')) := ⟨fun b ys h => by
            rw [upd_ne (ne_of h ha (by intro q; cases q))]; exact h, fun b ob u h => by
            rw [upd_ne (ne_of h ha (by intro q; cases q))]; exact h⟩
          obtain ⟨O', S', P, nd2, nf2⟩ := S.turn (o := .lst xs') (d' := .lst true ds') (Oi' := a :: O1') (Od := Od) Z nd nf List.mem_cons_self (.lstO upd_same (lx'.frame (Same.refl F) kp fun b hb => fr b (List.mem_append_left _ hb)))
            (List.nodup_cons.mpr ⟨na, nd'⟩) fun x hx => (List.mem_cons.mp hx).elim (fun e => by rw [e]; exact List.mem_cons_self) fun h => List.mem_cons_of_mem _ (mm x h)
          exact fin F _ v O' Od P S' (yv.frame (Same.refl F) kp fun b hb => fr b (List.mem_append_right _ hb)) nd2 nf2
  · exact fin.elim
/-- the list in slot i, its items and what they own -/
theorem lst_at {σ : St} {env : VS.Env} {O : List Addr} {i : Nat} {ds : List D} (S : Stt κ F H σ env O) (q : (env[i]?).join = some (.lst true ds)) : ∃ a xs, σ[i]? = some (some (.ref a)) ∧ H a = some (.lst xs) := by
  obtain ⟨v, A, Oi, B, Z⟩ := S.slot (join_some q)
  have y := Z.own
  cases y with
  | lstO ha lx => exact ⟨_, _, Z.hv, ha⟩
theorem tX_lm {K : PySem.W.Frag} {r : V → List V → Hp → VK → Prop} {op : List D → List D → Option (List D × D)} (ok : ListM κ r op) {i : Nat} {fa : M (List Hd)} {σ : St} {H : Hp} {Q : VK} (h : tX κ W (rE κ) (mLm i op fa) σ H Q) :
    tVar i σ H fun x H1 => tyV K "list" x H1 ∧ tX κ W (rHs κ) fa σ H1 fun xs H2 => r x xs H2 Q := by
  obtain ⟨F, env, O, S, fin⟩ := h
  unfold mLm at fin
  split at fin
  · rename_i ds0 q0
    obtain ⟨a, xs, hv, ha⟩ := lst_at S q0
    refine ⟨.ref a, hv, .inl ⟨rfl, xs, SqL.of ha⟩, F, env, O, S, ?_⟩
    have q := Fin.first (rel := rHs κ) S fin
    revert q
    cases fa env with
    | stk => exact fun z => z
    | exc c fs e2 => exact fun z => z
    | ok as e2 =>
      intro z F' H' b O' Ob P S' r nd n
      obtain ⟨as, F1, env1, O1, Ob1, S1, r1, nd1, n1, fin1⟩ := z F' H' b O' Ob P S' r nd n
      exact lm_end ok hv S1 r1 nd1 n1 fin1
  · exact fin.elim
theorem se_lm {x name : String} {id : String} {i : Nat} {p apos cpos : Pos} {e : Expr} {es : List Expr} {r : V → List V → Hp → VK → Prop} {op : List D → List D → Option (List D × D)} {fa : M (List Hd)} (slot : Slot "list" name id) (hty : typeOf (.builtin id) = pure (.type "method_descriptor")) (hm : MtR X id r) (ok : ListM κ r op)
    (hx : PE X (.Name (x : Str) p) (tVar i)) (ha : SA κ X W (e :: es) fa)
    (hbase : attributeBase (.Name (x : Str) p) (name : Str) X.env (eval (.Name (x : Str) p) X.env) = eval (.Name (x : Str) p) X.env := by rfl)
    (hfew : ((backTo cpos (starEach (e :: es) X.env)).all (fun x => !x.1) && (backToKw cpos (keywordEach [] X.env)).all (fun x => x.1.isSome)
      && decide ((e :: es).length + ([] : List Keyword).length + (if ([] : List Keyword).isEmpty then 0 else 1) < 30)) = true := by rfl)
    (hline : (apos.endLine == cpos.line) = true := by rfl) (hs : starEach (e :: es) X.env = (false, eval e X.env) :: starEach es X.env := by rfl) (hplain : (backTo cpos (starEach es X.env)).any (·.1) = false := by rfl) :
    SE κ X W (.Call (.Attribute (.Name (x : Str) p) (name : Str) apos) (e :: es) [] cpos) (mLm i op fa) :=
  ⟨pe_mono (pe_bm PySem.F.plainAttrs_list slot hty hm hx ha.pa hbase hfew hline hs hplain) fun σ H Q q => tX_lm ok q⟩
theorem se_lm0 {x name : String} {id : String} {i : Nat} {p apos cpos : Pos} {r : V → List V → Hp → VK → Prop} {op : List D → List D → Option (List D × D)} (slot : Slot "list" name id) (hty : typeOf (.builtin id) = pure (.type "method_descriptor")) (hm : MtR X id r) (ok : ListM κ r op)
    (hx : PE X (.Name (x : Str) p) (tVar i))
    (hbase : attributeBase (.Name (x : Str) p) (name : Str) X.env (eval (.Name (x : Str) p) X.env) = eval (.Name (x : Str) p) X.env := by rfl) (hline : (apos.endLine == cpos.line) = true := by rfl) :
    SE κ X W (.Call (.Attribute (.Name (x : Str) p) (name : Str) apos) [] [] cpos) (mLm i op mNil) :=
  ⟨pe_mono (pe_bm0 PySem.F.plainAttrs_list slot hty hm hx hbase hline) fun σ H Q q => by
    obtain ⟨v, hv, ty, q1⟩ := tX_lm (K := X.K) ok q
    exact ⟨v, hv, ty, tA_nil q1⟩⟩
def lAppend : List D → List D → Option (List D × D)
  | ds, [d] => if ds.length < sizeLine then some (ds ++ [d], .non) else none
  | _, _ => none
theorem lm_append : ListM κ rAppend lAppend := by
  intro F H a xs ds O1 vs es Oa ds' d Q ha lx l sm nd e k
  unfold lAppend at e
  split at e
  · split at e
    · rename_i d0 hz
      cases e
      cases l with
      | @cons v _ _ _ P1 P2 h t =>
        cases t
        rw [List.append_nil] at nd k
        exact ⟨a, xs, v, rfl, rfl, ha, by rw [lx.length]; exact hz, k _ .non (O1 ++ P1) [] (lx.snoc h) .non (by rw [List.append_nil]; exact nd) (fun x hx => by rw [List.append_nil] at hx; exact hx)⟩
    · cases e
  · cases e
theorem OwnL.split {vs : List V} {ds : List D} {O : List Addr} (x : OwnL κ F H vs ds O) : ∀ {k : Nat} {d : D}, ds[k]? = some d → ∃ v A Od B, vs[k]? = some v ∧ O = A ++ (Od ++ B) ∧ Own κ F H v d Od ∧ OwnL κ F H (vs.eraseIdx k) (ds.eraseIdx k) (A ++ B) := by
  induction ds generalizing vs O with
  | nil => intro k d h; simp at h
  | cons d0 ds ih =>
    cases x with
    | @cons v _ vs' _ P1 P2 a t =>
      intro k d h
      cases k with
      | zero => simp at h; subst h; exact ⟨v, [], P1, P2, rfl, rfl, a, t⟩
      | succ k =>
        obtain ⟨w, A, Od, B, h1, e, y, z⟩ := ih t (by simpa using h)
        exact ⟨w, P1 ++ A, Od, B, by simpa using h1, by rw [e, List.append_assoc], y, by rw [List.append_assoc]; exact .cons a z⟩
def lPop : List D → List D → Option (List D × D)
  | ds, [] => match ds[ds.length - 1]? with
    | some d => some (ds.dropLast, d)
    | none => none
  | _, _ => none
theorem split_ends {ds' : List D} {xs' : List V} {d : D} {v : V} {O1 Oa A Od B : List Addr} {a : Addr} {Q : VK} (nd : (O1 ++ Oa).Nodup) (eo : O1 = A ++ (Od ++ B)) (y : Own κ F H v d Od) (z : OwnL κ F H xs' ds' (A ++ B))
    (k : ∀ xs' v O1' Od, OwnL κ F H xs' ds' O1' → Own κ F H v d Od → (O1' ++ Od).Nodup → (∀ x ∈ O1' ++ Od, x ∈ O1 ++ Oa) → Q v (upd H a (.lst xs'))) : Q v (upd H a (.lst xs')) := by
  refine k xs' v (A ++ B) Od z y (nodup_move (eo ▸ (List.nodup_append.mp nd).1)) fun x hx => List.mem_append_left _ ?_
  rw [eo]
  simp only [List.mem_append] at hx ⊢
  rcases hx with (h | h) | h <;> simp [h]
theorem lm_pop : ListM κ rPop lPop := by
  intro F H a xs ds O1 vs es Oa ds' d Q ha lx l sm nd e k
  unfold lPop at e
  split at e
  · cases l
    split at e
    · rename_i d0 hd
      cases e
      obtain ⟨v, A, Od, B, h1, eo, y, z⟩ := lx.split hd
      rw [← lx.length] at h1 z
      rw [List.eraseIdx_length_sub_one] at z
      rw [lx.length, List.eraseIdx_length_sub_one] at z
      exact ⟨a, xs, v, rfl, rfl, ha, h1, split_ends nd eo y z k⟩
    · cases e
  · cases e
def lPopAt : List D → List D → Option (List D × D)
  | ds, [.int i] => if -(2 ^ 63) ≤ i ∧ i < 2 ^ 63 then (match seqIndex? i ds.length with
    | some k => (match ds[k]? with
      | some d => some (ds.eraseIdx k, d)
      | none => none)
    | none => none) else none
  | _, _ => none
theorem lm_popAt : ListM κ rPopAt lPopAt := by
  intro F H a xs ds O1 vs es Oa ds' d Q ha lx l sm nd e k
  unfold lPopAt at e
  split at e
  · rename_i i
    obtain ⟨v0, P, rfl, p0⟩ := l.one
    split at e
    · rename_i hb
      cases q : seqIndex? i ds.length with
      | none => rw [q] at e; cases e
      | some j =>
        simp only [q] at e
        cases q2 : ds[j]? with
        | none => rw [q2] at e; cases e
        | some d0 =>
          simp only [q2] at e
          cases e
          obtain ⟨v, A, Od, B, h1, eo, y, z⟩ := lx.split q2
          rw [p0.int_inv]
          exact ⟨a, xs, i, j, v, rfl, rfl, ha, hb.1, hb.2, by rw [lx.length]; exact q, h1, split_ends nd eo y z k⟩
    · cases e
  · cases e
theorem OwnL.parts {vs : List V} {ds : List D} {O : List Addr} (x : OwnL κ F H vs ds O) : ∀ k : Nat, ∃ A B, O = A ++ B ∧ OwnL κ F H (vs.take k) (ds.take k) A ∧ OwnL κ F H (vs.drop k) (ds.drop k) B := by
  induction ds generalizing vs O with
  | nil => cases x; exact fun k => ⟨[], [], rfl, by simpa using OwnL.nil, by simpa using OwnL.nil⟩
  | cons d0 ds ih =>
    cases x with
    | @cons v _ vs' _ P1 P2 a t =>
      intro k
      cases k with
      | zero => exact ⟨[], P1 ++ P2, rfl, .nil, .cons a t⟩
      | succ k =>
        obtain ⟨A, B, e, y, z⟩ := ih t k
        exact ⟨P1 ++ A, B, by rw [e, List.append_assoc], .cons a y, z⟩
theorem OwnL.join {vs ws : List V} {ds es : List D} {O P : List Addr} (x : OwnL κ F H vs ds O) (y : OwnL κ F H ws es P) : OwnL κ F H (vs ++ ws) (ds ++ es) (O ++ P) := by
  induction ds generalizing vs O with
  | nil => cases x; exact y
  | cons d0 ds ih =>
    cases x with
    | cons a t => rw [List.append_assoc]; exact .cons a (ih t)
def rInsert : V → List V → Hp → VK → Prop := fun x vs H Q => ∃ (l : Addr) (xs : List V) (i : Int) (y : V), x = .ref l ∧ vs = [.int i, y] ∧ H l = some (.lst xs) ∧ xs.length < sizeLine ∧ 0 ≤ i ∧ i < 2 ^ 63 ∧ Q .non (upd H l (.lst (xs.take i.toNat ++ [y] ++ xs.drop i.toNat)))
def lInsert : List D → List D → Option (List D × D)
  | ds, [.int i, d] => if ds.length < sizeLine ∧ 0 ≤ i ∧ i < 2 ^ 63 then some (ds.take i.toNat ++ [d] ++ ds.drop i.toNat, .non) else none
  | _, _ => none
theorem lm_insert : ListM κ rInsert lInsert := by
  intro F H a xs ds O1 vs es Oa ds' d Q ha lx l sm nd e k
  unfold lInsert at e
  split at e
  · split at e
    · rename_i i d0 hz
      cases e
      cases l with
      | @cons v _ _ _ P1 P2 h t =>
        cases t with
        | @cons w _ _ _ P3 P4 h2 t2 =>
          cases t2
          have e1 := h.int_inv
          subst e1
          cases h
          obtain ⟨A, B, eo, y, z⟩ := lx.parts i.toNat
          have nl := (y.snoc h2).join z
          refine ⟨a, xs, i, w, rfl, rfl, ha, by rw [lx.length]; exact hz.1, hz.2.1, hz.2.2, k _ .non ((A ++ P3) ++ B) [] nl .non ?_ (fun x hx => ?_)⟩
          · rw [List.append_nil, List.append_assoc]
            subst eo
            rw [List.append_assoc] at nd
            refine (List.Perm.nodup_iff (List.Perm.append_left A List.perm_append_comm)).mp ?_
            simpa using nd
          · subst eo
            simp only [List.mem_append, List.append_nil, List.nil_append] at hx ⊢
            rcases hx with (h | h) | h <;> simp [h]
    · cases e
  · cases e
def lExtend : List D → List D → Option (List D × D)
  | ds, [.lst _ es] => if shrdL es = true ∧ ds.length + es.length ≤ sizeLine then some (ds ++ es, .non) else none
  | _, _ => none
theorem lm_extend : ListM κ rExtend lExtend := by
  intro F H a xs ds O1 vs es Oa ds' d Q ha lx l sm nd e k
  unfold lExtend at e
  split at e
  · split at e
    · rename_i o es hz
      cases e
      obtain ⟨v0, P, rfl, p0⟩ := l.one
      obtain ⟨b, ws, _, rfl, hb, lw⟩ := p0.lst_inv sm
      have lw' := lw.free hz.1
      exact ⟨a, b, xs, ws, rfl, rfl, ha, hb, by rw [lx.length, lw.length]; exact hz.2, k _ .non (O1 ++ []) [] (lx.join lw') .non (by simpa using (List.nodup_append.mp nd).1) fun x hx => by simp at hx; simp [hx]⟩
    · cases e
  · cases e
end VS
set_option Elab.async false
set_option linter.all false
set_option maxRecDepth 100000
set_option maxHeartbeats 1000000
namespace VS
open PySem L2
variable {κ : Kc} {W : WX} {pi : List Nat} {F F' F1 F2 H H' H1 H2 : Hp} {X : Cx}

/-! ### built-ins -/
def oAbs : List D → Option D
  | [.int i] => some (.int (if i < 0 then -i else i))
  | _ => none
theorem ok_abs : OpOk κ (fun xs H Q => ∃ i, xs = [.int i] ∧ Q (.int (if i < 0 then -i else i)) H) oAbs := by
  intro F H vs ds Os Q d sm x e k
  unfold oAbs at e
  split at e
  · obtain ⟨v, O1, rfl, p⟩ := x.one
    cases e
    rw [p.int_inv]
    exact ⟨_, rfl, same_self k (.int _)⟩
  · cases e
def oToInt : List D → Option D
  | [.int i] => some (.int i)
  | [.bl b] => some (.int (if b then 1 else 0))
  | _ => none
theorem ok_toInt : OpOk κ (fun xs H Q => (∃ i, xs = [.int i] ∧ Q (.int i) H) ∨ ∃ k, xs = [.bl k] ∧ Q (.int (if k then 1 else 0)) H) oToInt := by
  intro F H vs ds Os Q d sm x e k
  unfold oToInt at e
  split at e
  · obtain ⟨v, O1, rfl, p⟩ := x.one
    cases e
    rw [p.int_inv]
    exact .inl ⟨_, rfl, same_self k (.int _)⟩
  · obtain ⟨v, O1, rfl, p⟩ := x.one
    cases e
    rw [p.bl_inv]
    exact .inr ⟨_, rfl, same_self k (.int _)⟩
  · cases e
/-- list(x): a new list of the items -/
def oList : List D → Option D
  | [.lst _ ds] => if shrdL ds = true then some (.lst true ds) else none
  | [.fro ds] => if shrdL ds = true then some (.lst true ds) else none
  | [.tup ds] => if shrdL ds = true then some (.lst true ds) else none
  | _ => none
theorem ok_list : OpOk κ (fun xs H Q => ∃ p ys, xs = [.ref p] ∧ (SqL κ.K H p ys ∨ SqT κ.K H p ys) ∧ ∀ l, H l = none → Q (.ref l) (upd H l (.lst ys))) oList := by
  intro F H vs ds Os Q d sm x e k
  unfold oList at e
  split at e
  · obtain ⟨v, O1, rfl, p⟩ := x.one
    split at e
    · rename_i h
      cases e
      obtain ⟨a, xs, _, rfl, ha, l⟩ := p.lst_inv sm
      exact ⟨a, xs, rfl, .inl (SqL.of ha), fun q hq => new_lst k hq (l.free h)⟩
    · cases e
  · obtain ⟨v, O1, rfl, p⟩ := x.one
    split at e
    · rename_i h
      cases e
      obtain ⟨a, xs, rfl, ha, l⟩ := p.fro_inv sm
      exact ⟨a, xs, rfl, .inl ha, fun q hq => new_lst k hq l⟩
    · cases e
  · obtain ⟨v, O1, rfl, p⟩ := x.one
    split at e
    · rename_i h
      cases e
      obtain ⟨a, xs, rfl, ha, l⟩ := p.tup_inv
      exact ⟨a, xs, rfl, .inr (SqT.of ha), fun q hq => new_lst k hq (l.free h)⟩
    · cases e
  · cases e
/-- tuple(x): a new tuple of a list's items, or the tuple itself -/
def oTuple : List D → Option D
  | [.lst _ ds] => if shrdL ds = true then some (.tup ds) else none
  | [.fro ds] => if shrdL ds = true then some (.tup ds) else none
  | [.tup ds] => if shrdL ds = true then some (.tup ds) else none
  | _ => none
theorem ok_tuple : OpOk κ (fun xs H Q => ∃ p ys, xs = [.ref p] ∧ ((SqL κ.K H p ys ∧ ∀ l, H l = none → Q (.ref l) (upd H l (.tup ys))) ∨ (SqT κ.K H p ys ∧ Q (.ref p) H))) oTuple := by
  intro F H vs ds Os Q d sm x e k
  unfold oTuple at e
  split at e
  · obtain ⟨v, O1, rfl, p⟩ := x.one
    split at e
    · rename_i h
      cases e
      obtain ⟨a, xs, _, rfl, ha, l⟩ := p.lst_inv sm
      exact ⟨a, xs, rfl, .inl ⟨SqL.of ha, fun q hq => new_tup k hq (l.free h)⟩⟩
    · cases e
  · obtain ⟨v, O1, rfl, p⟩ := x.one
    split at e
    · rename_i h
      cases e
      obtain ⟨a, xs, rfl, ha, l⟩ := p.fro_inv sm
      exact ⟨a, xs, rfl, .inl ⟨ha, fun q hq => new_tup k hq l⟩⟩
    · cases e
  · obtain ⟨v, O1, rfl, p⟩ := x.one
    split at e
    · rename_i h
      cases e
      obtain ⟨a, xs, rfl, ha, l⟩ := p.tup_inv
      exact ⟨a, xs, rfl, .inr ⟨SqT.of ha, same_self k (.tup ha (l.free h))⟩⟩
    · cases e
  · cases e
/-- lists of ints, of bools -/
def intsOf : List D → Option (List Int)
  | [] => some []
  | .int i :: ds => match intsOf ds with
    | some is => some (i :: is)
    | none => none
  | _ => none
def bsOf : List D → Option (List Bool)
  | [] => some []
  | .bl i :: ds => match bsOf ds with
    | some is => some (i :: is)
    | none => none
  | _ => none
theorem OwnL.ints {vs : List V} {ds : List D} {O : List Addr} (x : OwnL κ F H vs ds O) : ∀ {is : List Int}, intsOf ds = some is → vs = is.map V.int := by
  induction ds generalizing vs O with
  | nil => intro is e; cases x; cases e; rfl
  | cons d ds ih =>
    cases x with
    | cons h t =>
      intro is e
      unfold intsOf at e
      split at e
      · rename_i heq; cases heq
      · rename_i i ds' heq
        cases heq
        cases q : intsOf ds with
        | none => rw [q] at e; cases e
        | some js => rw [q] at e; cases e; rw [h.int_inv, ih t q]; rfl
      · cases e
theorem OwnL.bs {vs : List V} {ds : List D} {O : List Addr} (x : OwnL κ F H vs ds O) : ∀ {is : List Bool}, bsOf ds = some is → vs = is.map V.bl := by
  induction ds generalizing vs O with
  | nil => intro is e; cases x; cases e; rfl
  | cons d ds ih =>
    cases x with
    | cons h t =>
      intro is e
      unfold bsOf at e
      split at e
      · rename_i heq; cases heq
      · rename_i i ds' heq
        cases heq
        cases q : bsOf ds with
        | none => rw [q] at e; cases e
        | some js => rw [q] at e; cases e; rw [h.bl_inv, ih t q]; rfl
      · cases e
def oSum : List D → Option D
  | [.lst _ ds] => (intsOf ds).map fun is => .int is.sum
  | _ => none
theorem ok_sum : OpOk κ (rSum κ.K) oSum := by
  intro F H vs ds Os Q d sm x e k
  unfold oSum at e
  split at e
  · obtain ⟨v, O1, rfl, p⟩ := x.one
    obtain ⟨is, e1, rfl⟩ := Option.map_eq_some_iff.mp e
    obtain ⟨a, xs, _, rfl, ha, l⟩ := p.lst_inv sm
    rw [l.ints e1] at ha
    exact ⟨a, is, rfl, SqL.of ha, same_self k (.int _)⟩
  · cases e
def oAll : List D → Option D
  | [.lst _ ds] => (bsOf ds).map fun is => .bl (is.all id)
  | _ => none
theorem ok_all : OpOk κ (rAll κ.K) oAll := by
  intro F H vs ds Os Q d sm x e k
  unfold oAll at e
  split at e
  · obtain ⟨v, O1, rfl, p⟩ := x.one
    obtain ⟨is, e1, rfl⟩ := Option.map_eq_some_iff.mp e
    obtain ⟨a, xs, _, rfl, ha, l⟩ := p.lst_inv sm
    rw [l.bs e1] at ha
    exact ⟨a, is, rfl, SqL.of ha, same_self k (.bl _)⟩
  · cases e
def oAny : List D → Option D
  | [.lst _ ds] => (bsOf ds).map fun is => .bl (is.any id)
  | _ => none
theorem ok_any : OpOk κ (rAny κ.K) oAny := by
  intro F H vs ds Os Q d sm x e k
  unfold oAny at e
  split at e
  · obtain ⟨v, O1, rfl, p⟩ := x.one
    obtain ⟨is, e1, rfl⟩ := Option.map_eq_some_iff.mp e
    obtain ⟨a, xs, _, rfl, ha, l⟩ := p.lst_inv sm
    rw [l.bs e1] at ha
    exact ⟨a, is, rfl, SqL.of ha, same_self k (.bl _)⟩
  · cases e
section
variable {p pos : Pos} {e : Expr} {f : M Hd}
theorem se_abs (hg : Gl X ("abs" : Str)) (hm : X.mg ("abs" : Str) = none) (ha : SH κ X W e f) (hs : starEach [e] X.env = (false, eval e X.env) :: starEach [] X.env := by rfl) : SE κ X W (.Call (.Name ("abs" : Str) p) [e] [] pos) (mOp oAbs (m1 f)) :=
  se_callB (x := "abs") (id := "abs") call_abs ok_abs hg hm (by decide +kernel) (sa_cons ha sa_nil hs) (he := hs) (hpl := rfl)
theorem se_toInt (hg : Gl X ("int" : Str)) (hm : X.mg ("int" : Str) = none) (ha : SH κ X W e f) (hs : starEach [e] X.env = (false, eval e X.env) :: starEach [] X.env := by rfl) : SE κ X W (.Call (.Name ("int" : Str) p) [e] [] pos) (mOp oToInt (m1 f)) :=
  se_callTy (x := "int") (T := "int") call_int1 ok_toInt hg hm (by decide +kernel) (sa_cons ha sa_nil hs) (he := hs) (hpl := rfl)
theorem se_list (hg : Gl X ("list" : Str)) (hm : X.mg ("list" : Str) = none) (ha : SH κ X W e f) (hk : X.K = κ.K := by rfl) (hs : starEach [e] X.env = (false, eval e X.env) :: starEach [] X.env := by rfl) : SE κ X W (.Call (.Name ("list" : Str) p) [e] [] pos) (mOp oList (m1 f)) :=
  se_callTy (x := "list") (T := "list") (by rw [← hk]; exact call_list_of) ok_list hg hm (by decide +kernel) (sa_cons ha sa_nil hs) (he := hs) (hpl := rfl)
theorem se_tuple (hg : Gl X ("tuple" : Str)) (hm : X.mg ("tuple" : Str) = none) (ha : SH κ X W e f) (hk : X.K = κ.K := by rfl) (hs : starEach [e] X.env = (false, eval e X.env) :: starEach [] X.env := by rfl) : SE κ X W (.Call (.Name ("tuple" : Str) p) [e] [] pos) (mOp oTuple (m1 f)) :=
  se_callTy (x := "tuple") (T := "tuple") (by rw [← hk]; exact call_tuple_of) ok_tuple hg hm (by decide +kernel) (sa_cons ha sa_nil hs) (he := hs) (hpl := rfl)
theorem se_sum (hg : Gl X ("sum" : Str)) (hm : X.mg ("sum" : Str) = none) (hc : X.calm = true) (ha : SH κ X W e f) (hk : X.K = κ.K := by rfl) (hs : starEach [e] X.env = (false, eval e X.env) :: starEach [] X.env := by rfl) : SE κ X W (.Call (.Name ("sum" : Str) p) [e] [] pos) (mOp oSum (m1 f)) :=
  se_callB (x := "sum") (id := "sum") (by rw [← hk]; exact cr_sum hc) ok_sum hg hm (by decide +kernel) (sa_cons ha sa_nil hs) (he := hs) (hpl := rfl)
theorem se_all (hg : Gl X ("all" : Str)) (hm : X.mg ("all" : Str) = none) (hc : X.calm = true) (ha : SH κ X W e f) (hk : X.K = κ.K := by rfl) (hs : starEach [e] X.env = (false, eval e X.env) :: starEach [] X.env := by rfl) : SE κ X W (.Call (.Name ("all" : Str) p) [e] [] pos) (mOp oAll (m1 f)) :=
  se_callB (x := "all") (id := "all") (by rw [← hk]; exact cr_all hc) ok_all hg hm (by decide +kernel) (sa_cons ha sa_nil hs) (he := hs) (hpl := rfl)
theorem se_any (hg : Gl X ("any" : Str)) (hm : X.mg ("any" : Str) = none) (hc : X.calm = true) (ha : SH κ X W e f) (hk : X.K = κ.K := by rfl) (hs : starEach [e] X.env = (false, eval e X.env) :: starEach [] X.env := by rfl) : SE κ X W (.Call (.Name ("any" : Str) p) [e] [] pos) (mOp oAny (m1 f)) :=
  se_callB (x := "any") (id := "any") (by rw [← hk]; exact cr_any hc) ok_any hg hm (by decide +kernel) (sa_cons ha sa_nil hs) (he := hs) (hpl := rfl)
end

/-! ### slices -/
def rO : Rel (Option Int) (Option Int) := fun _ _ _ b a O => b = a ∧ O = []
structure SO (κ : Kc) (X : Cx) (W : WX) (e : Option Expr) (f : M (Option Int)) : Prop where
  po : PO X e (tX κ W rO f)
theorem po_mono {X : Cx} {e : Option Expr} {t t' : TO} (h : PO X e t) (i : ∀ σ H Q, t' σ H Q → t σ H Q) : PO X e t' := ⟨fun pins s σ H Q I q => h.run pins s σ H Q I (i _ _ _ q)⟩
theorem so_none : SO κ X W none (M.ret none) := ⟨po_mono po_none fun _ _ _ q => tX_ret (fun _ => ⟨rfl, rfl⟩) q⟩
def mPart (f : M Hd) : M (Option Int) := M.bind f fun h env => match h.get env with
  | some (.int i) => .ok (some i) env
  | _ => .stk
theorem so_some {e : Expr} {f : M Hd} (h : SH κ X W e f) : SO κ X W (some e) (mPart f) := ⟨po_mono (po_some h.pe) fun σ H Q q => tX_imp (tX_part (rel := rH κ) q) fun b H1 ⟨a, F1, env1, O1, Ob, S1, r, nd, n, fin⟩ => by
  split at fin
  · rename_i i q1
    obtain ⟨Od, y⟩ := OwnH.look S1 r q1
    exact ⟨i, y.int_inv, fin F1 H1 _ O1 [] (Post.refl.less (fun _ h => h) fun a h => List.mem_append_left _ (by simpa using h)) S1 ⟨rfl, rfl⟩ (by rw [List.append_nil]; exact S1.nd) fun x hx => nomatch hx⟩
  · exact fin.elim⟩
def cutL {α : Type} (xs : List α) (lo hi : Option Int) : List α := (xs.drop (HT.sIx xs.length 0 lo)).take (HT.sIx xs.length xs.length hi - HT.sIx xs.length 0 lo)
def dSl : D → Option Int → Option Int → Option D
  | .lst _ ds, lo, hi => if shrdL ds = true then some (.lst true (cutL ds lo hi)) else none
  | .tup ds, lo, hi => if shrdL ds = true then some (.tup (cutL ds lo hi)) else none
  | .str z, lo, hi => if z.length ≤ sizeLine then some (.str (cutS z lo hi)) else none
  | _, _, _ => none
def mSl (f : M Hd) (g h : M (Option Int)) : M D := M.bind f fun x => M.bind g fun lo => M.bind h fun hi env => match x.get env with
  | some d => (match dSl d lo hi with
    | some r => .ok r env
    | none => .stk)
  | none => .stk
def rSlU (K : PySem.W.Frag) : V → Option Int → Option Int → Hp → VK → Prop := fun x lo hi H Q => rSlL K x lo hi H Q ∨ (rSlA K x lo hi H Q ∨ rSlS x lo hi H Q)
theorem OwnL.cut {vs : List V} {ds : List D} (x : OwnL κ F H vs ds []) (lo hi : Option Int) : OwnL κ F H (cutV vs lo hi) (cutL ds lo hi) [] := by
  unfold cutV cutL
  rw [x.length]
  obtain ⟨A, B, e, _, y⟩ := x.parts (HT.sIx ds.length 0 lo)
  obtain ⟨rfl, rfl⟩ := List.append_eq_nil_iff.mp e.symm
  obtain ⟨A, B, e, z, _⟩ := y.parts (HT.sIx ds.length ds.length hi - HT.sIx ds.length 0 lo)
  obtain ⟨rfl, rfl⟩ := List.append_eq_nil_iff.mp e.symm
  exact z
theorem cut_whole {α : Type} {xs : List α} {lo hi : Option Int} (h : HT.sIx xs.length 0 lo = 0 ∧ HT.sIx xs.length xs.length hi = xs.length) : cutL xs lo hi = xs := by
  unfold cutL
  rw [h.1, h.2, List.drop_zero, Nat.sub_zero, List.take_length]
theorem slU_of {v : V} {d r : D} {O : List Addr} {lo hi : Option Int} {Q : VK} (sm : Same F H) (y : Own κ F H v d O) (e : dSl d lo hi = some r) (k : ∀ H' v Od, Same H H' → Own κ F H' v r Od → Od.Nodup → (∀ a ∈ Od, H a = none) → Q v H') : rSlU κ.K v lo hi H Q := by
  unfold dSl at e
  split at e
  · split at e
    · rename_i h
      cases e
      obtain ⟨a, xs, _, rfl, ha, l⟩ := y.lst_inv sm
      exact .inl ⟨a, xs, rfl, SqL.of ha, fun p hp => new_lst k hp ((l.free h).cut lo hi)⟩
    · cases e
  · split at e
    · rename_i h
      cases e
      obtain ⟨a, xs, rfl, ha, l⟩ := y.tup_inv
      have l' := l.free h
      refine .inr (.inl ⟨a, xs, rfl, SqT.of ha, fun hw => ?_, fun _ p hp => new_tup k hp (l'.cut lo hi)⟩)
      rw [l.length] at hw
      exact same_self k (.tup ha (by rw [cut_whole hw]; exact l'))
    · cases e
  · split at e
    · rename_i h
      cases e
      rw [y.str_inv]
      exact .inr (.inr ⟨_, rfl, h, same_self k (.str _)⟩)
    · cases e
  · cases e
theorem se_sl {e : Expr} {lo hi : Option Expr} {p2 pos : Pos} {f : M Hd} {g h : M (Option Int)} (he : SH κ X W e f) (hl : SO κ X W lo g) (hu : SO κ X W hi h) (hk : X.K = κ.K := by rfl) : SE κ X W (.Subscript e (.Slice lo hi none p2) pos) (mSl f g h) :=
  ⟨pe_mono (pe_slice (r := rSlU κ.K) (by rw [← hk]; exact sl_list.or (sl_tupA.or sl_str)) he.pe hl.po hu.po) fun σ H Q q => by
    refine tX_imp (tX_part (rel := rH κ) q) fun x H1 ⟨a, F1, env1, O1, Ob, S1, r, nd, n, fin⟩ => ?_
    have q1 := Fin.part (rel := rO) (PD := fun F H O => OwnH κ σ F H x a O) (fun _ _ _ _ _ x f k h => x.frame f k h) S1 r nd n r.mut fin
    refine ⟨F1, env1, O1, S1, ?_⟩
    revert q1
    cases g env1 with
    | stk => exact fun z => z
    | exc c fs e2 => exact fun z => z
    | ok lo0 e2 =>
      intro z F' H' b O' Obs P S' r nd n
      obtain ⟨lo1, F2, env2, O2, Ob2, S2, x2, ⟨rfl, rfl⟩, nd2, n2, mu2, fin2⟩ := z F' H' b O' Obs P S' r nd n
      rw [List.append_nil] at nd2 fin2 n2
      have q2 := Fin.part (rel := rO) (PD := fun F H O => OwnH κ σ F H x a O) (fun _ _ _ _ _ x f k h => x.frame f k h) S2 x2 nd2 n2 mu2 fin2
      refine ⟨F2, env2, O2, S2, ?_⟩
      revert q2
      cases h env2 with
      | stk => exact fun z => z
      | exc c fs e2 => exact fun z => z
      | ok hi0 e3 =>
        intro z F' H' c O' Obs P S' r nd n
        obtain ⟨hi1, F3, env3, O3, Ob3, S3, x3, ⟨rfl, rfl⟩, nd3, n3, mu3, fin3⟩ := z F' H' c O' Obs P S' r nd n
        rw [List.append_nil] at nd3 fin3 n3
        cases q3 : a.get env3 with
        | none => simp only [q3] at fin3; exact fin3.elim
        | some d =>
          simp only [q3] at fin3
          cases q4 : dSl d b c with
          | none => simp only [q4] at fin3; exact fin3.elim
          | some rr =>
            simp only [q4] at fin3
            obtain ⟨Od, y⟩ := OwnH.look S3 x3 q3
            refine slU_of S3.sub y q4 fun H4 v Od' sm y' nd' nw => ?_
            have dj : ∀ a ∈ Od', a ∉ O3 := fun a ha ho => by
              have := S3.own.mut a ho
              rw [nw a ha] at this; exact this.elim
            exact fin3 F3 H4 v O3 Od' ⟨Same.refl F3, fun a o e _ => sm a o e, fun a ha => (List.mem_append.mp ha).elim (fun h => .inl (List.mem_append_left _ h)) fun h => .inr (nw a h), fun a o e => .inl ⟨o, e⟩, Keeps.same sm⟩ (S3.grow sm) y'
              (List.nodup_append.mpr ⟨S3.nd, nd', fun a ha b hb e => dj b hb (e ▸ ha)⟩) fun a ha => S3.sub.free (nw a ha)⟩

/-! ### x op= e; a[i] = e -/
def mAug (i : Nat) (op : List D → Option D) (f : M Hd) : M Fl := fun env0 => match (env0[i]?).join with
  | some (.int a) => M.bind f (fun h env => match h.get env with
    | some d => (match op [.int a, d] with
      | some r => .ok .nx (env.set i (some r))
      | none => .stk)
    | none => .stk) env0
  | _ => .stk
theorem ss_aug {i : Nat} {x : Str} {e : Expr} {op : Operator} {pos pos' : Pos} {f : M Hd} {g : Int → Int → Int} {o : List D → Option D} (ho : PIp X op (ipI g)) (ok : ∀ a d r, o [.int a, d] = some r → ∃ b, d = .int b ∧ r = .int (g a b)) (he : SH κ X W e f) (hf : pi.contains i = false) (hN : X.N.Nodup) (hi : X.N[i]? = some x) (hx : Loc X.env.scope x)
    (hl : X.fn x = true ∨ X.env.scope.names.lookup x = some .local := by first | exact .inl rfl | exact .inr rfl | assumption) : SS κ X W pi (.AugAssign (.Name x pos') op e pos) (mAug i o f) :=
  ⟨ps_mono (ps_aug hN hi hx he.pe ho hl) fun Dn σ H ⟨F, env, O, S, fin⟩ => by
    unfold mAug at fin
    split at fin
    · rename_i a q
      obtain ⟨v, A, Oi, B, Z⟩ := S.slot (join_some q)
      have ev := Z.own.int_inv
      refine ⟨v, Z.hv, ?_⟩
      refine tX_imp (tS_part (rel := rH κ) ⟨F, env, O, S, fin⟩) fun b H1 ⟨h, F1, env1, O1, Ob, S1, r, nd, n, fin1⟩ => ?_
      cases q1 : h.get env1 with
      | none => simp only [q1] at fin1; exact fin1.elim
      | some d =>
        simp only [q1] at fin1
        cases q2 : o [.int a, d] with
        | none => simp only [q2] at fin1; exact fin1.elim
        | some rr =>
          simp only [q2] at fin1
          obtain ⟨j, rfl, rfl⟩ := ok a d rr q2
          obtain ⟨Od, y⟩ := OwnH.look S1 r q1
          refine ⟨a, j, ev, y.int_inv, ?_⟩
          obtain ⟨O', S', m⟩ := S1.put (i := i) (v := .int (g a j)) (d := .int (g a j)) (Od := []) (.int _) (by rw [List.append_nil]; exact S1.nd) (fun x hx => nomatch hx) (S1.own.length_lt Z.hv)
          refine fin1 F1 H1 _ O' (Post.refl.less (fun _ h => h) fun x hx => List.mem_append_left _ (by simpa using m x hx)) S' fun k hk => ?_
          refine List.getElem?_set_ne fun q => ?_
          subst q
          rw [List.contains_iff_mem.mpr hk] at hf
          cases hf
    · exact fin.elim⟩
theorem ss_augAdd {i : Nat} {x : Str} {e : Expr} {pos pos' : Pos} {f : M Hd} (he : SH κ X W e f) (hf : pi.contains i = false) (hN : X.N.Nodup) (hi : X.N[i]? = some x) (hx : Loc X.env.scope x)
    (hl : X.fn x = true ∨ X.env.scope.names.lookup x = some .local := by first | exact .inl rfl | exact .inr rfl | assumption) : SS κ X W pi (.AugAssign (.Name x pos') .Add e pos) (mAug i oAdd f) :=
  ss_aug ip_add (fun a d r e => by
    unfold oAdd at e
    split at e
    · rename_i i j heq; cases heq; cases e; exact ⟨j, rfl, rfl⟩
    · rename_i heq; cases heq
    · rename_i heq; cases heq
    · rename_i heq; cases heq
    · cases e) he hf hN hi hx hl
theorem ss_augSub {i : Nat} {x : Str} {e : Expr} {pos pos' : Pos} {f : M Hd} (he : SH κ X W e f) (hf : pi.contains i = false) (hN : X.N.Nodup) (hi : X.N[i]? = some x) (hx : Loc X.env.scope x)
    (hl : X.fn x = true ∨ X.env.scope.names.lookup x = some .local := by first | exact .inl rfl | exact .inr rfl | assumption) : SS κ X W pi (.AugAssign (.Name x pos') .Sub e pos) (mAug i oSub f) :=
  ss_aug ip_sub (fun a d r e => by
    unfold oSub oInt2 at e
    split at e
    · rename_i i j heq; cases heq; cases e; exact ⟨j, rfl, rfl⟩
    · cases e) he hf hN hi hx hl
end VS
set_option Elab.async false
set_option linter.all false
set_option maxRecDepth 100000
set_option maxHeartbeats 1000000
/-! VX.1: an exception class whose __init__ says super().__init__(text), then self.f = x. -/
namespace VS
open PySem PySem.Spec PySem.Calls PyProof.Rows L2 PySem.W

structure SupP where
  (sn x f msg : Str) (j : Nat) (p0 p1 p2 p3 p4 p5 p6 p7 p8 p9 : Pos)
def SupP.call (P : SupP) : Expr := .Call (.Attribute (.Call (.Name "super" P.p0) [] [] P.p1) "__init__" P.p2) [.Constant (.str P.msg) P.j P.p3] [] P.p4
def SupP.store (P : SupP) : Stmt := .Assign [.Attribute (.Name P.sn P.p6) P.f P.p7] (.Name P.x P.p8) P.p9
/-- the two statements -/
def SupP.body (P : SupP) : List Stmt := [.Expr P.call P.p5, P.store]
/-- what the written part says of it -/
structure SupK (prog : Program) (K : Frag) (C fI : Addr) (P : SupP) (fd : FuncData) (cda : Addr) (cc : Addr) : Prop where
  fn : ∃ oc od osl, K.lookup fI = some ⟨oc, od, .func fd, osl⟩
  body : fd.body = .stmts P.body
  ev : ∀ L, ∃ pl, eval P.call (callEnv fd L fI) = (do
      let ov ← attributeBase (.Call (.Name "super" P.p0) [] [] P.p1) "__init__" (callEnv fd L fI) (eval (.Call (.Name "super" P.p0) [] [] P.p1) (callEnv fd L fI))
      standAt P.p2.atName
      let (f, first) ← holding [ov] (getMethod ov "__init__" pl)
      callWith P.p4 f first (backTo P.p4 (starEach [.Constant (.str P.msg) P.j P.p3] (callEnv fd L fI))) [])
  st : ∀ L, starEach [.Constant (.str P.msg) P.j P.p3] (callEnv fd L fI) = (false, eval (.Constant (.str P.msg) P.j P.p3) (callEnv fd L fI)) :: starEach [] (callEnv fd L fI)
  ia : ∀ L, interactive (callEnv fd L fI) = false
  sw1 : ∀ L, swapsWith P.call none P.p5.line (callEnv fd L fI) = pure false
  sw2 : ∀ L, swapsWith (.Name P.x P.p8) (some (.Attribute (.Name P.sn P.p6) P.f P.p7)) P.p9.line (callEnv fd L fI) = pure false
  code : fd.code = .ref cda
  codeR : codeIn K (.ref cda) fd.qualname = true
  clo : fd.closure = [(("__class__" : Str), cc)]
  glob : fd.globals = mainGlobals
  blt : fd.builtins = builtinsNs
  frst : ∃ ar, (fd.params.posonlyargs ++ fd.params.args).head? = some ar ∧ ar.arg = P.sn
  binds : ∀ us : List Value, us.length = 2 → bindArgs fd ⟨us, []⟩ = pure ([P.sn, P.x].zip us)
  ne : P.sn ≠ P.x
  file : ∃ ccl cdd vs ccs file tf, K.lookup cda = some ⟨ccl, cdd, .fields vs, ccs⟩ ∧ vs[2]? = some (.str file tf) ∧ ((prog.main.file : Str) == file) = true
  cell : ∃ cl cld csl, K.lookup cc = some ⟨cl, cld, .cell (some (.ref C)), csl⟩
  cls : ∃ cd, clsIn K C = some cd ∧ HandSPX.refsVE cd.mro = true ∧ cd.hasDict = true
  up : ks_superIn K C C "__init__" = some (some (.builtin "ValueError.__init__"))
  selfC : mroIn K C (.ref C) = some true
  sup : nsIn K mainGlobals "super" = some none
  ks : fd.scope.names.lookup ("super" : Str) = some .globalImplicit
  kc : fd.scope.names.lookup ("__class__" : Str) = some .free
  kn : fd.scope.names.lookup P.sn = some .local
  kx : fd.scope.names.lookup P.x = some .local
  kind : fd.scope.kind = .function
  co : fd.scope.isCoroutine = false
  gen : fd.scope.isGenerator = false
  cells : ∀ y ∈ fd.scope.names, y.2 ≠ .cell
  top : (prog.main.scope.names.lookup ("super" : Str)).isSome = false
  dbg : (P.sn == ("__debug__" : Str)) = false ∧ (P.x == ("__debug__" : Str)) = false
  any : nsIn K cStatics "thirdparty.any" = some none
  ve : subIn K (.ref C) (.type "ValueError") = some true
  init : excInitIn K C HandSPX.veTail "ValueError.__new__" = true
  nof : findIn K (.ref C) P.f = some none
  sa : findIn K (.ref C) "__setattr__" = some (some (.builtin "object.__setattr__"))

section
variable {prog : Program} {w : World} {A : Around} {hp : Heap} {g : Array GenState} {d : Drawn} {t : Nat} {os : OsState} {K : Frag} {C fI cda cc : Addr} {P : SupP} {fd : FuncData} {mg mb : Str → Option Value} {us : List Value} {u : Value} {R : Result → Shared → Prop}
theorem sup_run (S : SupK prog K C fI P fd cda cc) (X : K.In hp) (hg : hp.Ns mainGlobals mg) (hmg : mg "super" = none) (hb : hp.Ns builtinsNs mb) (hmb : mb "super" = bootBuiltins "super") (hlim : hp.NoLimit) (hroom : A.depth < recursionLimit)
    (hR : ∀ h' t' t1 dx, (∀ b o, hp.get? b = some o → h'.get? b = some o) → hp.objs.size ≤ dx → dx ≠ hp.objs.size + 1 → h'.get? (hp.objs.size + 1) = some ({ cls := .ref C, dict := some dx, data := .fields #[.ref t1, .none, .none, .none, .bool false, .none] } : Obj) →
      h'.Ns1 dx (fun y => if y = P.f then some u else none) → R (.ok (.ret .none)) ⟨h', g, d, t', os⟩) :
    codeAny (model prog w) A (.call (.ref fI) ⟨[.ref (hp.objs.size + 1), u], []⟩) R ⟨(hp.push (kdv_tup us)).push (HandSPX.excO C hp.objs.size), g, d, t, os⟩ := by
  obtain ⟨oc, od, osl, hfn⟩ := S.fn
  obtain ⟨ar, har, hsn⟩ := S.frst
  obtain ⟨ccl, cdd, vs, ccs, file, tf, hcda, hvs, hfile⟩ := S.file
  obtain ⟨cl, cld, csl, hcell⟩ := S.cell
  obtain ⟨cd, hcd, hmro, hdict⟩ := S.cls
  have kp : ∀ b o, hp.get? b = some o → ((hp.push (kdv_tup us)).push (HandSPX.excO C hp.objs.size)).get? b = some o := fun b o e => Heap.get?_push_of_some _ (Heap.get?_push_of_some _ e)
  have hget : ((hp.push (kdv_tup us)).push (HandSPX.excO C hp.objs.size)).get? (hp.objs.size + 1) = some (HandSPX.excO C hp.objs.size) := by heap_get
  have X2 := X.keeps kp
  refine ks_codeAny_call_defAt (fd := fd) (body := _) (binds := [P.sn, P.x].zip [.ref (hp.objs.size + 1), u]) hroom (X2 _ _ hfn) rfl (hlim.keeps kp) ?_ S.body (.of_eq (S.binds _ rfl)) S.cells ?_ (fun h₁ hns hk₁ => ?_) S.co S.gen S.kind
  · rw [S.code]; exact codeRec_of X2 S.codeR
  · intro y hy
    simp at hy
    rcases hy with rfl | rfl
    · exact S.kn
    · exact S.kx
  generalize hL : ((hp.push (kdv_tup us)).push (HandSPX.excO C hp.objs.size)).objs.size = L at hns ⊢
  have hLe : hp.objs.size ≤ L := by rw [← hL]; exact Nat.le_trans (Nat.le_succ _) (Nat.le_of_lt (Heap.lt_size hget))
  have k1 : ∀ b o, hp.get? b = some o → h₁.get? b = some o := fun b o e => hk₁ b o (kp b o e)
  have ge := hk₁ _ _ hget
  have eL : hp.objs.size + 1 ≠ L := by
    have := Heap.lt_size hget
    rw [hL] at this
    exact Nat.ne_of_lt this
  have F1 : Fr hp L h₁ (fun y => ([P.sn, P.x].zip [.ref (hp.objs.size + 1), u]).reverse.lookup y) := ⟨hns, k1, hLe⟩
  have N1 : News hp L h₁ [(hp.objs.size + 1, excObj C hp.objs.size none .none)] := fun p hp' => by
    simp at hp'
    subst hp'
    refine ⟨ge, eL, ?_⟩
    cases q : hp.get? (hp.objs.size + 1) with
    | none => rfl
    | some o => exact absurd (Heap.lt_size q) (Nat.not_lt.mpr (Nat.le_succ _))
  have hxs : (fun y => ([P.sn, P.x].zip [.ref (hp.objs.size + 1), u]).reverse.lookup y) P.x = some u := by simp [List.lookup]
  have hss : (fun y => ([P.sn, P.x].zip [.ref (hp.objs.size + 1), u]).reverse.lookup y) P.sn = some (.ref (hp.objs.size + 1)) := by
    have : (P.sn == P.x) = false := beq_eq_false_iff_ne.mpr S.ne
    simp [List.lookup, this]
  obtain ⟨pl, hev⟩ := S.ev L
  refine ks_wpAt_execs_cons (ks_wpAt_Expr_any (ks_wpAt_MethodCall (pl := pl) ?_ hev) (S.ia L) (S.sw1 L))
  have X1 := X.keeps k1
  refine ks_wpAt_super_base (env := callEnv fd L fI) S.ks S.kc (by decide) rfl (X1 _ _ hfn) rfl har S.code (X1 _ _ hcda) rfl hvs hfile S.top ?_
  refine ks_loadName_global S.kind S.ks (loadGlobal_builtin (env := callEnv fd L fI) (by show h₁.Ns fd.globals mg; rw [S.glob]; exact hg.keeps k1) hmg (by show h₁.Ns fd.builtins mb; rw [S.blt]; exact hb.keeps k1) (hmb.trans (by first | boot_by_name | rfl | kernel_rfl)) ⟨rfl, ?_⟩)
  refine wpAny_loadName_free S.kind S.kc (by show fd.closure.lookup _ = _; rw [S.clo]; rfl) ⟨_, X1 _ _ hcell, rfl⟩ ?_
  rw [hsn]
  refine wpAny_loadName_local S.kind S.kn F1.ns hss ?_
  have I1 : InstAt h₁ (hp.objs.size + 1) (excObj C hp.objs.size none .none) C none := ⟨ge, rfl, rfl, trivial⟩
  obtain ⟨oD, hD1, hD2⟩ : ∃ oD, h₁.get? C = some oD ∧ oD.data = .cls cd := by
    unfold clsIn at hcd
    split at hcd
    · rename_i c d cd' sl ho
      cases hcd
      exact ⟨_, X1 _ _ ho, rfl⟩
    · cases hcd
  refine ks_wpAny_isType_cls hD1 hD2 ⟨rfl, ?_⟩
  refine ks_wpAny_call_super hD1 hD2 I1.at_ I1.cls (fun c e => by cases e) (looks_mroIn X1 S.selfC) (fun h2 e2 k2 => ?_)
  obtain ⟨F2, N2, l2⟩ := ks_newsPush (s := ⟨h₁, g, d, 0, os⟩) F1 N1 rfl e2 k2
  refine kxs_method kxs_ValueError (s := ⟨h2, g, d, _, os⟩) F2 X N2 (List.mem_cons_self) (ox := excObj C hp.objs.size none .none) (odx := none) ⟨k2 _ _ ge, rfl, rfl, trivial⟩ S.any S.up S.ve (by decide) (fun q h3 F3 N3 l3 => ?_)
  dsimp only
  refine kxs_callWith1 N3 (List.mem_cons_self) ?_ (S.st L)
  refine spliced_more (wpAny_Constant_str ?_) (S.st L)
  refine spliced_none ?_
  refine ⟨kxs_at N3 List.mem_cons_self, ?_⟩
  refine kxs_call (s := ⟨h3, g, d, _, os⟩) (t := hp.objs.size) (dv := none) (c2 := .none) F3 X N3 F.excBase_ValueError S.init List.mem_cons_self (.tail (Ne.symm (Nat.ne_of_lt (l3 _ (List.mem_cons_of_mem _ List.mem_cons_self)))) (.tail (Ne.symm (Nat.ne_of_lt (l2 _ List.mem_cons_self))) (.head (fun p h => nomatch h)))) (by show 1 ≤ sizeLine; rw [sizeLine_eq]; omega) (fun t4 h4 F4 N4 l4 => ?_)
  dsimp only at N4 ⊢
  have e4 := N4 (hp.objs.size + 1, excObj C t4 none .none) (by simp)
  refine wpAt_of_wpAny (wpAny_execs_cons ?_)
  refine plainObj_wpAny_Assign_Attribute ?_ (S.sw2 L)
  refine wpAny_Name (wpAny_loadName_local S.kind S.kx F4.ns hxs ?_) S.dbg.2
  refine wpAny_Name (wpAny_loadName_local S.kind S.kn F4.ns hss ?_) S.dbg.1
  have X4 := X.keeps F4.keep
  refine set_plain (s := ⟨h4, g, d, _, os⟩) X4 (ox := excObj C t4 none .none) (od := none) ⟨e4.1, rfl, rfl, trivial⟩ S.sa ?_
  refine HandSPX.exc_osa X4 e4.1 hcd hmro hdict S.nof (fun h5 t5 dx k5 dn dne hx hn => ?_)
  exact wpAny_pure (hR h5 t5 t4 dx (fun b o e => k5 b o (fun z => by
    subst z
    exact absurd (Heap.lt_size e) (Nat.not_lt.mpr (Nat.le_succ _))) (F4.keep b o e)) (by
      obtain ⟨oL, _, _, eL, _⟩ := F4.ns
      exact Nat.le_trans hLe (Nat.le_trans (Nat.le_of_lt (Heap.lt_size eL)) dn)) dne hx hn)
end

/-! ### raise C(e) -/
section
variable {X : Cx} {C fI cda cc : Addr} {P : SupP} {fd : FuncData} {e : Expr} {ta : TA} {p pos : Pos} {x : Str}
def tSup (C : Addr) (f : Str) (ta : TA) : L2.St → Hp → XK → Prop := fun σ H Q => ta σ H fun vs H1 => ∃ y, vs = [y] ∧ ∀ d, H1 d = none → Q (.ref C) (some d) (upd H1 d (.xd [(f, y)]))
theorem pmk_sup (S : SupK X.prog X.K C fI P fd cda cc) (T : OexC X.K C) (iC : findIn X.K (.ref C) "__init__" = some (some (.ref fI))) (tI : typeIn X.K (.ref fI) = some (.type "function")) {k : Nat} (hr : Room (k + 1) X.A)
    (hg : Gl X x) (hm : X.mg x = some (.ref C)) (hms : X.mg "super" = none) (ha : PA X [e] ta)
    (hdb : (x == ("__debug__" : Str)) = false := by decide) (he : starEach (e :: []) X.env = (false, eval e X.env) :: starEach [] X.env := by rfl) (hpl : (backTo pos (starEach [] X.env)).any (·.1) = false := by rfl) :
    PMk X (.Call (.Name x p) [e] [] pos) (tSup C P.f ta) := by
  intro pins s σ H Q I h
  obtain ⟨nm, q, N, bs, bm, sn, sub, ab, col, dd, k0, k1, k2, k3, k5, hC, hbm⟩ := T.cls
  refine wpAny_Call_Name_kw (ld_glob I hg hm ?_ hdb)
  refine PySem.W.callWith_K (h₀ := X.base) I.ok.mod.kin T.kC (thn (ha.run pos pins s σ H _ I h) fun us s1 ⟨vs, H1, I1, r1, y, ev, q1⟩ => ⟨I1.kIn, ?_⟩) he hpl
  show wpAny _ _ (call (.ref C) us) _ _ _
  subst ev
  cases r1 with
  | @cons _ u _ ur ru rn =>
  cases rn
  obtain ⟨hp, g, dr, tk, os⟩ := s1
  obtain ⟨mb, hb, hbv⟩ := I1.mod.blt
  refine wpAny_call (PySem.HandSPX.call_own F.excBase_ValueError (fun Y => PySem.HandSPX.refsVE_contains Y bm hbm) (I1.kIn _ _ hC) (PySem.W.looks_findIn I1.kIn iC) (fun self => PySem.W.bind_fn I1.kIn self tI) (by show 1 ≤ sizeLine; rw [sizeLine_eq]; omega)
    (sup_run S I1.kIn (I1.mod.glob.keeps I1.bk) hms (hb.keeps I1.bk) (hbv _ (by decide +kernel)) I1.nolimit ?_ fun h' t' t1 dx kk dn dne hx hns => ?_))
  · have := (hr.make C [u] []).dp
    omega
  · have na : H1 (hp.objs.size + 1) = none := I1.hok.fresh (Nat.le_succ _)
    obtain ⟨G, g1', g2'⟩ := restrict h' fun b => decide (b ≠ hp.objs.size + 1)
    have gk : ∀ b, b ≠ hp.objs.size + 1 → G.get? b = h'.get? b := fun b hb => g1' b (decide_eq_true hb)
    have ge : G.get? (hp.objs.size + 1) = none := g2' _ (by simp)
    have kG : ∀ b u, hp.get? b = some u → G.get? b = some u := fun b u z => by
      rw [gk b fun e => by subst e; exact absurd (Heap.lt_size z) (Nat.not_lt.mpr (Nat.le_succ _))]
      exact kk b u z
    have J : Inv X pins σ (upd H1 dx (.xd [(P.f, y)])) ⟨G, g, dr, t', os⟩ := I1.laid (t' := t') (a := dx) (o := .xd [(P.f, y)]) (h' := G) kG dn
      ⟨_, hns.at fun o z => (gk dx dne).trans z, relO_put (fs := []) ru fun g => True.intro⟩
    refine ⟨rfl, hp.objs.size + 1, _, _, ⟨G, g, dr, t', os⟩, _, .ref C, some dx, rfl, J, fun b o z => ?_, ge, hx, ⟨rfl, rfl⟩, rfl, rfl, ?_, rfl, I1.bare, raises_own T.exC T.tyC, q1 dx (I1.hok.fresh dn)⟩
    · by_cases hba : b = hp.objs.size + 1
      · rw [hba, ge] at z; cases z
      · exact (gk b hba).symm.trans z
    · rw [upd_ne (Ne.symm dne)]; exact na
end
end VS
set_option Elab.async false
set_option linter.all false
set_option maxRecDepth 100000
set_option maxHeartbeats 1000000
namespace VS
open PySem L2
variable {κ : Kc} {W : WX} {pi : List Nat} {F F' F1 F2 H H' H1 H2 : Hp} {X : Cx}

/-! ### raise C(e) -/
def mRaise (c : String) (f : Str) (fe : M D) : M Fl := M.bind fe fun d env => .exc c [(f, share d)] env
theorem ss_raise {c : String} {C fI cda cc : Addr} {P : SupP} {fd : FuncData} {k : Nat} {x : Str} {e : Expr} {p pos pos2 : Pos} {f : M D} (S : SupK X.prog X.K C fI P fd cda cc) (T : OexC X.K C)
    (iC : PySem.W.findIn X.K (.ref C) "__init__" = some (some (.ref fI))) (tI : PySem.W.typeIn X.K (.ref fI) = some (.type "function")) (hC : κ.ca c = C) (hr : Room (k + 1) X.A)
    (hg : Gl X x) (hm : X.mg x = some (.ref C)) (hms : X.mg "super" = none) (tk : Takes X W) (hcalm : X.calm = true) (he : SE κ X W e f) (hdb : (x == ("__debug__" : Str)) = false := by decide)
    (hst : starEach (e :: []) X.env = (false, eval e X.env) :: starEach [] X.env := by rfl) (hpl : (backTo pos (starEach [] X.env)).any (·.1) = false := by rfl) :
    SS κ X W pi (.Raise (some (.Call (.Name x p) [e] [] pos)) none pos2) (mRaise c P.f f) :=
  ⟨ps_mono (ps_raise hcalm tk (pmk_sup S T iC tI hr hg hm hms (pa_cons he.pe pa_nil hst) hdb hst hpl)) fun Dn σ H q => tX_imp (tS_part q) fun b H1 ⟨a, F1, env1, O1, Ob, S1, r, nd, n, fin⟩ => by
    refine ⟨b, rfl, fun d hd => ?_⟩
    obtain ⟨F', p1, S', y⟩ := S1.shareVal r nd n
    have hF : F' d = none := S'.sub.free hd
    have sm1 : Same F' (upd F' d (.xd [(P.f, b)])) := fun a o e => by rw [upd_ne (ne_of_none e hF)]; exact e
    have sm2 : Same H1 (upd H1 d (.xd [(P.f, b)])) := same_new hd
    have nf : ∀ a ∈ O1, a ≠ d := fun a ha e => by
      have := S'.own.mut a ha
      rw [e, hd] at this; exact this
    rw [← hC]
    refine fin (upd F' d (.xd [(P.f, b)])) _ _ (some d) O1 (p1.trans ⟨sm1, fun a o e _ => sm2 a o e, fun a h => .inl h, fun a o e => ?_, Keeps.same sm2⟩) ⟨fun a o e => ?_, S'.own.frame sm1 (Keeps.same sm2) (fun a ha => upd_ne (nf a ha)), S'.nd, fun a ha => ?_⟩ PinEq.refl
      (.inr ⟨d, [(P.f, b)], rfl, upd_same, rfl, .cons (O1 := []) (O2 := []) (y.frame sm1 (Keeps.same sm2) fun a h => nomatch h) .nil⟩)
    · by_cases h : a = d
      · subst h; exact .inr (.inr hd)
      · rw [upd_ne h] at e; exact .inl ⟨o, e⟩
    · by_cases h : a = d
      · subst h; rw [upd_same] at e ⊢; exact e
      · rw [upd_ne h] at e ⊢; exact S'.sub a o e
    · rw [upd_ne (nf a ha)]; exact S'.fr a ha⟩

/-! ### the exception in hand -/
mutual
def xfr : D → Bool
  | .exn _ _ => false
  | .lst _ xs => xfrL xs
  | .tup xs => xfrL xs
  | .fro xs => xfrL xs
  | .dic _ kvs => xfrK kvs
  | .dct _ kvs => xfrT kvs
  | .obj _ _ fs => xfrF fs
  | .non => true
  | .bl _ => true
  | .int _ => true
  | .str _ => true
  | .cls _ => true
  | .set _ _ => true
def xfrL : List D → Bool
  | [] => true
  | x :: xs => xfr x && xfrL xs
def xfrK : List (Key × D) → Bool
  | [] => true
  | (_, x) :: xs => xfr x && xfrK xs
def xfrT : List (List Key × D) → Bool
  | [] => true
  | (_, x) :: xs => xfr x && xfrT xs
def xfrF : List (Str × D) → Bool
  | [] => true
  | (_, x) :: xs => xfr x && xfrF xs
end
theorem xfrK_map : ∀ kvs, xfrK kvs = xfrL (kvs.map Prod.snd)
  | [] => rfl
  | (k, x) :: xs => by rw [xfrK, xfrK_map xs]; rfl
theorem xfrT_map : ∀ kvs, xfrT kvs = xfrL (kvs.map Prod.snd)
  | [] => rfl
  | (k, x) :: xs => by rw [xfrT, xfrT_map xs]; rfl
theorem xfrF_map : ∀ kvs, xfrF kvs = xfrL (kvs.map Prod.snd)
  | [] => rfl
  | (k, x) :: xs => by rw [xfrF, xfrF_map xs]; rfl
abbrev Kc.with (κ : Kc) (a : Addr) (c : String) (d : Option Addr) : Kc := { κ with ex := some (a, c, d) }
mutual
theorem Own.up {v : V} {d : D} {O : List Addr} {a : Addr} {c : String} {dx : Option Addr} (hn : κ.ex = none) (x : Own κ F H v d O) : Own (κ.with a c dx) F H v d O := by
  match x with
  | .non => exact .non
  | .bl b => exact .bl b
  | .int i => exact .int i
  | .str s => exact .str s
  | .cls c => exact .cls (κ := κ.with _ _ _) c
  | .lstS h1 l => exact .lstS h1 (l.up hn)
  | .fro h1 l => exact .fro h1 (l.up hn)
  | .setS h1 e n => exact .setS h1 e n
  | .setO h1 e n => exact .setO h1 e n
  | .lstO h1 l => exact .lstO h1 (l.up hn)
  | .tup h1 l => exact .tup h1 (l.up hn)
  | .dicS h1 e l => exact .dicS h1 e (l.up hn)
  | .dicO h1 e l => exact .dicO h1 e (l.up hn)
  | .dctS h1 e l => exact .dctS h1 e (l.up hn)
  | .dctO h1 e l => exact .dctO h1 e (l.up hn)
  | .objS h1 e l => exact .objS h1 e (l.up hn)
  | .objO h1 e l => exact .objO h1 e (l.up hn)
  | .exn0 h => rw [hn] at h; cases h
  | .exn h _ _ _ => rw [hn] at h; cases h
theorem OwnL.up {vs : List V} {ds : List D} {O : List Addr} {a : Addr} {c : String} {dx : Option Addr} (hn : κ.ex = none) (x : OwnL κ F H vs ds O) : OwnL (κ.with a c dx) F H vs ds O := by
  match x with
  | .nil => exact .nil
  | .cons h1 l => exact .cons (h1.up hn) (l.up hn)
end
mutual
theorem Own.dn {v : V} {d : D} {O : List Addr} {a : Addr} {c : String} {dx : Option Addr} (x : Own (κ.with a c dx) F H v d O) (h : xfr d = true) : Own κ F H v d O := by
  match x with
  | .non => exact .non
  | .bl b => exact .bl b
  | .int i => exact .int i
  | .str s => exact .str s
  | .cls c => exact .cls (κ := κ) c
  | .lstS h1 l => exact .lstS h1 (l.dn h)
  | .fro h1 l => exact .fro h1 (l.dn h)
  | .setS h1 e n => exact .setS h1 e n
  | .setO h1 e n => exact .setO h1 e n
  | .lstO h1 l => exact .lstO h1 (l.dn h)
  | .tup h1 l => exact .tup h1 (l.dn h)
  | .dicS h1 e l => exact .dicS h1 e (l.dn ((xfrK_map _).symm.trans h))
  | .dicO h1 e l => exact .dicO h1 e (l.dn ((xfrK_map _).symm.trans h))
  | .dctS h1 e l => exact .dctS h1 e (l.dn ((xfrT_map _).symm.trans h))
  | .dctO h1 e l => exact .dctO h1 e (l.dn ((xfrT_map _).symm.trans h))
  | .objS h1 e l => exact .objS h1 e (l.dn ((xfrF_map _).symm.trans h))
  | .objO h1 e l => exact .objO h1 e (l.dn ((xfrF_map _).symm.trans h))
  | .exn0 _ => cases h
  | .exn _ _ _ _ => cases h
theorem OwnL.dn {vs : List V} {ds : List D} {O : List Addr} {a : Addr} {c : String} {dx : Option Addr} (x : OwnL (κ.with a c dx) F H vs ds O) (h : xfrL ds = true) : OwnL κ F H vs ds O := by
  match x with
  | .nil => exact .nil
  | .cons h1 l =>
    have h' := Bool.and_eq_true_iff.mp h
    exact .cons (h1.dn h'.1) (l.dn h'.2)
end
def xfrE : VS.Env → Bool
  | [] => true
  | none :: e => xfrE e
  | some d :: e => xfr d && xfrE e
theorem OwnE.up {σ : St} {env : VS.Env} {O : List Addr} {a : Addr} {c : String} {dx : Option Addr} (hn : κ.ex = none) (x : OwnE κ F H σ env O) : OwnE (κ.with a c dx) F H σ env O := by
  induction x with
  | nil => exact .nil
  | skip t ih => exact .skip ih
  | told h t ih => exact .told (h.up hn) ih
theorem OwnE.dn {σ : St} {env : VS.Env} {O : List Addr} {a : Addr} {c : String} {dx : Option Addr} (x : OwnE (κ.with a c dx) F H σ env O) (h : xfrE env = true) : OwnE κ F H σ env O := by
  induction x with
  | nil => exact .nil
  | skip t ih => exact .skip (ih h)
  | told h1 t ih =>
    have h' := Bool.and_eq_true_iff.mp h
    exact .told (h1.dn h'.1) (ih h'.2)
theorem OwnL.up' {fs : List (Str × D)} {fv : List (Str × V)} {a : Addr} {c : String} {dx : Option Addr} (hn : κ.ex = none) (x : OwnL κ F H (fv.map Prod.snd) (fs.map Prod.snd) []) : OwnL (κ.with a c dx) F H (fv.map Prod.snd) (fs.map Prod.snd) [] := x.up hn

/-! ### try: body except X as n: suite -/
def Fl.xfr : Fl → Bool
  | .rt d => VS.xfr d
  | _ => true
def mTry (ct : List (String × Bool)) (i : Nat) (fb fs : M Fl) : M Fl := fun env => match fb env with
  | .ok fl e => .ok fl e
  | .stk => .stk
  | .exc c fds e => match ct.lookup c with
    | some true => if i < e.length then (match fs (e.set i (some (.exn c fds))) with
        | .ok fl e2 => if (fl.xfr && xfrE (e2.set i none)) = true then .ok fl (e2.set i none) else .stk
        | _ => .stk) else .stk
    | some false => .exc c fds e
    | none => .stk
theorem PinEq.out {i : Nat} {σ : St} {s : Option V} (hf : pi.contains i = false) : PinEq pi σ (σ.set i s) := fun j hj => List.getElem?_set_ne fun q => by
  subst q
  rw [List.contains_iff_mem.mpr hj] at hf
  cases hf
theorem set_env {α : Type} : ∀ {l : List α} {i : Nat} {x : α}, (l.set i x).length = l.length := by simp
theorem ss_try_as {x n : Str} {cv : Value} {i : Nat} {body suite : List Stmt} {b₀ : Stmt} {np pos pos' : Pos} {ct : List (String × Bool)} {fb fs : M Fl} (hs : X.stack = X.env :: X.outer) (hf : X.env.frame = some X.env.locals) (hN : X.N.Nodup) (hi : X.N[i]? = some n)
    (hln : X.env.kindOf n = some .local) (hc : Names X x cv) (tk : Takes X W) (hpi : pi.contains i = false) (hex : κ.ex = none) (hct : ∀ c b, ct.lookup c = some b → PySem.W.exmOne X.K (.ref (κ.ca c)) cv = some b)
    (hb : ∀ (W' : WX) (pn : List (Addr × Obj)) (xe : Value → Shared → Prop), Takes (X.tr pn xe) W' → PassesOwn (model X.prog X.w) X.A X.env xe → SSs κ (X.tr pn xe) W' pi body fb)
    (hsu : ∀ (a : Addr) (oe : Obj) (c : String) (d : Option Addr) (pn : List (Addr × Obj)), Zc (.ref (κ.ca c)) d oe → (∃ vs, oe.data = .fields vs) → SSs (κ.with a c d) (X.suite a ((a, oe) :: pn)) (fun _ _ _ _ => False) pi (b₀ :: suite) fs) :
    SS κ X W pi (.Try body [.ExceptHandler (some (.Name x np)) (some n) (b₀ :: suite) pos'] [] [] pos) (mTry ct i fb fs) :=
  ⟨ps_mono (ps_try_as (tb := fun W' => tS κ W' pi fb) (ts := fun a cls d D σ H => ∃ c, cls = .ref (κ.ca c) ∧ tS (κ.with a c d) (fun _ _ _ _ => False) pi fs D σ H) hs hf hN hi hln hc tk (fun W' pn xe tk' hp => (hb W' pn xe tk' hp).ps)
    (fun a oe cls d pn hz hd => ⟨fun pins s σ H Q I h => by
      obtain ⟨c, e, q⟩ := h
      subst e
      exact (hsu a oe c d pn hz hd).ps.run pins s σ H Q I q⟩)) fun Dn σ H ⟨F, env, O, S, fin⟩ => by
    refine ⟨F, env, O, S, ?_⟩
    unfold mTry at fin
    revert fin
    match fb env with
    | .stk => exact fun z => z
    | .ok .nx e => exact fun z => z
    | .ok .bk e => exact fun z => z
    | .ok .ct e => exact fun z => z
    | .ok (.rt d) e => exact fun z => z
    | .exc c fds e =>
      intro z F' H' σ' dx O' P S' pq xo
      dsimp only at z
      cases q : ct.lookup c with
      | none => simp only [q] at z; exact z.elim
      | some b =>
        refine ⟨b, hct c b q, fun hb a na => ⟨c, rfl, ?_⟩, fun hb => ?_⟩
        · subst hb
          simp only [q] at z
          by_cases hl : i < e.length
          · rw [if_pos hl] at z
            have y : Own (κ.with a c dx) F' H' (.ref a) (.exn c fds) [] := by
              rcases xo with ⟨rfl, rfl⟩ | ⟨d, fv, rfl, h1, h2, h3⟩
              · exact .exn0 rfl
              · exact .exn rfl h1 h2 (h3.up hex)
            have Su : Stt (κ.with a c dx) F' H' σ' e O' := ⟨S'.sub, S'.own.up hex, S'.nd, S'.fr⟩
            obtain ⟨O2, S2, m2⟩ := Su.put (i := i) y (by rw [List.append_nil]; exact S'.nd) (fun x hx => nomatch hx) hl
            refine ⟨F', _, O2, S2, ?_⟩
            have P2 : Post F H O F' H' O2 := P.less (fun _ h => h) fun a h => by simpa using m2 a h
            -- the ends
            have back : ∀ {F3 H3 : Hp} {σ3 : St} {e2 : VS.Env} {O3 Od : List Addr}, Post F' H' O2 F3 H3 (O3 ++ Od) → Stt (κ.with a c dx) F3 H3 σ3 e2 O3 → PinEq pi (σ'.set i (some (.ref a))) σ3 → xfrE (e2.set i none) = true → (O3 ++ Od).Nodup →
                ∃ O4, Post F H O F3 H3 (O4 ++ Od) ∧ Stt κ F3 H3 (σ3.set i none) (e2.set i none) O4 ∧ PinEq pi σ (σ3.set i none) ∧ (O4 ++ Od).Nodup := fun {F3 H3 σ3 e2 O3 Od} P3 S3 pq3 hx nd => by
              obtain ⟨A, O1, B, eo, w1, w2⟩ := S3.own.drop i none
              have sub : (A ++ B).Sublist O3 := by rw [eo]; exact List.Sublist.append (List.Sublist.refl A) (List.sublist_append_right O1 B)
              refine ⟨A ++ B, (P2.trans P3).less (fun _ h => h) fun a ha => ?_, ⟨S3.sub, w1.dn hx, S3.nd.sublist sub, fun a ha => S3.fr a (sub.subset ha)⟩, pq.trans ((PinEq.out hpi).trans (pq3.trans (PinEq.out hpi))), nd.sublist (List.Sublist.append sub (List.Sublist.refl Od))⟩
              rcases List.mem_append.mp ha with h | h
              · exact List.mem_append_left _ (sub.subset h)
              · exact List.mem_append_right _ h
            revert z
            generalize fs (e.set i (some (.exn c fds))) = r
            match r with
            | .stk => exact fun z => z
            | .exc c fs e => exact fun z => z.elim
            | .ok fl e2 =>
              intro z
              dsimp only at z
              by_cases hx : (fl.xfr && xfrE (e2.set i none)) = true
              · rw [if_pos hx] at z
                obtain ⟨hx1, hx2⟩ := Bool.and_eq_true_iff.mp hx
                match fl, z, hx1 with
                | .nx, z, hx1 =>
                  intro F3 H3 σ3 O3 P3 S3 pq3
                  obtain ⟨O4, p4, s4, q4, n4⟩ := back (Od := []) (by rw [List.append_nil]; exact P3) S3 pq3 hx2 (by rw [List.append_nil]; exact S3.nd)
                  exact z F3 H3 _ O4 (by rw [List.append_nil] at p4; exact p4) s4 q4
                | .bk, z, hx1 =>
                  intro F3 H3 σ3 O3 P3 S3 pq3
                  obtain ⟨O4, p4, s4, q4, n4⟩ := back (Od := []) (by rw [List.append_nil]; exact P3) S3 pq3 hx2 (by rw [List.append_nil]; exact S3.nd)
                  exact z F3 H3 _ O4 (by rw [List.append_nil] at p4; exact p4) s4 q4
                | .ct, z, hx1 =>
                  intro F3 H3 σ3 O3 P3 S3 pq3
                  obtain ⟨O4, p4, s4, q4, n4⟩ := back (Od := []) (by rw [List.append_nil]; exact P3) S3 pq3 hx2 (by rw [List.append_nil]; exact S3.nd)
                  exact z F3 H3 _ O4 (by rw [List.append_nil] at p4; exact p4) s4 q4
                | .rt d, z, hx1 =>
                  intro F3 H3 σ3 v O3 Od P3 S3 pq3 yv nd nf
                  obtain ⟨O4, p4, s4, q4, n4⟩ := back P3 S3 pq3 hx2 nd
                  exact z F3 H3 _ v O4 Od p4 s4 q4 (yv.dn hx1) n4 nf
              · rw [if_neg hx] at z; exact z.elim
          · rw [if_neg hl] at z; exact z.elim
        · subst hb
          simp only [q] at z
          exact z F' H' σ' dx O' P S' pq xo⟩
end VS
set_option Elab.async false
set_option linter.all false
set_option maxRecDepth 100000
set_option maxHeartbeats 1000000
namespace VS
open PySem L2
variable {κ : Kc} {W : WX} {pi : List Nat} {F F' F1 F2 H H' H1 H2 : Hp} {X : Cx}

/-! ### in an except suite: isinstance(e, C), e.f -/
def rIsE2 (K : PySem.W.Frag) (D a : Addr) (d : Option Addr) : List V → Hp → VK → Prop := fun xs H Q => (∀ dx, d = some dx → ∃ fv, H dx = some (.xd fv)) ∧ ∃ (c : V) (cv : Value) (b : Bool), xs = [.ref a, c] ∧ (∀ u, RelV c u → u = cv) ∧ PySem.W.kitOne K (.ref D) cv = some b ∧ Q (.bl b) H
theorem call_isE2 {a D : Addr} {oe : Obj} {d : Option Addr} {pn : List (Addr × Obj)} (C : ExcC X.K D) (hz : Zc (.ref D) d oe) (hf : ∃ vs, oe.data = .fields vs) : CallR (X.suite a ((a, oe) :: pn)) (.builtin "isinstance") (rIsE2 X.K D a d) := by
  intro pins s σ H xs us Q I r h
  obtain ⟨hd, c, cv, b, rfl, hcv, e, q⟩ := h
  cases r with
  | cons rx rr =>
    cases rr with
    | cons rt rr =>
      cases rr
      cases rx
      have ec := hcv _ rt
      subst ec
      obtain ⟨hget, _⟩ := I.pin (a, oe) (List.mem_append.mpr (.inl List.mem_cons_self))
      obtain ⟨vs, hv⟩ := hf
      have hcl : (PySem.W.clsIn X.K D).isSome = true := by obtain ⟨cd, hc, _⟩ := PySem.W.any_some C.hd; rw [hc]; rfl
      obtain ⟨oc, od, oda, osl⟩ := oe
      obtain ⟨h1, h2⟩ := hz
      dsimp only at h1 h2 hv
      subst h1 h2 hv
      cases od with
      | none =>
        have J : PySem.W.InstAt s.heap a _ D none := ⟨hget, rfl, rfl, trivial⟩
        exact PySem.W.kia_one (PySem.W.kitx_exc hcl C.hg C.hk C.hs C.ha C.hn C.ht C.hm) I.kIn J e (fun z => nomatch z) fun tk => ⟨.bl b, H, I.kept (t' := tk) fun _ _ z => z, rfl, q⟩
      | some dx =>
        obtain ⟨fv, ea⟩ := hd dx rfl
        obtain ⟨mA, hns, hr⟩ := (show ObjOk X.prog X.w H s.heap dx (.xd fv) from I.hok dx _ ea)
        obtain ⟨odx, ho, hl⟩ := lookIn_ns hns
        have J : PySem.W.InstAt s.heap a _ D (some odx) := ⟨hget, rfl, rfl, ho⟩
        exact PySem.W.kia_one (PySem.W.kitx_exc hcl C.hg C.hk C.hs C.ha C.hn C.ht C.hm) I.kIn J e (fun z => nomatch z) fun tk => ⟨.bl b, H, I.kept (t' := tk) fun _ _ z => z, rfl, q⟩
theorem pe_false {e : Expr} : PE X e (fun _ _ _ => False) := ⟨fun _ _ _ _ _ _ h => h.elim⟩
def mIsE (i : Nat) (tab : List (String × Bool)) : M D := fun env => match (env[i]?).join with
  | some (.exn c _) => (match tab.lookup c with
    | some b => .ok (.bl b) env
    | none => .stk)
  | _ => .stk
theorem exn_slot {a : Addr} {c : String} {d : Option Addr} {σ : St} {env : VS.Env} {O : List Addr} {i : Nat} {c' : String} {fs : List (Str × D)} (S : Stt (κ.with a c d) F H σ env O) (q : (env[i]?).join = some (.exn c' fs)) :
    c' = c ∧ σ[i]? = some (some (.ref a)) ∧ ((d = none ∧ fs = []) ∨ ∃ dx fv, d = some dx ∧ F dx = some (.xd fv) ∧ fv.map Prod.fst = fs.map Prod.fst ∧ OwnL (κ.with a c d) F H (fv.map Prod.snd) (fs.map Prod.snd) []) := by
  obtain ⟨v, A, Oi, B, hv, _, y, _⟩ := S.own.get (join_some q)
  cases y with
  | exn0 h =>
    have h : some (a, c, d) = some (_, c', none) := h
    cases h
    exact ⟨rfl, hv, .inl ⟨rfl, rfl⟩⟩
  | exn h0 h e l =>
    have h0 : some (a, c, d) = some (_, c', some _) := h0
    cases h0
    exact ⟨rfl, hv, .inr ⟨_, _, rfl, h, e, l⟩⟩
theorem fin_self {α β : Type} {rel : Rel α β} {a : α} {σ : St} {env : VS.Env} {O : List Addr} {Q : β → Hp → Prop} {b : β} (S : Stt κ F H σ env O) (r : rel σ F H b a []) (h : Fin κ W rel σ F H O (.ok a env) Q) : Q b H :=
  h F H b O [] (by rw [List.append_nil]; exact Post.refl) S r (by rw [List.append_nil]; exact S.nd) (fun x hx => nomatch hx)
theorem se_isE {a : Addr} {oe : Obj} {c : String} {d : Option Addr} {pn : List (Addr × Obj)} {n cx : Str} {p p1 p2 pos : Pos} {i : Nat} {v : V} {cv : Value} {tab : List (String × Bool)} (hz : Zc (.ref (κ.ca c)) d oe) (hf : ∃ vs, oe.data = .fields vs)
    (ht : ∀ c b, tab.lookup c = some b → ExcC X.K (κ.ca c) ∧ PySem.W.kitOne X.K (.ref (κ.ca c)) cv = some b) (hn : PE (X.suite a ((a, oe) :: pn)) (.Name n p1) (tVar i)) (hc : PE (X.suite a ((a, oe) :: pn)) (.Name cx p2) (tC v)) (hv : ∀ u, RelV v u → u = cv)
    (hg : Gl X ("isinstance" : Str)) (hm : X.mg ("isinstance" : Str) = none)
    (hs1 : starEach [.Name n p1, .Name cx p2] (X.suite a ((a, oe) :: pn)).env = (false, eval (.Name n p1) (X.suite a ((a, oe) :: pn)).env) :: starEach [.Name cx p2] (X.suite a ((a, oe) :: pn)).env := by rfl)
    (hs2 : starEach [.Name cx p2] (X.suite a ((a, oe) :: pn)).env = (false, eval (.Name cx p2) (X.suite a ((a, oe) :: pn)).env) :: starEach [] (X.suite a ((a, oe) :: pn)).env := by rfl)
    (hpl : (backTo pos (starEach [.Name cx p2] (X.suite a ((a, oe) :: pn)).env)).any (·.1) = false := by rfl) :
    SE (κ.with a c d) (X.suite a ((a, oe) :: pn)) W (.Call (.Name "isinstance" p) [.Name n p1, .Name cx p2] [] pos) (mIsE i tab) := by
  cases q0 : tab.lookup c with
  | none => exact ⟨pe_mono pe_false fun σ H Q ⟨F, env, O, S, fin⟩ => by
      unfold mIsE at fin
      split at fin
      · rename_i c' fs q
        obtain ⟨rfl, _⟩ := exn_slot S q
        rw [q0] at fin
        exact fin
      · exact fin⟩
  | some b =>
    obtain ⟨t1, t2⟩ := ht c b q0
    exact ⟨pe_mono (pe_callB (id := "isinstance") (call_isE2 t1 hz hf) hg hm (by first | rfl | kernel_rfl) (pa_cons hn (pa_cons hc pa_nil hs2) hs1) (by decide) (by decide) hs1 hpl) fun σ H Q ⟨F, env, O, S, fin⟩ => by
      unfold mIsE at fin
      split at fin
      · rename_i c' fs q
        obtain ⟨rfl, hv', h⟩ := exn_slot S q
        rw [q0] at fin
        refine ⟨_, hv', fun dx e => ?_, v, cv, b, rfl, hv, t2, fin_self S (.bl b) fin⟩
        rcases h with ⟨rfl, _⟩ | ⟨dx', fv, rfl, h1, _⟩
        · cases e
        · cases e; exact ⟨fv, S.sub _ _ h1⟩
      · exact fin.elim⟩
def mExF (i : Nat) (f : Str) (tab : List String) : M D := fun env => match (env[i]?).join with
  | some (.exn c fs) => if tab.contains c = true then (match fs.lookup f with
    | some d => .ok d env
    | none => .stk) else .stk
  | _ => .stk
theorem OwnL.field {fv : List (Str × V)} {fd : List (Str × D)} (e : fv.map Prod.fst = fd.map Prod.fst) {O : List Addr} (l : OwnL κ F H (fv.map Prod.snd) (fd.map Prod.snd) O) {f : Str} {d : D} (h : fd.lookup f = some d) : ∃ v O1, fv.lookup f = some v ∧ Own κ F H v d O1 := by
  induction fd generalizing fv O with
  | nil => cases h
  | cons p fd ih =>
    cases fv with
    | nil => cases e
    | cons q fv =>
      obtain ⟨g, d0⟩ := p
      obtain ⟨g', v0⟩ := q
      obtain ⟨e1, e2⟩ := List.cons.inj e
      cases l with
      | cons h1 t =>
        dsimp only at e1
        subst e1
        rw [List.lookup_cons] at h
        by_cases hb : (f == g') = true
        · rw [hb] at h
          cases h
          exact ⟨v0, _, by rw [List.lookup_cons, hb], h1⟩
        · have hb : (f == g') = false := Bool.eq_false_iff.mpr hb
          rw [hb] at h
          obtain ⟨v, O1, h2, h3⟩ := ih e2 t h
          exact ⟨v, O1, by rw [List.lookup_cons, hb]; exact h2, h3⟩
theorem OwnL.fieldS {fv : List (Str × V)} {fd : List (Str × D)} (e : fv.map Prod.fst = fd.map Prod.fst) (l : OwnL κ F H (fv.map Prod.snd) (fd.map Prod.snd) []) {f : Str} {d : D} (h : fd.lookup f = some d) : ∃ v, fv.lookup f = some v ∧ Own κ F H v d [] := by
  induction fd generalizing fv with
  | nil => cases h
  | cons p fd ih =>
    cases fv with
    | nil => cases e
    | cons q fv =>
      obtain ⟨g, d0⟩ := p
      obtain ⟨g', v0⟩ := q
      obtain ⟨e1, e2⟩ := List.cons.inj e
      generalize hO : ([] : List Addr) = O at l
      cases l with
      | @cons _ _ _ _ P1 P2 h1 t =>
        obtain ⟨rfl, rfl⟩ := List.append_eq_nil_iff.mp hO.symm
        dsimp only at e1
        subst e1
        rw [List.lookup_cons] at h
        by_cases hb : (f == g') = true
        · rw [hb] at h
          cases h
          exact ⟨v0, by rw [List.lookup_cons, hb], h1⟩
        · have hb : (f == g') = false := Bool.eq_false_iff.mpr hb
          rw [hb] at h
          obtain ⟨v, h2, h3⟩ := ih e2 t h
          exact ⟨v, by rw [List.lookup_cons, hb]; exact h2, h3⟩
theorem se_exF {a : Addr} {oe : Obj} {c : String} {d : Option Addr} {pn : List (Addr × Obj)} {n f : Str} {p1 pos : Pos} {i : Nat} {tab : List String} (hz : Zc (.ref (κ.ca c)) d oe) (hf : ∃ vs, oe.data = .fields vs)
    (ht : ∀ c, tab.contains c = true → XfC X.K (κ.ca c) ∧ PySem.W.findIn X.K (.ref (κ.ca c)) f = some none) (hn : PE (X.suite a ((a, oe) :: pn)) (.Name n p1) (tVar i))
    (hb : attributeBase (.Name n p1) f X.env (eval (.Name n p1) X.env) = eval (.Name n p1) X.env := by rfl) :
    SE (κ.with a c d) (X.suite a ((a, oe) :: pn)) W (.Attribute (.Name n p1) f pos) (mExF i f tab) := by
  by_cases q0 : tab.contains c = true
  · obtain ⟨t1, t2⟩ := ht c q0
    exact ⟨pe_mono (pe_xf t1 t2 hz hf hn hb) fun σ H Q ⟨F, env, O, S, fin⟩ => by
      unfold mExF at fin
      split at fin
      · rename_i c' fs q
        obtain ⟨rfl, hv', h⟩ := exn_slot S q
        rw [if_pos q0] at fin
        cases q1 : fs.lookup f with
        | none => simp only [q1] at fin; exact fin.elim
        | some d0 =>
          simp only [q1] at fin
          rcases h with ⟨rfl, rfl⟩ | ⟨dx', fv, rfl, h1, h2, h3⟩
          · cases q1
          · obtain ⟨v, l1, l2⟩ := OwnL.fieldS h2 h3 q1
            exact ⟨_, hv', rfl, rfl, dx', fv, v, rfl, S.sub _ _ h1, l1, fin_self S l2 fin⟩
      · exact fin.elim⟩
  · exact ⟨pe_mono pe_false fun σ H Q ⟨F, env, O, S, fin⟩ => by
      unfold mExF at fin
      split at fin
      · rename_i c' fs q
        obtain ⟨rfl, _⟩ := exn_slot S q
        rw [if_neg q0] at fin
        exact fin
      · exact fin⟩

/-! ### isinstance(x, C) -/
inductive Tag where
  | b (s : String) | c (s : String)
deriving DecidableEq
def tagOf : D → Option Tag
  | .non => some (.b "NoneType")
  | .bl _ => some (.b "bool")
  | .int _ => some (.b "int")
  | .str _ => some (.b "str")
  | .lst _ _ => some (.b "list")
  | .fro _ => none
  | .tup _ => some (.b "tuple")
  | .dic _ _ => some (.b "dict")
  | .dct _ _ => some (.b "dict")
  | .obj _ c _ => some (.c c)
  | _ => none
def Kc.tagV (κ : Kc) : Tag → Value
  | .b s => .type s
  | .c s => .ref (κ.ca s)
/-- what isinstance asks of an own class -/
structure IsC (K : PySem.W.Frag) (C : Addr) : Prop where
  cl : Cls K C
  ha : PySem.W.findIn K (.ref C) "__class__" = some (some (.builtin "object.__class__"))
  hn : PySem.W.specialIn K (.builtin "object.__class__") "__get__" = some (some (.builtin "getset_descriptor.__get__"))
  htk : PySem.W.takesIn K (.builtin "object.__class__") = some true
  hm : PySem.W.mroIn K C (.type "object") = some true
theorem Own.tyx {v : V} {d : D} {O : List Addr} (sm : Same F H) (x : Own κ F H v d O) {t : Tag} (e : tagOf d = some t) (hc : ∀ s, t = .c s → IsC κ.K (κ.ca s)) : TyX κ.K H v (κ.tagV t) := by
  cases x with
  | non => cases e; exact .base .non
  | bl b => cases e; exact .base (.bl b)
  | int b => cases e; exact .base (.int b)
  | str b => cases e; exact .base (.str b)
  | lstS h l => cases e; exact .base (.lst (sm _ _ h))
  | lstO h l => cases e; exact .base (.lst h)
  | tup h l => cases e; exact .base (.tup h)
  | dicS h _ l => cases e; exact .base (.dK (sm _ _ h))
  | dicO h _ l => cases e; exact .base (.dK h)
  | dctS h _ l => cases e; exact .base (.dT (sm _ _ h))
  | dctO h _ l => cases e; exact .base (.dT h)
  | objS h _ l =>
    cases e
    have z := hc _ rfl
    exact .base (.ins (sm _ _ h) z.cl z.ha z.hn z.htk z.hm)
  | objO h _ l =>
    cases e
    have z := hc _ rfl
    exact .base (.ins h z.cl z.ha z.hn z.htk z.hm)
  | cls c => cases e
  | fro h l => cases e
  | setS h _ _ => cases e
  | setO h _ _ => cases e
  | exn0 h => cases e
  | exn h _ _ _ => cases e
def oIsi (tab : List (Tag × Bool)) : List D → Option D
  | [d] => (tagOf d).bind fun t => (tab.lookup t).map .bl
  | _ => none
theorem se_isi {e : Expr} {cx : Str} {p p2 pos : Pos} {v : V} {cv : Value} {tab : List (Tag × Bool)} {f : M Hd} (he : SH κ X W e f) (hk : X.K = κ.K) (hcls : ClsV v cv)
    (ht : ∀ t b, tab.lookup t = some b → (∀ s, t = .c s → IsC κ.K (κ.ca s)) ∧ PySem.W.kitOne X.K (κ.tagV t) cv = some b) (hc : PE X (.Name cx p2) (tC v))
    (hg : Gl X ("isinstance" : Str)) (hm : X.mg ("isinstance" : Str) = none)
    (hs1 : starEach [e, .Name cx p2] X.env = (false, eval e X.env) :: starEach [.Name cx p2] X.env := by rfl)
    (hs2 : starEach [.Name cx p2] X.env = (false, eval (.Name cx p2) X.env) :: starEach [] X.env := by rfl)
    (hpl : (backTo pos (starEach [.Name cx p2] X.env)).any (·.1) = false := by rfl) :
    SE κ X W (.Call (.Name "isinstance" p) [e, .Name cx p2] [] pos) (mOp (oIsi tab) (m1 f)) :=
  ⟨pe_mono (pe_callB (id := "isinstance") call_isi hg hm (by first | rfl | kernel_rfl) (pa_cons he.pe (pa_cons hc pa_nil hs2) hs1) (by decide) (by decide) hs1 hpl) fun σ H Q q =>
    tX_op1 (r := fun x H Q => rIsi X.K [x, v] H Q) (fun F H vs ds Os Q d sm x e k => by
      intro y hy
      unfold oIsi at e
      split at e
      · rename_i d0
        obtain ⟨w, O1, rfl, y1⟩ := x.one
        cases hy
        cases q1 : tagOf d0 with
        | none => rw [q1] at e; cases e
        | some t =>
          rw [q1, Option.bind_some] at e
          cases q2 : tab.lookup t with
          | none => rw [q2] at e; cases e
          | some b =>
            rw [q2] at e
            cases e
            obtain ⟨t1, t2⟩ := ht t b q2
            exact ⟨_, v, _, cv, b, rfl, hcls, by rw [hk]; exact y1.tyx sm q1 t1, t2, same_self k (.bl b)⟩
      · cases e) q⟩
end VS
set_option Elab.async false
set_option linter.all false
set_option maxRecDepth 100000
set_option maxHeartbeats 1000000
namespace VS
open PySem L2
variable {κ : Kc} {W : WX} {pi : List Nat} {F F' F1 F2 H H' H1 H2 : Hp} {X : Cx}

/-! ### C(e, ..): a new instance -/
def tMakeS (C : Addr) (sp : Sp) (E : St → XK) (t : TA) : TE := fun σ H Q => t σ H fun vs H1 => ∀ x dx, H1 x = none → H1 dx = none → dx ≠ x →
  sp (.ref x :: vs) (upd (upd H1 dx (.own x)) x (.ins C dx [])) (fun v H2 => v = .non ∧ Q (.ref x) H2) (E σ)
section
variable {CX : CXT} {k : Nat} {f C : Addr} {fd : FuncData} {ps : List Str} {sp : Sp} {E : St → XK} {x : Str} {p pos : Pos} {e : Expr} {es : List Expr} {t : TA}
theorem run_makeS {pins : List (Addr × Obj)} {σ : St} {H : Hp} {s : Shared} {Q : VK} {us : List Value} {vs : List V} (M : Mk X.K C f) (Fo : FnOk X.prog X.w X.K X.mg X.base CX k f fd ps sp) (hr : Room (k + 1) X.A) (hb : Binds X.K fd ps [])
    (hx : PassesAt CX X σ (E σ)) (I : Inv X pins σ H s) (r : Vals vs us)
    (h : ∀ x dx, H x = none → H dx = none → dx ≠ x → sp (.ref x :: vs) (upd (upd H dx (.own x)) x (.ins C dx [])) (fun v H2 => v = .non ∧ Q (.ref x) H2) (E σ)) :
    wpAny (model X.prog X.w) X.A (call (.ref C) us) (EP X pins σ Q) X.xe s := by
  have hq := h (s.heap.objs.size + 1) s.heap.objs.size (I.hok.fresh (Nat.le_succ _)) (I.hok.fresh (Nat.le_refl _)) (Nat.ne_of_lt (Nat.lt_succ_self _))
  have I2 := Inv.made (C := C) I
  have r2 : Vals (V.ref (s.heap.objs.size + 1) :: vs) (Value.ref (s.heap.objs.size + 1) :: us) := .cons rfl r
  have hl : (Value.ref (s.heap.objs.size + 1) :: us).length = ps.length := by
    have e := r2.length
    rw [Fo.len _ _ _ _ hq] at e
    exact e.symm
  have b := hb _ (Value.ref (s.heap.objs.size + 1) :: us) I2.kIn (by rw [List.append_nil]; exact hl)
  rw [List.append_nil] at b
  refine wpAny_call (make_map (f := f) I.kIn M.makes M.init (beq_iff_eq.mp M.fn) (codeAny_mono (Fo.run _ X.stack _ _ ⟨Value.ref (s.heap.objs.size + 1) :: us, []⟩ (Value.ref (s.heap.objs.size + 1) :: us) _ _ (E σ) (hr.make C us [])
    (I2.env0.make C us []) b r2 hq) fun r s' hq' => ?_))
  cases r with
  | error e => exact hx pins _ _ e s' I2 hq'
  | ok fl =>
    cases fl with
    | ret u =>
      obtain ⟨v, H', I3, rv, ev, q3⟩ := I2.after hq'
      subst ev
      exact ⟨rv, ⟨V.ref (s.heap.objs.size + 1), H', I3, rfl, q3⟩⟩
    | next => exact False.elim hq'
    | brk => exact False.elim hq'
    | cont => exact False.elim hq'
theorem pe_makeS (M : Mk X.K C f) (Fo : FnOk X.prog X.w X.K X.mg X.base CX k f fd ps sp) (hr : Room (k + 1) X.A) (hg : Gl X x) (hm : X.mg x = some (.ref C)) (hb : Binds X.K fd ps []) (hx : ∀ σ, PassesAt CX X σ (E σ))
    (ha : PA X (e :: es) t) (hdb : (x == ("__debug__" : Str)) = false := by decide) (he : starEach (e :: es) X.env = (false, eval e X.env) :: starEach es X.env := by rfl) (hpl : (backTo pos (starEach es X.env)).any (·.1) = false := by rfl) :
    PE X (.Call (.Name x p) (e :: es) [] pos) (tMakeS C sp E t) := by
  refine ⟨fun pins s σ H Q I h => ?_⟩
  refine wpAny_Call_Name_kw (ld_glob I hg hm ?_ hdb)
  refine PySem.W.callWith_K (h₀ := X.base) I.ok.mod.kin M.kp (thn (ha.run pos pins s σ H _ I h) fun us s1 ⟨vs, H1, I1, r, q⟩ => ⟨I1.kIn, ?_⟩) he hpl
  exact run_makeS M Fo hr hb (hx σ) I1 r q
end

def mMake (c : String) (den : FD) (fa : M (List Hd)) : M D := M.bind fa fun hs env => match prep [] 0 hs env with
  | some (ds, env1) => (match den (.obj true c [] :: ds) with
    | .ok .non [some o] => .ok o env1
    | .exc c' fs _ => .exc c' fs env1
    | _ => .stk)
  | none => .stk
theorem make_part {np : Nat} {c : String} {den : FD} {σ : St} {env : VS.Env} {O Oh : List Addr} {vs : List V} {hs : List Hd} {Q : VK} {x dx : Addr} (S : Stt κ F H σ env O) (xa : OwnHs κ σ F H vs hs Oh) (nd : (O ++ Oh).Nodup) (nf : ∀ a ∈ Oh, F a = none) (hl : vs.length + 1 = np)
    (hx : H x = none) (hdx : H dx = none) (hne : dx ≠ x)
    (fin : Fin κ W (rE κ) σ F H (O ++ Oh) (match prep [] 0 hs env with
      | some (ds, env1) => (match den (.obj true c [] :: ds) with
        | .ok .non [some o] => .ok o env1
        | .exc c' fs _ => .exc c' fs env1
        | _ => .stk)
      | none => .stk) Q) : spD κ np [0] den (.ref x :: vs) (upd (upd H dx (.own x)) x (.ins (κ.ca c) dx [])) (fun v H2 => v = .non ∧ Q (.ref x) H2) (WE W σ) := by
  have sm : Same H (upd (upd H dx (.own x)) x (.ins (κ.ca c) dx [])) := fun a o e => by
    rw [upd_ne (ne_of_none e hx), upd_ne (ne_of_none e hdx)]; exact e
  generalize eH : upd (upd H dx (.own x)) x (.ins (κ.ca c) dx []) = HN at sm
  have hxN : HN x = some (.ins (κ.ca c) dx []) := by rw [← eH]; exact upd_same
  have hnN : ∀ a, HN a = none → H a = none := fun a h => by
    rcases none_or (H := H) a with z | ⟨o, z⟩
    · exact z
    · rw [sm a o z] at h; cases h
  cases q : prep [] 0 hs env with
  | none => rw [q] at fin; exact fin.elim
  | some p =>
    obtain ⟨ds, env1⟩ := p
    rw [q] at fin
    dsimp only at fin
    obtain ⟨O1, Oa, S1, l, n1, mm⟩ := prep_ok S xa nd nf q
    obtain ⟨k1, k2, k3⟩ := List.nodup_append.mp n1
    have na : ∀ a ∈ O1 ++ Oa, F a = none := fun a ha => by
      rcases List.mem_append.mp (mm a ha) with h | h
      · exact S.fr a h
      · exact nf a h
    have nx : ∀ a ∈ O1 ++ Oa, a ≠ x := fun a ha e => by
      rcases List.mem_append.mp ha with h | h
      · have := S1.own.mut a h; rw [e, hx] at this; exact this
      · have := l.mut a h; rw [e, hx] at this; exact this
    have SN := S1.grow sm
    have lN : OwnL κ F HN vs ds Oa := l.frame (Same.refl F) (Keeps.same sm) fun a ha => by
      rcases none_or (H := H) a with z | ⟨o, z⟩
      · have := l.mut a ha; rw [z] at this; exact this.elim
      · rw [sm a o z, z]
    have ndx : (x :: Oa).Nodup := List.nodup_cons.mpr ⟨fun h => nx x (List.mem_append_right _ h) rfl, k2⟩
    refine ⟨by rw [List.length_cons, hl], F, .obj true c [] :: ds, x :: Oa, SN.sub, .cons (O1 := [x]) (.objO (fv := []) hxN rfl .nil) lN, ndx, fun a ha => ?_, ?_⟩
    · rcases List.mem_cons.mp ha with h | h
      · rw [h]; exact S.sub.free hx
      · exact na a (List.mem_append_right _ h)
    have P0 : Post F H (O ++ Oh) F HN (O1 ++ (x :: Oa)) := ⟨Same.refl F, fun a o e _ => sm a o e, fun a ha => by
      rcases List.mem_append.mp ha with h | h
      · exact .inl (mm a (List.mem_append_left _ h))
      · rcases List.mem_cons.mp h with h | h
        · exact .inr (h ▸ hx)
        · exact .inl (mm a (List.mem_append_right _ h)), fun a o e => .inl ⟨o, e⟩, Keeps.same sm⟩
    have back : ∀ {F' H' : Hp} {P : List Addr}, Post F HN (x :: Oa) F' H' P → P.Nodup → Same F' H' → Stt κ F' H' σ env1 O1 ∧ (O1 ++ P).Nodup ∧ Post F H (O ++ Oh) F' H' (O1 ++ P) := fun {F' H' P} p np' sm' => by
      have ho : ∀ a ∈ O1, H' a = HN a ∧ a ∉ P ∧ F' a = none := fun a ha => by
        have hm := SN.own.mut a ha
        have hna : a ∉ x :: Oa := fun h => by
          rcases List.mem_cons.mp h with h | h
          · exact nx a (List.mem_append_left _ ha) h
          · exact k3 a ha a h rfl
        rcases none_or (H := HN) a with h | ⟨o, h⟩
        · rw [h] at hm; exact hm.elim
        · refine ⟨by rw [p.fr a o h hna, h], fun hp => ?_, ?_⟩
          · rcases p.own a hp with h1 | h1
            · exact hna h1
            · rw [h] at h1; cases h1
          · rcases none_or (H := F') a with h2 | ⟨u, h2⟩
            · exact h2
            · rcases p.fnew a u h2 with ⟨u', h3⟩ | h3 | h3
              · rw [SN.fr a ha] at h3; cases h3
              · exact (hna h3).elim
              · rw [h] at h3; cases h3
      refine ⟨⟨sm', SN.own.frame p.f p.k fun a ha => (ho a ha).1, SN.nd, fun a ha => (ho a ha).2.2⟩, List.nodup_append.mpr ⟨k1, np', fun a ha b hb e => (ho a ha).2.1 (e ▸ hb)⟩, ?_⟩
      have pw : Post F HN ((x :: Oa) ++ O1) F' H' (P ++ O1) := p.wide
      refine P0.trans (pw.less (fun a ha => ?_) fun a ha => ?_)
      · simp only [List.mem_append, List.mem_cons] at ha ⊢; rcases ha with (h | h) | h <;> simp [h]
      · simp only [List.mem_append] at ha ⊢; rcases ha with h | h <;> simp [h]
    revert fin
    match den (.obj true c [] :: ds) with
    | .stk => exact fun z => z
    | .exc c' fs e =>
        intro z F' H' dx' p sm' xo
        obtain ⟨S', n', P'⟩ := back p List.nodup_nil sm'
        rw [List.append_nil] at P'
        exact z F' H' dx' O1 P' S' xo
    | .ok .non [some o] =>
        intro z F' H' v O' Od p sm' xo y n2 nf2
        cases y
        rw [List.append_nil] at p n2
        refine ⟨rfl, ?_⟩
        have xo : OwnE κ F' H' [some (V.ref x)] [some o] O' := xo
        cases xo with
        | told h t =>
          cases t
          rw [List.append_nil] at p n2 nf2
          obtain ⟨S', n', P'⟩ := back p n2 sm'
          exact z F' H' (.ref x) O1 _ P' S' h n' fun a ha => nf2 a (List.mem_append_left _ ha)
    | .ok .non [] => exact fun z => z.elim
    | .ok .non [none] => exact fun z => z.elim
    | .ok .non (none :: b :: r) => exact fun z => z.elim
    | .ok .non (some a :: b :: r) => exact fun z => z.elim
    | .ok (.bl _) _ => exact fun z => z.elim
    | .ok (.int _) _ => exact fun z => z.elim
    | .ok (.str _) _ => exact fun z => z.elim
    | .ok (.cls _) _ => exact fun z => z.elim
    | .ok (.lst _ _) _ => exact fun z => z.elim
    | .ok (.tup _) _ => exact fun z => z.elim
    | .ok (.dic _ _) _ => exact fun z => z.elim
    | .ok (.dct _ _) _ => exact fun z => z.elim
    | .ok (.set _ _) _ => exact fun z => z.elim
    | .ok (.fro _) _ => exact fun z => z.elim
    | .ok (.obj _ _ _) _ => exact fun z => z.elim
    | .ok (.exn _ _) _ => exact fun z => z.elim
theorem tX_make {np : Nat} {c : String} {den : FD} {fa : M (List Hd)} {σ : St} {H : Hp} {Q : VK} (hn : Many fa np) (h : tX κ W (rE κ) (mMake c den fa) σ H Q) :
    tX κ W (rHs κ) fa σ H fun vs H1 => ∀ x dx, H1 x = none → H1 dx = none → dx ≠ x → spD κ (np + 1) [0] den (.ref x :: vs) (upd (upd H1 dx (.own x)) x (.ins (κ.ca c) dx [])) (fun v H2 => v = .non ∧ Q (.ref x) H2) (WE W σ) := by
  obtain ⟨F, env, O, S, fin⟩ := h
  refine ⟨F, env, O, S, ?_⟩
  unfold mMake M.bind at fin
  revert fin
  cases e : fa env with
  | stk => exact fun z => z
  | exc c fs e2 => exact fun z => z
  | ok a0 e0 =>
    intro fin F' H' b O' Ob P S' r nd n x dx hx hdx hne
    refine make_part (W := W) S' r nd n (by rw [r.length, hn _ _ _ e]) hx hdx hne ?_
    have fin : Fin κ W (rE κ) σ F H O (match prep [] 0 a0 e0 with
      | some (ds, env1) => (match den (.obj true c [] :: ds) with
        | .ok .non [some o] => .ok o env1
        | .exc c' fs _ => .exc c' fs env1
        | _ => .stk)
      | none => .stk) Q := fin
    revert fin
    generalize (match prep [] 0 a0 e0 with
      | some (ds, env1) => (match den (.obj true c [] :: ds) with
        | .ok .non [some o] => R.ok o env1
        | .exc c' fs _ => .exc c' fs env1
        | _ => .stk)
      | none => .stk) = rr
    cases rr with
    | stk => exact fun z => z
    | exc c fs e2 => exact fun z F2 H2 dx O2 P2 S2 x => z F2 H2 dx O2 (P.trans P2) S2 x
    | ok c e2 => exact fun z F2 H2 d O2 Oc P2 S2 r2 nd2 n2 => z F2 H2 d O2 Oc (P.trans P2) S2 r2 nd2 n2
theorem se_make {k : Nat} {C f : Addr} {c : String} {fd : FuncData} {ps : List Str} {x : Str} {p pos : Pos} {e : Expr} {es : List Expr} {np : Nat} {den : FD} {fa : M (List Hd)} (Mc : Mk X.K C f) (hC : κ.ca c = C)
    (Fo : FnOk X.prog X.w X.K X.mg X.base (L2.CX X.prog X.w) k f fd ps (spD κ (np + 1) [0] den)) (hr : Room (k + 1) X.A) (hg : Gl X x) (hm : X.mg x = some (.ref C)) (hb : Binds X.K fd ps [])
    (tk : Takes X W) (ha : SA κ X W (e :: es) fa) (hn : Many fa np) (hdb : (x == ("__debug__" : Str)) = false := by decide) (he : starEach (e :: es) X.env = (false, eval e X.env) :: starEach es X.env := by rfl) (hpl : (backTo pos (starEach es X.env)).any (·.1) = false := by rfl) :
    SE κ X W (.Call (.Name x p) (e :: es) [] pos) (mMake c den fa) :=
  ⟨pe_mono (pe_makeS (E := WE W) Mc Fo hr hg hm hb (fun σ => passAt tk σ) ha.pa hdb he hpl) fun σ H Q q => by subst hC; exact tX_make hn q⟩

/-! ### fields -/
structure FldC (K : PySem.W.Frag) (C : Addr) (f : Str) : Prop where
  c : Cls K C
  n : NoAttr K C f
def oFld (cs : List String) (f : Str) : List D → Option D
  | [.obj _ c fs] => if cs.contains c = true then (match fs.lookup f with
    | some d => if shrd d = true then some d else none
    | none => none) else none
  | _ => none
theorem Own.obj_inv {v : V} {o : Bool} {c : String} {fd : List (Str × D)} {O : List Addr} (sm : Same F H) (x : Own κ F H v (.obj o c fd) O) : ∃ a dx fv O', v = .ref a ∧ H a = some (.ins (κ.ca c) dx fv) ∧ fv.map Prod.fst = fd.map Prod.fst ∧ OwnL κ F H (fv.map Prod.snd) (fd.map Prod.snd) O' := by
  cases x with
  | objS h e l => exact ⟨_, _, _, _, rfl, sm _ _ h, e, l⟩
  | objO h e l => exact ⟨_, _, _, _, rfl, h, e, l⟩
theorem se_fld {e : Expr} {f : Str} {pos : Pos} {g : M Hd} {cs : List String} (he : SH κ X W e g) (ht : ∀ c, cs.contains c = true → FldC X.K (κ.ca c) f) (hb : attributeBase e f X.env (eval e X.env) = eval e X.env := by rfl) :
    SE κ X W (.Attribute e f pos) (mOp (oFld cs f) (m1 g)) :=
  ⟨pe_mono (pe_fld he.pe hb) fun σ H Q q => tX_op1 (r := fun x H1 Q => ∃ a C dx fs v, x = .ref a ∧ H1 a = some (.ins C dx fs) ∧ Cls X.K C ∧ NoAttr X.K C f ∧ fs.lookup f = some v ∧ Q v H1) (fun F H vs ds Os Q d sm x e k => by
    intro y hy
    unfold oFld at e
    split at e
    · rename_i o c fs
      obtain ⟨w, O1, rfl, y1⟩ := x.one
      cases hy
      by_cases hc : cs.contains c = true
      · rw [if_pos hc] at e
        cases q1 : fs.lookup f with
        | none => simp only [q1] at e; cases e
        | some d0 =>
          simp only [q1] at e
          by_cases hs : VS.shrd d0 = true
          · rw [if_pos hs] at e
            cases e
            obtain ⟨a, dx, fv, O', rfl, h1, h2, l⟩ := y1.obj_inv sm
            obtain ⟨v, O2, l1, l2⟩ := OwnL.field h2 l q1
            obtain ⟨t1, t2⟩ := ht c hc
            exact ⟨a, _, dx, fv, v, rfl, h1, t1, t2, l1, same_self k (l2.free hs)⟩
          · rw [if_neg hs] at e; cases e
      · rw [if_neg hc] at e; cases e
    · cases e) q⟩
/-- a class's constant, by an instance -/
structure ConC (K : PySem.W.Frag) (C : Addr) (f : Str) (v : V) : Prop where
  c : Cls K C
  n : ∃ u, Con K C f v u
def oConI (cs : List String) (f : Str) (i : Int) : List D → Option D
  | [.obj _ c fs] => if cs.contains c = true ∧ fs.lookup f = none then some (.int i) else none
  | _ => none
theorem field_none {fv : List (Str × V)} {fd : List (Str × D)} (e : fv.map Prod.fst = fd.map Prod.fst) {f : Str} (h : fd.lookup f = none) : fv.lookup f = none := by
  induction fd generalizing fv with
  | nil => cases fv with
    | nil => rfl
    | cons _ _ => cases e
  | cons p fd ih =>
    cases fv with
    | nil => cases e
    | cons q fv =>
      obtain ⟨g, d0⟩ := p
      obtain ⟨g', v0⟩ := q
      obtain ⟨e1, e2⟩ := List.cons.inj e
      dsimp only at e1
      subst e1
      rw [List.lookup_cons] at h ⊢
      by_cases hb : (f == g') = true
      · rw [hb] at h; cases h
      · have hb : (f == g') = false := Bool.eq_false_iff.mpr hb
        rw [hb] at h ⊢
        exact ih e2 h
theorem se_conI {e : Expr} {f : Str} {pos : Pos} {g : M Hd} {cs : List String} {i : Int} (he : SH κ X W e g) (ht : ∀ c, cs.contains c = true → ConC X.K (κ.ca c) f (.int i)) (hb : attributeBase e f X.env (eval e X.env) = eval e X.env := by rfl) :
    SE κ X W (.Attribute e f pos) (mOp (oConI cs f i) (m1 g)) :=
  ⟨pe_mono (pe_con he.pe hb) fun σ H Q q => tX_op1 (r := fun x H1 Q => ∃ a C dx fs v u, x = .ref a ∧ H1 a = some (.ins C dx fs) ∧ Cls X.K C ∧ Con X.K C f v u ∧ fs.lookup f = none ∧ Q v H1) (fun F H vs ds Os Q d sm x e k => by
    intro y hy
    unfold oConI at e
    split at e
    · rename_i o c fs
      obtain ⟨w, O1, rfl, y1⟩ := x.one
      cases hy
      split at e
      · rename_i hc
        cases e
        obtain ⟨a, dx, fv, O', rfl, h1, h2, l⟩ := y1.obj_inv sm
        obtain ⟨t1, u, t2⟩ := ht c hc.1
        exact ⟨a, _, dx, fv, _, u, rfl, h1, t1, t2, field_none h2 hc.2, same_self k (.int i)⟩
      · cases e
    · cases e) q⟩

/-! ### self.f = e -/
def putD (f : Str) (d : D) : List (Str × D) → List (Str × D)
  | [] => [(f, d)]
  | (g, x) :: r => if g = f then (g, d) :: r else (g, x) :: putD f d r
theorem OwnL.putF {f : Str} {fv : List (Str × V)} {fd : List (Str × D)} {v : V} {d : D} {Od : List Addr} (yv : Own κ F H v d Od) : ∀ {O : List Addr}, fv.map Prod.fst = fd.map Prod.fst → OwnL κ F H (fv.map Prod.snd) (fd.map Prod.snd) O → (O ++ Od).Nodup →
    (L2.putF f v fv).map Prod.fst = (putD f d fd).map Prod.fst ∧ ∃ O', OwnL κ F H ((L2.putF f v fv).map Prod.snd) ((putD f d fd).map Prod.snd) O' ∧ O'.Nodup ∧ ∀ x ∈ O', x ∈ O ++ Od := by
  induction fd generalizing fv with
  | nil =>
    intro O e l nd
    cases fv with
    | nil =>
      cases l
      exact ⟨rfl, Od ++ [], .cons yv .nil, by simpa using nd, fun x hx => by simpa using hx⟩
    | cons _ _ => cases e
  | cons p fd ih =>
    intro O e l nd
    cases fv with
    | nil => cases e
    | cons q fv =>
      obtain ⟨g, d0⟩ := p
      obtain ⟨g', v0⟩ := q
      obtain ⟨e1, e2⟩ := List.cons.inj e
      cases l with
      | @cons _ _ _ _ P1 P2 h1 t =>
        dsimp only at e1
        subst e1
        unfold L2.putF putD
        rw [List.append_assoc] at nd
        obtain ⟨m1, m2, m3⟩ := List.nodup_append.mp nd
        obtain ⟨m4, m5, m6⟩ := List.nodup_append.mp m2
        by_cases hb : g' = f
        · rw [if_pos hb, if_pos hb]
          refine ⟨by simp [e2], Od ++ P2, .cons yv t, List.nodup_append.mpr ⟨m5, m4, fun a ha b hb e => m6 b hb a ha e.symm⟩, fun x hx => ?_⟩
          simp only [List.mem_append] at hx ⊢; rcases hx with h | h <;> simp [h]
        · rw [if_neg hb, if_neg hb]
          obtain ⟨i1, O', i2, i3, i4⟩ := ih e2 t m2
          refine ⟨by simp [i1], P1 ++ O', .cons h1 i2, List.nodup_append.mpr ⟨m1, i3, fun a ha b hb => m3 a ha b (i4 b hb)⟩, fun x hx => ?_⟩
          rw [List.append_assoc]
          rcases List.mem_append.mp hx with h | h
          · exact List.mem_append_left _ h
          · exact List.mem_append_right _ (i4 x h)
def mSetF (i : Nat) (cs : List String) (f : Str) (fe : M D) : M Fl := M.bind fe fun d env => match (env[i]?).join with
  | some (.obj true c fs) => if cs.contains c = true ∧ fs.length < 1000 then .ok .nx (env.set i (some (.obj true c (putD f d fs)))) else .stk
  | _ => .stk
theorem ss_fld {x f : Str} {i : Nat} {p p' pos : Pos} {value : Expr} {fe : M D} {cs : List String} (hx : PE X (.Name x p) (tVar i)) (he : SE κ X W value fe) (ht : ∀ c, cs.contains c = true → FldC X.K (κ.ca c) f)
    (hs : swapsWith value (some (.Attribute (.Name x p) f p')) pos.line X.env = pure false := by rfl) : SS κ X W pi (.Assign [.Attribute (.Name x p) f p'] value pos) (mSetF i cs f fe) :=
  ⟨ps_mono (ps_fld hx he.pe hs) fun Dn σ H q => tX_imp (tS_part q) fun b H1 ⟨d, F1, env1, O1, Ob, S1, r, nd, n, fin⟩ => by
    split at fin
    · rename_i c fs q
      by_cases hc : cs.contains c = true ∧ fs.length < 1000
      · rw [if_pos hc] at fin
        obtain ⟨v, A, Oi, B, Z⟩ := S1.slot (join_some q)
        have y := Z.own
        cases y with
        | @objO a dx _ fv _ Oc ha e l =>
          obtain ⟨t1, t2⟩ := ht c hc.1
          refine ⟨_, Z.hv, a, _, dx, fv, rfl, ha, t1, t2, ?_, ?_⟩
          · have : (fv.map Prod.fst).length = (fs.map Prod.fst).length := by rw [e]
            rw [List.length_map, List.length_map] at this
            rw [this]; exact hc.2
          · have ndi : ((a :: Oc) ++ Ob).Nodup := Z.nodup S1 nd
            have nac := (List.nodup_cons.mp ndi).1
            have fr : ∀ o, ∀ b ∈ Oc ++ Ob, upd H1 a o b = H1 b := fun o b hb => upd_ne fun e => nac (e ▸ hb)
            have kp : ∀ fv', Keeps H1 (upd H1 a (.ins (κ.ca c) dx fv')) := fun fv' => ⟨fun b ys h => by
              rw [upd_ne (ne_of h ha (by intro q; cases q))]; exact h, fun b ob u h => by
              rw [upd_ne (ne_of h ha (by intro q; cases q))]; exact h⟩
            obtain ⟨e', O', l', nd', mm⟩ := OwnL.putF (f := f) r e l (List.nodup_cons.mp ndi).2
            have na' : a ∉ O' := fun h => nac (mm a h)
            obtain ⟨O2, S2, P2, nd2, nf2⟩ := S1.turn (o := .ins (κ.ca c) dx (L2.putF f b fv)) (d' := .obj true c (putD f d fs)) (Oi' := a :: O') (Od := []) Z nd n List.mem_cons_self
              (.objO upd_same e' (l'.frame (Same.refl F1) (kp _) fun b hb => fr _ b (mm b hb))) (by rw [List.append_nil]; exact List.nodup_cons.mpr ⟨na', nd'⟩) fun x hx => by
                rw [List.append_nil] at hx
                exact (List.mem_cons.mp hx).elim (fun e => by rw [e]; exact List.mem_cons_self) fun h => List.mem_cons_of_mem _ (mm x h)
            rw [List.append_nil] at P2
            exact fin F1 _ σ O2 P2 S2 PinEq.refl
      · rw [if_neg hc] at fin; exact fin.elim
    · exact fin.elim⟩
end VS
set_option Elab.async false
set_option linter.all false
set_option maxRecDepth 100000
set_option maxHeartbeats 1000000
namespace VS
open PySem L2
variable {κ : Kc} {W : WX} {pi : List Nat} {F F' F1 F2 H H' H1 H2 : Hp} {X : Cx}

/-! ### a module's dict of texts by texts -/
def EntsS : List DictEntry → List (Str × Str) → Prop
  | [], [] => True
  | e :: es, p :: ps => (∃ t t', e.key = .str p.1 t ∧ e.val = .str p.2 t') ∧ EntsS es ps
  | _, _ => False
structure KTab (K : PySem.W.Frag) (w : World) (a : Addr) (tab : List (Str × Str)) : Prop where
  ex : ∃ es n, K.lookup a = some ⟨.type "dict", none, .dict es n, #[]⟩ ∧ PySem.W.KeysLit w.params es.toList ∧ EntsS es.toList tab
  low : (a == sysModules) = false
theorem ents_find : ∀ {l : List DictEntry} {tab : List (Str × Str)}, EntsS l tab → ∀ x, RelO ((tab.lookup x).map V.str) ((l.find? fun e => Value.isStrOf x e.key).map (·.val))
  | [], [], _, x => True.intro
  | e :: es, (k, d) :: ps, h, x => by
    obtain ⟨⟨t, t', e1, e2⟩, h2⟩ := h
    rw [List.lookup_cons, List.find?_cons, e1]
    show RelO (Option.map V.str (match x == k with | true => some d | false => ps.lookup x)) (Option.map _ (match (k == x) with | true => some e | false => es.find? fun e => _))
    by_cases hb : x = k
    · subst hb
      rw [beq_self_eq_true]
      show RelV (.str d) e.val
      rw [e2]
      exact ⟨t', rfl⟩
    · have h1 : (x == k) = false := beq_eq_false_iff_ne.mpr hb
      have h2' : (k == x) = false := beq_eq_false_iff_ne.mpr fun z => hb z.symm
      rw [h1, h2']
      exact ents_find h2 x
  | [], _ :: _, h, _ => h.elim
  | _ :: _, [], h, _ => h.elim
/-- the dict at a, as an operand -/
def ixK (tab : List (Str × Str)) : List D → Option D
  | [.str x] => (tab.lookup x).map .str
  | _ => none
def inK (neg : Bool) (tab : List (Str × Str)) : List D → Option D
  | [.str x] => some (.bl (if neg then !(tab.lookup x).isSome else (tab.lookup x).isSome))
  | _ => none
theorem find_ents {es : Array DictEntry} {tab : List (Str × Str)} (h : EntsS es.toList tab) (x : Str) : RelO ((tab.lookup x).map V.str) (PySem.findBy Value.isStrOf es x) := by
  obtain ⟨l⟩ := es
  unfold findBy
  rw [List.find?_toArray]
  exact ents_find h x
def rIxK (a : Addr) (tab : List (Str × Str)) : R2 := fun x y H Q => ∃ z w, x = .ref a ∧ y = .str z ∧ tab.lookup z = some w ∧ Q (.str w) H
theorem ix_ktab {a : Addr} {tab : List (Str × Str)} (T : KTab X.K X.w a tab) : IxR X (rIxK a tab) := by
  intro value slice pins s σ H x y v u Q I rx ry h hs
  obtain ⟨z, r, rfl, rfl, e, q⟩ := h
  obtain ⟨es, n, hl, hk, he⟩ := T.ex
  obtain rfl : v = Value.ref a := rx
  obtain ⟨t, rfl⟩ := ry
  have hm := PySem.W.mapOf_K (prog := X.prog) (w := X.w) I.kIn hl hk
  have hf := find_ents he z
  rw [e] at hf
  cases q2 : PySem.findBy Value.isStrOf es z with
  | none => rw [q2] at hf; exact hf.elim
  | some u0 =>
    rw [q2] at hf
    exact PyProof.Rows.tail_any hm.typeIs slot_dict_getitem.lookup (wpAny_getItem_of (strKind_is X.prog X.w z t) hm q2 ⟨.str r, H, I.tok _, hf, q⟩) hs
def rInK (a : Addr) (neg : Bool) (tab : List (Str × Str)) : R2 := fun x y H Q => ∃ z, y = .ref a ∧ x = .str z ∧ Q (.bl (if neg then !(tab.lookup z).isSome else (tab.lookup z).isSome)) H
theorem isSome_relO {o : Option V} {r : Option Value} (h : RelO o r) : o.isSome = r.isSome := by
  cases o <;> cases r <;> first | rfl | exact h.elim
theorem or_inK {a : Addr} {tab : List (Str × Str)} (T : KTab X.K X.w a tab) : OpR X (compareOp .In) (rInK a false tab) := by
  intro pins s σ H x y v u Q I rx ry h
  obtain ⟨z, rfl, rfl, q⟩ := h
  obtain ⟨es, n, hl, hk, he⟩ := T.ex
  obtain rfl : u = Value.ref a := ry
  obtain ⟨t, rfl⟩ := rx
  have hm := PySem.W.mapOf_K (prog := X.prog) (w := X.w) I.kIn hl hk
  have hf := isSome_relO (find_ents he z)
  rw [Option.isSome_map] at hf
  refine wpAny_in_of (strKind_is X.prog X.w z t) T.low hm ?_
  rw [← hf]
  exact ⟨.bl _, H, I.tok _, rfl, q⟩
theorem or_notInK {a : Addr} {tab : List (Str × Str)} (T : KTab X.K X.w a tab) : OpR X (compareOp .NotIn) (rInK a true tab) := by
  intro pins s σ H x y v u Q I rx ry h
  obtain ⟨z, rfl, rfl, q⟩ := h
  obtain ⟨es, n, hl, hk, he⟩ := T.ex
  obtain rfl : u = Value.ref a := ry
  obtain ⟨t, rfl⟩ := rx
  have hm := PySem.W.mapOf_K (prog := X.prog) (w := X.w) I.kIn hl hk
  have hf := isSome_relO (find_ents he z)
  rw [Option.isSome_map] at hf
  refine wpAny_notIn_of (strKind_is X.prog X.w z t) T.low hm ?_
  rw [← hf]
  exact ⟨.bl _, H, I.tok _, rfl, q⟩
theorem ok_ixK {a : Addr} {tab : List (Str × Str)} : OpOk κ (on1 fun y H Q => rIxK a tab (.ref a) y H Q) (ixK tab) := by
  intro F H vs ds Os Q d sm x e k y hy
  unfold ixK at e
  split at e
  · rename_i z
    obtain ⟨v, O1, rfl, p⟩ := x.one
    cases hy
    rw [p.str_inv]
    obtain ⟨w, e1, rfl⟩ := Option.map_eq_some_iff.mp e
    exact ⟨z, w, rfl, rfl, e1, same_self k (.str w)⟩
  · cases e
theorem ok_inK {a : Addr} {neg : Bool} {tab : List (Str × Str)} : OpOk κ (on1 fun y H Q => rInK a neg tab y (.ref a) H Q) (inK neg tab) := by
  intro F H vs ds Os Q d sm x e k y hy
  unfold inK at e
  split at e
  · rename_i z
    obtain ⟨v, O1, rfl, p⟩ := x.one
    cases hy
    cases e
    rw [p.str_inv]
    exact ⟨z, rfl, rfl, same_self k (.bl _)⟩
  · cases e
theorem se_ixK {g : Str} {b : Expr} {pos p : Pos} {f : M Hd} {a : Addr} {tab : List (Str × Str)} (T : KTab X.K X.w a tab) (hg : Gl X g) (hm : X.mg g = some (.ref a)) (hb : SH κ X W b f) (hs : PlainIx b := by exact fun _ _ => rfl)
    (hd : (g == ("__debug__" : Str)) = false := by decide) : SE κ X W (.Subscript (.Name g p) b pos) (mOp (ixK tab) (m1 f)) :=
  ⟨pe_mono (pe_ix (ix_ktab T) (pe_glob (v := .ref a) hg hm rfl hd) hb.pe hs) fun _ _ _ q => tX_op1 ok_ixK q⟩
theorem se_inK {g : Str} {b : Expr} {pos p : Pos} {f : M Hd} {a : Addr} {tab : List (Str × Str)} (T : KTab X.K X.w a tab) (hg : Gl X g) (hm : X.mg g = some (.ref a)) (hb : SH κ X W b f) (hmk : behindInMarks .In (.Name g p) = false := by rfl)
    (hd : (g == ("__debug__" : Str)) = false := by decide) : SE κ X W (.Compare b [.In] [.Name g p] pos) (mOp (inK false tab) (m1 f)) :=
  ⟨pe_mono (pe_cmpR (or_inK T) hb.pe (pe_glob (v := .ref a) hg hm rfl hd) hmk) fun _ _ _ q => tX_op1 ok_inK q⟩
theorem se_notInK {g : Str} {b : Expr} {pos p : Pos} {f : M Hd} {a : Addr} {tab : List (Str × Str)} (T : KTab X.K X.w a tab) (hg : Gl X g) (hm : X.mg g = some (.ref a)) (hb : SH κ X W b f) (hmk : behindInMarks .NotIn (.Name g p) = false := by rfl)
    (hd : (g == ("__debug__" : Str)) = false := by decide) : SE κ X W (.Compare b [.NotIn] [.Name g p] pos) (mOp (inK true tab) (m1 f)) :=
  ⟨pe_mono (pe_cmpR (or_notInK T) hb.pe (pe_glob (v := .ref a) hg hm rfl hd) hmk) fun _ _ _ q => tX_op1 ok_inK q⟩

/-! ### xs[i] = v, the list in a slot -/
def isLst (env : VS.Env) (i : Nat) : Bool := match (env[i]?).join with
  | some (.lst true _) => true
  | _ => false
/-- a value, then (slot i holds an owned list) an index -/
def mPair (i : Nat) (fe : M D) (fi : M Hd) : M (D × Hd) := M.bind fe fun d env => if isLst env i = true then M.bind fi (fun h => M.ret (d, h)) env else .stk
def relP (κ : Kc) : Rel (D × Hd) (V × V) := fun σ F H v d O => ∃ O1 O2, O = O1 ++ O2 ∧ Own κ F H v.1 d.1 O1 ∧ OwnH κ σ F H v.2 d.2 O2
theorem tX_pair {i : Nat} {fe : M D} {fi : M Hd} {σ : St} {H : Hp} {Q : V × V → Hp → Prop} (h : tX κ W (relP κ) (mPair i fe fi) σ H Q) : tX κ W (rE κ) fe σ H fun x H1 => ∃ v, σ[i]? = some (some v) ∧ tX κ W (rH κ) fi σ H1 fun y H2 => Q (x, y) H2 :=
  tX_imp (tX_part (rel := rE κ) h) fun x H1 ⟨a, F1, env1, O1, Ob, S1, r, nd, n, fin⟩ => by
    by_cases hl : isLst env1 i = true
    · rw [if_pos hl] at fin
      unfold isLst at hl
      split at hl
      · rename_i ds q0
        obtain ⟨a0, xs0, hv, _⟩ := lst_at S1 q0
        refine ⟨_, hv, F1, env1, O1, S1, ?_⟩
        have q := Fin.part (rel := rH κ) (PD := fun F H O => Own κ F H x a O) (fun _ _ _ _ _ x f k h => x.frame f k h) S1 r nd n r.mut fin
        revert q
        cases fi env1 with
        | stk => exact fun z => z
        | exc c fs e2 => exact fun z => z
        | ok as e3 =>
          intro z F' H' bs O' Obs P S' r nd n
          obtain ⟨as, F2, env2, O2, Ob2, S2, x2, r2, nd2, n2, _, fin2⟩ := z F' H' bs O' Obs P S' r nd n
          exact fin2 F2 H' (x, bs) O2 (Ob ++ Ob2) Post.refl S2 ⟨_, _, rfl, x2, r2⟩ nd2 n2
      · cases hl
    · rw [if_neg hl] at fin; exact fin.elim
def mSetIx (i : Nat) (fe : M D) (fi : M Hd) : M Fl := M.bind (mPair i fe fi) fun p env => match (env[i]?).join, p.2.get env with
  | some (.lst true ds), some (.int k) => (match ixN ds.length k with
    | some j => .ok .nx (env.set i (some (.lst true (ds.set j p.1))))
    | none => .stk)
  | _, _ => .stk
theorem OwnL.setAt {vs : List V} {ds : List D} {v : V} {d : D} {Od : List Addr} (yv : Own κ F H v d Od) : ∀ {O : List Addr} {j : Nat}, OwnL κ F H vs ds O → (O ++ Od).Nodup → j < ds.length → ∃ O', OwnL κ F H (vs.set j v) (ds.set j d) O' ∧ O'.Nodup ∧ ∀ x ∈ O', x ∈ O ++ Od := by
  induction ds generalizing vs with
  | nil => intro O j l nd hj; cases hj
  | cons d0 ds ih =>
    intro O j l nd hj
    cases l with
    | @cons v0 _ vs _ P1 P2 h1 t =>
      rw [List.append_assoc] at nd
      obtain ⟨m1, m2, m3⟩ := List.nodup_append.mp nd
      obtain ⟨m4, m5, m6⟩ := List.nodup_append.mp m2
      cases j with
      | zero =>
        refine ⟨Od ++ P2, .cons yv t, List.nodup_append.mpr ⟨m5, m4, fun a ha b hb e => m6 b hb a ha e.symm⟩, fun x hx => ?_⟩
        simp only [List.mem_append] at hx ⊢; rcases hx with h | h <;> simp [h]
      | succ j =>
        obtain ⟨O', i2, i3, i4⟩ := ih t m2 (Nat.lt_of_succ_lt_succ hj)
        refine ⟨P1 ++ O', .cons h1 i2, List.nodup_append.mpr ⟨m1, i3, fun a ha b hb => m3 a ha b (i4 b hb)⟩, fun x hx => ?_⟩
        rw [List.append_assoc]
        rcases List.mem_append.mp hx with h | h
        · exact List.mem_append_left _ h
        · exact List.mem_append_right _ (i4 x h)
theorem ss_setIx {x : Str} {i : Nat} {p p' pos : Pos} {ie value : Expr} {fe : M D} {fi : M Hd} (hx : PE X (.Name x p) (tVar i)) (he : SE κ X W value fe) (hi : SH κ X W ie fi)
    (ha : ∀ v, assign (.Subscript (.Name x p) ie p') X.env v = (do
      let ov ← holding [v] (eval (.Name x p) X.env)
      let iv ← holding [v, ov] (eval ie X.env)
      standAt p'
      holding [v, ov, iv] (setItem ov iv v)
      release [v, ov, iv] []) := by intro _; rfl)
    (hs : swapsWithSole [.Subscript (.Name x p) ie p'] value pos.line X.env = pure false := by rfl) (hw : swappedStores [.Subscript (.Name x p) ie p'] value X.env = pure none := by rfl)
    (h1 : (assignEach [.Subscript (.Name x p) ie p'] X.env).map (·.2) = [assign (.Subscript (.Name x p) ie p') X.env] := by rfl) : SS κ X W pi (.Assign [.Subscript (.Name x p) ie p'] value pos) (mSetIx i fe fi) :=
  ⟨ps_mono (ps_asg he.pe (pg_sub hx hi.pe set_list ha) hs hw h1) fun Dn σ H q => tX_imp (tX_pair (tS_part (rel := relP κ) q)) fun b H1 ⟨v, hv, q3⟩ => ⟨v, hv, tX_imp q3 fun y H2 ⟨⟨d, h⟩, F1, env1, O1, Ob, S1, ⟨Pa, Pb, eP, r1, r2⟩, nd, n, fin⟩ => by
    subst eP
    dsimp only at fin r1 r2
    split at fin
    · rename_i ds k q q'
      cases qj : ixN ds.length k with
      | none => simp only [qj] at fin; exact fin.elim
      | some j =>
        simp only [qj] at fin
        obtain ⟨v', A, Oi, B, Z⟩ := S1.slot (join_some q)
        have hv' := Z.hv
        rw [hv] at hv'
        cases hv'
        obtain ⟨Ok, yk⟩ := r2.look S1 q'
        have ek := yk.int_inv
        have yl := Z.own
        cases yl with
        | @lstO a xs _ Oc hal l =>
          have hlen := l.length
          obtain ⟨_, hj, _, _⟩ := ixN_seq qj
          have nd' : (O1 ++ Pa).Nodup := nd.sublist (List.Sublist.append (List.Sublist.refl O1) (List.sublist_append_left Pa Pb))
          have ndi : ((a :: Oc) ++ Pa).Nodup := Z.nodup S1 nd'
          have nac := (List.nodup_cons.mp ndi).1
          obtain ⟨O', l', n', mm⟩ := OwnL.setAt r1 l (List.nodup_cons.mp ndi).2 hj
          have na' : a ∉ O' := fun h => nac (mm a h)
          have kp : ∀ ys, Keeps H2 (upd H2 a (.lst ys)) := fun ys => ⟨fun b ys h => by
            rw [upd_ne (ne_of h hal (by intro q; cases q))]; exact h, fun b ob u h => by
            rw [upd_ne (ne_of h hal (by intro q; cases q))]; exact h⟩
          refine ⟨a, xs, k, j, rfl, ek, hal, by rw [hlen]; exact qj, ?_⟩
          obtain ⟨O2, S2, P2, nd2, nf2⟩ := S1.turn (o := .lst (xs.set j b)) (d' := .lst true (ds.set j d)) (Oi' := a :: O') (Od := []) Z nd' (fun x hx => n x (List.mem_append_left _ hx)) List.mem_cons_self
            (.lstO upd_same (l'.frame (Same.refl F1) (kp _) fun b hb => upd_ne fun e => na' (e ▸ hb))) (by rw [List.append_nil]; exact List.nodup_cons.mpr ⟨na', n'⟩) fun x hx => by
              rw [List.append_nil] at hx
              exact (List.mem_cons.mp hx).elim (fun e => by rw [e]; exact List.mem_cons_self) fun h => List.mem_cons_of_mem _ (mm x h)
          rw [List.append_nil] at P2
          exact fin F1 _ σ O2 (P2.less (fun x hx => by simp only [List.mem_append] at hx ⊢; rcases hx with h | h <;> simp [h]) fun _ h => h) S2 PinEq.refl
    · exact fin.elim⟩⟩
end VS
set_option Elab.async false
set_option linter.all false
set_option maxRecDepth 100000
set_option maxHeartbeats 1000000
namespace VS
open PySem L2
variable {κ : Kc} {W : WX} {pi : List Nat} {F F' F1 F2 H H' H1 H2 : Hp} {X : Cx}
/-! ### a < b <= c, of numbers -/
def mInt (f : M Hd) : M Int := M.bind f fun h env => match h.get env with
  | some (.int i) => .ok i env
  | _ => .stk
def rI2 : Rel Int V := fun _ _ _ b a O => b = V.int a ∧ O = []
theorem tX_int {f : M Hd} {σ : St} {H : Hp} {Q : V → Hp → Prop} (h : tX κ W rI2 (mInt f) σ H Q) : tX κ W (rH κ) f σ H Q := by
  obtain ⟨F, env, O, S, fin⟩ := h
  refine ⟨F, env, O, S, ?_⟩
  have q := Fin.first (rel := rH κ) S fin
  revert q
  cases f env with
  | stk => exact fun z => z
  | exc c fs e => exact fun z => z
  | ok a e =>
    intro z F' H' b O' Ob P S' r nd n
    obtain ⟨a, F1, env1, O1, Ob1, S1, r1, nd1, n1, fin1⟩ := z F' H' b O' Ob P S' r nd n
    cases q1 : a.get env1 with
    | none => simp only [q1] at fin1; exact fin1.elim
    | some d =>
      simp only [q1] at fin1
      cases d with
      | int i =>
        obtain ⟨Od, y⟩ := OwnH.look S1 r1 q1
        rw [y.int_inv]
        exact fin1 F1 H' (.int i) O1 [] (Post.refl.less (fun _ h => h) fun a h => List.mem_append_left _ (by simpa using h)) S1 ⟨rfl, rfl⟩ (by rw [List.append_nil]; exact S1.nd) fun x hx => nomatch hx
      | _ => exact fin1.elim
def mChain (g1 g2 : Int → Int → Bool) (f g h : M Hd) : M D := M.bind (mInt f) fun i => M.bind (mInt g) fun j => if g1 i j = true then M.bind (mInt h) fun k => M.ret (.bl (g2 j k)) else M.ret (.bl false)
theorem se_chain {a b c : Expr} {op op' : CmpOp} {pos : Pos} {r r' : R2} {g1 g2 : Int → Int → Bool} {f g h : M Hd} (ho : OpR X (compareOp op) r) (ho' : OpR X (compareOp op') r') (h1 : ∀ i j H (Q : VK), Q (.bl (g1 i j)) H → r (.int i) (.int j) H Q) (h2 : ∀ i j H (Q : VK), Q (.bl (g2 i j)) H → r' (.int i) (.int j) H Q)
    (ha : SH κ X W a f) (hb : SH κ X W b g) (hc : SH κ X W c h) (hm : lastMarks [op, op'] [b, c] = false := by with_unfolding_all rfl) : SE κ X W (.Compare a [op, op'] [b, c] pos) (mChain g1 g2 f g h) :=
  ⟨pe_mono (pe_chain ho ho' ha.pe hb.pe hc.pe hm) fun σ H Q q => tX_int (tX_imp (tX_part (rel := rI2) q) fun x H1 ⟨i, F1, env1, O1, Ob, S1, r1, nd, n, fin⟩ => by
    obtain ⟨rfl, rfl⟩ := r1
    rw [List.append_nil] at fin
    have q2 : tX κ W (rE κ) (M.bind (mInt g) fun j => if g1 i j = true then M.bind (mInt h) fun k => M.ret (.bl (g2 j k)) else M.ret (.bl false)) σ H1 Q := ⟨F1, env1, O1, S1, fin⟩
    refine tX_int (tX_imp (tX_part (rel := rI2) q2) fun y H2 ⟨j, F2, env2, O2, Ob2, S2, r2, nd2, n2, fin2⟩ => ?_)
    obtain ⟨rfl, rfl⟩ := r2
    rw [List.append_nil] at fin2
    refine h1 i j H2 _ ⟨_, rfl, ?_⟩
    cases hg : g1 i j with
    | true =>
      rw [hg, if_pos rfl] at fin2
      rw [if_pos rfl]
      have q3 : tX κ W (rE κ) (M.bind (mInt h) fun k => M.ret (.bl (g2 j k))) σ H2 Q := ⟨F2, env2, O2, S2, fin2⟩
      refine tX_int (tX_imp (tX_part (rel := rI2) q3) fun z H3 ⟨k, F3, env3, O3, Ob3, S3, r3, nd3, n3, fin3⟩ => ?_)
      obtain ⟨rfl, rfl⟩ := r3
      rw [List.append_nil] at fin3
      exact h2 j k H3 Q (fin_self S3 (.bl _) fin3)
    | false =>
      rw [hg, if_neg Bool.false_ne_true] at fin2
      rw [if_neg Bool.false_ne_true]
      exact fin_self S2 (.bl _) fin2)⟩
theorem se_chainLtLe {a b c : Expr} {pos : Pos} {f g h : M Hd} (ha : SH κ X W a f) (hb : SH κ X W b g) (hc : SH κ X W c h) (hm : lastMarks [.Lt, .LtE] [b, c] = false := by with_unfolding_all rfl) : SE κ X W (.Compare a [.Lt, .LtE] [b, c] pos) (mChain (fun i j => decide (i < j)) (fun i j => decide (i ≤ j)) f g h) :=
  se_chain op_lt op_le (fun i j H Q q => ⟨i, j, rfl, rfl, q⟩) (fun i j H Q q => ⟨i, j, rfl, rfl, q⟩) ha hb hc hm
end VS
set_option Elab.async false
set_option linter.all false
set_option maxRecDepth 100000
set_option maxHeartbeats 1000000
namespace VS
open PySem L2
variable {κ : Kc} {W : WX} {pi : List Nat} {F F' F1 F2 H H' H1 H2 : Hp} {X : Cx}
section
variable {a b : Expr} {pos : Pos} {f g : M Hd}
theorem st_lt (ha : SH κ X W a f) (hb : SH κ X W b g) (hm : behindInMarks .Lt b = false := by rfl) : ST κ X W (.Compare a [.Lt] [b] pos) (mB (mOp oLt (m2 f g))) :=
  st_cmp (op_lt.or op_lt_str) (ok_is (fun i j H Q q => ⟨i, j, rfl, rfl, q⟩) (fun i j H Q q => ⟨i, j, rfl, rfl, q⟩) fun ds d e => by
    unfold oLt at e
    split at e <;> cases e
    · exact .inl ⟨_, _, rfl, rfl⟩
    · exact .inr ⟨_, _, rfl, rfl⟩) ha hb hm
theorem st_le (ha : SH κ X W a f) (hb : SH κ X W b g) (hm : behindInMarks .LtE b = false := by rfl) : ST κ X W (.Compare a [.LtE] [b] pos) (mB (mOp oLe (m2 f g))) :=
  st_cmp (op_le.or op_le_str) (ok_is (fun i j H Q q => ⟨i, j, rfl, rfl, q⟩) (fun i j H Q q => ⟨i, j, rfl, rfl, q⟩) fun ds d e => by
    unfold oLe at e
    split at e <;> cases e
    · exact .inl ⟨_, _, rfl, rfl⟩
    · exact .inr ⟨_, _, rfl, rfl⟩) ha hb hm
theorem st_gt (ha : SH κ X W a f) (hb : SH κ X W b g) (hm : behindInMarks .Gt b = false := by rfl) : ST κ X W (.Compare a [.Gt] [b] pos) (mB (mOp oGt (m2 f g))) :=
  st_cmp (op_gt.or op_gt_str) (ok_is (fun i j H Q q => ⟨i, j, rfl, rfl, q⟩) (fun i j H Q q => ⟨i, j, rfl, rfl, q⟩) fun ds d e => by
    unfold oGt at e
    split at e <;> cases e
    · exact .inl ⟨_, _, rfl, rfl⟩
    · exact .inr ⟨_, _, rfl, rfl⟩) ha hb hm
theorem st_ge (ha : SH κ X W a f) (hb : SH κ X W b g) (hm : behindInMarks .GtE b = false := by rfl) : ST κ X W (.Compare a [.GtE] [b] pos) (mB (mOp oGe (m2 f g))) :=
  st_cmp (op_ge.or op_ge_str) (ok_is (fun i j H Q q => ⟨i, j, rfl, rfl, q⟩) (fun i j H Q q => ⟨i, j, rfl, rfl, q⟩) fun ds d e => by
    unfold oGe at e
    split at e <;> cases e
    · exact .inl ⟨_, _, rfl, rfl⟩
    · exact .inr ⟨_, _, rfl, rfl⟩) ha hb hm
theorem st_eq (hr : UR X.A) (ha : SH κ X W a f) (hb : SH κ X W b g) (hm : behindInMarks .Eq b = false := by rfl) (hk : X.K = κ.K := by rfl) : ST κ X W (.Compare a [.Eq] [b] pos) (mB (mOp oEq (m2 f g))) :=
  st_cmp (r := rEqD κ.K) (by rw [← hk]; exact op_eqD hr.units) ok_eq ha hb hm
theorem st_ne (hr : UR X.A) (ha : SH κ X W a f) (hb : SH κ X W b g) (hm : behindInMarks .NotEq b = false := by rfl) (hk : X.K = κ.K := by rfl) : ST κ X W (.Compare a [.NotEq] [b] pos) (mB (mOp oNe (m2 f g))) :=
  st_cmp (r := rNeD κ.K) (by rw [← hk]; exact op_neD hr.units) ok_ne ha hb hm
theorem st_in (hr : UR X.A) (ha : SH κ X W a f) (hb : SH κ X W b g) (hm : behindInMarks .In b = false := by rfl) (ho : κ.On X := by exact ⟨rfl, rfl, rfl⟩) : ST κ X W (.Compare a [.In] [b] pos) (mB (mOp oIn (m2 f g))) :=
  st_cmp (r := rInU κ.K κ.P κ.w false) (by rw [← ho.K, ← ho.P, ← ho.w]; exact or_inU hr) ok_in ha hb hm
theorem st_notIn (hr : UR X.A) (ha : SH κ X W a f) (hb : SH κ X W b g) (hm : behindInMarks .NotIn b = false := by rfl) (ho : κ.On X := by exact ⟨rfl, rfl, rfl⟩) : ST κ X W (.Compare a [.NotIn] [b] pos) (mB (mOp oNotIn (m2 f g))) :=
  st_cmp (r := rInU κ.K κ.P κ.w true) (by rw [← ho.K, ← ho.P, ← ho.w]; exact or_notInU hr) ok_notIn ha hb hm
theorem st_is (ha : SH κ X W a f) (hb : SH κ X W b g) (hm : behindInMarks .Is b = false := by rfl) : ST κ X W (.Compare a [.Is] [b] pos) (mB (mOp oIs (m2 f g))) := st_cmp op_isN ok_isN ha hb hm
theorem st_isNot (ha : SH κ X W a f) (hb : SH κ X W b g) (hm : behindInMarks .IsNot b = false := by rfl) : ST κ X W (.Compare a [.IsNot] [b] pos) (mB (mOp oIsNot (m2 f g))) := st_cmp op_notN ok_isNotN ha hb hm
end
/-- a comparison with one operand in hand, as a test -/
theorem st_cmp1 {a b : Expr} {op : CmpOp} {pos : Pos} {r : R2} {tb : TE} {o : List D → Option D} {f : M Hd} {y : V} (ho : OpR X (compareOp op) r) (ok : OpOk κ (on1 fun x H Q => r x y H Q) o) (ha : SH κ X W a f) (hb : PE X b (tC y)) (hm : behindInMarks op b = false := by rfl) :
    ST κ X W (.Compare a [op] [b] pos) (mB (mOp o (m1 f))) :=
  ⟨pt_mono (pt_cmpR ho ha.pe hb hm) fun _ _ _ q => tX_op1 (r := fun x H Q => r x y H Q) ok (tX_B q)⟩
section
variable {g : Str} {b : Expr} {pos p : Pos} {f : M Hd} {a : Addr} {tab : List (Str × Str)}
theorem st_inK (T : KTab X.K X.w a tab) (hg : Gl X g) (hm : X.mg g = some (.ref a)) (hb : SH κ X W b f) (hmk : behindInMarks .In (.Name g p) = false := by rfl)
    (hd : (g == ("__debug__" : Str)) = false := by decide) : ST κ X W (.Compare b [.In] [.Name g p] pos) (mB (mOp (inK false tab) (m1 f))) :=
  st_cmp1 (tb := tC (.ref a)) (or_inK T) ok_inK hb (pe_glob (v := .ref a) hg hm rfl hd) hmk
theorem st_notInK (T : KTab X.K X.w a tab) (hg : Gl X g) (hm : X.mg g = some (.ref a)) (hb : SH κ X W b f) (hmk : behindInMarks .NotIn (.Name g p) = false := by rfl)
    (hd : (g == ("__debug__" : Str)) = false := by decide) : ST κ X W (.Compare b [.NotIn] [.Name g p] pos) (mB (mOp (inK true tab) (m1 f))) :=
  st_cmp1 (tb := tC (.ref a)) (or_notInK T) ok_inK hb (pe_glob (v := .ref a) hg hm rfl hd) hmk
end
theorem ss_raiseN {c : String} {C fI cda cc : Addr} {P : SupP} {fd : FuncData} {k : Nat} {x fn : Str} {e : Expr} {p pos pos2 : Pos} {f : M D} (S : SupK X.prog X.K C fI P fd cda cc) (T : OexC X.K C)
    (iC : PySem.W.findIn X.K (.ref C) "__init__" = some (some (.ref fI))) (tI : PySem.W.typeIn X.K (.ref fI) = some (.type "function")) (hfn : P.f = fn) (hC : κ.ca c = C) (hr : Room (k + 1) X.A)
    (hg : Gl X x) (hm : X.mg x = some (.ref C)) (hms : X.mg "super" = none) (tk : Takes X W) (hcalm : X.calm = true) (he : SE κ X W e f) (hdb : (x == ("__debug__" : Str)) = false := by decide)
    (hst : starEach (e :: []) X.env = (false, eval e X.env) :: starEach [] X.env := by rfl) (hpl : (backTo pos (starEach [] X.env)).any (·.1) = false := by rfl) :
    SS κ X W pi (.Raise (some (.Call (.Name x p) [e] [] pos)) none pos2) (mRaise c fn f) := by
  subst hfn
  exact ss_raise S T iC tI hC hr hg hm hms tk hcalm he hdb hst hpl
/-- a module's constant -/
theorem se_gi {x : Str} {pos : Pos} {i : Int} (hg : Gl X x) (h : ∃ u, X.mg x = some u ∧ RelV (.int i) u) (hd : (x == ("__debug__" : Str)) = false := by decide) : SE κ X W (.Name x pos) (M.ret (.int i)) := by
  obtain ⟨u, hm, r⟩ := h
  exact se_gint hg hm r hd
theorem se_gs {x : Str} {pos : Pos} {i : Str} (hg : Gl X x) (h : ∃ u, X.mg x = some u ∧ RelV (.str i) u) (hd : (x == ("__debug__" : Str)) = false := by decide) : SE κ X W (.Name x pos) (M.ret (.str i)) := by
  obtain ⟨u, hm, r⟩ := h
  exact se_gstr hg hm r hd
/-- a value is shared as it comes -/
def mShr (f : M D) : M D := M.bind f fun d => M.ret (share d)
theorem se_shr {e : Expr} {f : M D} (h : SE κ X W e f) : SE κ X W e (mShr f) :=
  ⟨pe_mono h.pe fun σ H Q q => tX_imp (tX_part (rel := rE κ) q) fun b H1 ⟨a, F1, env1, O1, Ob, S1, r, nd, n, fin⟩ => by
    obtain ⟨F', p1, S', y⟩ := S1.shareVal r nd n
    exact fin F' H1 b O1 [] (by rw [List.append_nil]; exact p1) S' y (by rw [List.append_nil]; exact S'.nd) (fun x hx => nomatch hx)⟩
theorem lookup_all {α β : Type} [BEq α] [LawfulBEq α] {P : α → β → Prop} : ∀ {l : List (α × β)}, (∀ p ∈ l, P p.1 p.2) → ∀ {a : α} {b : β}, l.lookup a = some b → P a b
  | [], _, _, _, h => by cases h
  | (x, y) :: l, hp, a, b, h => by
    rw [List.lookup_cons] at h
    by_cases hb : (a == x) = true
    · rw [hb] at h
      cases h
      rw [eq_of_beq hb]
      exact hp (x, y) List.mem_cons_self
    · have hb : (a == x) = false := Bool.eq_false_iff.mpr hb
      rw [hb] at h
      exact lookup_all (fun p m => hp p (List.mem_cons_of_mem _ m)) h
theorem contains_all {P : String → Prop} {l : List String} (h : ∀ s ∈ l, P s) : ∀ s, l.contains s = true → P s := fun s hs => h s (List.contains_iff_mem.mp hs)
end VS
set_option Elab.async false
set_option linter.all false
set_option maxRecDepth 100000
set_option maxHeartbeats 1000000
namespace VS
open PySem L2
/-! ### the law's end -/
def spLaw (K : PySem.W.Frag) : Sp := fun vs H Q _ => ∃ (a : Addr) (ns : List Int), vs = [.ref a] ∧ SqL K H a (ns.map V.int) ∧ ns.length ≤ 63 ∧ ∀ H', Q (.bl true) H'
theorem ownInts {κ : Kc} {F H : Hp} : ∀ ns : List Int, OwnL κ F H (ns.map V.int) (ns.map D.int) []
  | [] => .nil
  | n :: ns => .cons (O1 := []) (O2 := []) (.int n) (ownInts ns)
theorem law_end {P : Program} {w : World} {K : PySem.W.Frag} {mg : Str → Option Value} {base : Heap} {CX : CXT} {k : Nat} {f : Addr} {fd : FuncData} {x : Str} {den : FD} {ca : String → Addr}
    (Fo : FnOk P w K mg base CX k f fd [x] (spD ⟨K, P, w, ca, none⟩ 1 [] den)) (h : ∀ ns : List Int, ns.length ≤ 63 → ∃ outs, den [.fro (ns.map .int)] = .ok (.bl true) outs) : FnOk P w K mg base CX k f fd [x] (spLaw K) :=
  Fo.imp fun vs H Q E ⟨a, ns, e, hS, hl, kk⟩ => by
    subst e
    refine ⟨rfl, H, [.fro (ns.map .int)], [], Same.refl H, .cons (O1 := []) (O2 := []) (.fro hS (ownInts ns)) .nil, List.nodup_nil, (fun a ha => nomatch ha), ?_⟩
    obtain ⟨outs, e⟩ := h ns hl
    rw [e]
    intro F' H' v O' Od p sm xo y nd nf
    cases y
    exact kk H'
theorem cx_no {P : Program} {w : World} {H : Hp} {s s' : Shared} {e : Value} (h : L2.CX P w [] H s (fun _ _ _ => False) e s') : False := by
  obtain ⟨_, _, _, _, _, _, _, _, _, _, _, _, z⟩ := h
  exact z
end VS
set_option Elab.async false
set_option linter.all false
set_option maxRecDepth 100000
set_option maxHeartbeats 1000000
/-! VS.20: reckoning with denotations: equations for simp. -/
namespace VS
open PySem L2
theorem nr {α : Sort _} {x y : α} (h : x = y) : x = y := h
section
variable {α β : Type} {env e : VS.Env}
@[simp] theorem ev_bind {f : M α} {g : α → M β} : M.bind f g env = (f env).bind g := rfl
@[simp] theorem ev_bok {g : α → M β} {a : α} : (R.ok a e).bind g = g a e := rfl
@[simp] theorem ev_bexc {g : α → M β} {c : String} {fs : List (Str × D)} : (R.exc c fs e : R α).bind g = .exc c fs e := rfl
@[simp] theorem ev_bstk {g : α → M β} : (R.stk : R α).bind g = .stk := rfl
@[simp] theorem ev_ret {a : α} : M.ret a env = .ok a env := rfl
@[simp] theorem ev_then {f g : M Fl} : mThen f g env = (f env).bind fun fl => match fl with
  | .nx => g
  | fl => M.ret fl := rfl
@[simp] theorem ev_nx : mNx env = .ok .nx env := rfl
@[simp] theorem ev_if {c : M Bool} {f g : M Fl} : mIf c f g env = (c env).bind fun b => if b = true then f else g := rfl
@[simp] theorem ev_cond {c : M Bool} {f g : M D} : mCond c f g env = (c env).bind fun b => if b = true then f else g := rfl
@[simp] theorem ev_and {f g : M Bool} : mAnd f g env = (f env).bind fun b => if b = true then g else M.ret false := rfl
@[simp] theorem ev_or {f g : M Bool} : mOr f g env = (f env).bind fun b => if b = true then M.ret true else g := rfl
@[simp] theorem ev_andV {f g : M D} : mAndV f g env = (mB f env).bind fun b => if b = true then g else M.ret (.bl false) := rfl
@[simp] theorem ev_orV {f g : M D} : mOrV f g env = (mB f env).bind fun b => if b = true then M.ret (.bl true) else g := rfl
@[simp] theorem ev_nil : mNil env = .ok [] env := rfl
@[simp] theorem ev_cons {f : M Hd} {fs : M (List Hd)} : mCons f fs env = (f env).bind fun h => M.bind fs fun hs => M.ret (h :: hs) := rfl
@[simp] theorem ev_m1 {f : M Hd} : m1 f = mCons f mNil := rfl
@[simp] theorem ev_m2 {f g : M Hd} : m2 f g = mCons f (mCons g mNil) := rfl
@[simp] theorem ev_ite {c : Prop} [Decidable c] {f g : M α} : (if c then f else g) env = if c then f env else g env := by split <;> rfl
@[simp] theorem ev_B {f : M D} : mB f env = (f env).bind fun d env => match d with
  | .bl b => .ok b env
  | _ => .stk := by unfold mB; rfl
@[simp] theorem ev_op {op : List D → Option D} {fa : M (List Hd)} : mOp op fa env = (fa env).bind fun hs env => match getAll env hs with
  | some ds => (match op ds with
    | some d => .ok d env
    | none => .stk)
  | none => .stk := rfl
@[simp] theorem ev_tk {op : List D → Option D} {fa : M (List Hd)} : mTk op fa env = (fa env).bind fun hs env => match takeAll env hs with
  | some ds => (match op ds with
    | some d => .ok d env
    | none => .stk)
  | none => .stk := rfl
@[simp] theorem ev_getNil : getAll env [] = some [] := rfl
@[simp] theorem ev_getVal {d : D} {hs : List Hd} : getAll env (.val d :: hs) = (getAll env hs).map (d :: ·) := by
  show (match some d with
    | some d => (match getAll env hs with
      | some ds => some (d :: ds)
      | none => none)
    | none => none) = _
  cases getAll env hs <;> rfl
@[simp] theorem ev_getVar {i : Nat} {hs : List Hd} : getAll env (.var i :: hs) = (match (env[i]?).join with
  | some d => (getAll env hs).map (d :: ·)
  | none => none) := by
  show (match (env[i]?).join with
    | some d => (match getAll env hs with
      | some ds => some (d :: ds)
      | none => none)
    | none => none) = _
  cases (env[i]?).join <;> cases getAll env hs <;> rfl
@[simp] theorem ev_takeNil : takeAll env [] = some [] := rfl
@[simp] theorem ev_takeVal {d : D} {hs : List Hd} : takeAll env (.val d :: hs) = (takeAll env hs).map (d :: ·) := by
  show (match some d with
    | some d => (match takeAll env hs with
      | some ds => some (d :: ds)
      | none => none)
    | none => none) = _
  cases takeAll env hs <;> rfl
@[simp] theorem ev_takeVar {i : Nat} {hs : List Hd} : takeAll env (.var i :: hs) = (match (env[i]?).join with
  | some d => if shrd d = true then (takeAll env hs).map (d :: ·) else none
  | none => none) := by
  show (match (match (env[i]?).join with
      | some d => if shrd d = true then some d else none
      | none => none) with
    | some d => (match takeAll env hs with
      | some ds => some (d :: ds)
      | none => none)
    | none => none) = _
  cases (env[i]?).join with
  | none => rfl
  | some d =>
    dsimp only
    by_cases h : shrd d = true
    · rw [if_pos h, if_pos h]
      cases takeAll env hs <;> rfl
    · rw [if_neg h, if_neg h]
@[simp] theorem ev_hval {d : D} : (Hd.val d).get env = some d := rfl
@[simp] theorem ev_hvar {i : Nat} : (Hd.var i).get env = (env[i]?).join := rfl
theorem ev_ref {i : Nat} {d : D} (h : (env[i]?).join = some d) : mRef i env = .ok (.var i) env := by
  unfold mRef
  rw [join_some h]
@[simp] theorem ev_ref0 {a : D} {r : VS.Env} : mRef 0 (some a :: r) = .ok (.var 0) (some a :: r) := rfl
@[simp] theorem ev_refS {a : Option D} {r : VS.Env} {i : Nat} : mRef (i + 1) (a :: r) = match mRef i r with
  | .ok (.var j) _ => .ok (.var (i + 1)) (a :: r)
  | _ => .stk := by
  unfold mRef
  rw [List.getElem?_cons_succ]
  split
  · rename_i d h
    rw [h]
  · rename_i h
    cases q : r[i]? with
    | none => rfl
    | some o =>
      cases o with
      | none => rfl
      | some d => exact absurd q (h d)
end
/-! ### more equations -/
section
variable {env e : VS.Env}
@[simp] theorem ev_asg {t : Tg} {f : M D} : mAsg t f env = (f env).bind fun d env => match bindT t d env with
  | some env' => .ok .nx env'
  | none => .stk := rfl
@[simp] theorem ev_nm {i : Nat} {d : D} : bindT (.nm i) d env = if i < env.length then some (env.set i (some d)) else none := by unfold bindT; rfl
@[simp] theorem ev_tpT {ts : List Tg} {ds : List D} : bindT (.tp ts) (.tup ds) env = if ts.length = ds.length then bindTs ts ds env else none := by unfold bindT; rfl
@[simp] theorem ev_tpL {ts : List Tg} {o : Bool} {ds : List D} : bindT (.tp ts) (.lst o ds) env = if ts.length = ds.length then bindTs ts ds env else none := by unfold bindT; rfl
@[simp] theorem ev_tsN : bindTs [] [] env = some env := by unfold bindTs; rfl
@[simp] theorem ev_tsC {t : Tg} {ts : List Tg} {d : D} {ds : List D} : bindTs (t :: ts) (d :: ds) env = match bindT t d env with
  | some env1 => bindTs ts ds env1
  | none => none := by
  conv => lhs; unfold bindTs
  all_goals rfl
@[simp] theorem ev_lm {i : Nat} {op : List D → List D → Option (List D × D)} {fa : M (List Hd)} : mLm i op fa env = match (env[i]?).join with
  | some (.lst true _) => (fa env).bind fun hs env => match (env[i]?).join with
    | some (.lst true ds) => (match takeAll env hs with
      | some es => (match op ds es with
        | some (ds', d) => .ok d (env.set i (some (.lst true ds')))
        | none => .stk)
      | none => .stk)
    | _ => .stk
  | _ => .stk := rfl
@[simp] theorem ev_append {ds : List D} {d : D} : lAppend ds [d] = if ds.length < sizeLine then some (ds ++ [d], .non) else none := rfl
@[simp] theorem ev_shr {f : M D} : mShr f env = (f env).bind fun d => M.ret (share d) := rfl
@[simp] theorem ev_move {i : Nat} : mMove i env = match env[i]? with
  | some (some d) => .ok d (env.set i none)
  | _ => .stk := rfl
@[simp] theorem ev_share {i : Nat} : mShare i env = match env[i]? with
  | some (some d) => .ok (share d) (env.set i (some (share d)))
  | _ => .stk := rfl
@[simp] theorem ev_take {f : M Hd} : mTake f env = (f env).bind fun h env => match h.take env with
  | some d => .ok d env
  | none => .stk := rfl
@[simp] theorem ev_tkval {d : D} : (Hd.val d).take env = some d := rfl
@[simp] theorem ev_tkvar {i : Nat} : (Hd.var i).take env = match (env[i]?).join with
  | some d => if shrd d = true then some d else none
  | none => none := rfl
@[simp] theorem ev_tru {f : M Hd} : mTru f env = (f env).bind fun h env => match h.get env with
  | some d => (match truthD d with
    | some b => .ok b env
    | none => .stk)
  | none => .stk := rfl
@[simp] theorem tr_bl {b : Bool} : truthD (.bl b) = some b := rfl
@[simp] theorem tr_lst {o : Bool} {xs : List D} : truthD (.lst o xs) = some (!xs.isEmpty) := rfl
@[simp] theorem sh_int {i : Int} : share (.int i) = .int i := rfl
@[simp] theorem sh_bl {i : Bool} : share (.bl i) = .bl i := rfl
@[simp] theorem sh_str {i : Str} : share (.str i) = .str i := rfl
@[simp] theorem sh_non : share .non = .non := rfl
@[simp] theorem sh_lst {o : Bool} {xs : List D} : share (.lst o xs) = .lst false (shareL xs) := rfl
@[simp] theorem sh_tup {xs : List D} : share (.tup xs) = .tup (shareL xs) := rfl
@[simp] theorem sh_nil : shareL [] = [] := rfl
@[simp] theorem sh_cons {x : D} {xs : List D} : shareL (x :: xs) = share x :: shareL xs := rfl
@[simp] theorem sr_int {i : Int} : shrd (.int i) = true := rfl
@[simp] theorem sr_bl {i : Bool} : shrd (.bl i) = true := rfl
@[simp] theorem sr_str {i : Str} : shrd (.str i) = true := rfl
@[simp] theorem sr_non : shrd .non = true := rfl
@[simp] theorem sr_lst {o : Bool} {xs : List D} : shrd (.lst o xs) = !o := rfl
@[simp] theorem sr_fro {xs : List D} : shrd (.fro xs) = true := rfl
@[simp] theorem sr_tup {xs : List D} : shrd (.tup xs) = shrdL xs := rfl
@[simp] theorem sr_nil : shrdL [] = true := rfl
@[simp] theorem sr_cons {x : D} {xs : List D} : shrdL (x :: xs) = (shrd x && shrdL xs) := rfl
@[simp] theorem ev_for {t : Tg} {fi : M (List D)} {b : M Fl} : mFor t fi b env = (fi env).bind (forL t b) := rfl
@[simp] theorem ev_forN {t : Tg} {b : M Fl} : forL t b [] env = .ok .nx env := rfl
theorem ev_forC {t : Tg} {b : M Fl} {x : D} {xs : List D} : forL t b (x :: xs) env = match bindT t x env with
  | some env1 => (b env1).bind (mLoop (forL t b xs))
  | none => .stk := rfl
@[simp] theorem ev_lpN {g : M Fl} : mLoop g .nx = g := rfl
@[simp] theorem ev_lpC {g : M Fl} : mLoop g .ct = g := rfl
@[simp] theorem ev_lpB {g : M Fl} : mLoop g .bk = M.ret .nx := rfl
@[simp] theorem ev_lpR {g : M Fl} {d : D} : mLoop g (.rt d) = M.ret (.rt d) := rfl
theorem ev_while {c : M Bool} {b : M Fl} {n : Nat} : mWhile c b (n + 1) env = (c env).bind fun t => if t = true then M.bind b (mLoop (mWhile c b n)) else M.ret .nx := rfl
theorem ev_rng1 {fa : M (List Hd)} : mRng1 fa env = (fa env).bind fun hs env => match getAll env hs with
  | some [.int j] => if -(2 ^ 62) ≤ j ∧ j < 2 ^ 62 then .ok (rgItems 0 j) env else .stk
  | _ => .stk := rfl
theorem rg_nat {n : Nat} : rgItems 0 (n : Int) = (List.range n).map fun (k : Nat) => D.int k := by
  unfold rgItems
  simp
theorem ev_rngN {fa : M (List Hd)} {hs : List Hd} {n : Nat} (hn : n < 1000000) (h : fa env = .ok hs e) (g : getAll e hs = some [.int (n : Int)]) : mRng1 fa env = .ok ((List.range n).map fun (k : Nat) => D.int k) e := by
  rw [ev_rng1, h, ev_bok, g]
  dsimp only
  rw [if_pos (by omega), rg_nat]
theorem ev_rngI {i n : Nat} (hn : n < 1000000) (h : (env[i]?).join = some (.int (n : Int))) : mRng1 (mCons (mRef i) mNil) env = .ok ((List.range n).map fun (k : Nat) => D.int k) env :=
  ev_rngN hn (hs := [.var i]) (by rw [ev_cons, ev_ref h]; rfl) (by rw [ev_getVar, h]; rfl)
@[simp] theorem ev_call {io : List Nat} {den : FD} {fa : M (List Hd)} : mCall io den fa env = (fa env).bind fun hs env => match prep io 0 hs env with
  | some (ds, env1) => (match den ds with
    | .ok d outs => .ok d (putBack hs io outs env1)
    | .exc c fs _ => .exc c fs env1
    | .stk => .stk)
  | none => .stk := rfl
@[simp] theorem ev_pN {io : List Nat} {k : Nat} : prep io k [] env = some ([], env) := by unfold prep; rfl
@[simp] theorem ev_pV {io : List Nat} {k : Nat} {d : D} {hs : List Hd} : prep io k (.val d :: hs) env = (match prep io (k + 1) hs env with
  | some (ds, e) => some (d :: ds, e)
  | none => none) := by
  conv => lhs; unfold prep
  all_goals rfl
@[simp] theorem ev_pR {io : List Nat} {k i : Nat} {hs : List Hd} : prep io k (.var i :: hs) env = (match (env[i]?).join with
  | some d => if io.contains k = true then (match prep io (k + 1) hs (env.set i none) with
      | some (ds, e) => some (d :: ds, e)
      | none => none)
    else if shrd d = true then (match prep io (k + 1) hs env with
      | some (ds, e) => some (d :: ds, e)
      | none => none)
    else none
  | none => none) := by
  conv => lhs; unfold prep
  all_goals rfl
@[simp] theorem ev_pbN {hs : List Hd} {outs : VS.Env} : putBack hs [] outs env = env := by unfold putBack; rfl
@[simp] theorem ev_items {f : M Hd} : mItems f env = (f env).bind fun h env => match h with
  | .val d => (match itemsOf (share d) with
    | some ds => .ok ds env
    | none => .stk)
  | .var i => (match (env[i]?).join with
    | some d => (match itemsOf d with
      | some ds => .ok ds env
      | none => .stk)
    | none => .stk) := rfl
@[simp] theorem it_lst {ds : List D} : itemsOf (.lst false ds) = some ds := rfl
@[simp] theorem it_str {l : List Nat} : itemsOf (.str ⟨l.toArray⟩) = some (l.map fun c => .str ⟨#[c]⟩) := rfl
end
/-! ### a list comprehension without conditions -/
theorem lc_map {i : Nat} {fe : M D} {e0 : VS.Env} (hi : i < e0.length) (h0 : e0.set i none = e0) {g : D → D} : ∀ (items acc : List D), (∀ x ∈ items, fe (e0.set i (some x)) = .ok (g x) (e0.set i (some x))) → acc.length + items.length < sizeLine →
    lcL [i] (.nm i) (M.ret true) fe items acc e0 = .ok (.lst true (acc ++ items.map g)) e0
  | [], acc, _, _ => by simp [lcL]
  | x :: xs, acc, h, hz => by
    have hx := h x (by simp)
    have hz' : acc.length < sizeLine := by simp at hz; omega
    have ih := lc_map hi h0 xs (acc ++ [g x]) (fun y hy => h y (by simp [hy])) (by simp at hz ⊢; omega)
    have nx1 : noX (M.ret true) (e0.set i (some x)) = .ok true (e0.set i (some x)) := rfl
    have nx2 : noX fe (e0.set i (some x)) = .ok (g x) (e0.set i (some x)) := by unfold noX; rw [hx]
    have hw : wipeE [i] (e0.set i (some x)) = e0 := by
      show (e0.set i (some x)).set i none = e0
      rw [List.set_set, h0]
    unfold lcL
    rw [ev_nm, if_pos hi]
    dsimp only
    rw [ev_bind, nx1, ev_bok, if_pos rfl, ev_bind, nx2, ev_bok, if_pos hz', hw, ih]
    simp
theorem lc_ok {i : Nat} {fi : M (List D)} {fe : M D} {env e : VS.Env} {items : List D} {g : D → D} (hf : fi env = .ok items e) (hi : i < e.length) (h : ∀ x ∈ items, fe ((e.set i none).set i (some x)) = .ok (g x) ((e.set i none).set i (some x))) (hz : items.length < sizeLine) :
    mLc [i] (.nm i) fi (M.ret true) fe env = .ok (.lst true (items.map g)) (restore [i] e (e.set i none)) := by
  have := lc_map (i := i) (fe := fe) (e0 := e.set i none) (by simpa using hi) (by rw [List.set_set]) items [] h (by simpa using hz)
  unfold mLc
  rw [ev_bind, hf, ev_bok, show wipeE [i] e = e.set i none from rfl, this]
  rfl
/-! ### a def's end -/
theorem run_rt {N : Nat} {io : List Nat} {m : M Fl} {ds : List D} {env en : VS.Env} {d : D} (q : m env = .ok (.rt d) en) (hE : ds.map some ++ List.replicate (N - ds.length) none = env) : runF N io m ds = .ok d (outsOf io en) := by
  unfold runF
  rw [hE, q]
theorem run_nx {N : Nat} {io : List Nat} {m : M Fl} {ds : List D} {env en : VS.Env} (q : m env = .ok .nx en) (hE : ds.map some ++ List.replicate (N - ds.length) none = env) : runF N io m ds = .ok .non (outsOf io en) := by
  unfold runF
  rw [hE, q]
theorem run_exc {N : Nat} {io : List Nat} {m : M Fl} {ds : List D} {env en : VS.Env} {c : String} {fs : List (Str × D)} (q : m env = .exc c fs en) (hE : ds.map some ++ List.replicate (N - ds.length) none = env) : runF N io m ds = .exc c fs [] := by
  unfold runF
  rw [hE, q]
theorem then_ok {f g : M Fl} {env e : VS.Env} (h : f env = .ok .nx e) : mThen f g env = g e := by
  rw [ev_then, h]
  rfl
theorem then_rt {f g : M Fl} {env e : VS.Env} {d : D} (h : f env = .ok (.rt d) e) : mThen f g env = .ok (.rt d) e := by
  rw [ev_then, h]
  rfl
theorem then_exc {f g : M Fl} {env e : VS.Env} {c : String} {fs : List (Str × D)} (h : f env = .exc c fs e) : mThen f g env = .exc c fs e := by
  rw [ev_then, h]
  rfl
/-! ### operations on numbers -/
section
variable {i j : Int} {o : Bool} {ds : List D}
@[simp] theorem ov_lt : oLt [.int i, .int j] = some (.bl (decide (i < j))) := nr rfl
@[simp] theorem ov_le : oLe [.int i, .int j] = some (.bl (decide (i ≤ j))) := nr rfl
@[simp] theorem ov_gt : oGt [.int i, .int j] = some (.bl (decide (i > j))) := nr rfl
@[simp] theorem ov_ge : oGe [.int i, .int j] = some (.bl (decide (i ≥ j))) := nr rfl
@[simp] theorem ov_add : oAdd [.int i, .int j] = some (.int (i + j)) := nr rfl
@[simp] theorem ov_sub : oSub [.int i, .int j] = some (.int (i - j)) := nr rfl
@[simp] theorem ov_mul : oMul [.int i, .int j] = if i.natAbs.log2 + j.natAbs.log2 < 1000000 then some (.int (i * j)) else none := nr rfl
@[simp] theorem ov_mod : oMod [.int i, .int j] = if 0 < j then some (.int (i % j)) else none := nr rfl
@[simp] theorem ov_fdiv : oFdiv [.int i, .int j] = if 0 < j ∧ j.natAbs.log2 < 9000 then some (.int (i / j)) else none := nr rfl
@[simp] theorem ov_pow : oPow [.int i, .int j] = if 0 ≤ j ∧ j ≤ 1000000 ∧ i.natAbs < 2 ^ 64 then some (.int (i ^ j.toNat)) else none := nr rfl
@[simp] theorem ov_neg : oNeg [.int i] = some (.int (-i)) := nr rfl
theorem ov_eqI : oEq [.int i, .int j] = some (.bl (i == j)) := nr rfl
theorem ov_neI : oNe [.int i, .int j] = some (.bl (!(i == j))) := nr rfl
@[simp] theorem ov_toInt : oToInt [.int i] = some (.int i) := nr rfl
@[simp] theorem ov_lenL : oLen [.lst o ds] = some (.int ds.length) := nr rfl
@[simp] theorem ov_lenT : oLen [.tup ds] = some (.int ds.length) := nr rfl
@[simp] theorem ov_lenF : oLen [.fro ds] = some (.int ds.length) := nr rfl
@[simp] theorem ov_ixL : oIx [.lst o ds, .int i] = ifShrd (L2.atI ds i) := nr rfl
@[simp] theorem ov_ixT : oIx [.tup ds, .int i] = ifShrd (L2.atI ds i) := nr rfl
@[simp] theorem ov_ixF : oIx [.fro ds, .int i] = ifShrd (L2.atI ds i) := nr rfl
theorem at_nat {α : Type} {xs : List α} {k : Nat} : L2.atI xs (k : Int) = xs[k]? := by
  unfold L2.atI ixN
  by_cases h : k < xs.length
  · simp [h]
  · simp [h]
theorem at_lt {α : Type} {xs : List α} {i : Int} (h0 : 0 ≤ i) (h : i < xs.length) : L2.atI xs i = xs[i.toNat]? := by
  obtain ⟨k, rfl⟩ := Int.eq_ofNat_of_zero_le h0
  rw [at_nat]
  rfl
@[simp] theorem at_0 {α : Type} {a : α} {l : List α} : L2.atI (a :: l) 0 = some a := by
  have := at_nat (xs := a :: l) (k := 0)
  simpa using this
@[simp] theorem at_1 {α : Type} {a b : α} {l : List α} : L2.atI (a :: b :: l) 1 = some b := by
  have := at_nat (xs := a :: b :: l) (k := 1)
  simpa using this
@[simp] theorem at_2 {α : Type} {a b c : α} {l : List α} : L2.atI (a :: b :: c :: l) 2 = some c := by
  have := at_nat (xs := a :: b :: c :: l) (k := 2)
  simpa using this
theorem if_sh {d : D} (h : shrd d = true) : ifShrd (some d) = some d := by
  show (if shrd d = true then some d else none) = some d
  rw [if_pos h]
theorem eq_lit {x y : Str} (hx : PyData.strOk x = true) (hy : PyData.strOk y = true) : oEq [.str x, .str y] = some (.bl (x == y)) := by
  show (if SeqAt.shaped (.str x) = true ∧ SeqAt.shaped (.str y) = true then some (D.bl (PyData.eqv (.str x) (.str y))) else none) = _
  rw [if_pos ⟨by unfold SeqAt.shaped PyData.canLay0 PyData.depth; rw [hx]; rfl, by unfold SeqAt.shaped PyData.canLay0 PyData.depth; rw [hy]; rfl⟩]
  unfold PyData.eqv
  rfl
@[simp] theorem if_shN : ifShrd none = none := rfl
@[simp] theorem if_shI : ifShrd (some (D.int i)) = some (D.int i) := rfl
@[simp] theorem if_shB {b : Bool} : ifShrd (some (D.bl b)) = some (D.bl b) := rfl
@[simp] theorem if_shS {z : Str} : ifShrd (some (D.str z)) = some (D.str z) := rfl
end
/-! ### texts -/
abbrev S (l : List Nat) : D := .str ⟨l.toArray⟩
section
variable {a b l : List Nat}
theorem sLen : (⟨l.toArray⟩ : Str).length = l.length := by simp [Str.length]
theorem ov_lenS (h : l.length ≤ sizeLine) : oLen [S l] = some (.int l.length) := by
  show (if (⟨l.toArray⟩ : Str).length ≤ sizeLine then some (D.int ((⟨l.toArray⟩ : Str).length : Nat)) else none) = _
  rw [sLen, if_pos h]
theorem ov_addS (h : a.length + b.length ≤ sizeLine) : oAdd [S a, S b] = some (S (a ++ b)) := by
  show (if (⟨a.toArray⟩ : Str).length + (⟨b.toArray⟩ : Str).length ≤ sizeLine then some (D.str ((⟨a.toArray⟩ : Str) ++ (⟨b.toArray⟩ : Str))) else none) = _
  rw [sLen, sLen, if_pos h]
  show some (D.str ⟨a.toArray ++ b.toArray⟩) = some (S (a ++ b))
  simp
/-- signs that are Unicode's -/
def Uni (l : List Nat) : Prop := ∀ c ∈ l, c < 0x110000
theorem shS (h : Uni l) : SeqAt.shaped (.str ⟨l.toArray⟩) = true := by
  unfold SeqAt.shaped PyData.canLay0 PyData.strOk PyData.depth
  have : (PySem.Str.mk l.toArray).cps.all (fun c => decide (c < 0x110000)) = true := by
    rw [List.all_toArray]
    exact List.all_eq_true.mpr fun c hc => decide_eq_true (h c hc)
  simpa using this
theorem ov_eqS (ha : Uni a) (hb : Uni b) : oEq [S a, S b] = some (.bl (decide (a = b))) := by
  show (if SeqAt.shaped (.str ⟨a.toArray⟩) = true ∧ SeqAt.shaped (.str ⟨b.toArray⟩) = true then some (D.bl (PyData.eqv (.str ⟨a.toArray⟩) (.str ⟨b.toArray⟩))) else none) = _
  rw [if_pos ⟨shS ha, shS hb⟩]
  unfold PyData.eqv
  congr 2
  by_cases h : a = b
  · subst h; simp
  · simp [h]
theorem ov_neS (ha : Uni a) (hb : Uni b) : oNe [S a, S b] = some (.bl (decide (a ≠ b))) := by
  show (if SeqAt.shaped (.str ⟨a.toArray⟩) = true ∧ SeqAt.shaped (.str ⟨b.toArray⟩) = true then some (D.bl (!PyData.eqv (.str ⟨a.toArray⟩) (.str ⟨b.toArray⟩))) else none) = _
  rw [if_pos ⟨shS ha, shS hb⟩]
  unfold PyData.eqv
  congr 2
  by_cases h : a = b
  · subst h; simp
  · simp [h]
theorem ov_ixS {k : Nat} (h : l.length ≤ sizeLine) (hk : k < l.length) : oIx [S l, .int (k : Nat)] = some (S [l[k]]) := by
  show (if (⟨l.toArray⟩ : Str).length ≤ sizeLine then (L2.atI (⟨l.toArray⟩ : Str).cps.toList (k : Nat)).map (fun c => D.str ⟨#[c]⟩) else none) = _
  rw [sLen, if_pos h, at_nat]
  simp [hk]
theorem ov_inS {c : Nat} : oIn [S [c], S l] = some (.bl (decide (c ∈ l))) := by
  simp [oIn, inB]
theorem ov_cut {lo hi : Option Int} (h : l.length ≤ sizeLine) : dSl (S l) lo hi = some (S ((l.drop (HT.sIx l.length 0 lo)).take (HT.sIx l.length l.length hi - HT.sIx l.length 0 lo))) := by
  show (if (⟨l.toArray⟩ : Str).length ≤ sizeLine then some (D.str (cutS ⟨l.toArray⟩ lo hi)) else none) = _
  rw [sLen, if_pos h]
  unfold cutS
  rw [sLen]
theorem ov_cutF {k : Nat} (h : l.length ≤ sizeLine) (hk : k ≤ l.length) : dSl (S l) (some (k : Int)) none = some (S (l.drop k)) := by
  rw [ov_cut h, HT.sIx_nat, HT.sIx_none, Nat.min_eq_left hk, List.take_of_length_le (by simp)]
theorem ov_cutT {k : Nat} (h : l.length ≤ sizeLine) (hk : k ≤ l.length) : dSl (S l) none (some (k : Int)) = some (S (l.take k)) := by
  rw [ov_cut h, HT.sIx_nat, HT.sIx_none, Nat.min_eq_left hk]
  simp
theorem ov_cut2 {j k : Nat} (h : l.length ≤ sizeLine) (hj : j ≤ l.length) (hk : k ≤ l.length) : dSl (S l) (some (j : Int)) (some (k : Int)) = some (S ((l.drop j).take (k - j))) := by
  rw [ov_cut h, HT.sIx_nat, HT.sIx_nat, Nat.min_eq_left hk, Nat.min_eq_left hj]
end
end VS
set_option Elab.async false
set_option linter.all false
set_option maxRecDepth 100000
set_option maxHeartbeats 1000000
/-! VS.21: own operators, own ==. -/
namespace VS
open PySem L2
variable {κ : Kc} {W : WX} {F F' F1 F2 H H' H1 H2 : Hp} {X : Cx}
def isO (c : String) : D → Bool
  | .obj _ c' _ => c' == c
  | _ => false
/-- .. of instances of c alone -/
def gAll (c : String) (den : FD) : FD := fun ds => if ds.all (isO c) = true then den ds else .stk
def IsI (κ : Kc) (H : Hp) (c : String) (v : V) : Prop := ∃ a dx fs, v = .ref a ∧ H a = some (.ins (κ.ca c) dx fs)
theorem Own.isI {v : V} {d : D} {O : List Addr} (sm : Same F H) (x : Own κ F H v d O) {c : String} (e : isO c d = true) : IsI κ H c v := by
  cases x with
  | objS h _ l => exact ⟨_, _, _, rfl, (eq_of_beq e) ▸ sm _ _ h⟩
  | objO h _ l => exact ⟨_, _, _, rfl, (eq_of_beq e) ▸ h⟩
  | non | bl _ | int _ | str _ | cls _ | lstS _ _ | fro _ _ | setS _ _ _ | setO _ _ _ | lstO _ _ | tup _ _ | dicS _ _ _ | dicO _ _ _ | dctS _ _ _ | dctO _ _ _ | exn0 _ | exn _ _ _ _ => cases e
theorem OwnL.isI {vs : List V} {ds : List D} {O : List Addr} (sm : Same F H) (x : OwnL κ F H vs ds O) {c : String} (e : ds.all (isO c) = true) : ∀ v ∈ vs, IsI κ H c v := by
  match x with
  | .nil => exact fun v h => nomatch h
  | .cons h1 l =>
    rw [List.all_cons, Bool.and_eq_true] at e
    exact fun v h => (List.mem_cons.mp h).elim (fun z => z ▸ h1.isI sm e.1) (l.isI sm e.2 v)
theorem spD_gAll {np : Nat} {io : List Nat} {c : String} {den : FD} {vs : List V} {H : Hp} {Q : VK} {E : XK} (h : spD κ np io (gAll c den) vs H Q E) : (∀ v ∈ vs, IsI κ H c v) ∧ spD κ np io den vs H Q E := by
  obtain ⟨hl, F, ds, O, sm, l, nd, nf, fin⟩ := h
  unfold gAll at fin
  by_cases e : ds.all (isO c) = true
  · rw [if_pos e] at fin
    exact ⟨l.isI sm e, hl, F, ds, O, sm, l, nd, nf, fin⟩
  · rw [if_neg e] at fin
    exact fin.elim
/-- the class C has the def at f under the special name -/
structure OwnOp (K : PySem.W.Frag) (C f : Addr) (name : Str) : Prop where
  sf : PySem.W.selfFirst K C = true
  at_ : PySem.W.findIn K (.ref C) name = some (some (.ref f))
  fn : PySem.W.isFn K (.ref f) = true
theorem rel_back {pins : List (Addr × Obj)} {σ : St} {Q : VK} {u : Value} {s' : Shared} (h : EP X pins σ Q u s') : PySem.W.CmpBack (EP X pins σ Q) u s' := by
  have h0 := h
  obtain ⟨v, H', I, r, q⟩ := h
  unfold PySem.W.CmpBack
  split
  · cases v
    · cases r
    · cases r
    · obtain ⟨t, r⟩ := r; cases r
    · obtain ⟨t, r⟩ := r; cases r
    · obtain ⟨t, r⟩ := r; cases r
    · obtain ⟨t, r⟩ := r; cases r
    · cases r
    · cases r
  · exact h0
theorem call_own {k : Nat} {f : Addr} {fd : FuncData} {ps : List Str} {np : Nat} {den : FD} {pins : List (Addr × Obj)} {σ : St} {H : Hp} {s : Shared} {Q : VK} {us : List Value} {vs : List V} (Fo : FnOk X.prog X.w X.K X.mg X.base (L2.CX X.prog X.w) k f fd ps (spD κ np [] den)) (hr : Room k X.A) (hb : Binds X.K fd ps []) (tk : Takes X W)
    (I : Inv X pins σ H s) (r : Vals vs us) (h : spD κ np [] den vs H Q (WE W σ)) : wpAny (model X.prog X.w) X.A (call (.ref f) us) (EP X pins σ Q) X.xe s :=
  run_fnSD (E := WE W) Fo hr hb .nil (passAt tk σ) I r (by rw [List.append_nil]; exact h)
theorem many2 {f g : M Hd} : Many (m2 f g) 2 := many_cons (many_cons many_nil)
theorem many1 {f : M Hd} : Many (m1 f) 1 := many_cons many_nil
section
variable {k : Nat} {f C : Addr} {fd : FuncData} {ps : List Str} {den : FD} {c : String} {fa ga : M Hd} {a b : Expr} {pos : Pos}
theorem tX_call2 {np : Nat} {d : FD} {σ : St} {H : Hp} {Q : VK} (q : tX κ W (rE κ) (mCall [] d (m2 fa ga)) σ H Q) : tX κ W (rH κ) fa σ H fun x H1 => tX κ W (rH κ) ga σ H1 fun y H2 => spD κ 2 [] d [x, y] H2 Q (WE W σ) :=
  tX_imp (tA_cons (tX_call many2 q)) fun _ _ h1 => tX_imp (tA_cons h1) fun _ _ h2 => tA_nil h2
theorem tX_call1 {np : Nat} {d : FD} {σ : St} {H : Hp} {Q : VK} (q : tX κ W (rE κ) (mCall [] d (m1 fa)) σ H Q) : tX κ W (rH κ) fa σ H fun x H1 => spD κ 1 [] d [x] H1 Q (WE W σ) :=
  tX_imp (tA_cons (tX_call many1 q)) fun _ _ h1 => tA_nil h1
/-- a op b, both of the class -/
theorem se_own2 {op : Operator} (O : OwnOp X.K (κ.ca c) f (PySem.dunder op.info.2)) (Fo : FnOk X.prog X.w X.K X.mg X.base (L2.CX X.prog X.w) k f fd ps (spD κ 2 [] den)) (hr : Room k X.A) (hb : Binds X.K fd ps []) (tk : Takes X W) (ha : SH κ X W a fa) (hg : SH κ X W b ga) :
    SE κ X W (.BinOp a op b pos) (mCall [] (gAll c den) (m2 fa ga)) :=
  ⟨⟨fun pins s σ H Q I h => by
    refine wpAny_BinOp (binT ha.pe hg.pe I (tX_call2 (np := 2) h) fun v u s2 x y H2 I2 rx ry q => ?_)
    obtain ⟨hi, sp⟩ := spD_gAll q
    obtain ⟨ax, dx, fx, rfl, ex⟩ := hi x (by simp)
    obtain ⟨ay, dy, fy, rfl, ey⟩ := hi y (by simp)
    cases rx
    cases ry
    obtain ⟨mA, J, _⟩ := ins_get I2.hok ex
    obtain ⟨mB, J', _⟩ := ins_get I2.hok ey
    obtain ⟨od, J, _⟩ := J.look
    obtain ⟨od', J', _⟩ := J'.look
    obtain ⟨m, hF⟩ := I2.fr
    exact PySem.W.binop_K hF I2.ok.mod.kin J J'.type O.sf O.at_ O.fn (wpAny_mono (call_own Fo hr hb tk I2 (vs := [.ref ax, .ref ay]) (.cons rfl (.cons rfl .nil)) sp) (fun r s' z => rel_back z) fun _ _ e => e)⟩⟩
/-- ~a -/
theorem se_ownInv (O : OwnOp X.K (κ.ca c) f "__invert__") (Fo : FnOk X.prog X.w X.K X.mg X.base (L2.CX X.prog X.w) k f fd ps (spD κ 1 [] den)) (hr : Room k X.A) (hb : Binds X.K fd ps []) (tk : Takes X W) (ha : SH κ X W a fa) :
    SE κ X W (.UnaryOp .Invert a pos) (mCall [] (gAll c den) (m1 fa)) :=
  ⟨⟨fun pins s σ H Q I h => by
    refine PyProof.Rows.UnaryOp_ (thn (ha.pe.run pins s σ H _ I (tX_call1 (np := 1) h)) fun v s1 ⟨x, H1, I1, r1, q1⟩ => ?_)
    obtain ⟨hi, sp⟩ := spD_gAll q1
    obtain ⟨ax, dx, fx, rfl, ex⟩ := hi x (by simp)
    cases r1
    obtain ⟨mA, J, _⟩ := ins_get I1.hok ex
    obtain ⟨od, J, _⟩ := J.look
    obtain ⟨m, hF⟩ := I1.fr
    exact PySem.W.ksp_inv hF I1.ok.mod.kin J O.at_ O.fn (call_own Fo hr hb tk I1 (vs := [.ref ax]) (.cons rfl .nil) sp)⟩⟩
/-! ### == -/
/-- the first is an instance of c, the second of a type that the table names -/
def gFst (c : String) (tab : List Tag) (den : FD) : FD := fun ds => match ds with
  | [d, e] => if isO c d = true then (match tagOf e with
      | some t => if tab.contains t = true then den [d, e] else .stk
      | none => .stk) else .stk
  | _ => .stk
/-- what the type of a value is seen to be -/
theorem Own.ty {v : V} {d : D} {O : List Addr} {pins : List (Addr × Obj)} {σ : St} {s : Shared} {u : Value} {M : Model} (sm : Same F H) (x : Own κ F H v d O) (I : Inv X pins σ H s) (r : RelV v u) {t : Tag} (hk : X.K = κ.K) (e : tagOf d = some t) (ht : t ≠ .b "list" ∧ t ≠ .b "dict") : PySem.W.Looks M s.heap (typeOf u) (κ.tagV t) := by
  cases x with
  | non => cases e; cases r; exact PySem.W.Looks.of_pure rfl
  | bl b => cases e; cases r; exact PySem.W.Looks.of_pure rfl
  | int b => cases e; obtain ⟨t, rfl⟩ := r; exact PySem.W.Looks.of_pure rfl
  | str b => cases e; obtain ⟨t, rfl⟩ := r; exact PySem.W.Looks.of_pure rfl
  | lstS h l => cases e; exact absurd rfl ht.1
  | lstO h l => cases e; exact absurd rfl ht.1
  | tup h l =>
    cases e
    cases r
    obtain ⟨its, r2, ⟨o, e2, hc, _⟩, _⟩ := I.tuple (SqT.of h)
    show PySem.W.Looks M s.heap (typeOf (.ref _)) (.type "tuple")
    exact hc ▸ (PySem.W.Looks.ld e2).andThen .now
  | dicS h _ l => cases e; exact absurd rfl ht.2
  | dicO h _ l => cases e; exact absurd rfl ht.2
  | dctS h _ l => cases e; exact absurd rfl ht.2
  | dctO h _ l => cases e; exact absurd rfl ht.2
  | objS h _ l =>
    cases e; cases r
    obtain ⟨mA, J, _⟩ := ins_get I.hok (sm _ _ h)
    obtain ⟨od, J, _⟩ := J.look
    exact J.type
  | objO h _ l =>
    cases e; cases r
    obtain ⟨mA, J, _⟩ := ins_get I.hok h
    obtain ⟨od, J, _⟩ := J.look
    exact J.type
  | cls c => cases e
  | fro h l => cases e
  | setS h _ _ => cases e
  | setO h _ _ => cases e
  | exn0 h => cases e
  | exn h _ _ _ => cases e

theorem spD_gFst {np : Nat} {io : List Nat} {c : String} {tab : List Tag} {den : FD} {x y : V} {H : Hp} {Q : VK} {E : XK} (h : spD κ np io (gFst c tab den) [x, y] H Q E) :
    IsI κ H c x ∧ (∃ F d O t, Same F H ∧ Own κ F H y d O ∧ tagOf d = some t ∧ tab.contains t = true) ∧ spD κ np io den [x, y] H Q E := by
  obtain ⟨hl, F, ds, O, sm, l, nd, nf, fin⟩ := h
  have l0 := l
  cases l with
  | @cons _ d _ ds' O1 O2 h1 l =>
    cases l with
    | @cons _ e _ ds'' O3 O4 h2 l =>
      cases l with
      | nil =>
        have eg : gFst c tab den [d, e] = if isO c d = true then (match tagOf e with
          | some t => if tab.contains t = true then den [d, e] else .stk
          | none => .stk) else .stk := rfl
        rw [eg] at fin
        by_cases q : isO c d = true
        · rw [if_pos q] at fin
          cases q2 : tagOf e with
          | none => rw [q2] at fin; exact fin.elim
          | some t =>
            rw [q2] at fin
            dsimp only at fin
            by_cases q3 : tab.contains t = true
            · rw [if_pos q3] at fin
              exact ⟨h1.isI sm q, ⟨F, e, _, t, sm, h2, q2, q3⟩, hl, F, [d, e], _, sm, l0, nd, nf, fin⟩
            · rw [if_neg q3] at fin; exact fin.elim
        · rw [if_neg q] at fin; exact fin.elim
/-- a == b, a of the class -/
theorem cmp_own {tab : List Tag} (O : OwnOp X.K (κ.ca c) f "__eq__") (hn : ∀ t, tab.contains t = true → PySem.W.notFirst X.K (κ.ca c) (κ.tagV t) = true ∧ t ≠ .b "list" ∧ t ≠ .b "dict") (Fo : FnOk X.prog X.w X.K X.mg X.base (L2.CX X.prog X.w) k f fd ps (spD κ 2 [] den)) (hu : UR X.A) (hr : Room k X.A) (hb : Binds X.K fd ps []) (tk : Takes X W) (hk : X.K = κ.K)
    {pins : List (Addr × Obj)} {s : Shared} {σ : St} {H : Hp} {x y : V} {v u : Value} {Q : VK} (I : Inv X pins σ H s) (rx : RelV x v) (ry : RelV y u) (q : spD κ 2 [] (gFst c tab den) [x, y] H Q (WE W σ)) :
    wpAny (model X.prog X.w) X.A (compareOp .Eq v u) (EP X pins σ Q) X.xe s := by
  obtain ⟨⟨ax, dx, fx, rfl, ex⟩, ⟨F, d, O', t, sm, hy, ht, hc⟩, sp⟩ := spD_gFst q
  have rv : v = .ref ax := rx
  subst rv
  obtain ⟨mA, J, _⟩ := ins_get I.hok ex
  obtain ⟨od, J, _⟩ := J.look
  obtain ⟨m, hF⟩ := I.fr
  obtain ⟨n1, n2⟩ := hn t hc
  show wpAny _ _ (richCompare .Eq _ _) _ _ _
  exact PySem.W.cmp_K (op := .Eq) (by have := hu.un; omega) hF I.ok.mod.kin J (hy.ty sm I ry hk ht n2) n1 O.at_ O.fn (wpAny_mono (call_own Fo hr hb tk I (vs := [.ref ax, y]) (.cons rfl (.cons ry .nil)) sp) (fun r s' z => rel_back z) fun _ _ e => e)
theorem se_ownEq {tab : List Tag} (O : OwnOp X.K (κ.ca c) f "__eq__") (hn : ∀ t, tab.contains t = true → PySem.W.notFirst X.K (κ.ca c) (κ.tagV t) = true ∧ t ≠ .b "list" ∧ t ≠ .b "dict") (Fo : FnOk X.prog X.w X.K X.mg X.base (L2.CX X.prog X.w) k f fd ps (spD κ 2 [] den)) (hu : UR X.A) (hr : Room k X.A) (hb : Binds X.K fd ps []) (tk : Takes X W) (ha : SH κ X W a fa) (hg : SH κ X W b ga)
    (hm : behindInMarks .Eq b = false := by rfl) (hk : X.K = κ.K := by rfl) : SE κ X W (.Compare a [.Eq] [b] pos) (mCall [] (gFst c tab den) (m2 fa ga)) :=
  ⟨⟨fun pins s σ H Q I h => wpAny_Compare1 (binT ha.pe hg.pe I (tX_call2 (np := 2) h) fun v u s2 x y H2 I2 rx ry q => cmp_own O hn Fo hu hr hb tk hk I2 rx ry q) hm⟩⟩
/-- .. as a test -/
theorem st_ownEq {tab : List Tag} (O : OwnOp X.K (κ.ca c) f "__eq__") (hn : ∀ t, tab.contains t = true → PySem.W.notFirst X.K (κ.ca c) (κ.tagV t) = true ∧ t ≠ .b "list" ∧ t ≠ .b "dict") (Fo : FnOk X.prog X.w X.K X.mg X.base (L2.CX X.prog X.w) k f fd ps (spD κ 2 [] den)) (hu : UR X.A) (hr : Room k X.A) (hb : Binds X.K fd ps []) (tk : Takes X W) (ha : SH κ X W a fa) (hg : SH κ X W b ga)
    (hm : behindInMarks .Eq b = false := by rfl) (hk : X.K = κ.K := by rfl) : ST κ X W (.Compare a [.Eq] [b] pos) (mB (mCall [] (gFst c tab den) (m2 fa ga))) :=
  ⟨⟨fun pins s σ H Q I h => by
    refine wpAny_isTrue_Compare1 (thn (ha.pe.run pins s σ H _ I (tX_call2 (np := 2) (tX_B h))) fun v s1 ⟨x, H1, I1, r1, q1⟩ => thn (hg.pe.run pins s1 σ H1 _ I1 q1) fun u s2 ⟨y, H2, I2, r2, q2⟩ =>
      thn (cmp_own O hn Fo hu hr hb tk hk I2 r1 r2 q2) fun c s3 ⟨z, H3, I3, r3, q3⟩ => ?_) hm
    obtain ⟨k, e, q3⟩ := q3
    subst e
    cases r3
    exact wpAny_truthy_bool ⟨H3, I3, q3⟩⟩⟩
end
end VS
set_option Elab.async false
set_option linter.all false
set_option maxRecDepth 100000
set_option maxHeartbeats 1000000
/-! VS.22: v == x where x is an instance with an own ==, v of a built-in type. -/
namespace VS
open PySem L2 PySem.SeqAt PyProof.Rows
open AutoSeq1 (wpAny_loadPart')
open MeetsSeq MeetsSeq2 MeetsSeq3 SeqRoads2
theorem int_declines_inst (b : Int) (u : Tok) (l C dx : Addr) :
    Meets (Builtin.«int.__eq__» ⟨[.int b u, .ref l], []⟩) (fun _ R s => s.heap.get? l = some (PySem.W.instObj C dx) ∧ R (.ok (.ret .notImplemented)) s) :=
  .of_wp fun prog w A R s h => by obtain ⟨hp, g, d, tk, os⟩ := s; obtain ⟨hl, h⟩ := h; unfold PySem.W.instObj at hl; wp_walk using wpAny_loadPart' hl, wpAny_load hl; exact ⟨_, rfl, h⟩
theorem str_declines_inst (b : Str) (u : Tok) (l C dx : Addr) :
    Meets (Builtin.«str.__eq__» ⟨[.str b u, .ref l], []⟩) (fun _ R s => s.heap.get? l = some (PySem.W.instObj C dx) ∧ R (.ok (.ret .notImplemented)) s) :=
  .of_wp fun prog w A R s h => by obtain ⟨hp, g, d, tk, os⟩ := s; obtain ⟨hl, h⟩ := h; unfold PySem.W.instObj at hl; wp_walk using wpAny_loadPart' hl, wpAny_load hl; exact ⟨_, rfl, h⟩
section
variable {prog : Program} {w : World} {A : Around} {E : Value → Shared → Prop} {s : Shared} {K : PySem.W.Frag} {x C L f : Addr} {h₀ : Heap} {m : Str → Option Value} {ox : Obj} {od : Option Obj}
theorem rc_eqR {a : Value} {T idT : String} {Q : Value → Shared → Prop} (ha : s.TypeIs a T) (hu : A.units < cLine) (F : Fr h₀ L s.heap m) (X₀ : K.In h₀) (I : PySem.W.InstAt s.heap x ox C od) (hsub : PySem.W.subIn K (.ref C) (.type T) = some false)
    (h1 : Slot T (cmpInfo .Eq).2.1 idT) (hc1 : ∀ Q' : Value → Shared → Prop, Q' .notImplemented s → wpAny (model prog w) A (call (.builtin idT) [a, .ref x]) Q' E s)
    (hs : PySem.W.findIn K (.ref C) "__eq__" = some (some (.ref f))) (hf : PySem.W.isFn K (.ref f) = true)
    (h : wpAny (model prog w) A (call (.ref f) [.ref x, a]) (PySem.W.CmpBack Q) E s) : wpAny (model prog w) A (richCompare .Eq a (.ref x)) Q E s := by
  have X := X₀.keeps F.keep
  have two : wpAny (model prog w) A (tryCompare (.ref x) (cmpInfo .Eq).2.2 a) (fun r s' => ∃ v, r = some v ∧ Q v s') E s := by
    unfold tryCompare
    refine wpAny_bind (PySem.W.ifBound_K X I hs hf (wpAny_mono h (fun v s' hv => ?_) fun _ _ e => e))
    cases v <;> first | exact hv.elim | exact wpAny_pure ⟨_, rfl, hv⟩
  rcases hi : cmpInfo CmpOp.Eq with ⟨sym, f', r⟩
  rw [hi] at h1 two
  simp only [richCompare, hi, ha.oneThing_none]
  refine wpAny_holding ?_
  refine wpAny_bind (wpAny_cRoomFor hu ?_)
  have hne : (Value.type T != Value.ref C) = true := by
    have : (Value.type T == Value.ref C) = false := Bool.eq_false_iff.mpr fun q => by cases beq_iff_eq.mp q
    unfold bne
    rw [this]; rfl
  refine wpAny_bind (wpAny_typeOf ha (wpAny_bind (I.type.here ?_)))
  simp only [hne, if_true]
  refine wpAny_bind ((PySem.W.looks_subIn X hsub).here ?_)
  simp only [Bool.false_eq_true, if_false, Bool.not_false, if_true]
  refine wpAny_bind (m := tryCompare a _ (.ref x)) (wpAny_tryCompare_declines ha h1 (hc1 _ ⟨rfl, ?_⟩))
  refine wpAny_bind (m := tryCompare (.ref x) _ a) (wpAny_mono two (fun r s' hr => ?_) fun _ _ e => e)
  obtain ⟨v, rfl, hq⟩ := hr
  exact wpAny_pure hq
end
end VS
namespace VS
open PySem L2 PySem.SeqAt PyProof.Rows
open AutoSeq1 (wpAny_loadPart')
open MeetsSeq MeetsSeq2 MeetsSeq3 SeqRoads2
theorem tup_declines {prog : Program} {w : World} {A : Around} {E : Value → Shared → Prop} {s : Shared} {K : PySem.W.Frag} {x C dx l : Addr} {items : Array Value} {n : Nat} {dd : Option Addr} {sl : Array (Option Value)} {Q : Value → Shared → Prop} (X : K.In s.heap)
    (hx : s.heap.get? x = some (PySem.W.instObj C dx)) (hl : s.heap.get? l = some { cls := .type "tuple", dict := dd, data := .seq items n, slots := sl }) (hsub : PySem.W.subIn K (.ref C) (.type "tuple") = some false) (h : Q .notImplemented s) :
    wpAny (model prog w) A (call (.builtin "tuple.__eq__") [.ref l, .ref x]) Q E s := by
  refine GQ.call_here PySem.F.slot_tuple_eq ⟨_, hl, rfl⟩ PySem.F.entry_tuple_eq (PySem.F.args_tuple_eq_2 _ _) ?_
  have L1 : PySem.W.Looks (model prog w) s.heap (isSubtype (.ref C) (.type "tuple")) false := PySem.W.looks_subIn X hsub
  obtain ⟨hp, g, d, tk, os⟩ := s
  have hx' := hx
  unfold PySem.W.instObj at hx
  wp_walk using wpAny_loadPart' hl, wpAny_loadPart' hx, wpAny_load hx, wpAny_load hl
  refine L1 _ _ _ _ (fun _ _ e => e) ?_
  rw [if_pos (show (!false) = true from rfl)]
  wp_walk
  exact h
end VS
namespace VS
open PySem L2 PySem.SeqAt
variable {κ : Kc} {W : WX} {F F' F1 F2 H H' H1 H2 : Hp} {X : Cx}
def fSwp (g : FD) : FD := fun ds => match ds with
  | [d, e] => g [e, d]
  | _ => .stk
theorem spD_swap {g : FD} {x y : V} {H : Hp} {Q : VK} {E : XK} (h : spD κ 2 [] (fSwp g) [x, y] H Q E) : spD κ 2 [] g [y, x] H Q E := by
  obtain ⟨hl, F, ds, O, sm, l, nd, nf, fin⟩ := h
  cases l with
  | @cons _ d _ ds' O1 O2 h1 l =>
    cases l with
    | @cons _ e _ ds'' O3 O4 h2 l =>
      cases l with
      | nil =>
        rw [List.append_nil] at nd nf fin
        obtain ⟨n1, n2, n3⟩ := List.nodup_append.mp nd
        have mm : ∀ a, a ∈ O3 ++ (O1 ++ []) ↔ a ∈ O1 ++ O3 := fun a => by simp only [List.mem_append, List.not_mem_nil, or_false]; exact or_comm
        refine ⟨rfl, F, [e, d], O3 ++ (O1 ++ []), sm, .cons h2 (.cons h1 .nil), by rw [List.append_nil]; exact List.nodup_append.mpr ⟨n2, n1, fun a ha b hb q => n3 b hb a ha q.symm⟩, fun a ha => nf a ((mm a).mp ha), ?_⟩
        have eg : fSwp g [d, e] = g [e, d] := rfl
        rw [eg] at fin
        revert fin
        cases g [e, d] with
        | stk => exact fun z => z
        | exc c fs e2 => exact fun z F' H' dx p sm' xo => z F' H' dx (p.less (fun a ha => (mm a).mp ha) fun a ha => ha) sm' xo
        | ok d0 outs => exact fun z F' H' v O' Od p sm' xo yo n nf' => z F' H' v O' Od (p.less (fun a ha => (mm a).mp ha) fun a ha => ha) sm' xo yo n nf'
section
variable {k : Nat} {f C : Addr} {fd : FuncData} {ps : List Str} {den : FD} {c : String} {fa ga : M Hd} {a b : Expr} {pos : Pos}
def dTags : List Tag := [.b "NoneType", .b "int", .b "str", .b "tuple"]
theorem cmp_ownR (O : OwnOp X.K (κ.ca c) f "__eq__") (hn : ∀ t, dTags.contains (.b t) = true → PySem.W.subIn X.K (.ref (κ.ca c)) (.type t) = some false) (Fo : FnOk X.prog X.w X.K X.mg X.base (L2.CX X.prog X.w) k f fd ps (spD κ 2 [] den)) (hu : UR X.A) (hr : Room k X.A) (hb : Binds X.K fd ps []) (tk : Takes X W) (hk : X.K = κ.K)
    {pins : List (Addr × Obj)} {s : Shared} {σ : St} {H : Hp} {x y : V} {v u : Value} {Q : VK} (I : Inv X pins σ H s) (rx : RelV x v) (ry : RelV y u) (q : spD κ 2 [] (fSwp (gFst c dTags den)) [x, y] H Q (WE W σ)) :
    wpAny (model X.prog X.w) X.A (compareOp .Eq v u) (EP X pins σ Q) X.xe s := by
  obtain ⟨⟨ay, dy, fy, rfl, ey⟩, ⟨F, d, O', t, sm, hx, ht, hc⟩, sp⟩ := spD_gFst (spD_swap q)
  have ru : u = .ref ay := ry
  subst ru
  obtain ⟨mA, J0, _⟩ := ins_get I.hok ey
  have hob := J0.obj
  obtain ⟨od, J, _⟩ := J0.look
  obtain ⟨m, hF⟩ := I.fr
  have hu' : X.A.units < cLine := by have := hu.un; omega
  have fin : wpAny (model X.prog X.w) X.A (call (.ref f) [.ref ay, v]) (PySem.W.CmpBack (EP X pins σ Q)) X.xe s := wpAny_mono (call_own Fo hr hb tk I (vs := [.ref ay, x]) (.cons rfl (.cons rx .nil)) sp) (fun r s' z => rel_back z) fun _ _ e => e
  show wpAny _ _ (richCompare .Eq _ _) _ _ _
  cases hx with
  | non =>
    cases ht; cases rx
    exact rc_eqR (T := "NoneType") rfl hu' hF I.ok.mod.kin J (hn _ (by decide)) PySem.F.slot_NoneType_eq (fun Q' h => call_gives PySem.F.slot_NoneType_eq rfl PySem.F.entry_NoneType_eq (PySem.F.args_NoneType_eq_2 _ _) (NoneType___eq___none_ref_0 _) h) O.at_ O.fn fin
  | bl b => cases ht; exact absurd hc (by decide)
  | int i =>
    cases ht; obtain ⟨t, rfl⟩ := rx
    exact rc_eqR (T := "int") rfl hu' hF I.ok.mod.kin J (hn _ (by decide)) PySem.F.slot_int_eq (fun Q' h => call_meets PySem.F.slot_int_eq rfl PySem.F.entry_int_eq (PySem.F.args_int_eq_2 _ _) (int_declines_inst _ _ _ _ _) ⟨hob, h⟩) O.at_ O.fn fin
  | str i =>
    cases ht; obtain ⟨t, rfl⟩ := rx
    exact rc_eqR (T := "str") rfl hu' hF I.ok.mod.kin J (hn _ (by decide)) PySem.F.slot_str_eq (fun Q' h => call_meets PySem.F.slot_str_eq rfl PySem.F.entry_str_eq (PySem.F.args_str_eq_2 _ _) (str_declines_inst _ _ _ _ _) ⟨hob, h⟩) O.at_ O.fn fin
  | tup h1 l =>
    cases ht; cases rx
    obtain ⟨its, r2, ⟨o, e2, hcl, n, hd⟩, _⟩ := I.tuple (SqT.of h1)
    obtain ⟨cls, dd, data, sl⟩ := o
    simp only at hcl hd
    subst hcl hd
    exact rc_eqR (T := "tuple") ⟨_, e2, rfl⟩ hu' hF I.ok.mod.kin J (hn _ (by decide)) PySem.F.slot_tuple_eq (fun Q' h => tup_declines I.kIn hob e2 (hn _ (by decide)) h) O.at_ O.fn fin
  | lstS _ _ => cases ht; exact absurd hc (by decide)
  | lstO _ _ => cases ht; exact absurd hc (by decide)
  | dicS _ _ _ => cases ht; exact absurd hc (by decide)
  | dicO _ _ _ => cases ht; exact absurd hc (by decide)
  | dctS _ _ _ => cases ht; exact absurd hc (by decide)
  | dctO _ _ _ => cases ht; exact absurd hc (by decide)
  | objS _ _ _ => cases ht; exact absurd hc (by simp [dTags])
  | objO _ _ _ => cases ht; exact absurd hc (by simp [dTags])
  | cls _ => cases ht
  | fro _ _ => cases ht
  | setS _ _ _ => cases ht
  | setO _ _ _ => cases ht
  | exn0 _ => cases ht
  | exn _ _ _ _ => cases ht
theorem st_ownEqR (O : OwnOp X.K (κ.ca c) f "__eq__") (hn : ∀ t, dTags.contains (.b t) = true → PySem.W.subIn X.K (.ref (κ.ca c)) (.type t) = some false) (Fo : FnOk X.prog X.w X.K X.mg X.base (L2.CX X.prog X.w) k f fd ps (spD κ 2 [] den)) (hu : UR X.A) (hr : Room k X.A) (hb : Binds X.K fd ps []) (tk : Takes X W) (ha : SH κ X W a fa) (hg : SH κ X W b ga)
    (hm : behindInMarks .Eq b = false := by rfl) (hk : X.K = κ.K := by rfl) : ST κ X W (.Compare a [.Eq] [b] pos) (mB (mCall [] (fSwp (gFst c dTags den)) (m2 fa ga))) :=
  ⟨⟨fun pins s σ H Q I h => by
    refine wpAny_isTrue_Compare1 (thn (ha.pe.run pins s σ H _ I (tX_call2 (np := 2) (tX_B h))) fun v s1 ⟨x, H1, I1, r1, q1⟩ => thn (hg.pe.run pins s1 σ H1 _ I1 q1) fun u s2 ⟨y, H2, I2, r2, q2⟩ =>
      thn (cmp_ownR O hn Fo hu hr hb tk hk I2 r1 r2 q2) fun c s3 ⟨z, H3, I3, r3, q3⟩ => ?_) hm
    obtain ⟨k, e, q3⟩ := q3
    subst e
    cases r3
    exact wpAny_truthy_bool ⟨H3, I3, q3⟩⟩⟩
end
end VS
set_option Elab.async false
set_option linter.all false
set_option maxRecDepth 100000
set_option maxHeartbeats 1000000
/-! VS.23: properties, classmethods, a class in a variable, class values. -/
namespace VS
open PySem L2
variable {κ : Kc} {W : WX} {F F' F1 F2 H H' H1 H2 : Hp} {X : Cx}
theorem cx_noS {P : Program} {w : World} {st : List PySem.Env} {H : Hp} {s s' : Shared} {e : Value} (h : L2.CX P w st H s (fun _ _ _ => False) e s') : False := by
  obtain ⟨_, _, _, _, _, _, _, _, _, _, _, _, z⟩ := h
  exact z
/-- .. that may not raise -/
def noR (g : FD) : FD := fun ds => match g ds with
  | .exc _ _ _ => .stk
  | r => r
theorem spD_noR {np : Nat} {io : List Nat} {g : FD} {vs : List V} {H : Hp} {Q : VK} {E E' : XK} (h : spD κ np io (noR g) vs H Q E) : spD κ np io g vs H Q E' := by
  obtain ⟨hl, F, ds, O, sm, l, nd, nf, fin⟩ := h
  refine ⟨hl, F, ds, O, sm, l, nd, nf, ?_⟩
  unfold noR at fin
  revert fin
  cases g ds with
  | stk => exact fun z => z
  | exc c fs e => exact fun z => z.elim
  | ok d e => exact fun z => z
section
variable {k : Nat} {f C p g : Addr} {fd : FuncData} {ps : List Str} {den : FD} {c : String} {fa ga : M Hd} {a b e : Expr} {pos : Pos} {fn : Str}
theorem se_prop (Cl : Cls X.K (κ.ca c)) (Pp : PropOf X.K (κ.ca c) fn p g) (Fo : FnOk X.prog X.w X.K X.mg X.base (L2.CX X.prog X.w) k g fd ps (spD κ 1 [] den)) (hr : Room (k + 1) X.A) (hb : Binds X.K fd ps []) (ha : SH κ X W e fa)
    (hab : attributeBase e fn X.env (eval e X.env) = eval e X.env := by rfl) : SE κ X W (.Attribute e fn pos) (mCall [] (noR (gAll c den)) (m1 fa)) :=
  ⟨pe_mono (pe_prop (E := fun _ _ _ => False) (dvs := []) ha.pe Cl Pp Fo hr hb .nil (fun _ _ _ _ _ _ _ z => (cx_noS z).elim) hab) fun σ H Q q =>
    tX_imp (tX_call1 (np := 1) q) fun x H1 h1 => by
      obtain ⟨hi, sp⟩ := spD_gAll (spD_noR (E' := fun _ _ _ => False) h1)
      obtain ⟨ax, dx, fx, rfl, ex⟩ := hi x (by simp)
      exact ⟨ax, dx, fx, rfl, ex, sp⟩⟩
end
/-! ### a classmethod, called on the class -/
theorem spD_cls {np : Nat} {den : FD} {c : String} {vs : List V} {H : Hp} {Q : VK} {E : XK} (h : spD κ np [] (fun ds => den (.cls c :: ds)) vs H Q E) : spD κ (np + 1) [] den (.ref (κ.ca c) :: vs) H Q E := by
  obtain ⟨hl, F, ds, O, sm, l, nd, nf, fin⟩ := h
  exact ⟨by rw [List.length_cons, hl], F, .cls c :: ds, O, sm, .cons (O1 := []) (.cls c) l, nd, nf, fin⟩
section
variable {k : Nat} {C p g : Addr} {mc : Value} {fd : FuncData} {ps : List Str} {sp : Sp} {E : St → XK} {ta : TE} {t : TA} {o e : Expr} {es : List Expr} {m x : Str} {p1 apos pos : Pos} {pl : Sem Bool} {c : String} {den : FD} {fa : M (List Hd)}
theorem run_cmS {q : Addr} {σ : St} {H : Hp} {s : Shared} {pins : List (Addr × Obj)} {Q : VK} {us : List Value} {vs : List V} (F : FnOk X.prog X.w X.K X.mg X.base (L2.CX X.prog X.w) k g fd ps sp) (hr : Room k X.A) (hb : Binds X.K fd ps []) (hx : PassesAt (L2.CX X.prog X.w) X σ (E σ)) (I : Inv X ((q, PySem.W.methodObj (.ref g) (.ref C)) :: pins) σ H s)
    (r : Vals vs us) (h : sp (.ref C :: vs) H Q (E σ)) : wpAny (model X.prog X.w) X.A (call (.ref q) us) (EP X pins σ Q) X.xe s := by
  have r2 : Vals (.ref C :: vs) (.ref C :: us) := .cons rfl r
  have hl : ((Value.ref C :: us) ++ []).length = ps.length := by rw [List.append_nil, ← r2.length]; exact F.len _ _ _ _ h
  have z : wpAny (model X.prog X.w) X.A (call (.ref q) us) (EP X ((q, PySem.W.methodObj (.ref g) (.ref C)) :: pins) σ Q) X.xe s := by
    refine wpAny_call (PySem.W.method_call (ClX.pin_at I) (codeAny_mono (F.run X.A X.stack s H ⟨.ref C :: us, []⟩ (.ref C :: us) (.ref C :: vs) Q (E σ) hr I.env0 (by have := hb s (.ref C :: us) I.kIn hl; rwa [List.append_nil] at this) r2 h) fun r s' hq => ?_))
    cases r with
    | error e => exact hx _ H s e s' I hq
    | ok fl =>
      cases fl with
      | ret u => exact I.after hq
      | next => exact False.elim hq
      | brk => exact False.elim hq
      | cont => exact False.elim hq
  exact thn z fun _ _ y => ClX.unpinE y
theorem pe_cmethS (he : PE X o ta) (r : ClX.CRead X.K C mc) (cm : ClX.CMet X.K C mc m p g) (F : FnOk X.prog X.w X.K X.mg X.base (L2.CX X.prog X.w) k g fd ps sp) (hr : Room k X.A) (hb : Binds X.K fd ps []) (hx : ∀ σ, PassesAt (L2.CX X.prog X.w) X σ (E σ)) (ha : PA X (e :: es) t)
    (hst : starEach (e :: es) X.env = (false, eval e X.env) :: starEach es X.env := by rfl) (hpl : (backTo pos (starEach es X.env)).any (·.1) = false := by rfl)
    (ht : eval (.Call (.Attribute o m apos) (e :: es) [] pos) X.env = (do
      let ov ← eval o X.env
      standAt apos.atName
      let (f, first) ← holding [ov] (getMethod ov m pl)
      callWith pos f first (backTo pos (starEach (e :: es) X.env)) (backToKw pos (keywordEach [] X.env))) := by rfl) :
    PE X (.Call (.Attribute o m apos) (e :: es) [] pos) (fun σ H Q => ta σ H fun x H1 => x = .ref C ∧ t σ H1 fun vs H2 => sp (.ref C :: vs) H2 Q (E σ)) := by
  refine ⟨fun pins s σ H Q I h => ?_⟩
  refine PySem.W.methodCall_KW (pl := pl) (thn (he.run pins s σ H _ I h) fun u s1 ⟨x, H1, I1, rx, ex, q⟩ => ?_) ht
  subst ex
  obtain rfl : u = Value.ref C := rx
  refine ClX.getmethcm_ok I1 r cm fun s2 I2 => ?_
  refine ClX.callwith_cm I2 (ClX.base_none I1 (Nat.le_refl _)) cm.fi (thn (ha.run pos _ s2 σ H1 _ I2 q) fun us s3 ⟨vs, H2, I3, rv, q2⟩ => ⟨⟨ClX.pin_at I3, I3.kIn⟩, ?_⟩) hst hpl
  exact run_cmS F hr hb (hx σ) I3 rv q2
/-- C.m(e, ..), C global -/
theorem se_cmeth {np : Nat} (hg : Gl X x) (hm : X.mg x = some (.ref (κ.ca c))) (r : ClX.CRead X.K (κ.ca c) mc) (cm : ClX.CMet X.K (κ.ca c) mc m p g) (F : FnOk X.prog X.w X.K X.mg X.base (L2.CX X.prog X.w) k g fd ps (spD κ (np + 1) [] den)) (hr : Room k X.A) (hb : Binds X.K fd ps []) (tk : Takes X W) (ha : SA κ X W (e :: es) fa) (hn : Many fa np)
    (hdb : (x == ("__debug__" : Str)) = false := by decide) (hst : starEach (e :: es) X.env = (false, eval e X.env) :: starEach es X.env := by rfl) (hpl : (backTo pos (starEach es X.env)).any (·.1) = false := by rfl)
    (ht : eval (.Call (.Attribute (.Name x p1) m apos) (e :: es) [] pos) X.env = (do
      let ov ← eval (.Name x p1) X.env
      standAt apos.atName
      let (f, first) ← holding [ov] (getMethod ov m pl)
      callWith pos f first (backTo pos (starEach (e :: es) X.env)) (backToKw pos (keywordEach [] X.env))) := by rfl) :
    SE κ X W (.Call (.Attribute (.Name x p1) m apos) (e :: es) [] pos) (mCall [] (fun ds => den (.cls c :: ds)) fa) :=
  ⟨pe_mono (pe_cmethS (E := WE W) (pe_glob (v := .ref (κ.ca c)) hg hm rfl hdb) r cm F hr hb (fun σ => passAt tk σ) ha.pa hst hpl ht) fun σ H Q q =>
    ⟨rfl, tX_imp (tX_call hn q) fun vs H2 h => spD_cls h⟩⟩
/-- C.f, a class constant, C global -/
theorem se_cval {f : Str} {d : D} {v : V} {u : Value} (hg : Gl X x) (hm : X.mg x = some (.ref C)) (r : ClX.CRead X.K C mc) (cv : ClX.CVal X.K C mc f v u) (hv : ∀ F H, Own κ F H v d []) (hdb : (x == ("__debug__" : Str)) = false := by decide)
    (hb : attributeBase (.Name x p1) f X.env (eval (.Name x p1) X.env) = eval (.Name x p1) X.env := by rfl) : SE κ X W (.Attribute (.Name x p1) f pos) (M.ret d) :=
  ⟨pe_mono (ClX.pe_cval (pe_glob (v := .ref C) hg hm rfl hdb) hb) fun σ H Q ⟨F, env, O, S, fin⟩ =>
    ⟨C, mc, v, u, rfl, r, cv, fin F H v O [] (by rw [List.append_nil]; exact Post.refl) S (hv _ _) (by rw [List.append_nil]; exact S.nd) (fun x hx => nomatch hx)⟩⟩
end
/-! ### x(e, ..), x a variable that holds the class -/
def mMakeV (i : Nat) (c : String) (den : FD) (fa : M (List Hd)) : M D := fun env => match (env[i]?).join with
  | some (.cls c') => if c' = c then mMake c den fa env else .stk
  | _ => .stk
theorem se_makeV {k : Nat} {C f : Addr} {c : String} {fd : FuncData} {ps : List Str} {x : Str} {p pos : Pos} {e : Expr} {es : List Expr} {np : Nat} {den : FD} {fa : M (List Hd)} (i : Nat) (Mc : Mk X.K C f) (hC : κ.ca c = C)
    (Fo : FnOk X.prog X.w X.K X.mg X.base (L2.CX X.prog X.w) k f fd ps (spD κ (np + 1) [0] den)) (hr : Room (k + 1) X.A) (hv : PE X (.Name x p) (tVar i)) (hb : Binds X.K fd ps [])
    (tk : Takes X W) (ha : SA κ X W (e :: es) fa) (hn : Many fa np) (he : starEach (e :: es) X.env = (false, eval e X.env) :: starEach es X.env := by rfl) (hpl : (backTo pos (starEach es X.env)).any (·.1) = false := by rfl) :
    SE κ X W (.Call (.Name x p) (e :: es) [] pos) (mMakeV i c den fa) :=
  ⟨⟨fun pins s σ H Q I h => by
    obtain ⟨F, env, O, S, fin⟩ := h
    unfold mMakeV at fin
    cases q : (env[i]?).join with
    | none => rw [q] at fin; exact fin.elim
    | some d =>
      have q' : env[i]? = some (some d) := by
        cases q2 : env[i]? with
        | none => rw [q2] at q; cases q
        | some o => rw [q2] at q; cases o with
          | none => cases q
          | some u => cases q; rfl
      rw [q] at fin
      cases d with
      | cls c' =>
        dsimp only at fin
        by_cases hc : c' = c
        · rw [if_pos hc] at fin
          subst hc
          obtain ⟨v, A, O1, B, h1, _, y, _⟩ := S.own.get q'
          cases y
          refine wpAny_Call_Name_kw (thn (hv.run pins s σ H (fun w H' => w = .ref C ∧ tMakeS C (spD κ (np + 1) [0] den) (WE W) (tX κ W (rHs κ) fa) σ H' Q) I ⟨_, h1, hC ▸ rfl, by subst hC; exact tX_make hn ⟨F, env, O, S, fin⟩⟩) fun u s1 ⟨w, H1, I1, rw_, ew, q1⟩ => ?_)
          subst ew
          obtain rfl : u = Value.ref C := rw_
          refine PySem.W.callWith_K (h₀ := X.base) I1.ok.mod.kin Mc.kp (thn (ha.pa.run pos pins s1 σ H1 _ I1 q1) fun us s2 ⟨vs, H2, I2, r, q2⟩ => ⟨I2.kIn, ?_⟩) he hpl
          exact run_makeS Mc Fo hr hb (passAt tk σ) I2 r q2
        · rw [if_neg hc] at fin; exact fin.elim
      | _ => exact fin.elim⟩⟩
end VS
set_option Elab.async false
set_option linter.all false
set_option maxRecDepth 100000
set_option maxHeartbeats 1000000
namespace VS
open PySem L2
variable {κ : Kc} {W : WX} {X : Cx}
/-- an expression that is never reached -/
theorem se_stk {e : Expr} : SE κ X W e (fun _ => R.stk) := ⟨pe_mono pe_false fun σ H Q ⟨F, env, O, S, fin⟩ => fin.elim⟩
end VS
set_option Elab.async false
set_option linter.all false
set_option maxRecDepth 100000
set_option maxHeartbeats 1000000
namespace VS
open PySem L2
theorem containsT_all {P : Tag → Prop} {l : List Tag} (h : ∀ t ∈ l, P t) : ∀ t, l.contains t = true → P t := fun t ht => h t (by simpa using ht)
theorem dTags_all {P : String → Prop} (h1 : P "NoneType") (h2 : P "int") (h3 : P "str") (h4 : P "tuple") : ∀ t, dTags.contains (.b t) = true → P t := fun t ht => by
  have : t = "NoneType" ∨ t = "int" ∨ t = "str" ∨ t = "tuple" := by simpa [dTags] using ht
  rcases this with rfl | rfl | rfl | rfl <;> assumption
end VS
set_option Elab.async false
set_option linter.all false
set_option maxRecDepth 100000
set_option maxHeartbeats 400000
namespace K78
open PySem L2 VS
/-! ### the text by places -/
def top (i : Nat) : Stmt := PySem.Challenge.pw_cheapturns_k78_kinds_and_operators.main.body.getD i (.Pass ⟨0, 0, 0, 0⟩)
abbrev s_is_name : Stmt := top 7
abbrev s_letters_in : Stmt := top 8
abbrev s_opposite_shape : Stmt := top 9
abbrev s_Kinddd_initdd : Stmt := inClass (top 10) 1
abbrev s_Kind_letter : Stmt := inClass (top 10) 2
abbrev s_Kind_letters : Stmt := inClass (top 10) 3
abbrev s_Kinddd_invertdd : Stmt := inClass (top 10) 4
abbrev s_Kinddd_anddd : Stmt := inClass (top 10) 5
abbrev s_Kinddd_ordd : Stmt := inClass (top 10) 6
abbrev s_Kinddd_rshiftdd : Stmt := inClass (top 10) 7
abbrev s_Kinddd_eqdd : Stmt := inClass (top 10) 8
abbrev s_is_arrow_shape : Stmt := top 11
abbrev s_is_arrow : Stmt := top 12
abbrev s__law_cell : Stmt := top 14
abbrev s__law_draws : Stmt := top 15
abbrev s__law_pick : Stmt := top 16
abbrev s__law_letters : Stmt := top 17
abbrev s__law_name : Stmt := top 18
abbrev s__law_names : Stmt := top 19
abbrev s__law_shape : Stmt := top 20
abbrev s__law_opposite : Stmt := top 21
abbrev s__law_arrow : Stmt := top 22
abbrev s__law_changed : Stmt := top 23
abbrev s__law_due_arrow : Stmt := top 24
abbrev s__law_spoilt : Stmt := top 25
abbrev s__law_bad : Stmt := top 26
abbrev s__law_fault : Stmt := top 27
abbrev s__law_made : Stmt := top 28
abbrev s__law_due : Stmt := top 29
abbrev s__law_fields : Stmt := top 30
abbrev s__law_names_made : Stmt := top 31
abbrev s_law : Stmt := top 32
def flds_shape : List String := ["Kind"]
def cons_MOST_LETTERS : List String := ["Kind"]
def exs_limit : List String := ["TooLarge"]
def exs_name : List String := ["BadName"]
def ises_BadName : List (String × Bool) := [("BadName", true), ("TooLarge", false)]
def ises_TooLarge : List (String × Bool) := [("BadName", false), ("TooLarge", true)]
def ises_ValueError : List (String × Bool) := [("BadName", true), ("TooLarge", true)]
def cts_ComesapartError : List (String × Bool) := [("BadName", true), ("TooLarge", true)]
def isis_Kind : List (Tag × Bool) := [(.b "NoneType", false), (.b "bool", false), (.b "int", false), (.b "str", false), (.b "list", false), (.b "tuple", false), (.b "dict", false), (.c "Kind", true)]
def isis_bool : List (Tag × Bool) := [(.b "NoneType", false), (.b "bool", true), (.b "int", false), (.b "str", false), (.b "list", false), (.b "tuple", false), (.b "dict", false), (.c "Kind", false)]
def isis_tuple : List (Tag × Bool) := [(.b "NoneType", false), (.b "bool", false), (.b "int", false), (.b "str", false), (.b "list", false), (.b "tuple", true), (.b "dict", false), (.c "Kind", false)]
def etab : List Tag := [.c "Kind", .b "NoneType", .b "int", .b "str", .b "tuple"]
/-! ### what each def does -/
def e_is_name_0 (fu : Nat) : M D :=
    (mOp oIn (m2 (mRef 1) (M.bind (M.ret (.str "abcdefghijklmnopqrstuvwxyz")) fun d => M.ret (Hd.val d))))
def m_is_name (fu : Nat) : M Fl :=
    (M.bind (mAndV (mChain (fun i j => decide (i < j)) (fun i j => decide (i ≤ j)) (M.bind (M.ret (.int 0)) fun d => M.ret (Hd.val d)) (M.bind (mOp oLen (m1 (mRef 0))) fun d => M.ret (Hd.val d)) (M.bind (M.ret (.int 8)) fun d => M.ret (Hd.val d))) (mOp oAll (m1 (M.bind (mLc [1] (.nm 1) (mItems (mRef 0)) (M.ret true) (e_is_name_0 fu)) fun d => M.ret (Hd.val d))))) fun d => M.ret (Fl.rt d))
def den_is_name (fu : Nat) : FD := runF 2 [] (m_is_name fu)
def c_letters_in_0 (fu : Nat) : M Bool :=
    (mTru (mRef 2))
def b_letters_in_1 (fu : Nat) : M Fl :=
    (mThen (mAsg (.nm 3) (mShr (mLm 2 lPop mNil)))
    (mIf (mB (mOp oEq (m2 (M.bind (mOp oIx (m2 (mRef 3) (M.bind (M.ret (.int 0)) fun d => M.ret (Hd.val d)))) fun d => M.ret (Hd.val d)) (M.bind (M.ret (.str "letter")) fun d => M.ret (Hd.val d)))))
    (M.bind (mLm 1 lAppend (mCons (M.bind (mTk oTup (mCons (M.bind (mOp oIx (m2 (mRef 3) (M.bind (M.ret (.int 1)) fun d => M.ret (Hd.val d)))) fun d => M.ret (Hd.val d)) (mCons (M.bind (mOp oIx (m2 (mRef 3) (M.bind (M.ret (.int 2)) fun d => M.ret (Hd.val d)))) fun d => M.ret (Hd.val d)) mNil))) fun d => M.ret (Hd.val d)) mNil)) fun _ => mNx)
    (mThen (M.bind (mLm 2 lAppend (mCons (M.bind (mOp oIx (m2 (mRef 3) (M.bind (M.ret (.int 2)) fun d => M.ret (Hd.val d)))) fun d => M.ret (Hd.val d)) mNil)) fun _ => mNx)
    (M.bind (mLm 2 lAppend (mCons (M.bind (mOp oIx (m2 (mRef 3) (M.bind (M.ret (.int 1)) fun d => M.ret (Hd.val d)))) fun d => M.ret (Hd.val d)) mNil)) fun _ => mNx))))
def m_letters_in (fu : Nat) : M Fl :=
    (mThen (mAsg (.nm 1) (mTk oLst mNil))
    (mThen (mAsg (.nm 2) (mTk oLst (mCons (mRef 0) mNil)))
    (mThen (mWhile (c_letters_in_0 fu)
    (b_letters_in_1 fu) fu)
    (M.bind (mMove 1) fun d => M.ret (Fl.rt d)))))
def den_letters_in (fu : Nat) : FD := runF 4 [] (m_letters_in fu)
def m_opposite_shape (fu : Nat) (den_opposite_shape : Nat → Nat → FD) (n : Nat) : M Fl :=
    (mThen (mIf (mB (mOp oEq (m2 (M.bind (mOp oIx (m2 (mRef 0) (M.bind (M.ret (.int 0)) fun d => M.ret (Hd.val d)))) fun d => M.ret (Hd.val d)) (M.bind (M.ret (.str "letter")) fun d => M.ret (Hd.val d)))))
    (M.bind (mTk oTup (mCons (M.bind (M.ret (.str "letter")) fun d => M.ret (Hd.val d)) (mCons (M.bind (mOp oIx (m2 (mRef 0) (M.bind (M.ret (.int 1)) fun d => M.ret (Hd.val d)))) fun d => M.ret (Hd.val d)) (mCons (M.bind (M.bind (mB (mOp oIx (m2 (mRef 0) (M.bind (M.ret (.int 2)) fun d => M.ret (Hd.val d))))) fun b => M.ret (.bl (!b))) fun d => M.ret (Hd.val d)) mNil)))) fun d => M.ret (Fl.rt d))
    mNx)
    (mThen (mAsg (.nm 1) (M.ret (.str "both")))
    (mThen (mIf (mB (mOp oEq (m2 (M.bind (mOp oIx (m2 (mRef 0) (M.bind (M.ret (.int 0)) fun d => M.ret (Hd.val d)))) fun d => M.ret (Hd.val d)) (M.bind (M.ret (.str "both")) fun d => M.ret (Hd.val d)))))
    (mAsg (.nm 1) (M.ret (.str "together")))
    mNx)
    (M.bind (mTk oTup (mCons (mRef 1) (mCons (M.bind (mCall [] (den_opposite_shape fu n) (mCons (M.bind (mOp oIx (m2 (mRef 0) (M.bind (M.ret (.int 1)) fun d => M.ret (Hd.val d)))) fun d => M.ret (Hd.val d)) mNil)) fun d => M.ret (Hd.val d)) (mCons (M.bind (mCall [] (den_opposite_shape fu n) (mCons (M.bind (mOp oIx (m2 (mRef 0) (M.bind (M.ret (.int 2)) fun d => M.ret (Hd.val d)))) fun d => M.ret (Hd.val d)) mNil)) fun d => M.ret (Hd.val d)) mNil)))) fun d => M.ret (Fl.rt d)))))
def den_opposite_shape (fu : Nat) : Nat → FD
  | 0 => fun _ => .stk
  | n + 1 => runF 2 [] (m_opposite_shape fu (fun _ _ => den_opposite_shape fu n) n)
def b_Kinddd_initdd_0 (fu : Nat) : M Fl :=
    (mIf (M.bind (mTru (M.bind (mCall [] (den_is_name fu) (mCons (mRef 3) mNil)) fun d => M.ret (Hd.val d))) fun b => M.ret (!b))
    (mRaise "BadName" "name" (mTake (mRef 3)))
    mNx)
def m_Kinddd_initdd (fu : Nat) : M Fl :=
    (mThen (mAsg (.nm 2) (mShr (mCall [] (den_letters_in fu) (mCons (mRef 1) mNil))))
    (mThen (mIf (mB (mOp oGt (m2 (M.bind (mOp oLen (m1 (mRef 2))) fun d => M.ret (Hd.val d)) (M.bind (mOp (oConI cons_MOST_LETTERS "MOST_LETTERS" 40) (m1 (mRef 0))) fun d => M.ret (Hd.val d)))))
    (mRaise "TooLarge" "limit" (mOp (oConI cons_MOST_LETTERS "MOST_LETTERS" 40) (m1 (mRef 0))))
    mNx)
    (mThen (mFor (.tp [(.nm 3), (.nm 4)]) (mItems (mRef 2))
    (b_Kinddd_initdd_0 fu))
    (mSetF 0 flds_shape "shape" (mTake (mRef 1))))))
def den_Kinddd_initdd (fu : Nat) : FD := runF 5 [0] (m_Kinddd_initdd fu)
def m_Kind_letter (fu : Nat) : M Fl :=
    (M.bind (mMakeV 0 "Kind" (den_Kinddd_initdd fu) (mCons (M.bind (mTk oTup (mCons (M.bind (M.ret (.str "letter")) fun d => M.ret (Hd.val d)) (mCons (mRef 1) (mCons (M.bind (M.ret (.bl true)) fun d => M.ret (Hd.val d)) mNil)))) fun d => M.ret (Hd.val d)) mNil)) fun d => M.ret (Fl.rt d))
def den_Kind_letter (fu : Nat) : FD := runF 2 [] (m_Kind_letter fu)
def m_Kind_letters (fu : Nat) : M Fl :=
    (M.bind (mOp oTuple (m1 (M.bind (mCall [] (den_letters_in fu) (mCons (M.bind (mOp (oFld flds_shape "shape") (m1 (mRef 0))) fun d => M.ret (Hd.val d)) mNil)) fun d => M.ret (Hd.val d)))) fun d => M.ret (Fl.rt d))
def den_Kind_letters (fu : Nat) : FD := runF 1 [] (m_Kind_letters fu)
def m_Kinddd_invertdd (fu : Nat) : M Fl :=
    (M.bind (mMake "Kind" (den_Kinddd_initdd fu) (mCons (M.bind (mCall [] (den_opposite_shape fu 60) (mCons (M.bind (mOp (oFld flds_shape "shape") (m1 (mRef 0))) fun d => M.ret (Hd.val d)) mNil)) fun d => M.ret (Hd.val d)) mNil)) fun d => M.ret (Fl.rt d))
def den_Kinddd_invertdd (fu : Nat) : FD := runF 1 [] (m_Kinddd_invertdd fu)
def m_Kinddd_anddd (fu : Nat) : M Fl :=
    (mThen (mIf (M.bind (mTru (M.bind (mOp (oIsi isis_Kind) (m1 (mRef 1))) fun d => M.ret (Hd.val d))) fun b => M.ret (!b))
    (M.bind (fun _ => R.stk) fun d => M.ret (Fl.rt d))
    mNx)
    (M.bind (mMake "Kind" (den_Kinddd_initdd fu) (mCons (M.bind (mTk oTup (mCons (M.bind (M.ret (.str "both")) fun d => M.ret (Hd.val d)) (mCons (M.bind (mOp (oFld flds_shape "shape") (m1 (mRef 0))) fun d => M.ret (Hd.val d)) (mCons (M.bind (mOp (oFld flds_shape "shape") (m1 (mRef 1))) fun d => M.ret (Hd.val d)) mNil)))) fun d => M.ret (Hd.val d)) mNil)) fun d => M.ret (Fl.rt d)))
def den_Kinddd_anddd (fu : Nat) : FD := runF 2 [] (m_Kinddd_anddd fu)
def m_Kinddd_ordd (fu : Nat) : M Fl :=
    (mThen (mIf (M.bind (mTru (M.bind (mOp (oIsi isis_Kind) (m1 (mRef 1))) fun d => M.ret (Hd.val d))) fun b => M.ret (!b))
    (M.bind (fun _ => R.stk) fun d => M.ret (Fl.rt d))
    mNx)
    (M.bind (mMake "Kind" (den_Kinddd_initdd fu) (mCons (M.bind (mTk oTup (mCons (M.bind (M.ret (.str "together")) fun d => M.ret (Hd.val d)) (mCons (M.bind (mOp (oFld flds_shape "shape") (m1 (mRef 0))) fun d => M.ret (Hd.val d)) (mCons (M.bind (mOp (oFld flds_shape "shape") (m1 (mRef 1))) fun d => M.ret (Hd.val d)) mNil)))) fun d => M.ret (Hd.val d)) mNil)) fun d => M.ret (Fl.rt d)))
def den_Kinddd_ordd (fu : Nat) : FD := runF 2 [] (m_Kinddd_ordd fu)
def m_Kinddd_rshiftdd (fu : Nat) : M Fl :=
    (mThen (mIf (M.bind (mTru (M.bind (mOp (oIsi isis_Kind) (m1 (mRef 1))) fun d => M.ret (Hd.val d))) fun b => M.ret (!b))
    (M.bind (fun _ => R.stk) fun d => M.ret (Fl.rt d))
    mNx)
    (M.bind (mMake "Kind" (den_Kinddd_initdd fu) (mCons (M.bind (mTk oTup (mCons (M.bind (M.ret (.str "together")) fun d => M.ret (Hd.val d)) (mCons (M.bind (mCall [] (den_opposite_shape fu 60) (mCons (M.bind (mOp (oFld flds_shape "shape") (m1 (mRef 0))) fun d => M.ret (Hd.val d)) mNil)) fun d => M.ret (Hd.val d)) (mCons (M.bind (mOp (oFld flds_shape "shape") (m1 (mRef 1))) fun d => M.ret (Hd.val d)) mNil)))) fun d => M.ret (Hd.val d)) mNil)) fun d => M.ret (Fl.rt d)))
def den_Kinddd_rshiftdd (fu : Nat) : FD := runF 2 [] (m_Kinddd_rshiftdd fu)
def m_Kinddd_eqdd (fu : Nat) : M Fl :=
    (M.bind (mAndV (mOp (oIsi isis_Kind) (m1 (mRef 1))) (mOp oEq (m2 (M.bind (mOp (oFld flds_shape "shape") (m1 (mRef 0))) fun d => M.ret (Hd.val d)) (M.bind (mOp (oFld flds_shape "shape") (m1 (mRef 1))) fun d => M.ret (Hd.val d))))) fun d => M.ret (Fl.rt d))
def den_Kinddd_eqdd (fu : Nat) : FD := runF 2 [] (m_Kinddd_eqdd fu)
def m_is_arrow_shape (fu : Nat) (den_is_arrow_shape : Nat → Nat → FD) (n : Nat) : M Fl :=
    (mThen (mIf (mB (mOp oEq (m2 (M.bind (mOp oIx (m2 (mRef 0) (M.bind (M.ret (.int 0)) fun d => M.ret (Hd.val d)))) fun d => M.ret (Hd.val d)) (M.bind (M.ret (.str "letter")) fun d => M.ret (Hd.val d)))))
    (M.bind (mOp oEq (m2 (M.bind (mOp oIx (m2 (mRef 0) (M.bind (M.ret (.int 2)) fun d => M.ret (Hd.val d)))) fun d => M.ret (Hd.val d)) (mRef 1))) fun d => M.ret (Fl.rt d))
    mNx)
    (mThen (mAsg (.nm 2) (M.ret (.str "both")))
    (mThen (mIf (mTru (mRef 1))
    (mAsg (.nm 2) (M.ret (.str "together")))
    mNx)
    (mThen (mIf (mB (mOp oNe (m2 (M.bind (mOp oIx (m2 (mRef 0) (M.bind (M.ret (.int 0)) fun d => M.ret (Hd.val d)))) fun d => M.ret (Hd.val d)) (mRef 2))))
    (M.bind (M.ret (.bl false)) fun d => M.ret (Fl.rt d))
    mNx)
    (M.bind (mAndV (mCall [] (den_is_arrow_shape fu n) (mCons (M.bind (mOp oIx (m2 (mRef 0) (M.bind (M.ret (.int 1)) fun d => M.ret (Hd.val d)))) fun d => M.ret (Hd.val d)) (mCons (M.bind (M.bind (mB (mTake (mRef 1))) fun b => M.ret (.bl (!b))) fun d => M.ret (Hd.val d)) mNil))) (mCall [] (den_is_arrow_shape fu n) (mCons (M.bind (mOp oIx (m2 (mRef 0) (M.bind (M.ret (.int 2)) fun d => M.ret (Hd.val d)))) fun d => M.ret (Hd.val d)) (mCons (mRef 1) mNil)))) fun d => M.ret (Fl.rt d))))))
def den_is_arrow_shape (fu : Nat) : Nat → FD
  | 0 => fun _ => .stk
  | n + 1 => runF 3 [] (m_is_arrow_shape fu (fun _ _ => den_is_arrow_shape fu n) n)
def m_is_arrow (fu : Nat) : M Fl :=
    (M.bind (mCall [] (den_is_arrow_shape fu 60) (mCons (M.bind (mOp (oFld flds_shape "shape") (m1 (mRef 0))) fun d => M.ret (Hd.val d)) (mCons (M.bind (M.ret (.bl true)) fun d => M.ret (Hd.val d)) mNil))) fun d => M.ret (Fl.rt d))
def den_is_arrow (fu : Nat) : FD := runF 1 [] (m_is_arrow fu)
def m__law_cell (fu : Nat) : M Fl :=
    (mThen (mIf (mB (mOp oLt (m2 (mRef 1) (M.bind (mOp oLen (m1 (mRef 0))) fun d => M.ret (Hd.val d)))))
    (M.bind (mOp oIx (m2 (mRef 0) (mRef 1))) fun d => M.ret (Fl.rt d))
    mNx)
    (M.bind (M.ret (.int 0)) fun d => M.ret (Fl.rt d)))
def den__law_cell (fu : Nat) : FD := runF 2 [] (m__law_cell fu)
def b__law_draws_0 (fu : Nat) : M Fl :=
    (mThen (mAsg (.nm 4) (mOp oMod (m2 (M.bind (mOp oToInt (m1 (M.bind (mOp oAdd (m2 (M.bind (mOp oAdd (m2 (M.bind (mOp oMul (m2 (mRef 4) (M.bind (M.ret (.int 48271)) fun d => M.ret (Hd.val d)))) fun d => M.ret (Hd.val d)) (M.bind (mOp oMul (m2 (M.bind (M.ret (.int 9973)) fun d => M.ret (Hd.val d)) (mRef 6))) fun d => M.ret (Hd.val d)))) fun d => M.ret (Hd.val d)) (M.bind (M.ret (.int 11)) fun d => M.ret (Hd.val d)))) fun d => M.ret (Hd.val d)))) fun d => M.ret (Hd.val d)) (M.bind (M.ret (.int 2147483647)) fun d => M.ret (Hd.val d)))))
    (mIf (mAnd (mTru (mRef 3)) (mB (mOp oGt (m2 (mRef 2) (M.bind (M.ret (.int 0)) fun d => M.ret (Hd.val d))))))
    (mThen (M.bind (mLm 5 lAppend (mCons (M.bind (mOp oMod (m2 (M.bind (mOp oToInt (m1 (mRef 2))) fun d => M.ret (Hd.val d)) (M.bind (M.ret (.int 60)) fun d => M.ret (Hd.val d)))) fun d => M.ret (Hd.val d)) mNil)) fun _ => mNx)
    (mAsg (.nm 2) (mOp oFdiv (m2 (mRef 2) (M.bind (M.ret (.int 60)) fun d => M.ret (Hd.val d))))))
    (M.bind (mLm 5 lAppend (mCons (M.bind (mOp oMod (m2 (M.bind (mOp oFdiv (m2 (mRef 4) (M.bind (M.ret (.int 13)) fun d => M.ret (Hd.val d)))) fun d => M.ret (Hd.val d)) (M.bind (M.ret (.int 60)) fun d => M.ret (Hd.val d)))) fun d => M.ret (Hd.val d)) mNil)) fun _ => mNx)))
def m__law_draws (fu : Nat) : M Fl :=
    (mThen (mAsg (.nm 2) (mShr (mOp oAbs (m1 (M.bind (mOp oToInt (m1 (mRef 0))) fun d => M.ret (Hd.val d))))))
    (mThen (mAsg (.nm 3) (mOp oGe (m2 (mRef 2) (M.bind (mOp oPow (m2 (M.bind (M.ret (.int 10)) fun d => M.ret (Hd.val d)) (M.bind (M.ret (.int 18)) fun d => M.ret (Hd.val d)))) fun d => M.ret (Hd.val d)))))
    (mThen (mAsg (.nm 4) (mShr (mOp oAdd (m2 (M.bind (mOp oMod (m2 (M.bind (mOp oToInt (m1 (mRef 2))) fun d => M.ret (Hd.val d)) (M.bind (M.ret (.int 2147483629)) fun d => M.ret (Hd.val d)))) fun d => M.ret (Hd.val d)) (M.bind (M.ret (.int 17)) fun d => M.ret (Hd.val d))))))
    (mThen (mAsg (.nm 5) (mTk oLst mNil))
    (mThen (mFor (.nm 6) (mRng1 (m1 (mRef 1)))
    (b__law_draws_0 fu))
    (M.bind (mMove 5) fun d => M.ret (Fl.rt d)))))))
def den__law_draws (fu : Nat) : FD := runF 7 [] (m__law_draws fu)
def m__law_pick (fu : Nat) : M Fl :=
    (mThen (mIf (mOr (mB (mOp oLt (m2 (mRef 2) (M.bind (M.ret (.int 2)) fun d => M.ret (Hd.val d))))) (mB (mOp oEq (m2 (M.bind (mOp oLen (m1 (mRef 0))) fun d => M.ret (Hd.val d)) (M.bind (M.ret (.int 0)) fun d => M.ret (Hd.val d))))))
    (M.bind (M.ret (.int 0)) fun d => M.ret (Fl.rt d))
    mNx)
    (M.bind (mOp oMod (m2 (M.bind (mOp oToInt (m1 (M.bind (mOp oIx (m2 (mRef 0) (M.bind (mOp oMod (m2 (M.bind (mOp oToInt (m1 (mRef 1))) fun d => M.ret (Hd.val d)) (M.bind (mOp oLen (m1 (mRef 0))) fun d => M.ret (Hd.val d)))) fun d => M.ret (Hd.val d)))) fun d => M.ret (Hd.val d)))) fun d => M.ret (Hd.val d)) (mRef 2))) fun d => M.ret (Fl.rt d)))
def den__law_pick (fu : Nat) : FD := runF 3 [] (m__law_pick fu)
def m__law_letters (fu : Nat) (den__law_letters : Nat → Nat → FD) (n : Nat) : M Fl :=
    (mThen (mIf (mB (mOp oEq (m2 (M.bind (mOp oIx (m2 (mRef 0) (M.bind (M.ret (.int 0)) fun d => M.ret (Hd.val d)))) fun d => M.ret (Hd.val d)) (M.bind (M.ret (.str "letter")) fun d => M.ret (Hd.val d)))))
    (M.bind (mTk oLst (mCons (M.bind (mTk oTup (mCons (M.bind (mOp oIx (m2 (mRef 0) (M.bind (M.ret (.int 1)) fun d => M.ret (Hd.val d)))) fun d => M.ret (Hd.val d)) (mCons (M.bind (mOp oIx (m2 (mRef 0) (M.bind (M.ret (.int 2)) fun d => M.ret (Hd.val d)))) fun d => M.ret (Hd.val d)) mNil))) fun d => M.ret (Hd.val d)) mNil)) fun d => M.ret (Fl.rt d))
    mNx)
    (M.bind (mOp oAdd (m2 (M.bind (mCall [] (den__law_letters fu n) (mCons (M.bind (mOp oIx (m2 (mRef 0) (M.bind (M.ret (.int 1)) fun d => M.ret (Hd.val d)))) fun d => M.ret (Hd.val d)) mNil)) fun d => M.ret (Hd.val d)) (M.bind (mCall [] (den__law_letters fu n) (mCons (M.bind (mOp oIx (m2 (mRef 0) (M.bind (M.ret (.int 2)) fun d => M.ret (Hd.val d)))) fun d => M.ret (Hd.val d)) mNil)) fun d => M.ret (Hd.val d)))) fun d => M.ret (Fl.rt d)))
def den__law_letters (fu : Nat) : Nat → FD
  | 0 => fun _ => .stk
  | n + 1 => runF 1 [] (m__law_letters fu (fun _ _ => den__law_letters fu n) n)
def b__law_name_0 (fu : Nat) : M Fl :=
    (mAsg (.nm 2) (mShr (mOp oAdd (m2 (mRef 2) (M.bind (mOp oIx (m2 (M.bind (M.ret (.str "abcdefghijklmnopqrstuvwxyz")) fun d => M.ret (Hd.val d)) (M.bind (mCall [] (den__law_pick fu) (mCons (mRef 0) (mCons (M.bind (mOp oAdd (m2 (M.bind (mOp oAdd (m2 (mRef 1) (M.bind (M.ret (.int 1)) fun d => M.ret (Hd.val d)))) fun d => M.ret (Hd.val d)) (mRef 3))) fun d => M.ret (Hd.val d)) (mCons (M.bind (M.ret (.int 26)) fun d => M.ret (Hd.val d)) mNil)))) fun d => M.ret (Hd.val d)))) fun d => M.ret (Hd.val d))))))
def m__law_name (fu : Nat) : M Fl :=
    (mThen (mAsg (.nm 2) (M.ret (.str "")))
    (mThen (mFor (.nm 3) (mRng1 (m1 (M.bind (mOp oAdd (m2 (M.bind (M.ret (.int 1)) fun d => M.ret (Hd.val d)) (M.bind (mCall [] (den__law_pick fu) (mCons (mRef 0) (mCons (mRef 1) (mCons (M.bind (M.ret (.int 8)) fun d => M.ret (Hd.val d)) mNil)))) fun d => M.ret (Hd.val d)))) fun d => M.ret (Hd.val d))))
    (b__law_name_0 fu))
    (M.bind (mMove 2) fun d => M.ret (Fl.rt d))))
def den__law_name (fu : Nat) : FD := runF 4 [] (m__law_name fu)
def e__law_names_0 (fu : Nat) : M D :=
    (mCall [] (den__law_name fu) (mCons (mRef 0) (mCons (M.bind (mOp oMul (m2 (M.bind (M.ret (.int 9)) fun d => M.ret (Hd.val d)) (mRef 6))) fun d => M.ret (Hd.val d)) mNil)))
def b__law_names_1 (fu : Nat) : M Fl :=
    (mThen (mAsg (.nm 7) (mShr (mOp oIx (m2 (M.bind (M.ret (.str "abyz")) fun d => M.ret (Hd.val d)) (M.bind (mCall [] (den__law_pick fu) (mCons (mRef 0) (mCons (M.bind (mOp oAdd (m2 (M.bind (M.ret (.int 9)) fun d => M.ret (Hd.val d)) (mRef 6))) fun d => M.ret (Hd.val d)) (mCons (M.bind (M.ret (.int 4)) fun d => M.ret (Hd.val d)) mNil)))) fun d => M.ret (Hd.val d))))))
    (M.bind (mLm 5 lAppend (mCons (M.bind (mOp oAdd (m2 (M.bind (mOp oAdd (m2 (M.bind (mSl (mRef 3) (M.ret none) (mPart (mRef 4))) fun d => M.ret (Hd.val d)) (mRef 7))) fun d => M.ret (Hd.val d)) (M.bind (mSl (mRef 3) (mPart (M.bind (mOp oAdd (m2 (mRef 4) (M.bind (M.ret (.int 1)) fun d => M.ret (Hd.val d)))) fun d => M.ret (Hd.val d))) (M.ret none)) fun d => M.ret (Hd.val d)))) fun d => M.ret (Hd.val d)) mNil)) fun _ => mNx))
def m__law_names (fu : Nat) : M Fl :=
    (mThen (mAsg (.nm 3) (mShr (mCall [] (den__law_name fu) (mCons (mRef 0) (mCons (M.bind (M.ret (.int 0)) fun d => M.ret (Hd.val d)) mNil)))))
    (mThen (mIf (mB (mOp oEq (m2 (M.bind (mCall [] (den__law_pick fu) (mCons (mRef 1) (mCons (M.bind (M.ret (.int 0)) fun d => M.ret (Hd.val d)) (mCons (M.bind (M.ret (.int 2)) fun d => M.ret (Hd.val d)) mNil)))) fun d => M.ret (Hd.val d)) (M.bind (M.ret (.int 0)) fun d => M.ret (Hd.val d)))))
    (M.bind (mLc [6] (.nm 6) (mRng1 (m1 (mRef 2))) (M.ret true) (e__law_names_0 fu)) fun d => M.ret (Fl.rt d))
    mNx)
    (mThen (mAsg (.nm 4) (mShr (mCall [] (den__law_pick fu) (mCons (mRef 1) (mCons (M.bind (M.ret (.int 1)) fun d => M.ret (Hd.val d)) (mCons (M.bind (mOp oLen (m1 (mRef 3))) fun d => M.ret (Hd.val d)) mNil))))))
    (mThen (mAsg (.nm 5) (mTk oLst mNil))
    (mThen (mFor (.nm 6) (mRng1 (m1 (mRef 2)))
    (b__law_names_1 fu))
    (M.bind (mMove 5) fun d => M.ret (Fl.rt d)))))))
def den__law_names (fu : Nat) : FD := runF 8 [] (m__law_names fu)
def b__law_shape_0 (fu : Nat) : M Fl :=
    (mThen (mAsg (.nm 5) (mShr (mCall [] (den__law_pick fu) (mCons (mRef 0) (mCons (M.bind (mOp oAdd (m2 (mRef 1) (M.bind (mOp oMul (m2 (M.bind (M.ret (.int 2)) fun d => M.ret (Hd.val d)) (mRef 4))) fun d => M.ret (Hd.val d)))) fun d => M.ret (Hd.val d)) (mCons (M.bind (mOp oSub (m2 (M.bind (mOp oLen (m1 (mRef 3))) fun d => M.ret (Hd.val d)) (M.bind (M.ret (.int 1)) fun d => M.ret (Hd.val d)))) fun d => M.ret (Hd.val d)) mNil))))))
    (mThen (mAsg (.nm 6) (mShr (mLm 3 lPopAt (mCons (M.bind (mOp oAdd (m2 (mRef 5) (M.bind (M.ret (.int 1)) fun d => M.ret (Hd.val d)))) fun d => M.ret (Hd.val d)) mNil))))
    (mThen (mAsg (.nm 7) (M.ret (.str "both")))
    (mThen (mIf (mB (mOp oEq (m2 (M.bind (mCall [] (den__law_pick fu) (mCons (mRef 0) (mCons (M.bind (mOp oAdd (m2 (M.bind (mOp oAdd (m2 (mRef 1) (M.bind (mOp oMul (m2 (M.bind (M.ret (.int 2)) fun d => M.ret (Hd.val d)) (mRef 4))) fun d => M.ret (Hd.val d)))) fun d => M.ret (Hd.val d)) (M.bind (M.ret (.int 1)) fun d => M.ret (Hd.val d)))) fun d => M.ret (Hd.val d)) (mCons (M.bind (M.ret (.int 2)) fun d => M.ret (Hd.val d)) mNil)))) fun d => M.ret (Hd.val d)) (M.bind (M.ret (.int 1)) fun d => M.ret (Hd.val d)))))
    (mAsg (.nm 7) (M.ret (.str "together")))
    mNx)
    (mSetIx 3 (mTk oTup (mCons (mRef 7) (mCons (M.bind (mOp oIx (m2 (mRef 3) (mRef 5))) fun d => M.ret (Hd.val d)) (mCons (mRef 6) mNil)))) (mRef 5))))))
def m__law_shape (fu : Nat) : M Fl :=
    (mThen (mAsg (.nm 3) (mOp oList (m1 (mRef 2))))
    (mThen (mFor (.nm 4) (mRng1 (m1 (M.bind (mOp oSub (m2 (M.bind (mOp oLen (m1 (mRef 2))) fun d => M.ret (Hd.val d)) (M.bind (M.ret (.int 1)) fun d => M.ret (Hd.val d)))) fun d => M.ret (Hd.val d))))
    (b__law_shape_0 fu))
    (M.bind (mOp oIx (m2 (mRef 3) (M.bind (M.ret (.int 0)) fun d => M.ret (Hd.val d)))) fun d => M.ret (Fl.rt d))))
def den__law_shape (fu : Nat) : FD := runF 8 [] (m__law_shape fu)
def m__law_opposite (fu : Nat) (den__law_opposite : Nat → Nat → FD) (n : Nat) : M Fl :=
    (mThen (mIf (mB (mOp oEq (m2 (M.bind (mOp oIx (m2 (mRef 0) (M.bind (M.ret (.int 0)) fun d => M.ret (Hd.val d)))) fun d => M.ret (Hd.val d)) (M.bind (M.ret (.str "letter")) fun d => M.ret (Hd.val d)))))
    (M.bind (mTk oTup (mCons (M.bind (M.ret (.str "letter")) fun d => M.ret (Hd.val d)) (mCons (M.bind (mOp oIx (m2 (mRef 0) (M.bind (M.ret (.int 1)) fun d => M.ret (Hd.val d)))) fun d => M.ret (Hd.val d)) (mCons (M.bind (M.bind (mB (mOp oIx (m2 (mRef 0) (M.bind (M.ret (.int 2)) fun d => M.ret (Hd.val d))))) fun b => M.ret (.bl (!b))) fun d => M.ret (Hd.val d)) mNil)))) fun d => M.ret (Fl.rt d))
    mNx)
    (mThen (mIf (mB (mOp oEq (m2 (M.bind (mOp oIx (m2 (mRef 0) (M.bind (M.ret (.int 0)) fun d => M.ret (Hd.val d)))) fun d => M.ret (Hd.val d)) (M.bind (M.ret (.str "both")) fun d => M.ret (Hd.val d)))))
    (M.bind (mTk oTup (mCons (M.bind (M.ret (.str "together")) fun d => M.ret (Hd.val d)) (mCons (M.bind (mCall [] (den__law_opposite fu n) (mCons (M.bind (mOp oIx (m2 (mRef 0) (M.bind (M.ret (.int 1)) fun d => M.ret (Hd.val d)))) fun d => M.ret (Hd.val d)) mNil)) fun d => M.ret (Hd.val d)) (mCons (M.bind (mCall [] (den__law_opposite fu n) (mCons (M.bind (mOp oIx (m2 (mRef 0) (M.bind (M.ret (.int 2)) fun d => M.ret (Hd.val d)))) fun d => M.ret (Hd.val d)) mNil)) fun d => M.ret (Hd.val d)) mNil)))) fun d => M.ret (Fl.rt d))
    mNx)
    (M.bind (mTk oTup (mCons (M.bind (M.ret (.str "both")) fun d => M.ret (Hd.val d)) (mCons (M.bind (mCall [] (den__law_opposite fu n) (mCons (M.bind (mOp oIx (m2 (mRef 0) (M.bind (M.ret (.int 1)) fun d => M.ret (Hd.val d)))) fun d => M.ret (Hd.val d)) mNil)) fun d => M.ret (Hd.val d)) (mCons (M.bind (mCall [] (den__law_opposite fu n) (mCons (M.bind (mOp oIx (m2 (mRef 0) (M.bind (M.ret (.int 2)) fun d => M.ret (Hd.val d)))) fun d => M.ret (Hd.val d)) mNil)) fun d => M.ret (Hd.val d)) mNil)))) fun d => M.ret (Fl.rt d))))
def den__law_opposite (fu : Nat) : Nat → FD
  | 0 => fun _ => .stk
  | n + 1 => runF 1 [] (m__law_opposite fu (fun _ _ => den__law_opposite fu n) n)
def e__law_arrow_0 (fu : Nat) : M D :=
    (mTk oTup (mCons (M.bind (M.ret (.str "letter")) fun d => M.ret (Hd.val d)) (mCons (mRef 7) (mCons (M.bind (M.ret (.bl true)) fun d => M.ret (Hd.val d)) mNil))))
def b__law_arrow_1 (fu : Nat) : M Fl :=
    (mThen (mAsg (.nm 5) (mShr (mCall [] (den__law_pick fu) (mCons (mRef 0) (mCons (M.bind (mOp oAdd (m2 (mRef 1) (mRef 4))) fun d => M.ret (Hd.val d)) (mCons (M.bind (mOp oSub (m2 (M.bind (mOp oLen (m1 (mRef 3))) fun d => M.ret (Hd.val d)) (M.bind (M.ret (.int 1)) fun d => M.ret (Hd.val d)))) fun d => M.ret (Hd.val d)) mNil))))))
    (mThen (mAsg (.nm 6) (mShr (mLm 3 lPopAt (mCons (M.bind (mOp oAdd (m2 (mRef 5) (M.bind (M.ret (.int 1)) fun d => M.ret (Hd.val d)))) fun d => M.ret (Hd.val d)) mNil))))
    (mSetIx 3 (mTk oTup (mCons (M.bind (M.ret (.str "together")) fun d => M.ret (Hd.val d)) (mCons (M.bind (mCall [] (den__law_opposite fu 60) (mCons (M.bind (mOp oIx (m2 (mRef 3) (mRef 5))) fun d => M.ret (Hd.val d)) mNil)) fun d => M.ret (Hd.val d)) (mCons (mRef 6) mNil)))) (mRef 5))))
def m__law_arrow (fu : Nat) : M Fl :=
    (mThen (mAsg (.nm 3) (mLc [7] (.nm 7) (mItems (mRef 2)) (M.ret true) (e__law_arrow_0 fu)))
    (mThen (mFor (.nm 4) (mRng1 (m1 (M.bind (mOp oSub (m2 (M.bind (mOp oLen (m1 (mRef 2))) fun d => M.ret (Hd.val d)) (M.bind (M.ret (.int 1)) fun d => M.ret (Hd.val d)))) fun d => M.ret (Hd.val d))))
    (b__law_arrow_1 fu))
    (M.bind (mOp oIx (m2 (mRef 3) (M.bind (M.ret (.int 0)) fun d => M.ret (Hd.val d)))) fun d => M.ret (Fl.rt d))))
def den__law_arrow (fu : Nat) : FD := runF 8 [] (m__law_arrow fu)
def m__law_changed (fu : Nat) (den__law_changed : Nat → Nat → FD) (n : Nat) : M Fl :=
    (mThen (mIf (mB (mOp oEq (m2 (M.bind (mOp oIx (m2 (mRef 0) (M.bind (M.ret (.int 0)) fun d => M.ret (Hd.val d)))) fun d => M.ret (Hd.val d)) (M.bind (M.ret (.str "letter")) fun d => M.ret (Hd.val d)))))
    (M.bind (mTk oTup (mCons (M.bind (M.ret (.str "letter")) fun d => M.ret (Hd.val d)) (mCons (M.bind (mOp oIx (m2 (mRef 0) (M.bind (M.ret (.int 1)) fun d => M.ret (Hd.val d)))) fun d => M.ret (Hd.val d)) (mCons (M.bind (M.bind (mB (mOp oIx (m2 (mRef 0) (M.bind (M.ret (.int 2)) fun d => M.ret (Hd.val d))))) fun b => M.ret (.bl (!b))) fun d => M.ret (Hd.val d)) mNil)))) fun d => M.ret (Fl.rt d))
    mNx)
    (mThen (mIf (mAnd (mB (mOp oEq (m2 (M.bind (mOp oMod (m2 (M.bind (mOp oToInt (m1 (mRef 1))) fun d => M.ret (Hd.val d)) (M.bind (M.ret (.int 3)) fun d => M.ret (Hd.val d)))) fun d => M.ret (Hd.val d)) (M.bind (M.ret (.int 0)) fun d => M.ret (Hd.val d))))) (mB (mOp oEq (m2 (M.bind (mOp oIx (m2 (mRef 0) (M.bind (M.ret (.int 0)) fun d => M.ret (Hd.val d)))) fun d => M.ret (Hd.val d)) (M.bind (M.ret (.str "both")) fun d => M.ret (Hd.val d))))))
    (M.bind (mTk oTup (mCons (M.bind (M.ret (.str "together")) fun d => M.ret (Hd.val d)) (mCons (M.bind (mOp oIx (m2 (mRef 0) (M.bind (M.ret (.int 1)) fun d => M.ret (Hd.val d)))) fun d => M.ret (Hd.val d)) (mCons (M.bind (mOp oIx (m2 (mRef 0) (M.bind (M.ret (.int 2)) fun d => M.ret (Hd.val d)))) fun d => M.ret (Hd.val d)) mNil)))) fun d => M.ret (Fl.rt d))
    mNx)
    (mThen (mIf (mB (mOp oEq (m2 (M.bind (mOp oMod (m2 (M.bind (mOp oToInt (m1 (mRef 1))) fun d => M.ret (Hd.val d)) (M.bind (M.ret (.int 3)) fun d => M.ret (Hd.val d)))) fun d => M.ret (Hd.val d)) (M.bind (M.ret (.int 0)) fun d => M.ret (Hd.val d)))))
    (M.bind (mTk oTup (mCons (M.bind (M.ret (.str "both")) fun d => M.ret (Hd.val d)) (mCons (M.bind (mOp oIx (m2 (mRef 0) (M.bind (M.ret (.int 1)) fun d => M.ret (Hd.val d)))) fun d => M.ret (Hd.val d)) (mCons (M.bind (mOp oIx (m2 (mRef 0) (M.bind (M.ret (.int 2)) fun d => M.ret (Hd.val d)))) fun d => M.ret (Hd.val d)) mNil)))) fun d => M.ret (Fl.rt d))
    mNx)
    (mThen (mIf (mB (mOp oEq (m2 (M.bind (mOp oMod (m2 (M.bind (mOp oToInt (m1 (mRef 1))) fun d => M.ret (Hd.val d)) (M.bind (M.ret (.int 3)) fun d => M.ret (Hd.val d)))) fun d => M.ret (Hd.val d)) (M.bind (M.ret (.int 1)) fun d => M.ret (Hd.val d)))))
    (M.bind (mTk oTup (mCons (M.bind (mOp oIx (m2 (mRef 0) (M.bind (M.ret (.int 0)) fun d => M.ret (Hd.val d)))) fun d => M.ret (Hd.val d)) (mCons (M.bind (mCall [] (den__law_changed fu n) (mCons (M.bind (mOp oIx (m2 (mRef 0) (M.bind (M.ret (.int 1)) fun d => M.ret (Hd.val d)))) fun d => M.ret (Hd.val d)) (mCons (M.bind (mOp oFdiv (m2 (mRef 1) (M.bind (M.ret (.int 3)) fun d => M.ret (Hd.val d)))) fun d => M.ret (Hd.val d)) mNil))) fun d => M.ret (Hd.val d)) (mCons (M.bind (mOp oIx (m2 (mRef 0) (M.bind (M.ret (.int 2)) fun d => M.ret (Hd.val d)))) fun d => M.ret (Hd.val d)) mNil)))) fun d => M.ret (Fl.rt d))
    mNx)
    (M.bind (mTk oTup (mCons (M.bind (mOp oIx (m2 (mRef 0) (M.bind (M.ret (.int 0)) fun d => M.ret (Hd.val d)))) fun d => M.ret (Hd.val d)) (mCons (M.bind (mOp oIx (m2 (mRef 0) (M.bind (M.ret (.int 1)) fun d => M.ret (Hd.val d)))) fun d => M.ret (Hd.val d)) (mCons (M.bind (mCall [] (den__law_changed fu n) (mCons (M.bind (mOp oIx (m2 (mRef 0) (M.bind (M.ret (.int 2)) fun d => M.ret (Hd.val d)))) fun d => M.ret (Hd.val d)) (mCons (M.bind (mOp oFdiv (m2 (mRef 1) (M.bind (M.ret (.int 3)) fun d => M.ret (Hd.val d)))) fun d => M.ret (Hd.val d)) mNil))) fun d => M.ret (Hd.val d)) mNil)))) fun d => M.ret (Fl.rt d))))))
def den__law_changed (fu : Nat) : Nat → FD
  | 0 => fun _ => .stk
  | n + 1 => runF 2 [] (m__law_changed fu (fun _ _ => den__law_changed fu n) n)
def m__law_due_arrow (fu : Nat) (den__law_due_arrow : Nat → Nat → FD) (n : Nat) : M Fl :=
    (mThen (mIf (mB (mOp oEq (m2 (M.bind (mOp oIx (m2 (mRef 0) (M.bind (M.ret (.int 0)) fun d => M.ret (Hd.val d)))) fun d => M.ret (Hd.val d)) (M.bind (M.ret (.str "letter")) fun d => M.ret (Hd.val d)))))
    (M.bind (mOp oEq (m2 (M.bind (mOp oIx (m2 (mRef 0) (M.bind (M.ret (.int 2)) fun d => M.ret (Hd.val d)))) fun d => M.ret (Hd.val d)) (mRef 1))) fun d => M.ret (Fl.rt d))
    mNx)
    (mThen (mIf (mB (mOp oNe (m2 (M.bind (mOp oEq (m2 (M.bind (mOp oIx (m2 (mRef 0) (M.bind (M.ret (.int 0)) fun d => M.ret (Hd.val d)))) fun d => M.ret (Hd.val d)) (M.bind (M.ret (.str "together")) fun d => M.ret (Hd.val d)))) fun d => M.ret (Hd.val d)) (mRef 1))))
    (M.bind (M.ret (.bl false)) fun d => M.ret (Fl.rt d))
    mNx)
    (M.bind (mAndV (mCall [] (den__law_due_arrow fu n) (mCons (M.bind (mOp oIx (m2 (mRef 0) (M.bind (M.ret (.int 1)) fun d => M.ret (Hd.val d)))) fun d => M.ret (Hd.val d)) (mCons (M.bind (M.bind (mB (mTake (mRef 1))) fun b => M.ret (.bl (!b))) fun d => M.ret (Hd.val d)) mNil))) (mCall [] (den__law_due_arrow fu n) (mCons (M.bind (mOp oIx (m2 (mRef 0) (M.bind (M.ret (.int 2)) fun d => M.ret (Hd.val d)))) fun d => M.ret (Hd.val d)) (mCons (mRef 1) mNil)))) fun d => M.ret (Fl.rt d))))
def den__law_due_arrow (fu : Nat) : Nat → FD
  | 0 => fun _ => .stk
  | n + 1 => runF 2 [] (m__law_due_arrow fu (fun _ _ => den__law_due_arrow fu n) n)
def m__law_spoilt (fu : Nat) : M Fl :=
    (mThen (mAsg (.nm 2) (mShr (mTk oLst (mCons (M.bind (M.ret (.str "")) fun d => M.ret (Hd.val d)) (mCons (M.bind (M.ret (.str "abcdefghi")) fun d => M.ret (Hd.val d)) (mCons (M.bind (M.ret (.str "Ab")) fun d => M.ret (Hd.val d)) (mCons (M.bind (M.ret (.str "a7")) fun d => M.ret (Hd.val d)) (mCons (M.bind (M.ret (.str "a b")) fun d => M.ret (Hd.val d)) (mCons (M.bind (M.ret (.str "b'")) fun d => M.ret (Hd.val d)) (mCons (M.bind (M.ret (.str "x_y")) fun d => M.ret (Hd.val d)) (mCons (M.bind (M.ret (.str "(")) fun d => M.ret (Hd.val d)) (mCons (M.bind (M.ret (.str "zzzzzzzzzzzz")) fun d => M.ret (Hd.val d)) (mCons (M.bind (M.ret (.str "a-")) fun d => M.ret (Hd.val d)) (mCons (M.bind (M.ret (.str "\n")) fun d => M.ret (Hd.val d)) (mCons (M.bind (M.ret (.str "abcdefgH")) fun d => M.ret (Hd.val d)) mNil)))))))))))))))
    (mSetIx 1 (mOp oIx (m2 (mRef 2) (M.bind (mCall [] (den__law_pick fu) (mCons (mRef 0) (mCons (M.bind (M.ret (.int 5)) fun d => M.ret (Hd.val d)) (mCons (M.bind (M.ret (.int 12)) fun d => M.ret (Hd.val d)) mNil)))) fun d => M.ret (Hd.val d)))) (M.bind (mCall [] (den__law_pick fu) (mCons (mRef 0) (mCons (M.bind (M.ret (.int 4)) fun d => M.ret (Hd.val d)) (mCons (M.bind (mOp oLen (m1 (mRef 1))) fun d => M.ret (Hd.val d)) mNil)))) fun d => M.ret (Hd.val d))))
def den__law_spoilt (fu : Nat) : FD := runF 3 [1] (m__law_spoilt fu)
def b__law_bad_0 (fu : Nat) : M Fl :=
    (mIf (mB (mOp oNotIn (m2 (mRef 1) (M.bind (M.ret (.str "abcdefghijklmnopqrstuvwxyz")) fun d => M.ret (Hd.val d)))))
    (M.bind (M.ret (.bl true)) fun d => M.ret (Fl.rt d))
    mNx)
def m__law_bad (fu : Nat) : M Fl :=
    (mThen (mIf (mOr (mB (mOp oLt (m2 (M.bind (mOp oLen (m1 (mRef 0))) fun d => M.ret (Hd.val d)) (M.bind (M.ret (.int 1)) fun d => M.ret (Hd.val d))))) (mB (mOp oGt (m2 (M.bind (mOp oLen (m1 (mRef 0))) fun d => M.ret (Hd.val d)) (M.bind (M.ret (.int 8)) fun d => M.ret (Hd.val d))))))
    (M.bind (M.ret (.bl true)) fun d => M.ret (Fl.rt d))
    mNx)
    (mThen (mFor (.nm 1) (mItems (mRef 0))
    (b__law_bad_0 fu))
    (M.bind (M.ret (.bl false)) fun d => M.ret (Fl.rt d))))
def den__law_bad (fu : Nat) : FD := runF 2 [] (m__law_bad fu)
def b__law_fault_0 (fu : Nat) : M Fl :=
    (mIf (mTru (M.bind (mCall [] (den__law_bad fu) (mCons (mRef 2) mNil)) fun d => M.ret (Hd.val d)))
    (M.bind (mTk oTup (mCons (M.bind (M.ret (.str "name")) fun d => M.ret (Hd.val d)) (mCons (mRef 2) mNil))) fun d => M.ret (Fl.rt d))
    mNx)
def m__law_fault (fu : Nat) : M Fl :=
    (mThen (mAsg (.nm 1) (mShr (mCall [] (den__law_letters fu 60) (mCons (mRef 0) mNil))))
    (mThen (mIf (mB (mOp oGt (m2 (M.bind (mOp oLen (m1 (mRef 1))) fun d => M.ret (Hd.val d)) (M.bind (M.ret (.int 40)) fun d => M.ret (Hd.val d)))))
    (M.bind (mTk oTup (mCons (M.bind (M.ret (.str "large")) fun d => M.ret (Hd.val d)) (mCons (M.bind (M.ret (.int 40)) fun d => M.ret (Hd.val d)) mNil))) fun d => M.ret (Fl.rt d))
    mNx)
    (mThen (mFor (.tp [(.nm 2), (.nm 3)]) (mItems (mRef 1))
    (b__law_fault_0 fu))
    (M.bind (M.ret .non) fun d => M.ret (Fl.rt d)))))
def den__law_fault (fu : Nat) : FD := runF 4 [] (m__law_fault fu)
def m__law_made (fu : Nat) : M Fl :=
    (mTry cts_ComesapartError 3
    (mThen (mIf (mB (mOp oEq (m2 (mRef 2) (M.bind (M.ret (.int 0)) fun d => M.ret (Hd.val d)))))
    (M.bind (mOp (oFld flds_shape "shape") (m1 (M.bind (mMake "Kind" (den_Kinddd_initdd fu) (mCons (mRef 0) mNil)) fun d => M.ret (Hd.val d)))) fun d => M.ret (Fl.rt d))
    mNx)
    (mThen (mIf (mB (mOp oEq (m2 (mRef 2) (M.bind (M.ret (.int 1)) fun d => M.ret (Hd.val d)))))
    (M.bind (mOp (oFld flds_shape "shape") (m1 (M.bind (mCall [] (gAll "Kind" (den_Kinddd_anddd fu)) (m2 (M.bind (mMake "Kind" (den_Kinddd_initdd fu) (mCons (mRef 0) mNil)) fun d => M.ret (Hd.val d)) (M.bind (mMake "Kind" (den_Kinddd_initdd fu) (mCons (mRef 1) mNil)) fun d => M.ret (Hd.val d)))) fun d => M.ret (Hd.val d)))) fun d => M.ret (Fl.rt d))
    mNx)
    (mThen (mIf (mB (mOp oEq (m2 (mRef 2) (M.bind (M.ret (.int 2)) fun d => M.ret (Hd.val d)))))
    (M.bind (mOp (oFld flds_shape "shape") (m1 (M.bind (mCall [] (gAll "Kind" (den_Kinddd_ordd fu)) (m2 (M.bind (mMake "Kind" (den_Kinddd_initdd fu) (mCons (mRef 0) mNil)) fun d => M.ret (Hd.val d)) (M.bind (mMake "Kind" (den_Kinddd_initdd fu) (mCons (mRef 1) mNil)) fun d => M.ret (Hd.val d)))) fun d => M.ret (Hd.val d)))) fun d => M.ret (Fl.rt d))
    mNx)
    (mThen (mIf (mB (mOp oEq (m2 (mRef 2) (M.bind (M.ret (.int 3)) fun d => M.ret (Hd.val d)))))
    (M.bind (mOp (oFld flds_shape "shape") (m1 (M.bind (mCall [] (gAll "Kind" (den_Kinddd_rshiftdd fu)) (m2 (M.bind (mMake "Kind" (den_Kinddd_initdd fu) (mCons (mRef 0) mNil)) fun d => M.ret (Hd.val d)) (M.bind (mMake "Kind" (den_Kinddd_initdd fu) (mCons (mRef 1) mNil)) fun d => M.ret (Hd.val d)))) fun d => M.ret (Hd.val d)))) fun d => M.ret (Fl.rt d))
    mNx)
    (M.bind (mOp (oFld flds_shape "shape") (m1 (M.bind (mCall [] (fun ds => (den_Kind_letter fu) (.cls "Kind" :: ds)) (mCons (mRef 0) mNil)) fun d => M.ret (Hd.val d)))) fun d => M.ret (Fl.rt d))))))
    (mThen (mAsg (.nm 4) (mTk oLst mNil))
    (mThen (mIf (mTru (M.bind (mIsE 3 ises_TooLarge) fun d => M.ret (Hd.val d)))
    (M.bind (mLm 4 lAppend (mCons (M.bind (mTk oTup (mCons (M.bind (M.ret (.str "large")) fun d => M.ret (Hd.val d)) (mCons (M.bind (mExF 3 "limit" exs_limit) fun d => M.ret (Hd.val d)) mNil))) fun d => M.ret (Hd.val d)) mNil)) fun _ => mNx)
    mNx)
    (mThen (mIf (mTru (M.bind (mIsE 3 ises_BadName) fun d => M.ret (Hd.val d)))
    (M.bind (mLm 4 lAppend (mCons (M.bind (mTk oTup (mCons (M.bind (M.ret (.str "name")) fun d => M.ret (Hd.val d)) (mCons (M.bind (mExF 3 "name" exs_name) fun d => M.ret (Hd.val d)) mNil))) fun d => M.ret (Hd.val d)) mNil)) fun _ => mNx)
    mNx)
    (mThen (mIf (mOr (mB (mOp oNe (m2 (M.bind (mOp oLen (m1 (mRef 4))) fun d => M.ret (Hd.val d)) (M.bind (M.ret (.int 1)) fun d => M.ret (Hd.val d))))) (M.bind (mTru (M.bind (mIsE 3 ises_ValueError) fun d => M.ret (Hd.val d))) fun b => M.ret (!b)))
    (M.bind (mTk oTup (mCons (M.bind (M.ret (.str "other")) fun d => M.ret (Hd.val d)) mNil)) fun d => M.ret (Fl.rt d))
    mNx)
    (M.bind (mOp oIx (m2 (mRef 4) (M.bind (M.ret (.int 0)) fun d => M.ret (Hd.val d)))) fun d => M.ret (Fl.rt d)))))))
def den__law_made (fu : Nat) : FD := runF 5 [] (m__law_made fu)
def m__law_due (fu : Nat) : M Fl :=
    (mThen (mAsg (.nm 3) (mShare 0))
    (mThen (mIf (mB (mOp oEq (m2 (mRef 2) (M.bind (M.ret (.int 1)) fun d => M.ret (Hd.val d)))))
    (mAsg (.nm 3) (mShr (mTk oTup (mCons (M.bind (M.ret (.str "both")) fun d => M.ret (Hd.val d)) (mCons (mRef 0) (mCons (mRef 1) mNil))))))
    mNx)
    (mThen (mIf (mB (mOp oEq (m2 (mRef 2) (M.bind (M.ret (.int 2)) fun d => M.ret (Hd.val d)))))
    (mAsg (.nm 3) (mShr (mTk oTup (mCons (M.bind (M.ret (.str "together")) fun d => M.ret (Hd.val d)) (mCons (mRef 0) (mCons (mRef 1) mNil))))))
    mNx)
    (mThen (mIf (mB (mOp oEq (m2 (mRef 2) (M.bind (M.ret (.int 3)) fun d => M.ret (Hd.val d)))))
    (mAsg (.nm 3) (mShr (mTk oTup (mCons (M.bind (M.ret (.str "together")) fun d => M.ret (Hd.val d)) (mCons (M.bind (mCall [] (den__law_opposite fu 60) (mCons (mRef 0) mNil)) fun d => M.ret (Hd.val d)) (mCons (mRef 1) mNil))))))
    mNx)
    (mThen (mIf (mB (mOp oGt (m2 (M.bind (mOp oLen (m1 (M.bind (mCall [] (den__law_letters fu 60) (mCons (mRef 3) mNil)) fun d => M.ret (Hd.val d)))) fun d => M.ret (Hd.val d)) (M.bind (M.ret (.int 40)) fun d => M.ret (Hd.val d)))))
    (M.bind (mTk oTup (mCons (M.bind (M.ret (.str "large")) fun d => M.ret (Hd.val d)) (mCons (M.bind (M.ret (.int 40)) fun d => M.ret (Hd.val d)) mNil))) fun d => M.ret (Fl.rt d))
    mNx)
    (M.bind (mMove 3) fun d => M.ret (Fl.rt d)))))))
def den__law_due (fu : Nat) : FD := runF 4 [] (m__law_due fu)
def b__law_fields_0 (fu : Nat) : M Fl :=
    (mIf (mOr (M.bind (mTru (M.bind (mOp (oIsi isis_tuple) (m1 (mRef 2))) fun d => M.ret (Hd.val d))) fun b => M.ret (!b)) (M.bind (mTru (M.bind (mOp (oIsi isis_bool) (m1 (M.bind (mOp oIx (m2 (mRef 2) (M.bind (M.ret (.int 1)) fun d => M.ret (Hd.val d)))) fun d => M.ret (Hd.val d)))) fun d => M.ret (Hd.val d))) fun b => M.ret (!b)))
    (M.bind (M.ret (.bl false)) fun d => M.ret (Fl.rt d))
    mNx)
def m__law_fields (fu : Nat) : M Fl :=
    (mThen (mIf (mOr (M.bind (mTru (M.bind (mOp (oIsi isis_tuple) (m1 (M.bind (mOp (oFld flds_shape "shape") (m1 (mRef 0))) fun d => M.ret (Hd.val d)))) fun d => M.ret (Hd.val d))) fun b => M.ret (!b)) (mB (mOp oNe (m2 (M.bind (mOp (oFld flds_shape "shape") (m1 (mRef 0))) fun d => M.ret (Hd.val d)) (mRef 1)))))
    (M.bind (M.ret (.bl false)) fun d => M.ret (Fl.rt d))
    mNx)
    (mThen (mIf (mOr (M.bind (mTru (M.bind (mOp (oIsi isis_tuple) (m1 (M.bind (mCall [] (noR (gAll "Kind" (den_Kind_letters fu))) (m1 (mRef 0))) fun d => M.ret (Hd.val d)))) fun d => M.ret (Hd.val d))) fun b => M.ret (!b)) (mB (mOp oNe (m2 (M.bind (mOp oList (m1 (M.bind (mCall [] (noR (gAll "Kind" (den_Kind_letters fu))) (m1 (mRef 0))) fun d => M.ret (Hd.val d)))) fun d => M.ret (Hd.val d)) (M.bind (mCall [] (den__law_letters fu 60) (mCons (mRef 1) mNil)) fun d => M.ret (Hd.val d))))))
    (M.bind (M.ret (.bl false)) fun d => M.ret (Fl.rt d))
    mNx)
    (mThen (mFor (.nm 2) (mItems (M.bind (mCall [] (noR (gAll "Kind" (den_Kind_letters fu))) (m1 (mRef 0))) fun d => M.ret (Hd.val d)))
    (b__law_fields_0 fu))
    (mThen (mAsg (.nm 3) (mShr (mCall [] (den_is_arrow fu) (mCons (mRef 0) mNil))))
    (M.bind (mAndV (mOp (oIsi isis_bool) (m1 (mRef 3))) (mOp oEq (m2 (mRef 3) (M.bind (mCall [] (den__law_due_arrow fu 60) (mCons (mRef 1) (mCons (M.bind (M.ret (.bl true)) fun d => M.ret (Hd.val d)) mNil))) fun d => M.ret (Hd.val d))))) fun d => M.ret (Fl.rt d))))))
def den__law_fields (fu : Nat) : FD := runF 4 [] (m__law_fields fu)
def b__law_names_made_0 (fu : Nat) : M Fl :=
    (mThen (mAsg (.nm 2) (mShr (mTk oTup (mCons (M.bind (M.ret (.str "letter")) fun d => M.ret (Hd.val d)) (mCons (mRef 1) (mCons (M.bind (M.ret (.bl true)) fun d => M.ret (Hd.val d)) mNil))))))
    (mThen (mIf (mTru (M.bind (mCall [] (den__law_bad fu) (mCons (mRef 1) mNil)) fun d => M.ret (Hd.val d)))
    (mAsg (.nm 2) (mShr (mTk oTup (mCons (M.bind (M.ret (.str "name")) fun d => M.ret (Hd.val d)) (mCons (mRef 1) mNil)))))
    mNx)
    (mIf (mB (mOp oNe (m2 (M.bind (mCall [] (den__law_made fu) (mCons (mRef 1) (mCons (mRef 1) (mCons (M.bind (M.ret (.int 4)) fun d => M.ret (Hd.val d)) mNil)))) fun d => M.ret (Hd.val d)) (mRef 2))))
    (M.bind (M.ret (.bl false)) fun d => M.ret (Fl.rt d))
    mNx)))
def m__law_names_made (fu : Nat) : M Fl :=
    (mThen (mFor (.nm 1) (mItems (mRef 0))
    (b__law_names_made_0 fu))
    (M.bind (M.ret (.bl true)) fun d => M.ret (Fl.rt d)))
def den__law_names_made (fu : Nat) : FD := runF 3 [] (m__law_names_made fu)
def e_law_0 (fu : Nat) : M D :=
    (mTk oTup (mCons (M.bind (M.ret (.str "letter")) fun d => M.ret (Hd.val d)) (mCons (M.bind (mOp oIx (m2 (mRef 4) (mRef 12))) fun d => M.ret (Hd.val d)) (mCons (M.bind (mOp oEq (m2 (M.bind (mCall [] (den__law_pick fu) (mCons (mRef 1) (mCons (M.bind (mOp oAdd (m2 (M.bind (M.ret (.int 5)) fun d => M.ret (Hd.val d)) (mRef 12))) fun d => M.ret (Hd.val d)) (mCons (M.bind (M.ret (.int 2)) fun d => M.ret (Hd.val d)) mNil)))) fun d => M.ret (Hd.val d)) (M.bind (M.ret (.int 1)) fun d => M.ret (Hd.val d)))) fun d => M.ret (Hd.val d)) mNil))))
def e_law_1 (fu : Nat) : M D :=
    (mTk oTup (mCons (M.bind (M.ret (.str "letter")) fun d => M.ret (Hd.val d)) (mCons (M.bind (mOp oIx (m2 (M.bind (M.ret (.str "ab")) fun d => M.ret (Hd.val d)) (M.bind (mOp oMod (m2 (mRef 12) (M.bind (M.ret (.int 2)) fun d => M.ret (Hd.val d)))) fun d => M.ret (Hd.val d)))) fun d => M.ret (Hd.val d)) (mCons (M.bind (mOp oGt (m2 (mRef 12) (M.bind (M.ret (.int 0)) fun d => M.ret (Hd.val d)))) fun d => M.ret (Hd.val d)) mNil))))
def b_law_2 (fu : Nat) : M Fl :=
    (mThen (mIf (mB (mOp oNe (m2 (M.bind (mCall [] (den__law_made fu) (mCons (mRef 5) (mCons (mRef 7) (mCons (mRef 10) mNil)))) fun d => M.ret (Hd.val d)) (M.bind (mCall [] (den__law_due fu) (mCons (mRef 5) (mCons (mRef 7) (mCons (mRef 10) mNil)))) fun d => M.ret (Hd.val d)))))
    (M.bind (M.ret (.bl false)) fun d => M.ret (Fl.rt d))
    mNx)
    (mIf (mB (mOp oNe (m2 (M.bind (mCall [] (den__law_made fu) (mCons (mRef 7) (mCons (mRef 5) (mCons (mRef 10) mNil)))) fun d => M.ret (Hd.val d)) (M.bind (mCall [] (den__law_due fu) (mCons (mRef 7) (mCons (mRef 5) (mCons (mRef 10) mNil)))) fun d => M.ret (Hd.val d)))))
    (M.bind (M.ret (.bl false)) fun d => M.ret (Fl.rt d))
    mNx))
def b_law_3 (fu : Nat) : M Fl :=
    (mIf (mOr (mB (mCall [] (gFst "Kind" etab (den_Kinddd_eqdd fu)) (m2 (mRef 8) (mRef 11)))) (mB (mCall [] (fSwp (gFst "Kind" dTags (den_Kinddd_eqdd fu))) (m2 (mRef 11) (mRef 8)))))
    (M.bind (M.ret (.bl false)) fun d => M.ret (Fl.rt d))
    mNx)
def m_law (fu : Nat) : M Fl :=
    (mThen (mAsg (.nm 1) (mShr (mCall [] (den__law_draws fu) (mCons (M.bind (mCall [] (den__law_cell fu) (mCons (mRef 0) (mCons (M.bind (M.ret (.int 0)) fun d => M.ret (Hd.val d)) mNil))) fun d => M.ret (Hd.val d)) (mCons (M.bind (M.ret (.int 100)) fun d => M.ret (Hd.val d)) mNil)))))
    (mThen (mAsg (.nm 2) (mShr (mCall [] (den__law_draws fu) (mCons (M.bind (mCall [] (den__law_cell fu) (mCons (mRef 0) (mCons (M.bind (M.ret (.int 1)) fun d => M.ret (Hd.val d)) mNil))) fun d => M.ret (Hd.val d)) (mCons (M.bind (M.ret (.int 30)) fun d => M.ret (Hd.val d)) mNil)))))
    (mThen (mAsg (.nm 3) (mShr (mOp oAdd (m2 (M.bind (M.ret (.int 1)) fun d => M.ret (Hd.val d)) (M.bind (mCall [] (den__law_pick fu) (mCons (mRef 2) (mCons (M.bind (M.ret (.int 2)) fun d => M.ret (Hd.val d)) (mCons (M.bind (M.ret (.int 9)) fun d => M.ret (Hd.val d)) mNil)))) fun d => M.ret (Hd.val d))))))
    (mThen (mIf (mB (mOp oEq (m2 (M.bind (mCall [] (den__law_pick fu) (mCons (mRef 2) (mCons (M.bind (M.ret (.int 3)) fun d => M.ret (Hd.val d)) (mCons (M.bind (M.ret (.int 10)) fun d => M.ret (Hd.val d)) mNil)))) fun d => M.ret (Hd.val d)) (M.bind (M.ret (.int 7)) fun d => M.ret (Hd.val d)))))
    (mAsg (.nm 3) (mShr (mOp oAdd (m2 (M.bind (M.ret (.int 39)) fun d => M.ret (Hd.val d)) (M.bind (mCall [] (den__law_pick fu) (mCons (mRef 2) (mCons (M.bind (M.ret (.int 2)) fun d => M.ret (Hd.val d)) (mCons (M.bind (M.ret (.int 4)) fun d => M.ret (Hd.val d)) mNil)))) fun d => M.ret (Hd.val d))))))
    mNx)
    (mThen (mAsg (.nm 4) (mCall [] (den__law_names fu) (mCons (mRef 1) (mCons (mRef 2) (mCons (mRef 3) mNil)))))
    (mThen (mIf (mB (mOp oEq (m2 (M.bind (mCall [] (den__law_pick fu) (mCons (mRef 2) (mCons (M.bind (M.ret (.int 6)) fun d => M.ret (Hd.val d)) (mCons (M.bind (M.ret (.int 3)) fun d => M.ret (Hd.val d)) mNil)))) fun d => M.ret (Hd.val d)) (M.bind (M.ret (.int 1)) fun d => M.ret (Hd.val d)))))
    (M.bind (mCall [1] (den__law_spoilt fu) (mCons (mRef 2) (mCons (mRef 4) mNil))) fun _ => mNx)
    mNx)
    (mThen (mIf (mB (mOp oEq (m2 (M.bind (mCall [] (den__law_pick fu) (mCons (mRef 2) (mCons (M.bind (M.ret (.int 7)) fun d => M.ret (Hd.val d)) (mCons (M.bind (M.ret (.int 2)) fun d => M.ret (Hd.val d)) mNil)))) fun d => M.ret (Hd.val d)) (M.bind (M.ret (.int 1)) fun d => M.ret (Hd.val d)))))
    (mThen (mAsg (.nm 5) (mShr (mCall [] (den__law_arrow fu) (mCons (mRef 1) (mCons (M.bind (M.ret (.int 12)) fun d => M.ret (Hd.val d)) (mCons (M.bind (mShare 4) fun d => M.ret (Hd.val d)) mNil))))))
    (mIf (mB (mOp oEq (m2 (M.bind (mCall [] (den__law_pick fu) (mCons (mRef 2) (mCons (M.bind (M.ret (.int 8)) fun d => M.ret (Hd.val d)) (mCons (M.bind (M.ret (.int 3)) fun d => M.ret (Hd.val d)) mNil)))) fun d => M.ret (Hd.val d)) (M.bind (M.ret (.int 1)) fun d => M.ret (Hd.val d)))))
    (mAsg (.nm 5) (mShr (mCall [] (den__law_changed fu 60) (mCons (mRef 5) (mCons (M.bind (mCall [] (den__law_cell fu) (mCons (mRef 0) (mCons (M.bind (M.ret (.int 2)) fun d => M.ret (Hd.val d)) mNil))) fun d => M.ret (Hd.val d)) mNil)))))
    mNx))
    (mAsg (.nm 5) (mShr (mCall [] (den__law_shape fu) (mCons (mRef 1) (mCons (M.bind (M.ret (.int 20)) fun d => M.ret (Hd.val d)) (mCons (M.bind (mShr (mLc [12] (.nm 12) (mRng1 (m1 (mRef 3))) (M.ret true) (e_law_0 fu))) fun d => M.ret (Hd.val d)) mNil)))))))
    (mThen (mIf (M.bind (mTru (M.bind (mCall [] (den__law_names_made fu) (mCons (M.bind (mShr (mSl (mRef 4) (M.ret none) (mPart (M.bind (M.ret (.int 9)) fun d => M.ret (Hd.val d))))) fun d => M.ret (Hd.val d)) mNil)) fun d => M.ret (Hd.val d))) fun b => M.ret (!b))
    (M.bind (M.ret (.bl false)) fun d => M.ret (Fl.rt d))
    mNx)
    (mThen (mAsg (.nm 6) (mShr (mCall [] (den__law_fault fu) (mCons (mRef 5) mNil))))
    (mThen (mIf (mB (mOp oIsNot (m2 (mRef 6) (M.bind (M.ret .non) fun d => M.ret (Hd.val d)))))
    (M.bind (mOp oEq (m2 (M.bind (mCall [] (den__law_made fu) (mCons (mRef 5) (mCons (mRef 5) (mCons (M.bind (M.ret (.int 0)) fun d => M.ret (Hd.val d)) mNil)))) fun d => M.ret (Hd.val d)) (mRef 6))) fun d => M.ret (Fl.rt d))
    mNx)
    (mThen (mAsg (.nm 7) (mShr (mCall [] (den__law_shape fu) (mCons (mRef 2) (mCons (M.bind (M.ret (.int 9)) fun d => M.ret (Hd.val d)) (mCons (M.bind (mShr (mLc [12] (.nm 12) (mRng1 (m1 (M.bind (mOp oAdd (m2 (M.bind (M.ret (.int 1)) fun d => M.ret (Hd.val d)) (M.bind (mCall [] (den__law_pick fu) (mCons (mRef 2) (mCons (M.bind (M.ret (.int 9)) fun d => M.ret (Hd.val d)) (mCons (M.bind (M.ret (.int 4)) fun d => M.ret (Hd.val d)) mNil)))) fun d => M.ret (Hd.val d)))) fun d => M.ret (Hd.val d)))) (M.ret true) (e_law_1 fu))) fun d => M.ret (Hd.val d)) mNil))))))
    (mThen (mAsg (.nm 8) (mShr (mMake "Kind" (den_Kinddd_initdd fu) (mCons (mRef 5) mNil))))
    (mThen (mAsg (.nm 9) (mShr (mMake "Kind" (den_Kinddd_initdd fu) (mCons (mRef 7) mNil))))
    (mThen (mIf (mOr (M.bind (mTru (M.bind (mCall [] (den__law_fields fu) (mCons (mRef 8) (mCons (mRef 5) mNil))) fun d => M.ret (Hd.val d))) fun b => M.ret (!b)) (mOr (M.bind (mTru (M.bind (mCall [] (den__law_fields fu) (mCons (M.bind (mShr (mCall [] (gAll "Kind" (den_Kinddd_invertdd fu)) (m1 (mRef 8)))) fun d => M.ret (Hd.val d)) (mCons (M.bind (mCall [] (den__law_opposite fu 60) (mCons (mRef 5) mNil)) fun d => M.ret (Hd.val d)) mNil))) fun d => M.ret (Hd.val d))) fun b => M.ret (!b)) (M.bind (mTru (M.bind (mCall [] (den__law_fields fu) (mCons (mRef 9) (mCons (mRef 7) mNil))) fun d => M.ret (Hd.val d))) fun b => M.ret (!b))))
    (M.bind (M.ret (.bl false)) fun d => M.ret (Fl.rt d))
    mNx)
    (mThen (mFor (.nm 10) (mRng1 (m1 (M.bind (M.ret (.int 4)) fun d => M.ret (Hd.val d))))
    (b_law_2 fu))
    (mThen (mIf (mOr (M.bind (mB (mCall [] (gFst "Kind" etab (den_Kinddd_eqdd fu)) (m2 (M.bind (mCall [] (gAll "Kind" (den_Kinddd_invertdd fu)) (m1 (M.bind (mCall [] (gAll "Kind" (den_Kinddd_invertdd fu)) (m1 (mRef 8))) fun d => M.ret (Hd.val d)))) fun d => M.ret (Hd.val d)) (mRef 8)))) fun b => M.ret (!b)) (mOr (mB (mCall [] (gFst "Kind" etab (den_Kinddd_eqdd fu)) (m2 (mRef 8) (M.bind (mCall [] (gAll "Kind" (den_Kinddd_invertdd fu)) (m1 (mRef 8))) fun d => M.ret (Hd.val d))))) (M.bind (mB (mCall [] (gFst "Kind" etab (den_Kinddd_eqdd fu)) (m2 (mRef 8) (M.bind (mMake "Kind" (den_Kinddd_initdd fu) (mCons (mRef 5) mNil)) fun d => M.ret (Hd.val d))))) fun b => M.ret (!b))))
    (M.bind (M.ret (.bl false)) fun d => M.ret (Fl.rt d))
    mNx)
    (mThen (mIf (mOr (mB (mOp oNe (m2 (M.bind (mCall [] (gFst "Kind" etab (den_Kinddd_eqdd fu)) (m2 (mRef 8) (mRef 9))) fun d => M.ret (Hd.val d)) (M.bind (mOp oEq (m2 (mRef 5) (mRef 7))) fun d => M.ret (Hd.val d))))) (mB (mCall [] (gFst "Kind" etab (den_Kinddd_eqdd fu)) (m2 (mRef 8) (M.bind (mMake "Kind" (den_Kinddd_initdd fu) (mCons (M.bind (mCall [] (den__law_changed fu 60) (mCons (mRef 5) (mCons (M.bind (mCall [] (den__law_cell fu) (mCons (mRef 0) (mCons (M.bind (M.ret (.int 3)) fun d => M.ret (Hd.val d)) mNil))) fun d => M.ret (Hd.val d)) mNil))) fun d => M.ret (Hd.val d)) mNil)) fun d => M.ret (Hd.val d))))))
    (M.bind (M.ret (.bl false)) fun d => M.ret (Fl.rt d))
    mNx)
    (mThen (mIf (mAnd (mB (mOp oLt (m2 (mRef 3) (M.bind (M.ret (.int 30)) fun d => M.ret (Hd.val d))))) (mOr (M.bind (mB (mCall [] (gFst "Kind" etab (den_Kinddd_eqdd fu)) (m2 (M.bind (mCall [] (gAll "Kind" (den_Kinddd_invertdd fu)) (m1 (M.bind (mCall [] (gAll "Kind" (den_Kinddd_anddd fu)) (m2 (mRef 8) (mRef 9))) fun d => M.ret (Hd.val d)))) fun d => M.ret (Hd.val d)) (M.bind (mCall [] (gAll "Kind" (den_Kinddd_ordd fu)) (m2 (M.bind (mCall [] (gAll "Kind" (den_Kinddd_invertdd fu)) (m1 (mRef 8))) fun d => M.ret (Hd.val d)) (M.bind (mCall [] (gAll "Kind" (den_Kinddd_invertdd fu)) (m1 (mRef 9))) fun d => M.ret (Hd.val d)))) fun d => M.ret (Hd.val d))))) fun b => M.ret (!b)) (M.bind (mB (mCall [] (gFst "Kind" etab (den_Kinddd_eqdd fu)) (m2 (M.bind (mCall [] (gAll "Kind" (den_Kinddd_invertdd fu)) (m1 (M.bind (mCall [] (gAll "Kind" (den_Kinddd_ordd fu)) (m2 (mRef 8) (mRef 9))) fun d => M.ret (Hd.val d)))) fun d => M.ret (Hd.val d)) (M.bind (mCall [] (gAll "Kind" (den_Kinddd_anddd fu)) (m2 (M.bind (mCall [] (gAll "Kind" (den_Kinddd_invertdd fu)) (m1 (mRef 8))) fun d => M.ret (Hd.val d)) (M.bind (mCall [] (gAll "Kind" (den_Kinddd_invertdd fu)) (m1 (mRef 9))) fun d => M.ret (Hd.val d)))) fun d => M.ret (Hd.val d))))) fun b => M.ret (!b))))
    (M.bind (M.ret (.bl false)) fun d => M.ret (Fl.rt d))
    mNx)
    (mThen (mFor (.nm 11) (mItems (M.bind (mTk oLst (mCons (mRef 5) (mCons (M.bind (mCall [] (noR (gAll "Kind" (den_Kind_letters fu))) (m1 (mRef 8))) fun d => M.ret (Hd.val d)) (mCons (M.bind (mOp oIx (m2 (mRef 4) (M.bind (M.ret (.int 0)) fun d => M.ret (Hd.val d)))) fun d => M.ret (Hd.val d)) (mCons (M.bind (M.ret (.int 40)) fun d => M.ret (Hd.val d)) (mCons (M.bind (M.ret .non) fun d => M.ret (Hd.val d)) mNil)))))) fun d => M.ret (Hd.val d)))
    (b_law_3 fu))
    (M.bind (mAndV (mCall [] (den__law_fields fu) (mCons (mRef 8) (mCons (mRef 5) mNil))) (mOp oEq (m2 (M.bind (M.ret (.int 40)) fun d => M.ret (Hd.val d)) (M.bind (M.ret (.int 40)) fun d => M.ret (Hd.val d))))) fun d => M.ret (Fl.rt d)))))))))))))))))))))
def den_law (fu : Nat) : FD := runF 13 [] (m_law fu)
/-! ### what the top has written -/
structure Ad where
  a_is_name : Addr
  f_is_name : FuncData
  a_letters_in : Addr
  f_letters_in : FuncData
  a_opposite_shape : Addr
  f_opposite_shape : FuncData
  a_Kinddd_initdd : Addr
  f_Kinddd_initdd : FuncData
  a_Kind_letter : Addr
  f_Kind_letter : FuncData
  a_Kind_letters : Addr
  f_Kind_letters : FuncData
  a_Kinddd_invertdd : Addr
  f_Kinddd_invertdd : FuncData
  a_Kinddd_anddd : Addr
  f_Kinddd_anddd : FuncData
  a_Kinddd_ordd : Addr
  f_Kinddd_ordd : FuncData
  a_Kinddd_rshiftdd : Addr
  f_Kinddd_rshiftdd : FuncData
  a_Kinddd_eqdd : Addr
  f_Kinddd_eqdd : FuncData
  a_is_arrow_shape : Addr
  f_is_arrow_shape : FuncData
  a_is_arrow : Addr
  f_is_arrow : FuncData
  a__law_cell : Addr
  f__law_cell : FuncData
  a__law_draws : Addr
  f__law_draws : FuncData
  a__law_pick : Addr
  f__law_pick : FuncData
  a__law_letters : Addr
  f__law_letters : FuncData
  a__law_name : Addr
  f__law_name : FuncData
  a__law_names : Addr
  f__law_names : FuncData
  a__law_shape : Addr
  f__law_shape : FuncData
  a__law_opposite : Addr
  f__law_opposite : FuncData
  a__law_arrow : Addr
  f__law_arrow : FuncData
  a__law_changed : Addr
  f__law_changed : FuncData
  a__law_due_arrow : Addr
  f__law_due_arrow : FuncData
  a__law_spoilt : Addr
  f__law_spoilt : FuncData
  a__law_bad : Addr
  f__law_bad : FuncData
  a__law_fault : Addr
  f__law_fault : FuncData
  a__law_made : Addr
  f__law_made : FuncData
  a__law_due : Addr
  f__law_due : FuncData
  a__law_fields : Addr
  f__law_fields : FuncData
  a__law_names_made : Addr
  f__law_names_made : FuncData
  a_law : Addr
  f_law : FuncData
  c_Kind : Addr
  c_BadName : Addr
  c_ComesapartError : Addr
  c_TooLarge : Addr
  i_BadName : Addr
  fi_BadName : FuncData
  cd_BadName : Addr
  cc_BadName : Addr
  sp_BadName : SupP
  i_TooLarge : Addr
  fi_TooLarge : FuncData
  cd_TooLarge : Addr
  cc_TooLarge : Addr
  sp_TooLarge : SupP
  p_Kind_letter : Addr
  p_Kind_letters : Addr
  u_Kind_MOST_LETTERS : Value
def Ad.ca (A : Ad) (s : String) : Addr := (([("Kind", A.c_Kind), ("BadName", A.c_BadName), ("ComesapartError", A.c_ComesapartError), ("TooLarge", A.c_TooLarge)] : List (String × Addr)).lookup s).getD 0
/-- an exception class that is raised -/
structure XC (P : Program) (K : PySem.W.Frag) (C fI : Addr) (sp : SupP) (fd : FuncData) (cd cc : Addr) : Prop where
  s : SupK P K C fI sp fd cd cc
  o : OexC K C
  i : PySem.W.findIn K (.ref C) "__init__" = some (some (.ref fI))
  t : PySem.W.typeIn K (.ref fI) = some (.type "function")
structure Txt (P : Program) (w : World) (K : PySem.W.Frag) (mg : Str → Option Value) (A : Ad) : Prop where
  F_is_name : Fun K "is_name" "is_name" s_is_name A.a_is_name A.f_is_name
  b_is_name : Binds K A.f_is_name ["name"] []
  m_is_name : mg "is_name" = some (.ref A.a_is_name)
  F_letters_in : Fun K "letters_in" "letters_in" s_letters_in A.a_letters_in A.f_letters_in
  b_letters_in : Binds K A.f_letters_in ["shape"] []
  m_letters_in : mg "letters_in" = some (.ref A.a_letters_in)
  F_opposite_shape : Fun K "opposite_shape" "opposite_shape" s_opposite_shape A.a_opposite_shape A.f_opposite_shape
  b_opposite_shape : Binds K A.f_opposite_shape ["shape"] []
  m_opposite_shape : mg "opposite_shape" = some (.ref A.a_opposite_shape)
  F_Kinddd_initdd : Fun K "__init__" "Kind.__init__" s_Kinddd_initdd A.a_Kinddd_initdd A.f_Kinddd_initdd
  b_Kinddd_initdd : Binds K A.f_Kinddd_initdd ["self", "shape"] []
  F_Kind_letter : Fun K "letter" "Kind.letter" s_Kind_letter A.a_Kind_letter A.f_Kind_letter
  b_Kind_letter : Binds K A.f_Kind_letter ["cls", "name"] []
  F_Kind_letters : Fun K "letters" "Kind.letters" s_Kind_letters A.a_Kind_letters A.f_Kind_letters
  b_Kind_letters : Binds K A.f_Kind_letters ["self"] []
  F_Kinddd_invertdd : Fun K "__invert__" "Kind.__invert__" s_Kinddd_invertdd A.a_Kinddd_invertdd A.f_Kinddd_invertdd
  b_Kinddd_invertdd : Binds K A.f_Kinddd_invertdd ["self"] []
  F_Kinddd_anddd : Fun K "__and__" "Kind.__and__" s_Kinddd_anddd A.a_Kinddd_anddd A.f_Kinddd_anddd
  b_Kinddd_anddd : Binds K A.f_Kinddd_anddd ["self", "other"] []
  F_Kinddd_ordd : Fun K "__or__" "Kind.__or__" s_Kinddd_ordd A.a_Kinddd_ordd A.f_Kinddd_ordd
  b_Kinddd_ordd : Binds K A.f_Kinddd_ordd ["self", "other"] []
  F_Kinddd_rshiftdd : Fun K "__rshift__" "Kind.__rshift__" s_Kinddd_rshiftdd A.a_Kinddd_rshiftdd A.f_Kinddd_rshiftdd
  b_Kinddd_rshiftdd : Binds K A.f_Kinddd_rshiftdd ["self", "other"] []
  F_Kinddd_eqdd : Fun K "__eq__" "Kind.__eq__" s_Kinddd_eqdd A.a_Kinddd_eqdd A.f_Kinddd_eqdd
  b_Kinddd_eqdd : Binds K A.f_Kinddd_eqdd ["self", "other"] []
  F_is_arrow_shape : Fun K "is_arrow_shape" "is_arrow_shape" s_is_arrow_shape A.a_is_arrow_shape A.f_is_arrow_shape
  b_is_arrow_shape : Binds K A.f_is_arrow_shape ["shape", "positive"] []
  m_is_arrow_shape : mg "is_arrow_shape" = some (.ref A.a_is_arrow_shape)
  F_is_arrow : Fun K "is_arrow" "is_arrow" s_is_arrow A.a_is_arrow A.f_is_arrow
  b_is_arrow : Binds K A.f_is_arrow ["kind"] []
  m_is_arrow : mg "is_arrow" = some (.ref A.a_is_arrow)
  F__law_cell : Fun K "_law_cell" "_law_cell" s__law_cell A.a__law_cell A.f__law_cell
  b__law_cell : Binds K A.f__law_cell ["script", "k"] []
  m__law_cell : mg "_law_cell" = some (.ref A.a__law_cell)
  F__law_draws : Fun K "_law_draws" "_law_draws" s__law_draws A.a__law_draws A.f__law_draws
  b__law_draws : Binds K A.f__law_draws ["cell", "many"] []
  m__law_draws : mg "_law_draws" = some (.ref A.a__law_draws)
  F__law_pick : Fun K "_law_pick" "_law_pick" s__law_pick A.a__law_pick A.f__law_pick
  b__law_pick : Binds K A.f__law_pick ["draws", "k", "many"] []
  m__law_pick : mg "_law_pick" = some (.ref A.a__law_pick)
  F__law_letters : Fun K "_law_letters" "_law_letters" s__law_letters A.a__law_letters A.f__law_letters
  b__law_letters : Binds K A.f__law_letters ["shape"] []
  m__law_letters : mg "_law_letters" = some (.ref A.a__law_letters)
  F__law_name : Fun K "_law_name" "_law_name" s__law_name A.a__law_name A.f__law_name
  b__law_name : Binds K A.f__law_name ["draws", "at"] []
  m__law_name : mg "_law_name" = some (.ref A.a__law_name)
  F__law_names : Fun K "_law_names" "_law_names" s__law_names A.a__law_names A.f__law_names
  b__law_names : Binds K A.f__law_names ["draws", "extra", "many"] []
  m__law_names : mg "_law_names" = some (.ref A.a__law_names)
  F__law_shape : Fun K "_law_shape" "_law_shape" s__law_shape A.a__law_shape A.f__law_shape
  b__law_shape : Binds K A.f__law_shape ["draws", "at", "letters"] []
  m__law_shape : mg "_law_shape" = some (.ref A.a__law_shape)
  F__law_opposite : Fun K "_law_opposite" "_law_opposite" s__law_opposite A.a__law_opposite A.f__law_opposite
  b__law_opposite : Binds K A.f__law_opposite ["shape"] []
  m__law_opposite : mg "_law_opposite" = some (.ref A.a__law_opposite)
  F__law_arrow : Fun K "_law_arrow" "_law_arrow" s__law_arrow A.a__law_arrow A.f__law_arrow
  b__law_arrow : Binds K A.f__law_arrow ["draws", "at", "names"] []
  m__law_arrow : mg "_law_arrow" = some (.ref A.a__law_arrow)
  F__law_changed : Fun K "_law_changed" "_law_changed" s__law_changed A.a__law_changed A.f__law_changed
  b__law_changed : Binds K A.f__law_changed ["shape", "place"] []
  m__law_changed : mg "_law_changed" = some (.ref A.a__law_changed)
  F__law_due_arrow : Fun K "_law_due_arrow" "_law_due_arrow" s__law_due_arrow A.a__law_due_arrow A.f__law_due_arrow
  b__law_due_arrow : Binds K A.f__law_due_arrow ["shape", "positive"] []
  m__law_due_arrow : mg "_law_due_arrow" = some (.ref A.a__law_due_arrow)
  F__law_spoilt : Fun K "_law_spoilt" "_law_spoilt" s__law_spoilt A.a__law_spoilt A.f__law_spoilt
  b__law_spoilt : Binds K A.f__law_spoilt ["extra", "names"] []
  m__law_spoilt : mg "_law_spoilt" = some (.ref A.a__law_spoilt)
  F__law_bad : Fun K "_law_bad" "_law_bad" s__law_bad A.a__law_bad A.f__law_bad
  b__law_bad : Binds K A.f__law_bad ["name"] []
  m__law_bad : mg "_law_bad" = some (.ref A.a__law_bad)
  F__law_fault : Fun K "_law_fault" "_law_fault" s__law_fault A.a__law_fault A.f__law_fault
  b__law_fault : Binds K A.f__law_fault ["shape"] []
  m__law_fault : mg "_law_fault" = some (.ref A.a__law_fault)
  F__law_made : Fun K "_law_made" "_law_made" s__law_made A.a__law_made A.f__law_made
  b__law_made : Binds K A.f__law_made ["one", "other", "deed"] []
  m__law_made : mg "_law_made" = some (.ref A.a__law_made)
  F__law_due : Fun K "_law_due" "_law_due" s__law_due A.a__law_due A.f__law_due
  b__law_due : Binds K A.f__law_due ["one", "other", "deed"] []
  m__law_due : mg "_law_due" = some (.ref A.a__law_due)
  F__law_fields : Fun K "_law_fields" "_law_fields" s__law_fields A.a__law_fields A.f__law_fields
  b__law_fields : Binds K A.f__law_fields ["kind", "shape"] []
  m__law_fields : mg "_law_fields" = some (.ref A.a__law_fields)
  F__law_names_made : Fun K "_law_names_made" "_law_names_made" s__law_names_made A.a__law_names_made A.f__law_names_made
  b__law_names_made : Binds K A.f__law_names_made ["names"] []
  m__law_names_made : mg "_law_names_made" = some (.ref A.a__law_names_made)
  F_law : Fun K "law" "law" s_law A.a_law A.f_law
  b_law : Binds K A.f_law ["script"] []
  m_law : mg "law" = some (.ref A.a_law)
  o_Kinddd_anddd : OwnOp K A.c_Kind A.a_Kinddd_anddd "__and__"
  o_Kinddd_eqdd : OwnOp K A.c_Kind A.a_Kinddd_eqdd "__eq__"
  o_Kinddd_invertdd : OwnOp K A.c_Kind A.a_Kinddd_invertdd "__invert__"
  o_Kinddd_ordd : OwnOp K A.c_Kind A.a_Kinddd_ordd "__or__"
  o_Kinddd_rshiftdd : OwnOp K A.c_Kind A.a_Kinddd_rshiftdd "__rshift__"
  en_Kinddd_eqdd : ∀ t, etab.contains t = true → PySem.W.notFirst K (A.ca "Kind") ((⟨K, P, w, A.ca, none⟩ : Kc).tagV t) = true ∧ t ≠ .b "list" ∧ t ≠ .b "dict"
  eb_Kinddd_eqdd : ∀ t, dTags.contains (.b t) = true → PySem.W.subIn K (.ref (A.ca "Kind")) (.type t) = some false
  pc_Kind_letters : Cls K (A.ca "Kind")
  pr_Kind_letters : PropOf K (A.ca "Kind") "letters" A.p_Kind_letters A.a_Kind_letters
  cr_Kind : ClX.CRead K (A.ca "Kind") (.type "type")
  cm_Kind_letter : ClX.CMet K (A.ca "Kind") (.type "type") "letter" A.p_Kind_letter A.a_Kind_letter
  cv_Kind_MOST_LETTERS : ClX.CVal K (A.ca "Kind") (.type "type") "MOST_LETTERS" (.int 40) A.u_Kind_MOST_LETTERS
  m_Kind : mg "Kind" = some (.ref A.c_Kind)
  mk_Kind : Mk K A.c_Kind A.a_Kinddd_initdd
  m_BadName : mg "BadName" = some (.ref A.c_BadName)
  m_ComesapartError : mg "ComesapartError" = some (.ref A.c_ComesapartError)
  m_TooLarge : mg "TooLarge" = some (.ref A.c_TooLarge)
  x_BadName : XC P K A.c_BadName A.i_BadName A.sp_BadName A.fi_BadName A.cd_BadName A.cc_BadName
  xf__BadName : A.sp_BadName.f = "name"
  x_TooLarge : XC P K A.c_TooLarge A.i_TooLarge A.sp_TooLarge A.fi_TooLarge A.cd_TooLarge A.cc_TooLarge
  xf__TooLarge : A.sp_TooLarge.f = "limit"
  n_ValueError : mg "ValueError" = none
  n_abs : mg "abs" = none
  n_all : mg "all" = none
  n_bool : mg "bool" = none
  n_int : mg "int" = none
  n_isinstance : mg "isinstance" = none
  n_len : mg "len" = none
  n_list : mg "list" = none
  n_range : mg "range" = none
  n_tuple : mg "tuple" = none
  n_super : mg "super" = none
  m_ALPHABET : ∃ u, mg "ALPHABET" = some u ∧ RelV (.str "abcdefghijklmnopqrstuvwxyz") u
  m_MOST_IN_NAME : ∃ u, mg "MOST_IN_NAME" = some u ∧ RelV (.int 8) u
  fld_shape : ∀ c, flds_shape.contains c = true → FldC K (A.ca c) "shape"
  con_MOST_LETTERS : ∀ c, cons_MOST_LETTERS.contains c = true → ConC K (A.ca c) "MOST_LETTERS" (.int 40)
  xf_limit : ∀ c, exs_limit.contains c = true → XfC K (A.ca c) ∧ PySem.W.findIn K (.ref (A.ca c)) "limit" = some none
  xf_name : ∀ c, exs_name.contains c = true → XfC K (A.ca c) ∧ PySem.W.findIn K (.ref (A.ca c)) "name" = some none
  ie_BadName : ∀ c b, ises_BadName.lookup c = some b → ExcC K (A.ca c) ∧ PySem.W.kitOne K (.ref (A.ca c)) (.ref A.c_BadName) = some b
  ie_TooLarge : ∀ c b, ises_TooLarge.lookup c = some b → ExcC K (A.ca c) ∧ PySem.W.kitOne K (.ref (A.ca c)) (.ref A.c_TooLarge) = some b
  ie_ValueError : ∀ c b, ises_ValueError.lookup c = some b → ExcC K (A.ca c) ∧ PySem.W.kitOne K (.ref (A.ca c)) (.type "ValueError") = some b
  ct_ComesapartError : ∀ c b, cts_ComesapartError.lookup c = some b → PySem.W.exmOne K (.ref (A.ca c)) (.ref A.c_ComesapartError) = some b
  is_Kind : ∀ t b, isis_Kind.lookup t = some b → (∀ s, t = .c s → IsC K (A.ca s)) ∧ PySem.W.kitOne K ((⟨K, P, w, A.ca, none⟩ : Kc).tagV t) (.ref A.c_Kind) = some b
  is_bool : ∀ t b, isis_bool.lookup t = some b → (∀ s, t = .c s → IsC K (A.ca s)) ∧ PySem.W.kitOne K ((⟨K, P, w, A.ca, none⟩ : Kc).tagV t) (.type "bool") = some b
  is_tuple : ∀ t b, isis_tuple.lookup t = some b → (∀ s, t = .c s → IsC K (A.ca s)) ∧ PySem.W.kitOne K ((⟨K, P, w, A.ca, none⟩ : Kc).tagV t) (.type "tuple") = some b

end K78
set_option Elab.async false
set_option linter.all false
set_option maxRecDepth 100000
set_option maxHeartbeats 400000
namespace K78
open PySem L2 VS
section
variable {P : Program} {w : World} {K : PySem.W.Frag} {mg : Str → Option Value} {base : Heap} {A : Ad} {fu : Nat}
theorem sc_is_name : FnScope ["name", "char"] ["name"] (defScope s_is_name) := ⟨rfl, rfl, rfl, by decide +kernel, rfl, by decide +kernel, by decide +kernel⟩
theorem hio_is_name : ([] : List Nat).Nodup ∧ ∀ i ∈ ([] : List Nat), i < (["name"] : List Str).length := by decide
theorem ok_is_name (T : Txt P w K mg A) : FnOk P w K mg base (L2.CX P w) 1 A.a_is_name A.f_is_name ["name"] (spD ⟨K, P, w, A.ca, none⟩ 1 [] (den_is_name fu)) := by
  have z : FnOk P w K mg base (L2.CX P w) (0 + 1) A.a_is_name A.f_is_name ["name"] (spD ⟨K, P, w, A.ca, none⟩ (["name"] : List Str).length [] (runF (["name", "char"] : List Str).length [] (m_is_name fu))) := by
    refine fn_ok T.F_is_name sc_is_name hio_is_name fun cdv B outer s H E hr => ?_
    exact ((ss_one (ss_ret (se_and (se_chainLtLe (sh_val se_int) (sh_val (se_len rfl T.n_len (sh_var 0 (pv 0)))) (sh_val (se_gi rfl T.m_MOST_IN_NAME))) (se_one (se_all rfl T.n_all rfl (sh_val (se_lc rfl sc_is_name.nd (si_of (sh_var 0 (pv 0))) (own := [("char", 1)]) (blkOk_by (N := ["name", "char"]) (sc := defScope s_is_name) (by decide +kernel)) (fun s H C cl fp => (sg_name 1 rfl (pg_name sc_is_name.nd rfl (by first | exact Or.inl rfl | exact Or.inr rfl)))) (fun s H C cl fp => sts_nil) (fun s H C cl fp => (se_in (UR.of hr) (sh_var 1 (pv 1)) (sh_val (se_gs rfl T.m_ALPHABET))))))))))))
  exact z

end
end K78
set_option Elab.async false
set_option linter.all false
set_option maxRecDepth 100000
set_option maxHeartbeats 400000
namespace K78
open PySem L2 VS
section
variable {P : Program} {w : World} {K : PySem.W.Frag} {mg : Str → Option Value} {base : Heap} {A : Ad} {fu : Nat}
theorem sc_letters_in : FnScope ["shape", "found", "waiting", "top"] ["shape"] (defScope s_letters_in) := ⟨rfl, rfl, rfl, by decide +kernel, rfl, by decide +kernel, by decide +kernel⟩
theorem hio_letters_in : ([] : List Nat).Nodup ∧ ∀ i ∈ ([] : List Nat), i < (["shape"] : List Str).length := by decide
theorem ok_letters_in (T : Txt P w K mg A) : FnOk P w K mg base (L2.CX P w) 1 A.a_letters_in A.f_letters_in ["shape"] (spD ⟨K, P, w, A.ca, none⟩ 1 [] (den_letters_in fu)) := by
  have z : FnOk P w K mg base (L2.CX P w) (0 + 1) A.a_letters_in A.f_letters_in ["shape"] (spD ⟨K, P, w, A.ca, none⟩ (["shape"] : List Str).length [] (runF (["shape", "found", "waiting", "top"] : List Str).length [] (m_letters_in fu))) := by
    refine fn_ok T.F_letters_in sc_letters_in hio_letters_in fun cdv B outer s H E hr => ?_
    exact ((ss_cons (ss_set (i := 1) (se_lst sa_nil) rfl sc_letters_in.nd rfl (by first | exact Or.inl rfl | exact Or.inr rfl) rfl)
    (ss_cons (ss_set (i := 2) (se_lst (sa_cons (sh_var 0 (pv 0)) sa_nil)) rfl sc_letters_in.nd rfl (by first | exact Or.inl rfl | exact Or.inr rfl) rfl)
    (ss_cons (ss_while fu (passes_of rfl) (st_tru (sh_var 2 (pv 2)))
    (ss_cons (ss_set (i := 3) (se_shr (se_lm0 (i := 2) PySem.F.slot_list_pop PySem.F.type_list_pop mt_pop lm_pop (pv 2))) rfl sc_letters_in.nd rfl (by first | exact Or.inl rfl | exact Or.inr rfl) rfl)
    (ss_one (ss_if (st_eq (UR.of hr) (sh_val (se_ix (UR.of hr) (sh_var 3 (pv 3)) (sh_val se_int))) (sh_val se_str))
    (ss_one (ss_expr (se_lm (i := 1) PySem.F.slot_list_append PySem.F.type_list_append mt_append lm_append (pv 1) (sa_cons (sh_val (se_tup (sa_cons (sh_val (se_ix (UR.of hr) (sh_var 3 (pv 3)) (sh_val se_int))) (sa_cons (sh_val (se_ix (UR.of hr) (sh_var 3 (pv 3)) (sh_val se_int))) sa_nil)))) sa_nil))))
    (ss_cons (ss_expr (se_lm (i := 2) PySem.F.slot_list_append PySem.F.type_list_append mt_append lm_append (pv 2) (sa_cons (sh_val (se_ix (UR.of hr) (sh_var 3 (pv 3)) (sh_val se_int))) sa_nil)))
    (ss_one (ss_expr (se_lm (i := 2) PySem.F.slot_list_append PySem.F.type_list_append mt_append lm_append (pv 2) (sa_cons (sh_val (se_ix (UR.of hr) (sh_var 3 (pv 3)) (sh_val se_int))) sa_nil)))))))))
    (ss_one (ss_ret (se_move 1 (pv 1))))))))
  exact z

end
end K78
set_option Elab.async false
set_option linter.all false
set_option maxRecDepth 100000
set_option maxHeartbeats 400000
namespace K78
open PySem L2 VS
section
variable {P : Program} {w : World} {K : PySem.W.Frag} {mg : Str → Option Value} {base : Heap} {A : Ad} {fu : Nat}
theorem sc_opposite_shape : FnScope ["shape", "word"] ["shape"] (defScope s_opposite_shape) := ⟨rfl, rfl, rfl, by decide +kernel, rfl, by decide +kernel, by decide +kernel⟩
theorem hio_opposite_shape : ([] : List Nat).Nodup ∧ ∀ i ∈ ([] : List Nat), i < (["shape"] : List Str).length := by decide
theorem ok_opposite_shape (T : Txt P w K mg A) : ∀ n : Nat, FnOk P w K mg base (L2.CX P w) (1 + n) A.a_opposite_shape A.f_opposite_shape ["shape"] (spD ⟨K, P, w, A.ca, none⟩ 1 [] (den_opposite_shape fu n))
  | 0 => ⟨fun vs H Q E h => h.1, fun _ _ _ _ _ _ _ _ _ _ _ _ _ h => h.2.elim fun _ h => h.elim fun _ h => h.elim fun _ h => h.2.2.2.2.elim⟩
  | n + 1 => by
    have ih := ok_opposite_shape T n
    have z : FnOk P w K mg base (L2.CX P w) ((1 + n) + 1) A.a_opposite_shape A.f_opposite_shape ["shape"] (spD ⟨K, P, w, A.ca, none⟩ (["shape"] : List Str).length [] (runF (["shape", "word"] : List Str).length [] (m_opposite_shape fu (fun _ _ => den_opposite_shape fu n) n))) := by
      refine fn_ok T.F_opposite_shape sc_opposite_shape hio_opposite_shape fun cdv B outer s H E hr => ?_
      exact ((ss_cons (ss_if (st_eq (UR.of hr) (sh_val (se_ix (UR.of hr) (sh_var 0 (pv 0)) (sh_val se_int))) (sh_val se_str))
    (ss_one (ss_ret (se_tup (sa_cons (sh_val se_str) (sa_cons (sh_val (se_ix (UR.of hr) (sh_var 0 (pv 0)) (sh_val se_int))) (sa_cons (sh_val (se_not (se_ix (UR.of hr) (sh_var 0 (pv 0)) (sh_val se_int)))) sa_nil))))))
    ss_nil)
    (ss_cons (ss_set (i := 1) se_str rfl sc_opposite_shape.nd rfl (by first | exact Or.inl rfl | exact Or.inr rfl) rfl)
    (ss_cons (ss_if (st_eq (UR.of hr) (sh_val (se_ix (UR.of hr) (sh_var 0 (pv 0)) (sh_val se_int))) (sh_val se_str))
    (ss_one (ss_set (i := 1) se_str rfl sc_opposite_shape.nd rfl (by first | exact Or.inl rfl | exact Or.inr rfl) rfl))
    ss_nil)
    (ss_one (ss_ret (se_tup (sa_cons (sh_var 1 (pv 1)) (sa_cons (sh_val (se_call ih (hr.mono (by omega)) rfl T.m_opposite_shape T.F_opposite_shape.kp T.b_opposite_shape (takes_of rfl rfl rfl rfl) (sa_cons (sh_val (se_ix (UR.of hr) (sh_var 0 (pv 0)) (sh_val se_int))) sa_nil) (many_cons many_nil))) (sa_cons (sh_val (se_call ih (hr.mono (by omega)) rfl T.m_opposite_shape T.F_opposite_shape.kp T.b_opposite_shape (takes_of rfl rfl rfl rfl) (sa_cons (sh_val (se_ix (UR.of hr) (sh_var 0 (pv 0)) (sh_val se_int))) sa_nil) (many_cons many_nil))) sa_nil))))))))))
    exact z

end
end K78
set_option Elab.async false
set_option linter.all false
set_option maxRecDepth 100000
set_option maxHeartbeats 400000
namespace K78
open PySem L2 VS
section
variable {P : Program} {w : World} {K : PySem.W.Frag} {mg : Str → Option Value} {base : Heap} {A : Ad} {fu : Nat}
theorem sc_Kinddd_initdd : FnScope ["self", "shape", "found", "name", "_"] ["self", "shape"] (defScope s_Kinddd_initdd) := ⟨rfl, rfl, rfl, by decide +kernel, rfl, by decide +kernel, by decide +kernel⟩
theorem hio_Kinddd_initdd : ([0] : List Nat).Nodup ∧ ∀ i ∈ ([0] : List Nat), i < (["self", "shape"] : List Str).length := by decide
theorem ok_Kinddd_initdd (T : Txt P w K mg A) : FnOk P w K mg base (L2.CX P w) 3 A.a_Kinddd_initdd A.f_Kinddd_initdd ["self", "shape"] (spD ⟨K, P, w, A.ca, none⟩ 2 [0] (den_Kinddd_initdd fu)) := by
  have z : FnOk P w K mg base (L2.CX P w) (2 + 1) A.a_Kinddd_initdd A.f_Kinddd_initdd ["self", "shape"] (spD ⟨K, P, w, A.ca, none⟩ (["self", "shape"] : List Str).length [0] (runF (["self", "shape", "found", "name", "_"] : List Str).length [0] (m_Kinddd_initdd fu))) := by
    refine fn_ok T.F_Kinddd_initdd sc_Kinddd_initdd hio_Kinddd_initdd fun cdv B outer s H E hr => ?_
    exact ((ss_cons (ss_set (i := 2) (se_shr (se_call (ok_letters_in T) (hr.mono (by decide)) rfl T.m_letters_in T.F_letters_in.kp T.b_letters_in (takes_of rfl rfl rfl rfl) (sa_cons (sh_var 1 (pv 1)) sa_nil) (many_cons many_nil))) rfl sc_Kinddd_initdd.nd rfl (by first | exact Or.inl rfl | exact Or.inr rfl) rfl)
    (ss_cons (ss_if (st_gt (sh_val (se_len rfl T.n_len (sh_var 2 (pv 2)))) (sh_val (se_conI (sh_var 0 (pv 0)) T.con_MOST_LETTERS)))
    (ss_one (ss_raiseN (k := 1) (c := "TooLarge") T.x_TooLarge.s T.x_TooLarge.o T.x_TooLarge.i T.x_TooLarge.t T.xf__TooLarge rfl (hr.mono (by decide)) rfl T.m_TooLarge T.n_super (takes_of rfl rfl rfl rfl) rfl (se_conI (sh_var 0 (pv 0)) T.con_MOST_LETTERS)))
    ss_nil)
    (ss_cons (ss_for (passes_of rfl) rfl (si_of (sh_var 2 (pv 2))) (sg_tup rfl (sgs_cons (sg_name 3 rfl (pg_name sc_Kinddd_initdd.nd rfl (by first | exact Or.inl rfl | exact Or.inr rfl))) (sgs_cons (sg_name 4 rfl (pg_name sc_Kinddd_initdd.nd rfl (by first | exact Or.inl rfl | exact Or.inr rfl))) sgs_nil)))
    (ss_one (ss_if (st_not (st_tru (sh_val (se_call (ok_is_name T) (hr.mono (by decide)) rfl T.m_is_name T.F_is_name.kp T.b_is_name (takes_of rfl rfl rfl rfl) (sa_cons (sh_var 3 (pv 3)) sa_nil) (many_cons many_nil)))))
    (ss_one (ss_raiseN (k := 1) (c := "BadName") T.x_BadName.s T.x_BadName.o T.x_BadName.i T.x_BadName.t T.xf__BadName rfl (hr.mono (by decide)) rfl T.m_BadName T.n_super (takes_of rfl rfl rfl rfl) rfl (se_take (sh_var 3 (pv 3)))))
    ss_nil)))
    (ss_one (ss_fld (i := 0) (pv 0) (se_take (sh_var 1 (pv 1))) T.fld_shape))))))
  exact z

end
end K78
set_option Elab.async false
set_option linter.all false
set_option maxRecDepth 100000
set_option maxHeartbeats 400000
namespace K78
open PySem L2 VS
section
variable {P : Program} {w : World} {K : PySem.W.Frag} {mg : Str → Option Value} {base : Heap} {A : Ad} {fu : Nat}
theorem sc_Kind_letter : FnScope ["cls", "name"] ["cls", "name"] (defScope s_Kind_letter) := ⟨rfl, rfl, rfl, by decide +kernel, rfl, by decide +kernel, by decide +kernel⟩
theorem hio_Kind_letter : ([] : List Nat).Nodup ∧ ∀ i ∈ ([] : List Nat), i < (["cls", "name"] : List Str).length := by decide
theorem ok_Kind_letter (T : Txt P w K mg A) : FnOk P w K mg base (L2.CX P w) 5 A.a_Kind_letter A.f_Kind_letter ["cls", "name"] (spD ⟨K, P, w, A.ca, none⟩ 2 [] (den_Kind_letter fu)) := by
  have z : FnOk P w K mg base (L2.CX P w) (4 + 1) A.a_Kind_letter A.f_Kind_letter ["cls", "name"] (spD ⟨K, P, w, A.ca, none⟩ (["cls", "name"] : List Str).length [] (runF (["cls", "name"] : List Str).length [] (m_Kind_letter fu))) := by
    refine fn_ok T.F_Kind_letter sc_Kind_letter hio_Kind_letter fun cdv B outer s H E hr => ?_
    exact ((ss_one (ss_ret (se_makeV 0 T.mk_Kind rfl ((ok_Kinddd_initdd T)) (hr.mono (by decide)) (pv 0) T.b_Kinddd_initdd (takes_of rfl rfl rfl rfl) (sa_cons (sh_val (se_tup (sa_cons (sh_val se_str) (sa_cons (sh_var 1 (pv 1)) (sa_cons (sh_val se_bl) sa_nil))))) sa_nil) (many_cons many_nil)))))
  exact z

end
end K78
set_option Elab.async false
set_option linter.all false
set_option maxRecDepth 100000
set_option maxHeartbeats 400000
namespace K78
open PySem L2 VS
section
variable {P : Program} {w : World} {K : PySem.W.Frag} {mg : Str → Option Value} {base : Heap} {A : Ad} {fu : Nat}
theorem sc_Kind_letters : FnScope ["self"] ["self"] (defScope s_Kind_letters) := ⟨rfl, rfl, rfl, by decide +kernel, rfl, by decide +kernel, by decide +kernel⟩
theorem hio_Kind_letters : ([] : List Nat).Nodup ∧ ∀ i ∈ ([] : List Nat), i < (["self"] : List Str).length := by decide
theorem ok_Kind_letters (T : Txt P w K mg A) : FnOk P w K mg base (L2.CX P w) 2 A.a_Kind_letters A.f_Kind_letters ["self"] (spD ⟨K, P, w, A.ca, none⟩ 1 [] (den_Kind_letters fu)) := by
  have z : FnOk P w K mg base (L2.CX P w) (1 + 1) A.a_Kind_letters A.f_Kind_letters ["self"] (spD ⟨K, P, w, A.ca, none⟩ (["self"] : List Str).length [] (runF (["self"] : List Str).length [] (m_Kind_letters fu))) := by
    refine fn_ok T.F_Kind_letters sc_Kind_letters hio_Kind_letters fun cdv B outer s H E hr => ?_
    exact ((ss_one (ss_ret (se_tuple rfl T.n_tuple (sh_val (se_call (ok_letters_in T) (hr.mono (by decide)) rfl T.m_letters_in T.F_letters_in.kp T.b_letters_in (takes_of rfl rfl rfl rfl) (sa_cons (sh_val (se_fld (sh_var 0 (pv 0)) T.fld_shape)) sa_nil) (many_cons many_nil)))))))
  exact z

end
end K78
set_option Elab.async false
set_option linter.all false
set_option maxRecDepth 100000
set_option maxHeartbeats 400000
namespace K78
open PySem L2 VS
section
variable {P : Program} {w : World} {K : PySem.W.Frag} {mg : Str → Option Value} {base : Heap} {A : Ad} {fu : Nat}
theorem sc_Kinddd_invertdd : FnScope ["self"] ["self"] (defScope s_Kinddd_invertdd) := ⟨rfl, rfl, rfl, by decide +kernel, rfl, by decide +kernel, by decide +kernel⟩
theorem hio_Kinddd_invertdd : ([] : List Nat).Nodup ∧ ∀ i ∈ ([] : List Nat), i < (["self"] : List Str).length := by decide
theorem ok_Kinddd_invertdd (T : Txt P w K mg A) : FnOk P w K mg base (L2.CX P w) 62 A.a_Kinddd_invertdd A.f_Kinddd_invertdd ["self"] (spD ⟨K, P, w, A.ca, none⟩ 1 [] (den_Kinddd_invertdd fu)) := by
  have z : FnOk P w K mg base (L2.CX P w) (61 + 1) A.a_Kinddd_invertdd A.f_Kinddd_invertdd ["self"] (spD ⟨K, P, w, A.ca, none⟩ (["self"] : List Str).length [] (runF (["self"] : List Str).length [] (m_Kinddd_invertdd fu))) := by
    refine fn_ok T.F_Kinddd_invertdd sc_Kinddd_invertdd hio_Kinddd_invertdd fun cdv B outer s H E hr => ?_
    exact ((ss_one (ss_ret (se_make T.mk_Kind rfl ((ok_Kinddd_initdd T)) (hr.mono (by decide)) rfl T.m_Kind T.b_Kinddd_initdd (takes_of rfl rfl rfl rfl) (sa_cons (sh_val (se_call (ok_opposite_shape T 60) (hr.mono (by decide)) rfl T.m_opposite_shape T.F_opposite_shape.kp T.b_opposite_shape (takes_of rfl rfl rfl rfl) (sa_cons (sh_val (se_fld (sh_var 0 (pv 0)) T.fld_shape)) sa_nil) (many_cons many_nil))) sa_nil) (many_cons many_nil)))))
  exact z

end
end K78
set_option Elab.async false
set_option linter.all false
set_option maxRecDepth 100000
set_option maxHeartbeats 400000
namespace K78
open PySem L2 VS
section
variable {P : Program} {w : World} {K : PySem.W.Frag} {mg : Str → Option Value} {base : Heap} {A : Ad} {fu : Nat}
theorem sc_Kinddd_anddd : FnScope ["self", "other"] ["self", "other"] (defScope s_Kinddd_anddd) := ⟨rfl, rfl, rfl, by decide +kernel, rfl, by decide +kernel, by decide +kernel⟩
theorem hio_Kinddd_anddd : ([] : List Nat).Nodup ∧ ∀ i ∈ ([] : List Nat), i < (["self", "other"] : List Str).length := by decide
theorem ok_Kinddd_anddd (T : Txt P w K mg A) : FnOk P w K mg base (L2.CX P w) 5 A.a_Kinddd_anddd A.f_Kinddd_anddd ["self", "other"] (spD ⟨K, P, w, A.ca, none⟩ 2 [] (den_Kinddd_anddd fu)) := by
  have z : FnOk P w K mg base (L2.CX P w) (4 + 1) A.a_Kinddd_anddd A.f_Kinddd_anddd ["self", "other"] (spD ⟨K, P, w, A.ca, none⟩ (["self", "other"] : List Str).length [] (runF (["self", "other"] : List Str).length [] (m_Kinddd_anddd fu))) := by
    refine fn_ok T.F_Kinddd_anddd sc_Kinddd_anddd hio_Kinddd_anddd fun cdv B outer s H E hr => ?_
    exact ((ss_cons (ss_if (st_not (st_tru (sh_val (se_isi (sh_var 1 (pv 1)) rfl (.own A.c_Kind) T.is_Kind (pe_glob (v := .ref A.c_Kind) rfl T.m_Kind rfl) rfl T.n_isinstance))))
    (ss_one (ss_ret se_stk))
    ss_nil)
    (ss_one (ss_ret (se_make T.mk_Kind rfl ((ok_Kinddd_initdd T)) (hr.mono (by decide)) rfl T.m_Kind T.b_Kinddd_initdd (takes_of rfl rfl rfl rfl) (sa_cons (sh_val (se_tup (sa_cons (sh_val se_str) (sa_cons (sh_val (se_fld (sh_var 0 (pv 0)) T.fld_shape)) (sa_cons (sh_val (se_fld (sh_var 1 (pv 1)) T.fld_shape)) sa_nil))))) sa_nil) (many_cons many_nil))))))
  exact z

end
end K78
set_option Elab.async false
set_option linter.all false
set_option maxRecDepth 100000
set_option maxHeartbeats 400000
namespace K78
open PySem L2 VS
section
variable {P : Program} {w : World} {K : PySem.W.Frag} {mg : Str → Option Value} {base : Heap} {A : Ad} {fu : Nat}
theorem sc_Kinddd_ordd : FnScope ["self", "other"] ["self", "other"] (defScope s_Kinddd_ordd) := ⟨rfl, rfl, rfl, by decide +kernel, rfl, by decide +kernel, by decide +kernel⟩
theorem hio_Kinddd_ordd : ([] : List Nat).Nodup ∧ ∀ i ∈ ([] : List Nat), i < (["self", "other"] : List Str).length := by decide
theorem ok_Kinddd_ordd (T : Txt P w K mg A) : FnOk P w K mg base (L2.CX P w) 5 A.a_Kinddd_ordd A.f_Kinddd_ordd ["self", "other"] (spD ⟨K, P, w, A.ca, none⟩ 2 [] (den_Kinddd_ordd fu)) := by
  have z : FnOk P w K mg base (L2.CX P w) (4 + 1) A.a_Kinddd_ordd A.f_Kinddd_ordd ["self", "other"] (spD ⟨K, P, w, A.ca, none⟩ (["self", "other"] : List Str).length [] (runF (["self", "other"] : List Str).length [] (m_Kinddd_ordd fu))) := by
    refine fn_ok T.F_Kinddd_ordd sc_Kinddd_ordd hio_Kinddd_ordd fun cdv B outer s H E hr => ?_
    exact ((ss_cons (ss_if (st_not (st_tru (sh_val (se_isi (sh_var 1 (pv 1)) rfl (.own A.c_Kind) T.is_Kind (pe_glob (v := .ref A.c_Kind) rfl T.m_Kind rfl) rfl T.n_isinstance))))
    (ss_one (ss_ret se_stk))
    ss_nil)
    (ss_one (ss_ret (se_make T.mk_Kind rfl ((ok_Kinddd_initdd T)) (hr.mono (by decide)) rfl T.m_Kind T.b_Kinddd_initdd (takes_of rfl rfl rfl rfl) (sa_cons (sh_val (se_tup (sa_cons (sh_val se_str) (sa_cons (sh_val (se_fld (sh_var 0 (pv 0)) T.fld_shape)) (sa_cons (sh_val (se_fld (sh_var 1 (pv 1)) T.fld_shape)) sa_nil))))) sa_nil) (many_cons many_nil))))))
  exact z

end
end K78
set_option Elab.async false
set_option linter.all false
set_option maxRecDepth 100000
set_option maxHeartbeats 400000
namespace K78
open PySem L2 VS
section
variable {P : Program} {w : World} {K : PySem.W.Frag} {mg : Str → Option Value} {base : Heap} {A : Ad} {fu : Nat}
theorem sc_Kinddd_rshiftdd : FnScope ["self", "other"] ["self", "other"] (defScope s_Kinddd_rshiftdd) := ⟨rfl, rfl, rfl, by decide +kernel, rfl, by decide +kernel, by decide +kernel⟩
theorem hio_Kinddd_rshiftdd : ([] : List Nat).Nodup ∧ ∀ i ∈ ([] : List Nat), i < (["self", "other"] : List Str).length := by decide
theorem ok_Kinddd_rshiftdd (T : Txt P w K mg A) : FnOk P w K mg base (L2.CX P w) 62 A.a_Kinddd_rshiftdd A.f_Kinddd_rshiftdd ["self", "other"] (spD ⟨K, P, w, A.ca, none⟩ 2 [] (den_Kinddd_rshiftdd fu)) := by
  have z : FnOk P w K mg base (L2.CX P w) (61 + 1) A.a_Kinddd_rshiftdd A.f_Kinddd_rshiftdd ["self", "other"] (spD ⟨K, P, w, A.ca, none⟩ (["self", "other"] : List Str).length [] (runF (["self", "other"] : List Str).length [] (m_Kinddd_rshiftdd fu))) := by
    refine fn_ok T.F_Kinddd_rshiftdd sc_Kinddd_rshiftdd hio_Kinddd_rshiftdd fun cdv B outer s H E hr => ?_
    exact ((ss_cons (ss_if (st_not (st_tru (sh_val (se_isi (sh_var 1 (pv 1)) rfl (.own A.c_Kind) T.is_Kind (pe_glob (v := .ref A.c_Kind) rfl T.m_Kind rfl) rfl T.n_isinstance))))
    (ss_one (ss_ret se_stk))
    ss_nil)
    (ss_one (ss_ret (se_make T.mk_Kind rfl ((ok_Kinddd_initdd T)) (hr.mono (by decide)) rfl T.m_Kind T.b_Kinddd_initdd (takes_of rfl rfl rfl rfl) (sa_cons (sh_val (se_tup (sa_cons (sh_val se_str) (sa_cons (sh_val (se_call (ok_opposite_shape T 60) (hr.mono (by decide)) rfl T.m_opposite_shape T.F_opposite_shape.kp T.b_opposite_shape (takes_of rfl rfl rfl rfl) (sa_cons (sh_val (se_fld (sh_var 0 (pv 0)) T.fld_shape)) sa_nil) (many_cons many_nil))) (sa_cons (sh_val (se_fld (sh_var 1 (pv 1)) T.fld_shape)) sa_nil))))) sa_nil) (many_cons many_nil))))))
  exact z

end
end K78
set_option Elab.async false
set_option linter.all false
set_option maxRecDepth 100000
set_option maxHeartbeats 400000
namespace K78
open PySem L2 VS
section
variable {P : Program} {w : World} {K : PySem.W.Frag} {mg : Str → Option Value} {base : Heap} {A : Ad} {fu : Nat}
theorem sc_Kinddd_eqdd : FnScope ["self", "other"] ["self", "other"] (defScope s_Kinddd_eqdd) := ⟨rfl, rfl, rfl, by decide +kernel, rfl, by decide +kernel, by decide +kernel⟩
theorem hio_Kinddd_eqdd : ([] : List Nat).Nodup ∧ ∀ i ∈ ([] : List Nat), i < (["self", "other"] : List Str).length := by decide
theorem ok_Kinddd_eqdd (T : Txt P w K mg A) : FnOk P w K mg base (L2.CX P w) 1 A.a_Kinddd_eqdd A.f_Kinddd_eqdd ["self", "other"] (spD ⟨K, P, w, A.ca, none⟩ 2 [] (den_Kinddd_eqdd fu)) := by
  have z : FnOk P w K mg base (L2.CX P w) (0 + 1) A.a_Kinddd_eqdd A.f_Kinddd_eqdd ["self", "other"] (spD ⟨K, P, w, A.ca, none⟩ (["self", "other"] : List Str).length [] (runF (["self", "other"] : List Str).length [] (m_Kinddd_eqdd fu))) := by
    refine fn_ok T.F_Kinddd_eqdd sc_Kinddd_eqdd hio_Kinddd_eqdd fun cdv B outer s H E hr => ?_
    exact ((ss_one (ss_ret (se_and (se_isi (sh_var 1 (pv 1)) rfl (.own A.c_Kind) T.is_Kind (pe_glob (v := .ref A.c_Kind) rfl T.m_Kind rfl) rfl T.n_isinstance) (se_one (se_eq (UR.of hr) (sh_val (se_fld (sh_var 0 (pv 0)) T.fld_shape)) (sh_val (se_fld (sh_var 1 (pv 1)) T.fld_shape))))))))
  exact z

end
end K78
set_option Elab.async false
set_option linter.all false
set_option maxRecDepth 100000
set_option maxHeartbeats 400000
namespace K78
open PySem L2 VS
section
variable {P : Program} {w : World} {K : PySem.W.Frag} {mg : Str → Option Value} {base : Heap} {A : Ad} {fu : Nat}
theorem sc_is_arrow_shape : FnScope ["shape", "positive", "word"] ["shape", "positive"] (defScope s_is_arrow_shape) := ⟨rfl, rfl, rfl, by decide +kernel, rfl, by decide +kernel, by decide +kernel⟩
theorem hio_is_arrow_shape : ([] : List Nat).Nodup ∧ ∀ i ∈ ([] : List Nat), i < (["shape", "positive"] : List Str).length := by decide
theorem ok_is_arrow_shape (T : Txt P w K mg A) : ∀ n : Nat, FnOk P w K mg base (L2.CX P w) (1 + n) A.a_is_arrow_shape A.f_is_arrow_shape ["shape", "positive"] (spD ⟨K, P, w, A.ca, none⟩ 2 [] (den_is_arrow_shape fu n))
  | 0 => ⟨fun vs H Q E h => h.1, fun _ _ _ _ _ _ _ _ _ _ _ _ _ h => h.2.elim fun _ h => h.elim fun _ h => h.elim fun _ h => h.2.2.2.2.elim⟩
  | n + 1 => by
    have ih := ok_is_arrow_shape T n
    have z : FnOk P w K mg base (L2.CX P w) ((1 + n) + 1) A.a_is_arrow_shape A.f_is_arrow_shape ["shape", "positive"] (spD ⟨K, P, w, A.ca, none⟩ (["shape", "positive"] : List Str).length [] (runF (["shape", "positive", "word"] : List Str).length [] (m_is_arrow_shape fu (fun _ _ => den_is_arrow_shape fu n) n))) := by
      refine fn_ok T.F_is_arrow_shape sc_is_arrow_shape hio_is_arrow_shape fun cdv B outer s H E hr => ?_
      exact ((ss_cons (ss_if (st_eq (UR.of hr) (sh_val (se_ix (UR.of hr) (sh_var 0 (pv 0)) (sh_val se_int))) (sh_val se_str))
    (ss_one (ss_ret (se_eq (UR.of hr) (sh_val (se_ix (UR.of hr) (sh_var 0 (pv 0)) (sh_val se_int))) (sh_var 1 (pv 1)))))
    ss_nil)
    (ss_cons (ss_set (i := 2) se_str rfl sc_is_arrow_shape.nd rfl (by first | exact Or.inl rfl | exact Or.inr rfl) rfl)
    (ss_cons (ss_if (st_tru (sh_var 1 (pv 1)))
    (ss_one (ss_set (i := 2) se_str rfl sc_is_arrow_shape.nd rfl (by first | exact Or.inl rfl | exact Or.inr rfl) rfl))
    ss_nil)
    (ss_cons (ss_if (st_ne (UR.of hr) (sh_val (se_ix (UR.of hr) (sh_var 0 (pv 0)) (sh_val se_int))) (sh_var 2 (pv 2)))
    (ss_one (ss_ret se_bl))
    ss_nil)
    (ss_one (ss_ret (se_and (se_call ih (hr.mono (by omega)) rfl T.m_is_arrow_shape T.F_is_arrow_shape.kp T.b_is_arrow_shape (takes_of rfl rfl rfl rfl) (sa_cons (sh_val (se_ix (UR.of hr) (sh_var 0 (pv 0)) (sh_val se_int))) (sa_cons (sh_val (se_not (se_take (sh_var 1 (pv 1))))) sa_nil)) (many_cons (many_cons many_nil))) (se_one (se_call ih (hr.mono (by omega)) rfl T.m_is_arrow_shape T.F_is_arrow_shape.kp T.b_is_arrow_shape (takes_of rfl rfl rfl rfl) (sa_cons (sh_val (se_ix (UR.of hr) (sh_var 0 (pv 0)) (sh_val se_int))) (sa_cons (sh_var 1 (pv 1)) sa_nil)) (many_cons (many_cons many_nil))))))))))))
    exact z

end
end K78
set_option Elab.async false
set_option linter.all false
set_option maxRecDepth 100000
set_option maxHeartbeats 400000
namespace K78
open PySem L2 VS
section
variable {P : Program} {w : World} {K : PySem.W.Frag} {mg : Str → Option Value} {base : Heap} {A : Ad} {fu : Nat}
theorem sc_is_arrow : FnScope ["kind"] ["kind"] (defScope s_is_arrow) := ⟨rfl, rfl, rfl, by decide +kernel, rfl, by decide +kernel, by decide +kernel⟩
theorem hio_is_arrow : ([] : List Nat).Nodup ∧ ∀ i ∈ ([] : List Nat), i < (["kind"] : List Str).length := by decide
theorem ok_is_arrow (T : Txt P w K mg A) : FnOk P w K mg base (L2.CX P w) 62 A.a_is_arrow A.f_is_arrow ["kind"] (spD ⟨K, P, w, A.ca, none⟩ 1 [] (den_is_arrow fu)) := by
  have z : FnOk P w K mg base (L2.CX P w) (61 + 1) A.a_is_arrow A.f_is_arrow ["kind"] (spD ⟨K, P, w, A.ca, none⟩ (["kind"] : List Str).length [] (runF (["kind"] : List Str).length [] (m_is_arrow fu))) := by
    refine fn_ok T.F_is_arrow sc_is_arrow hio_is_arrow fun cdv B outer s H E hr => ?_
    exact ((ss_one (ss_ret (se_call (ok_is_arrow_shape T 60) (hr.mono (by decide)) rfl T.m_is_arrow_shape T.F_is_arrow_shape.kp T.b_is_arrow_shape (takes_of rfl rfl rfl rfl) (sa_cons (sh_val (se_fld (sh_var 0 (pv 0)) T.fld_shape)) (sa_cons (sh_val se_bl) sa_nil)) (many_cons (many_cons many_nil))))))
  exact z

end
end K78
set_option Elab.async false
set_option linter.all false
set_option maxRecDepth 100000
set_option maxHeartbeats 400000
namespace K78
open PySem L2 VS
section
variable {P : Program} {w : World} {K : PySem.W.Frag} {mg : Str → Option Value} {base : Heap} {A : Ad} {fu : Nat}
theorem sc__law_cell : FnScope ["script", "k"] ["script", "k"] (defScope s__law_cell) := ⟨rfl, rfl, rfl, by decide +kernel, rfl, by decide +kernel, by decide +kernel⟩
theorem hio__law_cell : ([] : List Nat).Nodup ∧ ∀ i ∈ ([] : List Nat), i < (["script", "k"] : List Str).length := by decide
theorem ok__law_cell (T : Txt P w K mg A) : FnOk P w K mg base (L2.CX P w) 1 A.a__law_cell A.f__law_cell ["script", "k"] (spD ⟨K, P, w, A.ca, none⟩ 2 [] (den__law_cell fu)) := by
  have z : FnOk P w K mg base (L2.CX P w) (0 + 1) A.a__law_cell A.f__law_cell ["script", "k"] (spD ⟨K, P, w, A.ca, none⟩ (["script", "k"] : List Str).length [] (runF (["script", "k"] : List Str).length [] (m__law_cell fu))) := by
    refine fn_ok T.F__law_cell sc__law_cell hio__law_cell fun cdv B outer s H E hr => ?_
    exact ((ss_cons (ss_if (st_lt (sh_var 1 (pv 1)) (sh_val (se_len rfl T.n_len (sh_var 0 (pv 0)))))
    (ss_one (ss_ret (se_ix (UR.of hr) (sh_var 0 (pv 0)) (sh_var 1 (pv 1)))))
    ss_nil)
    (ss_one (ss_ret se_int))))
  exact z

end
end K78
set_option Elab.async false
set_option linter.all false
set_option maxRecDepth 100000
set_option maxHeartbeats 400000
namespace K78
open PySem L2 VS
section
variable {P : Program} {w : World} {K : PySem.W.Frag} {mg : Str → Option Value} {base : Heap} {A : Ad} {fu : Nat}
theorem sc__law_draws : FnScope ["cell", "many", "rest", "exact", "mixed", "draws", "k"] ["cell", "many"] (defScope s__law_draws) := ⟨rfl, rfl, rfl, by decide +kernel, rfl, by decide +kernel, by decide +kernel⟩
theorem hio__law_draws : ([] : List Nat).Nodup ∧ ∀ i ∈ ([] : List Nat), i < (["cell", "many"] : List Str).length := by decide
theorem ok__law_draws (T : Txt P w K mg A) : FnOk P w K mg base (L2.CX P w) 1 A.a__law_draws A.f__law_draws ["cell", "many"] (spD ⟨K, P, w, A.ca, none⟩ 2 [] (den__law_draws fu)) := by
  have z : FnOk P w K mg base (L2.CX P w) (0 + 1) A.a__law_draws A.f__law_draws ["cell", "many"] (spD ⟨K, P, w, A.ca, none⟩ (["cell", "many"] : List Str).length [] (runF (["cell", "many", "rest", "exact", "mixed", "draws", "k"] : List Str).length [] (m__law_draws fu))) := by
    refine fn_ok T.F__law_draws sc__law_draws hio__law_draws fun cdv B outer s H E hr => ?_
    exact ((ss_cons (ss_set (i := 2) (se_shr (se_abs rfl T.n_abs (sh_val (se_toInt rfl T.n_int (sh_var 0 (pv 0)))))) rfl sc__law_draws.nd rfl (by first | exact Or.inl rfl | exact Or.inr rfl) rfl)
    (ss_cons (ss_set (i := 3) (se_ge (sh_var 2 (pv 2)) (sh_val (se_pow (sh_val se_int) (sh_val se_int)))) rfl sc__law_draws.nd rfl (by first | exact Or.inl rfl | exact Or.inr rfl) rfl)
    (ss_cons (ss_set (i := 4) (se_shr (se_add (sh_val (se_mod (sh_val (se_toInt rfl T.n_int (sh_var 2 (pv 2)))) (sh_val se_int))) (sh_val se_int))) rfl sc__law_draws.nd rfl (by first | exact Or.inl rfl | exact Or.inr rfl) rfl)
    (ss_cons (ss_set (i := 5) (se_lst sa_nil) rfl sc__law_draws.nd rfl (by first | exact Or.inl rfl | exact Or.inr rfl) rfl)
    (ss_cons (ss_for (passes_of rfl) rfl (si_range1 rfl T.n_range (sh_var 1 (pv 1))) (sg_name 6 rfl (pg_name sc__law_draws.nd rfl (by first | exact Or.inl rfl | exact Or.inr rfl)))
    (ss_cons (ss_set (i := 4) (se_mod (sh_val (se_toInt rfl T.n_int (sh_val (se_add (sh_val (se_add (sh_val (se_mul (sh_var 4 (pv 4)) (sh_val se_int))) (sh_val (se_mul (sh_val se_int) (sh_var 6 (pv 6)))))) (sh_val se_int))))) (sh_val se_int)) rfl sc__law_draws.nd rfl (by first | exact Or.inl rfl | exact Or.inr rfl) rfl)
    (ss_one (ss_if (st_w (sw_and (st_tru (sh_var 3 (pv 3))) (sw_and1 (st_gt (sh_var 2 (pv 2)) (sh_val se_int)))))
    (ss_cons (ss_expr (se_lm (i := 5) PySem.F.slot_list_append PySem.F.type_list_append mt_append lm_append (pv 5) (sa_cons (sh_val (se_mod (sh_val (se_toInt rfl T.n_int (sh_var 2 (pv 2)))) (sh_val se_int))) sa_nil)))
    (ss_one (ss_set (i := 2) (se_fdiv (sh_var 2 (pv 2)) (sh_val se_int)) rfl sc__law_draws.nd rfl (by first | exact Or.inl rfl | exact Or.inr rfl) rfl)))
    (ss_one (ss_expr (se_lm (i := 5) PySem.F.slot_list_append PySem.F.type_list_append mt_append lm_append (pv 5) (sa_cons (sh_val (se_mod (sh_val (se_fdiv (sh_var 4 (pv 4)) (sh_val se_int))) (sh_val se_int))) sa_nil))))))))
    (ss_one (ss_ret (se_move 5 (pv 5))))))))))
  exact z

end
end K78
set_option Elab.async false
set_option linter.all false
set_option maxRecDepth 100000
set_option maxHeartbeats 400000
namespace K78
open PySem L2 VS
section
variable {P : Program} {w : World} {K : PySem.W.Frag} {mg : Str → Option Value} {base : Heap} {A : Ad} {fu : Nat}
theorem sc__law_pick : FnScope ["draws", "k", "many"] ["draws", "k", "many"] (defScope s__law_pick) := ⟨rfl, rfl, rfl, by decide +kernel, rfl, by decide +kernel, by decide +kernel⟩
theorem hio__law_pick : ([] : List Nat).Nodup ∧ ∀ i ∈ ([] : List Nat), i < (["draws", "k", "many"] : List Str).length := by decide
theorem ok__law_pick (T : Txt P w K mg A) : FnOk P w K mg base (L2.CX P w) 1 A.a__law_pick A.f__law_pick ["draws", "k", "many"] (spD ⟨K, P, w, A.ca, none⟩ 3 [] (den__law_pick fu)) := by
  have z : FnOk P w K mg base (L2.CX P w) (0 + 1) A.a__law_pick A.f__law_pick ["draws", "k", "many"] (spD ⟨K, P, w, A.ca, none⟩ (["draws", "k", "many"] : List Str).length [] (runF (["draws", "k", "many"] : List Str).length [] (m__law_pick fu))) := by
    refine fn_ok T.F__law_pick sc__law_pick hio__law_pick fun cdv B outer s H E hr => ?_
    exact ((ss_cons (ss_if (st_w (sw_or (st_lt (sh_var 2 (pv 2)) (sh_val se_int)) (sw_or1 (st_eq (UR.of hr) (sh_val (se_len rfl T.n_len (sh_var 0 (pv 0)))) (sh_val se_int)))))
    (ss_one (ss_ret se_int))
    ss_nil)
    (ss_one (ss_ret (se_mod (sh_val (se_toInt rfl T.n_int (sh_val (se_ix (UR.of hr) (sh_var 0 (pv 0)) (sh_val (se_mod (sh_val (se_toInt rfl T.n_int (sh_var 1 (pv 1)))) (sh_val (se_len rfl T.n_len (sh_var 0 (pv 0)))))))))) (sh_var 2 (pv 2)))))))
  exact z

end
end K78
set_option Elab.async false
set_option linter.all false
set_option maxRecDepth 100000
set_option maxHeartbeats 400000
namespace K78
open PySem L2 VS
section
variable {P : Program} {w : World} {K : PySem.W.Frag} {mg : Str → Option Value} {base : Heap} {A : Ad} {fu : Nat}
theorem sc__law_letters : FnScope ["shape"] ["shape"] (defScope s__law_letters) := ⟨rfl, rfl, rfl, by decide +kernel, rfl, by decide +kernel, by decide +kernel⟩
theorem hio__law_letters : ([] : List Nat).Nodup ∧ ∀ i ∈ ([] : List Nat), i < (["shape"] : List Str).length := by decide
theorem ok__law_letters (T : Txt P w K mg A) : ∀ n : Nat, FnOk P w K mg base (L2.CX P w) (1 + n) A.a__law_letters A.f__law_letters ["shape"] (spD ⟨K, P, w, A.ca, none⟩ 1 [] (den__law_letters fu n))
  | 0 => ⟨fun vs H Q E h => h.1, fun _ _ _ _ _ _ _ _ _ _ _ _ _ h => h.2.elim fun _ h => h.elim fun _ h => h.elim fun _ h => h.2.2.2.2.elim⟩
  | n + 1 => by
    have ih := ok__law_letters T n
    have z : FnOk P w K mg base (L2.CX P w) ((1 + n) + 1) A.a__law_letters A.f__law_letters ["shape"] (spD ⟨K, P, w, A.ca, none⟩ (["shape"] : List Str).length [] (runF (["shape"] : List Str).length [] (m__law_letters fu (fun _ _ => den__law_letters fu n) n))) := by
      refine fn_ok T.F__law_letters sc__law_letters hio__law_letters fun cdv B outer s H E hr => ?_
      exact ((ss_cons (ss_if (st_eq (UR.of hr) (sh_val (se_ix (UR.of hr) (sh_var 0 (pv 0)) (sh_val se_int))) (sh_val se_str))
    (ss_one (ss_ret (se_lst (sa_cons (sh_val (se_tup (sa_cons (sh_val (se_ix (UR.of hr) (sh_var 0 (pv 0)) (sh_val se_int))) (sa_cons (sh_val (se_ix (UR.of hr) (sh_var 0 (pv 0)) (sh_val se_int))) sa_nil)))) sa_nil))))
    ss_nil)
    (ss_one (ss_ret (se_add (sh_val (se_call ih (hr.mono (by omega)) rfl T.m__law_letters T.F__law_letters.kp T.b__law_letters (takes_of rfl rfl rfl rfl) (sa_cons (sh_val (se_ix (UR.of hr) (sh_var 0 (pv 0)) (sh_val se_int))) sa_nil) (many_cons many_nil))) (sh_val (se_call ih (hr.mono (by omega)) rfl T.m__law_letters T.F__law_letters.kp T.b__law_letters (takes_of rfl rfl rfl rfl) (sa_cons (sh_val (se_ix (UR.of hr) (sh_var 0 (pv 0)) (sh_val se_int))) sa_nil) (many_cons many_nil))))))))
    exact z

end
end K78
set_option Elab.async false
set_option linter.all false
set_option maxRecDepth 100000
set_option maxHeartbeats 400000
namespace K78
open PySem L2 VS
section
variable {P : Program} {w : World} {K : PySem.W.Frag} {mg : Str → Option Value} {base : Heap} {A : Ad} {fu : Nat}
theorem sc__law_name : FnScope ["draws", "at", "name", "k"] ["draws", "at"] (defScope s__law_name) := ⟨rfl, rfl, rfl, by decide +kernel, rfl, by decide +kernel, by decide +kernel⟩
theorem hio__law_name : ([] : List Nat).Nodup ∧ ∀ i ∈ ([] : List Nat), i < (["draws", "at"] : List Str).length := by decide
theorem ok__law_name (T : Txt P w K mg A) : FnOk P w K mg base (L2.CX P w) 2 A.a__law_name A.f__law_name ["draws", "at"] (spD ⟨K, P, w, A.ca, none⟩ 2 [] (den__law_name fu)) := by
  have z : FnOk P w K mg base (L2.CX P w) (1 + 1) A.a__law_name A.f__law_name ["draws", "at"] (spD ⟨K, P, w, A.ca, none⟩ (["draws", "at"] : List Str).length [] (runF (["draws", "at", "name", "k"] : List Str).length [] (m__law_name fu))) := by
    refine fn_ok T.F__law_name sc__law_name hio__law_name fun cdv B outer s H E hr => ?_
    exact ((ss_cons (ss_set (i := 2) se_str rfl sc__law_name.nd rfl (by first | exact Or.inl rfl | exact Or.inr rfl) rfl)
    (ss_cons (ss_for (passes_of rfl) rfl (si_range1 rfl T.n_range (sh_val (se_add (sh_val se_int) (sh_val (se_call (ok__law_pick T) (hr.mono (by decide)) rfl T.m__law_pick T.F__law_pick.kp T.b__law_pick (takes_of rfl rfl rfl rfl) (sa_cons (sh_var 0 (pv 0)) (sa_cons (sh_var 1 (pv 1)) (sa_cons (sh_val se_int) sa_nil))) (many_cons (many_cons (many_cons many_nil)))))))) (sg_name 3 rfl (pg_name sc__law_name.nd rfl (by first | exact Or.inl rfl | exact Or.inr rfl)))
    (ss_one (ss_set (i := 2) (se_shr (se_add (sh_var 2 (pv 2)) (sh_val (se_ix (UR.of hr) (sh_val se_str) (sh_val (se_call (ok__law_pick T) (hr.mono (by decide)) rfl T.m__law_pick T.F__law_pick.kp T.b__law_pick (takes_of rfl rfl rfl rfl) (sa_cons (sh_var 0 (pv 0)) (sa_cons (sh_val (se_add (sh_val (se_add (sh_var 1 (pv 1)) (sh_val se_int))) (sh_var 3 (pv 3)))) (sa_cons (sh_val se_int) sa_nil))) (many_cons (many_cons (many_cons many_nil))))))))) rfl sc__law_name.nd rfl (by first | exact Or.inl rfl | exact Or.inr rfl) rfl)))
    (ss_one (ss_ret (se_move 2 (pv 2)))))))
  exact z

end
end K78
set_option Elab.async false
set_option linter.all false
set_option maxRecDepth 100000
set_option maxHeartbeats 400000
namespace K78
open PySem L2 VS
section
variable {P : Program} {w : World} {K : PySem.W.Frag} {mg : Str → Option Value} {base : Heap} {A : Ad} {fu : Nat}
theorem sc__law_names : FnScope ["draws", "extra", "many", "base", "place", "names", "k", "sign"] ["draws", "extra", "many"] (defScope s__law_names) := ⟨rfl, rfl, rfl, by decide +kernel, rfl, by decide +kernel, by decide +kernel⟩
theorem hio__law_names : ([] : List Nat).Nodup ∧ ∀ i ∈ ([] : List Nat), i < (["draws", "extra", "many"] : List Str).length := by decide
theorem ok__law_names (T : Txt P w K mg A) : FnOk P w K mg base (L2.CX P w) 3 A.a__law_names A.f__law_names ["draws", "extra", "many"] (spD ⟨K, P, w, A.ca, none⟩ 3 [] (den__law_names fu)) := by
  have z : FnOk P w K mg base (L2.CX P w) (2 + 1) A.a__law_names A.f__law_names ["draws", "extra", "many"] (spD ⟨K, P, w, A.ca, none⟩ (["draws", "extra", "many"] : List Str).length [] (runF (["draws", "extra", "many", "base", "place", "names", "k", "sign"] : List Str).length [] (m__law_names fu))) := by
    refine fn_ok T.F__law_names sc__law_names hio__law_names fun cdv B outer s H E hr => ?_
    exact ((ss_cons (ss_set (i := 3) (se_shr (se_call (ok__law_name T) (hr.mono (by decide)) rfl T.m__law_name T.F__law_name.kp T.b__law_name (takes_of rfl rfl rfl rfl) (sa_cons (sh_var 0 (pv 0)) (sa_cons (sh_val se_int) sa_nil)) (many_cons (many_cons many_nil)))) rfl sc__law_names.nd rfl (by first | exact Or.inl rfl | exact Or.inr rfl) rfl)
    (ss_cons (ss_if (st_eq (UR.of hr) (sh_val (se_call (ok__law_pick T) (hr.mono (by decide)) rfl T.m__law_pick T.F__law_pick.kp T.b__law_pick (takes_of rfl rfl rfl rfl) (sa_cons (sh_var 1 (pv 1)) (sa_cons (sh_val se_int) (sa_cons (sh_val se_int) sa_nil))) (many_cons (many_cons (many_cons many_nil))))) (sh_val se_int))
    (ss_one (ss_ret (se_lc rfl sc__law_names.nd (si_range1 rfl T.n_range (sh_var 2 (pv 2))) (own := [("k", 6)]) (blkOk_by (N := ["draws", "extra", "many", "base", "place", "names", "k", "sign"]) (sc := defScope s__law_names) (by decide +kernel)) (fun s H C cl fp => (sg_name 6 rfl (pg_name sc__law_names.nd rfl (by first | exact Or.inl rfl | exact Or.inr rfl)))) (fun s H C cl fp => sts_nil) (fun s H C cl fp => (se_call (ok__law_name T) (hr.mono (by decide)) rfl T.m__law_name T.F__law_name.kp T.b__law_name takes0 (sa_cons (sh_var 0 (pv 0)) (sa_cons (sh_val (se_mul (sh_val se_int) (sh_var 6 (pv 6)))) sa_nil)) (many_cons (many_cons many_nil)))))))
    ss_nil)
    (ss_cons (ss_set (i := 4) (se_shr (se_call (ok__law_pick T) (hr.mono (by decide)) rfl T.m__law_pick T.F__law_pick.kp T.b__law_pick (takes_of rfl rfl rfl rfl) (sa_cons (sh_var 1 (pv 1)) (sa_cons (sh_val se_int) (sa_cons (sh_val (se_len rfl T.n_len (sh_var 3 (pv 3)))) sa_nil))) (many_cons (many_cons (many_cons many_nil))))) rfl sc__law_names.nd rfl (by first | exact Or.inl rfl | exact Or.inr rfl) rfl)
    (ss_cons (ss_set (i := 5) (se_lst sa_nil) rfl sc__law_names.nd rfl (by first | exact Or.inl rfl | exact Or.inr rfl) rfl)
    (ss_cons (ss_for (passes_of rfl) rfl (si_range1 rfl T.n_range (sh_var 2 (pv 2))) (sg_name 6 rfl (pg_name sc__law_names.nd rfl (by first | exact Or.inl rfl | exact Or.inr rfl)))
    (ss_cons (ss_set (i := 7) (se_shr (se_ix (UR.of hr) (sh_val se_str) (sh_val (se_call (ok__law_pick T) (hr.mono (by decide)) rfl T.m__law_pick T.F__law_pick.kp T.b__law_pick (takes_of rfl rfl rfl rfl) (sa_cons (sh_var 0 (pv 0)) (sa_cons (sh_val (se_add (sh_val se_int) (sh_var 6 (pv 6)))) (sa_cons (sh_val se_int) sa_nil))) (many_cons (many_cons (many_cons many_nil))))))) rfl sc__law_names.nd rfl (by first | exact Or.inl rfl | exact Or.inr rfl) rfl)
    (ss_one (ss_expr (se_lm (i := 5) PySem.F.slot_list_append PySem.F.type_list_append mt_append lm_append (pv 5) (sa_cons (sh_val (se_add (sh_val (se_add (sh_val (se_sl (sh_var 3 (pv 3)) so_none (so_some (sh_var 4 (pv 4))))) (sh_var 7 (pv 7)))) (sh_val (se_sl (sh_var 3 (pv 3)) (so_some (sh_val (se_add (sh_var 4 (pv 4)) (sh_val se_int)))) so_none)))) sa_nil))))))
    (ss_one (ss_ret (se_move 5 (pv 5))))))))))
  exact z

end
end K78
set_option Elab.async false
set_option linter.all false
set_option maxRecDepth 100000
set_option maxHeartbeats 400000
namespace K78
open PySem L2 VS
section
variable {P : Program} {w : World} {K : PySem.W.Frag} {mg : Str → Option Value} {base : Heap} {A : Ad} {fu : Nat}
theorem sc__law_shape : FnScope ["draws", "at", "letters", "items", "k", "place", "right", "word"] ["draws", "at", "letters"] (defScope s__law_shape) := ⟨rfl, rfl, rfl, by decide +kernel, rfl, by decide +kernel, by decide +kernel⟩
theorem hio__law_shape : ([] : List Nat).Nodup ∧ ∀ i ∈ ([] : List Nat), i < (["draws", "at", "letters"] : List Str).length := by decide
theorem ok__law_shape (T : Txt P w K mg A) : FnOk P w K mg base (L2.CX P w) 2 A.a__law_shape A.f__law_shape ["draws", "at", "letters"] (spD ⟨K, P, w, A.ca, none⟩ 3 [] (den__law_shape fu)) := by
  have z : FnOk P w K mg base (L2.CX P w) (1 + 1) A.a__law_shape A.f__law_shape ["draws", "at", "letters"] (spD ⟨K, P, w, A.ca, none⟩ (["draws", "at", "letters"] : List Str).length [] (runF (["draws", "at", "letters", "items", "k", "place", "right", "word"] : List Str).length [] (m__law_shape fu))) := by
    refine fn_ok T.F__law_shape sc__law_shape hio__law_shape fun cdv B outer s H E hr => ?_
    exact ((ss_cons (ss_set (i := 3) (se_list rfl T.n_list (sh_var 2 (pv 2))) rfl sc__law_shape.nd rfl (by first | exact Or.inl rfl | exact Or.inr rfl) rfl)
    (ss_cons (ss_for (passes_of rfl) rfl (si_range1 rfl T.n_range (sh_val (se_sub (sh_val (se_len rfl T.n_len (sh_var 2 (pv 2)))) (sh_val se_int)))) (sg_name 4 rfl (pg_name sc__law_shape.nd rfl (by first | exact Or.inl rfl | exact Or.inr rfl)))
    (ss_cons (ss_set (i := 5) (se_shr (se_call (ok__law_pick T) (hr.mono (by decide)) rfl T.m__law_pick T.F__law_pick.kp T.b__law_pick (takes_of rfl rfl rfl rfl) (sa_cons (sh_var 0 (pv 0)) (sa_cons (sh_val (se_add (sh_var 1 (pv 1)) (sh_val (se_mul (sh_val se_int) (sh_var 4 (pv 4)))))) (sa_cons (sh_val (se_sub (sh_val (se_len rfl T.n_len (sh_var 3 (pv 3)))) (sh_val se_int))) sa_nil))) (many_cons (many_cons (many_cons many_nil))))) rfl sc__law_shape.nd rfl (by first | exact Or.inl rfl | exact Or.inr rfl) rfl)
    (ss_cons (ss_set (i := 6) (se_shr (se_lm (i := 3) PySem.F.slot_list_pop PySem.F.type_list_pop mt_popAt lm_popAt (pv 3) (sa_cons (sh_val (se_add (sh_var 5 (pv 5)) (sh_val se_int))) sa_nil))) rfl sc__law_shape.nd rfl (by first | exact Or.inl rfl | exact Or.inr rfl) rfl)
    (ss_cons (ss_set (i := 7) se_str rfl sc__law_shape.nd rfl (by first | exact Or.inl rfl | exact Or.inr rfl) rfl)
    (ss_cons (ss_if (st_eq (UR.of hr) (sh_val (se_call (ok__law_pick T) (hr.mono (by decide)) rfl T.m__law_pick T.F__law_pick.kp T.b__law_pick (takes_of rfl rfl rfl rfl) (sa_cons (sh_var 0 (pv 0)) (sa_cons (sh_val (se_add (sh_val (se_add (sh_var 1 (pv 1)) (sh_val (se_mul (sh_val se_int) (sh_var 4 (pv 4)))))) (sh_val se_int))) (sa_cons (sh_val se_int) sa_nil))) (many_cons (many_cons (many_cons many_nil))))) (sh_val se_int))
    (ss_one (ss_set (i := 7) se_str rfl sc__law_shape.nd rfl (by first | exact Or.inl rfl | exact Or.inr rfl) rfl))
    ss_nil)
    (ss_one (ss_setIx (i := 3) (pv 3) (se_tup (sa_cons (sh_var 7 (pv 7)) (sa_cons (sh_val (se_ix (UR.of hr) (sh_var 3 (pv 3)) (sh_var 5 (pv 5)))) (sa_cons (sh_var 6 (pv 6)) sa_nil)))) (sh_var 5 (pv 5)))))))))
    (ss_one (ss_ret (se_ix (UR.of hr) (sh_var 3 (pv 3)) (sh_val se_int)))))))
  exact z

end
end K78
set_option Elab.async false
set_option linter.all false
set_option maxRecDepth 100000
set_option maxHeartbeats 400000
namespace K78
open PySem L2 VS
section
variable {P : Program} {w : World} {K : PySem.W.Frag} {mg : Str → Option Value} {base : Heap} {A : Ad} {fu : Nat}
theorem sc__law_opposite : FnScope ["shape"] ["shape"] (defScope s__law_opposite) := ⟨rfl, rfl, rfl, by decide +kernel, rfl, by decide +kernel, by decide +kernel⟩
theorem hio__law_opposite : ([] : List Nat).Nodup ∧ ∀ i ∈ ([] : List Nat), i < (["shape"] : List Str).length := by decide
theorem ok__law_opposite (T : Txt P w K mg A) : ∀ n : Nat, FnOk P w K mg base (L2.CX P w) (1 + n) A.a__law_opposite A.f__law_opposite ["shape"] (spD ⟨K, P, w, A.ca, none⟩ 1 [] (den__law_opposite fu n))
  | 0 => ⟨fun vs H Q E h => h.1, fun _ _ _ _ _ _ _ _ _ _ _ _ _ h => h.2.elim fun _ h => h.elim fun _ h => h.elim fun _ h => h.2.2.2.2.elim⟩
  | n + 1 => by
    have ih := ok__law_opposite T n
    have z : FnOk P w K mg base (L2.CX P w) ((1 + n) + 1) A.a__law_opposite A.f__law_opposite ["shape"] (spD ⟨K, P, w, A.ca, none⟩ (["shape"] : List Str).length [] (runF (["shape"] : List Str).length [] (m__law_opposite fu (fun _ _ => den__law_opposite fu n) n))) := by
      refine fn_ok T.F__law_opposite sc__law_opposite hio__law_opposite fun cdv B outer s H E hr => ?_
      exact ((ss_cons (ss_if (st_eq (UR.of hr) (sh_val (se_ix (UR.of hr) (sh_var 0 (pv 0)) (sh_val se_int))) (sh_val se_str))
    (ss_one (ss_ret (se_tup (sa_cons (sh_val se_str) (sa_cons (sh_val (se_ix (UR.of hr) (sh_var 0 (pv 0)) (sh_val se_int))) (sa_cons (sh_val (se_not (se_ix (UR.of hr) (sh_var 0 (pv 0)) (sh_val se_int)))) sa_nil))))))
    ss_nil)
    (ss_cons (ss_if (st_eq (UR.of hr) (sh_val (se_ix (UR.of hr) (sh_var 0 (pv 0)) (sh_val se_int))) (sh_val se_str))
    (ss_one (ss_ret (se_tup (sa_cons (sh_val se_str) (sa_cons (sh_val (se_call ih (hr.mono (by omega)) rfl T.m__law_opposite T.F__law_opposite.kp T.b__law_opposite (takes_of rfl rfl rfl rfl) (sa_cons (sh_val (se_ix (UR.of hr) (sh_var 0 (pv 0)) (sh_val se_int))) sa_nil) (many_cons many_nil))) (sa_cons (sh_val (se_call ih (hr.mono (by omega)) rfl T.m__law_opposite T.F__law_opposite.kp T.b__law_opposite (takes_of rfl rfl rfl rfl) (sa_cons (sh_val (se_ix (UR.of hr) (sh_var 0 (pv 0)) (sh_val se_int))) sa_nil) (many_cons many_nil))) sa_nil))))))
    ss_nil)
    (ss_one (ss_ret (se_tup (sa_cons (sh_val se_str) (sa_cons (sh_val (se_call ih (hr.mono (by omega)) rfl T.m__law_opposite T.F__law_opposite.kp T.b__law_opposite (takes_of rfl rfl rfl rfl) (sa_cons (sh_val (se_ix (UR.of hr) (sh_var 0 (pv 0)) (sh_val se_int))) sa_nil) (many_cons many_nil))) (sa_cons (sh_val (se_call ih (hr.mono (by omega)) rfl T.m__law_opposite T.F__law_opposite.kp T.b__law_opposite (takes_of rfl rfl rfl rfl) (sa_cons (sh_val (se_ix (UR.of hr) (sh_var 0 (pv 0)) (sh_val se_int))) sa_nil) (many_cons many_nil))) sa_nil)))))))))
    exact z

end
end K78
set_option Elab.async false
set_option linter.all false
set_option maxRecDepth 100000
set_option maxHeartbeats 400000
namespace K78
open PySem L2 VS
section
variable {P : Program} {w : World} {K : PySem.W.Frag} {mg : Str → Option Value} {base : Heap} {A : Ad} {fu : Nat}
theorem sc__law_arrow : FnScope ["draws", "at", "names", "items", "k", "place", "right", "name"] ["draws", "at", "names"] (defScope s__law_arrow) := ⟨rfl, rfl, rfl, by decide +kernel, rfl, by decide +kernel, by decide +kernel⟩
theorem hio__law_arrow : ([] : List Nat).Nodup ∧ ∀ i ∈ ([] : List Nat), i < (["draws", "at", "names"] : List Str).length := by decide
theorem ok__law_arrow (T : Txt P w K mg A) : FnOk P w K mg base (L2.CX P w) 62 A.a__law_arrow A.f__law_arrow ["draws", "at", "names"] (spD ⟨K, P, w, A.ca, none⟩ 3 [] (den__law_arrow fu)) := by
  have z : FnOk P w K mg base (L2.CX P w) (61 + 1) A.a__law_arrow A.f__law_arrow ["draws", "at", "names"] (spD ⟨K, P, w, A.ca, none⟩ (["draws", "at", "names"] : List Str).length [] (runF (["draws", "at", "names", "items", "k", "place", "right", "name"] : List Str).length [] (m__law_arrow fu))) := by
    refine fn_ok T.F__law_arrow sc__law_arrow hio__law_arrow fun cdv B outer s H E hr => ?_
    exact ((ss_cons (ss_setLc (i := 3) rfl sc__law_arrow.nd rfl rfl rfl (sw_true rfl rfl rfl (by decide +kernel)) (si_of (sh_var 2 (pv 2))) (own := [("name", 7)]) (blkOk_by (N := ["draws", "at", "names", "items", "k", "place", "right", "name"]) (sc := defScope s__law_arrow) (by decide +kernel)) (fun s H C cl fp => (sg_name 7 rfl (pg_name sc__law_arrow.nd rfl (by first | exact Or.inl rfl | exact Or.inr rfl)))) (fun s H C cl fp => sts_nil) (fun s H C cl fp => (se_tup (sa_cons (sh_val se_str) (sa_cons (sh_var 7 (pv 7)) (sa_cons (sh_val se_bl) sa_nil))))))
    (ss_cons (ss_for (passes_of rfl) rfl (si_range1 rfl T.n_range (sh_val (se_sub (sh_val (se_len rfl T.n_len (sh_var 2 (pv 2)))) (sh_val se_int)))) (sg_name 4 rfl (pg_name sc__law_arrow.nd rfl (by first | exact Or.inl rfl | exact Or.inr rfl)))
    (ss_cons (ss_set (i := 5) (se_shr (se_call (ok__law_pick T) (hr.mono (by decide)) rfl T.m__law_pick T.F__law_pick.kp T.b__law_pick (takes_of rfl rfl rfl rfl) (sa_cons (sh_var 0 (pv 0)) (sa_cons (sh_val (se_add (sh_var 1 (pv 1)) (sh_var 4 (pv 4)))) (sa_cons (sh_val (se_sub (sh_val (se_len rfl T.n_len (sh_var 3 (pv 3)))) (sh_val se_int))) sa_nil))) (many_cons (many_cons (many_cons many_nil))))) rfl sc__law_arrow.nd rfl (by first | exact Or.inl rfl | exact Or.inr rfl) rfl)
    (ss_cons (ss_set (i := 6) (se_shr (se_lm (i := 3) PySem.F.slot_list_pop PySem.F.type_list_pop mt_popAt lm_popAt (pv 3) (sa_cons (sh_val (se_add (sh_var 5 (pv 5)) (sh_val se_int))) sa_nil))) rfl sc__law_arrow.nd rfl (by first | exact Or.inl rfl | exact Or.inr rfl) rfl)
    (ss_one (ss_setIx (i := 3) (pv 3) (se_tup (sa_cons (sh_val se_str) (sa_cons (sh_val (se_call (ok__law_opposite T 60) (hr.mono (by decide)) rfl T.m__law_opposite T.F__law_opposite.kp T.b__law_opposite (takes_of rfl rfl rfl rfl) (sa_cons (sh_val (se_ix (UR.of hr) (sh_var 3 (pv 3)) (sh_var 5 (pv 5)))) sa_nil) (many_cons many_nil))) (sa_cons (sh_var 6 (pv 6)) sa_nil)))) (sh_var 5 (pv 5)))))))
    (ss_one (ss_ret (se_ix (UR.of hr) (sh_var 3 (pv 3)) (sh_val se_int)))))))
  exact z

end
end K78
set_option Elab.async false
set_option linter.all false
set_option maxRecDepth 100000
set_option maxHeartbeats 400000
namespace K78
open PySem L2 VS
section
variable {P : Program} {w : World} {K : PySem.W.Frag} {mg : Str → Option Value} {base : Heap} {A : Ad} {fu : Nat}
theorem sc__law_changed : FnScope ["shape", "place"] ["shape", "place"] (defScope s__law_changed) := ⟨rfl, rfl, rfl, by decide +kernel, rfl, by decide +kernel, by decide +kernel⟩
theorem hio__law_changed : ([] : List Nat).Nodup ∧ ∀ i ∈ ([] : List Nat), i < (["shape", "place"] : List Str).length := by decide
theorem ok__law_changed (T : Txt P w K mg A) : ∀ n : Nat, FnOk P w K mg base (L2.CX P w) (1 + n) A.a__law_changed A.f__law_changed ["shape", "place"] (spD ⟨K, P, w, A.ca, none⟩ 2 [] (den__law_changed fu n))
  | 0 => ⟨fun vs H Q E h => h.1, fun _ _ _ _ _ _ _ _ _ _ _ _ _ h => h.2.elim fun _ h => h.elim fun _ h => h.elim fun _ h => h.2.2.2.2.elim⟩
  | n + 1 => by
    have ih := ok__law_changed T n
    have z : FnOk P w K mg base (L2.CX P w) ((1 + n) + 1) A.a__law_changed A.f__law_changed ["shape", "place"] (spD ⟨K, P, w, A.ca, none⟩ (["shape", "place"] : List Str).length [] (runF (["shape", "place"] : List Str).length [] (m__law_changed fu (fun _ _ => den__law_changed fu n) n))) := by
      refine fn_ok T.F__law_changed sc__law_changed hio__law_changed fun cdv B outer s H E hr => ?_
      exact ((ss_cons (ss_if (st_eq (UR.of hr) (sh_val (se_ix (UR.of hr) (sh_var 0 (pv 0)) (sh_val se_int))) (sh_val se_str))
    (ss_one (ss_ret (se_tup (sa_cons (sh_val se_str) (sa_cons (sh_val (se_ix (UR.of hr) (sh_var 0 (pv 0)) (sh_val se_int))) (sa_cons (sh_val (se_not (se_ix (UR.of hr) (sh_var 0 (pv 0)) (sh_val se_int)))) sa_nil))))))
    ss_nil)
    (ss_cons (ss_if (st_w (sw_and (st_eq (UR.of hr) (sh_val (se_mod (sh_val (se_toInt rfl T.n_int (sh_var 1 (pv 1)))) (sh_val se_int))) (sh_val se_int)) (sw_and1 (st_eq (UR.of hr) (sh_val (se_ix (UR.of hr) (sh_var 0 (pv 0)) (sh_val se_int))) (sh_val se_str)))))
    (ss_one (ss_ret (se_tup (sa_cons (sh_val se_str) (sa_cons (sh_val (se_ix (UR.of hr) (sh_var 0 (pv 0)) (sh_val se_int))) (sa_cons (sh_val (se_ix (UR.of hr) (sh_var 0 (pv 0)) (sh_val se_int))) sa_nil))))))
    ss_nil)
    (ss_cons (ss_if (st_eq (UR.of hr) (sh_val (se_mod (sh_val (se_toInt rfl T.n_int (sh_var 1 (pv 1)))) (sh_val se_int))) (sh_val se_int))
    (ss_one (ss_ret (se_tup (sa_cons (sh_val se_str) (sa_cons (sh_val (se_ix (UR.of hr) (sh_var 0 (pv 0)) (sh_val se_int))) (sa_cons (sh_val (se_ix (UR.of hr) (sh_var 0 (pv 0)) (sh_val se_int))) sa_nil))))))
    ss_nil)
    (ss_cons (ss_if (st_eq (UR.of hr) (sh_val (se_mod (sh_val (se_toInt rfl T.n_int (sh_var 1 (pv 1)))) (sh_val se_int))) (sh_val se_int))
    (ss_one (ss_ret (se_tup (sa_cons (sh_val (se_ix (UR.of hr) (sh_var 0 (pv 0)) (sh_val se_int))) (sa_cons (sh_val (se_call ih (hr.mono (by omega)) rfl T.m__law_changed T.F__law_changed.kp T.b__law_changed (takes_of rfl rfl rfl rfl) (sa_cons (sh_val (se_ix (UR.of hr) (sh_var 0 (pv 0)) (sh_val se_int))) (sa_cons (sh_val (se_fdiv (sh_var 1 (pv 1)) (sh_val se_int))) sa_nil)) (many_cons (many_cons many_nil)))) (sa_cons (sh_val (se_ix (UR.of hr) (sh_var 0 (pv 0)) (sh_val se_int))) sa_nil))))))
    ss_nil)
    (ss_one (ss_ret (se_tup (sa_cons (sh_val (se_ix (UR.of hr) (sh_var 0 (pv 0)) (sh_val se_int))) (sa_cons (sh_val (se_ix (UR.of hr) (sh_var 0 (pv 0)) (sh_val se_int))) (sa_cons (sh_val (se_call ih (hr.mono (by omega)) rfl T.m__law_changed T.F__law_changed.kp T.b__law_changed (takes_of rfl rfl rfl rfl) (sa_cons (sh_val (se_ix (UR.of hr) (sh_var 0 (pv 0)) (sh_val se_int))) (sa_cons (sh_val (se_fdiv (sh_var 1 (pv 1)) (sh_val se_int))) sa_nil)) (many_cons (many_cons many_nil)))) sa_nil)))))))))))
    exact z

end
end K78
set_option Elab.async false
set_option linter.all false
set_option maxRecDepth 100000
set_option maxHeartbeats 400000
namespace K78
open PySem L2 VS
section
variable {P : Program} {w : World} {K : PySem.W.Frag} {mg : Str → Option Value} {base : Heap} {A : Ad} {fu : Nat}
theorem sc__law_due_arrow : FnScope ["shape", "positive"] ["shape", "positive"] (defScope s__law_due_arrow) := ⟨rfl, rfl, rfl, by decide +kernel, rfl, by decide +kernel, by decide +kernel⟩
theorem hio__law_due_arrow : ([] : List Nat).Nodup ∧ ∀ i ∈ ([] : List Nat), i < (["shape", "positive"] : List Str).length := by decide
theorem ok__law_due_arrow (T : Txt P w K mg A) : ∀ n : Nat, FnOk P w K mg base (L2.CX P w) (1 + n) A.a__law_due_arrow A.f__law_due_arrow ["shape", "positive"] (spD ⟨K, P, w, A.ca, none⟩ 2 [] (den__law_due_arrow fu n))
  | 0 => ⟨fun vs H Q E h => h.1, fun _ _ _ _ _ _ _ _ _ _ _ _ _ h => h.2.elim fun _ h => h.elim fun _ h => h.elim fun _ h => h.2.2.2.2.elim⟩
  | n + 1 => by
    have ih := ok__law_due_arrow T n
    have z : FnOk P w K mg base (L2.CX P w) ((1 + n) + 1) A.a__law_due_arrow A.f__law_due_arrow ["shape", "positive"] (spD ⟨K, P, w, A.ca, none⟩ (["shape", "positive"] : List Str).length [] (runF (["shape", "positive"] : List Str).length [] (m__law_due_arrow fu (fun _ _ => den__law_due_arrow fu n) n))) := by
      refine fn_ok T.F__law_due_arrow sc__law_due_arrow hio__law_due_arrow fun cdv B outer s H E hr => ?_
      exact ((ss_cons (ss_if (st_eq (UR.of hr) (sh_val (se_ix (UR.of hr) (sh_var 0 (pv 0)) (sh_val se_int))) (sh_val se_str))
    (ss_one (ss_ret (se_eq (UR.of hr) (sh_val (se_ix (UR.of hr) (sh_var 0 (pv 0)) (sh_val se_int))) (sh_var 1 (pv 1)))))
    ss_nil)
    (ss_cons (ss_if (st_ne (UR.of hr) (sh_val (se_eq (UR.of hr) (sh_val (se_ix (UR.of hr) (sh_var 0 (pv 0)) (sh_val se_int))) (sh_val se_str))) (sh_var 1 (pv 1)))
    (ss_one (ss_ret se_bl))
    ss_nil)
    (ss_one (ss_ret (se_and (se_call ih (hr.mono (by omega)) rfl T.m__law_due_arrow T.F__law_due_arrow.kp T.b__law_due_arrow (takes_of rfl rfl rfl rfl) (sa_cons (sh_val (se_ix (UR.of hr) (sh_var 0 (pv 0)) (sh_val se_int))) (sa_cons (sh_val (se_not (se_take (sh_var 1 (pv 1))))) sa_nil)) (many_cons (many_cons many_nil))) (se_one (se_call ih (hr.mono (by omega)) rfl T.m__law_due_arrow T.F__law_due_arrow.kp T.b__law_due_arrow (takes_of rfl rfl rfl rfl) (sa_cons (sh_val (se_ix (UR.of hr) (sh_var 0 (pv 0)) (sh_val se_int))) (sa_cons (sh_var 1 (pv 1)) sa_nil)) (many_cons (many_cons many_nil))))))))))
    exact z

end
end K78
set_option Elab.async false
set_option linter.all false
set_option maxRecDepth 100000
set_option maxHeartbeats 400000
namespace K78
open PySem L2 VS
section
variable {P : Program} {w : World} {K : PySem.W.Frag} {mg : Str → Option Value} {base : Heap} {A : Ad} {fu : Nat}
theorem sc__law_spoilt : FnScope ["extra", "names", "menu"] ["extra", "names"] (defScope s__law_spoilt) := ⟨rfl, rfl, rfl, by decide +kernel, rfl, by decide +kernel, by decide +kernel⟩
theorem hio__law_spoilt : ([1] : List Nat).Nodup ∧ ∀ i ∈ ([1] : List Nat), i < (["extra", "names"] : List Str).length := by decide
theorem ok__law_spoilt (T : Txt P w K mg A) : FnOk P w K mg base (L2.CX P w) 2 A.a__law_spoilt A.f__law_spoilt ["extra", "names"] (spD ⟨K, P, w, A.ca, none⟩ 2 [1] (den__law_spoilt fu)) := by
  have z : FnOk P w K mg base (L2.CX P w) (1 + 1) A.a__law_spoilt A.f__law_spoilt ["extra", "names"] (spD ⟨K, P, w, A.ca, none⟩ (["extra", "names"] : List Str).length [1] (runF (["extra", "names", "menu"] : List Str).length [1] (m__law_spoilt fu))) := by
    refine fn_ok T.F__law_spoilt sc__law_spoilt hio__law_spoilt fun cdv B outer s H E hr => ?_
    exact ((ss_cons (ss_set (i := 2) (se_shr (se_lst (sa_cons (sh_val se_str) (sa_cons (sh_val se_str) (sa_cons (sh_val se_str) (sa_cons (sh_val se_str) (sa_cons (sh_val se_str) (sa_cons (sh_val se_str) (sa_cons (sh_val se_str) (sa_cons (sh_val se_str) (sa_cons (sh_val se_str) (sa_cons (sh_val se_str) (sa_cons (sh_val se_str) (sa_cons (sh_val se_str) sa_nil)))))))))))))) rfl sc__law_spoilt.nd rfl (by first | exact Or.inl rfl | exact Or.inr rfl) rfl)
    (ss_one (ss_setIx (i := 1) (pv 1) (se_ix (UR.of hr) (sh_var 2 (pv 2)) (sh_val (se_call (ok__law_pick T) (hr.mono (by decide)) rfl T.m__law_pick T.F__law_pick.kp T.b__law_pick (takes_of rfl rfl rfl rfl) (sa_cons (sh_var 0 (pv 0)) (sa_cons (sh_val se_int) (sa_cons (sh_val se_int) sa_nil))) (many_cons (many_cons (many_cons many_nil)))))) (sh_val (se_call (ok__law_pick T) (hr.mono (by decide)) rfl T.m__law_pick T.F__law_pick.kp T.b__law_pick (takes_of rfl rfl rfl rfl) (sa_cons (sh_var 0 (pv 0)) (sa_cons (sh_val se_int) (sa_cons (sh_val (se_len rfl T.n_len (sh_var 1 (pv 1)))) sa_nil))) (many_cons (many_cons (many_cons many_nil)))))))))
  exact z

end
end K78
set_option Elab.async false
set_option linter.all false
set_option maxRecDepth 100000
set_option maxHeartbeats 400000
namespace K78
open PySem L2 VS
section
variable {P : Program} {w : World} {K : PySem.W.Frag} {mg : Str → Option Value} {base : Heap} {A : Ad} {fu : Nat}
theorem sc__law_bad : FnScope ["name", "char"] ["name"] (defScope s__law_bad) := ⟨rfl, rfl, rfl, by decide +kernel, rfl, by decide +kernel, by decide +kernel⟩
theorem hio__law_bad : ([] : List Nat).Nodup ∧ ∀ i ∈ ([] : List Nat), i < (["name"] : List Str).length := by decide
theorem ok__law_bad (T : Txt P w K mg A) : FnOk P w K mg base (L2.CX P w) 1 A.a__law_bad A.f__law_bad ["name"] (spD ⟨K, P, w, A.ca, none⟩ 1 [] (den__law_bad fu)) := by
  have z : FnOk P w K mg base (L2.CX P w) (0 + 1) A.a__law_bad A.f__law_bad ["name"] (spD ⟨K, P, w, A.ca, none⟩ (["name"] : List Str).length [] (runF (["name", "char"] : List Str).length [] (m__law_bad fu))) := by
    refine fn_ok T.F__law_bad sc__law_bad hio__law_bad fun cdv B outer s H E hr => ?_
    exact ((ss_cons (ss_if (st_w (sw_or (st_lt (sh_val (se_len rfl T.n_len (sh_var 0 (pv 0)))) (sh_val se_int)) (sw_or1 (st_gt (sh_val (se_len rfl T.n_len (sh_var 0 (pv 0)))) (sh_val se_int)))))
    (ss_one (ss_ret se_bl))
    ss_nil)
    (ss_cons (ss_for (passes_of rfl) rfl (si_of (sh_var 0 (pv 0))) (sg_name 1 rfl (pg_name sc__law_bad.nd rfl (by first | exact Or.inl rfl | exact Or.inr rfl)))
    (ss_one (ss_if (st_notIn (UR.of hr) (sh_var 1 (pv 1)) (sh_val se_str))
    (ss_one (ss_ret se_bl))
    ss_nil)))
    (ss_one (ss_ret se_bl)))))
  exact z

end
end K78
set_option Elab.async false
set_option linter.all false
set_option maxRecDepth 100000
set_option maxHeartbeats 400000
namespace K78
open PySem L2 VS
section
variable {P : Program} {w : World} {K : PySem.W.Frag} {mg : Str → Option Value} {base : Heap} {A : Ad} {fu : Nat}
theorem sc__law_fault : FnScope ["shape", "letters", "name", "positive"] ["shape"] (defScope s__law_fault) := ⟨rfl, rfl, rfl, by decide +kernel, rfl, by decide +kernel, by decide +kernel⟩
theorem hio__law_fault : ([] : List Nat).Nodup ∧ ∀ i ∈ ([] : List Nat), i < (["shape"] : List Str).length := by decide
theorem ok__law_fault (T : Txt P w K mg A) : FnOk P w K mg base (L2.CX P w) 62 A.a__law_fault A.f__law_fault ["shape"] (spD ⟨K, P, w, A.ca, none⟩ 1 [] (den__law_fault fu)) := by
  have z : FnOk P w K mg base (L2.CX P w) (61 + 1) A.a__law_fault A.f__law_fault ["shape"] (spD ⟨K, P, w, A.ca, none⟩ (["shape"] : List Str).length [] (runF (["shape", "letters", "name", "positive"] : List Str).length [] (m__law_fault fu))) := by
    refine fn_ok T.F__law_fault sc__law_fault hio__law_fault fun cdv B outer s H E hr => ?_
    exact ((ss_cons (ss_set (i := 1) (se_shr (se_call (ok__law_letters T 60) (hr.mono (by decide)) rfl T.m__law_letters T.F__law_letters.kp T.b__law_letters (takes_of rfl rfl rfl rfl) (sa_cons (sh_var 0 (pv 0)) sa_nil) (many_cons many_nil))) rfl sc__law_fault.nd rfl (by first | exact Or.inl rfl | exact Or.inr rfl) rfl)
    (ss_cons (ss_if (st_gt (sh_val (se_len rfl T.n_len (sh_var 1 (pv 1)))) (sh_val se_int))
    (ss_one (ss_ret (se_tup (sa_cons (sh_val se_str) (sa_cons (sh_val se_int) sa_nil)))))
    ss_nil)
    (ss_cons (ss_for (passes_of rfl) rfl (si_of (sh_var 1 (pv 1))) (sg_tup rfl (sgs_cons (sg_name 2 rfl (pg_name sc__law_fault.nd rfl (by first | exact Or.inl rfl | exact Or.inr rfl))) (sgs_cons (sg_name 3 rfl (pg_name sc__law_fault.nd rfl (by first | exact Or.inl rfl | exact Or.inr rfl))) sgs_nil)))
    (ss_one (ss_if (st_tru (sh_val (se_call (ok__law_bad T) (hr.mono (by decide)) rfl T.m__law_bad T.F__law_bad.kp T.b__law_bad (takes_of rfl rfl rfl rfl) (sa_cons (sh_var 2 (pv 2)) sa_nil) (many_cons many_nil))))
    (ss_one (ss_ret (se_tup (sa_cons (sh_val se_str) (sa_cons (sh_var 2 (pv 2)) sa_nil)))))
    ss_nil)))
    (ss_one (ss_ret se_non))))))
  exact z

end
end K78
set_option Elab.async false
set_option linter.all false
set_option maxRecDepth 100000
set_option maxHeartbeats 400000
namespace K78
open PySem L2 VS
section
variable {P : Program} {w : World} {K : PySem.W.Frag} {mg : Str → Option Value} {base : Heap} {A : Ad} {fu : Nat}
theorem sc__law_made : FnScope ["one", "other", "deed", "e", "found"] ["one", "other", "deed"] (defScope s__law_made) := ⟨rfl, rfl, rfl, by decide +kernel, rfl, by decide +kernel, by decide +kernel⟩
theorem hio__law_made : ([] : List Nat).Nodup ∧ ∀ i ∈ ([] : List Nat), i < (["one", "other", "deed"] : List Str).length := by decide
theorem ok__law_made (T : Txt P w K mg A) : FnOk P w K mg base (L2.CX P w) 63 A.a__law_made A.f__law_made ["one", "other", "deed"] (spD ⟨K, P, w, A.ca, none⟩ 3 [] (den__law_made fu)) := by
  have z : FnOk P w K mg base (L2.CX P w) (62 + 1) A.a__law_made A.f__law_made ["one", "other", "deed"] (spD ⟨K, P, w, A.ca, none⟩ (["one", "other", "deed"] : List Str).length [] (runF (["one", "other", "deed", "e", "found"] : List Str).length [] (m__law_made fu))) := by
    refine fn_ok T.F__law_made sc__law_made hio__law_made fun cdv B outer s H E hr => ?_
    exact ((ss_one (ss_try_as (i := 3) rfl rfl sc__law_made.nd rfl rfl ⟨rfl, by decide, Or.inl T.m_ComesapartError⟩ (takes_of rfl rfl rfl rfl) rfl rfl T.ct_ComesapartError
    (fun W pn xe tk hp => (ss_cons (ss_if (st_eq (UR.of hr) (sh_var 2 (pv 2)) (sh_val se_int))
    (ss_one (ss_ret (se_fld (sh_val (se_make T.mk_Kind rfl ((ok_Kinddd_initdd T)) (hr.mono (by decide)) rfl T.m_Kind T.b_Kinddd_initdd tk (sa_cons (sh_var 0 (pv 0)) sa_nil) (many_cons many_nil))) T.fld_shape)))
    ss_nil)
    (ss_cons (ss_if (st_eq (UR.of hr) (sh_var 2 (pv 2)) (sh_val se_int))
    (ss_one (ss_ret (se_fld (sh_val (se_own2 (c := "Kind") T.o_Kinddd_anddd (ok_Kinddd_anddd T) (hr.mono (by decide)) T.b_Kinddd_anddd tk (sh_val (se_make T.mk_Kind rfl ((ok_Kinddd_initdd T)) (hr.mono (by decide)) rfl T.m_Kind T.b_Kinddd_initdd tk (sa_cons (sh_var 0 (pv 0)) sa_nil) (many_cons many_nil))) (sh_val (se_make T.mk_Kind rfl ((ok_Kinddd_initdd T)) (hr.mono (by decide)) rfl T.m_Kind T.b_Kinddd_initdd tk (sa_cons (sh_var 1 (pv 1)) sa_nil) (many_cons many_nil))))) T.fld_shape)))
    ss_nil)
    (ss_cons (ss_if (st_eq (UR.of hr) (sh_var 2 (pv 2)) (sh_val se_int))
    (ss_one (ss_ret (se_fld (sh_val (se_own2 (c := "Kind") T.o_Kinddd_ordd (ok_Kinddd_ordd T) (hr.mono (by decide)) T.b_Kinddd_ordd tk (sh_val (se_make T.mk_Kind rfl ((ok_Kinddd_initdd T)) (hr.mono (by decide)) rfl T.m_Kind T.b_Kinddd_initdd tk (sa_cons (sh_var 0 (pv 0)) sa_nil) (many_cons many_nil))) (sh_val (se_make T.mk_Kind rfl ((ok_Kinddd_initdd T)) (hr.mono (by decide)) rfl T.m_Kind T.b_Kinddd_initdd tk (sa_cons (sh_var 1 (pv 1)) sa_nil) (many_cons many_nil))))) T.fld_shape)))
    ss_nil)
    (ss_cons (ss_if (st_eq (UR.of hr) (sh_var 2 (pv 2)) (sh_val se_int))
    (ss_one (ss_ret (se_fld (sh_val (se_own2 (c := "Kind") T.o_Kinddd_rshiftdd (ok_Kinddd_rshiftdd T) (hr.mono (by decide)) T.b_Kinddd_rshiftdd tk (sh_val (se_make T.mk_Kind rfl ((ok_Kinddd_initdd T)) (hr.mono (by decide)) rfl T.m_Kind T.b_Kinddd_initdd tk (sa_cons (sh_var 0 (pv 0)) sa_nil) (many_cons many_nil))) (sh_val (se_make T.mk_Kind rfl ((ok_Kinddd_initdd T)) (hr.mono (by decide)) rfl T.m_Kind T.b_Kinddd_initdd tk (sa_cons (sh_var 1 (pv 1)) sa_nil) (many_cons many_nil))))) T.fld_shape)))
    ss_nil)
    (ss_one (ss_ret (se_fld (sh_val (se_cmeth (c := "Kind") rfl T.m_Kind T.cr_Kind T.cm_Kind_letter (ok_Kind_letter T) (hr.mono (by decide)) T.b_Kind_letter tk (sa_cons (sh_var 0 (pv 0)) sa_nil) (many_cons many_nil))) T.fld_shape))))))))
    (fun a oe c d pn hz hf => (ss_cons (ss_set (i := 4) (se_lst sa_nil) rfl sc__law_made.nd rfl (by first | exact Or.inl rfl | exact Or.inr rfl) rfl)
    (ss_cons (ss_if (st_tru (sh_val (se_isE (i := 3) hz hf T.ie_TooLarge (pv 3) (pe_glob (v := .ref A.c_TooLarge) rfl T.m_TooLarge rfl) (fun _ r => r) rfl T.n_isinstance)))
    (ss_one (ss_expr (se_lm (i := 4) PySem.F.slot_list_append PySem.F.type_list_append mt_append lm_append (pv 4) (sa_cons (sh_val (se_tup (sa_cons (sh_val se_str) (sa_cons (sh_val (se_exF (i := 3) hz hf T.xf_limit (pv 3))) sa_nil)))) sa_nil))))
    ss_nil)
    (ss_cons (ss_if (st_tru (sh_val (se_isE (i := 3) hz hf T.ie_BadName (pv 3) (pe_glob (v := .ref A.c_BadName) rfl T.m_BadName rfl) (fun _ r => r) rfl T.n_isinstance)))
    (ss_one (ss_expr (se_lm (i := 4) PySem.F.slot_list_append PySem.F.type_list_append mt_append lm_append (pv 4) (sa_cons (sh_val (se_tup (sa_cons (sh_val se_str) (sa_cons (sh_val (se_exF (i := 3) hz hf T.xf_name (pv 3))) sa_nil)))) sa_nil))))
    ss_nil)
    (ss_cons (ss_if (st_w (sw_or (st_ne ((UR.of hr).mark _) (sh_val (se_len rfl T.n_len (sh_var 4 (pv 4)))) (sh_val se_int)) (sw_or1 (st_not (st_tru (sh_val (se_isE (i := 3) hz hf T.ie_ValueError (pv 3) (pe_bltn (v := .ty "ValueError") rfl T.n_ValueError (by first | rfl | kernel_rfl) rfl) (fun _ r => r) rfl T.n_isinstance)))))))
    (ss_one (ss_ret (se_tup (sa_cons (sh_val se_str) sa_nil))))
    ss_nil)
    (ss_one (ss_ret (se_ix ((UR.of hr).mark _) (sh_var 4 (pv 4)) (sh_val se_int))))))))))))
  exact z

end
end K78
set_option Elab.async false
set_option linter.all false
set_option maxRecDepth 100000
set_option maxHeartbeats 400000
namespace K78
open PySem L2 VS
section
variable {P : Program} {w : World} {K : PySem.W.Frag} {mg : Str → Option Value} {base : Heap} {A : Ad} {fu : Nat}
theorem sc__law_due : FnScope ["one", "other", "deed", "due"] ["one", "other", "deed"] (defScope s__law_due) := ⟨rfl, rfl, rfl, by decide +kernel, rfl, by decide +kernel, by decide +kernel⟩
theorem hio__law_due : ([] : List Nat).Nodup ∧ ∀ i ∈ ([] : List Nat), i < (["one", "other", "deed"] : List Str).length := by decide
theorem ok__law_due (T : Txt P w K mg A) : FnOk P w K mg base (L2.CX P w) 62 A.a__law_due A.f__law_due ["one", "other", "deed"] (spD ⟨K, P, w, A.ca, none⟩ 3 [] (den__law_due fu)) := by
  have z : FnOk P w K mg base (L2.CX P w) (61 + 1) A.a__law_due A.f__law_due ["one", "other", "deed"] (spD ⟨K, P, w, A.ca, none⟩ (["one", "other", "deed"] : List Str).length [] (runF (["one", "other", "deed", "due"] : List Str).length [] (m__law_due fu))) := by
    refine fn_ok T.F__law_due sc__law_due hio__law_due fun cdv B outer s H E hr => ?_
    exact ((ss_cons (ss_set (i := 3) (se_share 0 (pv 0)) rfl sc__law_due.nd rfl (by first | exact Or.inl rfl | exact Or.inr rfl) rfl)
    (ss_cons (ss_if (st_eq (UR.of hr) (sh_var 2 (pv 2)) (sh_val se_int))
    (ss_one (ss_set (i := 3) (se_shr (se_tup (sa_cons (sh_val se_str) (sa_cons (sh_var 0 (pv 0)) (sa_cons (sh_var 1 (pv 1)) sa_nil))))) rfl sc__law_due.nd rfl (by first | exact Or.inl rfl | exact Or.inr rfl) rfl))
    ss_nil)
    (ss_cons (ss_if (st_eq (UR.of hr) (sh_var 2 (pv 2)) (sh_val se_int))
    (ss_one (ss_set (i := 3) (se_shr (se_tup (sa_cons (sh_val se_str) (sa_cons (sh_var 0 (pv 0)) (sa_cons (sh_var 1 (pv 1)) sa_nil))))) rfl sc__law_due.nd rfl (by first | exact Or.inl rfl | exact Or.inr rfl) rfl))
    ss_nil)
    (ss_cons (ss_if (st_eq (UR.of hr) (sh_var 2 (pv 2)) (sh_val se_int))
    (ss_one (ss_set (i := 3) (se_shr (se_tup (sa_cons (sh_val se_str) (sa_cons (sh_val (se_call (ok__law_opposite T 60) (hr.mono (by decide)) rfl T.m__law_opposite T.F__law_opposite.kp T.b__law_opposite (takes_of rfl rfl rfl rfl) (sa_cons (sh_var 0 (pv 0)) sa_nil) (many_cons many_nil))) (sa_cons (sh_var 1 (pv 1)) sa_nil))))) rfl sc__law_due.nd rfl (by first | exact Or.inl rfl | exact Or.inr rfl) rfl))
    ss_nil)
    (ss_cons (ss_if (st_gt (sh_val (se_len rfl T.n_len (sh_val (se_call (ok__law_letters T 60) (hr.mono (by decide)) rfl T.m__law_letters T.F__law_letters.kp T.b__law_letters (takes_of rfl rfl rfl rfl) (sa_cons (sh_var 3 (pv 3)) sa_nil) (many_cons many_nil))))) (sh_val se_int))
    (ss_one (ss_ret (se_tup (sa_cons (sh_val se_str) (sa_cons (sh_val se_int) sa_nil)))))
    ss_nil)
    (ss_one (ss_ret (se_move 3 (pv 3))))))))))
  exact z

end
end K78
set_option Elab.async false
set_option linter.all false
set_option maxRecDepth 100000
set_option maxHeartbeats 400000
namespace K78
open PySem L2 VS
section
variable {P : Program} {w : World} {K : PySem.W.Frag} {mg : Str → Option Value} {base : Heap} {A : Ad} {fu : Nat}
theorem sc__law_fields : FnScope ["kind", "shape", "letter", "answer"] ["kind", "shape"] (defScope s__law_fields) := ⟨rfl, rfl, rfl, by decide +kernel, rfl, by decide +kernel, by decide +kernel⟩
theorem hio__law_fields : ([] : List Nat).Nodup ∧ ∀ i ∈ ([] : List Nat), i < (["kind", "shape"] : List Str).length := by decide
theorem ok__law_fields (T : Txt P w K mg A) : FnOk P w K mg base (L2.CX P w) 63 A.a__law_fields A.f__law_fields ["kind", "shape"] (spD ⟨K, P, w, A.ca, none⟩ 2 [] (den__law_fields fu)) := by
  have z : FnOk P w K mg base (L2.CX P w) (62 + 1) A.a__law_fields A.f__law_fields ["kind", "shape"] (spD ⟨K, P, w, A.ca, none⟩ (["kind", "shape"] : List Str).length [] (runF (["kind", "shape", "letter", "answer"] : List Str).length [] (m__law_fields fu))) := by
    refine fn_ok T.F__law_fields sc__law_fields hio__law_fields fun cdv B outer s H E hr => ?_
    exact ((ss_cons (ss_if (st_w (sw_or (st_not (st_tru (sh_val (se_isi (sh_val (se_fld (sh_var 0 (pv 0)) T.fld_shape)) rfl (.ty "tuple") T.is_tuple (pe_bltn (v := .ty "tuple") rfl T.n_tuple (by first | rfl | kernel_rfl) rfl) rfl T.n_isinstance)))) (sw_or1 (st_ne (UR.of hr) (sh_val (se_fld (sh_var 0 (pv 0)) T.fld_shape)) (sh_var 1 (pv 1))))))
    (ss_one (ss_ret se_bl))
    ss_nil)
    (ss_cons (ss_if (st_w (sw_or (st_not (st_tru (sh_val (se_isi (sh_val (se_prop (c := "Kind") T.pc_Kind_letters T.pr_Kind_letters (ok_Kind_letters T) (hr.mono (by decide)) T.b_Kind_letters (sh_var 0 (pv 0)))) rfl (.ty "tuple") T.is_tuple (pe_bltn (v := .ty "tuple") rfl T.n_tuple (by first | rfl | kernel_rfl) rfl) rfl T.n_isinstance)))) (sw_or1 (st_ne (UR.of hr) (sh_val (se_list rfl T.n_list (sh_val (se_prop (c := "Kind") T.pc_Kind_letters T.pr_Kind_letters (ok_Kind_letters T) (hr.mono (by decide)) T.b_Kind_letters (sh_var 0 (pv 0)))))) (sh_val (se_call (ok__law_letters T 60) (hr.mono (by decide)) rfl T.m__law_letters T.F__law_letters.kp T.b__law_letters (takes_of rfl rfl rfl rfl) (sa_cons (sh_var 1 (pv 1)) sa_nil) (many_cons many_nil)))))))
    (ss_one (ss_ret se_bl))
    ss_nil)
    (ss_cons (ss_for (passes_of rfl) rfl (si_of (sh_val (se_prop (c := "Kind") T.pc_Kind_letters T.pr_Kind_letters (ok_Kind_letters T) (hr.mono (by decide)) T.b_Kind_letters (sh_var 0 (pv 0))))) (sg_name 2 rfl (pg_name sc__law_fields.nd rfl (by first | exact Or.inl rfl | exact Or.inr rfl)))
    (ss_one (ss_if (st_w (sw_or (st_not (st_tru (sh_val (se_isi (sh_var 2 (pv 2)) rfl (.ty "tuple") T.is_tuple (pe_bltn (v := .ty "tuple") rfl T.n_tuple (by first | rfl | kernel_rfl) rfl) rfl T.n_isinstance)))) (sw_or1 (st_not (st_tru (sh_val (se_isi (sh_val (se_ix (UR.of hr) (sh_var 2 (pv 2)) (sh_val se_int))) rfl (.ty "bool") T.is_bool (pe_bltn (v := .ty "bool") rfl T.n_bool (by first | rfl | kernel_rfl) rfl) rfl T.n_isinstance)))))))
    (ss_one (ss_ret se_bl))
    ss_nil)))
    (ss_cons (ss_set (i := 3) (se_shr (se_call (ok_is_arrow T) (hr.mono (by decide)) rfl T.m_is_arrow T.F_is_arrow.kp T.b_is_arrow (takes_of rfl rfl rfl rfl) (sa_cons (sh_var 0 (pv 0)) sa_nil) (many_cons many_nil))) rfl sc__law_fields.nd rfl (by first | exact Or.inl rfl | exact Or.inr rfl) rfl)
    (ss_one (ss_ret (se_and (se_isi (sh_var 3 (pv 3)) rfl (.ty "bool") T.is_bool (pe_bltn (v := .ty "bool") rfl T.n_bool (by first | rfl | kernel_rfl) rfl) rfl T.n_isinstance) (se_one (se_eq (UR.of hr) (sh_var 3 (pv 3)) (sh_val (se_call (ok__law_due_arrow T 60) (hr.mono (by decide)) rfl T.m__law_due_arrow T.F__law_due_arrow.kp T.b__law_due_arrow (takes_of rfl rfl rfl rfl) (sa_cons (sh_var 1 (pv 1)) (sa_cons (sh_val se_bl) sa_nil)) (many_cons (many_cons many_nil))))))))))))))
  exact z

end
end K78
set_option Elab.async false
set_option linter.all false
set_option maxRecDepth 100000
set_option maxHeartbeats 400000
namespace K78
open PySem L2 VS
section
variable {P : Program} {w : World} {K : PySem.W.Frag} {mg : Str → Option Value} {base : Heap} {A : Ad} {fu : Nat}
theorem sc__law_names_made : FnScope ["names", "name", "due"] ["names"] (defScope s__law_names_made) := ⟨rfl, rfl, rfl, by decide +kernel, rfl, by decide +kernel, by decide +kernel⟩
theorem hio__law_names_made : ([] : List Nat).Nodup ∧ ∀ i ∈ ([] : List Nat), i < (["names"] : List Str).length := by decide
theorem ok__law_names_made (T : Txt P w K mg A) : FnOk P w K mg base (L2.CX P w) 64 A.a__law_names_made A.f__law_names_made ["names"] (spD ⟨K, P, w, A.ca, none⟩ 1 [] (den__law_names_made fu)) := by
  have z : FnOk P w K mg base (L2.CX P w) (63 + 1) A.a__law_names_made A.f__law_names_made ["names"] (spD ⟨K, P, w, A.ca, none⟩ (["names"] : List Str).length [] (runF (["names", "name", "due"] : List Str).length [] (m__law_names_made fu))) := by
    refine fn_ok T.F__law_names_made sc__law_names_made hio__law_names_made fun cdv B outer s H E hr => ?_
    exact ((ss_cons (ss_for (passes_of rfl) rfl (si_of (sh_var 0 (pv 0))) (sg_name 1 rfl (pg_name sc__law_names_made.nd rfl (by first | exact Or.inl rfl | exact Or.inr rfl)))
    (ss_cons (ss_set (i := 2) (se_shr (se_tup (sa_cons (sh_val se_str) (sa_cons (sh_var 1 (pv 1)) (sa_cons (sh_val se_bl) sa_nil))))) rfl sc__law_names_made.nd rfl (by first | exact Or.inl rfl | exact Or.inr rfl) rfl)
    (ss_cons (ss_if (st_tru (sh_val (se_call (ok__law_bad T) (hr.mono (by decide)) rfl T.m__law_bad T.F__law_bad.kp T.b__law_bad (takes_of rfl rfl rfl rfl) (sa_cons (sh_var 1 (pv 1)) sa_nil) (many_cons many_nil))))
    (ss_one (ss_set (i := 2) (se_shr (se_tup (sa_cons (sh_val se_str) (sa_cons (sh_var 1 (pv 1)) sa_nil)))) rfl sc__law_names_made.nd rfl (by first | exact Or.inl rfl | exact Or.inr rfl) rfl))
    ss_nil)
    (ss_one (ss_if (st_ne (UR.of hr) (sh_val (se_call (ok__law_made T) (hr.mono (by decide)) rfl T.m__law_made T.F__law_made.kp T.b__law_made (takes_of rfl rfl rfl rfl) (sa_cons (sh_var 1 (pv 1)) (sa_cons (sh_var 1 (pv 1)) (sa_cons (sh_val se_int) sa_nil))) (many_cons (many_cons (many_cons many_nil))))) (sh_var 2 (pv 2)))
    (ss_one (ss_ret se_bl))
    ss_nil)))))
    (ss_one (ss_ret se_bl))))
  exact z

end
end K78
set_option Elab.async false
set_option linter.all false
set_option maxRecDepth 100000
set_option maxHeartbeats 400000
namespace K78
open PySem L2 VS
section
variable {P : Program} {w : World} {K : PySem.W.Frag} {mg : Str → Option Value} {base : Heap} {A : Ad} {fu : Nat}
theorem sc_law : FnScope ["script", "draws", "extra", "many", "names", "shape", "fault", "other", "kind", "more", "deed", "value", "k"] ["script"] (defScope s_law) := ⟨rfl, rfl, rfl, by decide +kernel, rfl, by decide +kernel, by decide +kernel⟩
theorem hio_law : ([] : List Nat).Nodup ∧ ∀ i ∈ ([] : List Nat), i < (["script"] : List Str).length := by decide
theorem ok_law (T : Txt P w K mg A) : FnOk P w K mg base (L2.CX P w) 65 A.a_law A.f_law ["script"] (spD ⟨K, P, w, A.ca, none⟩ 1 [] (den_law fu)) := by
  have z : FnOk P w K mg base (L2.CX P w) (64 + 1) A.a_law A.f_law ["script"] (spD ⟨K, P, w, A.ca, none⟩ (["script"] : List Str).length [] (runF (["script", "draws", "extra", "many", "names", "shape", "fault", "other", "kind", "more", "deed", "value", "k"] : List Str).length [] (m_law fu))) := by
    refine fn_ok T.F_law sc_law hio_law fun cdv B outer s H E hr => ?_
    exact ((ss_cons (ss_set (i := 1) (se_shr (se_call (ok__law_draws T) (hr.mono (by decide)) rfl T.m__law_draws T.F__law_draws.kp T.b__law_draws (takes_of rfl rfl rfl rfl) (sa_cons (sh_val (se_call (ok__law_cell T) (hr.mono (by decide)) rfl T.m__law_cell T.F__law_cell.kp T.b__law_cell (takes_of rfl rfl rfl rfl) (sa_cons (sh_var 0 (pv 0)) (sa_cons (sh_val se_int) sa_nil)) (many_cons (many_cons many_nil)))) (sa_cons (sh_val se_int) sa_nil)) (many_cons (many_cons many_nil)))) rfl sc_law.nd rfl (by first | exact Or.inl rfl | exact Or.inr rfl) rfl)
    (ss_cons (ss_set (i := 2) (se_shr (se_call (ok__law_draws T) (hr.mono (by decide)) rfl T.m__law_draws T.F__law_draws.kp T.b__law_draws (takes_of rfl rfl rfl rfl) (sa_cons (sh_val (se_call (ok__law_cell T) (hr.mono (by decide)) rfl T.m__law_cell T.F__law_cell.kp T.b__law_cell (takes_of rfl rfl rfl rfl) (sa_cons (sh_var 0 (pv 0)) (sa_cons (sh_val se_int) sa_nil)) (many_cons (many_cons many_nil)))) (sa_cons (sh_val se_int) sa_nil)) (many_cons (many_cons many_nil)))) rfl sc_law.nd rfl (by first | exact Or.inl rfl | exact Or.inr rfl) rfl)
    (ss_cons (ss_set (i := 3) (se_shr (se_add (sh_val se_int) (sh_val (se_call (ok__law_pick T) (hr.mono (by decide)) rfl T.m__law_pick T.F__law_pick.kp T.b__law_pick (takes_of rfl rfl rfl rfl) (sa_cons (sh_var 2 (pv 2)) (sa_cons (sh_val se_int) (sa_cons (sh_val se_int) sa_nil))) (many_cons (many_cons (many_cons many_nil))))))) rfl sc_law.nd rfl (by first | exact Or.inl rfl | exact Or.inr rfl) rfl)
    (ss_cons (ss_if (st_eq (UR.of hr) (sh_val (se_call (ok__law_pick T) (hr.mono (by decide)) rfl T.m__law_pick T.F__law_pick.kp T.b__law_pick (takes_of rfl rfl rfl rfl) (sa_cons (sh_var 2 (pv 2)) (sa_cons (sh_val se_int) (sa_cons (sh_val se_int) sa_nil))) (many_cons (many_cons (many_cons many_nil))))) (sh_val se_int))
    (ss_one (ss_set (i := 3) (se_shr (se_add (sh_val se_int) (sh_val (se_call (ok__law_pick T) (hr.mono (by decide)) rfl T.m__law_pick T.F__law_pick.kp T.b__law_pick (takes_of rfl rfl rfl rfl) (sa_cons (sh_var 2 (pv 2)) (sa_cons (sh_val se_int) (sa_cons (sh_val se_int) sa_nil))) (many_cons (many_cons (many_cons many_nil))))))) rfl sc_law.nd rfl (by first | exact Or.inl rfl | exact Or.inr rfl) rfl))
    ss_nil)
    (ss_cons (ss_set (i := 4) (se_call (ok__law_names T) (hr.mono (by decide)) rfl T.m__law_names T.F__law_names.kp T.b__law_names (takes_of rfl rfl rfl rfl) (sa_cons (sh_var 1 (pv 1)) (sa_cons (sh_var 2 (pv 2)) (sa_cons (sh_var 3 (pv 3)) sa_nil))) (many_cons (many_cons (many_cons many_nil)))) rfl sc_law.nd rfl (by first | exact Or.inl rfl | exact Or.inr rfl) rfl)
    (ss_cons (ss_if (st_eq (UR.of hr) (sh_val (se_call (ok__law_pick T) (hr.mono (by decide)) rfl T.m__law_pick T.F__law_pick.kp T.b__law_pick (takes_of rfl rfl rfl rfl) (sa_cons (sh_var 2 (pv 2)) (sa_cons (sh_val se_int) (sa_cons (sh_val se_int) sa_nil))) (many_cons (many_cons (many_cons many_nil))))) (sh_val se_int))
    (ss_one (ss_expr (se_call (ok__law_spoilt T) (hr.mono (by decide)) rfl T.m__law_spoilt T.F__law_spoilt.kp T.b__law_spoilt (takes_of rfl rfl rfl rfl) (sa_cons (sh_var 2 (pv 2)) (sa_cons (sh_var 4 (pv 4)) sa_nil)) (many_cons (many_cons many_nil)))))
    ss_nil)
    (ss_cons (ss_if (st_eq (UR.of hr) (sh_val (se_call (ok__law_pick T) (hr.mono (by decide)) rfl T.m__law_pick T.F__law_pick.kp T.b__law_pick (takes_of rfl rfl rfl rfl) (sa_cons (sh_var 2 (pv 2)) (sa_cons (sh_val se_int) (sa_cons (sh_val se_int) sa_nil))) (many_cons (many_cons (many_cons many_nil))))) (sh_val se_int))
    (ss_cons (ss_set (i := 5) (se_shr (se_call (ok__law_arrow T) (hr.mono (by decide)) rfl T.m__law_arrow T.F__law_arrow.kp T.b__law_arrow (takes_of rfl rfl rfl rfl) (sa_cons (sh_var 1 (pv 1)) (sa_cons (sh_val se_int) (sa_cons (sh_val (se_share 4 (pv 4))) sa_nil))) (many_cons (many_cons (many_cons many_nil))))) rfl sc_law.nd rfl (by first | exact Or.inl rfl | exact Or.inr rfl) rfl)
    (ss_one (ss_if (st_eq (UR.of hr) (sh_val (se_call (ok__law_pick T) (hr.mono (by decide)) rfl T.m__law_pick T.F__law_pick.kp T.b__law_pick (takes_of rfl rfl rfl rfl) (sa_cons (sh_var 2 (pv 2)) (sa_cons (sh_val se_int) (sa_cons (sh_val se_int) sa_nil))) (many_cons (many_cons (many_cons many_nil))))) (sh_val se_int))
    (ss_one (ss_set (i := 5) (se_shr (se_call (ok__law_changed T 60) (hr.mono (by decide)) rfl T.m__law_changed T.F__law_changed.kp T.b__law_changed (takes_of rfl rfl rfl rfl) (sa_cons (sh_var 5 (pv 5)) (sa_cons (sh_val (se_call (ok__law_cell T) (hr.mono (by decide)) rfl T.m__law_cell T.F__law_cell.kp T.b__law_cell (takes_of rfl rfl rfl rfl) (sa_cons (sh_var 0 (pv 0)) (sa_cons (sh_val se_int) sa_nil)) (many_cons (many_cons many_nil)))) sa_nil)) (many_cons (many_cons many_nil)))) rfl sc_law.nd rfl (by first | exact Or.inl rfl | exact Or.inr rfl) rfl))
    ss_nil)))
    (ss_one (ss_set (i := 5) (se_shr (se_call (ok__law_shape T) (hr.mono (by decide)) rfl T.m__law_shape T.F__law_shape.kp T.b__law_shape (takes_of rfl rfl rfl rfl) (sa_cons (sh_var 1 (pv 1)) (sa_cons (sh_val se_int) (sa_cons (sh_val (se_shr (se_lc rfl sc_law.nd (si_range1 rfl T.n_range (sh_var 3 (pv 3))) (own := [("k", 12)]) (blkOk_by (N := ["script", "draws", "extra", "many", "names", "shape", "fault", "other", "kind", "more", "deed", "value", "k"]) (sc := defScope s_law) (by decide +kernel)) (fun s H C cl fp => (sg_name 12 rfl (pg_name sc_law.nd rfl (by first | exact Or.inl rfl | exact Or.inr rfl)))) (fun s H C cl fp => sts_nil) (fun s H C cl fp => (se_tup (sa_cons (sh_val se_str) (sa_cons (sh_val (se_ix (UR.of hr) (sh_var 4 (pv 4)) (sh_var 12 (pv 12)))) (sa_cons (sh_val (se_eq (UR.of hr) (sh_val (se_call (ok__law_pick T) (hr.mono (by decide)) rfl T.m__law_pick T.F__law_pick.kp T.b__law_pick takes0 (sa_cons (sh_var 1 (pv 1)) (sa_cons (sh_val (se_add (sh_val se_int) (sh_var 12 (pv 12)))) (sa_cons (sh_val se_int) sa_nil))) (many_cons (many_cons (many_cons many_nil))))) (sh_val se_int))) sa_nil)))))))) sa_nil))) (many_cons (many_cons (many_cons many_nil))))) rfl sc_law.nd rfl (by first | exact Or.inl rfl | exact Or.inr rfl) rfl)))
    (ss_cons (ss_if (st_not (st_tru (sh_val (se_call (ok__law_names_made T) (hr.mono (by decide)) rfl T.m__law_names_made T.F__law_names_made.kp T.b__law_names_made (takes_of rfl rfl rfl rfl) (sa_cons (sh_val (se_shr (se_sl (sh_var 4 (pv 4)) so_none (so_some (sh_val se_int))))) sa_nil) (many_cons many_nil)))))
    (ss_one (ss_ret se_bl))
    ss_nil)
    (ss_cons (ss_set (i := 6) (se_shr (se_call (ok__law_fault T) (hr.mono (by decide)) rfl T.m__law_fault T.F__law_fault.kp T.b__law_fault (takes_of rfl rfl rfl rfl) (sa_cons (sh_var 5 (pv 5)) sa_nil) (many_cons many_nil))) rfl sc_law.nd rfl (by first | exact Or.inl rfl | exact Or.inr rfl) rfl)
    (ss_cons (ss_if (st_isNot (sh_var 6 (pv 6)) (sh_val se_non))
    (ss_one (ss_ret (se_eq (UR.of hr) (sh_val (se_call (ok__law_made T) (hr.mono (by decide)) rfl T.m__law_made T.F__law_made.kp T.b__law_made (takes_of rfl rfl rfl rfl) (sa_cons (sh_var 5 (pv 5)) (sa_cons (sh_var 5 (pv 5)) (sa_cons (sh_val se_int) sa_nil))) (many_cons (many_cons (many_cons many_nil))))) (sh_var 6 (pv 6)))))
    ss_nil)
    (ss_cons (ss_set (i := 7) (se_shr (se_call (ok__law_shape T) (hr.mono (by decide)) rfl T.m__law_shape T.F__law_shape.kp T.b__law_shape (takes_of rfl rfl rfl rfl) (sa_cons (sh_var 2 (pv 2)) (sa_cons (sh_val se_int) (sa_cons (sh_val (se_shr (se_lc rfl sc_law.nd (si_range1 rfl T.n_range (sh_val (se_add (sh_val se_int) (sh_val (se_call (ok__law_pick T) (hr.mono (by decide)) rfl T.m__law_pick T.F__law_pick.kp T.b__law_pick (takes_of rfl rfl rfl rfl) (sa_cons (sh_var 2 (pv 2)) (sa_cons (sh_val se_int) (sa_cons (sh_val se_int) sa_nil))) (many_cons (many_cons (many_cons many_nil)))))))) (own := [("k", 12)]) (blkOk_by (N := ["script", "draws", "extra", "many", "names", "shape", "fault", "other", "kind", "more", "deed", "value", "k"]) (sc := defScope s_law) (by decide +kernel)) (fun s H C cl fp => (sg_name 12 rfl (pg_name sc_law.nd rfl (by first | exact Or.inl rfl | exact Or.inr rfl)))) (fun s H C cl fp => sts_nil) (fun s H C cl fp => (se_tup (sa_cons (sh_val se_str) (sa_cons (sh_val (se_ix (UR.of hr) (sh_val se_str) (sh_val (se_mod (sh_var 12 (pv 12)) (sh_val se_int))))) (sa_cons (sh_val (se_gt (sh_var 12 (pv 12)) (sh_val se_int))) sa_nil)))))))) sa_nil))) (many_cons (many_cons (many_cons many_nil))))) rfl sc_law.nd rfl (by first | exact Or.inl rfl | exact Or.inr rfl) rfl)
    (ss_cons (ss_set (i := 8) (se_shr (se_make T.mk_Kind rfl ((ok_Kinddd_initdd T)) (hr.mono (by decide)) rfl T.m_Kind T.b_Kinddd_initdd (takes_of rfl rfl rfl rfl) (sa_cons (sh_var 5 (pv 5)) sa_nil) (many_cons many_nil))) rfl sc_law.nd rfl (by first | exact Or.inl rfl | exact Or.inr rfl) rfl)
    (ss_cons (ss_set (i := 9) (se_shr (se_make T.mk_Kind rfl ((ok_Kinddd_initdd T)) (hr.mono (by decide)) rfl T.m_Kind T.b_Kinddd_initdd (takes_of rfl rfl rfl rfl) (sa_cons (sh_var 7 (pv 7)) sa_nil) (many_cons many_nil))) rfl sc_law.nd rfl (by first | exact Or.inl rfl | exact Or.inr rfl) rfl)
    (ss_cons (ss_if (st_w (sw_or (st_not (st_tru (sh_val (se_call (ok__law_fields T) (hr.mono (by decide)) rfl T.m__law_fields T.F__law_fields.kp T.b__law_fields (takes_of rfl rfl rfl rfl) (sa_cons (sh_var 8 (pv 8)) (sa_cons (sh_var 5 (pv 5)) sa_nil)) (many_cons (many_cons many_nil)))))) (sw_or (st_not (st_tru (sh_val (se_call (ok__law_fields T) (hr.mono (by decide)) rfl T.m__law_fields T.F__law_fields.kp T.b__law_fields (takes_of rfl rfl rfl rfl) (sa_cons (sh_val (se_shr (se_ownInv (c := "Kind") T.o_Kinddd_invertdd (ok_Kinddd_invertdd T) (hr.mono (by decide)) T.b_Kinddd_invertdd (takes_of rfl rfl rfl rfl) (sh_var 8 (pv 8))))) (sa_cons (sh_val (se_call (ok__law_opposite T 60) (hr.mono (by decide)) rfl T.m__law_opposite T.F__law_opposite.kp T.b__law_opposite (takes_of rfl rfl rfl rfl) (sa_cons (sh_var 5 (pv 5)) sa_nil) (many_cons many_nil))) sa_nil)) (many_cons (many_cons many_nil)))))) (sw_or1 (st_not (st_tru (sh_val (se_call (ok__law_fields T) (hr.mono (by decide)) rfl T.m__law_fields T.F__law_fields.kp T.b__law_fields (takes_of rfl rfl rfl rfl) (sa_cons (sh_var 9 (pv 9)) (sa_cons (sh_var 7 (pv 7)) sa_nil)) (many_cons (many_cons many_nil))))))))))
    (ss_one (ss_ret se_bl))
    ss_nil)
    (ss_cons (ss_for (passes_of rfl) rfl (si_range1 rfl T.n_range (sh_val se_int)) (sg_name 10 rfl (pg_name sc_law.nd rfl (by first | exact Or.inl rfl | exact Or.inr rfl)))
    (ss_cons (ss_if (st_ne (UR.of hr) (sh_val (se_call (ok__law_made T) (hr.mono (by decide)) rfl T.m__law_made T.F__law_made.kp T.b__law_made (takes_of rfl rfl rfl rfl) (sa_cons (sh_var 5 (pv 5)) (sa_cons (sh_var 7 (pv 7)) (sa_cons (sh_var 10 (pv 10)) sa_nil))) (many_cons (many_cons (many_cons many_nil))))) (sh_val (se_call (ok__law_due T) (hr.mono (by decide)) rfl T.m__law_due T.F__law_due.kp T.b__law_due (takes_of rfl rfl rfl rfl) (sa_cons (sh_var 5 (pv 5)) (sa_cons (sh_var 7 (pv 7)) (sa_cons (sh_var 10 (pv 10)) sa_nil))) (many_cons (many_cons (many_cons many_nil))))))
    (ss_one (ss_ret se_bl))
    ss_nil)
    (ss_one (ss_if (st_ne (UR.of hr) (sh_val (se_call (ok__law_made T) (hr.mono (by decide)) rfl T.m__law_made T.F__law_made.kp T.b__law_made (takes_of rfl rfl rfl rfl) (sa_cons (sh_var 7 (pv 7)) (sa_cons (sh_var 5 (pv 5)) (sa_cons (sh_var 10 (pv 10)) sa_nil))) (many_cons (many_cons (many_cons many_nil))))) (sh_val (se_call (ok__law_due T) (hr.mono (by decide)) rfl T.m__law_due T.F__law_due.kp T.b__law_due (takes_of rfl rfl rfl rfl) (sa_cons (sh_var 7 (pv 7)) (sa_cons (sh_var 5 (pv 5)) (sa_cons (sh_var 10 (pv 10)) sa_nil))) (many_cons (many_cons (many_cons many_nil))))))
    (ss_one (ss_ret se_bl))
    ss_nil))))
    (ss_cons (ss_if (st_w (sw_or (st_not (st_ownEq (c := "Kind") (tab := etab) T.o_Kinddd_eqdd T.en_Kinddd_eqdd (ok_Kinddd_eqdd T) (UR.of hr) (hr.mono (by decide)) T.b_Kinddd_eqdd (takes_of rfl rfl rfl rfl) (sh_val (se_ownInv (c := "Kind") T.o_Kinddd_invertdd (ok_Kinddd_invertdd T) (hr.mono (by decide)) T.b_Kinddd_invertdd (takes_of rfl rfl rfl rfl) (sh_val (se_ownInv (c := "Kind") T.o_Kinddd_invertdd (ok_Kinddd_invertdd T) (hr.mono (by decide)) T.b_Kinddd_invertdd (takes_of rfl rfl rfl rfl) (sh_var 8 (pv 8)))))) (sh_var 8 (pv 8)))) (sw_or (st_ownEq (c := "Kind") (tab := etab) T.o_Kinddd_eqdd T.en_Kinddd_eqdd (ok_Kinddd_eqdd T) (UR.of hr) (hr.mono (by decide)) T.b_Kinddd_eqdd (takes_of rfl rfl rfl rfl) (sh_var 8 (pv 8)) (sh_val (se_ownInv (c := "Kind") T.o_Kinddd_invertdd (ok_Kinddd_invertdd T) (hr.mono (by decide)) T.b_Kinddd_invertdd (takes_of rfl rfl rfl rfl) (sh_var 8 (pv 8))))) (sw_or1 (st_not (st_ownEq (c := "Kind") (tab := etab) T.o_Kinddd_eqdd T.en_Kinddd_eqdd (ok_Kinddd_eqdd T) (UR.of hr) (hr.mono (by decide)) T.b_Kinddd_eqdd (takes_of rfl rfl rfl rfl) (sh_var 8 (pv 8)) (sh_val (se_make T.mk_Kind rfl ((ok_Kinddd_initdd T)) (hr.mono (by decide)) rfl T.m_Kind T.b_Kinddd_initdd (takes_of rfl rfl rfl rfl) (sa_cons (sh_var 5 (pv 5)) sa_nil) (many_cons many_nil)))))))))
    (ss_one (ss_ret se_bl))
    ss_nil)
    (ss_cons (ss_if (st_w (sw_or (st_ne (UR.of hr) (sh_val (se_ownEq (c := "Kind") (tab := etab) T.o_Kinddd_eqdd T.en_Kinddd_eqdd (ok_Kinddd_eqdd T) (UR.of hr) (hr.mono (by decide)) T.b_Kinddd_eqdd (takes_of rfl rfl rfl rfl) (sh_var 8 (pv 8)) (sh_var 9 (pv 9)))) (sh_val (se_eq (UR.of hr) (sh_var 5 (pv 5)) (sh_var 7 (pv 7))))) (sw_or1 (st_ownEq (c := "Kind") (tab := etab) T.o_Kinddd_eqdd T.en_Kinddd_eqdd (ok_Kinddd_eqdd T) (UR.of hr) (hr.mono (by decide)) T.b_Kinddd_eqdd (takes_of rfl rfl rfl rfl) (sh_var 8 (pv 8)) (sh_val (se_make T.mk_Kind rfl ((ok_Kinddd_initdd T)) (hr.mono (by decide)) rfl T.m_Kind T.b_Kinddd_initdd (takes_of rfl rfl rfl rfl) (sa_cons (sh_val (se_call (ok__law_changed T 60) (hr.mono (by decide)) rfl T.m__law_changed T.F__law_changed.kp T.b__law_changed (takes_of rfl rfl rfl rfl) (sa_cons (sh_var 5 (pv 5)) (sa_cons (sh_val (se_call (ok__law_cell T) (hr.mono (by decide)) rfl T.m__law_cell T.F__law_cell.kp T.b__law_cell (takes_of rfl rfl rfl rfl) (sa_cons (sh_var 0 (pv 0)) (sa_cons (sh_val se_int) sa_nil)) (many_cons (many_cons many_nil)))) sa_nil)) (many_cons (many_cons many_nil)))) sa_nil) (many_cons many_nil)))))))
    (ss_one (ss_ret se_bl))
    ss_nil)
    (ss_cons (ss_if (st_w (sw_and (st_lt (sh_var 3 (pv 3)) (sh_val se_int)) (sw_and1 (st_w (sw_or (st_not (st_ownEq (c := "Kind") (tab := etab) T.o_Kinddd_eqdd T.en_Kinddd_eqdd (ok_Kinddd_eqdd T) (UR.of hr) (hr.mono (by decide)) T.b_Kinddd_eqdd (takes_of rfl rfl rfl rfl) (sh_val (se_ownInv (c := "Kind") T.o_Kinddd_invertdd (ok_Kinddd_invertdd T) (hr.mono (by decide)) T.b_Kinddd_invertdd (takes_of rfl rfl rfl rfl) (sh_val (se_own2 (c := "Kind") T.o_Kinddd_anddd (ok_Kinddd_anddd T) (hr.mono (by decide)) T.b_Kinddd_anddd (takes_of rfl rfl rfl rfl) (sh_var 8 (pv 8)) (sh_var 9 (pv 9)))))) (sh_val (se_own2 (c := "Kind") T.o_Kinddd_ordd (ok_Kinddd_ordd T) (hr.mono (by decide)) T.b_Kinddd_ordd (takes_of rfl rfl rfl rfl) (sh_val (se_ownInv (c := "Kind") T.o_Kinddd_invertdd (ok_Kinddd_invertdd T) (hr.mono (by decide)) T.b_Kinddd_invertdd (takes_of rfl rfl rfl rfl) (sh_var 8 (pv 8)))) (sh_val (se_ownInv (c := "Kind") T.o_Kinddd_invertdd (ok_Kinddd_invertdd T) (hr.mono (by decide)) T.b_Kinddd_invertdd (takes_of rfl rfl rfl rfl) (sh_var 9 (pv 9)))))))) (sw_or1 (st_not (st_ownEq (c := "Kind") (tab := etab) T.o_Kinddd_eqdd T.en_Kinddd_eqdd (ok_Kinddd_eqdd T) (UR.of hr) (hr.mono (by decide)) T.b_Kinddd_eqdd (takes_of rfl rfl rfl rfl) (sh_val (se_ownInv (c := "Kind") T.o_Kinddd_invertdd (ok_Kinddd_invertdd T) (hr.mono (by decide)) T.b_Kinddd_invertdd (takes_of rfl rfl rfl rfl) (sh_val (se_own2 (c := "Kind") T.o_Kinddd_ordd (ok_Kinddd_ordd T) (hr.mono (by decide)) T.b_Kinddd_ordd (takes_of rfl rfl rfl rfl) (sh_var 8 (pv 8)) (sh_var 9 (pv 9)))))) (sh_val (se_own2 (c := "Kind") T.o_Kinddd_anddd (ok_Kinddd_anddd T) (hr.mono (by decide)) T.b_Kinddd_anddd (takes_of rfl rfl rfl rfl) (sh_val (se_ownInv (c := "Kind") T.o_Kinddd_invertdd (ok_Kinddd_invertdd T) (hr.mono (by decide)) T.b_Kinddd_invertdd (takes_of rfl rfl rfl rfl) (sh_var 8 (pv 8)))) (sh_val (se_ownInv (c := "Kind") T.o_Kinddd_invertdd (ok_Kinddd_invertdd T) (hr.mono (by decide)) T.b_Kinddd_invertdd (takes_of rfl rfl rfl rfl) (sh_var 9 (pv 9))))))))))))))
    (ss_one (ss_ret se_bl))
    ss_nil)
    (ss_cons (ss_for (passes_of rfl) rfl (si_of (sh_val (se_lst (sa_cons (sh_var 5 (pv 5)) (sa_cons (sh_val (se_prop (c := "Kind") T.pc_Kind_letters T.pr_Kind_letters (ok_Kind_letters T) (hr.mono (by decide)) T.b_Kind_letters (sh_var 8 (pv 8)))) (sa_cons (sh_val (se_ix (UR.of hr) (sh_var 4 (pv 4)) (sh_val se_int))) (sa_cons (sh_val se_int) (sa_cons (sh_val se_non) sa_nil)))))))) (sg_name 11 rfl (pg_name sc_law.nd rfl (by first | exact Or.inl rfl | exact Or.inr rfl)))
    (ss_one (ss_if (st_w (sw_or (st_ownEq (c := "Kind") (tab := etab) T.o_Kinddd_eqdd T.en_Kinddd_eqdd (ok_Kinddd_eqdd T) (UR.of hr) (hr.mono (by decide)) T.b_Kinddd_eqdd (takes_of rfl rfl rfl rfl) (sh_var 8 (pv 8)) (sh_var 11 (pv 11))) (sw_or1 (st_ownEqR (c := "Kind") T.o_Kinddd_eqdd T.eb_Kinddd_eqdd (ok_Kinddd_eqdd T) (UR.of hr) (hr.mono (by decide)) T.b_Kinddd_eqdd (takes_of rfl rfl rfl rfl) (sh_var 11 (pv 11)) (sh_var 8 (pv 8))))))
    (ss_one (ss_ret se_bl))
    ss_nil)))
    (ss_one (ss_ret (se_and (se_call (ok__law_fields T) (hr.mono (by decide)) rfl T.m__law_fields T.F__law_fields.kp T.b__law_fields (takes_of rfl rfl rfl rfl) (sa_cons (sh_var 8 (pv 8)) (sa_cons (sh_var 5 (pv 5)) sa_nil)) (many_cons (many_cons many_nil))) (se_one (se_eq (UR.of hr) (sh_val (se_cval rfl T.m_Kind T.cr_Kind T.cv_Kind_MOST_LETTERS (fun _ _ => .int 40))) (sh_val se_int))))))))))))))))))))))))))
  exact z

end
end K78
set_option Elab.async false
set_option linter.all false
set_option maxRecDepth 10000
namespace K78
open PySem L2 VS
theorem cell_ok (fu : Nat) (ns : List Int) (k : Nat) : ∃ i : Int, den__law_cell fu [.fro (ns.map .int), .int k] = .ok (.int i) [] := by
  by_cases h : k < ns.length
  · refine ⟨ns[k], ?_⟩
    simp [den__law_cell, runF, m__law_cell, mRef, outsOf, at_nat, h]
  · refine ⟨0, ?_⟩
    simp [den__law_cell, runF, m__law_cell, mRef, outsOf, at_nat, h]
theorem pick_ok (fu : Nat) (l : List Int) (k many : Int) (hl : l ≠ []) : ∃ r : Int, (0 ≤ r ∧ (2 ≤ many → r < many) ∧ (many < 2 → r = 0)) ∧ den__law_pick fu [.lst false (l.map .int), .int k, .int many] = .ok (.int r) [] := by
  by_cases h : many < 2
  · refine ⟨0, ⟨by omega, by omega, by omega⟩, ?_⟩
    simp [den__law_pick, runF, m__law_pick, mRef, h, outsOf]
  · have h0 : 0 < l.length := List.length_pos_iff.mpr hl
    have h1 : k % (l.length : Int) < l.length := Int.emod_lt_of_pos _ (by omega)
    have h2 : 0 ≤ k % (l.length : Int) := Int.emod_nonneg _ (by omega)
    have h3 : (k % (l.length : Int)).toNat < l.length := by omega
    refine ⟨l[(k % (l.length : Int)).toNat] % many, ⟨Int.emod_nonneg _ (by omega), fun _ => Int.emod_lt_of_pos _ (by omega), by omega⟩, ?_⟩
    have hm : 0 < many := by omega
    have h4 : L2.atI (l.map D.int) (k % (l.length : Int)) = some (.int l[(k % (l.length : Int)).toNat]) := by
      rw [at_lt h2 (by simpa using h1)]
      simp [h3]
    simp [den__law_pick, runF, m__law_pick, mRef, h, outsOf, ov_eqI, h0, hl, h4, hm]
theorem log_small {i : Int} (h0 : 0 ≤ i) (h1 : i < 2 ^ 40) : i.natAbs.log2 < 1000 := by
  by_cases h : i.natAbs = 0
  · rw [h]; decide
  · have : i.natAbs < 2 ^ 40 := by omega
    have := (Nat.log2_lt h).mpr this
    omega
theorem szL {n : Nat} (h : n < 100000) : n < sizeLine := Nat.lt_of_lt_of_le h (by decide)
theorem draws_loop (fu : Nat) (c m : D) : ∀ (ks : List Nat) (rest mixed : Int) (ex : Bool) (ds : List Int) (kk : Option D), (∀ k ∈ ks, k < 1000) → 0 ≤ mixed → mixed < 2 ^ 33 → ds.length + ks.length < 1000 →
    ∃ (rest' mixed' : Int) (ds' : List Int) (kk' : Option D), ds'.length = ds.length + ks.length ∧ forL (.nm 6) (b__law_draws_0 fu) (ks.map fun (k : Nat) => D.int k) [some c, some m, some (.int rest), some (.bl ex), some (.int mixed), some (.lst true (ds.map .int)), kk] =
      .ok .nx [some c, some m, some (.int rest'), some (.bl ex), some (.int mixed'), some (.lst true (ds'.map .int)), kk']
  | [], rest, mixed, ex, ds, kk, _, _, _, _ => ⟨rest, mixed, ds, kk, by simp, rfl⟩
  | k :: ks, rest, mixed, ex, ds, kk, hk, h0, h1, hz => by
    have hk' : k < 1000 := hk k (by simp)
    have e1 : mixed.natAbs.log2 + (48271 : Int).natAbs.log2 < 1000000 := by
      have := log_small h0 (by omega)
      have : (48271 : Int).natAbs.log2 < 100 := by decide
      omega
    have e2 : (9973 : Int).natAbs.log2 + (k : Int).natAbs.log2 < 1000000 := by
      have := log_small (i := (k : Int)) (by omega) (by omega)
      have : (9973 : Int).natAbs.log2 < 100 := by decide
      omega
    simp only [Int.natAbs_natCast, show (48271 : Int).natAbs = 48271 from rfl, show (9973 : Int).natAbs = 9973 from rfl] at e1 e2
    have l60 : (60 : Int).natAbs.log2 < 9000 := by decide
    have l13 : (13 : Int).natAbs.log2 < 9000 := by decide
    simp only [show (60 : Int).natAbs = 60 from rfl, show (13 : Int).natAbs = 13 from rfl] at l60 l13
    have m0 : 0 ≤ (mixed * 48271 + 9973 * (k : Int) + 11) % 2147483647 := Int.emod_nonneg _ (by decide)
    have m1 : (mixed * 48271 + 9973 * (k : Int) + 11) % 2147483647 < 2147483647 := Int.emod_lt_of_pos _ (by decide)
    generalize hM : (mixed * 48271 + 9973 * (k : Int) + 11) % 2147483647 = M' at m0 m1
    have hl : ds.length < sizeLine := szL (by simp at hz; omega)
    have step : ∃ (rest' : Int) (z : Int), b__law_draws_0 fu [some c, some m, some (.int rest), some (.bl ex), some (.int mixed), some (.lst true (ds.map .int)), some (.int k)] =
        .ok .nx [some c, some m, some (.int rest'), some (.bl ex), some (.int M'), some (.lst true ((ds ++ [z]).map .int)), some (.int k)] := by
      by_cases hc : ex = true ∧ 0 < rest
      · refine ⟨rest / 60, rest % 60, ?_⟩
        simp [b__law_draws_0, mRef, e1, e2, hM, hc.1, hc.2, hl, l60]
      · refine ⟨rest, M' / 13 % 60, ?_⟩
        by_cases hx : ex = true
        · have hr : ¬ 0 < rest := fun h => hc ⟨hx, h⟩
          simp [b__law_draws_0, mRef, e1, e2, hM, hx, hr, hl, l13]
        · simp [b__law_draws_0, mRef, e1, e2, hM, hx, hl, l13]
    obtain ⟨rest', z, hs⟩ := step
    obtain ⟨r2, m2, d2, k2, h2, e3⟩ := draws_loop fu c m ks rest' M' ex (ds ++ [z]) (some (.int k)) (fun k h => hk k (by simp [h])) m0 (by omega) (by simp at hz ⊢; omega)
    refine ⟨r2, m2, d2, k2, by rw [h2]; simp; omega, ?_⟩
    rw [List.map_cons, ev_forC]
    simp only [ev_nm, List.length_cons, List.length_nil, List.set_cons_succ, List.set_cons_zero]
    rw [if_pos (by decide)]
    dsimp only
    rw [hs]
    exact e3
theorem dr1 (cell : Int) (m : D) : mAsg (.nm 2) (mShr (mOp oAbs (m1 (M.bind (mOp oToInt (m1 (mRef 0))) fun d => M.ret (Hd.val d))))) [some (.int cell), some m, none, none, none, none, none] = .ok .nx [some (.int cell), some m, some (.int (cell.natAbs : Int)), none, none, none, none] := by
  have ea : oAbs [.int cell] = some (.int (cell.natAbs : Int)) := by
    show some (D.int (if cell < 0 then -cell else cell)) = _
    congr 2
    split <;> omega
  simp [mRef, ea]
theorem dr2 (c m : D) (r : Int) : mAsg (.nm 3) (mOp oGe (m2 (mRef 2) (M.bind (mOp oPow (m2 (M.bind (M.ret (.int 10)) fun d => M.ret (Hd.val d)) (M.bind (M.ret (.int 18)) fun d => M.ret (Hd.val d)))) fun d => M.ret (Hd.val d)))) [some c, some m, some (.int r), none, none, none, none] = .ok .nx [some c, some m, some (.int r), some (.bl (decide (10 ^ 18 ≤ r))), none, none, none] := by
  simp [mRef]
theorem dr3 (c m e : D) (r : Int) : mAsg (.nm 4) (mShr (mOp oAdd (m2 (M.bind (mOp oMod (m2 (M.bind (mOp oToInt (m1 (mRef 2))) fun d => M.ret (Hd.val d)) (M.bind (M.ret (.int 2147483629)) fun d => M.ret (Hd.val d)))) fun d => M.ret (Hd.val d)) (M.bind (M.ret (.int 17)) fun d => M.ret (Hd.val d))))) [some c, some m, some (.int r), some e, none, none, none] = .ok .nx [some c, some m, some (.int r), some e, some (.int (r % 2147483629 + 17)), none, none] := by
  simp [mRef]
theorem dr4 (a b c d e : Option D) : mAsg (.nm 5) (mTk oLst mNil) [a, b, c, d, e, none, none] = .ok .nx [a, b, c, d, e, some (.lst true []), none] := by
  have el : oLst [] = some (.lst true []) := rfl
  simp [el]
theorem dr_q (fu : Nat) (cell r m : Int) (l : List Int) (kk : Option D) (many : Nat) (hm : many < 1000) (E : Int) (hE : (10 : Int) ^ 18 = E)
    (e : forL (.nm 6) (b__law_draws_0 fu) ((List.range many).map fun (k : Nat) => D.int k) [some (.int cell), some (.int many), some (.int (cell.natAbs : Int)), some (.bl (decide (E ≤ (cell.natAbs : Int)))), some (.int ((cell.natAbs : Int) % 2147483629 + 17)), some (.lst true []), none] =
      .ok .nx [some (.int cell), some (.int many), some (.int r), some (.bl (decide (E ≤ (cell.natAbs : Int)))), some (.int m), some (.lst true (l.map .int)), kk]) :
    m__law_draws fu [some (.int cell), some (.int many), none, none, none, none, none] = .ok (.rt (.lst true (l.map .int))) [some (.int cell), some (.int many), some (.int r), some (.bl (decide (E ≤ (cell.natAbs : Int)))), some (.int m), none, kk] := by
  unfold m__law_draws
  rw [then_ok (dr1 cell (.int many)), then_ok (dr2 _ _ _), hE, then_ok (dr3 _ _ _ _), then_ok (dr4 _ _ _ _ _), then_ok (e := [some (.int cell), some (.int many), some (.int r), some (.bl (decide (E ≤ (cell.natAbs : Int)))), some (.int m), some (.lst true (l.map .int)), kk])]
  · rfl
  · rw [ev_for, ev_m1, ev_rngI (n := many) (by omega) rfl, ev_bok]
    exact e
theorem dr_s (fu : Nat) (c m d : D) (en : VS.Env) (q : m__law_draws fu [some c, some m, none, none, none, none, none] = .ok (.rt d) en) : den__law_draws fu [c, m] = .ok d [] := by
  have h : den__law_draws fu [c, m] = (match m__law_draws fu [some c, some m, none, none, none, none, none] with
    | .ok .nx env => .ok .non (outsOf [] env)
    | .ok (.rt d) env => .ok d (outsOf [] env)
    | .exc c fs _ => .exc c fs []
    | _ => .stk) := rfl
  rw [h, q]
  rfl
theorem draws_ok2 (fu : Nat) (cell : Int) (many : Nat) (hm : many < 1000) (E : Int) (hE : (10 : Int) ^ 18 = E) : ∃ l : List Int, l.length = many ∧ den__law_draws fu [.int cell, .int many] = .ok (.lst true (l.map .int)) [] := by
  have a0 : 0 ≤ (cell.natAbs : Int) % 2147483629 := Int.emod_nonneg _ (by decide)
  have a1 : (cell.natAbs : Int) % 2147483629 < 2147483629 := Int.emod_lt_of_pos _ (by decide)
  have b0 : 0 ≤ (cell.natAbs : Int) % 2147483629 + 17 := by omega
  have b1 : (cell.natAbs : Int) % 2147483629 + 17 < 2 ^ 33 := by omega
  have c0 : ([] : List Int).length + (List.range many).length < 1000 := by simpa using hm
  have c1 : ∀ k ∈ List.range many, k < 1000 := fun k h => by have := List.mem_range.mp h; omega
  obtain ⟨r, m, l, kk, hl, e⟩ := draws_loop fu (.int cell) (.int many) (List.range many) (cell.natAbs : Int) ((cell.natAbs : Int) % 2147483629 + 17) (decide (E ≤ (cell.natAbs : Int))) [] none c1 b0 b1 c0
  rw [List.map_nil] at e
  exact ⟨l, by simpa using hl, dr_s fu _ _ _ _ (dr_q fu cell r m l kk many hm E hE e)⟩
theorem draws_ok (fu : Nat) (cell : Int) (many : Nat) (hm : many < 1000) : ∃ l : List Int, l.length = many ∧ den__law_draws fu [.int cell, .int many] = .ok (.lst true (l.map .int)) [] := draws_ok2 fu cell many hm _ rfl
inductive Sh where
  | lt (n : List Nat) (p : Bool) | nd (k : Bool) (a b : Sh)
deriving DecidableEq
def enc : Sh → D
  | .lt n p => .tup [.str "letter", S n, .bl p]
  | .nd k a b => .tup [.str (if k then "both" else "together"), enc a, enc b]
def letters : Sh → List (List Nat × Bool)
  | .lt n p => [(n, p)]
  | .nd _ a b => letters a ++ letters b
def size : Sh → Nat
  | .lt _ _ => 1
  | .nd _ a b => size a + size b + 1
def depth : Sh → Nat
  | .lt _ _ => 0
  | .nd _ a b => max (depth a) (depth b) + 1
def encL (l : List Nat × Bool) : D := .tup [S l.1, .bl l.2]
theorem shrd_enc : ∀ s, shrd (enc s) = true
  | .lt n p => rfl
  | .nd k a b => by simp [enc, shrd_enc a, shrd_enc b]
theorem share_enc : ∀ s, share (enc s) = enc s
  | .lt n p => rfl
  | .nd k a b => by simp [enc, share_enc a, share_enc b]
theorem eqLL : oEq [.str "letter", .str "letter"] = some (.bl true) := by
  rw [eq_lit (by decide +kernel) (by decide +kernel), beq_self_eq_true]
theorem eqKL (k : Bool) : oEq [.str (if k then "both" else "together"), .str "letter"] = some (.bl false) := by
  cases k
  · rw [if_neg (by decide), eq_lit (by decide +kernel) (by decide +kernel), show (("together" : Str) == "letter") = false by decide +kernel]
  · rw [if_pos rfl, eq_lit (by decide +kernel) (by decide +kernel), show (("both" : Str) == "letter") = false by decide +kernel]
theorem eqKB (k : Bool) : oEq [.str (if k then "both" else "together"), .str "both"] = some (.bl k) := by
  cases k
  · rw [if_neg (by decide), eq_lit (by decide +kernel) (by decide +kernel), show (("together" : Str) == "both") = false by decide +kernel]
  · rw [if_pos rfl, eq_lit (by decide +kernel) (by decide +kernel), beq_self_eq_true]
def sizes (ws : List Sh) : Nat := (ws.map size).sum
theorem pop_snoc {ds : List D} {d : D} : lPop (ds ++ [d]) [] = some (ds, d) := by
  unfold lPop
  simp
theorem li_turn_lt (fu : Nat) (x : D) (fs ws : List D) (n : List Nat) (p : Bool) (t : Option D) (hf : fs.length < sizeLine) :
    b_letters_in_1 fu [some x, some (.lst true fs), some (.lst true (ws ++ [enc (.lt n p)])), t] = .ok .nx [some x, some (.lst true (fs ++ [encL (n, p)])), some (.lst true ws), some (enc (.lt n p))] := by
  have ot : oTup [S n, .bl p] = some (encL (n, p)) := rfl
  simp [b_letters_in_1, mRef, pop_snoc, share_enc]
  simp [enc, eqLL, ot, hf]
theorem li_turn_nd (fu : Nat) (x : D) (fs ws : List D) (k : Bool) (a b : Sh) (t : Option D) (hf : ws.length + 1 < sizeLine) :
    b_letters_in_1 fu [some x, some (.lst true fs), some (.lst true (ws ++ [enc (.nd k a b)])), t] = .ok .nx [some x, some (.lst true fs), some (.lst true (ws ++ [enc b, enc a])), some (enc (.nd k a b))] := by
  have h1 : ws.length < sizeLine := by omega
  simp [b_letters_in_1, mRef, pop_snoc, share_enc]
  simp [enc, eqKL, if_sh, shrd_enc, h1, hf]
theorem size_pos : ∀ s, 0 < size s
  | .lt _ _ => Nat.one_pos
  | .nd _ a b => by unfold size; omega
theorem li_loop (fu : Nat) (x : D) : ∀ (n : Nat) (rs : List Sh) (fs : List D) (t : Option D), (rs.map size).sum < n → fs.length + (rs.map size).sum < 1000 →
    ∃ t', mWhile (c_letters_in_0 fu) (b_letters_in_1 fu) n [some x, some (.lst true fs), some (.lst true (rs.reverse.map enc)), t] =
      .ok .nx [some x, some (.lst true (fs ++ ((rs.map letters).flatten).map encL)), some (.lst true []), t']
  | 0, rs, fs, t, h, _ => absurd h (Nat.not_lt_zero _)
  | n + 1, [], fs, t, h, hz => ⟨t, by
      rw [ev_while]
      simp [c_letters_in_0, mRef]⟩
  | n + 1, .lt m p :: rs, fs, t, h, hz => by
    have hs : (List.map size (.lt m p :: rs)).sum = (rs.map size).sum + 1 := by simp [size]; omega
    rw [hs] at h hz
    obtain ⟨t', e⟩ := li_loop fu x n rs (fs ++ [encL (m, p)]) (some (enc (.lt m p))) (by omega) (by simp; omega)
    refine ⟨t', ?_⟩
    rw [ev_while]
    have ec : c_letters_in_0 fu [some x, some (.lst true fs), some (.lst true ((Sh.lt m p :: rs).reverse.map enc)), t] = .ok true [some x, some (.lst true fs), some (.lst true ((Sh.lt m p :: rs).reverse.map enc)), t] := by
      simp [c_letters_in_0, mRef]
    rw [ec, ev_bok, if_pos rfl, ev_bind, List.reverse_cons, List.map_append, List.map_cons, List.map_nil, li_turn_lt fu x fs (rs.reverse.map enc) m p t (szL (by omega)), ev_bok, ev_lpN, e]
    simp [letters]
  | n + 1, .nd k a b :: rs, fs, t, h, hz => by
    have hs : (List.map size (.nd k a b :: rs)).sum = ((a :: b :: rs).map size).sum + 1 := by simp [size]; omega
    have hl : rs.length ≤ (rs.map size).sum := by
      clear h hz hs
      induction rs with
      | nil => simp
      | cons s rs ih => have := size_pos s; simp; omega
    have hs2 : ((a :: b :: rs).map size).sum = size a + (size b + (rs.map size).sum) := by simp
    rw [hs] at h hz
    obtain ⟨t', e⟩ := li_loop fu x n (a :: b :: rs) fs (some (enc (.nd k a b))) (by omega) (by omega)
    refine ⟨t', ?_⟩
    rw [ev_while]
    have ec : c_letters_in_0 fu [some x, some (.lst true fs), some (.lst true ((Sh.nd k a b :: rs).reverse.map enc)), t] = .ok true [some x, some (.lst true fs), some (.lst true ((Sh.nd k a b :: rs).reverse.map enc)), t] := by
      simp [c_letters_in_0, mRef]
    have er : (a :: b :: rs).reverse.map enc = rs.reverse.map enc ++ [enc b, enc a] := by simp
    rw [er] at e
    have := size_pos a
    have := size_pos b
    rw [ec, ev_bok, if_pos rfl, ev_bind, List.reverse_cons, List.map_append, List.map_cons, List.map_nil, li_turn_nd fu x fs (rs.reverse.map enc) k a b t (szL (by simp; omega)), ev_bok, ev_lpN, e]
    simp [letters]
theorem letters_ok (fu : Nat) (s : Sh) (h : size s < 1000) (hf : 1000 ≤ fu) : den_letters_in fu [enc s] = .ok (.lst true ((letters s).map encL)) [] := by
  obtain ⟨t', e⟩ := li_loop fu (enc s) fu [s] [] none (by simp; omega) (by simpa using h)
  have e0 : ([s] : List Sh).reverse.map enc = [enc s] := rfl
  have e1 : ((([s] : List Sh).map letters).flatten).map encL = (letters s).map encL := by simp
  rw [e0, e1, List.nil_append] at e
  have el : oLst [] = some (.lst true []) := rfl
  have el1 : oLst [enc s] = some (.lst true [enc s]) := rfl
  refine run_rt (env := [some (enc s), none, none, none]) (en := [some (enc s), none, some (.lst true []), t']) ?_ rfl
  unfold m_letters_in
  rw [then_ok (e := [some (enc s), some (.lst true []), none, none]) (by simp [el]), then_ok (e := [some (enc s), some (.lst true []), some (.lst true [enc s]), none]) (by simp [mRef, shrd_enc, el1]), then_ok e]
  rfl
theorem ev_chain {g1 g2 : Int → Int → Bool} {f g h : M Hd} {env : VS.Env} : mChain g1 g2 f g h env = (mInt f env).bind fun i => M.bind (mInt g) fun j => if g1 i j = true then M.bind (mInt h) fun k => M.ret (.bl (g2 j k)) else M.ret (.bl false) := rfl
theorem ev_int {f : M Hd} {env : VS.Env} : mInt f env = (f env).bind fun h env => match h.get env with
  | some (.int i) => .ok i env
  | _ => .stk := rfl
def alpha : List Nat := [97, 98, 99, 100, 101, 102, 103, 104, 105, 106, 107, 108, 109, 110, 111, 112, 113, 114, 115, 116, 117, 118, 119, 120, 121, 122]
theorem s_alpha : Str.ofString "abcdefghijklmnopqrstuvwxyz" = ⟨alpha.toArray⟩ := by decide +kernel
def nameOk (n : List Nat) : Bool := (decide (0 < n.length) && decide (n.length ≤ 8)) && n.all fun c => decide (c ∈ alpha)
theorem bs_map (n : List Nat) (f : Nat → Bool) : bsOf (n.map fun c => D.bl (f c)) = some (n.map f) := by
  induction n with
  | nil => rfl
  | cons c n ih =>
    rw [List.map_cons]
    unfold bsOf
    rw [ih]
    rfl
theorem all_map (n : List Nat) (f : Nat → Bool) : oAll [.lst true (n.map fun c => D.bl (f c))] = some (.bl (n.all f)) := by
  show (bsOf (n.map fun c => D.bl (f c))).map (fun is => D.bl (is.all id)) = _
  rw [bs_map]
  simp [List.all_map, Function.comp_def]
def chIn : D → D
  | .str x => .bl (decide (x.cps.toList.headD 0 ∈ alpha))
  | _ => .non
theorem is_name_ok (fu : Nat) (n : List Nat) (hn : n.length < 100000) : den_is_name fu [S n] = .ok (.bl (nameOk n)) [] := by
  have hl : oLen [S n] = some (.int n.length) := ov_lenS (Nat.le_of_lt (szL hn))
  have hc : mLc [1] (.nm 1) (mItems (mRef 0)) (M.ret true) (e_is_name_0 fu) [some (S n), none] = .ok (.lst true ((n.map fun c => D.str ⟨#[c]⟩).map chIn)) [some (S n), none] := by
    refine lc_ok (e := [some (S n), none]) (items := n.map fun c => .str ⟨#[c]⟩) (by simp [mRef]) (Nat.lt_succ_self 1) (fun x hx => ?_) (by simpa using szL hn)
    obtain ⟨c, _, rfl⟩ := List.mem_map.mp hx
    have hi : oIn [.str ⟨#[c]⟩, S alpha] = some (.bl (decide (c ∈ alpha))) := ov_inS
    simp [e_is_name_0, mRef, s_alpha, hi, chIn]
  have hm : ((n.map fun c => D.str ⟨#[c]⟩).map chIn) = n.map fun c => D.bl (decide (c ∈ alpha)) := by simp [chIn, Function.comp_def]
  rw [hm] at hc
  refine run_rt (env := [some (S n), none]) (en := [some (S n), none]) ?_ rfl
  unfold m_is_name nameOk
  by_cases h0 : 0 < n.length
  · by_cases h8 : n.length ≤ 8
    · have h8' : (n.length : Int) ≤ 8 := by omega
      simp [ev_chain, ev_int, mRef, hl, h0, h8, h8', hc, all_map, List.length_pos_iff.mp h0]
    · have h8' : ¬ (n.length : Int) ≤ 8 := by omega
      simp [ev_chain, ev_int, mRef, hl, h0, h8, h8', List.length_pos_iff.mp h0]
  · have : n = [] := by cases n with
      | nil => rfl
      | cons _ _ => simp at h0
    subst this
    simp [ev_chain, ev_int, mRef, hl]
def badOf : List (List Nat × Bool) → Option (List Nat)
  | [] => none
  | (n, _) :: r => if nameOk n = true then badOf r else some n
theorem ev_raise {c : String} {f : Str} {fe : M D} {env : VS.Env} : mRaise c f fe env = (fe env).bind fun d env => .exc c [(f, share d)] env := rfl
theorem ki_body_ok (fu : Nat) (a b c : Option D) (n : List Nat) (p : Bool) (hn : n.length < 100000) (h : nameOk n = true) : b_Kinddd_initdd_0 fu [a, b, c, some (S n), some (.bl p)] = .ok .nx [a, b, c, some (S n), some (.bl p)] := by
  simp [b_Kinddd_initdd_0, mRef, is_name_ok fu n hn, h]
theorem ki_body_bad (fu : Nat) (a b c : Option D) (n : List Nat) (p : Bool) (hn : n.length < 100000) (h : nameOk n = false) : b_Kinddd_initdd_0 fu [a, b, c, some (S n), some (.bl p)] = .exc "BadName" [("name", S n)] [a, b, c, some (S n), some (.bl p)] := by
  simp [b_Kinddd_initdd_0, mRef, is_name_ok fu n hn, h, ev_raise]
theorem ki_loop (fu : Nat) (a b c : Option D) : ∀ (l : List (List Nat × Bool)) (x y : Option D), (∀ q ∈ l, q.1.length < 100000) →
    (badOf l = none → ∃ x' y', forL (.tp [.nm 3, .nm 4]) (b_Kinddd_initdd_0 fu) (l.map encL) [a, b, c, x, y] = .ok .nx [a, b, c, x', y']) ∧
    (∀ n, badOf l = some n → ∃ en, forL (.tp [.nm 3, .nm 4]) (b_Kinddd_initdd_0 fu) (l.map encL) [a, b, c, x, y] = .exc "BadName" [("name", S n)] en)
  | [], x, y, _ => ⟨fun _ => ⟨x, y, rfl⟩, fun n h => by cases h⟩
  | (n, p) :: l, x, y, hl => by
    have hn : n.length < 100000 := hl (n, p) (by simp)
    have hb : bindT (.tp [.nm 3, .nm 4]) (encL (n, p)) [a, b, c, x, y] = some [a, b, c, some (S n), some (.bl p)] := by
      unfold encL
      simp
    obtain ⟨i1, i2⟩ := ki_loop fu a b c l (some (S n)) (some (.bl p)) fun q hq => hl q (by simp [hq])
    rw [List.map_cons, ev_forC, hb]
    dsimp only
    by_cases h : nameOk n = true
    · rw [ki_body_ok fu a b c n p hn h, ev_bok, ev_lpN]
      have e : badOf ((n, p) :: l) = badOf l := if_pos h
      rw [e]
      exact ⟨i1, i2⟩
    · have h' : nameOk n = false := Bool.eq_false_iff.mpr h
      rw [ki_body_bad fu a b c n p hn h', ev_bexc]
      have e : badOf ((n, p) :: l) = some n := if_neg h
      rw [e]
      exact ⟨(fun z => by cases z), (fun m z => by cases z; exact ⟨_, rfl⟩)⟩
def Named (s : Sh) : Prop := ∀ q ∈ letters s, q.1.length < 100000
theorem shareL_map0 (l : List (List Nat × Bool)) : shareL (l.map encL) = l.map encL := by
  induction l with
  | nil => rfl
  | cons q l ih => rw [List.map_cons, sh_cons, ih]; rfl
/-- Kind(shape) -/
def kindO (s : Sh) : R D → Prop := fun r =>
  if 40 < (letters s).length then ∃ en, r = .exc "TooLarge" [("limit", .int 40)] en
  else match badOf (letters s) with
    | some n => ∃ en, r = .exc "BadName" [("name", S n)] en
    | none => r = .ok .non [some (.obj true "Kind" [("shape", enc s)])]
theorem kind_init (fu : Nat) (s : Sh) (h : size s < 1000) (hf : 1000 ≤ fu) (hn : Named s) : kindO s (den_Kinddd_initdd fu [.obj true "Kind" [], enc s]) := by
  unfold kindO
  have hs := shrd_enc s
  have e1 : mAsg (.nm 2) (mShr (mCall [] (den_letters_in fu) (mCons (mRef 1) mNil))) [some (.obj true "Kind" []), some (enc s), none, none, none] = .ok .nx [some (.obj true "Kind" []), some (enc s), some (.lst false ((letters s).map encL)), none, none] := by
    simp [mRef, hs, letters_ok fu s h hf, shareL_map0]
  have ec : oConI cons_MOST_LETTERS "MOST_LETTERS" 40 [.obj true "Kind" []] = some (.int 40) := by
    show (if cons_MOST_LETTERS.contains "Kind" = true ∧ ([] : List (Str × D)).lookup ("MOST_LETTERS" : Str) = none then some (D.int 40) else none) = _
    rw [if_pos ⟨by decide, rfl⟩]
  by_cases h40 : 40 < (letters s).length
  · have h40' : (40 : Int) < ((letters s).length : Int) := by omega
    rw [if_pos h40]
    refine ⟨_, run_exc (env := [some (.obj true "Kind" []), some (enc s), none, none, none]) (en := [some (.obj true "Kind" []), some (enc s), some (.lst false ((letters s).map encL)), none, none]) ?_ rfl⟩
    unfold m_Kinddd_initdd
    rw [then_ok e1]
    refine then_exc ?_
    simp [mRef, ec, h40', ev_raise]
  · have h40' : ¬ (40 : Int) < ((letters s).length : Int) := by omega
    rw [if_neg h40]
    have e2 : mIf (mB (mOp oGt (m2 (M.bind (mOp oLen (m1 (mRef 2))) fun d => M.ret (Hd.val d)) (M.bind (mOp (oConI cons_MOST_LETTERS "MOST_LETTERS" 40) (m1 (mRef 0))) fun d => M.ret (Hd.val d))))) (mRaise "TooLarge" "limit" (mOp (oConI cons_MOST_LETTERS "MOST_LETTERS" 40) (m1 (mRef 0)))) mNx
        [some (.obj true "Kind" []), some (enc s), some (.lst false ((letters s).map encL)), none, none] = .ok .nx [some (.obj true "Kind" []), some (enc s), some (.lst false ((letters s).map encL)), none, none] := by
      simp [mRef, ec, h40']
    have ei : mItems (mRef 2) [some (.obj true "Kind" []), some (enc s), some (.lst false ((letters s).map encL)), none, none] = .ok ((letters s).map encL) [some (.obj true "Kind" []), some (enc s), some (.lst false ((letters s).map encL)), none, none] := by
      simp [mRef]
    obtain ⟨i1, i2⟩ := ki_loop fu (some (.obj true "Kind" [])) (some (enc s)) (some (.lst false ((letters s).map encL))) (letters s) none none hn
    cases q : badOf (letters s) with
    | some n =>
      obtain ⟨en, e⟩ := i2 n q
      refine ⟨_, run_exc (env := [some (.obj true "Kind" []), some (enc s), none, none, none]) (en := en) ?_ rfl⟩
      unfold m_Kinddd_initdd
      rw [then_ok e1, then_ok e2]
      refine then_exc ?_
      rw [ev_for, ei, ev_bok, e]
    | none =>
      obtain ⟨x', y', e⟩ := i1 q
      have e3 : mSetF 0 flds_shape "shape" (mTake (mRef 1)) [some (.obj true "Kind" []), some (enc s), some (.lst false ((letters s).map encL)), x', y'] = .ok .nx [some (.obj true "Kind" [("shape", enc s)]), some (enc s), some (.lst false ((letters s).map encL)), x', y'] := by
        unfold mSetF
        have : "Kind" ∈ flds_shape := List.mem_singleton.mpr rfl
        simp [mRef, hs, this, putD]
      refine (run_nx (env := [some (.obj true "Kind" []), some (enc s), none, none, none]) (en := [some (.obj true "Kind" [("shape", enc s)]), some (enc s), some (.lst false ((letters s).map encL)), x', y']) ?_ rfl).trans rfl
      unfold m_Kinddd_initdd
      rw [then_ok e1, then_ok e2, then_ok (by rw [ev_for, ei, ev_bok, e])]
      exact e3
theorem addS {a b : List Nat} (h : a.length + b.length < 100000) : oAdd [S a, S b] = some (S (a ++ b)) := ov_addS (Nat.le_of_lt (szL h))
theorem shrdL_map (l : List (List Nat × Bool)) : shrdL (l.map encL) = true := by
  induction l with
  | nil => rfl
  | cons q l ih => rw [List.map_cons, sr_cons, ih]; rfl
theorem lletters_ok (fu : Nat) : ∀ (s : Sh) (n : Nat), depth s < n → size s < 1000 → ∃ o, den__law_letters fu n [enc s] = .ok (.lst o ((letters s).map encL)) []
  | s, 0, h, _ => absurd h (Nat.not_lt_zero _)
  | .lt m p, n + 1, h, hz => by
    refine ⟨true, run_rt (env := [some (enc (.lt m p))]) (en := [some (enc (.lt m p))]) ?_ rfl⟩
    have ot : oTup [S m, .bl p] = some (encL (m, p)) := rfl
    have ol : oLst [encL (m, p)] = some (.lst true [encL (m, p)]) := rfl
    simp [m__law_letters, mRef, enc, eqLL, if_sh, ot, ol, letters]
  | .nd k a b, n + 1, h, hz => by
    have hd : max (depth a) (depth b) + 1 < n + 1 := h
    have hs : size a + size b + 1 < 1000 := hz
    obtain ⟨o1, ia⟩ := lletters_ok fu a n (by omega) (by omega)
    obtain ⟨o2, ib⟩ := lletters_ok fu b n (by omega) (by omega)
    have hl : ∀ s, (letters s).length ≤ size s := fun s => by
      induction s with
      | lt _ _ => simp [letters, size]
      | nd _ a b h1 h2 => simp [letters, size]; omega
    have := hl a
    have := hl b
    refine ⟨true, run_rt (env := [some (enc (.nd k a b))]) (en := [some (enc (.nd k a b))]) ?_ rfl⟩
    have ha : oAdd [.lst o1 ((letters a).map encL), .lst o2 ((letters b).map encL)] = some (.lst true ((letters a).map encL ++ (letters b).map encL)) := by
      show (if shrdL _ = true ∧ shrdL _ = true ∧ _ then some (D.lst true _) else none) = _
      rw [if_pos ⟨shrdL_map _, shrdL_map _, Nat.le_of_lt (szL (by simp; omega))⟩]
    simp [m__law_letters, mRef, enc, eqKL, if_sh, shrd_enc, ia, ib, ha, letters]
theorem uni1 {c : Nat} (h : c < 0x110000) : Uni [c] := fun x hx => by rw [List.mem_singleton.mp hx]; exact h
def isA (c : Nat) : Bool := decide (c ∈ alpha)
/-- a name that the reader took: letters only, and at least one -/
def Read (n : List Nat) : Prop := n ≠ [] ∧ ∀ c ∈ n, isA c = true
theorem nameOk_read {n : List Nat} (h : Read n) : nameOk n = decide (n.length ≤ 8) := by
  have h1 : n.all (fun c => decide (c ∈ alpha)) = true := List.all_eq_true.mpr fun c hc => h.2 c hc
  have h2 : decide (0 < n.length) = true := decide_eq_true (List.length_pos_iff.mpr h.1)
  unfold nameOk
  rw [h1, h2, Bool.true_and, Bool.and_true]
theorem eq_self {d : D} {p : PyData} (h : pd d = some p) (hs : SeqAt.shaped p = true) : oEq [d, d] = some (.bl true) ∧ oNe [d, d] = some (.bl false) := by
  have r : PyData.eqv p p = true := PySem.SeqAt.eqv_refl p (SeqAt.canLay_of_shaped hs)
  constructor
  · show (match pd d, pd d with
      | some p, some q => if SeqAt.shaped p = true ∧ SeqAt.shaped q = true then some (D.bl (PyData.eqv p q)) else none
      | _, _ => none) = _
    rw [h]
    simp only [hs, r, and_self, if_true]
  · show (match pd d, pd d with
      | some p, some q => if SeqAt.shaped p = true ∧ SeqAt.shaped q = true then some (D.bl (!PyData.eqv p q)) else none
      | _, _ => none) = _
    rw [h]
    simp only [hs, r, and_self, if_true, Bool.not_true]
def encP : Sh → PyData
  | .lt n p => .tuple [.str "letter", .str ⟨n.toArray⟩, .bool p]
  | .nd k a b => .tuple [.str (if k then "both" else "together"), encP a, encP b]
theorem pd_enc : ∀ s, pd (enc s) = some (encP s)
  | .lt n p => by simp [enc, encP, pd, pdL]
  | .nd k a b => by simp [enc, encP, pd, pdL, pd_enc a, pd_enc b]
theorem uniS {l : List Nat} (h : Uni l) : PyData.strOk ⟨l.toArray⟩ = true := by
  unfold PyData.strOk
  show (PySem.Str.mk l.toArray).cps.all (fun c => decide (c < 0x110000)) = true
  rw [List.all_toArray]
  exact List.all_eq_true.mpr fun c hc => decide_eq_true (h c hc)
theorem word_ok (k : Bool) : PyData.strOk (if k then "both" else "together") = true := by cases k <;> decide +kernel
theorem lay_enc : ∀ s, (∀ q ∈ letters s, Uni q.1) → (encP s).canLay0 = true ∧ (encP s).depth = depth s + 1
  | .lt n p, h => by
    have h1 := uniS (h (n, p) (by simp [letters]))
    have h2 : PyData.strOk "letter" = true := by decide +kernel
    constructor
    · simp [encP, PyData.canLay0, PyData.canLayAll0, h1, h2]
    · simp [encP, PyData.depth, PyData.depthAll, depth]
  | .nd k a b, h => by
    obtain ⟨a1, a2⟩ := lay_enc a fun q hq => h q (by simp [letters, hq])
    obtain ⟨b1, b2⟩ := lay_enc b fun q hq => h q (by simp [letters, hq])
    have hk := word_ok k
    constructor
    · simp [encP, PyData.canLay0, PyData.canLayAll0, a1, b1, hk]
    · simp [encP, PyData.depth, PyData.depthAll, depth, a2, b2]
theorem isA_lt {c : Nat} (h : isA c = true) : c < 0x110000 := by
  have h' : c ∈ alpha := of_decide_eq_true h
  have : ∀ d ∈ alpha, d < 0x110000 := by decide
  exact this c h'
theorem Read.uni {n : List Nat} (h : Read n) : Uni n := fun c hc => isA_lt (h.2 c hc)
theorem isA_40 : isA 40 = false := by decide
theorem depth_lt : ∀ s, depth s < (letters s).length
  | .lt _ _ => Nat.one_pos
  | .nd _ a b => by
    have := depth_lt a; have := depth_lt b
    simp only [depth, letters, List.length_append]
    omega
theorem letters_pos (s : Sh) : 0 < (letters s).length := Nat.lt_of_le_of_lt (Nat.zero_le _) (depth_lt s)
theorem size_letters : ∀ s, size s + 1 = 2 * (letters s).length
  | .lt _ _ => rfl
  | .nd _ a b => by
    have := size_letters a; have := size_letters b
    simp only [size, letters, List.length_append]
    omega
def kindD (o : Bool) (s : Sh) : D := .obj o "Kind" [("shape", enc s)]
theorem try_ok {ct : List (String × Bool)} {i : Nat} {fb fs : M Fl} {env e : VS.Env} {fl : Fl} (h : fb env = .ok fl e) : mTry ct i fb fs env = .ok fl e := by
  unfold mTry
  rw [h]
theorem try_exc {ct : List (String × Bool)} {i : Nat} {fb fs : M Fl} {env e e2 : VS.Env} {fl : Fl} {c : String} {fds : List (Str × D)} (h : fb env = .exc c fds e) (hc : ct.lookup c = some true) (hi : i < e.length) (h2 : fs (e.set i (some (.exn c fds))) = .ok fl e2) (hx : (fl.xfr && xfrE (e2.set i none)) = true) :
    mTry ct i fb fs env = .ok fl (e2.set i none) := by
  unfold mTry
  rw [h]
  simp only [hc]
  rw [if_pos hi, h2]
  simp only
  rw [if_pos hx]
theorem isi_kind (o : Bool) (s : Sh) : oIsi isis_Kind [kindD o s] = some (.bl true) := by
  show ((isis_Kind.lookup (Tag.c "Kind")).map D.bl) = _
  rw [show isis_Kind.lookup (Tag.c "Kind") = some true by decide]
  rfl
theorem fld_kind (o : Bool) (s : Sh) : oFld flds_shape "shape" [kindD o s] = some (enc s) := by
  have : flds_shape.contains "Kind" = true := by decide
  show (if flds_shape.contains "Kind" = true then (match List.lookup ("shape" : Str) [(("shape" : Str), enc s)] with
    | some d => if shrd d = true then some d else none
    | none => none) else none) = _
  rw [if_pos this]
  simp [List.lookup, shrd_enc]
theorem share_kind (o : Bool) (s : Sh) : share (kindD o s) = kindD false s := by
  simp [kindD, share, shareF, share_enc]
abbrev drD (l : List Int) : D := .lst false (l.map .int)
theorem ixLit {a : List Nat} {r : Int} (ha : a.length ≤ 1000) (h0 : 0 ≤ r) (h1 : r < a.length) : oIx [S a, .int r] = some (S [a[r.toNat]'(by omega)]) := by
  obtain ⟨k, rfl⟩ := Int.eq_ofNat_of_zero_le h0
  exact ov_ixS (Nat.le_trans ha (Nat.le_of_lt (szL (by decide)))) (by omega)
theorem ixAlpha {r : Int} (h0 : 0 ≤ r) (h1 : r < 26) : ∃ c, isA c = true ∧ oIx [S alpha, .int r] = some (S [c]) := by
  have hl : alpha.length = 26 := by decide
  refine ⟨_, ?_, ixLit (by omega) h0 (by omega)⟩
  exact decide_eq_true (List.getElem_mem _)
def abyz : List Nat := [97, 98, 121, 122]
theorem s_abyz : Str.ofString "abyz" = ⟨abyz.toArray⟩ := by decide +kernel
theorem ixAbyz {r : Int} (h0 : 0 ≤ r) (h1 : r < 4) : ∃ c, isA c = true ∧ oIx [S abyz, .int r] = some (S [c]) := by
  have hl : abyz.length = 4 := by decide
  refine ⟨_, ?_, ixLit (by omega) h0 (by omega)⟩
  have : ∀ c ∈ abyz, isA c = true := by decide
  exact this _ (List.getElem_mem _)
theorem name_loop (fu : Nat) (l : List Int) (hl : l ≠ []) (at_ : Int) : ∀ (ks : List Nat) (m : List Nat) (kk : Option D), (∀ c ∈ m, isA c = true) → m.length + ks.length < 1000 →
    ∃ m' kk', m'.length = m.length + ks.length ∧ (∀ c ∈ m', isA c = true) ∧ forL (.nm 3) (b__law_name_0 fu) (ks.map fun (k : Nat) => D.int k) [some (drD l), some (.int at_), some (S m), kk] =
      .ok .nx [some (drD l), some (.int at_), some (S m'), kk']
  | [], m, kk, hm, _ => ⟨m, kk, by simp, hm, rfl⟩
  | k :: ks, m, kk, hm, hz => by
    obtain ⟨r, ⟨r0, r1, _⟩, hr⟩ := pick_ok fu l (at_ + 1 + k) 26 hl
    obtain ⟨c, hc, hx⟩ := ixAlpha r0 (r1 (by decide))
    have ha : oAdd [S m, S [c]] = some (S (m ++ [c])) := addS (by simp at hz ⊢; omega)
    have hs : b__law_name_0 fu [some (drD l), some (.int at_), some (S m), some (.int k)] = .ok .nx [some (drD l), some (.int at_), some (S (m ++ [c])), some (.int k)] := by
      simp [b__law_name_0, mRef, hr, s_alpha, hx, ha]
    obtain ⟨m', kk', i1, i2, i3⟩ := name_loop fu l hl at_ ks (m ++ [c]) (some (.int k)) (fun d hd => by
      rcases List.mem_append.mp hd with h | h
      · exact hm d h
      · rw [List.mem_singleton.mp h]; exact hc) (by simp at hz ⊢; omega)
    refine ⟨m', kk', by rw [i1]; simp; omega, i2, ?_⟩
    rw [List.map_cons, ev_forC]
    simp only [ev_nm, List.length_cons, List.length_nil, List.set_cons_succ, List.set_cons_zero]
    rw [if_pos (by decide)]
    dsimp only
    rw [hs]
    exact i3
/-- a drawn name -/
def Nm (n : List Nat) : Prop := Read n ∧ n.length ≤ 8
theorem s_nil : Str.ofString "" = ⟨([] : List Nat).toArray⟩ := by decide +kernel
theorem name_ok (fu : Nat) (l : List Int) (hl : l ≠ []) (at_ : Int) : ∃ n, Nm n ∧ den__law_name fu [drD l, .int at_] = .ok (S n) [] := by
  obtain ⟨r, ⟨r0, r1, _⟩, hr⟩ := pick_ok fu l at_ 8 hl
  obtain ⟨q, rfl⟩ := Int.eq_ofNat_of_zero_le r0
  have hq : q < 8 := by have := r1 (by decide); omega
  obtain ⟨m, kk, h1, h2, h3⟩ := name_loop fu l hl at_ (List.range (1 + q)) [] none (fun c h => by cases h) (by simp; omega)
  have hm : m.length = 1 + q := by simpa using h1
  refine ⟨m, ⟨⟨fun e => by rw [e] at hm; simp at hm; omega, h2⟩, by omega⟩, ?_⟩
  have hr' : den__law_pick fu [.lst false (l.map .int), .int at_, .int 8] = .ok (.int (q : Nat)) [] := hr
  refine run_rt (env := [some (drD l), some (.int at_), none, none]) (en := [some (drD l), some (.int at_), none, kk]) ?_ rfl
  unfold m__law_name
  have e1 : (1 : Int) + (q : Nat) = ((1 + q : Nat) : Int) := by omega
  rw [then_ok (e := [some (drD l), some (.int at_), some (S []), none]) (by simp [s_nil]), then_ok (e := [some (drD l), some (.int at_), some (S m), kk])]
  · simp
  · rw [ev_for, ev_m1, ev_rngN (n := 1 + q) (hs := [.val (.int ((1 + q : Nat) : Int))]) (e := [some (drD l), some (.int at_), some (S []), none]) (by omega) (by simp [mRef, hr']) (by simp), ev_bok]
    exact h3
theorem lc_ex {α : Type} [Inhabited α] {i : Nat} {fi : M (List D)} {fe : M D} {env e : VS.Env} {items : List D} (en : α → D) {Q : α → Prop} (hf : fi env = .ok items e) (hi : i < e.length)
    (h : ∀ x ∈ items, ∃ a, Q a ∧ fe ((e.set i none).set i (some x)) = .ok (en a) ((e.set i none).set i (some x))) (hz : items.length < sizeLine) :
    ∃ as : List α, as.length = items.length ∧ (∀ a ∈ as, Q a) ∧ mLc [i] (.nm i) fi (M.ret true) fe env = .ok (.lst true (as.map en)) (restore [i] e (e.set i none)) := by
  classical
  let P : D → α → Prop := fun x a => Q a ∧ fe ((e.set i none).set i (some x)) = .ok (en a) ((e.set i none).set i (some x))
  let f : D → α := fun x => if hx : ∃ a, P x a then Classical.choose hx else default
  have hfx : ∀ x ∈ items, P x (f x) := fun x hx => by
    have hx' : ∃ a, P x a := h x hx
    have : f x = Classical.choose hx' := dif_pos hx'
    rw [this]
    exact Classical.choose_spec hx'
  refine ⟨items.map f, by simp, fun a ha => ?_, ?_⟩
  · obtain ⟨x, hx, rfl⟩ := List.mem_map.mp ha
    exact (hfx x hx).1
  · have := lc_ok (g := fun x => en (f x)) hf hi (fun x hx => (hfx x hx).2) hz
    rw [this]
    simp
theorem cut3 {b : List Nat} {k : Nat} {c : Nat} (hk : k < b.length) (h8 : b.length ≤ 1000) :
    dSl (S b) none (some (k : Int)) = some (S (b.take k)) ∧ dSl (S b) (some ((k : Int) + 1)) none = some (S (b.drop (k + 1))) :=
  ⟨ov_cutT (Nat.le_trans h8 (Nat.le_of_lt (szL (by decide)))) (by omega), ov_cutF (k := k + 1) (Nat.le_trans h8 (Nat.le_of_lt (szL (by decide)))) (by omega)⟩
theorem nm_put {b : List Nat} {k c : Nat} (hb : Nm b) (hk : k < b.length) (hc : isA c = true) : Nm (b.take k ++ [c] ++ b.drop (k + 1)) := by
  refine ⟨⟨by simp, fun d hd => ?_⟩, ?_⟩
  · simp only [List.mem_append, List.mem_singleton] at hd
    rcases hd with (h | h) | h
    · exact hb.1.2 d (List.mem_of_mem_take h)
    · rw [h]; exact hc
    · exact hb.1.2 d (List.mem_of_mem_drop h)
  · have := hb.2
    simp
    omega
theorem names_turn (fu : Nat) (l : List Int) (hl : l ≠ []) (x m : D) {b : List Nat} {p : Nat} (hb : Nm b) (hp : p < b.length) (ns : List (List Nat)) (k : Nat) (z : Option D) (hz : ns.length < 1000) :
    ∃ n z', Nm n ∧ b__law_names_1 fu [some (drD l), some x, some m, some (S b), some (.int p), some (.lst true (ns.map S)), some (.int k), z] = .ok .nx [some (drD l), some x, some m, some (S b), some (.int p), some (.lst true ((ns ++ [n]).map S)), some (.int k), z'] := by
  obtain ⟨r, ⟨r0, r1, _⟩, hr⟩ := pick_ok fu l (9 + k) 4 hl
  obtain ⟨c, hc, hx⟩ := ixAbyz r0 (r1 (by decide))
  obtain ⟨c1, c2⟩ := cut3 (c := c) hp (by have := hb.2; omega)
  have h8 := hb.2
  refine ⟨b.take p ++ [c] ++ b.drop (p + 1), some (S [c]), nm_put hb hp hc, ?_⟩
  have a1 : oAdd [S (b.take p), S [c]] = some (S (b.take p ++ [c])) := addS (by simp; omega)
  have a2 : oAdd [S (b.take p ++ [c]), S (b.drop (p + 1))] = some (S (b.take p ++ [c] ++ b.drop (p + 1))) := addS (by simp; omega)
  have hs : ns.length < sizeLine := szL (by omega)
  rw [List.append_assoc] at a2
  simp [b__law_names_1, mRef, hr, s_abyz, hx, mSl, mPart, c1, c2, a1, a2, hs]
theorem names_loop (fu : Nat) (l : List Int) (hl : l ≠ []) (x m : D) {b : List Nat} {p : Nat} (hb : Nm b) (hp : p < b.length) : ∀ (ks : List Nat) (ns : List (List Nat)) (kk z : Option D), (∀ n ∈ ns, Nm n) → ns.length + ks.length < 1000 →
    ∃ (ns' : List (List Nat)) (kk' z' : Option D), ns'.length = ns.length + ks.length ∧ (∀ n ∈ ns', Nm n) ∧ forL (.nm 6) (b__law_names_1 fu) (ks.map fun (k : Nat) => D.int k) [some (drD l), some x, some m, some (S b), some (.int p), some (.lst true (ns.map S)), kk, z] =
      .ok .nx [some (drD l), some x, some m, some (S b), some (.int p), some (.lst true (ns'.map S)), kk', z']
  | [], ns, kk, z, hm, _ => ⟨ns, kk, z, by simp, hm, rfl⟩
  | k :: ks, ns, kk, z, hm, hz => by
    obtain ⟨n, z1, hn, hs⟩ := names_turn fu l hl x m hb hp ns k z (by simp at hz; omega)
    obtain ⟨ns', kk', z', i1, i2, i3⟩ := names_loop fu l hl x m hb hp ks (ns ++ [n]) (some (.int k)) z1 (fun d hd => by
      rcases List.mem_append.mp hd with h | h
      · exact hm d h
      · rw [List.mem_singleton.mp h]; exact hn) (by simp at hz ⊢; omega)
    refine ⟨ns', kk', z', by rw [i1]; simp; omega, i2, ?_⟩
    rw [List.map_cons, ev_forC]
    simp only [ev_nm, List.length_cons, List.length_nil, List.set_cons_succ, List.set_cons_zero]
    rw [if_pos (by decide)]
    dsimp only
    rw [hs]
    exact i3
theorem names_s1 (fu : Nat) (l x : List Int) (many : Nat) {b : List Nat} (hbn : den__law_name fu [drD l, .int 0] = .ok (S b) []) : mAsg (.nm 3) (mShr (mCall [] (den__law_name fu) (mCons (mRef 0) (mCons (M.bind (M.ret (.int 0)) fun d => M.ret (Hd.val d)) mNil)))) [some (drD l), some (drD x), some (.int many), none, none, none, none, none] = .ok .nx [some (drD l), some (drD x), some (.int many), some (S b), none, none, none, none] := by
    simp [mRef, hbn]
theorem names_a (fu : Nat) (l x : List Int) (hl : l ≠ []) (many : Nat) (hm : many < 900) {b : List Nat} (hbn : den__law_name fu [drD l, .int 0] = .ok (S b) [])
    (hr : den__law_pick fu [drD x, .int 0, .int 2] = .ok (.int 0) []) : ∃ ns : List (List Nat), ns.length = many ∧ (∀ n ∈ ns, Nm n) ∧ den__law_names fu [drD l, drD x, .int many] = .ok (.lst true (ns.map S)) [] := by
  have hrng : mRng1 (m1 (mRef 2)) [some (drD l), some (drD x), some (.int many), some (S b), none, none, none, none] = .ok ((List.range many).map fun (k : Nat) => D.int k) [some (drD l), some (drD x), some (.int many), some (S b), none, none, none, none] :=
    ev_rngI (by omega) rfl
  obtain ⟨ns, n1, n2, n3⟩ := lc_ex (i := 6) (fe := e__law_names_0 fu) S (Q := Nm) hrng (by simp) (fun y hy => by
    obtain ⟨k, hk, rfl⟩ := List.mem_map.mp hy
    obtain ⟨n, hn, e⟩ := name_ok fu l hl (9 * k)
    refine ⟨n, hn, ?_⟩
    have l9 : (9 : Int).natAbs.log2 + (k : Int).natAbs.log2 < 1000000 := by
      have hk' : k < many := List.mem_range.mp hk
      have := log_small (i := (k : Int)) (by omega) (by omega)
      have : (9 : Int).natAbs.log2 < 100 := by decide
      omega
    simp only [Int.natAbs_natCast, show (9 : Int).natAbs = 9 from rfl] at l9
    simp [e__law_names_0, mRef, l9, e]) (szL (by simp; omega))
  refine ⟨ns, by simpa using n1, n2, ?_⟩
  have hL : (mIf (mB (mOp oEq (m2 (M.bind (mCall [] (den__law_pick fu) (mCons (mRef 1) (mCons (M.bind (M.ret (.int 0)) fun d => M.ret (Hd.val d)) (mCons (M.bind (M.ret (.int 2)) fun d => M.ret (Hd.val d)) mNil)))) fun d => M.ret (Hd.val d)) (M.bind (M.ret (.int 0)) fun d => M.ret (Hd.val d)))))
    (M.bind (mLc [6] (.nm 6) (mRng1 (m1 (mRef 2))) (M.ret true) (e__law_names_0 fu)) fun d => M.ret (Fl.rt d))
    mNx) [some (drD l), some (drD x), some (.int many), some (S b), none, none, none, none] = .ok (.rt (.lst true (ns.map S))) [some (drD l), some (drD x), some (.int many), some (S b), none, none, none, none] := by
    have hc : mB (mOp oEq (m2 (M.bind (mCall [] (den__law_pick fu) (mCons (mRef 1) (mCons (M.bind (M.ret (.int 0)) fun d => M.ret (Hd.val d)) (mCons (M.bind (M.ret (.int 2)) fun d => M.ret (Hd.val d)) mNil)))) fun d => M.ret (Hd.val d)) (M.bind (M.ret (.int 0)) fun d => M.ret (Hd.val d)))) [some (drD l), some (drD x), some (.int many), some (S b), none, none, none, none] = .ok true [some (drD l), some (drD x), some (.int many), some (S b), none, none, none, none] := by
      simp [mRef, hr, ov_eqI]
    rw [ev_if, hc, ev_bok, if_pos rfl, ev_bind, n3, ev_bok]
    rfl
  refine run_rt (env := [some (drD l), some (drD x), some (.int many), none, none, none, none, none]) (en := [some (drD l), some (drD x), some (.int many), some (S b), none, none, none, none]) ?_ rfl
  unfold m__law_names
  rw [then_ok (names_s1 fu l x many hbn)]
  exact then_rt hL
theorem names_b (fu : Nat) (l x : List Int) (hl : l ≠ []) (hx : x ≠ []) (many : Nat) (hm : many < 900) {b : List Nat} (hb : Nm b) (hbn : den__law_name fu [drD l, .int 0] = .ok (S b) []) {r : Int} (h0 : r ≠ 0)
    (hr : den__law_pick fu [drD x, .int 0, .int 2] = .ok (.int r) []) : ∃ ns : List (List Nat), ns.length = many ∧ (∀ n ∈ ns, Nm n) ∧ den__law_names fu [drD l, drD x, .int many] = .ok (.lst true (ns.map S)) [] := by
  have e0 : (r == 0) = false := by simpa using h0
  obtain ⟨p, ⟨p0, p1, p2⟩, hp⟩ := pick_ok fu x 1 b.length hx
  obtain ⟨q, rfl⟩ := Int.eq_ofNat_of_zero_le p0
  have hb0 : 0 < b.length := List.length_pos_iff.mpr hb.1.1
  have hq : q < b.length := by
    by_cases h2 : 2 ≤ b.length
    · have := p1 (by omega); omega
    · have := p2 (by omega); omega
  have hp' : den__law_pick fu [.lst false (x.map .int), .int 1, .int b.length] = .ok (.int (q : Nat)) [] := hp
  obtain ⟨ns, kk, z, n1, n2, n3⟩ := names_loop fu l hl (drD x) (.int many) hb hq (List.range many) [] none none (fun n h => by cases h) (by simp; omega)
  rw [List.map_nil] at n3
  refine ⟨ns, by simpa using n1, n2, ?_⟩
  refine run_rt (env := [some (drD l), some (drD x), some (.int many), none, none, none, none, none]) (en := [some (drD l), some (drD x), some (.int many), some (S b), some (.int q), none, kk, z]) ?_ rfl
  unfold m__law_names
  have el : oLst [] = some (.lst true []) := rfl
  have hbl : oLen [S b] = some (.int b.length) := ov_lenS (Nat.le_of_lt (szL (by have := hb.2; omega)))
  rw [then_ok (names_s1 fu l x many hbn), then_ok (e := [some (drD l), some (drD x), some (.int many), some (S b), none, none, none, none]) (by simp [mRef, hr, ov_eqI, e0]),
    then_ok (e := [some (drD l), some (drD x), some (.int many), some (S b), some (.int q), none, none, none]) (by simp [mRef, hbl, hp']),
    then_ok (e := [some (drD l), some (drD x), some (.int many), some (S b), some (.int q), some (.lst true []), none, none]) (by simp [el]),
    then_ok (e := [some (drD l), some (drD x), some (.int many), some (S b), some (.int q), some (.lst true (ns.map S)), kk, z])]
  · simp
  · rw [ev_for, ev_m1, ev_rngI (n := many) (by omega) rfl, ev_bok]
    exact n3
theorem names_ok (fu : Nat) (l x : List Int) (hl : l ≠ []) (hx : x ≠ []) (many : Nat) (hm : many < 900) : ∃ ns : List (List Nat), ns.length = many ∧ (∀ n ∈ ns, Nm n) ∧ den__law_names fu [drD l, drD x, .int many] = .ok (.lst true (ns.map S)) [] := by
  obtain ⟨b, hb, hbn⟩ := name_ok fu l hl 0
  obtain ⟨r, ⟨r0, r1, _⟩, hr⟩ := pick_ok fu x 0 2 hx
  by_cases h0 : r = 0
  · subst h0
    exact names_a fu l x hl many hm hbn hr
  · exact names_b fu l x hl hx many hm hb hbn h0 hr
theorem er_split {A B : List D} {a b : D} : (A ++ a :: b :: B).eraseIdx (A.length + 1) = A ++ a :: B := by
  induction A with
  | nil => rfl
  | cons c A ih => simpa using ih
theorem set_split {A B : List D} {a c : D} : (A ++ a :: B).set A.length c = A ++ c :: B := by
  induction A with
  | nil => rfl
  | cons d A ih => simp
theorem popAt_split {A B : List D} {a b : D} (hz : A.length < 1000) : lPopAt (A ++ a :: b :: B) [.int ((A.length : Int) + 1)] = some (A ++ a :: B, b) := by
  have hb : -(2 ^ 63) ≤ (A.length : Int) + 1 ∧ (A.length : Int) + 1 < 2 ^ 63 := by omega
  have hs : seqIndex? ((A.length : Int) + 1) (A ++ a :: b :: B).length = some (A.length + 1) := by
    unfold seqIndex?
    have h1 : ¬ ((A.length : Int) + 1 < 0) := by omega
    simp only [h1, if_false]
    rw [if_pos (by simp; omega)]
    congr 1
  have hg : (A ++ a :: b :: B)[A.length + 1]? = some b := by
    rw [List.getElem?_append_right (by omega), Nat.add_sub_cancel_left]
    rfl
  unfold lPopAt
  simp only [hs, hb, hg, er_split, and_self, if_true]
theorem mulLog {c k : Nat} (hc : c < 1000) (hk : k < 1000) : c.log2 + k.log2 < 1000000 := by
  have h : ∀ n : Nat, n < 1000 → n.log2 < 1000 := fun n hn => by
    have := log_small (i := (n : Int)) (by omega) (by omega)
    simpa using this
  have := h c hc; have := h k hk
  omega
theorem lm_step {i : Nat} {op : List D → List D → Option (List D × D)} {fa : M (List Hd)} {env : VS.Env} {hs : List Hd} {es ds ds' : List D} {d : D} (h0 : (env[i]?).join = some (.lst true ds)) (hf : fa env = .ok hs env) (ht : takeAll env hs = some es) (ho : op ds es = some (ds', d)) :
    mLm i op fa env = .ok d (env.set i (some (.lst true ds'))) := by
  rw [ev_lm, h0, hf, ev_bok]
  dsimp only
  rw [h0, ht]
  dsimp only
  rw [ho]
theorem shape_turn (fu : Nat) (l : List Int) (at_ : Int) (L : D) (A B : List D) (a b : D) (k : Nat) (w : Int) (z5 z6 z7 : Option D) (sa : shrd a = true) (sb : share b = b) (sb' : shrd b = true) (hA : A.length < 900) (hk : k < 900)
    (hp : den__law_pick fu [drD l, .int (at_ + 2 * (k : Int)), .int ((A.length : Int) + ((B.length : Int) + 1 + 1) - 1)] = .ok (.int A.length) []) (hw : den__law_pick fu [drD l, .int (at_ + 2 * (k : Int) + 1), .int 2] = .ok (.int w) []) :
    ∃ z5' z6' z7', b__law_shape_0 fu [some (drD l), some (.int at_), some L, some (.lst true (A ++ a :: b :: B)), some (.int k), z5, z6, z7] =
      .ok .nx [some (drD l), some (.int at_), some L, some (.lst true (A ++ .tup [.str (if w = 1 then "together" else "both"), a, b] :: B)), some (.int k), z5', z6', z7'] := by
  have l2 : (2 : Nat).log2 + k.log2 < 1000000 := mulLog (by omega) (by omega)
  have pa := popAt_split (A := A) (B := B) (a := a) (b := b) (by omega)
  have ix : L2.atI (A ++ a :: B) (A.length : Int) = some a := by rw [at_nat]; simp
  have ixn : ixN (A.length + (B.length + 1)) (A.length : Int) = some A.length := by unfold ixN; rw [if_pos (by omega), if_pos (by omega)]; rfl
  have st : ∀ c, (A ++ a :: B).set A.length c = A ++ c :: B := fun c => set_split
  have ot : ∀ x, oTup [x, a, b] = some (.tup [x, a, b]) := fun x => rfl
  have fin : ∀ x : Str, (mSetIx 3 (mTk oTup (mCons (mRef 7) (mCons (M.bind (mOp oIx (m2 (mRef 3) (mRef 5))) fun d => M.ret (Hd.val d)) (mCons (mRef 6) mNil)))) (mRef 5)) [some (drD l), some (.int at_), some L, some (.lst true (A ++ a :: B)), some (.int k), some (.int A.length), some b, some (.str x)] =
      .ok .nx [some (drD l), some (.int at_), some L, some (.lst true (A ++ .tup [.str x, a, b] :: B)), some (.int k), some (.int A.length), some b, some (.str x)] := fun x => by
    simp [mRef, ix, if_sh sa, mSetIx, mPair, isLst, ot, sb', ixn, st, sa]
  refine ⟨some (.int A.length), some b, some (.str (if w = 1 then "together" else "both")), ?_⟩
  unfold b__law_shape_0
  rw [then_ok (e := [some (drD l), some (.int at_), some L, some (.lst true (A ++ a :: b :: B)), some (.int k), some (.int A.length), z6, z7]) (by simp [mRef, l2, hp]),
    then_ok (e := [some (drD l), some (.int at_), some L, some (.lst true (A ++ a :: B)), some (.int k), some (.int A.length), some b, z7]) (by
      have q := lm_step (i := 3) (op := lPopAt) (fa := mCons (M.bind (mOp oAdd (m2 (mRef 5) (M.bind (M.ret (.int 1)) fun d => M.ret (Hd.val d)))) fun d => M.ret (Hd.val d)) mNil) (env := [some (drD l), some (.int at_), some L, some (.lst true (A ++ a :: b :: B)), some (.int k), some (.int A.length), z6, z7]) (hs := [.val (.int ((A.length : Int) + 1))]) rfl (by simp [mRef]) (by simp) pa
      rw [ev_asg, ev_shr, q, ev_bok]
      simp [sb]),
    then_ok (e := [some (drD l), some (.int at_), some L, some (.lst true (A ++ a :: B)), some (.int k), some (.int A.length), some b, some (.str "both")]) (by simp)]
  by_cases h1 : w = 1
  · rw [if_pos h1, then_ok (e := [some (drD l), some (.int at_), some L, some (.lst true (A ++ a :: B)), some (.int k), some (.int A.length), some b, some (.str "together")]) (by simp [mRef, l2, hw, h1, ov_eqI])]
    exact fin _
  · have h1' : (w == 1) = false := by simpa using h1
    rw [if_neg h1, then_ok (e := [some (drD l), some (.int at_), some L, some (.lst true (A ++ a :: B)), some (.int k), some (.int A.length), some b, some (.str "both")]) (by simp [mRef, l2, hw, h1', ov_eqI])]
    exact fin _
theorem split2 : ∀ (p : Nat) (ss : List Sh), p + 1 < ss.length → ∃ A a b B, ss = A ++ a :: b :: B ∧ A.length = p
  | 0, [], h => by simp at h
  | 0, [a], h => by simp at h
  | 0, a :: b :: B, h => ⟨[], a, b, B, rfl, rfl⟩
  | p + 1, [], h => by simp at h
  | p + 1, c :: ss, h => by
    obtain ⟨A, a, b, B, e, l⟩ := split2 p ss (by simpa using h)
    exact ⟨c :: A, a, b, B, by rw [e]; rfl, by simp [l]⟩
def flat (ss : List Sh) : List (List Nat × Bool) := (ss.map letters).flatten
theorem shape_loop (fu : Nat) (l : List Int) (hl : l ≠ []) (at_ : Int) (L : D) : ∀ (ks : List Nat) (ss : List Sh) (kk z5 z6 z7 : Option D), (∀ k ∈ ks, k < 900) → ss.length = ks.length + 1 → ss.length < 900 →
    ∃ (s : Sh) (kk' z5' z6' z7' : Option D), letters s = flat ss ∧ forL (.nm 4) (b__law_shape_0 fu) (ks.map fun (k : Nat) => D.int k) [some (drD l), some (.int at_), some L, some (.lst true (ss.map enc)), kk, z5, z6, z7] =
      .ok .nx [some (drD l), some (.int at_), some L, some (.lst true [enc s]), kk', z5', z6', z7']
  | [], ss, kk, z5, z6, z7, _, hs, hz => by
    match ss, hs with
    | [s], _ => exact ⟨s, kk, z5, z6, z7, by simp [flat], rfl⟩
  | k :: ks, ss, kk, z5, z6, z7, hk, hs, hz => by
    obtain ⟨p, ⟨p0, p1, p2⟩, hp⟩ := pick_ok fu l (at_ + 2 * (k : Int)) ((ss.length : Int) - 1) hl
    obtain ⟨w, _, hw⟩ := pick_ok fu l (at_ + 2 * (k : Int) + 1) 2 hl
    have hs' : ss.length = ks.length + 1 + 1 := by simpa using hs
    have hp1 : p.toNat + 1 < ss.length := by
      by_cases h2 : 2 ≤ (ss.length : Int) - 1
      · have := p1 h2; omega
      · have := p2 (by omega); omega
    obtain ⟨A, a, b, B, rfl, hA⟩ := split2 p.toNat ss hp1
    have hpA : p = ((A.map enc).length : Int) := by simp; omega
    have hlen : (((A ++ a :: b :: B).length : Nat) : Int) - 1 = ((A.map enc).length : Int) + (((B.map enc).length : Int) + 1 + 1) - 1 := by simp
    rw [hpA, hlen] at hp
    obtain ⟨z5', z6', z7', ht⟩ := shape_turn fu l at_ L (A.map enc) (B.map enc) (enc a) (enc b) k w z5 z6 z7 (shrd_enc a) (share_enc b) (shrd_enc b) (by simp at hz ⊢; omega) (hk k (by simp)) hp hw
    have e1 : (A ++ a :: b :: B).map enc = A.map enc ++ enc a :: enc b :: B.map enc := by simp
    have e2 : A.map enc ++ D.tup [.str (if w = 1 then "together" else "both"), enc a, enc b] :: B.map enc = (A ++ Sh.nd (decide (w ≠ 1)) a b :: B).map enc := by
      by_cases h1 : w = 1 <;> simp [enc, h1]
    rw [e2] at ht
    obtain ⟨s, kk', y5, y6, y7, i1, i2⟩ := shape_loop fu l hl at_ L ks (A ++ Sh.nd (decide (w ≠ 1)) a b :: B) (some (.int k)) z5' z6' z7' (fun j hj => hk j (by simp [hj])) (by simp at hs' ⊢; omega) (by simp at hz ⊢; omega)
    refine ⟨s, kk', y5, y6, y7, by rw [i1]; simp [flat, letters], ?_⟩
    rw [e1, List.map_cons, ev_forC]
    simp only [ev_nm, List.length_cons, List.length_nil, List.set_cons_succ, List.set_cons_zero]
    rw [if_pos (by decide)]
    dsimp only
    rw [ht]
    exact i2
theorem shrdL_enc (ss : List Sh) : shrdL (ss.map enc) = true := by
  induction ss with
  | nil => rfl
  | cons s ss ih => simp [shrd_enc, ih]
theorem shape_ok (fu : Nat) (l : List Int) (hl : l ≠ []) (at_ : Int) (ss : List Sh) (h0 : 0 < ss.length) (hz : ss.length < 900) : ∃ s, letters s = flat ss ∧ den__law_shape fu [drD l, .int at_, .lst true (ss.map enc)] = .ok (enc s) [] := by
  obtain ⟨s, kk, z5, z6, z7, i1, i2⟩ := shape_loop fu l hl at_ (.lst true (ss.map enc)) (List.range (ss.length - 1)) ss none none none none (fun k hk => by have := List.mem_range.mp hk; omega) (by simp; omega) hz
  refine ⟨s, i1, ?_⟩
  refine run_rt (env := [some (drD l), some (.int at_), some (.lst true (ss.map enc)), none, none, none, none, none]) (en := [some (drD l), some (.int at_), some (.lst true (ss.map enc)), some (.lst true [enc s]), kk, z5, z6, z7]) ?_ rfl
  unfold m__law_shape
  have ol : oList [.lst true (ss.map enc)] = some (.lst true (ss.map enc)) := by
    show (if shrdL (ss.map enc) = true then some (D.lst true (ss.map enc)) else none) = _
    rw [if_pos (shrdL_enc ss)]
  have e1 : (ss.length : Int) - 1 = ((ss.length - 1 : Nat) : Int) := by omega
  rw [then_ok (e := [some (drD l), some (.int at_), some (.lst true (ss.map enc)), some (.lst true (ss.map enc)), none, none, none, none]) (by simp [mRef, ol]),
    then_ok (e := [some (drD l), some (.int at_), some (.lst true (ss.map enc)), some (.lst true [enc s]), kk, z5, z6, z7])]
  · simp [mRef, if_sh (shrd_enc s)]
  · rw [ev_for, ev_m1, ev_rngN (n := ss.length - 1) (hs := [.val (.int ((ss.length - 1 : Nat) : Int))]) (e := [some (drD l), some (.int at_), some (.lst true (ss.map enc)), some (.lst true (ss.map enc)), none, none, none, none]) (by omega) (by simp [mRef, e1]) (by simp), ev_bok]
    exact i2
theorem share_ints (l : List Int) : shareL (l.map D.int) = l.map D.int := by
  induction l with
  | nil => rfl
  | cons a l ih => simp [ih]
theorem share_bls (l : List Bool) : shareL (l.map D.bl) = l.map D.bl := by
  induction l with
  | nil => rfl
  | cons a l ih => simp [ih]
theorem cell0 (fu : Nat) (ns : List Int) : (∃ i : Int, den__law_cell fu [.fro (ns.map .int), .int 0] = .ok (.int i) []) ∧ ∃ i : Int, den__law_cell fu [.fro (ns.map .int), .int 1] = .ok (.int i) [] :=
  ⟨cell_ok fu ns 0, cell_ok fu ns 1⟩
instance : Inhabited Sh := ⟨.lt [] true⟩
/-- letters only, with names that are so -/
def Lt (P : List Nat → Prop) (s : Sh) : Prop := ∃ n p, s = .lt n p ∧ P n
theorem flat_lt {P : List Nat → Prop} : ∀ ss : List Sh, (∀ s ∈ ss, Lt P s) → (flat ss).length = ss.length ∧ ∀ q ∈ flat ss, P q.1
  | [], _ => ⟨rfl, fun q h => by cases h⟩
  | s :: ss, h => by
    obtain ⟨n, p, rfl, hn⟩ := h s (by simp)
    obtain ⟨i1, i2⟩ := flat_lt ss fun s hs => h s (by simp [hs])
    have e : flat (.lt n p :: ss) = (n, p) :: flat ss := rfl
    rw [e]
    refine ⟨by simp [i1], fun q hq => ?_⟩
    rcases List.mem_cons.mp hq with rfl | hq
    · exact hn
    · exact i2 q hq
theorem ixS (o : Bool) (n : List (List Nat)) {k : Nat} (hk : k < n.length) : oIx [.lst o (n.map S), .int k] = some (S n[k]) := by
  rw [ov_ixL, at_nat]
  simp [hk]
theorem ixB (o : Bool) (g : List Bool) {k : Nat} (hk : k < g.length) : oIx [.lst o (g.map D.bl), .int k] = some (.bl g[k]) := by
  rw [ov_ixL, at_nat]
  simp [hk]
theorem ev_make {c : String} {den : FD} {fa : M (List Hd)} {env : VS.Env} : mMake c den fa env = (fa env).bind fun hs env => match prep [] 0 hs env with
  | some (ds, env1) => (match den (.obj true c [] :: ds) with
    | .ok .non [some o] => .ok o env1
    | .exc c' fs _ => .exc c' fs env1
    | _ => .stk)
  | none => .stk := rfl
theorem call_step {den : FD} {fa : M (List Hd)} {env : VS.Env} {hs : List Hd} {ds : List D} {d : D} {outs : VS.Env} (hf : fa env = .ok hs env) (hp : prep [] 0 hs env = some (ds, env)) (hd : den ds = .ok d outs) : mCall [] den fa env = .ok d env := by
  rw [ev_call, hf, ev_bok, hp]
  dsimp only
  rw [hd]
  dsimp only
  rw [ev_pbN]
theorem cons_step {f : M Hd} {fs : M (List Hd)} {env : VS.Env} {h : Hd} {hs : List Hd} (a : f env = .ok h env) (b : fs env = .ok hs env) : mCons f fs env = .ok (h :: hs) env := by
  rw [ev_cons, a, ev_bok, ev_bind, b, ev_bok, ev_ret]
theorem val_step {f : M D} {env : VS.Env} {d : D} (a : f env = .ok d env) : (M.bind f fun d => M.ret (Hd.val d)) env = .ok (.val d) env := by
  rw [ev_bind, a, ev_bok, ev_ret]
theorem badOf_none : ∀ l : List (List Nat × Bool), (∀ q ∈ l, Nm q.1) → badOf l = none
  | [], _ => rfl
  | (n, p) :: l, h => by
    have hn := h (n, p) (by simp)
    have ih := badOf_none l fun q hq => h q (by simp [hq])
    have e : nameOk n = true := by rw [nameOk_read hn.1]; simpa using hn.2
    unfold badOf
    rw [if_pos e, ih]
theorem shrd_ints (l : List Int) : shrdL (l.map D.int) = true := by
  induction l with
  | nil => rfl
  | cons a l ih => simp [ih]
theorem ne_of_len {l : List Int} {n : Nat} (h : l.length = n + 1) : l ≠ [] := fun e => by rw [e] at h; cases h
end K78
set_option Elab.async false
set_option linter.all false
set_option maxRecDepth 10000
namespace K78
open PySem L2 VS
/-! ### opposites, arrows, changes, plainly -/
def opp : Sh → Sh
  | .lt n p => .lt n (!p)
  | .nd k a b => .nd (!k) (opp a) (opp b)
def arrow : Sh → Bool → Bool
  | .lt _ q, p => q == p
  | .nd k a b, p => if k = p then false else arrow a (!p) && arrow b p
def chg : Sh → Int → Sh
  | .lt n p, _ => .lt n (!p)
  | .nd k a b, pl => if pl % 3 = 0 then .nd (!k) a b else if pl % 3 = 1 then .nd k (chg a (pl / 3)) b else .nd k a (chg b (pl / 3))
theorem eqKT (k : Bool) : oEq [.str (if k then "both" else "together"), .str "together"] = some (.bl (!k)) := by
  cases k
  · rw [if_neg (by decide), eq_lit (by decide +kernel) (by decide +kernel), beq_self_eq_true]; rfl
  · rw [if_pos rfl, eq_lit (by decide +kernel) (by decide +kernel), show (("both" : Str) == "together") = false by decide +kernel]; rfl
theorem eqBl (a b : Bool) : oEq [.bl a, .bl b] = some (.bl (a == b)) := rfl
theorem neBl (a b : Bool) : oNe [.bl a, .bl b] = some (.bl (!(a == b))) := rfl
theorem opposite_ok (fu : Nat) : ∀ (s : Sh) (n : Nat), depth s < n → den_opposite_shape fu n [enc s] = .ok (enc (opp s)) []
  | s, 0, h => absurd h (Nat.not_lt_zero _)
  | .lt m p, n + 1, h => by
    refine run_rt (env := [some (enc (.lt m p)), none]) (en := [some (enc (.lt m p)), none]) ?_ rfl
    have ot : oTup [.str "letter", S m, .bl (!p)] = some (enc (opp (.lt m p))) := rfl
    simp [m_opposite_shape, mRef, enc, eqLL, if_sh]
    exact congrArg (fun d => R.ok (Fl.rt d) _) rfl
  | .nd k a b, n + 1, h => by
    have hd : max (depth a) (depth b) + 1 < n + 1 := h
    have ia := opposite_ok fu a n (by omega)
    have ib := opposite_ok fu b n (by omega)
    have k1 := eqKL k
    have k2 := eqKB k
    refine run_rt (env := [some (enc (.nd k a b)), none]) (en := [some (enc (.nd k a b)), some (.str (if k then "together" else "both"))]) ?_ rfl
    have ot : ∀ x, oTup [x, enc (opp a), enc (opp b)] = some (.tup [x, enc (opp a), enc (opp b)]) := fun x => rfl
    cases k
    · simp only [Bool.false_eq_true, if_false] at k1 k2
      simp [m_opposite_shape, mRef, enc, k1, k2, if_sh, shrd_enc, ia, ib, ot, opp]
    · simp only [if_true] at k1 k2
      simp [m_opposite_shape, mRef, enc, k1, k2, if_sh, shrd_enc, ia, ib, ot, opp]
theorem lopposite_ok (fu : Nat) : ∀ (s : Sh) (n : Nat), depth s < n → den__law_opposite fu n [enc s] = .ok (enc (opp s)) []
  | s, 0, h => absurd h (Nat.not_lt_zero _)
  | .lt m p, n + 1, h => by
    refine run_rt (env := [some (enc (.lt m p))]) (en := [some (enc (.lt m p))]) ?_ rfl
    simp [m__law_opposite, mRef, enc, eqLL, if_sh]
    exact congrArg (fun d => R.ok (Fl.rt d) _) rfl
  | .nd k a b, n + 1, h => by
    have hd : max (depth a) (depth b) + 1 < n + 1 := h
    have ia := lopposite_ok fu a n (by omega)
    have ib := lopposite_ok fu b n (by omega)
    have k1 := eqKL k
    have k2 := eqKB k
    refine run_rt (env := [some (enc (.nd k a b))]) (en := [some (enc (.nd k a b))]) ?_ rfl
    have ot : ∀ x, oTup [x, enc (opp a), enc (opp b)] = some (.tup [x, enc (opp a), enc (opp b)]) := fun x => rfl
    cases k
    · simp only [Bool.false_eq_true, if_false] at k1 k2
      simp [m__law_opposite, mRef, enc, k1, k2, if_sh, shrd_enc, ia, ib, ot, opp]
    · simp only [if_true] at k1 k2
      simp [m__law_opposite, mRef, enc, k1, k2, if_sh, shrd_enc, ia, ib, ot, opp]
theorem neKW (k p : Bool) : oNe [.str (if k then "both" else "together"), .str (if p then "together" else "both")] = some (.bl (k == p)) := by
  have ne_lit : ∀ {x y : Str}, PyData.strOk x = true → PyData.strOk y = true → oNe [.str x, .str y] = some (.bl (!(x == y))) := fun {x y} hx hy => by
    show (if SeqAt.shaped (.str x) = true ∧ SeqAt.shaped (.str y) = true then some (D.bl (!PyData.eqv (.str x) (.str y))) else none) = _
    rw [if_pos ⟨by unfold SeqAt.shaped PyData.canLay0 PyData.depth; rw [hx]; rfl, by unfold SeqAt.shaped PyData.canLay0 PyData.depth; rw [hy]; rfl⟩]
    unfold PyData.eqv
    rfl
  rw [ne_lit (by cases k <;> decide +kernel) (by cases p <;> decide +kernel)]
  congr 2
  cases k <;> cases p <;> decide +kernel
theorem is_arrow_ok (fu : Nat) : ∀ (s : Sh) (n : Nat) (p : Bool), depth s < n → den_is_arrow_shape fu n [enc s, .bl p] = .ok (.bl (arrow s p)) []
  | s, 0, p, h => absurd h (Nat.not_lt_zero _)
  | .lt m q, n + 1, p, h => by
    refine run_rt (env := [some (enc (.lt m q)), some (.bl p), none]) (en := [some (enc (.lt m q)), some (.bl p), none]) ?_ rfl
    simp [m_is_arrow_shape, mRef, enc, eqLL, if_sh, eqBl, arrow]
  | .nd k a b, n + 1, p, h => by
    have hd : max (depth a) (depth b) + 1 < n + 1 := h
    have ia := is_arrow_ok fu a n (!p) (by omega)
    have ib := is_arrow_ok fu b n p (by omega)
    have k1 := eqKL k
    have k2 := neKW k p
    refine run_rt (env := [some (enc (.nd k a b)), some (.bl p), none]) (en := [some (enc (.nd k a b)), some (.bl p), some (.str (if p then "together" else "both"))]) ?_ rfl
    cases k <;> cases p
    all_goals
      simp only [Bool.false_eq_true, if_false, if_true] at k1 k2
      simp [m_is_arrow_shape, mRef, enc, k1, k2, if_sh, shrd_enc, arrow]
    · simp only [Bool.not_true] at ia
      rw [ia]
      simp
      cases hA : arrow a false
      · simp
      · simp [ib, if_sh, shrd_enc, mRef]
    · simp only [Bool.not_false] at ia
      rw [ia]
      simp
      cases hA : arrow a true
      · simp
      · simp [ib, if_sh, shrd_enc, mRef]
theorem due_arrow_ok (fu : Nat) : ∀ (s : Sh) (n : Nat) (p : Bool), depth s < n → den__law_due_arrow fu n [enc s, .bl p] = .ok (.bl (arrow s p)) []
  | s, 0, p, h => absurd h (Nat.not_lt_zero _)
  | .lt m q, n + 1, p, h => by
    refine run_rt (env := [some (enc (.lt m q)), some (.bl p)]) (en := [some (enc (.lt m q)), some (.bl p)]) ?_ rfl
    simp [m__law_due_arrow, mRef, enc, eqLL, if_sh, eqBl, arrow]
  | .nd k a b, n + 1, p, h => by
    have hd : max (depth a) (depth b) + 1 < n + 1 := h
    have ia := due_arrow_ok fu a n (!p) (by omega)
    have ib := due_arrow_ok fu b n p (by omega)
    have k1 := eqKL k
    have k2 := eqKT k
    refine run_rt (env := [some (enc (.nd k a b)), some (.bl p)]) (en := [some (enc (.nd k a b)), some (.bl p)]) ?_ rfl
    cases k <;> cases p
    all_goals
      simp only [Bool.false_eq_true, if_false, if_true] at k1 k2
      simp [m__law_due_arrow, mRef, enc, k1, k2, if_sh, shrd_enc, arrow, neBl]
    · simp only [Bool.not_true] at ia
      rw [ia]
      simp
      cases hA : arrow a false
      · simp
      · simp [ib, if_sh, shrd_enc, mRef]
    · simp only [Bool.not_false] at ia
      rw [ia]
      simp
      cases hA : arrow a true
      · simp
      · simp [ib, if_sh, shrd_enc, mRef]
end K78
namespace K78
open PySem L2 VS
theorem chg_ok (fu : Nat) : ∀ (s : Sh) (n : Nat) (pl : Int), depth s < n → den__law_changed fu n [enc s, .int pl] = .ok (enc (chg s pl)) []
  | s, 0, pl, h => absurd h (Nat.not_lt_zero _)
  | .lt m p, n + 1, pl, h => by
    refine run_rt (env := [some (enc (.lt m p)), some (.int pl)]) (en := [some (enc (.lt m p)), some (.int pl)]) ?_ rfl
    simp [m__law_changed, mRef, enc, eqLL, if_sh]
    exact congrArg (fun d => R.ok (Fl.rt d) _) rfl
  | .nd k a b, n + 1, pl, h => by
    have hd : max (depth a) (depth b) + 1 < n + 1 := h
    have ia := chg_ok fu a n (pl / 3) (by omega)
    have ib := chg_ok fu b n (pl / 3) (by omega)
    have k1 := eqKL k
    have k2 := eqKB k
    have l3 : (3 : Nat).log2 < 9000 := by decide
    refine run_rt (env := [some (enc (.nd k a b)), some (.int pl)]) (en := [some (enc (.nd k a b)), some (.int pl)]) ?_ rfl
    have ot : ∀ x y z, oTup [x, y, z] = some (.tup [x, y, z]) := fun x y z => rfl
    unfold chg
    by_cases h0 : pl % 3 = 0
    · rw [if_pos h0]
      cases k
      · simp only [Bool.false_eq_true, if_false] at k1 k2
        simp [m__law_changed, mRef, enc, k1, k2, if_sh, shrd_enc, ot, ov_eqI, h0]
      · simp only [if_true] at k1 k2
        simp [m__law_changed, mRef, enc, k1, k2, if_sh, shrd_enc, ot, ov_eqI, h0]
    · have h0' : (pl % 3 == 0) = false := by simpa using h0
      rw [if_neg h0]
      by_cases h1 : pl % 3 = 1
      · rw [if_pos h1]
        cases k
        · simp only [Bool.false_eq_true, if_false] at k1 k2
          simp [m__law_changed, mRef, enc, k1, k2, if_sh, shrd_enc, ot, ov_eqI, h1, ia, l3]
        · simp only [if_true] at k1 k2
          simp [m__law_changed, mRef, enc, k1, k2, if_sh, shrd_enc, ot, ov_eqI, h1, ia, l3]
      · have h1' : (pl % 3 == 1) = false := by simpa using h1
        rw [if_neg h1]
        cases k
        · simp only [Bool.false_eq_true, if_false] at k1 k2
          simp [m__law_changed, mRef, enc, k1, k2, if_sh, shrd_enc, ot, ov_eqI, h0', h1', ib, l3]
        · simp only [if_true] at k1 k2
          simp [m__law_changed, mRef, enc, k1, k2, if_sh, shrd_enc, ot, ov_eqI, h0', h1', ib, l3]
/-! ### plain facts -/
def nms (s : Sh) : List (List Nat) := (letters s).map Prod.fst
theorem nms_nd {k : Bool} {a b : Sh} : nms (.nd k a b) = nms a ++ nms b := by simp [nms, letters]
theorem nms_opp : ∀ s, nms (opp s) = nms s
  | .lt _ _ => rfl
  | .nd k a b => by rw [opp, nms_nd, nms_nd, nms_opp a, nms_opp b]
theorem nms_chg : ∀ s pl, nms (chg s pl) = nms s
  | .lt _ _, _ => rfl
  | .nd k a b, pl => by
    unfold chg
    split
    · rw [nms_nd, nms_nd]
    · split
      · rw [nms_nd, nms_nd, nms_chg a]
      · rw [nms_nd, nms_nd, nms_chg b]
theorem opp_opp : ∀ s, opp (opp s) = s
  | .lt n p => by simp [opp]
  | .nd k a b => by simp [opp, opp_opp a, opp_opp b]
theorem opp_ne (s : Sh) : opp s ≠ s := by
  cases s with
  | lt n p => intro h; simp [opp] at h
  | nd k a b => intro h; simp [opp] at h
theorem chg_ne : ∀ s pl, chg s pl ≠ s
  | .lt n p, pl => by intro h; simp [chg] at h
  | .nd k a b, pl => by
    unfold chg
    split
    · intro h; simp at h
    · split
      · intro h
        have := chg_ne a (pl / 3)
        simp at h
        exact this h
      · intro h
        have := chg_ne b (pl / 3)
        simp at h
        exact this h
theorem len_nms (s : Sh) : (nms s).length = (letters s).length := by simp [nms]
theorem of_nms {P : List Nat → Prop} {s : Sh} (h : ∀ n ∈ nms s, P n) : ∀ q ∈ letters s, P q.1 := fun q hq => h q.1 (List.mem_map_of_mem hq)
theorem to_nms {P : List Nat → Prop} {s : Sh} (h : ∀ q ∈ letters s, P q.1) : ∀ n ∈ nms s, P n := fun n hn => by
  obtain ⟨q, hq, rfl⟩ := List.mem_map.mp hn
  exact h q hq
def badN : List (List Nat) → Option (List Nat)
  | [] => none
  | n :: r => if nameOk n = true then badN r else some n
theorem badOf_nms : ∀ l : List (List Nat × Bool), badOf l = badN (l.map Prod.fst)
  | [] => rfl
  | (n, p) :: l => by
    unfold badOf
    rw [List.map_cons]
    unfold badN
    rw [badOf_nms l]
theorem depth_nms (s : Sh) : depth s < (nms s).length := by rw [len_nms]; exact depth_lt s
theorem size_nms (s : Sh) : size s + 1 = 2 * (nms s).length := by rw [len_nms]; exact size_letters s
/-! ### == of shapes -/
theorem eqv3 (x y : Str) (a b c d : PyData) : PyData.eqv (.tuple [.str x, a, b]) (.tuple [.str y, c, d]) = ((x == y) && (PyData.eqv a c && PyData.eqv b d)) := by
  have e1 : PyData.eqv (.tuple [.str x, a, b]) (.tuple [.str y, c, d]) = PyData.eqvAll [.str x, a, b] [.str y, c, d] := by rw [PyData.eqv]
  have e2 : PyData.eqv (.str x) (.str y) = (x == y) := by rw [PyData.eqv]
  rw [e1, PyData.eqvAll, PyData.eqvAll, PyData.eqvAll, PyData.eqvAll, e2, Bool.and_true]
theorem eqv_enc : ∀ a b : Sh, PyData.eqv (encP a) (encP b) = decide (a = b)
  | .lt m p, .lt n q => by
    have h1 : ((⟨m.toArray⟩ : Str) == ⟨n.toArray⟩) = decide (m = n) := by
      by_cases h : m = n
      · subst h; simp
      · simp [h]
    unfold encP
    rw [eqv3, beq_self_eq_true, Bool.true_and]
    have e2 : PyData.eqv (.str ⟨m.toArray⟩) (.str ⟨n.toArray⟩) = ((⟨m.toArray⟩ : Str) == ⟨n.toArray⟩) := by rw [PyData.eqv]
    have e3 : PyData.eqv (.bool p) (.bool q) = (p == q) := by rw [PyData.eqv]
    rw [e2, e3, h1]
    by_cases h : m = n <;> by_cases h2 : p = q <;> simp [h, h2]
  | .lt m p, .nd k a b => by
    unfold encP
    rw [eqv3]
    have : (("letter" : Str) == Str.ofString (if k = true then "both" else "together")) = false ∧ (("letter" : Str) == (if k = true then Str.ofString "both" else Str.ofString "together")) = false := by cases k <;> decide +kernel
    first | rw [this.1] | rw [this.2]
    simp
  | .nd k a b, .lt m p => by
    unfold encP
    rw [eqv3]
    have : (Str.ofString (if k = true then "both" else "together") == ("letter" : Str)) = false ∧ ((if k = true then Str.ofString "both" else Str.ofString "together") == ("letter" : Str)) = false := by cases k <;> decide +kernel
    first | rw [this.1] | rw [this.2]
    simp
  | .nd k a b, .nd j c d => by
    have i1 := eqv_enc a c
    have i2 := eqv_enc b d
    unfold encP
    rw [eqv3, i1, i2]
    have h1 : (Str.ofString (if k = true then "both" else "together") == Str.ofString (if j = true then "both" else "together")) = decide (k = j) ∧ ((if k = true then Str.ofString "both" else Str.ofString "together") == (if j = true then Str.ofString "both" else Str.ofString "together")) = decide (k = j) := by cases k <;> cases j <;> decide +kernel
    first | rw [h1.1] | rw [h1.2]
    by_cases h : k = j <;> by_cases h2 : a = c <;> by_cases h3 : b = d <;> simp [h, h2, h3]
theorem sh_enc {s : Sh} (h : ∀ n ∈ nms s, Uni n) (hd : depth s < 60) : SeqAt.shaped (encP s) = true := by
  obtain ⟨h1, h2⟩ := lay_enc s (of_nms h)
  unfold SeqAt.shaped
  rw [h1, h2]
  simp
  omega
theorem eq_enc {a b : Sh} (ha : ∀ n ∈ nms a, Uni n) (hb : ∀ n ∈ nms b, Uni n) (da : depth a < 60) (db : depth b < 60) : oEq [enc a, enc b] = some (.bl (decide (a = b))) ∧ oNe [enc a, enc b] = some (.bl (!decide (a = b))) := by
  constructor
  · show (match pd (enc a), pd (enc b) with
      | some p, some q => if SeqAt.shaped p = true ∧ SeqAt.shaped q = true then some (D.bl (PyData.eqv p q)) else none
      | _, _ => none) = _
    rw [pd_enc, pd_enc]
    dsimp only
    rw [if_pos ⟨sh_enc ha da, sh_enc hb db⟩, eqv_enc]
  · show (match pd (enc a), pd (enc b) with
      | some p, some q => if SeqAt.shaped p = true ∧ SeqAt.shaped q = true then some (D.bl (!PyData.eqv p q)) else none
      | _, _ => none) = _
    rw [pd_enc, pd_enc]
    dsimp only
    rw [if_pos ⟨sh_enc ha da, sh_enc hb db⟩, eqv_enc]
end K78
set_option Elab.async false
set_option linter.all false
set_option maxRecDepth 10000
namespace K78
open PySem L2 VS
/-! ### kinds -/
def Gd (n : List Nat) : Prop := Uni n ∧ n.length ≤ 12
def Fit (s : Sh) : Prop := (nms s).length ≤ 50 ∧ ∀ n ∈ nms s, Gd n
theorem Fit.uni {s : Sh} (h : Fit s) : ∀ n ∈ nms s, Uni n := fun n hn => (h.2 n hn).1
theorem Fit.dep {s : Sh} (h : Fit s) : depth s < 50 := by have := depth_nms s; have := h.1; omega
theorem Fit.siz {s : Sh} (h : Fit s) : size s < 1000 := by have := size_nms s; have := h.1; omega
theorem Fit.named {s : Sh} (h : Fit s) : Named s := fun q hq => by have := (of_nms (P := Gd) h.2 q hq).2; omega
theorem Fit.of {s t : Sh} (h : Fit s) (e : nms t = nms s) : Fit t := by unfold Fit; rw [e]; exact h
theorem Fit.opp {s : Sh} (h : Fit s) : Fit (opp s) := h.of (nms_opp s)
theorem Fit.chg {s : Sh} (h : Fit s) (pl : Int) : Fit (chg s pl) := h.of (nms_chg s pl)
theorem Fit.eq {a b : Sh} (ha : Fit a) (hb : Fit b) : oEq [enc a, enc b] = some (.bl (decide (a = b))) ∧ oNe [enc a, enc b] = some (.bl (!decide (a = b))) :=
  eq_enc ha.uni hb.uni (by have := ha.dep; omega) (by have := hb.dep; omega)
inductive Flt where
  | large | name (n : List Nat)
def flt (s : Sh) : Option Flt := if 40 < (nms s).length then some .large else (badN (nms s)).map .name
def fltR (e : VS.Env) : Flt → R D
  | .large => .exc "TooLarge" [("limit", .int 40)] e
  | .name n => .exc "BadName" [("name", S n)] e
def mkR (e : VS.Env) (s : Sh) : R D := match flt s with
  | some f => fltR e f
  | none => .ok (kindD true s) e
theorem make_ok (fu : Nat) (hf : 1000 ≤ fu) {s : Sh} (h : Fit s) {fa : M (List Hd)} {env : VS.Env} {hs : List Hd} (h1 : fa env = .ok hs env) (h2 : prep [] 0 hs env = some ([enc s], env)) : mMake "Kind" (den_Kinddd_initdd fu) fa env = mkR env s := by
  have hk := kind_init fu s h.siz hf h.named
  rw [ev_make, h1, ev_bok, h2]
  dsimp only
  unfold kindO at hk
  rw [badOf_nms, show (letters s).map Prod.fst = nms s from rfl] at hk
  rw [← len_nms] at hk
  unfold mkR flt
  by_cases h40 : 40 < (nms s).length
  · rw [if_pos h40] at hk ⊢
    obtain ⟨en, hk⟩ := hk
    rw [hk]
    rfl
  · rw [if_neg h40] at hk ⊢
    cases hb : badN (nms s) with
    | some n =>
      rw [hb] at hk
      obtain ⟨en, hk⟩ := hk
      rw [hk]
      rfl
    | none =>
      rw [hb] at hk
      dsimp only at hk
      rw [hk]
      rfl
/-- a def that ends in return Kind(..) -/
theorem run_mk {N : Nat} {m : M Fl} {ds : List D} {env : VS.Env} {f : M D} {s : Sh} (hm : m env = (M.bind f fun d => M.ret (Fl.rt d)) env) (hf : f env = mkR env s) (hE : ds.map some ++ List.replicate (N - ds.length) none = env) : runF N [] m ds = mkR [] s := by
  unfold runF
  rw [hE, hm, ev_bind, hf]
  unfold mkR
  cases flt s with
  | none => rfl
  | some x => cases x <;> rfl
theorem fldK (o : Bool) (s : Sh) : oFld flds_shape "shape" [kindD o s] = some (enc s) := fld_kind o s
theorem isiK (o : Bool) (s : Sh) : oIsi isis_Kind [kindD o s] = some (.bl true) := isi_kind o s
theorem opp_step (fu : Nat) {s : Sh} (hd : depth s < 60) {env : VS.Env} {f : M D} (h : f env = .ok (enc s) env) : mCall [] (den_opposite_shape fu 60) (mCons (M.bind f fun d => M.ret (Hd.val d)) mNil) env = .ok (enc (opp s)) env :=
  call_step (cons_step (val_step h) (ev_nil (env := env))) (by simp) (opposite_ok fu s 60 hd)
theorem inv_ok (fu : Nat) (hf : 1000 ≤ fu) (o : Bool) {s : Sh} (h : Fit s) : den_Kinddd_invertdd fu [kindD o s] = mkR [] (opp s) := by
  have e1 : mOp (oFld flds_shape "shape") (m1 (mRef 0)) [some (kindD o s)] = .ok (enc s) [some (kindD o s)] := by simp [mRef, fldK]
  refine run_mk (env := [some (kindD o s)]) (m := m_Kinddd_invertdd fu) rfl ?_ rfl
  exact make_ok fu hf h.opp (cons_step (val_step (opp_step fu (by have := h.dep; omega) e1)) (ev_nil (env := _))) (by simp)
theorem tup3 (w : Str) (k : Bool) (a b : Sh) (hw : w = (if k then "both" else "together")) : oTup [.str w, enc a, enc b] = some (enc (.nd k a b)) := by subst hw; cases k <;> rfl
theorem tk3 {w : Str} {k : Bool} {a b : Sh} {env : VS.Env} {f g : M D} (hw : w = (if k then "both" else "together")) (hf : f env = .ok (enc a) env) (hg : g env = .ok (enc b) env) :
    mTk oTup (mCons (M.bind (M.ret (.str w)) fun d => M.ret (Hd.val d)) (mCons (M.bind f fun d => M.ret (Hd.val d)) (mCons (M.bind g fun d => M.ret (Hd.val d)) mNil))) env = .ok (enc (.nd k a b)) env := by
  have hs : mCons (M.bind (M.ret (.str w)) fun d => M.ret (Hd.val d)) (mCons (M.bind f fun d => M.ret (Hd.val d)) (mCons (M.bind g fun d => M.ret (Hd.val d)) mNil)) env = .ok [.val (.str w), .val (enc a), .val (enc b)] env :=
    cons_step (val_step (ev_ret (env := env))) (cons_step (val_step hf) (cons_step (val_step hg) (ev_nil (env := env))))
  rw [ev_tk, hs, ev_bok]
  simp [tup3 w k a b hw]
theorem fld_step {i : Nat} {o : Bool} {s : Sh} {env : VS.Env} (h : (env[i]?).join = some (kindD o s)) : mOp (oFld flds_shape "shape") (m1 (mRef i)) env = .ok (enc s) env := by
  rw [ev_op, ev_m1, ev_cons, ev_ref h, ev_bok, ev_bind, ev_nil, ev_bok, ev_ret, ev_bok, ev_getVar, h]
  simp [fldK]
theorem guard_ok {o o' : Bool} {a b : Sh} {X : M Fl} : (mIf (M.bind (mTru (M.bind (mOp (oIsi isis_Kind) (m1 (mRef 1))) fun d => M.ret (Hd.val d))) fun b => M.ret (!b)) X mNx) [some (kindD o a), some (kindD o' b)] = .ok .nx [some (kindD o a), some (kindD o' b)] := by
  simp [mRef, isiK]
theorem and_ok (fu : Nat) (hf : 1000 ≤ fu) (o o' : Bool) {a b : Sh} (h : Fit (.nd true a b)) : den_Kinddd_anddd fu [kindD o a, kindD o' b] = mkR [] (.nd true a b) := by
  refine run_mk (env := [some (kindD o a), some (kindD o' b)]) (m := m_Kinddd_anddd fu) (by unfold m_Kinddd_anddd; rw [then_ok guard_ok]) ?_ rfl
  exact make_ok fu hf h (cons_step (val_step (tk3 (k := true) rfl (fld_step rfl) (fld_step rfl))) (ev_nil (env := _))) (by simp)
theorem or_ok (fu : Nat) (hf : 1000 ≤ fu) (o o' : Bool) {a b : Sh} (h : Fit (.nd false a b)) : den_Kinddd_ordd fu [kindD o a, kindD o' b] = mkR [] (.nd false a b) := by
  refine run_mk (env := [some (kindD o a), some (kindD o' b)]) (m := m_Kinddd_ordd fu) (by unfold m_Kinddd_ordd; rw [then_ok guard_ok]) ?_ rfl
  exact make_ok fu hf h (cons_step (val_step (tk3 (k := false) rfl (fld_step rfl) (fld_step rfl))) (ev_nil (env := _))) (by simp)
theorem shift_ok (fu : Nat) (hf : 1000 ≤ fu) (o o' : Bool) {a b : Sh} (ha : depth a < 60) (h : Fit (.nd false (opp a) b)) : den_Kinddd_rshiftdd fu [kindD o a, kindD o' b] = mkR [] (.nd false (opp a) b) := by
  refine run_mk (env := [some (kindD o a), some (kindD o' b)]) (m := m_Kinddd_rshiftdd fu) (by unfold m_Kinddd_rshiftdd; rw [then_ok guard_ok]) ?_ rfl
  exact make_ok fu hf h (cons_step (val_step (tk3 (k := false) rfl (opp_step fu ha (fld_step rfl)) (fld_step rfl))) (ev_nil (env := _))) (by simp)
theorem eqK_ok (fu : Nat) (o o' : Bool) {a b : Sh} (ha : Fit a) (hb : Fit b) : den_Kinddd_eqdd fu [kindD o a, kindD o' b] = .ok (.bl (decide (a = b))) [] := by
  refine run_rt (env := [some (kindD o a), some (kindD o' b)]) (en := [some (kindD o a), some (kindD o' b)]) ?_ rfl
  simp [m_Kinddd_eqdd, mRef, isiK, fldK, (ha.eq hb).1]
theorem eqK_no (fu : Nat) (o : Bool) {a : Sh} {d : D} (h : oIsi isis_Kind [d] = some (.bl false)) : den_Kinddd_eqdd fu [kindD o a, d] = .ok (.bl false) [] := by
  refine run_rt (env := [some (kindD o a), some d]) (en := [some (kindD o a), some d]) ?_ rfl
  simp [m_Kinddd_eqdd, mRef, h]
theorem letters_prop (fu : Nat) (hf : 1000 ≤ fu) (o : Bool) {s : Sh} (h : Fit s) : den_Kind_letters fu [kindD o s] = .ok (.tup ((letters s).map encL)) [] := by
  refine run_rt (env := [some (kindD o s)]) (en := [some (kindD o s)]) ?_ rfl
  have hl := letters_ok fu s h.siz hf
  have ot : oTuple [.lst true ((letters s).map encL)] = some (.tup ((letters s).map encL)) := by
    show (if shrdL ((letters s).map encL) = true then some (D.tup ((letters s).map encL)) else none) = _
    rw [if_pos (shrdL_map _)]
  simp [m_Kind_letters, mRef, fldK, hl, ot]
theorem letter_cm (fu : Nat) (hf : 1000 ≤ fu) {n : List Nat} (h : Gd n) : den_Kind_letter fu [.cls "Kind", S n] = mkR [] (.lt n true) := by
  refine run_mk (env := [some (.cls "Kind"), some (S n)]) (m := m_Kind_letter fu) rfl ?_ rfl
  have e : ∀ fa, mMakeV 0 "Kind" (den_Kinddd_initdd fu) fa [some (.cls "Kind"), some (S n)] = mMake "Kind" (den_Kinddd_initdd fu) fa [some (.cls "Kind"), some (S n)] := fun fa => rfl
  have ot : oTup [.str "letter", S n, .bl true] = some (enc (.lt n true)) := rfl
  have et : mTk oTup (mCons (M.bind (M.ret (.str "letter")) fun d => M.ret (Hd.val d)) (mCons (mRef 1) (mCons (M.bind (M.ret (.bl true)) fun d => M.ret (Hd.val d)) mNil))) [some (.cls "Kind"), some (S n)] = .ok (enc (.lt n true)) [some (.cls "Kind"), some (S n)] := by
    simp [mRef, ot]
  rw [e]
  exact make_ok fu hf (s := .lt n true) ⟨by simp [nms, letters], fun m hm => by have : m = n := (by simpa [nms, letters] using hm); rw [this]; exact h⟩ (cons_step (val_step et) (ev_nil (env := _))) (by simp)
theorem arrow_ok (fu : Nat) (o : Bool) {s : Sh} (h : Fit s) : den_is_arrow fu [kindD o s] = .ok (.bl (arrow s true)) [] := by
  refine run_rt (env := [some (kindD o s)]) (en := [some (kindD o s)]) ?_ rfl
  have := is_arrow_ok fu s 60 true (by have := h.dep; omega)
  simp [m_is_arrow, mRef, fldK, this]
end K78
set_option Elab.async false
set_option linter.all false
set_option maxRecDepth 10000
namespace K78
open PySem L2 VS

def mb_0 (fu : Nat) : M Fl :=
    (mIf (mB (mOp oEq (m2 (mRef 2) (M.bind (M.ret (.int 0)) fun d => M.ret (Hd.val d)))))
    (M.bind (mOp (oFld flds_shape "shape") (m1 (M.bind (mMake "Kind" (den_Kinddd_initdd fu) (mCons (mRef 0) mNil)) fun d => M.ret (Hd.val d)))) fun d => M.ret (Fl.rt d))
    mNx)
def mb_1 (fu : Nat) : M Fl :=
    (mIf (mB (mOp oEq (m2 (mRef 2) (M.bind (M.ret (.int 1)) fun d => M.ret (Hd.val d)))))
    (M.bind (mOp (oFld flds_shape "shape") (m1 (M.bind (mCall [] (gAll "Kind" (den_Kinddd_anddd fu)) (m2 (M.bind (mMake "Kind" (den_Kinddd_initdd fu) (mCons (mRef 0) mNil)) fun d => M.ret (Hd.val d)) (M.bind (mMake "Kind" (den_Kinddd_initdd fu) (mCons (mRef 1) mNil)) fun d => M.ret (Hd.val d)))) fun d => M.ret (Hd.val d)))) fun d => M.ret (Fl.rt d))
    mNx)
def mb_2 (fu : Nat) : M Fl :=
    (mIf (mB (mOp oEq (m2 (mRef 2) (M.bind (M.ret (.int 2)) fun d => M.ret (Hd.val d)))))
    (M.bind (mOp (oFld flds_shape "shape") (m1 (M.bind (mCall [] (gAll "Kind" (den_Kinddd_ordd fu)) (m2 (M.bind (mMake "Kind" (den_Kinddd_initdd fu) (mCons (mRef 0) mNil)) fun d => M.ret (Hd.val d)) (M.bind (mMake "Kind" (den_Kinddd_initdd fu) (mCons (mRef 1) mNil)) fun d => M.ret (Hd.val d)))) fun d => M.ret (Hd.val d)))) fun d => M.ret (Fl.rt d))
    mNx)
def mb_3 (fu : Nat) : M Fl :=
    (mIf (mB (mOp oEq (m2 (mRef 2) (M.bind (M.ret (.int 3)) fun d => M.ret (Hd.val d)))))
    (M.bind (mOp (oFld flds_shape "shape") (m1 (M.bind (mCall [] (gAll "Kind" (den_Kinddd_rshiftdd fu)) (m2 (M.bind (mMake "Kind" (den_Kinddd_initdd fu) (mCons (mRef 0) mNil)) fun d => M.ret (Hd.val d)) (M.bind (mMake "Kind" (den_Kinddd_initdd fu) (mCons (mRef 1) mNil)) fun d => M.ret (Hd.val d)))) fun d => M.ret (Hd.val d)))) fun d => M.ret (Fl.rt d))
    mNx)
def mb_4 (fu : Nat) : M Fl :=
    (M.bind (mOp (oFld flds_shape "shape") (m1 (M.bind (mCall [] (fun ds => (den_Kind_letter fu) (.cls "Kind" :: ds)) (mCons (mRef 0) mNil)) fun d => M.ret (Hd.val d)))) fun d => M.ret (Fl.rt d))
def made_h (fu : Nat) : M Fl :=
    (mThen (mAsg (.nm 4) (mTk oLst mNil))
    (mThen (mIf (mTru (M.bind (mIsE 3 ises_TooLarge) fun d => M.ret (Hd.val d)))
    (M.bind (mLm 4 lAppend (mCons (M.bind (mTk oTup (mCons (M.bind (M.ret (.str "large")) fun d => M.ret (Hd.val d)) (mCons (M.bind (mExF 3 "limit" exs_limit) fun d => M.ret (Hd.val d)) mNil))) fun d => M.ret (Hd.val d)) mNil)) fun _ => mNx)
    mNx)
    (mThen (mIf (mTru (M.bind (mIsE 3 ises_BadName) fun d => M.ret (Hd.val d)))
    (M.bind (mLm 4 lAppend (mCons (M.bind (mTk oTup (mCons (M.bind (M.ret (.str "name")) fun d => M.ret (Hd.val d)) (mCons (M.bind (mExF 3 "name" exs_name) fun d => M.ret (Hd.val d)) mNil))) fun d => M.ret (Hd.val d)) mNil)) fun _ => mNx)
    mNx)
    (mThen (mIf (mOr (mB (mOp oNe (m2 (M.bind (mOp oLen (m1 (mRef 4))) fun d => M.ret (Hd.val d)) (M.bind (M.ret (.int 1)) fun d => M.ret (Hd.val d))))) (M.bind (mTru (M.bind (mIsE 3 ises_ValueError) fun d => M.ret (Hd.val d))) fun b => M.ret (!b)))
    (M.bind (mTk oTup (mCons (M.bind (M.ret (.str "other")) fun d => M.ret (Hd.val d)) mNil)) fun d => M.ret (Fl.rt d))
    mNx)
    (M.bind (mOp oIx (m2 (mRef 4) (M.bind (M.ret (.int 0)) fun d => M.ret (Hd.val d)))) fun d => M.ret (Fl.rt d))))))
theorem made_eq (fu : Nat) : m__law_made fu = mTry cts_ComesapartError 3 (mThen (mb_0 fu) (mThen (mb_1 fu) (mThen (mb_2 fu) (mThen (mb_3 fu) (mb_4 fu))))) (made_h fu) := rfl
/-! ### bad names -/
theorem notInS (c : Nat) : oNotIn [S [c], S alpha] = some (.bl (!isA c)) := by
  simp [oNotIn, inB, isA]
theorem bad_loop (fu : Nat) (x : Option D) : ∀ (l : List Nat) (y : Option D), ∃ y', forL (.nm 1) (b__law_bad_0 fu) (l.map fun c => D.str ⟨#[c]⟩) [x, y] = if l.all isA = true then .ok .nx [x, y'] else .ok (.rt (.bl true)) [x, y']
  | [], y => ⟨y, rfl⟩
  | c :: l, y => by
    have hn := notInS c
    obtain ⟨y', e⟩ := bad_loop fu x l (some (.str ⟨#[c]⟩))
    by_cases hc : isA c = true
    · refine ⟨y', ?_⟩
      have ht : b__law_bad_0 fu [x, some (.str ⟨#[c]⟩)] = .ok .nx [x, some (.str ⟨#[c]⟩)] := by
        have hn' : oNotIn [D.str ⟨#[c]⟩, S alpha] = some (.bl false) := by rw [hc] at hn; exact hn
        simp [b__law_bad_0, mRef, s_alpha, hn']
      rw [List.map_cons, ev_forC]
      simp only [ev_nm, List.length_cons, List.length_nil, List.set_cons_succ, List.set_cons_zero]
      rw [if_pos (by decide)]
      dsimp only
      rw [ht, ev_bok, ev_lpN, e, List.all_cons, hc, Bool.true_and]
    · refine ⟨some (.str ⟨#[c]⟩), ?_⟩
      have hc' : isA c = false := Bool.eq_false_iff.mpr hc
      have ht : b__law_bad_0 fu [x, some (.str ⟨#[c]⟩)] = .ok (.rt (.bl true)) [x, some (.str ⟨#[c]⟩)] := by
        have hn' : oNotIn [D.str ⟨#[c]⟩, S alpha] = some (.bl true) := by rw [hc'] at hn; exact hn
        simp [b__law_bad_0, mRef, s_alpha, hn']
      rw [List.map_cons, ev_forC]
      simp only [ev_nm, List.length_cons, List.length_nil, List.set_cons_succ, List.set_cons_zero]
      rw [if_pos (by decide)]
      dsimp only
      rw [ht, ev_bok, ev_lpR, List.all_cons, hc', Bool.false_and]
      rfl
theorem bad_ok (fu : Nat) (n : List Nat) (hn : n.length < 100000) : den__law_bad fu [S n] = .ok (.bl (!nameOk n)) [] := by
  have hl : oLen [S n] = some (.int n.length) := ov_lenS (Nat.le_of_lt (szL hn))
  obtain ⟨y', e⟩ := bad_loop fu (some (S n)) n none
  have it : itemsOf (S n) = some (n.map fun c => D.str ⟨#[c]⟩) := rfl
  by_cases h1 : n.length < 1 ∨ 8 < n.length
  · have hb : nameOk n = false := by
      unfold nameOk
      rcases h1 with h | h
      · simp; intro a; omega
      · simp; intro a b; omega
    refine run_rt (env := [some (S n), none]) (en := [some (S n), none]) ?_ rfl
    unfold m__law_bad
    refine then_rt ?_
    rw [hb]
    rcases h1 with h | h
    · have h' : (n.length : Int) < 1 := by omega
      simp [mRef, hl, h']
    · have h' : (8 : Int) < n.length := by omega
      by_cases h3 : (n.length : Int) < 1
      · omega
      · simp [mRef, hl, h', h3]
  · have g1 : ¬ (n.length : Int) < 1 := by omega
    have g2 : ¬ (8 : Int) < n.length := by omega
    have hb : nameOk n = n.all isA := by
      unfold nameOk
      have a1 : 0 < n.length := by omega
      have a2 : n.length ≤ 8 := by omega
      simp only [a1, a2, decide_true, Bool.true_and]
      rfl
    rw [hb]
    cases ha : n.all isA
    · rw [ha] at e
      refine run_rt (env := [some (S n), none]) (en := [some (S n), y']) ?_ rfl
      unfold m__law_bad
      rw [then_ok (e := [some (S n), none]) (by simp [mRef, hl, g1, g2])]
      refine then_rt ?_
      rw [ev_for, ev_items, ev_ref0, ev_bok]
      dsimp only [Option.join, List.getElem?_cons_zero]
      show ((match itemsOf (S n) with
        | some ds => R.ok ds _
        | none => R.stk).bind _) = _
      rw [it]
      dsimp only
      rw [ev_bok, e]
      rfl
    · rw [ha] at e
      refine run_rt (env := [some (S n), none]) (en := [some (S n), y']) ?_ rfl
      unfold m__law_bad
      rw [then_ok (e := [some (S n), none]) (by simp [mRef, hl, g1, g2]), then_ok (e := [some (S n), y'])]
      · rfl
      · rw [ev_for, ev_items, ev_ref0, ev_bok]
        dsimp only [Option.join, List.getElem?_cons_zero]
        show ((match itemsOf (S n) with
          | some ds => R.ok ds _
          | none => R.stk).bind _) = _
        rw [it]
        dsimp only
        rw [ev_bok, e]
        rfl
/-! ### the fault -/
def fltD : Flt → D
  | .large => .tup [.str "large", .int 40]
  | .name n => .tup [.str "name", S n]
def fltO : Option Flt → D
  | none => .non
  | some f => fltD f
theorem fault_loop (fu : Nat) (x y : Option D) : ∀ (l : List (List Nat × Bool)) (u v : Option D), (∀ q ∈ l, q.1.length < 100000) →
    ∃ u' v', forL (.tp [.nm 2, .nm 3]) (b__law_fault_0 fu) (l.map encL) [x, y, u, v] = match badN (l.map Prod.fst) with
      | some n => .ok (.rt (fltD (.name n))) [x, y, u', v']
      | none => .ok .nx [x, y, u', v']
  | [], u, v, _ => ⟨u, v, rfl⟩
  | (n, p) :: l, u, v, hl => by
    have hn : n.length < 100000 := hl (n, p) (by simp)
    have hb : bindT (.tp [.nm 2, .nm 3]) (encL (n, p)) [x, y, u, v] = some [x, y, some (S n), some (.bl p)] := by
      unfold encL
      simp
    have hd := bad_ok fu n hn
    obtain ⟨u', v', e⟩ := fault_loop fu x y l (some (S n)) (some (.bl p)) fun q hq => hl q (by simp [hq])
    rw [List.map_cons, ev_forC, hb]
    dsimp only
    cases hk : nameOk n
    · refine ⟨some (S n), some (.bl p), ?_⟩
      rw [hk] at hd
      have ht : b__law_fault_0 fu [x, y, some (S n), some (.bl p)] = .ok (.rt (fltD (.name n))) [x, y, some (S n), some (.bl p)] := by
        have ot : oTup [.str "name", S n] = some (fltD (.name n)) := rfl
        simp [b__law_fault_0, mRef, hd, ot]
      have ebad : badN (((n, p) :: l).map Prod.fst) = some n := by
        rw [List.map_cons]; unfold badN; rw [if_neg (by simp [hk])]
      rw [ebad, ht, ev_bok, ev_lpR]
      rfl
    · refine ⟨u', v', ?_⟩
      rw [hk] at hd
      have ht : b__law_fault_0 fu [x, y, some (S n), some (.bl p)] = .ok .nx [x, y, some (S n), some (.bl p)] := by
        simp [b__law_fault_0, mRef, hd]
      have ebad : badN (((n, p) :: l).map Prod.fst) = badN (l.map Prod.fst) := by
        rw [List.map_cons]; conv => lhs; unfold badN
        rw [if_pos (by simp [hk])]
      rw [ebad, ht, ev_bok, ev_lpN, e]
theorem fault_ok (fu : Nat) {s : Sh} (h : Fit s) : den__law_fault fu [enc s] = .ok (fltO (flt s)) [] := by
  obtain ⟨o, hl⟩ := lletters_ok fu s 60 (by have := h.dep; omega) h.siz
  obtain ⟨u', v', e⟩ := fault_loop fu (some (enc s)) (some (.lst false ((letters s).map encL))) (letters s) none none h.named
  have e1 : mAsg (.nm 1) (mShr (mCall [] (den__law_letters fu 60) (mCons (mRef 0) mNil))) [some (enc s), none, none, none] = .ok .nx [some (enc s), some (.lst false ((letters s).map encL)), none, none] := by
    simp [mRef, shrd_enc, hl, shareL_map0]
  unfold flt
  rw [len_nms]
  by_cases h40 : 40 < (letters s).length
  · rw [if_pos h40]
    have h40' : (40 : Int) < ((letters s).length : Int) := by omega
    have ot : oTup [.str "large", .int 40] = some (fltD .large) := rfl
    refine run_rt (env := [some (enc s), none, none, none]) (en := [some (enc s), some (.lst false ((letters s).map encL)), none, none]) ?_ rfl
    unfold m__law_fault
    rw [then_ok e1]
    refine then_rt ?_
    simp [mRef, h40', ot, fltO]
  · rw [if_neg h40]
    have h40' : ¬ (40 : Int) < ((letters s).length : Int) := by omega
    unfold m__law_fault at *
    have e2 : (mIf (mB (mOp oGt (m2 (M.bind (mOp oLen (m1 (mRef 1))) fun d => M.ret (Hd.val d)) (M.bind (M.ret (.int 40)) fun d => M.ret (Hd.val d))))) (M.bind (mTk oTup (mCons (M.bind (M.ret (.str "large")) fun d => M.ret (Hd.val d)) (mCons (M.bind (M.ret (.int 40)) fun d => M.ret (Hd.val d)) mNil))) fun d => M.ret (Fl.rt d)) mNx) [some (enc s), some (.lst false ((letters s).map encL)), none, none] = .ok .nx [some (enc s), some (.lst false ((letters s).map encL)), none, none] := by
      simp [mRef, h40']
    have e3 : mFor (.tp [(.nm 2), (.nm 3)]) (mItems (mRef 1)) (b__law_fault_0 fu) [some (enc s), some (.lst false ((letters s).map encL)), none, none] = match badN ((letters s).map Prod.fst) with
      | some n => .ok (.rt (fltD (.name n))) [some (enc s), some (.lst false ((letters s).map encL)), u', v']
      | none => .ok .nx [some (enc s), some (.lst false ((letters s).map encL)), u', v'] := by
      rw [ev_for]
      simp [mRef, e]
    show den__law_fault fu [enc s] = _
    rw [show nms s = (letters s).map Prod.fst from rfl]
    cases hb : badN ((letters s).map Prod.fst) with
    | some n =>
      rw [hb] at e3
      refine run_rt (env := [some (enc s), none, none, none]) (en := [some (enc s), some (.lst false ((letters s).map encL)), u', v']) ?_ rfl
      unfold m__law_fault
      rw [then_ok e1, then_ok e2, then_rt e3]
      rfl
    | none =>
      rw [hb] at e3
      refine run_rt (env := [some (enc s), none, none, none]) (en := [some (enc s), some (.lst false ((letters s).map encL)), u', v']) ?_ rfl
      unfold m__law_fault
      rw [then_ok e1, then_ok e2, then_ok e3]
      rfl

end K78
set_option Elab.async false
set_option linter.all false
set_option maxRecDepth 10000
namespace K78
open PySem L2 VS
/-! ### what is made -/
def madeD (s : Sh) : D := match flt s with
  | some f => fltD f
  | none => enc s
def bodyR (e : VS.Env) (s : Sh) : R Fl := match flt s with
  | some .large => .exc "TooLarge" [("limit", .int 40)] e
  | some (.name n) => .exc "BadName" [("name", S n)] e
  | none => .ok (.rt (enc s)) e
theorem xfr_enc : ∀ s, VS.xfr (enc s) = true
  | .lt n p => rfl
  | .nd k a b => by simp [enc, VS.xfr, xfrL, xfr_enc a, xfr_enc b]
theorem shape_ret {E : VS.Env} {f : M D} {s : Sh} (hf : f E = mkR E s) : (M.bind (mOp (oFld flds_shape "shape") (m1 (M.bind f fun d => M.ret (Hd.val d)))) fun d => M.ret (Fl.rt d)) E = bodyR E s := by
  rw [ev_bind, ev_op, ev_m1, ev_cons, ev_bind, hf]
  unfold mkR bodyR
  cases flt s with
  | some x => cases x <;> rfl
  | none => simp [fldK]
theorem then_body {E : VS.Env} {f g : M Fl} {s : Sh} (h : f E = bodyR E s) : mThen f g E = bodyR E s := by
  rw [ev_then, h]
  unfold bodyR
  cases flt s with
  | some x => cases x <;> rfl
  | none => rfl
theorem call_mk {den : FD} {fa : M (List Hd)} {env : VS.Env} {hs : List Hd} {ds : List D} {s : Sh} (hf : fa env = .ok hs env) (hp : prep [] 0 hs env = some (ds, env)) (hd : den ds = mkR [] s) : mCall [] den fa env = mkR env s := by
  rw [ev_call, hf, ev_bok, hp]
  dsimp only
  rw [hd]
  unfold mkR
  cases flt s with
  | some x => cases x <;> rfl
  | none => simp
section
variable (fu : Nat) (x y : D) (dd : Int)
theorem cond_ok (j : Int) : (mB (mOp oEq (m2 (mRef 2) (M.bind (M.ret (.int j)) fun d => M.ret (Hd.val d))))) [some x, some y, some (.int dd), none, none] = .ok (dd == j) [some x, some y, some (.int dd), none, none] := by
  simp [mRef, ov_eqI]
theorem skip_ok {X : M Fl} {j : Int} (h : dd ≠ j) : (mIf (mB (mOp oEq (m2 (mRef 2) (M.bind (M.ret (.int j)) fun d => M.ret (Hd.val d))))) X mNx) [some x, some y, some (.int dd), none, none] = .ok .nx [some x, some y, some (.int dd), none, none] := by
  have : (dd == j) = false := by simpa using h
  rw [ev_if, cond_ok, ev_bok, this, if_neg (by decide)]
  rfl
theorem hit_ok {X : M Fl} {s : Sh} (h : X [some x, some y, some (.int dd), none, none] = bodyR [some x, some y, some (.int dd), none, none] s) : (mIf (mB (mOp oEq (m2 (mRef 2) (M.bind (M.ret (.int dd)) fun d => M.ret (Hd.val d))))) X mNx) [some x, some y, some (.int dd), none, none] = bodyR [some x, some y, some (.int dd), none, none] s := by
  rw [ev_if, cond_ok, ev_bok, beq_self_eq_true, if_pos rfl, h]
theorem made_fin (hx : VS.xfr x = true) (hy : VS.xfr y = true) {fb : M Fl} {s : Sh} (h : fb [some x, some y, some (.int dd), none, none] = bodyR [some x, some y, some (.int dd), none, none] s) :
    ∃ en, mTry cts_ComesapartError 3 fb (made_h fu) [some x, some y, some (.int dd), none, none] = .ok (.rt (madeD s)) en := by
  unfold bodyR at h
  unfold madeD
  have ol : oLst [] = some (.lst true []) := rfl
  have hz : 0 < sizeLine := szL (by decide)
  cases hf : flt s with
  | none =>
    rw [hf] at h
    exact ⟨_, try_ok h⟩
  | some f =>
    rw [hf] at h
    cases f with
    | large =>
      have l2 : ises_TooLarge.lookup "TooLarge" = some true := by decide
      have l3 : ises_BadName.lookup "TooLarge" = some false := by decide
      have l4 : ises_ValueError.lookup "TooLarge" = some true := by decide
      have l5 : "TooLarge" ∈ exs_limit := by decide
      have l6 : List.lookup ("limit" : Str) [(("limit" : Str), (.int 40 : D))] = some (.int 40) := by simp [List.lookup]
      have ot : oTup [.str "large", .int 40] = some (fltD .large) := rfl
      have sh : shrd (fltD .large) = true := rfl
      have ss : share (.int 40) = .int 40 := rfl
      have sx : VS.xfr (fltD .large) = true := rfl
      have hh : made_h fu [some x, some y, some (.int dd), some (.exn "TooLarge" [("limit", .int 40)]), none] = .ok (.rt (fltD .large)) [some x, some y, some (.int dd), some (.exn "TooLarge" [("limit", .int 40)]), some (.lst true [fltD .large])] := by
        generalize fltD .large = td at *
        unfold made_h
        simp [mRef, mIsE, mExF, l2, l3, l4, l5, l6, ot, ol, ov_neI, hz, if_sh, sh, ss]
      refine ⟨_, try_exc (c := "TooLarge") (fds := [("limit", .int 40)]) (e := [some x, some y, some (.int dd), none, none]) h (by decide) (by show 3 < 5; decide) hh ?_⟩
      simp [Fl.xfr, xfrE, sx, VS.xfr, xfrL, hx, hy]
    | name n =>
      have l2 : ises_TooLarge.lookup "BadName" = some false := by decide
      have l3 : ises_BadName.lookup "BadName" = some true := by decide
      have l4 : ises_ValueError.lookup "BadName" = some true := by decide
      have l5 : "BadName" ∈ exs_name := by decide
      have l6 : List.lookup ("name" : Str) [(("name" : Str), (S n : D))] = some (S n) := by simp [List.lookup]
      have ot : oTup [.str "name", S n] = some (fltD (.name n)) := rfl
      have sh : shrd (fltD (.name n)) = true := rfl
      have ss : share (S n) = S n := rfl
      have sx : VS.xfr (fltD (.name n)) = true := rfl
      have hh : made_h fu [some x, some y, some (.int dd), some (.exn "BadName" [("name", S n)]), none] = .ok (.rt (fltD (.name n))) [some x, some y, some (.int dd), some (.exn "BadName" [("name", S n)]), some (.lst true [fltD (.name n)])] := by
        generalize fltD (.name n) = td at *
        unfold made_h
        simp [mRef, mIsE, mExF, l2, l3, l4, l5, l6, ot, ol, ov_neI, hz, if_sh, sh, ss]
      refine ⟨_, try_exc (c := "BadName") (fds := [("name", S n)]) (e := [some x, some y, some (.int dd), none, none]) h (by decide) (by show 3 < 5; decide) hh ?_⟩
      simp [Fl.xfr, xfrE, sx, VS.xfr, xfrL, hx, hy]
theorem made_end (hx : VS.xfr x = true) (hy : VS.xfr y = true) {s : Sh} (h : (mThen (mb_0 fu) (mThen (mb_1 fu) (mThen (mb_2 fu) (mThen (mb_3 fu) (mb_4 fu))))) [some x, some y, some (.int dd), none, none] = bodyR [some x, some y, some (.int dd), none, none] s) : den__law_made fu [x, y, .int dd] = .ok (madeD s) [] := by
  obtain ⟨en, e⟩ := made_fin fu x y dd hx hy h
  refine run_rt (env := [some x, some y, some (.int dd), none, none]) (en := en) ?_ rfl
  rw [made_eq]
  exact e
end
section
variable (fu : Nat) (hf : 1000 ≤ fu)
include hf
theorem mk_at {E : VS.Env} {i : Nat} {s : Sh} (h : Fit s) (hi : (E[i]?).join = some (enc s)) : mMake "Kind" (den_Kinddd_initdd fu) (mCons (mRef i) mNil) E = mkR E s :=
  make_ok fu hf h (cons_step (ev_ref hi) (ev_nil (env := E))) (by simp [hi, shrd_enc])
theorem mk_none {E : VS.Env} {s : Sh} (h : flt s = none) : mkR E s = .ok (kindD true s) E := by unfold mkR; rw [h]
theorem made0 {a : Sh} (ha : Fit a) (y : D) (hy : VS.xfr y = true) : den__law_made fu [enc a, y, .int 0] = .ok (madeD a) [] :=
  made_end fu _ y 0 (xfr_enc a) hy (then_body (hit_ok _ _ _ (shape_ret (mk_at fu hf ha rfl))))
theorem made4 {n : List Nat} (hn : Gd n) (y : D) (hy : VS.xfr y = true) : den__law_made fu [S n, y, .int 4] = .ok (madeD (.lt n true)) [] := by
  refine made_end fu _ y 4 rfl hy ?_
  rw [then_ok (show mb_0 fu _ = _ from skip_ok _ _ _ (by decide)), then_ok (show mb_1 fu _ = _ from skip_ok _ _ _ (by decide)), then_ok (show mb_2 fu _ = _ from skip_ok _ _ _ (by decide)), then_ok (show mb_3 fu _ = _ from skip_ok _ _ _ (by decide))]
  unfold mb_4
  exact shape_ret (call_mk (hs := [.var 0]) (ds := [S n]) (cons_step rfl (ev_nil (env := _))) (by simp) (letter_cm fu hf hn))
theorem gall2 {den : FD} {a b : Sh} {r : R D} (h : den [kindD true a, kindD true b] = r) : gAll "Kind" den [kindD true a, kindD true b] = r := by
  unfold gAll
  rw [if_pos (by rfl), h]
theorem two_at {den : FD} {E : VS.Env} {a b s : Sh} (ha : Fit a) (hb : Fit b) (fa : flt a = none) (fb : flt b = none) (h0 : (E[0]?).join = some (enc a)) (h1 : (E[1]?).join = some (enc b)) (hd : den [kindD true a, kindD true b] = mkR [] s) :
    mCall [] (gAll "Kind" den) (m2 (M.bind (mMake "Kind" (den_Kinddd_initdd fu) (mCons (mRef 0) mNil)) fun d => M.ret (Hd.val d)) (M.bind (mMake "Kind" (den_Kinddd_initdd fu) (mCons (mRef 1) mNil)) fun d => M.ret (Hd.val d))) E = mkR E s := by
  have e0 := (mk_at fu hf ha h0).trans (mk_none fu hf fa)
  have e1 := (mk_at fu hf hb h1).trans (mk_none fu hf fb)
  exact call_mk (hs := [.val (kindD true a), .val (kindD true b)]) (ds := [kindD true a, kindD true b]) (cons_step (val_step e0) (cons_step (val_step e1) (ev_nil (env := E)))) (by simp) (gall2 fu hf hd)
theorem made1 {a b : Sh} (ha : Fit a) (hb : Fit b) (fa : flt a = none) (fb : flt b = none) (h : Fit (.nd true a b)) : den__law_made fu [enc a, enc b, .int 1] = .ok (madeD (.nd true a b)) [] := by
  refine made_end fu _ _ 1 (xfr_enc a) (xfr_enc b) ?_
  rw [then_ok (show mb_0 fu _ = _ from skip_ok _ _ _ (by decide))]
  exact then_body (hit_ok _ _ _ (shape_ret (two_at fu hf ha hb fa fb rfl rfl (and_ok fu hf true true h))))
theorem made2 {a b : Sh} (ha : Fit a) (hb : Fit b) (fa : flt a = none) (fb : flt b = none) (h : Fit (.nd false a b)) : den__law_made fu [enc a, enc b, .int 2] = .ok (madeD (.nd false a b)) [] := by
  refine made_end fu _ _ 2 (xfr_enc a) (xfr_enc b) ?_
  rw [then_ok (show mb_0 fu _ = _ from skip_ok _ _ _ (by decide)), then_ok (show mb_1 fu _ = _ from skip_ok _ _ _ (by decide))]
  exact then_body (hit_ok _ _ _ (shape_ret (two_at fu hf ha hb fa fb rfl rfl (or_ok fu hf true true h))))
theorem made3 {a b : Sh} (ha : Fit a) (hb : Fit b) (fa : flt a = none) (fb : flt b = none) (h : Fit (.nd false (opp a) b)) : den__law_made fu [enc a, enc b, .int 3] = .ok (madeD (.nd false (opp a) b)) [] := by
  refine made_end fu _ _ 3 (xfr_enc a) (xfr_enc b) ?_
  rw [then_ok (show mb_0 fu _ = _ from skip_ok _ _ _ (by decide)), then_ok (show mb_1 fu _ = _ from skip_ok _ _ _ (by decide)), then_ok (show mb_2 fu _ = _ from skip_ok _ _ _ (by decide))]
  exact then_body (hit_ok _ _ _ (shape_ret (two_at fu hf ha hb fa fb rfl rfl (shift_ok fu hf true true (by have := ha.dep; omega) h))))
end
end K78
set_option Elab.async false
set_option linter.all false
set_option maxRecDepth 10000
namespace K78
open PySem L2 VS

def du_0 (fu : Nat) : M Fl :=
    (mAsg (.nm 3) (mShare 0))
def du_1 (fu : Nat) : M Fl :=
    (mIf (mB (mOp oEq (m2 (mRef 2) (M.bind (M.ret (.int 1)) fun d => M.ret (Hd.val d)))))
    (mAsg (.nm 3) (mShr (mTk oTup (mCons (M.bind (M.ret (.str "both")) fun d => M.ret (Hd.val d)) (mCons (mRef 0) (mCons (mRef 1) mNil))))))
    mNx)
def du_2 (fu : Nat) : M Fl :=
    (mIf (mB (mOp oEq (m2 (mRef 2) (M.bind (M.ret (.int 2)) fun d => M.ret (Hd.val d)))))
    (mAsg (.nm 3) (mShr (mTk oTup (mCons (M.bind (M.ret (.str "together")) fun d => M.ret (Hd.val d)) (mCons (mRef 0) (mCons (mRef 1) mNil))))))
    mNx)
def du_3 (fu : Nat) : M Fl :=
    (mIf (mB (mOp oEq (m2 (mRef 2) (M.bind (M.ret (.int 3)) fun d => M.ret (Hd.val d)))))
    (mAsg (.nm 3) (mShr (mTk oTup (mCons (M.bind (M.ret (.str "together")) fun d => M.ret (Hd.val d)) (mCons (M.bind (mCall [] (den__law_opposite fu 60) (mCons (mRef 0) mNil)) fun d => M.ret (Hd.val d)) (mCons (mRef 1) mNil))))))
    mNx)
def du_4 (fu : Nat) : M Fl :=
    (mIf (mB (mOp oGt (m2 (M.bind (mOp oLen (m1 (M.bind (mCall [] (den__law_letters fu 60) (mCons (mRef 3) mNil)) fun d => M.ret (Hd.val d)))) fun d => M.ret (Hd.val d)) (M.bind (M.ret (.int 40)) fun d => M.ret (Hd.val d)))))
    (M.bind (mTk oTup (mCons (M.bind (M.ret (.str "large")) fun d => M.ret (Hd.val d)) (mCons (M.bind (M.ret (.int 40)) fun d => M.ret (Hd.val d)) mNil))) fun d => M.ret (Fl.rt d))
    mNx)
def du_5 (fu : Nat) : M Fl :=
    (M.bind (mMove 3) fun d => M.ret (Fl.rt d))
theorem m__law_due_eq (fu : Nat) : m__law_due fu = mThen (du_0 fu) (mThen (du_1 fu) (mThen (du_2 fu) (mThen (du_3 fu) (mThen (du_4 fu) (du_5 fu))))) := rfl
def fi_0 (fu : Nat) : M Fl :=
    (mIf (mOr (M.bind (mTru (M.bind (mOp (oIsi isis_tuple) (m1 (M.bind (mOp (oFld flds_shape "shape") (m1 (mRef 0))) fun d => M.ret (Hd.val d)))) fun d => M.ret (Hd.val d))) fun b => M.ret (!b)) (mB (mOp oNe (m2 (M.bind (mOp (oFld flds_shape "shape") (m1 (mRef 0))) fun d => M.ret (Hd.val d)) (mRef 1)))))
    (M.bind (M.ret (.bl false)) fun d => M.ret (Fl.rt d))
    mNx)
def fi_1 (fu : Nat) : M Fl :=
    (mIf (mOr (M.bind (mTru (M.bind (mOp (oIsi isis_tuple) (m1 (M.bind (mCall [] (noR (gAll "Kind" (den_Kind_letters fu))) (m1 (mRef 0))) fun d => M.ret (Hd.val d)))) fun d => M.ret (Hd.val d))) fun b => M.ret (!b)) (mB (mOp oNe (m2 (M.bind (mOp oList (m1 (M.bind (mCall [] (noR (gAll "Kind" (den_Kind_letters fu))) (m1 (mRef 0))) fun d => M.ret (Hd.val d)))) fun d => M.ret (Hd.val d)) (M.bind (mCall [] (den__law_letters fu 60) (mCons (mRef 1) mNil)) fun d => M.ret (Hd.val d))))))
    (M.bind (M.ret (.bl false)) fun d => M.ret (Fl.rt d))
    mNx)
def fi_2 (fu : Nat) : M Fl :=
    (mFor (.nm 2) (mItems (M.bind (mCall [] (noR (gAll "Kind" (den_Kind_letters fu))) (m1 (mRef 0))) fun d => M.ret (Hd.val d)))
    (b__law_fields_0 fu))
def fi_3 (fu : Nat) : M Fl :=
    (mAsg (.nm 3) (mShr (mCall [] (den_is_arrow fu) (mCons (mRef 0) mNil))))
def fi_4 (fu : Nat) : M Fl :=
    (M.bind (mAndV (mOp (oIsi isis_bool) (m1 (mRef 3))) (mOp oEq (m2 (mRef 3) (M.bind (mCall [] (den__law_due_arrow fu 60) (mCons (mRef 1) (mCons (M.bind (M.ret (.bl true)) fun d => M.ret (Hd.val d)) mNil))) fun d => M.ret (Hd.val d))))) fun d => M.ret (Fl.rt d))
theorem m__law_fields_eq (fu : Nat) : m__law_fields fu = mThen (fi_0 fu) (mThen (fi_1 fu) (mThen (fi_2 fu) (mThen (fi_3 fu) (fi_4 fu)))) := rfl
/-! ### what is due -/
def dueD (s : Sh) : D := if 40 < (nms s).length then fltD .large else enc s
theorem due_tail (fu : Nat) {x y z : D} {s : Sh} (h : Fit s) : ∃ en, (mThen (du_4 fu) (du_5 fu)) [some x, some y, some z, some (enc s)] = .ok (.rt (dueD s)) en := by
  obtain ⟨o, hl⟩ := lletters_ok fu s 60 (by have := h.dep; omega) h.siz
  have ot : oTup [.str "large", .int 40] = some (fltD .large) := rfl
  have lc : mCall [] (den__law_letters fu 60) (mCons (mRef 3) mNil) [some x, some y, some z, some (enc s)] = .ok (.lst o ((letters s).map encL)) [some x, some y, some z, some (enc s)] :=
    call_step (cons_step rfl (ev_nil (env := _))) (by simp [shrd_enc]) hl
  unfold dueD
  rw [len_nms]
  by_cases h40 : 40 < (letters s).length
  · have h40' : (40 : Int) < ((letters s).length : Int) := by omega
    refine ⟨_, then_rt (e := [some x, some y, some z, some (enc s)]) ?_⟩
    rw [if_pos h40]
    unfold du_4
    have hc : mB (mOp oGt (m2 (M.bind (mOp oLen (m1 (M.bind (mCall [] (den__law_letters fu 60) (mCons (mRef 3) mNil)) fun d => M.ret (Hd.val d)))) fun d => M.ret (Hd.val d)) (M.bind (M.ret (.int 40)) fun d => M.ret (Hd.val d)))) [some x, some y, some z, some (enc s)] = .ok true [some x, some y, some z, some (enc s)] := by
      have e1 : mOp oLen (m1 (M.bind (mCall [] (den__law_letters fu 60) (mCons (mRef 3) mNil)) fun d => M.ret (Hd.val d))) [some x, some y, some z, some (enc s)] = .ok (.int (letters s).length) [some x, some y, some z, some (enc s)] := by
        rw [ev_op, ev_m1, cons_step (val_step lc) (ev_nil (env := _)), ev_bok]
        simp
      rw [ev_B, ev_op, ev_m2, cons_step (val_step e1) (cons_step (val_step (ev_ret (env := _))) (ev_nil (env := _))), ev_bok]
      simp [h40']
    rw [ev_if, hc, ev_bok, if_pos rfl]
    simp [ot]
  · have h40' : ¬ (40 : Int) < ((letters s).length : Int) := by omega
    have e4 : du_4 fu [some x, some y, some z, some (enc s)] = .ok .nx [some x, some y, some z, some (enc s)] := by
      unfold du_4
      have hc : mB (mOp oGt (m2 (M.bind (mOp oLen (m1 (M.bind (mCall [] (den__law_letters fu 60) (mCons (mRef 3) mNil)) fun d => M.ret (Hd.val d)))) fun d => M.ret (Hd.val d)) (M.bind (M.ret (.int 40)) fun d => M.ret (Hd.val d)))) [some x, some y, some z, some (enc s)] = .ok false [some x, some y, some z, some (enc s)] := by
        have e1 : mOp oLen (m1 (M.bind (mCall [] (den__law_letters fu 60) (mCons (mRef 3) mNil)) fun d => M.ret (Hd.val d))) [some x, some y, some z, some (enc s)] = .ok (.int (letters s).length) [some x, some y, some z, some (enc s)] := by
          rw [ev_op, ev_m1, cons_step (val_step lc) (ev_nil (env := _)), ev_bok]
          simp
        rw [ev_B, ev_op, ev_m2, cons_step (val_step e1) (cons_step (val_step (ev_ret (env := _))) (ev_nil (env := _))), ev_bok]
        simp [h40']
      rw [ev_if, hc, ev_bok, if_neg (by decide)]
      rfl
    refine ⟨[some x, some y, some z, none], ?_⟩
    rw [if_neg h40, then_ok e4]
    rfl
section
variable (fu : Nat) (a b : Sh)
theorem du0 (dd : Int) : du_0 fu [some (enc a), some (enc b), some (.int dd), none] = .ok .nx [some (enc a), some (enc b), some (.int dd), some (enc a)] := by
  unfold du_0
  simp [share_enc]
theorem dskip {X : M Fl} {dd j : Int} {z : D} (h : dd ≠ j) : (mIf (mB (mOp oEq (m2 (mRef 2) (M.bind (M.ret (.int j)) fun d => M.ret (Hd.val d))))) X mNx) [some (enc a), some (enc b), some (.int dd), some z] = .ok .nx [some (enc a), some (enc b), some (.int dd), some z] := by
  have : (dd == j) = false := by simpa using h
  simp [mRef, ov_eqI, this]
theorem due_end {dd : Int} {s : Sh} (h : Fit s) (hm : (mThen (du_1 fu) (mThen (du_2 fu) (mThen (du_3 fu) (mThen (du_4 fu) (du_5 fu))))) [some (enc a), some (enc b), some (.int dd), some (enc a)] = (mThen (du_4 fu) (du_5 fu)) [some (enc a), some (enc b), some (.int dd), some (enc s)]) : den__law_due fu [enc a, enc b, .int dd] = .ok (dueD s) [] := by
  obtain ⟨en, e⟩ := due_tail fu (x := enc a) (y := enc b) (z := .int dd) h
  refine run_rt (env := [some (enc a), some (enc b), some (.int dd), none]) (en := en) ?_ rfl
  rw [m__law_due_eq, then_ok (du0 fu a b dd), hm]
  exact e
theorem due0 (h : Fit a) : den__law_due fu [enc a, enc b, .int 0] = .ok (dueD a) [] := by
  refine due_end fu a b h ?_
  rw [then_ok (show du_1 fu _ = _ from dskip _ _ (by decide)), then_ok (show du_2 fu _ = _ from dskip _ _ (by decide)), then_ok (show du_3 fu _ = _ from dskip _ _ (by decide))]
theorem due1 (h : Fit (.nd true a b)) : den__law_due fu [enc a, enc b, .int 1] = .ok (dueD (.nd true a b)) [] := by
  refine due_end fu a b h ?_
  have ot : oTup [.str "both", enc a, enc b] = some (enc (.nd true a b)) := rfl
  rw [then_ok (show du_1 fu _ = .ok .nx [some (enc a), some (enc b), some (.int 1), some (enc (.nd true a b))] by unfold du_1; simp [mRef, ov_eqI, shrd_enc, ot, share_enc]), then_ok (show du_2 fu _ = _ from dskip _ _ (by decide)), then_ok (show du_3 fu _ = _ from dskip _ _ (by decide))]
theorem due2 (h : Fit (.nd false a b)) : den__law_due fu [enc a, enc b, .int 2] = .ok (dueD (.nd false a b)) [] := by
  refine due_end fu a b h ?_
  have ot : oTup [.str "together", enc a, enc b] = some (enc (.nd false a b)) := rfl
  rw [then_ok (show du_1 fu _ = _ from dskip _ _ (by decide)), then_ok (show du_2 fu _ = .ok .nx [some (enc a), some (enc b), some (.int 2), some (enc (.nd false a b))] by unfold du_2; simp [mRef, ov_eqI, shrd_enc, ot, share_enc]), then_ok (show du_3 fu _ = _ from dskip _ _ (by decide))]
theorem due3 (ha : Fit a) (h : Fit (.nd false (opp a) b)) : den__law_due fu [enc a, enc b, .int 3] = .ok (dueD (.nd false (opp a) b)) [] := by
  refine due_end fu a b h ?_
  have ot : oTup [.str "together", enc (opp a), enc b] = some (enc (.nd false (opp a) b)) := rfl
  have lo := lopposite_ok fu a 60 (by have := ha.dep; omega)
  rw [then_ok (show du_1 fu _ = _ from dskip _ _ (by decide)), then_ok (show du_2 fu _ = _ from dskip _ _ (by decide)), then_ok (show du_3 fu _ = .ok .nx [some (enc a), some (enc b), some (.int 3), some (enc (.nd false (opp a) b))] by unfold du_3; simp [mRef, ov_eqI, shrd_enc, lo, ot, share_enc])]
end
/-! ### the fields of a kind -/
def encLP (q : List Nat × Bool) : PyData := .tuple [.str ⟨q.1.toArray⟩, .bool q.2]
theorem pdL_letters : ∀ l : List (List Nat × Bool), pdL (l.map encL) = some (l.map encLP)
  | [] => by simp [pdL]
  | q :: l => by
    have h1 : pd (encL q) = some (encLP q) := by simp [encL, encLP, pd, pdL]
    rw [List.map_cons, List.map_cons, pdL, h1, pdL_letters l]
theorem lay_letters : ∀ l : List (List Nat × Bool), (∀ q ∈ l, Uni q.1) → PyData.canLayAll0 (l.map encLP) = true ∧ PyData.depthAll (l.map encLP) ≤ 1
  | [], _ => ⟨rfl, by simp [PyData.depthAll]⟩
  | q :: l, h => by
    obtain ⟨i1, i2⟩ := lay_letters l fun r hr => h r (by simp [hr])
    have hu := uniS (h q (by simp))
    constructor
    · simp [encLP, PyData.canLayAll0, PyData.canLay0, hu] at i1 ⊢
      simpa [encLP] using i1
    · simp only [List.map_cons, PyData.depthAll]
      have : PyData.depth (encLP q) = 1 := by simp [encLP, PyData.depth, PyData.depthAll]
      omega
theorem neLetters (o o' : Bool) {l : List (List Nat × Bool)} (h : ∀ q ∈ l, Uni q.1) : oNe [.lst o (l.map encL), .lst o' (l.map encL)] = some (.bl false) := by
  obtain ⟨h1, h2⟩ := lay_letters l h
  have hp : ∀ o, pd (.lst o (l.map encL)) = some (.list (l.map encLP)) := fun o => by rw [pd, pdL_letters]; rfl
  have hs : SeqAt.shaped (.list (l.map encLP)) = true := by
    unfold SeqAt.shaped
    simp only [PyData.canLay0, PyData.depth, h1, Bool.true_and]
    exact decide_eq_true (by omega)
  have r : PyData.eqv (.list (l.map encLP)) (.list (l.map encLP)) = true := PySem.SeqAt.eqv_refl _ (SeqAt.canLay_of_shaped hs)
  show (match pd (.lst o (l.map encL)), pd (.lst o' (l.map encL)) with
    | some p, some q => if SeqAt.shaped p = true ∧ SeqAt.shaped q = true then some (D.bl (!PyData.eqv p q)) else none
    | _, _ => none) = _
  rw [hp, hp]
  dsimp only
  rw [if_pos ⟨hs, hs⟩, r]
  rfl
theorem share_kd (s : Sh) : share (kindD true s) = kindD false s := share_kind true s
theorem shrd_kd (s : Sh) : shrd (kindD false s) = true := rfl
theorem prop_step (fu : Nat) (hf : 1000 ≤ fu) {s : Sh} (h : Fit s) {E : VS.Env} {i : Nat} (hi : (E[i]?).join = some (kindD false s)) : mCall [] (noR (gAll "Kind" (den_Kind_letters fu))) (m1 (mRef i)) E = .ok (.tup ((letters s).map encL)) E := by
  refine call_step (hs := [.var i]) (ds := [kindD false s]) (outs := []) (cons_step (ev_ref hi) (ev_nil (env := E))) (by simp [hi, shrd_kd]) ?_
  have e : gAll "Kind" (den_Kind_letters fu) [kindD false s] = .ok (.tup ((letters s).map encL)) [] := by
    unfold gAll
    rw [if_pos (by rfl), letters_prop fu hf false h]
  unfold noR
  rw [e]
theorem field_loop (fu : Nat) (x y : Option D) (w : Option D) : ∀ (l : List (List Nat × Bool)) (u : Option D), ∃ u', forL (.nm 2) (b__law_fields_0 fu) (l.map encL) [x, y, u, w] = .ok .nx [x, y, u', w]
  | [], u => ⟨u, rfl⟩
  | q :: l, u => by
    obtain ⟨u', e⟩ := field_loop fu x y w l (some (encL q))
    refine ⟨u', ?_⟩
    have i1 : oIsi isis_tuple [encL q] = some (.bl true) := rfl
    have i2 : oIsi isis_bool [.bl q.2] = some (.bl true) := rfl
    have i3 : oIx [encL q, .int 1] = some (.bl q.2) := by simp [encL]
    have ht : b__law_fields_0 fu [x, y, some (encL q), w] = .ok .nx [x, y, some (encL q), w] := by
      simp [b__law_fields_0, mRef, i1, i2, i3]
    rw [List.map_cons, ev_forC]
    simp only [ev_nm, List.length_cons, List.length_nil, List.set_cons_succ, List.set_cons_zero]
    rw [if_pos (by decide)]
    dsimp only
    rw [ht]
    exact e
theorem shareL_letters (l : List (List Nat × Bool)) : shareL (l.map encL) = l.map encL := shareL_map0 l
theorem fields_ok (fu : Nat) (hf : 1000 ≤ fu) {s : Sh} (h : Fit s) : den__law_fields fu [kindD false s, enc s] = .ok (.bl true) [] := by
  generalize hE : ([some (kindD false s), some (enc s), none, none] : VS.Env) = E
  have g0 : (E[0]?).join = some (kindD false s) := by rw [← hE]; rfl
  have g1 : (E[1]?).join = some (enc s) := by rw [← hE]; rfl
  have hne := (h.eq h).2
  have hne : oNe [enc s, enc s] = some (.bl false) := by rw [hne]; simp
  have tp : oIsi isis_tuple [enc s] = some (.bl true) := by cases s <;> rfl
  have tp2 : ∀ ds, oIsi isis_tuple [.tup ds] = some (.bl true) := fun ds => rfl
  have f0 : fi_0 fu E = .ok .nx E := by
    rw [← hE]
    unfold fi_0
    simp [mRef, fldK, tp, hne]
  obtain ⟨o, hl⟩ := lletters_ok fu s 60 (by have := h.dep; omega) h.siz
  have hp := prop_step fu hf h g0
  have lc : mCall [] (den__law_letters fu 60) (mCons (mRef 1) mNil) E = .ok (.lst o ((letters s).map encL)) E :=
    call_step (hs := [.var 1]) (cons_step (ev_ref g1) (ev_nil (env := E))) (by simp [g1, shrd_enc]) hl
  have ol : oList [.tup ((letters s).map encL)] = some (.lst true ((letters s).map encL)) := by
    show (if shrdL ((letters s).map encL) = true then some (D.lst true ((letters s).map encL)) else none) = _
    rw [if_pos (shrdL_map _)]
  have nel := neLetters true o (l := letters s) (of_nms h.uni)
  have f1 : fi_1 fu E = .ok .nx E := by
    have a1 : mOp (oIsi isis_tuple) (m1 (M.bind (mCall [] (noR (gAll "Kind" (den_Kind_letters fu))) (m1 (mRef 0))) fun d => M.ret (Hd.val d))) E = .ok (.bl true) E := by
      rw [ev_op, ev_m1 (f := M.bind _ _), cons_step (val_step hp) (ev_nil (env := E)), ev_bok]
      simp [tp2]
    have a2 : mOp oList (m1 (M.bind (mCall [] (noR (gAll "Kind" (den_Kind_letters fu))) (m1 (mRef 0))) fun d => M.ret (Hd.val d))) E = .ok (.lst true ((letters s).map encL)) E := by
      rw [ev_op, ev_m1 (f := M.bind _ _), cons_step (val_step hp) (ev_nil (env := E)), ev_bok]
      simp [ol]
    have a3 : mOp oNe (m2 (M.bind (mOp oList (m1 (M.bind (mCall [] (noR (gAll "Kind" (den_Kind_letters fu))) (m1 (mRef 0))) fun d => M.ret (Hd.val d)))) fun d => M.ret (Hd.val d)) (M.bind (mCall [] (den__law_letters fu 60) (mCons (mRef 1) mNil)) fun d => M.ret (Hd.val d))) E = .ok (.bl false) E := by
      rw [ev_op, ev_m2, cons_step (val_step a2) (cons_step (val_step lc) (ev_nil (env := E))), ev_bok]
      simp [nel]
    unfold fi_1
    rw [ev_if, ev_or, ev_bind, ev_tru, val_step a1, ev_bok]
    simp only [ev_hval, tr_bl, ev_bok, ev_ret, Bool.not_true]
    rw [if_neg (by decide), ev_B, a3]
    rfl
  obtain ⟨u', fl⟩ := field_loop fu (some (kindD false s)) (some (enc s)) none (letters s) none
  have f2 : fi_2 fu E = .ok .nx [some (kindD false s), some (enc s), u', none] := by
    have a1 : mItems (M.bind (mCall [] (noR (gAll "Kind" (den_Kind_letters fu))) (m1 (mRef 0))) fun d => M.ret (Hd.val d)) E = .ok ((letters s).map encL) E := by
      rw [ev_items, val_step hp, ev_bok]
      dsimp only
      rw [sh_tup, shareL_letters]
      have it : itemsOf (.tup ((letters s).map encL)) = some ((letters s).map encL) := by
        show (if shrdL ((letters s).map encL) = true then some ((letters s).map encL) else none) = _
        rw [if_pos (shrdL_map _)]
      rw [it]
    unfold fi_2
    rw [ev_for, a1, ev_bok, ← hE]
    exact fl
  have ha := arrow_ok fu false h
  have f3 : fi_3 fu [some (kindD false s), some (enc s), u', none] = .ok .nx [some (kindD false s), some (enc s), u', some (.bl (arrow s true))] := by
    unfold fi_3
    simp [mRef, shrd_kd, ha]
  have hd := due_arrow_ok fu s 60 true (by have := h.dep; omega)
  have bb : oIsi isis_bool [.bl (arrow s true)] = some (.bl true) := rfl
  refine run_rt (env := E) (en := [some (kindD false s), some (enc s), u', some (.bl (arrow s true))]) ?_ hE
  rw [m__law_fields_eq, then_ok f0, then_ok f1, then_ok f2, then_ok f3]
  unfold fi_4
  simp [mRef, bb, shrd_enc, hd, eqBl]

end K78
set_option Elab.async false
set_option linter.all false
set_option maxRecDepth 10000
namespace K78
open PySem L2 VS
/-! ### names made -/
theorem flt_self {f : Flt} (h : ∀ n, f = .name n → Uni n) : oEq [fltD f, fltD f] = some (.bl true) ∧ oNe [fltD f, fltD f] = some (.bl false) := by
  cases f with
  | large =>
    have h3 : PyData.strOk "large" = true := by decide +kernel
    refine eq_self (p := .tuple [.str "large", .int 40]) (by simp [fltD, pd, pdL]) ?_
    unfold SeqAt.shaped
    simp [PyData.canLay0, PyData.canLayAll0, PyData.depth, PyData.depthAll, h3]
  | name n =>
    have hu := uniS (h n rfl)
    have h3 : PyData.strOk "name" = true := by decide +kernel
    refine eq_self (p := .tuple [.str "name", .str ⟨n.toArray⟩]) (by simp [fltD, pd, pdL]) ?_
    unfold SeqAt.shaped
    simp [PyData.canLay0, PyData.canLayAll0, PyData.depth, PyData.depthAll, h3, hu]
theorem fit_lt {n : List Nat} (h : Gd n) (p : Bool) : Fit (.lt n p) := ⟨by simp [nms, letters], fun m hm => by have : m = n := (by simpa [nms, letters] using hm); rw [this]; exact h⟩
theorem flt_lt (n : List Nat) : flt (.lt n true) = if nameOk n = true then none else some (.name n) := by
  unfold flt
  have e : nms (.lt n true) = [n] := rfl
  rw [e, if_neg (by simp)]
  unfold badN
  by_cases h : nameOk n = true
  · rw [if_pos h, if_pos h]; rfl
  · rw [if_neg h, if_neg h]; rfl
theorem nm_turn (fu : Nat) (hf : 1000 ≤ fu) (x : Option D) {n : List Nat} (h : Gd n) (z : Option D) : ∃ z', b__law_names_made_0 fu [x, some (S n), z] = .ok .nx [x, some (S n), z'] := by
  have hb := bad_ok fu n (by have := h.2; omega)
  have hm := made4 fu hf h (S n) rfl
  have ot1 : oTup [.str "letter", S n, .bl true] = some (enc (.lt n true)) := rfl
  have ot2 : oTup [.str "name", S n] = some (fltD (.name n)) := rfl
  have ef := (flt_self (f := .name n) fun m e => by cases e; exact h.1).2
  have ee := ((fit_lt h true).eq (fit_lt h true)).2
  have ee : oNe [enc (.lt n true), enc (.lt n true)] = some (.bl false) := by rw [ee]; simp
  have se := share_enc (.lt n true)
  have sf : share (fltD (.name n)) = fltD (.name n) := rfl
  unfold madeD at hm
  rw [flt_lt] at hm
  cases hk : nameOk n
  · rw [hk] at hb hm
    simp only [Bool.false_eq_true, if_false] at hm
    refine ⟨some (fltD (.name n)), ?_⟩
    generalize fltD (.name n) = td at *
    generalize enc (.lt n true) = tl at *
    simp [b__law_names_made_0, mRef, ot1, ot2, hb, hm, ef, se, sf]
  · rw [hk] at hb hm
    simp only [if_true] at hm
    refine ⟨some (enc (.lt n true)), ?_⟩
    generalize fltD (.name n) = td at *
    generalize enc (.lt n true) = tl at *
    simp [b__law_names_made_0, mRef, ot1, hb, hm, ee, se]
theorem nm_loop (fu : Nat) (hf : 1000 ≤ fu) (x : Option D) : ∀ (ns : List (List Nat)) (y z : Option D), (∀ n ∈ ns, Gd n) → ∃ y' z', forL (.nm 1) (b__law_names_made_0 fu) (ns.map S) [x, y, z] = .ok .nx [x, y', z']
  | [], y, z, _ => ⟨y, z, rfl⟩
  | n :: ns, y, z, h => by
    obtain ⟨z1, ht⟩ := nm_turn fu hf x (h n (by simp)) z
    obtain ⟨y', z', e⟩ := nm_loop fu hf x ns (some (S n)) z1 fun m hm => h m (by simp [hm])
    refine ⟨y', z', ?_⟩
    rw [List.map_cons, ev_forC]
    simp only [ev_nm, List.length_cons, List.length_nil, List.set_cons_succ, List.set_cons_zero]
    rw [if_pos (by decide)]
    dsimp only
    rw [ht]
    exact e
theorem names_made_ok (fu : Nat) (hf : 1000 ≤ fu) (ns : List (List Nat)) (h : ∀ n ∈ ns, Gd n) : den__law_names_made fu [.lst false (ns.map S)] = .ok (.bl true) [] := by
  obtain ⟨y', z', e⟩ := nm_loop fu hf (some (.lst false (ns.map S))) ns none none h
  refine run_rt (env := [some (.lst false (ns.map S)), none, none]) (en := [some (.lst false (ns.map S)), y', z']) ?_ rfl
  unfold m__law_names_made
  rw [then_ok (e := [some (.lst false (ns.map S)), y', z'])]
  · rfl
  · rw [ev_for]
    simp [mRef, e]
/-! ### a name spoilt -/
def menuC : List (List Nat) := [[], [97, 98, 99, 100, 101, 102, 103, 104, 105], [65, 98], [97, 55], [97, 32, 98], [98, 39], [120, 95, 121], [40], [122, 122, 122, 122, 122, 122, 122, 122, 122, 122, 122, 122], [97, 45], [10], [97, 98, 99, 100, 101, 102, 103, 72]]
def menuD : List D := [.str "", .str "abcdefghi", .str "Ab", .str "a7", .str "a b", .str "b'", .str "x_y", .str "(", .str "zzzzzzzzzzzz", .str "a-", .str "\n", .str "abcdefgH"]
theorem menu_eq : menuD = menuC.map S := by
  have h1 : Str.ofString "" = ⟨([] : List Nat).toArray⟩ := by decide +kernel
  have h2 : Str.ofString "abcdefghi" = ⟨[97, 98, 99, 100, 101, 102, 103, 104, 105].toArray⟩ := by decide +kernel
  have h3 : Str.ofString "Ab" = ⟨[65, 98].toArray⟩ := by decide +kernel
  have h4 : Str.ofString "a7" = ⟨[97, 55].toArray⟩ := by decide +kernel
  have h5 : Str.ofString "a b" = ⟨[97, 32, 98].toArray⟩ := by decide +kernel
  have h6 : Str.ofString "b'" = ⟨[98, 39].toArray⟩ := by decide +kernel
  have h7 : Str.ofString "x_y" = ⟨[120, 95, 121].toArray⟩ := by decide +kernel
  have h8 : Str.ofString "(" = ⟨[40].toArray⟩ := by decide +kernel
  have h9 : Str.ofString "zzzzzzzzzzzz" = ⟨[122, 122, 122, 122, 122, 122, 122, 122, 122, 122, 122, 122].toArray⟩ := by decide +kernel
  have h10 : Str.ofString "a-" = ⟨[97, 45].toArray⟩ := by decide +kernel
  have h11 : Str.ofString "\n" = ⟨[10].toArray⟩ := by decide +kernel
  have h12 : Str.ofString "abcdefgH" = ⟨[97, 98, 99, 100, 101, 102, 103, 72].toArray⟩ := by decide +kernel
  unfold menuD menuC
  rw [h1, h2, h3, h4, h5, h6, h7, h8, h9, h10, h11, h12]
  rfl
theorem menu_gd : ∀ n ∈ menuC, Gd n := by
  have h1 : ∀ n ∈ menuC, n.length ≤ 12 := by decide
  have h2 : ∀ n ∈ menuC, ∀ c ∈ n, c < 0x110000 := by decide
  exact fun n hn => ⟨h2 n hn, h1 n hn⟩
theorem ixMenu {r : Int} (h0 : 0 ≤ r) (h1 : r < 12) : ∃ n, Gd n ∧ oIx [.lst false menuD, .int r] = some (S n) := by
  obtain ⟨k, rfl⟩ := Int.eq_ofNat_of_zero_le h0
  have hl : menuC.length = 12 := by decide
  have hk : k < menuC.length := by omega
  refine ⟨menuC[k], menu_gd _ (List.getElem_mem hk), ?_⟩
  rw [menu_eq]
  exact ixS false menuC hk
theorem set_step {i : Nat} {fe : M D} {fi : M Hd} {env : VS.Env} {ds : List D} {d : D} {h : Hd} {k : Int} {j : Nat} (h0 : (env[i]?).join = some (.lst true ds)) (he : fe env = .ok d env) (hi : fi env = .ok h env) (hk : h.get env = some (.int k)) (hj : ixN ds.length k = some j) :
    mSetIx i fe fi env = .ok .nx (env.set i (some (.lst true (ds.set j d)))) := by
  have hl : isLst env i = true := by unfold isLst; rw [h0]
  unfold mSetIx mPair
  rw [ev_bind, ev_bind, he, ev_bok]
  rw [if_pos hl, ev_bind, hi, ev_bok, ev_ret, ev_bok]
  simp only [h0, hk, hj]
theorem Nm.gd {n : List Nat} (h : Nm n) : Gd n := ⟨h.1.uni, by have := h.2; omega⟩
theorem spoilt_ok (fu : Nat) (x : List Int) (hx : x ≠ []) (ns : List (List Nat)) (hn : ns ≠ []) (h : ∀ n ∈ ns, Gd n) : ∃ ns' : List (List Nat), ns'.length = ns.length ∧ (∀ n ∈ ns', Gd n) ∧ den__law_spoilt fu [drD x, .lst true (ns.map S)] = .ok .non [some (.lst true (ns'.map S))] := by
  obtain ⟨r, ⟨r0, r1, _⟩, hr⟩ := pick_ok fu x 5 12 hx
  obtain ⟨w, hw, hxw⟩ := ixMenu r0 (r1 (by decide))
  obtain ⟨p, ⟨p0, p1, p2⟩, hp⟩ := pick_ok fu x 4 ns.length hx
  obtain ⟨k, rfl⟩ := Int.eq_ofNat_of_zero_le p0
  have hn0 : 0 < ns.length := List.length_pos_iff.mpr hn
  have hk : k < ns.length := by
    by_cases h2 : 2 ≤ ns.length
    · have := p1 (by omega); omega
    · have := p2 (by omega); omega
  have hp' : den__law_pick fu [.lst false (x.map .int), .int 4, .int ns.length] = .ok (.int (k : Nat)) [] := hp
  refine ⟨ns.set k w, by simp, fun n hm => ?_, ?_⟩
  · rcases List.mem_or_eq_of_mem_set hm with h1 | h1
    · exact h n h1
    · rw [h1]; exact hw
  have el : oLst menuD = some (.lst true menuD) := if_pos (Nat.le_of_lt (szL (by decide)))
  have e0 : mAsg (.nm 2) (mShr (mTk oLst (mCons (M.bind (M.ret (.str "")) fun d => M.ret (Hd.val d)) (mCons (M.bind (M.ret (.str "abcdefghi")) fun d => M.ret (Hd.val d)) (mCons (M.bind (M.ret (.str "Ab")) fun d => M.ret (Hd.val d)) (mCons (M.bind (M.ret (.str "a7")) fun d => M.ret (Hd.val d)) (mCons (M.bind (M.ret (.str "a b")) fun d => M.ret (Hd.val d)) (mCons (M.bind (M.ret (.str "b'")) fun d => M.ret (Hd.val d)) (mCons (M.bind (M.ret (.str "x_y")) fun d => M.ret (Hd.val d)) (mCons (M.bind (M.ret (.str "(")) fun d => M.ret (Hd.val d)) (mCons (M.bind (M.ret (.str "zzzzzzzzzzzz")) fun d => M.ret (Hd.val d)) (mCons (M.bind (M.ret (.str "a-")) fun d => M.ret (Hd.val d)) (mCons (M.bind (M.ret (.str "\n")) fun d => M.ret (Hd.val d)) (mCons (M.bind (M.ret (.str "abcdefgH")) fun d => M.ret (Hd.val d)) mNil)))))))))))))) [some (drD x), some (.lst true (ns.map S)), none] = .ok .nx [some (drD x), some (.lst true (ns.map S)), some (.lst false menuD)] := by
    unfold menuD at *
    simp [el]
  have ea : mOp oIx (m2 (mRef 2) (M.bind (mCall [] (den__law_pick fu) (mCons (mRef 0) (mCons (M.bind (M.ret (.int 5)) fun d => M.ret (Hd.val d)) (mCons (M.bind (M.ret (.int 12)) fun d => M.ret (Hd.val d)) mNil)))) fun d => M.ret (Hd.val d))) [some (drD x), some (.lst true (ns.map S)), some (.lst false menuD)] = .ok (S w) [some (drD x), some (.lst true (ns.map S)), some (.lst false menuD)] := by
    have sm : oIx [D.lst false menuD, D.int r] = some (S w) := hxw
    simp only [ev_op, ev_m2, ev_cons, ev_bind, ev_call]
    simp [mRef, hr, sm, -ov_ixL]
  have eb : (M.bind (mCall [] (den__law_pick fu) (mCons (mRef 0) (mCons (M.bind (M.ret (.int 4)) fun d => M.ret (Hd.val d)) (mCons (M.bind (mOp oLen (m1 (mRef 1))) fun d => M.ret (Hd.val d)) mNil)))) fun d => M.ret (Hd.val d)) [some (drD x), some (.lst true (ns.map S)), some (.lst false menuD)] = .ok (.val (.int (k : Nat))) [some (drD x), some (.lst true (ns.map S)), some (.lst false menuD)] := by
    simp [mRef, hp']
  have ixn : ixN (ns.map S).length (k : Int) = some k := by
    unfold ixN
    rw [if_pos (by omega), if_pos (by simp; omega)]
    rfl
  have e1 := set_step (i := 1) (env := [some (drD x), some (.lst true (ns.map S)), some (.lst false menuD)]) rfl ea eb rfl ixn
  refine run_nx (env := [some (drD x), some (.lst true (ns.map S)), none]) (en := [some (drD x), some (.lst true ((ns.set k w).map S)), some (.lst false menuD)]) ?_ rfl
  unfold m__law_spoilt
  rw [then_ok e0, e1, List.map_set]
  rfl
/-! ### an arrow kind -/
theorem arrow_turn (fu : Nat) (l : List Int) (at_ : Int) (L : D) (A B : List D) (a b : Sh) (k : Nat) (z5 z6 z7 : Option D) (hA : A.length < 900) (hd : depth a < 60)
    (hp : den__law_pick fu [drD l, .int (at_ + (k : Int)), .int ((A.length : Int) + ((B.length : Int) + 1 + 1) - 1)] = .ok (.int A.length) []) :
    ∃ z5' z6', b__law_arrow_1 fu [some (drD l), some (.int at_), some L, some (.lst true (A ++ enc a :: enc b :: B)), some (.int k), z5, z6, z7] =
      .ok .nx [some (drD l), some (.int at_), some L, some (.lst true (A ++ enc (.nd false (opp a) b) :: B)), some (.int k), z5', z6', z7] := by
  have pa := popAt_split (A := A) (B := B) (a := enc a) (b := enc b) (by omega)
  have ix : L2.atI (A ++ enc a :: B) (A.length : Int) = some (enc a) := by rw [at_nat]; simp
  have ixn : ixN (A ++ enc a :: B).length (A.length : Int) = some A.length := by unfold ixN; rw [if_pos (by omega), if_pos (by simp; omega)]; rfl
  have ot : oTup [.str "together", enc (opp a), enc b] = some (enc (.nd false (opp a) b)) := rfl
  have lo := lopposite_ok fu a 60 hd
  refine ⟨some (.int A.length), some (enc b), ?_⟩
  unfold b__law_arrow_1
  rw [then_ok (e := [some (drD l), some (.int at_), some L, some (.lst true (A ++ enc a :: enc b :: B)), some (.int k), some (.int A.length), z6, z7]) (by simp [mRef, hp]),
    then_ok (e := [some (drD l), some (.int at_), some L, some (.lst true (A ++ enc a :: B)), some (.int k), some (.int A.length), some (enc b), z7]) (by
      have q := lm_step (i := 3) (op := lPopAt) (fa := mCons (M.bind (mOp oAdd (m2 (mRef 5) (M.bind (M.ret (.int 1)) fun d => M.ret (Hd.val d)))) fun d => M.ret (Hd.val d)) mNil) (env := [some (drD l), some (.int at_), some L, some (.lst true (A ++ enc a :: enc b :: B)), some (.int k), some (.int A.length), z6, z7]) (hs := [.val (.int ((A.length : Int) + 1))]) rfl (by simp [mRef]) (by simp) pa
      rw [ev_asg, ev_shr, q, ev_bok]
      simp [share_enc])]
  have eo : oIx [.lst true (A ++ enc a :: B), .int A.length] = some (enc a) := by rw [ov_ixL, ix, if_sh (shrd_enc a)]
  have ei : mOp oIx (m2 (mRef 3) (mRef 5)) [some (drD l), some (.int at_), some L, some (.lst true (A ++ enc a :: B)), some (.int k), some (.int A.length), some (enc b), z7] = .ok (enc a) [some (drD l), some (.int at_), some L, some (.lst true (A ++ enc a :: B)), some (.int k), some (.int A.length), some (enc b), z7] := by
    simp [mRef, eo, -ov_ixL]
  have ec := call_step (den := den__law_opposite fu 60) (cons_step (val_step ei) (ev_nil (env := _))) (by simp) lo
  have et : mTk oTup (mCons (M.bind (M.ret (.str "together")) fun d => M.ret (Hd.val d)) (mCons (M.bind (mCall [] (den__law_opposite fu 60) (mCons (M.bind (mOp oIx (m2 (mRef 3) (mRef 5))) fun d => M.ret (Hd.val d)) mNil)) fun d => M.ret (Hd.val d)) (mCons (mRef 6) mNil))) [some (drD l), some (.int at_), some L, some (.lst true (A ++ enc a :: B)), some (.int k), some (.int A.length), some (enc b), z7] = .ok (enc (.nd false (opp a) b)) [some (drD l), some (.int at_), some L, some (.lst true (A ++ enc a :: B)), some (.int k), some (.int A.length), some (enc b), z7] := by
    rw [ev_tk, cons_step (val_step (ev_ret (env := _))) (cons_step (val_step ec) (cons_step (show mRef 6 _ = .ok (.var 6) _ from rfl) (ev_nil (env := _)))), ev_bok]
    simp [shrd_enc, ot]
  have es := set_step (i := 3) (env := [some (drD l), some (.int at_), some L, some (.lst true (A ++ enc a :: B)), some (.int k), some (.int A.length), some (enc b), z7]) rfl et (show mRef 5 _ = .ok (.var 5) _ from rfl) rfl ixn
  rw [es, set_split]
  rfl
theorem arrow_loop (fu : Nat) (l : List Int) (hl : l ≠ []) (at_ : Int) (L : D) : ∀ (ks : List Nat) (ss : List Sh) (kk z5 z6 z7 : Option D), (∀ k ∈ ks, k < 900) → ss.length = ks.length + 1 → ((ss.map nms).flatten).length < 60 →
    ∃ (s : Sh) (kk' z5' z6' : Option D), nms s = (ss.map nms).flatten ∧ forL (.nm 4) (b__law_arrow_1 fu) (ks.map fun (k : Nat) => D.int k) [some (drD l), some (.int at_), some L, some (.lst true (ss.map enc)), kk, z5, z6, z7] =
      .ok .nx [some (drD l), some (.int at_), some L, some (.lst true [enc s]), kk', z5', z6', z7]
  | [], ss, kk, z5, z6, z7, _, hs, hz => by
    match ss, hs with
    | [s], _ => exact ⟨s, kk, z5, z6, by simp, rfl⟩
  | k :: ks, ss, kk, z5, z6, z7, hk, hs, hz => by
    obtain ⟨p, ⟨p0, p1, p2⟩, hp⟩ := pick_ok fu l (at_ + (k : Int)) ((ss.length : Int) - 1) hl
    have hs' : ss.length = ks.length + 1 + 1 := by simpa using hs
    have hp1 : p.toNat + 1 < ss.length := by
      by_cases h2 : 2 ≤ (ss.length : Int) - 1
      · have := p1 h2; omega
      · have := p2 (by omega); omega
    have hle : ∀ ss : List Sh, ss.length ≤ ((ss.map nms).flatten).length := fun ss => by
      induction ss with
      | nil => simp
      | cons s ss ih => have := depth_nms s; simp at ih ⊢; omega
    have hss := hle ss
    obtain ⟨A, a, b, B, rfl, hA⟩ := split2 p.toNat ss hp1
    have hda : depth a < 60 := by
      have := depth_nms a
      simp at hz
      omega
    have hpA : p = ((A.map enc).length : Int) := by simp; omega
    have hlen : (((A ++ a :: b :: B).length : Nat) : Int) - 1 = ((A.map enc).length : Int) + (((B.map enc).length : Int) + 1 + 1) - 1 := by simp
    rw [hpA, hlen] at hp
    obtain ⟨z5', z6', ht⟩ := arrow_turn fu l at_ L (A.map enc) (B.map enc) a b k z5 z6 z7 (by simp at hss hz ⊢; omega) hda hp
    have e1 : (A ++ a :: b :: B).map enc = A.map enc ++ enc a :: enc b :: B.map enc := by simp
    have e2 : A.map enc ++ enc (.nd false (opp a) b) :: B.map enc = (A ++ Sh.nd false (opp a) b :: B).map enc := by simp
    rw [e2] at ht
    have e3 : ((A ++ Sh.nd false (opp a) b :: B).map nms).flatten = ((A ++ a :: b :: B).map nms).flatten := by simp [nms_nd, nms_opp]
    obtain ⟨s, kk', y5, y6, i1, i2⟩ := arrow_loop fu l hl at_ L ks (A ++ Sh.nd false (opp a) b :: B) (some (.int k)) z5' z6' z7 (fun j hj => hk j (by simp [hj])) (by simp at hs' ⊢; omega) (by rw [e3]; exact hz)
    refine ⟨s, kk', y5, y6, by rw [i1, e3], ?_⟩
    rw [e1, List.map_cons, ev_forC]
    simp only [ev_nm, List.length_cons, List.length_nil, List.set_cons_succ, List.set_cons_zero]
    rw [if_pos (by decide)]
    dsimp only
    rw [ht]
    exact i2
theorem law_arrow_ok (fu : Nat) (l : List Int) (hl : l ≠ []) (at_ : Int) (ns : List (List Nat)) (h0 : 0 < ns.length) (hz : ns.length < 60) : ∃ s, nms s = ns ∧ den__law_arrow fu [drD l, .int at_, .lst false (ns.map S)] = .ok (enc s) [] := by
  have hsr : shrdL (ns.map S) = true := by
    clear h0 hz
    induction ns with
    | nil => rfl
    | cons n ns ih => simp [ih]
  have hnm : ((ns.map fun n => Sh.lt n true).map nms).flatten = ns := by
    clear h0 hz hsr
    induction ns with
    | nil => rfl
    | cons n ns ih => simp [nms, letters] at ih ⊢; simpa [nms, letters] using ih
  obtain ⟨s, kk, z5, z6, i1, i2⟩ := arrow_loop fu l hl at_ (.lst false (ns.map S)) (List.range (ns.length - 1)) (ns.map fun n => Sh.lt n true) none none none none (fun k hk => by have := List.mem_range.mp hk; omega) (by simp; omega) (by rw [hnm]; exact hz)
  rw [hnm] at i1
  refine ⟨s, i1, ?_⟩
  have hit : mItems (mRef 2) [some (drD l), some (.int at_), some (.lst false (ns.map S)), none, none, none, none, none] = .ok (ns.map S) [some (drD l), some (.int at_), some (.lst false (ns.map S)), none, none, none, none, none] := by
    simp [mRef]
  have hlc := lc_ok (i := 7) (fe := e__law_arrow_0 fu) (g := fun d => .tup [.str "letter", d, .bl true]) hit (by simp) (fun y hy => by
    obtain ⟨n, hn, rfl⟩ := List.mem_map.mp hy
    have ot : oTup [.str "letter", S n, .bl true] = some (.tup [.str "letter", S n, .bl true]) := rfl
    simp [e__law_arrow_0, mRef, ot]) (szL (by simp; omega))
  have hmap : (ns.map S).map (fun d => D.tup [.str "letter", d, .bl true]) = (ns.map fun n => Sh.lt n true).map enc := by simp [enc]
  rw [hmap] at hlc
  have e1 : (ns.length : Int) - 1 = ((ns.length - 1 : Nat) : Int) := by omega
  refine run_rt (env := [some (drD l), some (.int at_), some (.lst false (ns.map S)), none, none, none, none, none]) (en := [some (drD l), some (.int at_), some (.lst false (ns.map S)), some (.lst true [enc s]), kk, z5, z6, none]) ?_ rfl
  unfold m__law_arrow
  rw [then_ok (e := [some (drD l), some (.int at_), some (.lst false (ns.map S)), some (.lst true ((ns.map fun n => Sh.lt n true).map enc)), none, none, none, none]) (by rw [ev_asg, hlc, ev_bok]; simp [restore]),
    then_ok (e := [some (drD l), some (.int at_), some (.lst false (ns.map S)), some (.lst true [enc s]), kk, z5, z6, none])]
  · simp [mRef, if_sh (shrd_enc s)]
  · rw [ev_for, ev_m1, ev_rngN (n := ns.length - 1) (hs := [.val (.int ((ns.length - 1 : Nat) : Int))]) (e := [some (drD l), some (.int at_), some (.lst false (ns.map S)), some (.lst true ((ns.map fun n => Sh.lt n true).map enc)), none, none, none, none]) (by omega) (by simp [mRef, e1]) (by simp), ev_bok]
    exact i2
end K78
set_option Elab.async false
set_option linter.all false
set_option maxRecDepth 10000
namespace K78
open PySem L2 VS

def ls_0 (fu : Nat) : M Fl :=
    (mAsg (.nm 1) (mShr (mCall [] (den__law_draws fu) (mCons (M.bind (mCall [] (den__law_cell fu) (mCons (mRef 0) (mCons (M.bind (M.ret (.int 0)) fun d => M.ret (Hd.val d)) mNil))) fun d => M.ret (Hd.val d)) (mCons (M.bind (M.ret (.int 100)) fun d => M.ret (Hd.val d)) mNil)))))
def ls_1 (fu : Nat) : M Fl :=
    (mAsg (.nm 2) (mShr (mCall [] (den__law_draws fu) (mCons (M.bind (mCall [] (den__law_cell fu) (mCons (mRef 0) (mCons (M.bind (M.ret (.int 1)) fun d => M.ret (Hd.val d)) mNil))) fun d => M.ret (Hd.val d)) (mCons (M.bind (M.ret (.int 30)) fun d => M.ret (Hd.val d)) mNil)))))
def ls_2 (fu : Nat) : M Fl :=
    (mAsg (.nm 3) (mShr (mOp oAdd (m2 (M.bind (M.ret (.int 1)) fun d => M.ret (Hd.val d)) (M.bind (mCall [] (den__law_pick fu) (mCons (mRef 2) (mCons (M.bind (M.ret (.int 2)) fun d => M.ret (Hd.val d)) (mCons (M.bind (M.ret (.int 9)) fun d => M.ret (Hd.val d)) mNil)))) fun d => M.ret (Hd.val d))))))
def ls_3 (fu : Nat) : M Fl :=
    (mIf (mB (mOp oEq (m2 (M.bind (mCall [] (den__law_pick fu) (mCons (mRef 2) (mCons (M.bind (M.ret (.int 3)) fun d => M.ret (Hd.val d)) (mCons (M.bind (M.ret (.int 10)) fun d => M.ret (Hd.val d)) mNil)))) fun d => M.ret (Hd.val d)) (M.bind (M.ret (.int 7)) fun d => M.ret (Hd.val d)))))
    (mAsg (.nm 3) (mShr (mOp oAdd (m2 (M.bind (M.ret (.int 39)) fun d => M.ret (Hd.val d)) (M.bind (mCall [] (den__law_pick fu) (mCons (mRef 2) (mCons (M.bind (M.ret (.int 2)) fun d => M.ret (Hd.val d)) (mCons (M.bind (M.ret (.int 4)) fun d => M.ret (Hd.val d)) mNil)))) fun d => M.ret (Hd.val d))))))
    mNx)
def ls_4 (fu : Nat) : M Fl :=
    (mAsg (.nm 4) (mCall [] (den__law_names fu) (mCons (mRef 1) (mCons (mRef 2) (mCons (mRef 3) mNil)))))
def ls_5 (fu : Nat) : M Fl :=
    (mIf (mB (mOp oEq (m2 (M.bind (mCall [] (den__law_pick fu) (mCons (mRef 2) (mCons (M.bind (M.ret (.int 6)) fun d => M.ret (Hd.val d)) (mCons (M.bind (M.ret (.int 3)) fun d => M.ret (Hd.val d)) mNil)))) fun d => M.ret (Hd.val d)) (M.bind (M.ret (.int 1)) fun d => M.ret (Hd.val d)))))
    (M.bind (mCall [1] (den__law_spoilt fu) (mCons (mRef 2) (mCons (mRef 4) mNil))) fun _ => mNx)
    mNx)
def ls_6 (fu : Nat) : M Fl :=
    (mIf (mB (mOp oEq (m2 (M.bind (mCall [] (den__law_pick fu) (mCons (mRef 2) (mCons (M.bind (M.ret (.int 7)) fun d => M.ret (Hd.val d)) (mCons (M.bind (M.ret (.int 2)) fun d => M.ret (Hd.val d)) mNil)))) fun d => M.ret (Hd.val d)) (M.bind (M.ret (.int 1)) fun d => M.ret (Hd.val d)))))
    (mThen (mAsg (.nm 5) (mShr (mCall [] (den__law_arrow fu) (mCons (mRef 1) (mCons (M.bind (M.ret (.int 12)) fun d => M.ret (Hd.val d)) (mCons (M.bind (mShare 4) fun d => M.ret (Hd.val d)) mNil))))))
    (mIf (mB (mOp oEq (m2 (M.bind (mCall [] (den__law_pick fu) (mCons (mRef 2) (mCons (M.bind (M.ret (.int 8)) fun d => M.ret (Hd.val d)) (mCons (M.bind (M.ret (.int 3)) fun d => M.ret (Hd.val d)) mNil)))) fun d => M.ret (Hd.val d)) (M.bind (M.ret (.int 1)) fun d => M.ret (Hd.val d)))))
    (mAsg (.nm 5) (mShr (mCall [] (den__law_changed fu 60) (mCons (mRef 5) (mCons (M.bind (mCall [] (den__law_cell fu) (mCons (mRef 0) (mCons (M.bind (M.ret (.int 2)) fun d => M.ret (Hd.val d)) mNil))) fun d => M.ret (Hd.val d)) mNil)))))
    mNx))
    (mAsg (.nm 5) (mShr (mCall [] (den__law_shape fu) (mCons (mRef 1) (mCons (M.bind (M.ret (.int 20)) fun d => M.ret (Hd.val d)) (mCons (M.bind (mShr (mLc [12] (.nm 12) (mRng1 (m1 (mRef 3))) (M.ret true) (e_law_0 fu))) fun d => M.ret (Hd.val d)) mNil)))))))
def ls_7 (fu : Nat) : M Fl :=
    (mIf (M.bind (mTru (M.bind (mCall [] (den__law_names_made fu) (mCons (M.bind (mShr (mSl (mRef 4) (M.ret none) (mPart (M.bind (M.ret (.int 9)) fun d => M.ret (Hd.val d))))) fun d => M.ret (Hd.val d)) mNil)) fun d => M.ret (Hd.val d))) fun b => M.ret (!b))
    (M.bind (M.ret (.bl false)) fun d => M.ret (Fl.rt d))
    mNx)
def ls_8 (fu : Nat) : M Fl :=
    (mAsg (.nm 6) (mShr (mCall [] (den__law_fault fu) (mCons (mRef 5) mNil))))
def ls_9 (fu : Nat) : M Fl :=
    (mIf (mB (mOp oIsNot (m2 (mRef 6) (M.bind (M.ret .non) fun d => M.ret (Hd.val d)))))
    (M.bind (mOp oEq (m2 (M.bind (mCall [] (den__law_made fu) (mCons (mRef 5) (mCons (mRef 5) (mCons (M.bind (M.ret (.int 0)) fun d => M.ret (Hd.val d)) mNil)))) fun d => M.ret (Hd.val d)) (mRef 6))) fun d => M.ret (Fl.rt d))
    mNx)
def ls_10 (fu : Nat) : M Fl :=
    (mAsg (.nm 7) (mShr (mCall [] (den__law_shape fu) (mCons (mRef 2) (mCons (M.bind (M.ret (.int 9)) fun d => M.ret (Hd.val d)) (mCons (M.bind (mShr (mLc [12] (.nm 12) (mRng1 (m1 (M.bind (mOp oAdd (m2 (M.bind (M.ret (.int 1)) fun d => M.ret (Hd.val d)) (M.bind (mCall [] (den__law_pick fu) (mCons (mRef 2) (mCons (M.bind (M.ret (.int 9)) fun d => M.ret (Hd.val d)) (mCons (M.bind (M.ret (.int 4)) fun d => M.ret (Hd.val d)) mNil)))) fun d => M.ret (Hd.val d)))) fun d => M.ret (Hd.val d)))) (M.ret true) (e_law_1 fu))) fun d => M.ret (Hd.val d)) mNil))))))
def ls_11 (fu : Nat) : M Fl :=
    (mAsg (.nm 8) (mShr (mMake "Kind" (den_Kinddd_initdd fu) (mCons (mRef 5) mNil))))
def ls_12 (fu : Nat) : M Fl :=
    (mAsg (.nm 9) (mShr (mMake "Kind" (den_Kinddd_initdd fu) (mCons (mRef 7) mNil))))
def ls_13 (fu : Nat) : M Fl :=
    (mIf (mOr (M.bind (mTru (M.bind (mCall [] (den__law_fields fu) (mCons (mRef 8) (mCons (mRef 5) mNil))) fun d => M.ret (Hd.val d))) fun b => M.ret (!b)) (mOr (M.bind (mTru (M.bind (mCall [] (den__law_fields fu) (mCons (M.bind (mShr (mCall [] (gAll "Kind" (den_Kinddd_invertdd fu)) (m1 (mRef 8)))) fun d => M.ret (Hd.val d)) (mCons (M.bind (mCall [] (den__law_opposite fu 60) (mCons (mRef 5) mNil)) fun d => M.ret (Hd.val d)) mNil))) fun d => M.ret (Hd.val d))) fun b => M.ret (!b)) (M.bind (mTru (M.bind (mCall [] (den__law_fields fu) (mCons (mRef 9) (mCons (mRef 7) mNil))) fun d => M.ret (Hd.val d))) fun b => M.ret (!b))))
    (M.bind (M.ret (.bl false)) fun d => M.ret (Fl.rt d))
    mNx)
def ls_14 (fu : Nat) : M Fl :=
    (mFor (.nm 10) (mRng1 (m1 (M.bind (M.ret (.int 4)) fun d => M.ret (Hd.val d))))
    (b_law_2 fu))
def ls_15 (fu : Nat) : M Fl :=
    (mIf (mOr (M.bind (mB (mCall [] (gFst "Kind" etab (den_Kinddd_eqdd fu)) (m2 (M.bind (mCall [] (gAll "Kind" (den_Kinddd_invertdd fu)) (m1 (M.bind (mCall [] (gAll "Kind" (den_Kinddd_invertdd fu)) (m1 (mRef 8))) fun d => M.ret (Hd.val d)))) fun d => M.ret (Hd.val d)) (mRef 8)))) fun b => M.ret (!b)) (mOr (mB (mCall [] (gFst "Kind" etab (den_Kinddd_eqdd fu)) (m2 (mRef 8) (M.bind (mCall [] (gAll "Kind" (den_Kinddd_invertdd fu)) (m1 (mRef 8))) fun d => M.ret (Hd.val d))))) (M.bind (mB (mCall [] (gFst "Kind" etab (den_Kinddd_eqdd fu)) (m2 (mRef 8) (M.bind (mMake "Kind" (den_Kinddd_initdd fu) (mCons (mRef 5) mNil)) fun d => M.ret (Hd.val d))))) fun b => M.ret (!b))))
    (M.bind (M.ret (.bl false)) fun d => M.ret (Fl.rt d))
    mNx)
def ls_16 (fu : Nat) : M Fl :=
    (mIf (mOr (mB (mOp oNe (m2 (M.bind (mCall [] (gFst "Kind" etab (den_Kinddd_eqdd fu)) (m2 (mRef 8) (mRef 9))) fun d => M.ret (Hd.val d)) (M.bind (mOp oEq (m2 (mRef 5) (mRef 7))) fun d => M.ret (Hd.val d))))) (mB (mCall [] (gFst "Kind" etab (den_Kinddd_eqdd fu)) (m2 (mRef 8) (M.bind (mMake "Kind" (den_Kinddd_initdd fu) (mCons (M.bind (mCall [] (den__law_changed fu 60) (mCons (mRef 5) (mCons (M.bind (mCall [] (den__law_cell fu) (mCons (mRef 0) (mCons (M.bind (M.ret (.int 3)) fun d => M.ret (Hd.val d)) mNil))) fun d => M.ret (Hd.val d)) mNil))) fun d => M.ret (Hd.val d)) mNil)) fun d => M.ret (Hd.val d))))))
    (M.bind (M.ret (.bl false)) fun d => M.ret (Fl.rt d))
    mNx)
def ls_17 (fu : Nat) : M Fl :=
    (mIf (mAnd (mB (mOp oLt (m2 (mRef 3) (M.bind (M.ret (.int 30)) fun d => M.ret (Hd.val d))))) (mOr (M.bind (mB (mCall [] (gFst "Kind" etab (den_Kinddd_eqdd fu)) (m2 (M.bind (mCall [] (gAll "Kind" (den_Kinddd_invertdd fu)) (m1 (M.bind (mCall [] (gAll "Kind" (den_Kinddd_anddd fu)) (m2 (mRef 8) (mRef 9))) fun d => M.ret (Hd.val d)))) fun d => M.ret (Hd.val d)) (M.bind (mCall [] (gAll "Kind" (den_Kinddd_ordd fu)) (m2 (M.bind (mCall [] (gAll "Kind" (den_Kinddd_invertdd fu)) (m1 (mRef 8))) fun d => M.ret (Hd.val d)) (M.bind (mCall [] (gAll "Kind" (den_Kinddd_invertdd fu)) (m1 (mRef 9))) fun d => M.ret (Hd.val d)))) fun d => M.ret (Hd.val d))))) fun b => M.ret (!b)) (M.bind (mB (mCall [] (gFst "Kind" etab (den_Kinddd_eqdd fu)) (m2 (M.bind (mCall [] (gAll "Kind" (den_Kinddd_invertdd fu)) (m1 (M.bind (mCall [] (gAll "Kind" (den_Kinddd_ordd fu)) (m2 (mRef 8) (mRef 9))) fun d => M.ret (Hd.val d)))) fun d => M.ret (Hd.val d)) (M.bind (mCall [] (gAll "Kind" (den_Kinddd_anddd fu)) (m2 (M.bind (mCall [] (gAll "Kind" (den_Kinddd_invertdd fu)) (m1 (mRef 8))) fun d => M.ret (Hd.val d)) (M.bind (mCall [] (gAll "Kind" (den_Kinddd_invertdd fu)) (m1 (mRef 9))) fun d => M.ret (Hd.val d)))) fun d => M.ret (Hd.val d))))) fun b => M.ret (!b))))
    (M.bind (M.ret (.bl false)) fun d => M.ret (Fl.rt d))
    mNx)
def ls_18 (fu : Nat) : M Fl :=
    (mFor (.nm 11) (mItems (M.bind (mTk oLst (mCons (mRef 5) (mCons (M.bind (mCall [] (noR (gAll "Kind" (den_Kind_letters fu))) (m1 (mRef 8))) fun d => M.ret (Hd.val d)) (mCons (M.bind (mOp oIx (m2 (mRef 4) (M.bind (M.ret (.int 0)) fun d => M.ret (Hd.val d)))) fun d => M.ret (Hd.val d)) (mCons (M.bind (M.ret (.int 40)) fun d => M.ret (Hd.val d)) (mCons (M.bind (M.ret .non) fun d => M.ret (Hd.val d)) mNil)))))) fun d => M.ret (Hd.val d)))
    (b_law_3 fu))
def ls_19 (fu : Nat) : M Fl :=
    (M.bind (mAndV (mCall [] (den__law_fields fu) (mCons (mRef 8) (mCons (mRef 5) mNil))) (mOp oEq (m2 (M.bind (M.ret (.int 40)) fun d => M.ret (Hd.val d)) (M.bind (M.ret (.int 40)) fun d => M.ret (Hd.val d))))) fun d => M.ret (Fl.rt d))
theorem m_law_eq (fu : Nat) : m_law fu = mThen (ls_0 fu) (mThen (ls_1 fu) (mThen (ls_2 fu) (mThen (ls_3 fu) (mThen (ls_4 fu) (mThen (ls_5 fu) (mThen (ls_6 fu) (mThen (ls_7 fu) (mThen (ls_8 fu) (mThen (ls_9 fu) (mThen (ls_10 fu) (mThen (ls_11 fu) (mThen (ls_12 fu) (mThen (ls_13 fu) (mThen (ls_14 fu) (mThen (ls_15 fu) (mThen (ls_16 fu) (mThen (ls_17 fu) (mThen (ls_18 fu) (ls_19 fu))))))))))))))))))) := rfl
/-! ### steps -/
section
variable {E : VS.Env}
theorem B_step {f : M D} {b : Bool} (h : f E = .ok (.bl b) E) : mB f E = .ok b E := by rw [ev_B, h]; rfl
theorem or_ff {f g : M Bool} (h : f E = .ok false E) (h2 : g E = .ok false E) : mOr f g E = .ok false E := by rw [ev_or, h, ev_bok, if_neg (by decide), h2]
theorem and_f {f g : M Bool} (h : f E = .ok false E) : mAnd f g E = .ok false E := by rw [ev_and, h, ev_bok, if_neg (by decide)]; rfl
theorem and_t {f g : M Bool} {b : Bool} (h : f E = .ok true E) (h2 : g E = .ok b E) : mAnd f g E = .ok b E := by rw [ev_and, h, ev_bok, if_pos rfl, h2]
theorem not_step {f : M Bool} {b : Bool} (h : f E = .ok b E) : (M.bind f fun b => M.ret (!b)) E = .ok (!b) E := by rw [ev_bind, h]; rfl
theorem tru_step {f : M D} {b : Bool} (h : f E = .ok (.bl b) E) : mTru (M.bind f fun d => M.ret (Hd.val d)) E = .ok b E := by rw [ev_tru, val_step h]; rfl
theorem if_f {c : M Bool} {X : M Fl} (h : c E = .ok false E) : mIf c X mNx E = .ok .nx E := by rw [ev_if, h, ev_bok, if_neg (by decide)]; rfl
theorem if_t {c : M Bool} {X Y : M Fl} (h : c E = .ok true E) : mIf c X Y E = X E := by rw [ev_if, h, ev_bok, if_pos rfl]
theorem if_n {c : M Bool} {X Y : M Fl} (h : c E = .ok false E) : mIf c X Y E = Y E := by rw [ev_if, h, ev_bok, if_neg (by decide)]
theorem call_stepE {den : FD} {fa : M (List Hd)} {env e : VS.Env} {hs : List Hd} {ds : List D} {d : D} {outs : VS.Env} (hf : fa env = .ok hs e) (hp : prep [] 0 hs e = some (ds, e)) (hd : den ds = .ok d outs) : mCall [] den fa env = .ok d e := by
  rw [ev_call, hf, ev_bok, hp]
  dsimp only
  rw [hd]
  dsimp only
  rw [ev_pbN]
end
theorem map_share (ns : List (List Nat)) : shareL (ns.map S) = ns.map S := by
  induction ns with
  | nil => rfl
  | cons n ns ih => simp [ih]
theorem map_shrd (ns : List (List Nat)) : shrdL (ns.map S) = true := by
  induction ns with
  | nil => rfl
  | cons n ns ih => simp [ih]
section
variable (fu : Nat) (ns : List Int)
theorem ls0_ok : ∃ l : List Int, l.length = 100 ∧ ls_0 fu [some (.fro (ns.map .int)), none, none, none, none, none, none, none, none, none, none, none, none] = .ok .nx [some (.fro (ns.map .int)), some (drD l), none, none, none, none, none, none, none, none, none, none, none] := by
  obtain ⟨⟨i, hi⟩, _⟩ := cell0 fu ns
  obtain ⟨l, hl, hd⟩ := draws_ok fu i 100 (by decide)
  have hd' : den__law_draws fu [.int i, .int 100] = .ok (.lst true (l.map .int)) [] := hd
  refine ⟨l, hl, ?_⟩
  unfold ls_0
  simp [mRef, hi, hd', share_ints]
theorem ls1_ok (l : List Int) : ∃ x : List Int, x.length = 30 ∧ ls_1 fu [some (.fro (ns.map .int)), some (drD l), none, none, none, none, none, none, none, none, none, none, none] = .ok .nx [some (.fro (ns.map .int)), some (drD l), some (drD x), none, none, none, none, none, none, none, none, none, none] := by
  obtain ⟨_, ⟨i, hi⟩⟩ := cell0 fu ns
  obtain ⟨x, hl, hd⟩ := draws_ok fu i 30 (by decide)
  have hd' : den__law_draws fu [.int i, .int 30] = .ok (.lst true (x.map .int)) [] := hd
  refine ⟨x, hl, ?_⟩
  unfold ls_1
  simp [mRef, hi, hd', share_ints]
end
section
variable (fu : Nat) (sc : D) (l x : List Int)
theorem ls2_ok (hx : x ≠ []) : ∃ m : Nat, 1 ≤ m ∧ m ≤ 9 ∧ ls_2 fu [some sc, some (drD l), some (drD x), none, none, none, none, none, none, none, none, none, none] = .ok .nx [some sc, some (drD l), some (drD x), some (.int m), none, none, none, none, none, none, none, none, none] := by
  obtain ⟨r, ⟨r0, r1, _⟩, hr⟩ := pick_ok fu x 2 9 hx
  obtain ⟨q, rfl⟩ := Int.eq_ofNat_of_zero_le r0
  have := r1 (by decide)
  have hr' : den__law_pick fu [.lst false (x.map .int), .int 2, .int 9] = .ok (.int (q : Nat)) [] := hr
  refine ⟨1 + q, by omega, by omega, ?_⟩
  unfold ls_2
  simp [mRef, hr']
theorem ls3_ok (hx : x ≠ []) (m : Nat) (h1 : 1 ≤ m) (h8 : m ≤ 9) : ∃ m' : Nat, 1 ≤ m' ∧ m' ≤ 42 ∧ ls_3 fu [some sc, some (drD l), some (drD x), some (.int m), none, none, none, none, none, none, none, none, none] = .ok .nx [some sc, some (drD l), some (drD x), some (.int m'), none, none, none, none, none, none, none, none, none] := by
  obtain ⟨r, _, hr⟩ := pick_ok fu x 3 10 hx
  obtain ⟨q, ⟨q0, q1, _⟩, hq⟩ := pick_ok fu x 2 4 hx
  obtain ⟨q, rfl⟩ := Int.eq_ofNat_of_zero_le q0
  have := q1 (by decide)
  have hq' : den__law_pick fu [.lst false (x.map .int), .int 2, .int 4] = .ok (.int (q : Nat)) [] := hq
  by_cases h : r = 7
  · refine ⟨39 + q, by omega, by omega, ?_⟩
    unfold ls_3
    simp [mRef, hr, h, hq', ov_eqI]
  · have h' : (r == 7) = false := by simpa using h
    refine ⟨m, by omega, by omega, ?_⟩
    unfold ls_3
    simp [mRef, hr, h', ov_eqI]
theorem ls4_ok (hl : l ≠ []) (hx : x ≠ []) (m : Nat) (hm : m ≤ 42) : ∃ n : List (List Nat), n.length = m ∧ (∀ a ∈ n, Gd a) ∧ ls_4 fu [some sc, some (drD l), some (drD x), some (.int m), none, none, none, none, none, none, none, none, none] = .ok .nx [some sc, some (drD l), some (drD x), some (.int m), some (.lst true (n.map S)), none, none, none, none, none, none, none, none] := by
  obtain ⟨n, n1, n2, n3⟩ := names_ok fu l x hl hx m (by omega)
  have sl := shrd_ints
  refine ⟨n, n1, fun a ha => (n2 a ha).gd, ?_⟩
  unfold ls_4
  simp [mRef, n3, sl]
theorem ls5_ok (hx : x ≠ []) (m : Nat) (h1 : 1 ≤ m) (n : List (List Nat)) (hn : n.length = m) (hP : ∀ a ∈ n, Gd a) : ∃ n' : List (List Nat), n'.length = m ∧ (∀ a ∈ n', Gd a) ∧ ls_5 fu [some sc, some (drD l), some (drD x), some (.int m), some (.lst true (n.map S)), none, none, none, none, none, none, none, none] = .ok .nx [some sc, some (drD l), some (drD x), some (.int m), some (.lst true (n'.map S)), none, none, none, none, none, none, none, none] := by
  obtain ⟨r, _, hr⟩ := pick_ok fu x 6 3 hx
  have hc : (mB (mOp oEq (m2 (M.bind (mCall [] (den__law_pick fu) (mCons (mRef 2) (mCons (M.bind (M.ret (.int 6)) fun d => M.ret (Hd.val d)) (mCons (M.bind (M.ret (.int 3)) fun d => M.ret (Hd.val d)) mNil)))) fun d => M.ret (Hd.val d)) (M.bind (M.ret (.int 1)) fun d => M.ret (Hd.val d))))) [some sc, some (drD l), some (drD x), some (.int m), some (.lst true (n.map S)), none, none, none, none, none, none, none, none] = .ok (r == 1) [some sc, some (drD l), some (drD x), some (.int m), some (.lst true (n.map S)), none, none, none, none, none, none, none, none] := by
    simp [mRef, hr, ov_eqI]
  unfold ls_5
  by_cases h : (r == 1) = true
  · obtain ⟨n', g1, g2, g3⟩ := spoilt_ok fu x hx n (fun e => by rw [e] at hn; simp at hn; omega) hP
    refine ⟨n', by omega, g2, ?_⟩
    rw [h] at hc
    rw [if_t hc, ev_bind, ev_call, cons_step (show mRef 2 _ = .ok (.var 2) _ from rfl) (cons_step (show mRef 4 _ = .ok (.var 4) _ from rfl) (ev_nil (env := _))), ev_bok]
    have hp : prep [1] 0 [.var 2, .var 4] [some sc, some (drD l), some (drD x), some (.int m), some (.lst true (n.map S)), none, none, none, none, none, none, none, none] = some ([drD x, .lst true (n.map S)], [some sc, some (drD l), some (drD x), some (.int m), none, none, none, none, none, none, none, none, none]) := by
      simp [shrd_ints]
    rw [hp]
    dsimp only
    rw [g3]
    rfl
  · have h' : (r == 1) = false := Bool.eq_false_iff.mpr h
    rw [h'] at hc
    exact ⟨n, hn, hP, if_f hc⟩
theorem items_ok (hl : l ≠ []) (m : Nat) (hm : m ≤ 42) (n : List (List Nat)) (hn : n.length = m) (hP : ∀ a ∈ n, Gd a) :
    ∃ ss : List Sh, ss.length = m ∧ (∀ s ∈ ss, Lt Gd s) ∧ mLc [12] (.nm 12) (mRng1 (m1 (mRef 3))) (M.ret true) (e_law_0 fu) [some sc, some (drD l), some (drD x), some (.int m), some (.lst true (n.map S)), none, none, none, none, none, none, none, none] =
      .ok (.lst true (ss.map enc)) [some sc, some (drD l), some (drD x), some (.int m), some (.lst true (n.map S)), none, none, none, none, none, none, none, none] := by
  have hrng : mRng1 (m1 (mRef 3)) [some sc, some (drD l), some (drD x), some (.int m), some (.lst true (n.map S)), none, none, none, none, none, none, none, none] = .ok ((List.range m).map fun (k : Nat) => D.int k) [some sc, some (drD l), some (drD x), some (.int m), some (.lst true (n.map S)), none, none, none, none, none, none, none, none] :=
    ev_rngI (by omega) rfl
  obtain ⟨ss, s1, s2, s3⟩ := lc_ex (i := 12) (fe := e_law_0 fu) enc (Q := Lt Gd) hrng (by simp) (fun y hy => by
    obtain ⟨k, hk, rfl⟩ := List.mem_map.mp hy
    have hk' : k < m := List.mem_range.mp hk
    have h1 := ixS true n (k := k) (by omega)
    obtain ⟨r, _, hr⟩ := pick_ok fu l (5 + k) 2 hl
    have ot : oTup [.str "letter", S n[k], .bl (r == 1)] = some (enc (.lt n[k] (r == 1))) := rfl
    refine ⟨.lt n[k] (r == 1), ⟨n[k], r == 1, rfl, hP _ (List.getElem_mem _)⟩, ?_⟩
    simp [e_law_0, mRef, h1, hr, ov_eqI, ot, -ov_ixL]) (szL (by simp; omega))
  refine ⟨ss, by simpa using s1, s2, ?_⟩
  rw [s3]
  rfl
theorem flat_nms (ss : List Sh) : (flat ss).map Prod.fst = (ss.map nms).flatten := by
  induction ss with
  | nil => rfl
  | cons s ss ih => simp [flat, nms] at ih ⊢; rw [← ih]
theorem shareL_enc (ss : List Sh) : shareL (ss.map enc) = ss.map enc := by
  induction ss with
  | nil => rfl
  | cons s ss ih => simp [share_enc, ih]
/-- the shape that the law asks about -/
def Asked (m : Nat) (s : Sh) : Prop := (nms s).length = m ∧ ∀ n ∈ nms s, Gd n
theorem Asked.fit {m : Nat} {s : Sh} (h : Asked m s) (hm : m ≤ 42) : Fit s := ⟨by rw [h.1]; omega, h.2⟩
theorem shape_ok2 (o : Bool) (hl : l ≠ []) (at_ : Int) (ss : List Sh) (h0 : 0 < ss.length) (hz : ss.length < 900) : ∃ s, letters s = flat ss ∧ den__law_shape fu [drD l, .int at_, .lst o (ss.map enc)] = .ok (enc s) [] := by
  obtain ⟨s, kk, z5, z6, z7, i1, i2⟩ := shape_loop fu l hl at_ (.lst o (ss.map enc)) (List.range (ss.length - 1)) ss none none none none (fun k hk => by have := List.mem_range.mp hk; omega) (by simp; omega) hz
  refine ⟨s, i1, ?_⟩
  refine run_rt (env := [some (drD l), some (.int at_), some (.lst o (ss.map enc)), none, none, none, none, none]) (en := [some (drD l), some (.int at_), some (.lst o (ss.map enc)), some (.lst true [enc s]), kk, z5, z6, z7]) ?_ rfl
  unfold m__law_shape
  have ol : oList [.lst o (ss.map enc)] = some (.lst true (ss.map enc)) := by
    show (if shrdL (ss.map enc) = true then some (D.lst true (ss.map enc)) else none) = _
    rw [if_pos (shrdL_enc ss)]
  have e1 : (ss.length : Int) - 1 = ((ss.length - 1 : Nat) : Int) := by omega
  rw [then_ok (e := [some (drD l), some (.int at_), some (.lst o (ss.map enc)), some (.lst true (ss.map enc)), none, none, none, none]) (by simp [mRef, ol]),
    then_ok (e := [some (drD l), some (.int at_), some (.lst o (ss.map enc)), some (.lst true [enc s]), kk, z5, z6, z7])]
  · simp [mRef, if_sh (shrd_enc s)]
  · rw [ev_for, ev_m1, ev_rngN (n := ss.length - 1) (hs := [.val (.int ((ss.length - 1 : Nat) : Int))]) (e := [some (drD l), some (.int at_), some (.lst o (ss.map enc)), some (.lst true (ss.map enc)), none, none, none, none]) (by omega) (by simp [mRef, e1]) (by simp), ev_bok]
    exact i2
theorem asked_flat {m : Nat} {ss : List Sh} {s : Sh} {P : List Nat → Prop} (h1 : ss.length = m) (h2 : ∀ s ∈ ss, Lt P s) (e : letters s = flat ss) : (nms s).length = m ∧ ∀ n ∈ nms s, P n := by
  obtain ⟨f1, f2⟩ := flat_lt ss h2
  rw [← e] at f1 f2
  exact ⟨by rw [len_nms, f1, h1], to_nms f2⟩
theorem shr_step {f : M D} {E : VS.Env} {d : D} (h : f E = .ok d E) : mShr f E = .ok (share d) E := by rw [ev_shr, h]; rfl
theorem ls6_ok (ns : List Int) (hl : l ≠ []) (hx : x ≠ []) (m : Nat) (h1 : 1 ≤ m) (hm : m ≤ 42) (n : List (List Nat)) (hn : n.length = m) (hP : ∀ a ∈ n, Gd a) :
    ∃ (s : Sh) (o : Bool), Asked m s ∧ ls_6 fu [some (.fro (ns.map .int)), some (drD l), some (drD x), some (.int m), some (.lst true (n.map S)), none, none, none, none, none, none, none, none] = .ok .nx [some (.fro (ns.map .int)), some (drD l), some (drD x), some (.int m), some (.lst o (n.map S)), some (enc s), none, none, none, none, none, none, none] := by
  obtain ⟨r, _, hr⟩ := pick_ok fu x 7 2 hx
  have hc : (mB (mOp oEq (m2 (M.bind (mCall [] (den__law_pick fu) (mCons (mRef 2) (mCons (M.bind (M.ret (.int 7)) fun d => M.ret (Hd.val d)) (mCons (M.bind (M.ret (.int 2)) fun d => M.ret (Hd.val d)) mNil)))) fun d => M.ret (Hd.val d)) (M.bind (M.ret (.int 1)) fun d => M.ret (Hd.val d))))) [some (.fro (ns.map .int)), some (drD l), some (drD x), some (.int m), some (.lst true (n.map S)), none, none, none, none, none, none, none, none] = .ok (r == 1) [some (.fro (ns.map .int)), some (drD l), some (drD x), some (.int m), some (.lst true (n.map S)), none, none, none, none, none, none, none, none] := by
    simp [mRef, hr, ov_eqI]
  unfold ls_6
  by_cases h : (r == 1) = true
  · rw [h] at hc
    obtain ⟨s, s1, s2⟩ := law_arrow_ok fu l hl 12 n (by omega) (by omega)
    have as : Asked m s := ⟨by rw [s1]; exact hn, by rw [s1]; exact hP⟩
    have e1 : mAsg (.nm 5) (mShr (mCall [] (den__law_arrow fu) (mCons (mRef 1) (mCons (M.bind (M.ret (.int 12)) fun d => M.ret (Hd.val d)) (mCons (M.bind (mShare 4) fun d => M.ret (Hd.val d)) mNil))))) [some (.fro (ns.map .int)), some (drD l), some (drD x), some (.int m), some (.lst true (n.map S)), none, none, none, none, none, none, none, none] = .ok .nx [some (.fro (ns.map .int)), some (drD l), some (drD x), some (.int m), some (.lst false (n.map S)), some (enc s), none, none, none, none, none, none, none] := by
      have q := call_stepE (den := den__law_arrow fu) (fa := mCons (mRef 1) (mCons (M.bind (M.ret (.int 12)) fun d => M.ret (Hd.val d)) (mCons (M.bind (mShare 4) fun d => M.ret (Hd.val d)) mNil))) (env := [some (.fro (ns.map .int)), some (drD l), some (drD x), some (.int m), some (.lst true (n.map S)), none, none, none, none, none, none, none, none]) (e := [some (.fro (ns.map .int)), some (drD l), some (drD x), some (.int m), some (.lst false (n.map S)), none, none, none, none, none, none, none, none]) (hs := [.var 1, .val (.int 12), .val (.lst false (n.map S))]) (by simp [mRef, map_share]) (by simp [shrd_ints]) s2
      rw [ev_asg, ev_shr, q, ev_bok]
      simp [share_enc]
    rw [if_t hc, then_ok e1]
    obtain ⟨r2, _, hr2⟩ := pick_ok fu x 8 3 hx
    have hc2 : (mB (mOp oEq (m2 (M.bind (mCall [] (den__law_pick fu) (mCons (mRef 2) (mCons (M.bind (M.ret (.int 8)) fun d => M.ret (Hd.val d)) (mCons (M.bind (M.ret (.int 3)) fun d => M.ret (Hd.val d)) mNil)))) fun d => M.ret (Hd.val d)) (M.bind (M.ret (.int 1)) fun d => M.ret (Hd.val d))))) [some (.fro (ns.map .int)), some (drD l), some (drD x), some (.int m), some (.lst false (n.map S)), some (enc s), none, none, none, none, none, none, none] = .ok (r2 == 1) [some (.fro (ns.map .int)), some (drD l), some (drD x), some (.int m), some (.lst false (n.map S)), some (enc s), none, none, none, none, none, none, none] := by
      simp [mRef, hr2, ov_eqI]
    by_cases h2 : (r2 == 1) = true
    · rw [h2] at hc2
      obtain ⟨c, hcell⟩ := cell_ok fu ns 2
      have hcell' : den__law_cell fu [.fro (ns.map .int), .int 2] = .ok (.int c) [] := hcell
      have hch := chg_ok fu s 60 c (by have := (as.fit hm).dep; omega)
      refine ⟨chg s c, false, ⟨by rw [nms_chg]; exact as.1, by rw [nms_chg]; exact as.2⟩, ?_⟩
      rw [if_t hc2]
      simp [mRef, hcell', shrd_enc, hch, share_enc]
    · have h2' : (r2 == 1) = false := Bool.eq_false_iff.mpr h2
      rw [h2'] at hc2
      exact ⟨s, false, as, if_f hc2⟩
  · have h' : (r == 1) = false := Bool.eq_false_iff.mpr h
    rw [h'] at hc
    obtain ⟨ss, a1, a2, a3⟩ := items_ok fu (.fro (ns.map .int)) l x hl m hm n hn hP
    obtain ⟨s, e1, e2⟩ := shape_ok2 fu l false hl 20 ss (by omega) (by omega)
    have sh : share (.lst true (ss.map enc)) = .lst false (ss.map enc) := by rw [sh_lst, shareL_enc]
    have a4 := shr_step a3
    rw [sh] at a4
    have q := call_step (den := den__law_shape fu) (fa := mCons (mRef 1) (mCons (M.bind (M.ret (.int 20)) fun d => M.ret (Hd.val d)) (mCons (M.bind (mShr (mLc [12] (.nm 12) (mRng1 (m1 (mRef 3))) (M.ret true) (e_law_0 fu))) fun d => M.ret (Hd.val d)) mNil))) (env := [some (.fro (ns.map .int)), some (drD l), some (drD x), some (.int m), some (.lst true (n.map S)), none, none, none, none, none, none, none, none]) (hs := [.var 1, .val (.int 20), .val (.lst false (ss.map enc))]) (cons_step rfl (cons_step rfl (cons_step (val_step a4) (ev_nil (env := _))))) (by simp [shrd_ints]) e2
    refine ⟨s, true, asked_flat a1 a2 e1, ?_⟩
    rw [if_n hc, ev_asg, ev_shr, q, ev_bok]
    simp [share_enc]
end

end K78
set_option Elab.async false
set_option linter.all false
set_option maxRecDepth 10000
namespace K78
open PySem L2 VS
/-! ### operands -/
def Pr (E : VS.Env) (h : Hd) (d : D) : Prop := h = .val d ∨ ∃ i, h = .var i ∧ (E[i]?).join = some d ∧ shrd d = true
def HV (E : VS.Env) (f : M Hd) (d : D) : Prop := ∃ h, f E = .ok h E ∧ Pr E h d
section
variable {E : VS.Env}
theorem hv_var {i : Nat} {d : D} (h : (E[i]?).join = some d) (hs : shrd d = true) : HV E (mRef i) d := ⟨.var i, ev_ref h, .inr ⟨i, rfl, h, hs⟩⟩
theorem hv_val {f : M D} {d : D} (h : f E = .ok d E) : HV E (M.bind f fun d => M.ret (Hd.val d)) d := ⟨.val d, val_step h, .inl rfl⟩
theorem prep_pr {h : Hd} {d : D} {k : Nat} {hs : List Hd} {ds : List D} (p : Pr E h d) (q : prep [] (k + 1) hs E = some (ds, E)) : prep [] k (h :: hs) E = some (d :: ds, E) := by
  rcases p with rfl | ⟨i, rfl, h1, h2⟩
  · rw [ev_pV, q]
  · rw [ev_pR, h1]
    simp [h2, q]
theorem call1 {den : FD} {f : M Hd} {d r : D} {outs : VS.Env} (h : HV E f d) (hd : den [d] = .ok r outs) : mCall [] den (m1 f) E = .ok r E := by
  obtain ⟨h0, e, p⟩ := h
  exact call_step (cons_step e (ev_nil (env := E))) (prep_pr p ev_pN) hd
theorem call2 {den : FD} {f g : M Hd} {d e r : D} {outs : VS.Env} (h : HV E f d) (h' : HV E g e) (hd : den [d, e] = .ok r outs) : mCall [] den (m2 f g) E = .ok r E := by
  obtain ⟨h0, e0, p⟩ := h
  obtain ⟨h1, e1, p1⟩ := h'
  exact call_step (cons_step e0 (cons_step e1 (ev_nil (env := E)))) (prep_pr p (prep_pr p1 ev_pN)) hd
theorem callC2 {den : FD} {f g : M Hd} {d e r : D} {outs : VS.Env} (h : HV E f d) (h' : HV E g e) (hd : den [d, e] = .ok r outs) : mCall [] den (mCons f (mCons g mNil)) E = .ok r E := call2 h h' hd
theorem callC1 {den : FD} {f : M Hd} {d r : D} {outs : VS.Env} (h : HV E f d) (hd : den [d] = .ok r outs) : mCall [] den (mCons f mNil) E = .ok r E := call1 h hd
theorem callC3 {den : FD} {f g k : M Hd} {d e j r : D} {outs : VS.Env} (h : HV E f d) (h' : HV E g e) (h'' : HV E k j) (hd : den [d, e, j] = .ok r outs) : mCall [] den (mCons f (mCons g (mCons k mNil))) E = .ok r E := by
  obtain ⟨h0, e0, p⟩ := h
  obtain ⟨h1, e1, p1⟩ := h'
  obtain ⟨h2, e2, p2⟩ := h''
  exact call_step (cons_step e0 (cons_step e1 (cons_step e2 (ev_nil (env := E))))) (prep_pr p (prep_pr p1 (prep_pr p2 ev_pN))) hd
theorem get_pr {h : Hd} {d : D} {hs : List Hd} {ds : List D} (p : Pr E h d) (q : getAll E hs = some ds) : getAll E (h :: hs) = some (d :: ds) := by
  rcases p with rfl | ⟨i, rfl, h1, h2⟩
  · rw [ev_getVal, q]; rfl
  · rw [ev_getVar, h1, q]; rfl
theorem op2 {op : List D → Option D} {f g : M Hd} {d e r : D} (h : HV E f d) (h' : HV E g e) (ho : op [d, e] = some r) : mOp op (m2 f g) E = .ok r E := by
  obtain ⟨h0, e0, p⟩ := h
  obtain ⟨h1, e1, p1⟩ := h'
  rw [ev_op, ev_m2, cons_step e0 (cons_step e1 (ev_nil (env := E))), ev_bok, get_pr p (get_pr p1 ev_getNil)]
  dsimp only
  rw [ho]
theorem hv_lit {d : D} : HV E (M.bind (M.ret d) fun d => M.ret (Hd.val d)) d := hv_val (ev_ret (env := E))
/-! ### kinds in hand -/
section
variable (fu : Nat) (hf : 1000 ≤ fu)
include hf
theorem flt_opp {s : Sh} (h : flt s = none) : flt (opp s) = none := by unfold flt at h ⊢; rw [nms_opp]; exact h
theorem inv_s {f : M Hd} {b : Bool} {s : Sh} (h : HV E f (kindD b s)) (hs : Fit s) (hn : flt s = none) : mCall [] (gAll "Kind" (den_Kinddd_invertdd fu)) (m1 f) E = .ok (kindD true (opp s)) E := by
  refine call1 h (outs := []) ?_
  unfold gAll
  rw [if_pos (by rfl), inv_ok fu hf b hs]
  exact mk_none fu hf (flt_opp fu hf hn)
theorem and_s {f g : M Hd} {b c : Bool} {s t : Sh} (h : HV E f (kindD b s)) (h' : HV E g (kindD c t)) (hs : Fit (.nd true s t)) (hn : flt (.nd true s t) = none) : mCall [] (gAll "Kind" (den_Kinddd_anddd fu)) (m2 f g) E = .ok (kindD true (.nd true s t)) E := by
  refine call2 h h' (outs := []) ?_
  unfold gAll
  rw [if_pos (by rfl), and_ok fu hf b c hs]
  exact mk_none fu hf hn
theorem or_s {f g : M Hd} {b c : Bool} {s t : Sh} (h : HV E f (kindD b s)) (h' : HV E g (kindD c t)) (hs : Fit (.nd false s t)) (hn : flt (.nd false s t) = none) : mCall [] (gAll "Kind" (den_Kinddd_ordd fu)) (m2 f g) E = .ok (kindD true (.nd false s t)) E := by
  refine call2 h h' (outs := []) ?_
  unfold gAll
  rw [if_pos (by rfl), or_ok fu hf b c hs]
  exact mk_none fu hf hn
omit hf in
theorem eq_s {f g : M Hd} {b c : Bool} {s t : Sh} (h : HV E f (kindD b s)) (h' : HV E g (kindD c t)) (hs : Fit s) (ht : Fit t) : mCall [] (gFst "Kind" etab (den_Kinddd_eqdd fu)) (m2 f g) E = .ok (.bl (decide (s = t))) E := by
  refine call2 h h' (outs := []) ?_
  show (if isO "Kind" (kindD b s) = true then (match tagOf (kindD c t) with
    | some t' => if etab.contains t' = true then den_Kinddd_eqdd fu [kindD b s, kindD c t] else .stk
    | none => .stk) else .stk) = _
  rw [if_pos (by rfl), show tagOf (kindD c t) = some (.c "Kind") from rfl]
  dsimp only
  rw [if_pos (by decide), eqK_ok fu b c hs ht]
omit hf in
theorem eq_no {f g : M Hd} {b : Bool} {s : Sh} {d : D} {tg : Tag} (h : HV E f (kindD b s)) (h' : HV E g d) (h1 : tagOf d = some tg) (h2 : etab.contains tg = true) (h3 : oIsi isis_Kind [d] = some (.bl false)) : mCall [] (gFst "Kind" etab (den_Kinddd_eqdd fu)) (m2 f g) E = .ok (.bl false) E := by
  refine call2 h h' (outs := []) ?_
  show (if isO "Kind" (kindD b s) = true then (match tagOf d with
    | some t' => if etab.contains t' = true then den_Kinddd_eqdd fu [kindD b s, d] else .stk
    | none => .stk) else .stk) = _
  rw [if_pos (by rfl), h1]
  dsimp only
  rw [if_pos h2, eqK_no fu b h3]
omit hf in
theorem eq_noR {f g : M Hd} {b : Bool} {s : Sh} {d : D} {tg : Tag} (h : HV E f d) (h' : HV E g (kindD b s)) (h1 : tagOf d = some tg) (h2 : dTags.contains tg = true) (h3 : oIsi isis_Kind [d] = some (.bl false)) : mCall [] (fSwp (gFst "Kind" dTags (den_Kinddd_eqdd fu))) (m2 f g) E = .ok (.bl false) E := by
  refine call2 h h' (outs := []) ?_
  show (if isO "Kind" (kindD b s) = true then (match tagOf d with
    | some t' => if dTags.contains t' = true then den_Kinddd_eqdd fu [kindD b s, d] else .stk
    | none => .stk) else .stk) = _
  rw [if_pos (by rfl), h1]
  dsimp only
  rw [if_pos h2, eqK_no fu b h3]
end
end
/-! ### the deeds -/
theorem badN_app (a b : List (List Nat)) (ha : badN a = none) (hb : badN b = none) : badN (a ++ b) = none := by
  induction a with
  | nil => exact hb
  | cons n a ih =>
    rw [List.cons_append]
    unfold badN at ha ⊢
    by_cases h : nameOk n = true
    · rw [if_pos h] at ha ⊢; exact ih ha
    · rw [if_neg h] at ha; cases ha
theorem flt_none {s : Sh} (h : flt s = none) : (nms s).length ≤ 40 ∧ badN (nms s) = none := by
  unfold flt at h
  by_cases h40 : 40 < (nms s).length
  · rw [if_pos h40] at h; cases h
  · rw [if_neg h40] at h
    refine ⟨by omega, ?_⟩
    cases hb : badN (nms s) with
    | none => rfl
    | some n => rw [hb] at h; cases h
theorem of_flt {s : Sh} (h : (nms s).length ≤ 40) (h2 : badN (nms s) = none) : flt s = none := by
  unfold flt
  rw [if_neg (by omega), h2]
  rfl
theorem made_due {s : Sh} (h : badN (nms s) = none) : madeD s = dueD s := by
  unfold madeD dueD flt
  by_cases h40 : 40 < (nms s).length
  · rw [if_pos h40, if_pos h40]
  · rw [if_neg h40, if_neg h40, h]
    rfl
theorem due_self {s : Sh} (h : Fit s) : oNe [dueD s, dueD s] = some (.bl false) := by
  unfold dueD
  split
  · exact (flt_self (f := .large) fun n e => by cases e).2
  · have := (h.eq h).2
    rw [this]; simp
/-- two shapes that may be joined -/
structure Two (a b : Sh) : Prop where
  fa : Fit a
  fb : Fit b
  na : flt a = none
  nb : flt b = none
  j : (nms a).length + (nms b).length ≤ 50
theorem Two.fit {a b : Sh} (h : Two a b) (k : Bool) : Fit (.nd k a b) := ⟨by rw [nms_nd, List.length_append]; exact h.j, fun n hn => by
  rw [nms_nd] at hn
  exact (List.mem_append.mp hn).elim (h.fa.2 n) (h.fb.2 n)⟩
theorem Two.bad {a b : Sh} (h : Two a b) (k : Bool) : badN (nms (.nd k a b)) = none := by
  rw [nms_nd]; exact badN_app _ _ (flt_none h.na).2 (flt_none h.nb).2
theorem Two.opp {a b : Sh} (h : Two a b) : Two (opp a) b := ⟨h.fa.opp, h.fb, by have := h.na; unfold flt at this ⊢; rw [nms_opp]; exact this, h.nb, by rw [nms_opp]; exact h.j⟩
theorem Two.swap {a b : Sh} (h : Two a b) : Two b a := ⟨h.fb, h.fa, h.nb, h.na, by have := h.j; omega⟩
theorem deed_ok (fu : Nat) (hf : 1000 ≤ fu) {a b : Sh} (h : Two a b) (k : Nat) (hk : k < 4) : ∃ d, den__law_made fu [enc a, enc b, .int k] = .ok d [] ∧ den__law_due fu [enc a, enc b, .int k] = .ok d [] ∧ oNe [d, d] = some (.bl false) := by
  match k, hk with
  | 0, _ => exact ⟨_, made0 fu hf h.fa _ (xfr_enc b), by rw [made_due (flt_none h.na).2]; exact due0 fu a b h.fa, by rw [made_due (flt_none h.na).2]; exact due_self h.fa⟩
  | 1, _ => exact ⟨_, made1 fu hf h.fa h.fb h.na h.nb (h.fit true), by rw [made_due (h.bad true)]; exact due1 fu a b (h.fit true), by rw [made_due (h.bad true)]; exact due_self (h.fit true)⟩
  | 2, _ => exact ⟨_, made2 fu hf h.fa h.fb h.na h.nb (h.fit false), by rw [made_due (h.bad false)]; exact due2 fu a b (h.fit false), by rw [made_due (h.bad false)]; exact due_self (h.fit false)⟩
  | 3, _ => exact ⟨_, made3 fu hf h.fa h.fb h.na h.nb (h.opp.fit false), by rw [made_due (h.opp.bad false)]; exact due3 fu a b h.fa (h.opp.fit false), by rw [made_due (h.opp.bad false)]; exact due_self (h.opp.fit false)⟩
end K78
set_option Elab.async false
set_option linter.all false
set_option maxRecDepth 10000
namespace K78
open PySem L2 VS
theorem cut_map (n : List (List Nat)) (hi : Option Int) : ∃ n2 : List (List Nat), (∀ a ∈ n2, a ∈ n) ∧ cutL (n.map S) none hi = n2.map S := by
  refine ⟨cutL n none hi, fun a ha => ?_, ?_⟩
  · unfold cutL at ha
    exact List.mem_of_mem_drop (List.mem_of_mem_take ha)
  · unfold cutL
    simp [List.map_drop, List.map_take]
section
variable (fu : Nat) (hf : 1000 ≤ fu)
include hf
theorem ls7_ok (a0 a1 a2 a3 a5 : Option D) (o : Bool) (n : List (List Nat)) (hP : ∀ a ∈ n, Gd a) : ls_7 fu [a0, a1, a2, a3, some (.lst o (n.map S)), a5, none, none, none, none, none, none, none] = .ok .nx [a0, a1, a2, a3, some (.lst o (n.map S)), a5, none, none, none, none, none, none, none] := by
  obtain ⟨n2, h1, h2⟩ := cut_map n (some 9)
  have hc : dSl (.lst o (n.map S)) none (some 9) = some (.lst true (n2.map S)) := by
    show (if shrdL (n.map S) = true then some (D.lst true (cutL (n.map S) none (some 9))) else none) = _
    rw [if_pos (map_shrd n), h2]
  have hm := names_made_ok fu hf n2 fun a ha => hP a (h1 a ha)
  have e1 : mSl (mRef 4) (M.ret none) (mPart (M.bind (M.ret (.int 9)) fun d => M.ret (Hd.val d))) [a0, a1, a2, a3, some (.lst o (n.map S)), a5, none, none, none, none, none, none, none] = .ok (.lst true (n2.map S)) [a0, a1, a2, a3, some (.lst o (n.map S)), a5, none, none, none, none, none, none, none] := by
    simp [mSl, mPart, mRef, hc]
  have e2 := shr_step e1
  rw [sh_lst, map_share] at e2
  have e3 := callC1 (hv_val e2) hm
  unfold ls_7
  exact if_f (not_step (tru_step e3))
omit hf in
theorem ls8_ok (a0 a1 a2 a3 a4 : Option D) {s : Sh} (h : Fit s) : ls_8 fu [a0, a1, a2, a3, a4, some (enc s), none, none, none, none, none, none, none] = .ok .nx [a0, a1, a2, a3, a4, some (enc s), some (fltO (flt s)), none, none, none, none, none, none] := by
  have e := callC1 (E := [a0, a1, a2, a3, a4, some (enc s), none, none, none, none, none, none, none]) (hv_var (i := 5) rfl (shrd_enc s)) (fault_ok fu h)
  have hs : share (fltO (flt s)) = fltO (flt s) := by cases flt s with
    | none => rfl
    | some f => cases f <;> rfl
  unfold ls_8
  rw [ev_asg, shr_step e, ev_bok, hs]
  simp
theorem ls9_bad (a0 a1 a2 a3 a4 : Option D) {s : Sh} (h : Fit s) {f : Flt} (hb : flt s = some f) : ls_9 fu [a0, a1, a2, a3, a4, some (enc s), some (fltO (flt s)), none, none, none, none, none, none] = .ok (.rt (.bl true)) [a0, a1, a2, a3, a4, some (enc s), some (fltO (flt s)), none, none, none, none, none, none] := by
  have hm := made0 fu hf h (enc s) (xfr_enc s)
  have md : madeD s = fltD f := by unfold madeD; rw [hb]
  rw [md] at hm
  rw [hb]
  have hu : ∀ n, f = .name n → Uni n := fun n e => by
    subst e
    unfold flt at hb
    split at hb
    · cases hb
    · have hn : badN (nms s) = some n := by
        cases q : badN (nms s) with
        | none => rw [q] at hb; cases hb
        | some k => rw [q] at hb; cases hb; rfl
      have : ∀ (l : List (List Nat)) (n : List Nat), badN l = some n → n ∈ l := fun l => by
        induction l with
        | nil => intro n h; cases h
        | cons m l ih =>
          intro n h
          unfold badN at h
          split at h
          · exact List.mem_cons_of_mem _ (ih n h)
          · cases h; exact List.mem_cons_self
      exact h.uni n (this _ n hn)
  have hs : shrd (fltD f) = true := by cases f <;> rfl
  have g6 : HV [a0, a1, a2, a3, a4, some (enc s), some (fltO (some f)), none, none, none, none, none, none] (mRef 6) (fltD f) := hv_var rfl hs
  have c1 : mB (mOp oIsNot (m2 (mRef 6) (M.bind (M.ret .non) fun d => M.ret (Hd.val d)))) [a0, a1, a2, a3, a4, some (enc s), some (fltO (some f)), none, none, none, none, none, none] = .ok true [a0, a1, a2, a3, a4, some (enc s), some (fltO (some f)), none, none, none, none, none, none] :=
    B_step (op2 g6 hv_lit (show oIsNot [fltD f, .non] = some (.bl true) by cases f <;> rfl))
  have e1 : mCall [] (den__law_made fu) (mCons (mRef 5) (mCons (mRef 5) (mCons (M.bind (M.ret (.int 0)) fun d => M.ret (Hd.val d)) mNil))) [a0, a1, a2, a3, a4, some (enc s), some (fltO (some f)), none, none, none, none, none, none] = .ok (fltD f) [a0, a1, a2, a3, a4, some (enc s), some (fltO (some f)), none, none, none, none, none, none] :=
    callC3 (hv_var (i := 5) rfl (shrd_enc s)) (hv_var (i := 5) rfl (shrd_enc s)) hv_lit hm
  unfold ls_9
  rw [if_t c1, ev_bind, op2 (hv_val e1) g6 (flt_self hu).1, ev_bok]
  rfl
omit hf in
theorem ls9_ok (a0 a1 a2 a3 a4 a5 : Option D) {s : Sh} (hb : flt s = none) : ls_9 fu [a0, a1, a2, a3, a4, a5, some (fltO (flt s)), none, none, none, none, none, none] = .ok .nx [a0, a1, a2, a3, a4, a5, some .non, none, none, none, none, none, none] := by
  rw [hb]
  have c1 : mB (mOp oIsNot (m2 (mRef 6) (M.bind (M.ret .non) fun d => M.ret (Hd.val d)))) [a0, a1, a2, a3, a4, a5, some (fltO none), none, none, none, none, none, none] = .ok false [a0, a1, a2, a3, a4, a5, some (fltO none), none, none, none, none, none, none] :=
    B_step (op2 (hv_var (i := 6) (d := .non) rfl rfl) hv_lit rfl)
  unfold ls_9
  exact if_f c1
end
def abC : List Nat := [97, 98]
theorem s_ab : Str.ofString "ab" = ⟨abC.toArray⟩ := by decide +kernel
theorem ixAb (k : Nat) : ∃ c, isA c = true ∧ oIx [S abC, .int ((k : Int) % 2)] = some (S [c]) := by
  have h0 : 0 ≤ (k : Int) % 2 := Int.emod_nonneg _ (by decide)
  have h1 : (k : Int) % 2 < 2 := Int.emod_lt_of_pos _ (by decide)
  have hl : abC.length = 2 := by decide
  refine ⟨_, ?_, ixLit (by omega) h0 (by omega)⟩
  have : ∀ c ∈ abC, isA c = true := by decide
  exact this _ (List.getElem_mem _)
theorem one_nm {c : Nat} (h : isA c = true) : Nm [c] := ⟨⟨by simp, fun d hd => by rw [List.mem_singleton.mp hd]; exact h⟩, by simp⟩
theorem badN_nm : ∀ l : List (List Nat), (∀ n ∈ l, Nm n) → badN l = none
  | [], _ => rfl
  | n :: l, h => by
    have hn := h n (by simp)
    have e : nameOk n = true := by rw [nameOk_read hn.1]; simpa using hn.2
    unfold badN
    rw [if_pos e, badN_nm l fun m hm => h m (by simp [hm])]
theorem ls10_ok (fu : Nat) (a0 a1 a3 a4 a5 a6 : Option D) (x : List Int) (hx : x ≠ []) : ∃ t, (nms t).length ≤ 4 ∧ (∀ n ∈ nms t, Nm n) ∧ ls_10 fu [a0, a1, some (drD x), a3, a4, a5, a6, none, none, none, none, none, none] = .ok .nx [a0, a1, some (drD x), a3, a4, a5, a6, some (enc t), none, none, none, none, none] := by
  obtain ⟨q, ⟨q0, q1, _⟩, hq⟩ := pick_ok fu x 9 4 hx
  obtain ⟨q, rfl⟩ := Int.eq_ofNat_of_zero_le q0
  have hq4 := q1 (by decide)
  have hq' : den__law_pick fu [.lst false (x.map .int), .int 9, .int 4] = .ok (.int (q : Nat)) [] := hq
  have hrng : mRng1 (m1 (M.bind (mOp oAdd (m2 (M.bind (M.ret (.int 1)) fun d => M.ret (Hd.val d)) (M.bind (mCall [] (den__law_pick fu) (mCons (mRef 2) (mCons (M.bind (M.ret (.int 9)) fun d => M.ret (Hd.val d)) (mCons (M.bind (M.ret (.int 4)) fun d => M.ret (Hd.val d)) mNil)))) fun d => M.ret (Hd.val d)))) fun d => M.ret (Hd.val d))) [a0, a1, some (drD x), a3, a4, a5, a6, none, none, none, none, none, none] = .ok ((List.range (1 + q)).map fun (k : Nat) => D.int k) [a0, a1, some (drD x), a3, a4, a5, a6, none, none, none, none, none, none] :=
    ev_rngN (n := 1 + q) (hs := [.val (.int ((1 + q : Nat) : Int))]) (by omega) (by simp [mRef, hq']) (by simp)
  obtain ⟨ss, s1, s2, s3⟩ := lc_ex (i := 12) (fe := e_law_1 fu) enc (Q := Lt Nm) hrng (by simp) (fun y hy => by
    obtain ⟨k, hk, rfl⟩ := List.mem_map.mp hy
    obtain ⟨c, hc, hix⟩ := ixAb k
    have ot : oTup [.str "letter", S [c], .bl (decide ((k : Int) > 0))] = some (enc (.lt [c] (decide ((k : Int) > 0)))) := rfl
    refine ⟨.lt [c] (decide ((k : Int) > 0)), ⟨[c], _, rfl, one_nm hc⟩, ?_⟩
    generalize hB : decide ((k : Int) > 0) = B at ot
    generalize enc (.lt [c] B) = EE at ot
    have hg : oGt [.int (k : Int), .int 0] = some (.bl B) := by rw [← hB]; exact ov_gt
    have e1 : mOp oIx (m2 (M.bind (M.ret (.str "ab")) fun d => M.ret (Hd.val d)) (M.bind (mOp oMod (m2 (mRef 12) (M.bind (M.ret (.int 2)) fun d => M.ret (Hd.val d)))) fun d => M.ret (Hd.val d))) [a0, a1, some (drD x), a3, a4, a5, a6, none, none, none, none, none, some (.int (k : Nat))] = .ok (S [c]) [a0, a1, some (drD x), a3, a4, a5, a6, none, none, none, none, none, some (.int (k : Nat))] := by
      simp [mRef, s_ab, hix]
    have e2 : mOp oGt (m2 (mRef 12) (M.bind (M.ret (.int 0)) fun d => M.ret (Hd.val d))) [a0, a1, some (drD x), a3, a4, a5, a6, none, none, none, none, none, some (.int (k : Nat))] = .ok (.bl B) [a0, a1, some (drD x), a3, a4, a5, a6, none, none, none, none, none, some (.int (k : Nat))] :=
      op2 (hv_var (i := 12) (d := .int (k : Nat)) rfl rfl) hv_lit hg
    show e_law_1 fu [a0, a1, some (drD x), a3, a4, a5, a6, none, none, none, none, none, some (.int (k : Nat))] = .ok EE [a0, a1, some (drD x), a3, a4, a5, a6, none, none, none, none, none, some (.int (k : Nat))]
    unfold e_law_1
    rw [ev_tk, cons_step (val_step (ev_ret (env := _))) (cons_step (val_step e1) (cons_step (val_step e2) (ev_nil (env := _)))), ev_bok]
    simp [ot]) (szL (by simp; omega))
  have hz : ss.length = 1 + q := by simpa using s1
  obtain ⟨t, e1, e2⟩ := shape_ok2 fu x false hx 9 ss (by omega) (by omega)
  obtain ⟨g1, g2⟩ := asked_flat hz s2 e1
  refine ⟨t, by omega, g2, ?_⟩
  have sh : share (.lst true (ss.map enc)) = .lst false (ss.map enc) := by rw [sh_lst, shareL_enc]
  have a4' := shr_step (s3.trans (show _ = R.ok (D.lst true (ss.map enc)) [a0, a1, some (drD x), a3, a4, a5, a6, none, none, none, none, none, none] from rfl))
  rw [sh] at a4'
  have qq := callC3 (hv_var (E := [a0, a1, some (drD x), a3, a4, a5, a6, none, none, none, none, none, none]) (i := 2) (d := drD x) rfl rfl) hv_lit (hv_val a4') e2
  unfold ls_10
  rw [ev_asg, shr_step qq, ev_bok, share_enc]
  simp
section
variable (fu : Nat) (hf : 1000 ≤ fu)
include hf
theorem ls11_ok (a0 a1 a2 a3 a4 a6 a7 : Option D) {s : Sh} (h : Fit s) (hn : flt s = none) : ls_11 fu [a0, a1, a2, a3, a4, some (enc s), a6, a7, none, none, none, none, none] = .ok .nx [a0, a1, a2, a3, a4, some (enc s), a6, a7, some (kindD false s), none, none, none, none] := by
  have e := (mk_at fu hf (E := [a0, a1, a2, a3, a4, some (enc s), a6, a7, none, none, none, none, none]) (i := 5) h rfl).trans (mk_none fu hf hn)
  unfold ls_11
  rw [ev_asg, shr_step e, ev_bok, share_kd]
  simp
theorem ls12_ok (a0 a1 a2 a3 a4 a5 a6 a8 : Option D) {t : Sh} (h : Fit t) (hn : flt t = none) : ls_12 fu [a0, a1, a2, a3, a4, a5, a6, some (enc t), a8, none, none, none, none] = .ok .nx [a0, a1, a2, a3, a4, a5, a6, some (enc t), a8, some (kindD false t), none, none, none] := by
  have e := (mk_at fu hf (E := [a0, a1, a2, a3, a4, a5, a6, some (enc t), a8, none, none, none, none]) (i := 7) h rfl).trans (mk_none fu hf hn)
  unfold ls_12
  rw [ev_asg, shr_step e, ev_bok, share_kd]
  simp
end
end K78
set_option Elab.async false
set_option linter.all false
set_option maxRecDepth 10000
namespace K78
open PySem L2 VS
/-- the slots behind the making of the two kinds -/
abbrev EK (ns l x : List Int) (m : Nat) (o : Bool) (n : List (List Nat)) (s t : Sh) (dd vl : Option D) : VS.Env :=
  [some (.fro (ns.map .int)), some (drD l), some (drD x), some (.int m), some (.lst o (n.map S)), some (enc s), some .non, some (enc t), some (kindD false s), some (kindD false t), dd, vl, none]
section
variable (fu : Nat) (hf : 1000 ≤ fu) (ns l x : List Int) (m : Nat) (o : Bool) (n : List (List Nat)) {s t : Sh} (T : Two s t) (dd vl : Option D)
include hf T
theorem k8 : HV (EK ns l x m o n s t dd vl) (mRef 8) (kindD false s) := hv_var rfl rfl
theorem k9 : HV (EK ns l x m o n s t dd vl) (mRef 9) (kindD false t) := hv_var rfl rfl
theorem k5 : HV (EK ns l x m o n s t dd vl) (mRef 5) (enc s) := hv_var rfl (shrd_enc s)
theorem k7 : HV (EK ns l x m o n s t dd vl) (mRef 7) (enc t) := hv_var rfl (shrd_enc t)
theorem ls13_ok : ls_13 fu (EK ns l x m o n s t dd vl) = .ok .nx (EK ns l x m o n s t dd vl) := by
  have e1 := callC2 (k8 fu hf ns l x m o n T dd vl) (k5 fu hf ns l x m o n T dd vl) (fields_ok fu hf T.fa)
  have i1 := shr_step (inv_s fu hf (k8 fu hf ns l x m o n T dd vl) T.fa T.na)
  rw [share_kd] at i1
  have o1 := callC1 (k5 fu hf ns l x m o n T dd vl) (lopposite_ok fu s 60 (by have := T.fa.dep; omega))
  have e2 := callC2 (hv_val i1) (hv_val o1) (fields_ok fu hf T.fa.opp)
  have e3 := callC2 (k9 fu hf ns l x m o n T dd vl) (k7 fu hf ns l x m o n T dd vl) (fields_ok fu hf T.fb)
  unfold ls_13
  exact if_f (or_ff (not_step (tru_step e1)) (or_ff (not_step (tru_step e2)) (not_step (tru_step e3))))
theorem deed_turn (k : Nat) (hk : k < 4) : b_law_2 fu (EK ns l x m o n s t (some (.int k)) vl) = .ok .nx (EK ns l x m o n s t (some (.int k)) vl) := by
  obtain ⟨d, m1, d1, n1⟩ := deed_ok fu hf T k hk
  obtain ⟨e, m2, d2, n2⟩ := deed_ok fu hf T.swap k hk
  have h10 : HV (EK ns l x m o n s t (some (.int k)) vl) (mRef 10) (.int k) := hv_var rfl rfl
  have h5 := k5 fu hf ns l x m o n T (some (.int k)) vl
  have h7 := k7 fu hf ns l x m o n T (some (.int k)) vl
  have c1 := op2 (hv_val (callC3 h5 h7 h10 m1)) (hv_val (callC3 h5 h7 h10 d1)) n1
  have c2 := op2 (hv_val (callC3 h7 h5 h10 m2)) (hv_val (callC3 h7 h5 h10 d2)) n2
  unfold b_law_2
  rw [then_ok (if_f (B_step c1))]
  exact if_f (B_step c2)
theorem deed_loop : ∀ (ks : List Nat) (dd : Option D), (∀ k ∈ ks, k < 4) → ∃ dd', forL (.nm 10) (b_law_2 fu) (ks.map fun (k : Nat) => D.int k) (EK ns l x m o n s t dd vl) = .ok .nx (EK ns l x m o n s t dd' vl)
  | [], dd, _ => ⟨dd, rfl⟩
  | k :: ks, dd, h => by
    obtain ⟨dd', e⟩ := deed_loop ks (some (.int k)) fun j hj => h j (by simp [hj])
    refine ⟨dd', ?_⟩
    rw [List.map_cons, ev_forC]
    have hb : bindT (.nm 10) (.int k) (EK ns l x m o n s t dd vl) = some (EK ns l x m o n s t (some (.int k)) vl) := by
      rw [ev_nm, if_pos (by simp)]
      rfl
    rw [hb]
    dsimp only
    rw [deed_turn fu hf ns l x m o n T vl k (h k (by simp)), ev_bok, ev_lpN, e]
theorem ls14_ok : ∃ dd', ls_14 fu (EK ns l x m o n s t none vl) = .ok .nx (EK ns l x m o n s t dd' vl) := by
  obtain ⟨dd', e⟩ := deed_loop fu hf ns l x m o n T vl (List.range 4) none (fun k hk => List.mem_range.mp hk)
  refine ⟨dd', ?_⟩
  have hr : mRng1 (m1 (M.bind (M.ret (.int 4)) fun d => M.ret (Hd.val d))) (EK ns l x m o n s t none vl) = .ok ((List.range 4).map fun (k : Nat) => D.int k) (EK ns l x m o n s t none vl) :=
    ev_rngN (n := 4) (hs := [.val (.int ((4 : Nat) : Int))]) (by omega) (cons_step (val_step (ev_ret (env := _))) (ev_nil (env := _))) (by simp)
  unfold ls_14
  rw [ev_for, hr, ev_bok]
  exact e
theorem ls15_ok : ls_15 fu (EK ns l x m o n s t dd vl) = .ok .nx (EK ns l x m o n s t dd vl) := by
  have h8 := k8 fu hf ns l x m o n T dd vl
  have i1 := inv_s fu hf h8 T.fa T.na
  have i2 := inv_s fu hf (hv_val i1) T.fa.opp (flt_opp fu hf T.na)
  rw [opp_opp] at i2
  have q1 := eq_s fu (hv_val i2) h8 T.fa T.fa
  have q2 := eq_s fu h8 (hv_val i1) T.fa T.fa.opp
  rw [decide_eq_false (fun e => opp_ne s e.symm)] at q2
  have mk := (mk_at fu hf (E := EK ns l x m o n s t dd vl) (i := 5) T.fa rfl).trans (mk_none fu hf T.na)
  have q3 := eq_s fu h8 (hv_val mk) T.fa T.fa
  rw [decide_eq_true rfl] at q1 q3
  unfold ls_15
  exact if_f (or_ff (not_step (B_step q1)) (or_ff (B_step q2) (not_step (B_step q3))))
theorem ls16_ok : ls_16 fu (EK ns l x m o n s t dd vl) = .ok .nx (EK ns l x m o n s t dd vl) := by
  have h8 := k8 fu hf ns l x m o n T dd vl
  have h5 := k5 fu hf ns l x m o n T dd vl
  have q1 := eq_s fu h8 (k9 fu hf ns l x m o n T dd vl) T.fa T.fb
  have q2 := op2 h5 (k7 fu hf ns l x m o n T dd vl) (T.fa.eq T.fb).1
  have c1 := op2 (hv_val q1) (hv_val q2) (show oNe [.bl (decide (s = t)), .bl (decide (s = t))] = some (.bl false) by rw [neBl]; simp)
  obtain ⟨c, hcell⟩ := cell_ok fu ns 3
  have hcell' : den__law_cell fu [.fro (ns.map .int), .int 3] = .ok (.int c) [] := hcell
  have e0 := callC2 (E := EK ns l x m o n s t dd vl) (hv_var (i := 0) (d := .fro (ns.map .int)) rfl rfl) hv_lit hcell'
  have e1 := callC2 h5 (hv_val e0) (chg_ok fu s 60 c (by have := T.fa.dep; omega))
  have fc : flt (chg s c) = none := by have := T.na; unfold flt at this ⊢; rw [nms_chg]; exact this
  have e2 := (make_ok fu hf (T.fa.chg c) (cons_step (val_step e1) (ev_nil (env := _))) (by simp)).trans (mk_none fu hf fc)
  have q3 := eq_s fu h8 (hv_val e2) T.fa (T.fa.chg c)
  rw [decide_eq_false (fun e => chg_ne s c e.symm)] at q3
  unfold ls_16
  exact if_f (or_ff (B_step c1) (B_step q3))
theorem ls17_ok (hm : (nms s).length = m) (ht : (nms t).length ≤ 4) : ls_17 fu (EK ns l x m o n s t dd vl) = .ok .nx (EK ns l x m o n s t dd vl) := by
  have h8 := k8 fu hf ns l x m o n T dd vl
  have h9 := k9 fu hf ns l x m o n T dd vl
  have h3 : HV (EK ns l x m o n s t dd vl) (mRef 3) (.int m) := hv_var rfl rfl
  have c0 : mB (mOp oLt (m2 (mRef 3) (M.bind (M.ret (.int 30)) fun d => M.ret (Hd.val d)))) (EK ns l x m o n s t dd vl) = .ok (decide ((m : Int) < 30)) (EK ns l x m o n s t dd vl) := B_step (op2 h3 hv_lit ov_lt)
  unfold ls_17
  by_cases h30 : (m : Int) < 30
  · rw [decide_eq_true h30] at c0
    have fl : ∀ (k : Bool) (a b : Sh), nms a = nms s → nms b = nms t → flt (.nd k a b) = none := fun k a b ha hb => by
      refine of_flt ?_ ?_
      · rw [nms_nd, ha, hb, List.length_append]; omega
      · rw [nms_nd, ha, hb]; exact badN_app _ _ (flt_none T.na).2 (flt_none T.nb).2
    have ft : ∀ (k : Bool) (a b : Sh), nms a = nms s → nms b = nms t → Fit (.nd k a b) := fun k a b ha hb => (T.fit k).of (by rw [nms_nd, nms_nd, ha, hb])
    have is := inv_s fu hf h8 T.fa T.na
    have it := inv_s fu hf h9 T.fb T.nb
    have a1 := and_s fu hf h8 h9 (T.fit true) (fl true s t rfl rfl)
    have a2 := inv_s fu hf (hv_val a1) (T.fit true) (fl true s t rfl rfl)
    have a3 := or_s fu hf (hv_val is) (hv_val it) (ft false _ _ (nms_opp s) (nms_opp t)) (fl false _ _ (nms_opp s) (nms_opp t))
    have q1 := eq_s fu (hv_val a2) (hv_val a3) (T.fit true).opp (ft false _ _ (nms_opp s) (nms_opp t))
    have b1 := or_s fu hf h8 h9 (T.fit false) (fl false s t rfl rfl)
    have b2 := inv_s fu hf (hv_val b1) (T.fit false) (fl false s t rfl rfl)
    have b3 := and_s fu hf (hv_val is) (hv_val it) (ft true _ _ (nms_opp s) (nms_opp t)) (fl true _ _ (nms_opp s) (nms_opp t))
    have q2 := eq_s fu (hv_val b2) (hv_val b3) (T.fit false).opp (ft true _ _ (nms_opp s) (nms_opp t))
    rw [decide_eq_true (show opp (.nd true s t) = .nd false (opp s) (opp t) from rfl)] at q1
    rw [decide_eq_true (show opp (.nd false s t) = .nd true (opp s) (opp t) from rfl)] at q2
    exact if_f (and_t c0 (or_ff (not_step (B_step q1)) (not_step (B_step q2))))
  · rw [decide_eq_false h30] at c0
    exact if_f (and_f c0)
omit hf in
theorem val_turn {d : D} {tg : Tag} (hs : shrd d = true) (h1 : tagOf d = some tg) (h2 : etab.contains tg = true) (h2' : dTags.contains tg = true) (h3 : oIsi isis_Kind [d] = some (.bl false)) : b_law_3 fu (EK ns l x m o n s t dd (some d)) = .ok .nx (EK ns l x m o n s t dd (some d)) := by
  have h8 : HV (EK ns l x m o n s t dd (some d)) (mRef 8) (kindD false s) := hv_var rfl rfl
  have h11 : HV (EK ns l x m o n s t dd (some d)) (mRef 11) d := hv_var rfl hs
  have q1 := eq_no fu h8 h11 h1 h2 h3
  have q2 := eq_noR fu h11 h8 h1 h2' h3
  unfold b_law_3
  exact if_f (or_ff (B_step q1) (B_step q2))
/-- a value that is no kind -/
def NoK (d : D) : Prop := shrd d = true ∧ ∃ tg, tagOf d = some tg ∧ etab.contains tg = true ∧ dTags.contains tg = true ∧ oIsi isis_Kind [d] = some (.bl false)
omit hf in
theorem val_loop : ∀ (ds : List D) (vl : Option D), (∀ d ∈ ds, NoK d) → ∃ vl', forL (.nm 11) (b_law_3 fu) ds (EK ns l x m o n s t dd vl) = .ok .nx (EK ns l x m o n s t dd vl')
  | [], vl, _ => ⟨vl, rfl⟩
  | d :: ds, vl, h => by
    obtain ⟨vl', e⟩ := val_loop ds (some d) fun j hj => h j (by simp [hj])
    obtain ⟨h0, tg, h1, h2, h3, h4⟩ := h d (by simp)
    refine ⟨vl', ?_⟩
    rw [ev_forC]
    have hb : bindT (.nm 11) d (EK ns l x m o n s t dd vl) = some (EK ns l x m o n s t dd (some d)) := by
      rw [ev_nm, if_pos (by simp)]
      rfl
    rw [hb]
    dsimp only
    rw [val_turn fu ns l x m o n T dd h0 h1 h2 h3 h4, ev_bok, ev_lpN, e]
theorem ls18_ok (hn : n ≠ []) : ∃ vl', ls_18 fu (EK ns l x m o n s t dd vl) = .ok .nx (EK ns l x m o n s t dd vl') := by
  have hp := prop_step fu hf (E := EK ns l x m o n s t dd vl) (i := 8) T.fa rfl
  have h0 : 0 < n.length := List.length_pos_iff.mpr hn
  have hix : oIx [.lst o (n.map S), .int 0] = some (S n[0]) := ixS o n (k := 0) h0
  have e4 : mOp oIx (m2 (mRef 4) (M.bind (M.ret (.int 0)) fun d => M.ret (Hd.val d))) (EK ns l x m o n s t dd vl) = .ok (S n[0]) (EK ns l x m o n s t dd vl) := by
    simp [mRef, hix, -ov_ixL]
  have hl : oLst [enc s, .tup ((letters s).map encL), S n[0], .int 40, .non] = some (.lst true [enc s, .tup ((letters s).map encL), S n[0], .int 40, .non]) := if_pos (Nat.le_of_lt (szL (by simp)))
  have et : mTk oLst (mCons (mRef 5) (mCons (M.bind (mCall [] (noR (gAll "Kind" (den_Kind_letters fu))) (m1 (mRef 8))) fun d => M.ret (Hd.val d)) (mCons (M.bind (mOp oIx (m2 (mRef 4) (M.bind (M.ret (.int 0)) fun d => M.ret (Hd.val d)))) fun d => M.ret (Hd.val d)) (mCons (M.bind (M.ret (.int 40)) fun d => M.ret (Hd.val d)) (mCons (M.bind (M.ret .non) fun d => M.ret (Hd.val d)) mNil))))) (EK ns l x m o n s t dd vl) = .ok (.lst true [enc s, .tup ((letters s).map encL), S n[0], .int 40, .non]) (EK ns l x m o n s t dd vl) := by
    rw [ev_tk, cons_step (show mRef 5 (EK ns l x m o n s t dd vl) = .ok (.var 5) _ from rfl) (cons_step (val_step hp) (cons_step (val_step e4) (cons_step (val_step (ev_ret (env := _))) (cons_step (val_step (ev_ret (env := _))) (ev_nil (env := _)))))), ev_bok]
    simp [shrd_enc, hl]
  have hsh : share (.lst true [enc s, .tup ((letters s).map encL), S n[0], .int 40, .non]) = .lst false [enc s, .tup ((letters s).map encL), S n[0], .int 40, .non] := by
    simp [share_enc, shareL_letters]
  have tagT : ∀ ds, shrdL ds = true → NoK (.tup ds) := fun ds h => ⟨by rw [sr_tup]; exact h, .b "tuple", rfl, by decide, by decide, rfl⟩
  have hall : ∀ d ∈ [enc s, .tup ((letters s).map encL), S n[0], .int 40, .non], NoK d := fun d hd => by
    simp only [List.mem_cons, List.not_mem_nil, or_false] at hd
    rcases hd with rfl | rfl | rfl | rfl | rfl
    · have := shrd_enc s
      cases s with
      | lt a b => exact tagT _ this
      | nd k a b => exact tagT _ this
    · exact tagT _ (shrdL_map _)
    · exact ⟨rfl, .b "str", rfl, by decide, by decide, rfl⟩
    · exact ⟨rfl, .b "int", rfl, by decide, by decide, rfl⟩
    · exact ⟨rfl, .b "NoneType", rfl, by decide, by decide, rfl⟩
  obtain ⟨vl', e⟩ := val_loop fu ns l x m o n T dd _ vl hall
  refine ⟨vl', ?_⟩
  unfold ls_18
  rw [ev_for, ev_items, val_step et, ev_bok]
  dsimp only
  rw [hsh, it_lst]
  dsimp only
  rw [ev_bok]
  exact e
theorem ls19_ok : ls_19 fu (EK ns l x m o n s t dd vl) = .ok (.rt (.bl true)) (EK ns l x m o n s t dd vl) := by
  have e1 := callC2 (k8 fu hf ns l x m o n T dd vl) (k5 fu hf ns l x m o n T dd vl) (fields_ok fu hf T.fa)
  have e2 : mOp oEq (m2 (M.bind (M.ret (.int 40)) fun d => M.ret (Hd.val d)) (M.bind (M.ret (.int 40)) fun d => M.ret (Hd.val d))) (EK ns l x m o n s t dd vl) = .ok (.bl true) (EK ns l x m o n s t dd vl) := op2 hv_lit hv_lit (ov_eqI.trans (by rfl))
  unfold ls_19
  rw [ev_bind, ev_andV, B_step e1, ev_bok, if_pos rfl, e2, ev_bok]
  rfl
end
theorem law_holds2 (fu : Nat) (hf : 1000 ≤ fu) (ns : List Int) : ∃ outs, den_law fu [.fro (ns.map .int)] = .ok (.bl true) outs := by
  obtain ⟨l, l1, e0⟩ := ls0_ok fu ns
  obtain ⟨x, x1, e1⟩ := ls1_ok fu ns l
  have hl := ne_of_len l1
  have hx := ne_of_len x1
  obtain ⟨m0, m1_, m2_, e2⟩ := ls2_ok fu (.fro (ns.map .int)) l x hx
  obtain ⟨m, m3, m4, e3⟩ := ls3_ok fu (.fro (ns.map .int)) l x hx m0 m1_ m2_
  obtain ⟨n0, n1, n2, e4⟩ := ls4_ok fu (.fro (ns.map .int)) l x hl hx m m4
  obtain ⟨n, n3, n4, e5⟩ := ls5_ok fu (.fro (ns.map .int)) l x hx m m3 n0 n1 n2
  obtain ⟨s, o, as, e6⟩ := ls6_ok fu l x ns hl hx m m3 m4 n n3 n4
  have fs := as.fit m4
  have e7 := ls7_ok fu hf (some (.fro (ns.map .int))) (some (drD l)) (some (drD x)) (some (.int m)) (some (enc s)) o n n4
  have e8 := ls8_ok fu (some (.fro (ns.map .int))) (some (drD l)) (some (drD x)) (some (.int m)) (some (.lst o (n.map S))) fs
  cases hb : flt s with
  | some f =>
    have e9 := ls9_bad fu hf (some (.fro (ns.map .int))) (some (drD l)) (some (drD x)) (some (.int m)) (some (.lst o (n.map S))) fs hb
    have hm : m_law fu [some (.fro (ns.map .int)), none, none, none, none, none, none, none, none, none, none, none, none] = .ok (.rt (.bl true)) [some (.fro (ns.map .int)), some (drD l), some (drD x), some (.int m), some (.lst o (n.map S)), some (enc s), some (fltO (flt s)), none, none, none, none, none, none] := by
      rw [m_law_eq, then_ok e0, then_ok e1, then_ok e2, then_ok e3, then_ok e4, then_ok e5, then_ok e6, then_ok e7, then_ok e8, then_rt e9]
    exact ⟨_, run_rt hm rfl⟩
  | none =>
    have e9 := ls9_ok fu (some (.fro (ns.map .int))) (some (drD l)) (some (drD x)) (some (.int m)) (some (.lst o (n.map S))) (some (enc s)) hb
    obtain ⟨t, t1, t2, e10⟩ := ls10_ok fu (some (.fro (ns.map .int))) (some (drD l)) (some (.int m)) (some (.lst o (n.map S))) (some (enc s)) (some .non) x hx
    have ft : Fit t := ⟨by omega, fun k hk => (t2 k hk).gd⟩
    have nt : flt t = none := of_flt (by omega) (badN_nm _ t2)
    have T : Two s t := ⟨fs, ft, hb, nt, by have := (flt_none hb).1; omega⟩
    have e11 := ls11_ok fu hf (some (.fro (ns.map .int))) (some (drD l)) (some (drD x)) (some (.int m)) (some (.lst o (n.map S))) (some .non) (some (enc t)) fs hb
    have e12 := ls12_ok fu hf (some (.fro (ns.map .int))) (some (drD l)) (some (drD x)) (some (.int m)) (some (.lst o (n.map S))) (some (enc s)) (some .non) (some (kindD false s)) ft nt
    have e13 := ls13_ok fu hf ns l x m o n T none none
    obtain ⟨dd, e14⟩ := ls14_ok fu hf ns l x m o n T none
    have e15 := ls15_ok fu hf ns l x m o n T dd none
    have e16 := ls16_ok fu hf ns l x m o n T dd none
    have e17 := ls17_ok fu hf ns l x m o n T dd none as.1 t1
    obtain ⟨vl, e18⟩ := ls18_ok fu hf ns l x m o n T dd none (fun e => by rw [e] at n3; simp at n3; omega)
    have e19 := ls19_ok fu hf ns l x m o n T dd vl
    have hm : m_law fu [some (.fro (ns.map .int)), none, none, none, none, none, none, none, none, none, none, none, none] = .ok (.rt (.bl true)) (EK ns l x m o n s t dd vl) := by
      rw [m_law_eq, then_ok e0, then_ok e1, then_ok e2, then_ok e3, then_ok e4, then_ok e5, then_ok e6, then_ok e7, then_ok e8, then_ok e9, then_ok e10, then_ok e11, then_ok e12, then_ok e13, then_ok e14, then_ok e15, then_ok e16, then_ok e17, then_ok e18]
      exact e19
    exact ⟨_, run_rt hm rfl⟩
theorem law_holds (ns : List Int) (hl : ns.length ≤ 63) : ∃ outs, den_law 100000 [.fro (ns.map .int)] = .ok (.bl true) outs := law_holds2 100000 (by decide) ns
end K78
set_option Elab.async false
set_option linter.all false
set_option maxRecDepth 100000
set_option maxHeartbeats 4000000
namespace K78
open PySem L2 VS
def sp_BadName : SupP := ⟨"self", "name", "name", "bad name", 0, ⟨15, 8, 15, 13⟩, ⟨15, 8, 15, 15⟩, ⟨15, 8, 15, 24⟩, ⟨15, 25, 15, 35⟩, ⟨15, 8, 15, 36⟩, ⟨15, 8, 15, 36⟩, ⟨16, 8, 16, 12⟩, ⟨16, 8, 16, 17⟩, ⟨16, 20, 16, 24⟩, ⟨16, 8, 16, 24⟩⟩
def sp_TooLarge : SupP := ⟨"self", "limit", "limit", "too many items", 0, ⟨7, 8, 7, 13⟩, ⟨7, 8, 7, 15⟩, ⟨7, 8, 7, 24⟩, ⟨7, 25, 7, 41⟩, ⟨7, 8, 7, 42⟩, ⟨7, 8, 7, 42⟩, ⟨8, 8, 8, 12⟩, ⟨8, 8, 8, 18⟩, ⟨8, 21, 8, 26⟩, ⟨8, 8, 8, 26⟩⟩
theorem all_mk {l : PySem.W.OpenLaw} {w : World} {K : PySem.W.Frag} {h : Heap} {mg : Str → Option Value} {fa : Addr} (X : K.In h) (G : h.Ns mainGlobals mg) (hfa : mg "law" = some (.ref fa))
    {a0 a1 a2 a3 a4 p4 a5 p5 a6 a7 a8 a9 a10 a11 a12 a13 a14 a15 a16 a17 a18 a19 a20 a21 a22 a23 a24 a25 a26 a27 a28 a29 a30 a31 cKind cBadName cComesapartError cTooLarge iBadName daBadName ceBadName iTooLarge daTooLarge ceTooLarge : Addr} {oc0 kV0 dc0 pm0 cd0 ct0 oc1 kV1 dc1 pm1 cd1 ct1 oc2 kV2 dc2 pm2 cd2 ct2 oc3 kV3 dc3 pm3 cd3 ct3 oc4 kV4 dc4 pm4 cd4 ct4 oc5 kV5 dc5 pm5 cd5 ct5 oc6 kV6 dc6 pm6 cd6 ct6 oc7 kV7 dc7 pm7 cd7 ct7 oc8 kV8 dc8 pm8 cd8 ct8 oc9 kV9 dc9 pm9 cd9 ct9 oc10 kV10 dc10 pm10 cd10 ct10 oc11 kV11 dc11 pm11 cd11 ct11 oc12 kV12 dc12 pm12 cd12 ct12 oc13 kV13 dc13 pm13 cd13 ct13 oc14 kV14 dc14 pm14 cd14 ct14 oc15 kV15 dc15 pm15 cd15 ct15 oc16 kV16 dc16 pm16 cd16 ct16 oc17 kV17 dc17 pm17 cd17 ct17 oc18 kV18 dc18 pm18 cd18 ct18 oc19 kV19 dc19 pm19 cd19 ct19 oc20 kV20 dc20 pm20 cd20 ct20 oc21 kV21 dc21 pm21 cd21 ct21 oc22 kV22 dc22 pm22 cd22 ct22 oc23 kV23 dc23 pm23 cd23 ct23 oc24 kV24 dc24 pm24 cd24 ct24 oc25 kV25 dc25 pm25 cd25 ct25 oc26 kV26 dc26 pm26 cd26 ct26 oc27 kV27 dc27 pm27 cd27 ct27 oc28 kV28 dc28 pm28 cd28 ct28 oc29 kV29 dc29 pm29 cd29 ct29 oc30 kV30 dc30 pm30 cd30 ct30 oc31 kV31 dc31 pm31 cd31 ct31 wKind_MOST_LETTERS uKind_MOST_LETTERS ocBadName kVBadName dcBadName pmBadName ctBadName ocTooLarge kVTooLarge dcTooLarge pmTooLarge ctTooLarge gALPHABET gMOST_IN_NAME : Value} {od0 an0 od1 an1 od2 an2 od3 an3 od4 an4 od5 an5 od6 an6 od7 an7 od8 an8 od9 an9 od10 an10 od11 an11 od12 an12 od13 an13 od14 an14 od15 an15 od16 an16 od17 an17 od18 an18 od19 an19 od20 an20 od21 an21 od22 an22 od23 an23 od24 an24 od25 an25 od26 an26 od27 an27 od28 an28 od29 an29 od30 an30 od31 an31 odBadName anBadName odTooLarge anTooLarge : Option Addr} {sl0 sl1 sl2 sl3 sl4 sl5 sl6 sl7 sl8 sl9 sl10 sl11 sl12 sl13 sl14 sl15 sl16 sl17 sl18 sl19 sl20 sl21 sl22 sl23 sl24 sl25 sl26 sl27 sl28 sl29 sl30 sl31 slBadName slTooLarge : Array (Option Value)}
    {rs4 : List Value}
    {rs5 : List Value}
    {clBadName : Value} {cldBadName : Option Addr} {vsBadName : Array Value} {ccsBadName : Array (Option Value)} {fileBadName : Str} {tfBadName : Tok} {eclBadName : Value} {ecldBadName : Option Addr} {ecslBadName : Array (Option Value)} {cdtBadName : ClassData}
    {nmBadName qBadName : Str} {NBadName_ : Addr} {bsBadName bmBadName : List Value} {snBadName : List Str} {subBadName : List Value} {abBadName : Bool} {colBadName : Option Bool} {ddBadName : Option Addr} {m0BadName m1BadName m2BadName m3BadName m5BadName : Option Value}
    {clTooLarge : Value} {cldTooLarge : Option Addr} {vsTooLarge : Array Value} {ccsTooLarge : Array (Option Value)} {fileTooLarge : Str} {tfTooLarge : Tok} {eclTooLarge : Value} {ecldTooLarge : Option Addr} {ecslTooLarge : Array (Option Value)} {cdtTooLarge : ClassData}
    {nmTooLarge qTooLarge : Str} {NTooLarge_ : Addr} {bsTooLarge bmTooLarge : List Value} {snTooLarge : List Str} {subTooLarge : List Value} {abTooLarge : Bool} {colTooLarge : Option Bool} {ddTooLarge : Option Addr} {m0TooLarge m1TooLarge m2TooLarge m3TooLarge m5TooLarge : Option Value}
    (NKind : PySem.W.nsIn K mainGlobals "Kind" = some (some (.ref cKind)))
    (NBadName : PySem.W.nsIn K mainGlobals "BadName" = some (some (.ref cBadName)))
    (NComesapartError : PySem.W.nsIn K mainGlobals "ComesapartError" = some (some (.ref cComesapartError)))
    (NTooLarge : PySem.W.nsIn K mainGlobals "TooLarge" = some (some (.ref cTooLarge)))
    (hA0 : PySem.W.nsIn K mainGlobals "is_name" = some (some (.ref a0)))
    (hL0 : K.lookup a0 = some ⟨oc0, od0, .func (PySem.W.fnOf "is_name" "is_name" (defArgs s_is_name) (defBody s_is_name) (defScope s_is_name) .none kV0 dc0 pm0 an0 cd0 ct0), sl0⟩)
    (hC0 : PySem.W.codeIn K cd0 "is_name" = true)
    (hK0 : PySem.W.keepIn K (.ref a0) = true)
    (hA1 : PySem.W.nsIn K mainGlobals "letters_in" = some (some (.ref a1)))
    (hL1 : K.lookup a1 = some ⟨oc1, od1, .func (PySem.W.fnOf "letters_in" "letters_in" (defArgs s_letters_in) (defBody s_letters_in) (defScope s_letters_in) .none kV1 dc1 pm1 an1 cd1 ct1), sl1⟩)
    (hC1 : PySem.W.codeIn K cd1 "letters_in" = true)
    (hK1 : PySem.W.keepIn K (.ref a1) = true)
    (hA2 : PySem.W.nsIn K mainGlobals "opposite_shape" = some (some (.ref a2)))
    (hL2 : K.lookup a2 = some ⟨oc2, od2, .func (PySem.W.fnOf "opposite_shape" "opposite_shape" (defArgs s_opposite_shape) (defBody s_opposite_shape) (defScope s_opposite_shape) .none kV2 dc2 pm2 an2 cd2 ct2), sl2⟩)
    (hC2 : PySem.W.codeIn K cd2 "opposite_shape" = true)
    (hK2 : PySem.W.keepIn K (.ref a2) = true)
    (hA3 : PySem.W.findIn K (.ref cKind) "__init__" = some (some (.ref a3)))
    (hL3 : K.lookup a3 = some ⟨oc3, od3, .func (PySem.W.fnOf "__init__" "Kind.__init__" (defArgs s_Kinddd_initdd) (defBody s_Kinddd_initdd) (defScope s_Kinddd_initdd) .none kV3 dc3 pm3 an3 cd3 ct3), sl3⟩)
    (hC3 : PySem.W.codeIn K cd3 "Kind.__init__" = true)
    (hK3 : PySem.W.keepIn K (.ref a3) = true)
    (hI3 : PySem.W.isFn K (.ref a3) = true)
    (hP4 : PySem.W.findCls K (.ref cKind) (.type "type") "letter" = some (.get (.builtin "classmethod.__get__") (.ref p4) .none (.ref cKind)))
    (hR4 : PySem.W.recIn K p4 "classmethod" = some (.ref a4 :: rs4))
    (hF4 : PySem.W.fnIn K a4 = true)
    (hL4 : K.lookup a4 = some ⟨oc4, od4, .func (PySem.W.fnOf "letter" "Kind.letter" (defArgs s_Kind_letter) (defBody s_Kind_letter) (defScope s_Kind_letter) .none kV4 dc4 pm4 an4 cd4 ct4), sl4⟩)
    (hC4 : PySem.W.codeIn K cd4 "Kind.letter" = true)
    (hK4 : PySem.W.keepIn K (.ref a4) = true)
    (hP5 : PySem.W.findIn K (.ref cKind) "letters" = some (some (.ref p5)))
    (hR5 : PySem.W.recIn K p5 "property" = some (.ref a5 :: rs5))
    (hG5 : PySem.W.specialIn K (.ref p5) "__get__" = some (some (.builtin "property.__get__")))
    (hT5 : PySem.W.takesIn K (.ref p5) = some true)
    (hL5 : K.lookup a5 = some ⟨oc5, od5, .func (PySem.W.fnOf "letters" "Kind.letters" (defArgs s_Kind_letters) (defBody s_Kind_letters) (defScope s_Kind_letters) .none kV5 dc5 pm5 an5 cd5 ct5), sl5⟩)
    (hC5 : PySem.W.codeIn K cd5 "Kind.letters" = true)
    (hK5 : PySem.W.keepIn K (.ref a5) = true)
    (hA6 : PySem.W.findIn K (.ref cKind) "__invert__" = some (some (.ref a6)))
    (hL6 : K.lookup a6 = some ⟨oc6, od6, .func (PySem.W.fnOf "__invert__" "Kind.__invert__" (defArgs s_Kinddd_invertdd) (defBody s_Kinddd_invertdd) (defScope s_Kinddd_invertdd) .none kV6 dc6 pm6 an6 cd6 ct6), sl6⟩)
    (hC6 : PySem.W.codeIn K cd6 "Kind.__invert__" = true)
    (hK6 : PySem.W.keepIn K (.ref a6) = true)
    (hI6 : PySem.W.isFn K (.ref a6) = true)
    (hA7 : PySem.W.findIn K (.ref cKind) "__and__" = some (some (.ref a7)))
    (hL7 : K.lookup a7 = some ⟨oc7, od7, .func (PySem.W.fnOf "__and__" "Kind.__and__" (defArgs s_Kinddd_anddd) (defBody s_Kinddd_anddd) (defScope s_Kinddd_anddd) .none kV7 dc7 pm7 an7 cd7 ct7), sl7⟩)
    (hC7 : PySem.W.codeIn K cd7 "Kind.__and__" = true)
    (hK7 : PySem.W.keepIn K (.ref a7) = true)
    (hI7 : PySem.W.isFn K (.ref a7) = true)
    (hA8 : PySem.W.findIn K (.ref cKind) "__or__" = some (some (.ref a8)))
    (hL8 : K.lookup a8 = some ⟨oc8, od8, .func (PySem.W.fnOf "__or__" "Kind.__or__" (defArgs s_Kinddd_ordd) (defBody s_Kinddd_ordd) (defScope s_Kinddd_ordd) .none kV8 dc8 pm8 an8 cd8 ct8), sl8⟩)
    (hC8 : PySem.W.codeIn K cd8 "Kind.__or__" = true)
    (hK8 : PySem.W.keepIn K (.ref a8) = true)
    (hI8 : PySem.W.isFn K (.ref a8) = true)
    (hA9 : PySem.W.findIn K (.ref cKind) "__rshift__" = some (some (.ref a9)))
    (hL9 : K.lookup a9 = some ⟨oc9, od9, .func (PySem.W.fnOf "__rshift__" "Kind.__rshift__" (defArgs s_Kinddd_rshiftdd) (defBody s_Kinddd_rshiftdd) (defScope s_Kinddd_rshiftdd) .none kV9 dc9 pm9 an9 cd9 ct9), sl9⟩)
    (hC9 : PySem.W.codeIn K cd9 "Kind.__rshift__" = true)
    (hK9 : PySem.W.keepIn K (.ref a9) = true)
    (hI9 : PySem.W.isFn K (.ref a9) = true)
    (hA10 : PySem.W.findIn K (.ref cKind) "__eq__" = some (some (.ref a10)))
    (hL10 : K.lookup a10 = some ⟨oc10, od10, .func (PySem.W.fnOf "__eq__" "Kind.__eq__" (defArgs s_Kinddd_eqdd) (defBody s_Kinddd_eqdd) (defScope s_Kinddd_eqdd) .none kV10 dc10 pm10 an10 cd10 ct10), sl10⟩)
    (hC10 : PySem.W.codeIn K cd10 "Kind.__eq__" = true)
    (hK10 : PySem.W.keepIn K (.ref a10) = true)
    (hI10 : PySem.W.isFn K (.ref a10) = true)
    (hA11 : PySem.W.nsIn K mainGlobals "is_arrow_shape" = some (some (.ref a11)))
    (hL11 : K.lookup a11 = some ⟨oc11, od11, .func (PySem.W.fnOf "is_arrow_shape" "is_arrow_shape" (defArgs s_is_arrow_shape) (defBody s_is_arrow_shape) (defScope s_is_arrow_shape) .none kV11 dc11 pm11 an11 cd11 ct11), sl11⟩)
    (hC11 : PySem.W.codeIn K cd11 "is_arrow_shape" = true)
    (hK11 : PySem.W.keepIn K (.ref a11) = true)
    (hA12 : PySem.W.nsIn K mainGlobals "is_arrow" = some (some (.ref a12)))
    (hL12 : K.lookup a12 = some ⟨oc12, od12, .func (PySem.W.fnOf "is_arrow" "is_arrow" (defArgs s_is_arrow) (defBody s_is_arrow) (defScope s_is_arrow) .none kV12 dc12 pm12 an12 cd12 ct12), sl12⟩)
    (hC12 : PySem.W.codeIn K cd12 "is_arrow" = true)
    (hK12 : PySem.W.keepIn K (.ref a12) = true)
    (hA13 : PySem.W.nsIn K mainGlobals "_law_cell" = some (some (.ref a13)))
    (hL13 : K.lookup a13 = some ⟨oc13, od13, .func (PySem.W.fnOf "_law_cell" "_law_cell" (defArgs s__law_cell) (defBody s__law_cell) (defScope s__law_cell) .none kV13 dc13 pm13 an13 cd13 ct13), sl13⟩)
    (hC13 : PySem.W.codeIn K cd13 "_law_cell" = true)
    (hK13 : PySem.W.keepIn K (.ref a13) = true)
    (hA14 : PySem.W.nsIn K mainGlobals "_law_draws" = some (some (.ref a14)))
    (hL14 : K.lookup a14 = some ⟨oc14, od14, .func (PySem.W.fnOf "_law_draws" "_law_draws" (defArgs s__law_draws) (defBody s__law_draws) (defScope s__law_draws) .none kV14 dc14 pm14 an14 cd14 ct14), sl14⟩)
    (hC14 : PySem.W.codeIn K cd14 "_law_draws" = true)
    (hK14 : PySem.W.keepIn K (.ref a14) = true)
    (hA15 : PySem.W.nsIn K mainGlobals "_law_pick" = some (some (.ref a15)))
    (hL15 : K.lookup a15 = some ⟨oc15, od15, .func (PySem.W.fnOf "_law_pick" "_law_pick" (defArgs s__law_pick) (defBody s__law_pick) (defScope s__law_pick) .none kV15 dc15 pm15 an15 cd15 ct15), sl15⟩)
    (hC15 : PySem.W.codeIn K cd15 "_law_pick" = true)
    (hK15 : PySem.W.keepIn K (.ref a15) = true)
    (hA16 : PySem.W.nsIn K mainGlobals "_law_letters" = some (some (.ref a16)))
    (hL16 : K.lookup a16 = some ⟨oc16, od16, .func (PySem.W.fnOf "_law_letters" "_law_letters" (defArgs s__law_letters) (defBody s__law_letters) (defScope s__law_letters) .none kV16 dc16 pm16 an16 cd16 ct16), sl16⟩)
    (hC16 : PySem.W.codeIn K cd16 "_law_letters" = true)
    (hK16 : PySem.W.keepIn K (.ref a16) = true)
    (hA17 : PySem.W.nsIn K mainGlobals "_law_name" = some (some (.ref a17)))
    (hL17 : K.lookup a17 = some ⟨oc17, od17, .func (PySem.W.fnOf "_law_name" "_law_name" (defArgs s__law_name) (defBody s__law_name) (defScope s__law_name) .none kV17 dc17 pm17 an17 cd17 ct17), sl17⟩)
    (hC17 : PySem.W.codeIn K cd17 "_law_name" = true)
    (hK17 : PySem.W.keepIn K (.ref a17) = true)
    (hA18 : PySem.W.nsIn K mainGlobals "_law_names" = some (some (.ref a18)))
    (hL18 : K.lookup a18 = some ⟨oc18, od18, .func (PySem.W.fnOf "_law_names" "_law_names" (defArgs s__law_names) (defBody s__law_names) (defScope s__law_names) .none kV18 dc18 pm18 an18 cd18 ct18), sl18⟩)
    (hC18 : PySem.W.codeIn K cd18 "_law_names" = true)
    (hK18 : PySem.W.keepIn K (.ref a18) = true)
    (hA19 : PySem.W.nsIn K mainGlobals "_law_shape" = some (some (.ref a19)))
    (hL19 : K.lookup a19 = some ⟨oc19, od19, .func (PySem.W.fnOf "_law_shape" "_law_shape" (defArgs s__law_shape) (defBody s__law_shape) (defScope s__law_shape) .none kV19 dc19 pm19 an19 cd19 ct19), sl19⟩)
    (hC19 : PySem.W.codeIn K cd19 "_law_shape" = true)
    (hK19 : PySem.W.keepIn K (.ref a19) = true)
    (hA20 : PySem.W.nsIn K mainGlobals "_law_opposite" = some (some (.ref a20)))
    (hL20 : K.lookup a20 = some ⟨oc20, od20, .func (PySem.W.fnOf "_law_opposite" "_law_opposite" (defArgs s__law_opposite) (defBody s__law_opposite) (defScope s__law_opposite) .none kV20 dc20 pm20 an20 cd20 ct20), sl20⟩)
    (hC20 : PySem.W.codeIn K cd20 "_law_opposite" = true)
    (hK20 : PySem.W.keepIn K (.ref a20) = true)
    (hA21 : PySem.W.nsIn K mainGlobals "_law_arrow" = some (some (.ref a21)))
    (hL21 : K.lookup a21 = some ⟨oc21, od21, .func (PySem.W.fnOf "_law_arrow" "_law_arrow" (defArgs s__law_arrow) (defBody s__law_arrow) (defScope s__law_arrow) .none kV21 dc21 pm21 an21 cd21 ct21), sl21⟩)
    (hC21 : PySem.W.codeIn K cd21 "_law_arrow" = true)
    (hK21 : PySem.W.keepIn K (.ref a21) = true)
    (hA22 : PySem.W.nsIn K mainGlobals "_law_changed" = some (some (.ref a22)))
    (hL22 : K.lookup a22 = some ⟨oc22, od22, .func (PySem.W.fnOf "_law_changed" "_law_changed" (defArgs s__law_changed) (defBody s__law_changed) (defScope s__law_changed) .none kV22 dc22 pm22 an22 cd22 ct22), sl22⟩)
    (hC22 : PySem.W.codeIn K cd22 "_law_changed" = true)
    (hK22 : PySem.W.keepIn K (.ref a22) = true)
    (hA23 : PySem.W.nsIn K mainGlobals "_law_due_arrow" = some (some (.ref a23)))
    (hL23 : K.lookup a23 = some ⟨oc23, od23, .func (PySem.W.fnOf "_law_due_arrow" "_law_due_arrow" (defArgs s__law_due_arrow) (defBody s__law_due_arrow) (defScope s__law_due_arrow) .none kV23 dc23 pm23 an23 cd23 ct23), sl23⟩)
    (hC23 : PySem.W.codeIn K cd23 "_law_due_arrow" = true)
    (hK23 : PySem.W.keepIn K (.ref a23) = true)
    (hA24 : PySem.W.nsIn K mainGlobals "_law_spoilt" = some (some (.ref a24)))
    (hL24 : K.lookup a24 = some ⟨oc24, od24, .func (PySem.W.fnOf "_law_spoilt" "_law_spoilt" (defArgs s__law_spoilt) (defBody s__law_spoilt) (defScope s__law_spoilt) .none kV24 dc24 pm24 an24 cd24 ct24), sl24⟩)
    (hC24 : PySem.W.codeIn K cd24 "_law_spoilt" = true)
    (hK24 : PySem.W.keepIn K (.ref a24) = true)
    (hA25 : PySem.W.nsIn K mainGlobals "_law_bad" = some (some (.ref a25)))
    (hL25 : K.lookup a25 = some ⟨oc25, od25, .func (PySem.W.fnOf "_law_bad" "_law_bad" (defArgs s__law_bad) (defBody s__law_bad) (defScope s__law_bad) .none kV25 dc25 pm25 an25 cd25 ct25), sl25⟩)
    (hC25 : PySem.W.codeIn K cd25 "_law_bad" = true)
    (hK25 : PySem.W.keepIn K (.ref a25) = true)
    (hA26 : PySem.W.nsIn K mainGlobals "_law_fault" = some (some (.ref a26)))
    (hL26 : K.lookup a26 = some ⟨oc26, od26, .func (PySem.W.fnOf "_law_fault" "_law_fault" (defArgs s__law_fault) (defBody s__law_fault) (defScope s__law_fault) .none kV26 dc26 pm26 an26 cd26 ct26), sl26⟩)
    (hC26 : PySem.W.codeIn K cd26 "_law_fault" = true)
    (hK26 : PySem.W.keepIn K (.ref a26) = true)
    (hA27 : PySem.W.nsIn K mainGlobals "_law_made" = some (some (.ref a27)))
    (hL27 : K.lookup a27 = some ⟨oc27, od27, .func (PySem.W.fnOf "_law_made" "_law_made" (defArgs s__law_made) (defBody s__law_made) (defScope s__law_made) .none kV27 dc27 pm27 an27 cd27 ct27), sl27⟩)
    (hC27 : PySem.W.codeIn K cd27 "_law_made" = true)
    (hK27 : PySem.W.keepIn K (.ref a27) = true)
    (hA28 : PySem.W.nsIn K mainGlobals "_law_due" = some (some (.ref a28)))
    (hL28 : K.lookup a28 = some ⟨oc28, od28, .func (PySem.W.fnOf "_law_due" "_law_due" (defArgs s__law_due) (defBody s__law_due) (defScope s__law_due) .none kV28 dc28 pm28 an28 cd28 ct28), sl28⟩)
    (hC28 : PySem.W.codeIn K cd28 "_law_due" = true)
    (hK28 : PySem.W.keepIn K (.ref a28) = true)
    (hA29 : PySem.W.nsIn K mainGlobals "_law_fields" = some (some (.ref a29)))
    (hL29 : K.lookup a29 = some ⟨oc29, od29, .func (PySem.W.fnOf "_law_fields" "_law_fields" (defArgs s__law_fields) (defBody s__law_fields) (defScope s__law_fields) .none kV29 dc29 pm29 an29 cd29 ct29), sl29⟩)
    (hC29 : PySem.W.codeIn K cd29 "_law_fields" = true)
    (hK29 : PySem.W.keepIn K (.ref a29) = true)
    (hA30 : PySem.W.nsIn K mainGlobals "_law_names_made" = some (some (.ref a30)))
    (hL30 : K.lookup a30 = some ⟨oc30, od30, .func (PySem.W.fnOf "_law_names_made" "_law_names_made" (defArgs s__law_names_made) (defBody s__law_names_made) (defScope s__law_names_made) .none kV30 dc30 pm30 an30 cd30 ct30), sl30⟩)
    (hC30 : PySem.W.codeIn K cd30 "_law_names_made" = true)
    (hK30 : PySem.W.keepIn K (.ref a30) = true)
    (hA31 : PySem.W.nsIn K mainGlobals "law" = some (some (.ref a31)))
    (hL31 : K.lookup a31 = some ⟨oc31, od31, .func (PySem.W.fnOf "law" "law" (defArgs s_law) (defBody s_law) (defScope s_law) .none kV31 dc31 pm31 an31 cd31 ct31), sl31⟩)
    (hC31 : PySem.W.codeIn K cd31 "law" = true)
    (hK31 : PySem.W.keepIn K (.ref a31) = true)
    (sfKind : PySem.W.selfFirst K cKind = true)
    (enKind_0 : PySem.W.notFirst K cKind (.ref cKind) = true)
    (enKind_1 : PySem.W.notFirst K cKind (.type "NoneType") = true)
    (ebKind_1 : PySem.W.subIn K (.ref cKind) (.type "NoneType") = some false)
    (enKind_2 : PySem.W.notFirst K cKind (.type "int") = true)
    (ebKind_2 : PySem.W.subIn K (.ref cKind) (.type "int") = some false)
    (enKind_3 : PySem.W.notFirst K cKind (.type "str") = true)
    (ebKind_3 : PySem.W.subIn K (.ref cKind) (.type "str") = some false)
    (enKind_4 : PySem.W.notFirst K cKind (.type "tuple") = true)
    (ebKind_4 : PySem.W.subIn K (.ref cKind) (.type "tuple") = some false)
    (rdKind : PySem.W.readsIn K cKind (.type "type") = true)
    (gaKind : PySem.W.specialIn K (.ref cKind) "__getattribute__" = some (some (.builtin "type.__getattribute__")))
    (wfKind_MOST_LETTERS : PySem.W.findCls K (.ref cKind) (.type "type") "MOST_LETTERS" = some (.val wKind_MOST_LETTERS))
    (wrKind_MOST_LETTERS : RelV (.int 40) wKind_MOST_LETTERS)
    (pgKind : PySem.W.plainGet K cKind Str.empty = true)
    (hdKind : PySem.W.hasDictIn K cKind = true)
    (poKind : PySem.W.plainOver K cKind = true)
    (saKind : PySem.W.findIn K (.ref cKind) "__setattr__" = some (some (.builtin "object.__setattr__")))
    (mkKind : PySem.W.makesIn K cKind = true)
    (kcKind : PySem.W.keepIn K (.ref cKind) = true)
    (hcKind : PySem.W.findIn K (.ref cKind) "__class__" = some (some (.builtin "object.__class__")))
    (moKind : PySem.W.mroIn K cKind (.type "object") = some true)
    (nfKind_shape : PySem.W.findIn K (.ref cKind) "shape" = some none)
    (cfKind_MOST_LETTERS : PySem.W.findIn K (.ref cKind) "MOST_LETTERS" = some (some uKind_MOST_LETTERS))
    (cgKind_MOST_LETTERS : PySem.W.specialIn K uKind_MOST_LETTERS "__get__" = some none)
    (crKind_MOST_LETTERS : RelV (.int 40) uKind_MOST_LETTERS)
    (GS : PySem.W.specialIn K (.builtin "object.__class__") "__get__" = some (some (.builtin "getset_descriptor.__get__")))
    (GT : PySem.W.takesIn K (.builtin "object.__class__") = some true)
    (isKind_0 : PySem.W.kitOne K (.type "NoneType") (.ref cKind) = some false)
    (isKind_1 : PySem.W.kitOne K (.type "bool") (.ref cKind) = some false)
    (isKind_2 : PySem.W.kitOne K (.type "int") (.ref cKind) = some false)
    (isKind_3 : PySem.W.kitOne K (.type "str") (.ref cKind) = some false)
    (isKind_4 : PySem.W.kitOne K (.type "list") (.ref cKind) = some false)
    (isKind_5 : PySem.W.kitOne K (.type "tuple") (.ref cKind) = some false)
    (isKind_6 : PySem.W.kitOne K (.type "dict") (.ref cKind) = some false)
    (isKind_7 : PySem.W.kitOne K (.ref cKind) (.ref cKind) = some true)
    (isbool_0 : PySem.W.kitOne K (.type "NoneType") (.type "bool") = some false)
    (isbool_1 : PySem.W.kitOne K (.type "bool") (.type "bool") = some true)
    (isbool_2 : PySem.W.kitOne K (.type "int") (.type "bool") = some false)
    (isbool_3 : PySem.W.kitOne K (.type "str") (.type "bool") = some false)
    (isbool_4 : PySem.W.kitOne K (.type "list") (.type "bool") = some false)
    (isbool_5 : PySem.W.kitOne K (.type "tuple") (.type "bool") = some false)
    (isbool_6 : PySem.W.kitOne K (.type "dict") (.type "bool") = some false)
    (isbool_7 : PySem.W.kitOne K (.ref cKind) (.type "bool") = some false)
    (istuple_0 : PySem.W.kitOne K (.type "NoneType") (.type "tuple") = some false)
    (istuple_1 : PySem.W.kitOne K (.type "bool") (.type "tuple") = some false)
    (istuple_2 : PySem.W.kitOne K (.type "int") (.type "tuple") = some false)
    (istuple_3 : PySem.W.kitOne K (.type "str") (.type "tuple") = some false)
    (istuple_4 : PySem.W.kitOne K (.type "list") (.type "tuple") = some false)
    (istuple_5 : PySem.W.kitOne K (.type "tuple") (.type "tuple") = some true)
    (istuple_6 : PySem.W.kitOne K (.type "dict") (.type "tuple") = some false)
    (istuple_7 : PySem.W.kitOne K (.ref cKind) (.type "tuple") = some false)
    (xIBadName : PySem.W.findIn K (.ref cBadName) "__init__" = some (some (.ref iBadName)))
    (xtBadName : PySem.W.typeIn K (.ref iBadName) = some (.type "function"))
    (xlBadName : K.lookup iBadName = some ⟨ocBadName, odBadName, .func (PySem.W.ksFn "__init__" "BadName.__init__" (defArgs (inClass (top 6) 0)) (defBody (inClass (top 6) 0)) (defScope (inClass (top 6) 0)) .none kVBadName dcBadName pmBadName anBadName (.ref daBadName) ctBadName ceBadName), slBadName⟩)
    (xcBadName : PySem.W.codeIn K (.ref daBadName) "BadName.__init__" = true)
    (xdBadName : K.lookup daBadName = some ⟨clBadName, cldBadName, .fields vsBadName, ccsBadName⟩)
    (xvBadName : vsBadName[2]? = some (.str fileBadName tfBadName))
    (xwBadName : ((l.prog.main.file : Str) == fileBadName) = true)
    (xeBadName : K.lookup ceBadName = some ⟨eclBadName, ecldBadName, .cell (some (.ref cBadName)), ecslBadName⟩)
    (xKBadName : PySem.W.clsIn K cBadName = some cdtBadName)
    (xmBadName : PySem.HandSPX.refsVE cdtBadName.mro = true)
    (xhBadName : cdtBadName.hasDict = true)
    (xuBadName : PySem.W.ks_superIn K cBadName cBadName "__init__" = some (some (.builtin "ValueError.__init__")))
    (xsBadName : PySem.W.mroIn K cBadName (.ref cBadName) = some true)
    (xyBadName : PySem.W.subIn K (.ref cBadName) (.type "ValueError") = some true)
    (xnBadName : PySem.W.excInitIn K cBadName PySem.HandSPX.veTail "ValueError.__new__" = true)
    (xfBadName : PySem.W.findIn K (.ref cBadName) "name" = some none)
    (xaBadName : PySem.W.findIn K (.ref cBadName) "__setattr__" = some (some (.builtin "object.__setattr__")))
    (xoBadName : K.lookup cBadName = some (PySem.excClassObj nmBadName qBadName cBadName NBadName_ bsBadName bmBadName true snBadName subBadName abBadName colBadName ddBadName m0BadName m1BadName m2BadName m3BadName m5BadName "ValueError.__new__"))
    (xpBadName : PySem.HandSPX.refsVE bmBadName = true)
    (xbBadName : PySem.W.subIn K (.ref cBadName) (.type "BaseException") = some true)
    (xTBadName : PySem.W.typeIn K (.ref cBadName) = some (.type "type"))
    (xkBadName : PySem.W.keepIn K (.ref cBadName) = true)
    (xgBadName : PySem.W.findIn K (.ref cBadName) "__getattribute__" = some (some (.builtin "BaseException.__getattribute__")))
    (xGBadName : PySem.W.findIn K (.ref cBadName) "__getattr__" = some none)
    (xDBadName : PySem.W.hasDictIn K cBadName = true)
    (xCBadName : PySem.W.findIn K (.ref cBadName) "__class__" = some (some (.builtin "object.__class__")))
    (xOBadName : PySem.W.mroIn K cBadName (.type "object") = some true)
    (xrBadName_ComesapartError : PySem.W.subIn K (.ref cBadName) (.ref cComesapartError) = some true)
    (xqBadName_BadName : PySem.W.kitOne K (.ref cBadName) (.ref cBadName) = some true)
    (xqBadName_TooLarge : PySem.W.kitOne K (.ref cBadName) (.ref cTooLarge) = some false)
    (xqBadName_ValueError : PySem.W.kitOne K (.ref cBadName) (.type "ValueError") = some true)
    (xITooLarge : PySem.W.findIn K (.ref cTooLarge) "__init__" = some (some (.ref iTooLarge)))
    (xtTooLarge : PySem.W.typeIn K (.ref iTooLarge) = some (.type "function"))
    (xlTooLarge : K.lookup iTooLarge = some ⟨ocTooLarge, odTooLarge, .func (PySem.W.ksFn "__init__" "TooLarge.__init__" (defArgs (inClass (top 2) 0)) (defBody (inClass (top 2) 0)) (defScope (inClass (top 2) 0)) .none kVTooLarge dcTooLarge pmTooLarge anTooLarge (.ref daTooLarge) ctTooLarge ceTooLarge), slTooLarge⟩)
    (xcTooLarge : PySem.W.codeIn K (.ref daTooLarge) "TooLarge.__init__" = true)
    (xdTooLarge : K.lookup daTooLarge = some ⟨clTooLarge, cldTooLarge, .fields vsTooLarge, ccsTooLarge⟩)
    (xvTooLarge : vsTooLarge[2]? = some (.str fileTooLarge tfTooLarge))
    (xwTooLarge : ((l.prog.main.file : Str) == fileTooLarge) = true)
    (xeTooLarge : K.lookup ceTooLarge = some ⟨eclTooLarge, ecldTooLarge, .cell (some (.ref cTooLarge)), ecslTooLarge⟩)
    (xKTooLarge : PySem.W.clsIn K cTooLarge = some cdtTooLarge)
    (xmTooLarge : PySem.HandSPX.refsVE cdtTooLarge.mro = true)
    (xhTooLarge : cdtTooLarge.hasDict = true)
    (xuTooLarge : PySem.W.ks_superIn K cTooLarge cTooLarge "__init__" = some (some (.builtin "ValueError.__init__")))
    (xsTooLarge : PySem.W.mroIn K cTooLarge (.ref cTooLarge) = some true)
    (xyTooLarge : PySem.W.subIn K (.ref cTooLarge) (.type "ValueError") = some true)
    (xnTooLarge : PySem.W.excInitIn K cTooLarge PySem.HandSPX.veTail "ValueError.__new__" = true)
    (xfTooLarge : PySem.W.findIn K (.ref cTooLarge) "limit" = some none)
    (xaTooLarge : PySem.W.findIn K (.ref cTooLarge) "__setattr__" = some (some (.builtin "object.__setattr__")))
    (xoTooLarge : K.lookup cTooLarge = some (PySem.excClassObj nmTooLarge qTooLarge cTooLarge NTooLarge_ bsTooLarge bmTooLarge true snTooLarge subTooLarge abTooLarge colTooLarge ddTooLarge m0TooLarge m1TooLarge m2TooLarge m3TooLarge m5TooLarge "ValueError.__new__"))
    (xpTooLarge : PySem.HandSPX.refsVE bmTooLarge = true)
    (xbTooLarge : PySem.W.subIn K (.ref cTooLarge) (.type "BaseException") = some true)
    (xTTooLarge : PySem.W.typeIn K (.ref cTooLarge) = some (.type "type"))
    (xkTooLarge : PySem.W.keepIn K (.ref cTooLarge) = true)
    (xgTooLarge : PySem.W.findIn K (.ref cTooLarge) "__getattribute__" = some (some (.builtin "BaseException.__getattribute__")))
    (xGTooLarge : PySem.W.findIn K (.ref cTooLarge) "__getattr__" = some none)
    (xDTooLarge : PySem.W.hasDictIn K cTooLarge = true)
    (xCTooLarge : PySem.W.findIn K (.ref cTooLarge) "__class__" = some (some (.builtin "object.__class__")))
    (xOTooLarge : PySem.W.mroIn K cTooLarge (.type "object") = some true)
    (xrTooLarge_ComesapartError : PySem.W.subIn K (.ref cTooLarge) (.ref cComesapartError) = some true)
    (xqTooLarge_BadName : PySem.W.kitOne K (.ref cTooLarge) (.ref cBadName) = some false)
    (xqTooLarge_TooLarge : PySem.W.kitOne K (.ref cTooLarge) (.ref cTooLarge) = some true)
    (xqTooLarge_ValueError : PySem.W.kitOne K (.ref cTooLarge) (.type "ValueError") = some true)
    (ZS : PySem.W.nsIn K mainGlobals "super" = some none)
    (ZA : PySem.W.nsIn K cStatics "thirdparty.any" = some none)
    (ZT : (l.prog.main.scope.names.lookup ("super" : Str)).isSome = false)
    (tbComesapartError : PySem.W.subIn K (.ref cComesapartError) (.type "BaseException") = some true)
    (tdComesapartError : PySem.W.hasDictIn K cComesapartError = true)
    (ttComesapartError : PySem.W.typeIn K (.ref cComesapartError) = some (.type "type"))
    (Z_ValueError : PySem.W.nsIn K mainGlobals "ValueError" = some none)
    (Z_abs : PySem.W.nsIn K mainGlobals "abs" = some none)
    (Z_all : PySem.W.nsIn K mainGlobals "all" = some none)
    (Z_bool : PySem.W.nsIn K mainGlobals "bool" = some none)
    (Z_int : PySem.W.nsIn K mainGlobals "int" = some none)
    (Z_isinstance : PySem.W.nsIn K mainGlobals "isinstance" = some none)
    (Z_len : PySem.W.nsIn K mainGlobals "len" = some none)
    (Z_list : PySem.W.nsIn K mainGlobals "list" = some none)
    (Z_range : PySem.W.nsIn K mainGlobals "range" = some none)
    (Z_tuple : PySem.W.nsIn K mainGlobals "tuple" = some none)
    (g_ALPHABET : PySem.W.nsIn K mainGlobals "ALPHABET" = some (some gALPHABET))
    (r_ALPHABET : RelV (.str "abcdefghijklmnopqrstuvwxyz") gALPHABET)
    (g_MOST_IN_NAME : PySem.W.nsIn K mainGlobals "MOST_IN_NAME" = some (some gMOST_IN_NAME))
    (r_MOST_IN_NAME : RelV (.int 8) gMOST_IN_NAME)
    : ∃ fd : FuncData, (∀ (s : Shared) (v : Value), BindsTo s fd ⟨[v], []⟩ [("script", v)]) ∧ ∀ base : Heap, K.In base → base.Ns mainGlobals mg → FnOk l.prog w K mg base (L2.CX l.prog w) 65 fa fd ["script"] (spLaw K) := by
  have e := hfa.symm.trans (PySem.W.mg_of X G hA31)
  have e2 : a31 = fa := by cases e; rfl
  subst e2
  have hbBadName : ∀ us : List Value, us.length = 2 → bindArgs (PySem.W.ksFn "__init__" "BadName.__init__" (defArgs (inClass (top 6) 0)) (defBody (inClass (top 6) 0)) (defScope (inClass (top 6) 0)) .none kVBadName dcBadName pmBadName anBadName (.ref daBadName) ctBadName ceBadName) ⟨us, []⟩ = pure ((["self", "name"] : List Str).zip us) := fun us hl => match us, hl with | [_, _], _ => by rfl
  have XBadName : XC l.prog K cBadName iBadName sp_BadName (PySem.W.ksFn "__init__" "BadName.__init__" (defArgs (inClass (top 6) 0)) (defBody (inClass (top 6) 0)) (defScope (inClass (top 6) 0)) .none kVBadName dcBadName pmBadName anBadName (.ref daBadName) ctBadName ceBadName) daBadName ceBadName := {
    s := { fn := ⟨_, _, _, xlBadName⟩, body := rfl, ev := fun L => ⟨_, rfl⟩, st := fun L => rfl, ia := fun L => rfl, sw1 := fun L => rfl, sw2 := fun L => rfl, code := rfl, codeR := xcBadName, clo := rfl, glob := rfl, blt := rfl, frst := ⟨_, rfl, rfl⟩, binds := hbBadName, ne := by decide +kernel, file := ⟨_, _, _, _, _, _, xdBadName, xvBadName, xwBadName⟩, cell := ⟨_, _, _, xeBadName⟩, cls := ⟨_, xKBadName, xmBadName, xhBadName⟩, up := xuBadName, selfC := xsBadName, sup := ZS, ks := rfl, kc := rfl, kn := rfl, kx := rfl, kind := rfl, co := rfl, gen := rfl, cells := (by show ∀ y ∈ (defScope (inClass (top 6) 0)).names, y.2 ≠ NameKind.cell; decide +kernel), top := ZT, dbg := ⟨by decide +kernel, by decide +kernel⟩, any := ZA, ve := xyBadName, init := xnBadName, nof := xfBadName, sa := xaBadName }
    o := ⟨⟨_, _, _, _, _, _, _, _, _, _, _, _, _, _, _, xoBadName, xpBadName⟩, xaBadName, xbBadName, xTBadName, xkBadName⟩
    i := xIBadName
    t := xtBadName }
  have hbTooLarge : ∀ us : List Value, us.length = 2 → bindArgs (PySem.W.ksFn "__init__" "TooLarge.__init__" (defArgs (inClass (top 2) 0)) (defBody (inClass (top 2) 0)) (defScope (inClass (top 2) 0)) .none kVTooLarge dcTooLarge pmTooLarge anTooLarge (.ref daTooLarge) ctTooLarge ceTooLarge) ⟨us, []⟩ = pure ((["self", "limit"] : List Str).zip us) := fun us hl => match us, hl with | [_, _], _ => by rfl
  have XTooLarge : XC l.prog K cTooLarge iTooLarge sp_TooLarge (PySem.W.ksFn "__init__" "TooLarge.__init__" (defArgs (inClass (top 2) 0)) (defBody (inClass (top 2) 0)) (defScope (inClass (top 2) 0)) .none kVTooLarge dcTooLarge pmTooLarge anTooLarge (.ref daTooLarge) ctTooLarge ceTooLarge) daTooLarge ceTooLarge := {
    s := { fn := ⟨_, _, _, xlTooLarge⟩, body := rfl, ev := fun L => ⟨_, rfl⟩, st := fun L => rfl, ia := fun L => rfl, sw1 := fun L => rfl, sw2 := fun L => rfl, code := rfl, codeR := xcTooLarge, clo := rfl, glob := rfl, blt := rfl, frst := ⟨_, rfl, rfl⟩, binds := hbTooLarge, ne := by decide +kernel, file := ⟨_, _, _, _, _, _, xdTooLarge, xvTooLarge, xwTooLarge⟩, cell := ⟨_, _, _, xeTooLarge⟩, cls := ⟨_, xKTooLarge, xmTooLarge, xhTooLarge⟩, up := xuTooLarge, selfC := xsTooLarge, sup := ZS, ks := rfl, kc := rfl, kn := rfl, kx := rfl, kind := rfl, co := rfl, gen := rfl, cells := (by show ∀ y ∈ (defScope (inClass (top 2) 0)).names, y.2 ≠ NameKind.cell; decide +kernel), top := ZT, dbg := ⟨by decide +kernel, by decide +kernel⟩, any := ZA, ve := xyTooLarge, init := xnTooLarge, nof := xfTooLarge, sa := xaTooLarge }
    o := ⟨⟨_, _, _, _, _, _, _, _, _, _, _, _, _, _, _, xoTooLarge, xpTooLarge⟩, xaTooLarge, xbTooLarge, xTTooLarge, xkTooLarge⟩
    i := xITooLarge
    t := xtTooLarge }
  let A : Ad := { a_is_name := a0, f_is_name := PySem.W.fnOf "is_name" "is_name" (defArgs s_is_name) (defBody s_is_name) (defScope s_is_name) .none kV0 dc0 pm0 an0 cd0 ct0, a_letters_in := a1, f_letters_in := PySem.W.fnOf "letters_in" "letters_in" (defArgs s_letters_in) (defBody s_letters_in) (defScope s_letters_in) .none kV1 dc1 pm1 an1 cd1 ct1, a_opposite_shape := a2, f_opposite_shape := PySem.W.fnOf "opposite_shape" "opposite_shape" (defArgs s_opposite_shape) (defBody s_opposite_shape) (defScope s_opposite_shape) .none kV2 dc2 pm2 an2 cd2 ct2, a_Kinddd_initdd := a3, f_Kinddd_initdd := PySem.W.fnOf "__init__" "Kind.__init__" (defArgs s_Kinddd_initdd) (defBody s_Kinddd_initdd) (defScope s_Kinddd_initdd) .none kV3 dc3 pm3 an3 cd3 ct3, a_Kind_letter := a4, f_Kind_letter := PySem.W.fnOf "letter" "Kind.letter" (defArgs s_Kind_letter) (defBody s_Kind_letter) (defScope s_Kind_letter) .none kV4 dc4 pm4 an4 cd4 ct4, a_Kind_letters := a5, f_Kind_letters := PySem.W.fnOf "letters" "Kind.letters" (defArgs s_Kind_letters) (defBody s_Kind_letters) (defScope s_Kind_letters) .none kV5 dc5 pm5 an5 cd5 ct5, a_Kinddd_invertdd := a6, f_Kinddd_invertdd := PySem.W.fnOf "__invert__" "Kind.__invert__" (defArgs s_Kinddd_invertdd) (defBody s_Kinddd_invertdd) (defScope s_Kinddd_invertdd) .none kV6 dc6 pm6 an6 cd6 ct6, a_Kinddd_anddd := a7, f_Kinddd_anddd := PySem.W.fnOf "__and__" "Kind.__and__" (defArgs s_Kinddd_anddd) (defBody s_Kinddd_anddd) (defScope s_Kinddd_anddd) .none kV7 dc7 pm7 an7 cd7 ct7, a_Kinddd_ordd := a8, f_Kinddd_ordd := PySem.W.fnOf "__or__" "Kind.__or__" (defArgs s_Kinddd_ordd) (defBody s_Kinddd_ordd) (defScope s_Kinddd_ordd) .none kV8 dc8 pm8 an8 cd8 ct8, a_Kinddd_rshiftdd := a9, f_Kinddd_rshiftdd := PySem.W.fnOf "__rshift__" "Kind.__rshift__" (defArgs s_Kinddd_rshiftdd) (defBody s_Kinddd_rshiftdd) (defScope s_Kinddd_rshiftdd) .none kV9 dc9 pm9 an9 cd9 ct9, a_Kinddd_eqdd := a10, f_Kinddd_eqdd := PySem.W.fnOf "__eq__" "Kind.__eq__" (defArgs s_Kinddd_eqdd) (defBody s_Kinddd_eqdd) (defScope s_Kinddd_eqdd) .none kV10 dc10 pm10 an10 cd10 ct10, a_is_arrow_shape := a11, f_is_arrow_shape := PySem.W.fnOf "is_arrow_shape" "is_arrow_shape" (defArgs s_is_arrow_shape) (defBody s_is_arrow_shape) (defScope s_is_arrow_shape) .none kV11 dc11 pm11 an11 cd11 ct11, a_is_arrow := a12, f_is_arrow := PySem.W.fnOf "is_arrow" "is_arrow" (defArgs s_is_arrow) (defBody s_is_arrow) (defScope s_is_arrow) .none kV12 dc12 pm12 an12 cd12 ct12, a__law_cell := a13, f__law_cell := PySem.W.fnOf "_law_cell" "_law_cell" (defArgs s__law_cell) (defBody s__law_cell) (defScope s__law_cell) .none kV13 dc13 pm13 an13 cd13 ct13, a__law_draws := a14, f__law_draws := PySem.W.fnOf "_law_draws" "_law_draws" (defArgs s__law_draws) (defBody s__law_draws) (defScope s__law_draws) .none kV14 dc14 pm14 an14 cd14 ct14, a__law_pick := a15, f__law_pick := PySem.W.fnOf "_law_pick" "_law_pick" (defArgs s__law_pick) (defBody s__law_pick) (defScope s__law_pick) .none kV15 dc15 pm15 an15 cd15 ct15, a__law_letters := a16, f__law_letters := PySem.W.fnOf "_law_letters" "_law_letters" (defArgs s__law_letters) (defBody s__law_letters) (defScope s__law_letters) .none kV16 dc16 pm16 an16 cd16 ct16, a__law_name := a17, f__law_name := PySem.W.fnOf "_law_name" "_law_name" (defArgs s__law_name) (defBody s__law_name) (defScope s__law_name) .none kV17 dc17 pm17 an17 cd17 ct17, a__law_names := a18, f__law_names := PySem.W.fnOf "_law_names" "_law_names" (defArgs s__law_names) (defBody s__law_names) (defScope s__law_names) .none kV18 dc18 pm18 an18 cd18 ct18, a__law_shape := a19, f__law_shape := PySem.W.fnOf "_law_shape" "_law_shape" (defArgs s__law_shape) (defBody s__law_shape) (defScope s__law_shape) .none kV19 dc19 pm19 an19 cd19 ct19, a__law_opposite := a20, f__law_opposite := PySem.W.fnOf "_law_opposite" "_law_opposite" (defArgs s__law_opposite) (defBody s__law_opposite) (defScope s__law_opposite) .none kV20 dc20 pm20 an20 cd20 ct20, a__law_arrow := a21, f__law_arrow := PySem.W.fnOf "_law_arrow" "_law_arrow" (defArgs s__law_arrow) (defBody s__law_arrow) (defScope s__law_arrow) .none kV21 dc21 pm21 an21 cd21 ct21, a__law_changed := a22, f__law_changed := PySem.W.fnOf "_law_changed" "_law_changed" (defArgs s__law_changed) (defBody s__law_changed) (defScope s__law_changed) .none kV22 dc22 pm22 an22 cd22 ct22, a__law_due_arrow := a23, f__law_due_arrow := PySem.W.fnOf "_law_due_arrow" "_law_due_arrow" (defArgs s__law_due_arrow) (defBody s__law_due_arrow) (defScope s__law_due_arrow) .none kV23 dc23 pm23 an23 cd23 ct23, a__law_spoilt := a24, f__law_spoilt := PySem.W.fnOf "_law_spoilt" "_law_spoilt" (defArgs s__law_spoilt) (defBody s__law_spoilt) (defScope s__law_spoilt) .none kV24 dc24 pm24 an24 cd24 ct24, a__law_bad := a25, f__law_bad := PySem.W.fnOf "_law_bad" "_law_bad" (defArgs s__law_bad) (defBody s__law_bad) (defScope s__law_bad) .none kV25 dc25 pm25 an25 cd25 ct25, a__law_fault := a26, f__law_fault := PySem.W.fnOf "_law_fault" "_law_fault" (defArgs s__law_fault) (defBody s__law_fault) (defScope s__law_fault) .none kV26 dc26 pm26 an26 cd26 ct26, a__law_made := a27, f__law_made := PySem.W.fnOf "_law_made" "_law_made" (defArgs s__law_made) (defBody s__law_made) (defScope s__law_made) .none kV27 dc27 pm27 an27 cd27 ct27, a__law_due := a28, f__law_due := PySem.W.fnOf "_law_due" "_law_due" (defArgs s__law_due) (defBody s__law_due) (defScope s__law_due) .none kV28 dc28 pm28 an28 cd28 ct28, a__law_fields := a29, f__law_fields := PySem.W.fnOf "_law_fields" "_law_fields" (defArgs s__law_fields) (defBody s__law_fields) (defScope s__law_fields) .none kV29 dc29 pm29 an29 cd29 ct29, a__law_names_made := a30, f__law_names_made := PySem.W.fnOf "_law_names_made" "_law_names_made" (defArgs s__law_names_made) (defBody s__law_names_made) (defScope s__law_names_made) .none kV30 dc30 pm30 an30 cd30 ct30, a_law := a31, f_law := PySem.W.fnOf "law" "law" (defArgs s_law) (defBody s_law) (defScope s_law) .none kV31 dc31 pm31 an31 cd31 ct31, c_Kind := cKind, c_BadName := cBadName, c_ComesapartError := cComesapartError, c_TooLarge := cTooLarge, i_BadName := iBadName, fi_BadName := PySem.W.ksFn "__init__" "BadName.__init__" (defArgs (inClass (top 6) 0)) (defBody (inClass (top 6) 0)) (defScope (inClass (top 6) 0)) .none kVBadName dcBadName pmBadName anBadName (.ref daBadName) ctBadName ceBadName, cd_BadName := daBadName, cc_BadName := ceBadName, sp_BadName := sp_BadName, i_TooLarge := iTooLarge, fi_TooLarge := PySem.W.ksFn "__init__" "TooLarge.__init__" (defArgs (inClass (top 2) 0)) (defBody (inClass (top 2) 0)) (defScope (inClass (top 2) 0)) .none kVTooLarge dcTooLarge pmTooLarge anTooLarge (.ref daTooLarge) ctTooLarge ceTooLarge, cd_TooLarge := daTooLarge, cc_TooLarge := ceTooLarge, sp_TooLarge := sp_TooLarge, p_Kind_letter := p4, p_Kind_letters := p5, u_Kind_MOST_LETTERS := wKind_MOST_LETTERS }
  have F0 : Fun K "is_name" "is_name" s_is_name A.a_is_name A.f_is_name := fun_mk (st := s_is_name) hL0 hC0 hK0
  have B0 : Binds K A.f_is_name ["name"] [] := F0.binds (ps := ["name"]) fun _ _ _ _ _ _ us hl => match us, hl with | [_], _ => rfl
  have F1 : Fun K "letters_in" "letters_in" s_letters_in A.a_letters_in A.f_letters_in := fun_mk (st := s_letters_in) hL1 hC1 hK1
  have B1 : Binds K A.f_letters_in ["shape"] [] := F1.binds (ps := ["shape"]) fun _ _ _ _ _ _ us hl => match us, hl with | [_], _ => rfl
  have F2 : Fun K "opposite_shape" "opposite_shape" s_opposite_shape A.a_opposite_shape A.f_opposite_shape := fun_mk (st := s_opposite_shape) hL2 hC2 hK2
  have B2 : Binds K A.f_opposite_shape ["shape"] [] := F2.binds (ps := ["shape"]) fun _ _ _ _ _ _ us hl => match us, hl with | [_], _ => rfl
  have F3 : Fun K "__init__" "Kind.__init__" s_Kinddd_initdd A.a_Kinddd_initdd A.f_Kinddd_initdd := fun_mk (st := s_Kinddd_initdd) hL3 hC3 hK3
  have B3 : Binds K A.f_Kinddd_initdd ["self", "shape"] [] := F3.binds (ps := ["self", "shape"]) fun _ _ _ _ _ _ us hl => match us, hl with | [_, _], _ => rfl
  have F4 : Fun K "letter" "Kind.letter" s_Kind_letter A.a_Kind_letter A.f_Kind_letter := fun_mk (st := s_Kind_letter) hL4 hC4 hK4
  have B4 : Binds K A.f_Kind_letter ["cls", "name"] [] := F4.binds (ps := ["cls", "name"]) fun _ _ _ _ _ _ us hl => match us, hl with | [_, _], _ => rfl
  have F5 : Fun K "letters" "Kind.letters" s_Kind_letters A.a_Kind_letters A.f_Kind_letters := fun_mk (st := s_Kind_letters) hL5 hC5 hK5
  have B5 : Binds K A.f_Kind_letters ["self"] [] := F5.binds (ps := ["self"]) fun _ _ _ _ _ _ us hl => match us, hl with | [_], _ => rfl
  have F6 : Fun K "__invert__" "Kind.__invert__" s_Kinddd_invertdd A.a_Kinddd_invertdd A.f_Kinddd_invertdd := fun_mk (st := s_Kinddd_invertdd) hL6 hC6 hK6
  have B6 : Binds K A.f_Kinddd_invertdd ["self"] [] := F6.binds (ps := ["self"]) fun _ _ _ _ _ _ us hl => match us, hl with | [_], _ => rfl
  have F7 : Fun K "__and__" "Kind.__and__" s_Kinddd_anddd A.a_Kinddd_anddd A.f_Kinddd_anddd := fun_mk (st := s_Kinddd_anddd) hL7 hC7 hK7
  have B7 : Binds K A.f_Kinddd_anddd ["self", "other"] [] := F7.binds (ps := ["self", "other"]) fun _ _ _ _ _ _ us hl => match us, hl with | [_, _], _ => rfl
  have F8 : Fun K "__or__" "Kind.__or__" s_Kinddd_ordd A.a_Kinddd_ordd A.f_Kinddd_ordd := fun_mk (st := s_Kinddd_ordd) hL8 hC8 hK8
  have B8 : Binds K A.f_Kinddd_ordd ["self", "other"] [] := F8.binds (ps := ["self", "other"]) fun _ _ _ _ _ _ us hl => match us, hl with | [_, _], _ => rfl
  have F9 : Fun K "__rshift__" "Kind.__rshift__" s_Kinddd_rshiftdd A.a_Kinddd_rshiftdd A.f_Kinddd_rshiftdd := fun_mk (st := s_Kinddd_rshiftdd) hL9 hC9 hK9
  have B9 : Binds K A.f_Kinddd_rshiftdd ["self", "other"] [] := F9.binds (ps := ["self", "other"]) fun _ _ _ _ _ _ us hl => match us, hl with | [_, _], _ => rfl
  have F10 : Fun K "__eq__" "Kind.__eq__" s_Kinddd_eqdd A.a_Kinddd_eqdd A.f_Kinddd_eqdd := fun_mk (st := s_Kinddd_eqdd) hL10 hC10 hK10
  have B10 : Binds K A.f_Kinddd_eqdd ["self", "other"] [] := F10.binds (ps := ["self", "other"]) fun _ _ _ _ _ _ us hl => match us, hl with | [_, _], _ => rfl
  have F11 : Fun K "is_arrow_shape" "is_arrow_shape" s_is_arrow_shape A.a_is_arrow_shape A.f_is_arrow_shape := fun_mk (st := s_is_arrow_shape) hL11 hC11 hK11
  have B11 : Binds K A.f_is_arrow_shape ["shape", "positive"] [] := F11.binds (ps := ["shape", "positive"]) fun _ _ _ _ _ _ us hl => match us, hl with | [_, _], _ => rfl
  have F12 : Fun K "is_arrow" "is_arrow" s_is_arrow A.a_is_arrow A.f_is_arrow := fun_mk (st := s_is_arrow) hL12 hC12 hK12
  have B12 : Binds K A.f_is_arrow ["kind"] [] := F12.binds (ps := ["kind"]) fun _ _ _ _ _ _ us hl => match us, hl with | [_], _ => rfl
  have F13 : Fun K "_law_cell" "_law_cell" s__law_cell A.a__law_cell A.f__law_cell := fun_mk (st := s__law_cell) hL13 hC13 hK13
  have B13 : Binds K A.f__law_cell ["script", "k"] [] := F13.binds (ps := ["script", "k"]) fun _ _ _ _ _ _ us hl => match us, hl with | [_, _], _ => rfl
  have F14 : Fun K "_law_draws" "_law_draws" s__law_draws A.a__law_draws A.f__law_draws := fun_mk (st := s__law_draws) hL14 hC14 hK14
  have B14 : Binds K A.f__law_draws ["cell", "many"] [] := F14.binds (ps := ["cell", "many"]) fun _ _ _ _ _ _ us hl => match us, hl with | [_, _], _ => rfl
  have F15 : Fun K "_law_pick" "_law_pick" s__law_pick A.a__law_pick A.f__law_pick := fun_mk (st := s__law_pick) hL15 hC15 hK15
  have B15 : Binds K A.f__law_pick ["draws", "k", "many"] [] := F15.binds (ps := ["draws", "k", "many"]) fun _ _ _ _ _ _ us hl => match us, hl with | [_, _, _], _ => rfl
  have F16 : Fun K "_law_letters" "_law_letters" s__law_letters A.a__law_letters A.f__law_letters := fun_mk (st := s__law_letters) hL16 hC16 hK16
  have B16 : Binds K A.f__law_letters ["shape"] [] := F16.binds (ps := ["shape"]) fun _ _ _ _ _ _ us hl => match us, hl with | [_], _ => rfl
  have F17 : Fun K "_law_name" "_law_name" s__law_name A.a__law_name A.f__law_name := fun_mk (st := s__law_name) hL17 hC17 hK17
  have B17 : Binds K A.f__law_name ["draws", "at"] [] := F17.binds (ps := ["draws", "at"]) fun _ _ _ _ _ _ us hl => match us, hl with | [_, _], _ => rfl
  have F18 : Fun K "_law_names" "_law_names" s__law_names A.a__law_names A.f__law_names := fun_mk (st := s__law_names) hL18 hC18 hK18
  have B18 : Binds K A.f__law_names ["draws", "extra", "many"] [] := F18.binds (ps := ["draws", "extra", "many"]) fun _ _ _ _ _ _ us hl => match us, hl with | [_, _, _], _ => rfl
  have F19 : Fun K "_law_shape" "_law_shape" s__law_shape A.a__law_shape A.f__law_shape := fun_mk (st := s__law_shape) hL19 hC19 hK19
  have B19 : Binds K A.f__law_shape ["draws", "at", "letters"] [] := F19.binds (ps := ["draws", "at", "letters"]) fun _ _ _ _ _ _ us hl => match us, hl with | [_, _, _], _ => rfl
  have F20 : Fun K "_law_opposite" "_law_opposite" s__law_opposite A.a__law_opposite A.f__law_opposite := fun_mk (st := s__law_opposite) hL20 hC20 hK20
  have B20 : Binds K A.f__law_opposite ["shape"] [] := F20.binds (ps := ["shape"]) fun _ _ _ _ _ _ us hl => match us, hl with | [_], _ => rfl
  have F21 : Fun K "_law_arrow" "_law_arrow" s__law_arrow A.a__law_arrow A.f__law_arrow := fun_mk (st := s__law_arrow) hL21 hC21 hK21
  have B21 : Binds K A.f__law_arrow ["draws", "at", "names"] [] := F21.binds (ps := ["draws", "at", "names"]) fun _ _ _ _ _ _ us hl => match us, hl with | [_, _, _], _ => rfl
  have F22 : Fun K "_law_changed" "_law_changed" s__law_changed A.a__law_changed A.f__law_changed := fun_mk (st := s__law_changed) hL22 hC22 hK22
  have B22 : Binds K A.f__law_changed ["shape", "place"] [] := F22.binds (ps := ["shape", "place"]) fun _ _ _ _ _ _ us hl => match us, hl with | [_, _], _ => rfl
  have F23 : Fun K "_law_due_arrow" "_law_due_arrow" s__law_due_arrow A.a__law_due_arrow A.f__law_due_arrow := fun_mk (st := s__law_due_arrow) hL23 hC23 hK23
  have B23 : Binds K A.f__law_due_arrow ["shape", "positive"] [] := F23.binds (ps := ["shape", "positive"]) fun _ _ _ _ _ _ us hl => match us, hl with | [_, _], _ => rfl
  have F24 : Fun K "_law_spoilt" "_law_spoilt" s__law_spoilt A.a__law_spoilt A.f__law_spoilt := fun_mk (st := s__law_spoilt) hL24 hC24 hK24
  have B24 : Binds K A.f__law_spoilt ["extra", "names"] [] := F24.binds (ps := ["extra", "names"]) fun _ _ _ _ _ _ us hl => match us, hl with | [_, _], _ => rfl
  have F25 : Fun K "_law_bad" "_law_bad" s__law_bad A.a__law_bad A.f__law_bad := fun_mk (st := s__law_bad) hL25 hC25 hK25
  have B25 : Binds K A.f__law_bad ["name"] [] := F25.binds (ps := ["name"]) fun _ _ _ _ _ _ us hl => match us, hl with | [_], _ => rfl
  have F26 : Fun K "_law_fault" "_law_fault" s__law_fault A.a__law_fault A.f__law_fault := fun_mk (st := s__law_fault) hL26 hC26 hK26
  have B26 : Binds K A.f__law_fault ["shape"] [] := F26.binds (ps := ["shape"]) fun _ _ _ _ _ _ us hl => match us, hl with | [_], _ => rfl
  have F27 : Fun K "_law_made" "_law_made" s__law_made A.a__law_made A.f__law_made := fun_mk (st := s__law_made) hL27 hC27 hK27
  have B27 : Binds K A.f__law_made ["one", "other", "deed"] [] := F27.binds (ps := ["one", "other", "deed"]) fun _ _ _ _ _ _ us hl => match us, hl with | [_, _, _], _ => rfl
  have F28 : Fun K "_law_due" "_law_due" s__law_due A.a__law_due A.f__law_due := fun_mk (st := s__law_due) hL28 hC28 hK28
  have B28 : Binds K A.f__law_due ["one", "other", "deed"] [] := F28.binds (ps := ["one", "other", "deed"]) fun _ _ _ _ _ _ us hl => match us, hl with | [_, _, _], _ => rfl
  have F29 : Fun K "_law_fields" "_law_fields" s__law_fields A.a__law_fields A.f__law_fields := fun_mk (st := s__law_fields) hL29 hC29 hK29
  have B29 : Binds K A.f__law_fields ["kind", "shape"] [] := F29.binds (ps := ["kind", "shape"]) fun _ _ _ _ _ _ us hl => match us, hl with | [_, _], _ => rfl
  have F30 : Fun K "_law_names_made" "_law_names_made" s__law_names_made A.a__law_names_made A.f__law_names_made := fun_mk (st := s__law_names_made) hL30 hC30 hK30
  have B30 : Binds K A.f__law_names_made ["names"] [] := F30.binds (ps := ["names"]) fun _ _ _ _ _ _ us hl => match us, hl with | [_], _ => rfl
  have F31 : Fun K "law" "law" s_law A.a_law A.f_law := fun_mk (st := s_law) hL31 hC31 hK31
  have B31 : Binds K A.f_law ["script"] [] := F31.binds (ps := ["script"]) fun _ _ _ _ _ _ us hl => match us, hl with | [_], _ => rfl
  have T : Txt l.prog w K mg A := {
    F_is_name := F0
    b_is_name := B0
    m_is_name := PySem.W.mg_of X G hA0
    F_letters_in := F1
    b_letters_in := B1
    m_letters_in := PySem.W.mg_of X G hA1
    F_opposite_shape := F2
    b_opposite_shape := B2
    m_opposite_shape := PySem.W.mg_of X G hA2
    F_Kinddd_initdd := F3
    b_Kinddd_initdd := B3
    F_Kind_letter := F4
    b_Kind_letter := B4
    F_Kind_letters := F5
    b_Kind_letters := B5
    F_Kinddd_invertdd := F6
    b_Kinddd_invertdd := B6
    F_Kinddd_anddd := F7
    b_Kinddd_anddd := B7
    F_Kinddd_ordd := F8
    b_Kinddd_ordd := B8
    F_Kinddd_rshiftdd := F9
    b_Kinddd_rshiftdd := B9
    F_Kinddd_eqdd := F10
    b_Kinddd_eqdd := B10
    F_is_arrow_shape := F11
    b_is_arrow_shape := B11
    m_is_arrow_shape := PySem.W.mg_of X G hA11
    F_is_arrow := F12
    b_is_arrow := B12
    m_is_arrow := PySem.W.mg_of X G hA12
    F__law_cell := F13
    b__law_cell := B13
    m__law_cell := PySem.W.mg_of X G hA13
    F__law_draws := F14
    b__law_draws := B14
    m__law_draws := PySem.W.mg_of X G hA14
    F__law_pick := F15
    b__law_pick := B15
    m__law_pick := PySem.W.mg_of X G hA15
    F__law_letters := F16
    b__law_letters := B16
    m__law_letters := PySem.W.mg_of X G hA16
    F__law_name := F17
    b__law_name := B17
    m__law_name := PySem.W.mg_of X G hA17
    F__law_names := F18
    b__law_names := B18
    m__law_names := PySem.W.mg_of X G hA18
    F__law_shape := F19
    b__law_shape := B19
    m__law_shape := PySem.W.mg_of X G hA19
    F__law_opposite := F20
    b__law_opposite := B20
    m__law_opposite := PySem.W.mg_of X G hA20
    F__law_arrow := F21
    b__law_arrow := B21
    m__law_arrow := PySem.W.mg_of X G hA21
    F__law_changed := F22
    b__law_changed := B22
    m__law_changed := PySem.W.mg_of X G hA22
    F__law_due_arrow := F23
    b__law_due_arrow := B23
    m__law_due_arrow := PySem.W.mg_of X G hA23
    F__law_spoilt := F24
    b__law_spoilt := B24
    m__law_spoilt := PySem.W.mg_of X G hA24
    F__law_bad := F25
    b__law_bad := B25
    m__law_bad := PySem.W.mg_of X G hA25
    F__law_fault := F26
    b__law_fault := B26
    m__law_fault := PySem.W.mg_of X G hA26
    F__law_made := F27
    b__law_made := B27
    m__law_made := PySem.W.mg_of X G hA27
    F__law_due := F28
    b__law_due := B28
    m__law_due := PySem.W.mg_of X G hA28
    F__law_fields := F29
    b__law_fields := B29
    m__law_fields := PySem.W.mg_of X G hA29
    F__law_names_made := F30
    b__law_names_made := B30
    m__law_names_made := PySem.W.mg_of X G hA30
    F_law := F31
    b_law := B31
    m_law := PySem.W.mg_of X G hA31
    cm_Kind_letter := ⟨hP4, ⟨_, hR4⟩, hF4⟩
    pc_Kind_letters := ⟨pgKind, hdKind, poKind, saKind⟩
    pr_Kind_letters := ⟨hP5, hG5, hT5, ⟨_, hR5⟩⟩
    o_Kinddd_invertdd := ⟨sfKind, hA6, hI6⟩
    o_Kinddd_anddd := ⟨sfKind, hA7, hI7⟩
    o_Kinddd_ordd := ⟨sfKind, hA8, hI8⟩
    o_Kinddd_rshiftdd := ⟨sfKind, hA9, hI9⟩
    o_Kinddd_eqdd := ⟨sfKind, hA10, hI10⟩
    en_Kinddd_eqdd := containsT_all fun t ht => by
      simp only [etab, List.mem_cons, List.not_mem_nil, or_false] at ht
      rcases ht with rfl | rfl | rfl | rfl | rfl
      · exact ⟨enKind_0, by decide, by decide⟩
      · exact ⟨enKind_1, by decide, by decide⟩
      · exact ⟨enKind_2, by decide, by decide⟩
      · exact ⟨enKind_3, by decide, by decide⟩
      · exact ⟨enKind_4, by decide, by decide⟩

    eb_Kinddd_eqdd := dTags_all ebKind_1 ebKind_2 ebKind_3 ebKind_4
    cr_Kind := ⟨rdKind, gaKind⟩
    cv_Kind_MOST_LETTERS := ⟨wfKind_MOST_LETTERS, wrKind_MOST_LETTERS⟩
    m_Kind := PySem.W.mg_of X G NKind
    m_BadName := PySem.W.mg_of X G NBadName
    m_ComesapartError := PySem.W.mg_of X G NComesapartError
    m_TooLarge := PySem.W.mg_of X G NTooLarge
    mk_Kind := ⟨mkKind, hA3, hI3, kcKind⟩
    x_BadName := XBadName
    xf__BadName := rfl
    x_TooLarge := XTooLarge
    xf__TooLarge := rfl
    n_ValueError := PySem.W.mg_none_of X G Z_ValueError
    n_abs := PySem.W.mg_none_of X G Z_abs
    n_all := PySem.W.mg_none_of X G Z_all
    n_bool := PySem.W.mg_none_of X G Z_bool
    n_int := PySem.W.mg_none_of X G Z_int
    n_isinstance := PySem.W.mg_none_of X G Z_isinstance
    n_len := PySem.W.mg_none_of X G Z_len
    n_list := PySem.W.mg_none_of X G Z_list
    n_range := PySem.W.mg_none_of X G Z_range
    n_tuple := PySem.W.mg_none_of X G Z_tuple
    n_super := PySem.W.mg_none_of X G ZS
    m_ALPHABET := ⟨_, PySem.W.mg_of X G g_ALPHABET, r_ALPHABET⟩
    m_MOST_IN_NAME := ⟨_, PySem.W.mg_of X G g_MOST_IN_NAME, r_MOST_IN_NAME⟩
    fld_shape := contains_all fun s hs => by
      simp only [flds_shape, List.mem_cons, List.not_mem_nil, or_false] at hs
      rcases hs with rfl
      · exact ⟨⟨pgKind, hdKind, poKind, saKind⟩, nfKind_shape⟩

    con_MOST_LETTERS := contains_all fun s hs => by
      simp only [cons_MOST_LETTERS, List.mem_cons, List.not_mem_nil, or_false] at hs
      rcases hs with rfl
      · exact ⟨⟨pgKind, hdKind, poKind, saKind⟩, _, cfKind_MOST_LETTERS, crKind_MOST_LETTERS, cgKind_MOST_LETTERS, by decide +kernel⟩

    xf_limit := contains_all (P := fun c => XfC K (A.ca c) ∧ PySem.W.findIn K (.ref (A.ca c)) "limit" = some none) fun s hs => by
      simp only [exs_limit, List.mem_cons, List.not_mem_nil, or_false] at hs
      rcases hs with rfl
      · exact ⟨⟨xgTooLarge, xGTooLarge, xbTooLarge, xDTooLarge⟩, xfTooLarge⟩

    xf_name := contains_all (P := fun c => XfC K (A.ca c) ∧ PySem.W.findIn K (.ref (A.ca c)) "name" = some none) fun s hs => by
      simp only [exs_name, List.mem_cons, List.not_mem_nil, or_false] at hs
      rcases hs with rfl
      · exact ⟨⟨xgBadName, xGBadName, xbBadName, xDBadName⟩, xfBadName⟩

    ie_BadName := fun c b => lookup_all (P := fun c b => ExcC K (A.ca c) ∧ PySem.W.kitOne K (.ref (A.ca c)) (.ref A.c_BadName) = some b) fun p hp => by
      simp only [ises_BadName, List.mem_cons, List.not_mem_nil, or_false] at hp
      rcases hp with rfl | rfl
      · exact ⟨⟨xgBadName, xGBadName, xbBadName, xDBadName, xCBadName, GS, GT, xOBadName⟩, xqBadName_BadName⟩
      · exact ⟨⟨xgTooLarge, xGTooLarge, xbTooLarge, xDTooLarge, xCTooLarge, GS, GT, xOTooLarge⟩, xqTooLarge_BadName⟩

    ie_TooLarge := fun c b => lookup_all (P := fun c b => ExcC K (A.ca c) ∧ PySem.W.kitOne K (.ref (A.ca c)) (.ref A.c_TooLarge) = some b) fun p hp => by
      simp only [ises_TooLarge, List.mem_cons, List.not_mem_nil, or_false] at hp
      rcases hp with rfl | rfl
      · exact ⟨⟨xgBadName, xGBadName, xbBadName, xDBadName, xCBadName, GS, GT, xOBadName⟩, xqBadName_TooLarge⟩
      · exact ⟨⟨xgTooLarge, xGTooLarge, xbTooLarge, xDTooLarge, xCTooLarge, GS, GT, xOTooLarge⟩, xqTooLarge_TooLarge⟩

    ie_ValueError := fun c b => lookup_all (P := fun c b => ExcC K (A.ca c) ∧ PySem.W.kitOne K (.ref (A.ca c)) (.type "ValueError") = some b) fun p hp => by
      simp only [ises_ValueError, List.mem_cons, List.not_mem_nil, or_false] at hp
      rcases hp with rfl | rfl
      · exact ⟨⟨xgBadName, xGBadName, xbBadName, xDBadName, xCBadName, GS, GT, xOBadName⟩, xqBadName_ValueError⟩
      · exact ⟨⟨xgTooLarge, xGTooLarge, xbTooLarge, xDTooLarge, xCTooLarge, GS, GT, xOTooLarge⟩, xqTooLarge_ValueError⟩

    ct_ComesapartError := fun c b => lookup_all (P := fun c b => PySem.W.exmOne K (.ref (A.ca c)) (.ref A.c_ComesapartError) = some b) fun p hp => by
      simp only [cts_ComesapartError, List.mem_cons, List.not_mem_nil, or_false] at hp
      rcases hp with rfl | rfl
      · exact PySem.W.exm_ref tbComesapartError tdComesapartError ttComesapartError xrBadName_ComesapartError
      · exact PySem.W.exm_ref tbComesapartError tdComesapartError ttComesapartError xrTooLarge_ComesapartError

    is_Kind := fun t b => lookup_all (P := fun t b => (∀ s, t = .c s → IsC K (A.ca s)) ∧ PySem.W.kitOne K ((⟨K, l.prog, w, A.ca, none⟩ : Kc).tagV t) (.ref A.c_Kind) = some b) fun p hp => by
      simp only [isis_Kind, List.mem_cons, List.not_mem_nil, or_false] at hp
      rcases hp with rfl | rfl | rfl | rfl | rfl | rfl | rfl | rfl
      · exact ⟨fun s e => (by cases e), isKind_0⟩
      · exact ⟨fun s e => (by cases e), isKind_1⟩
      · exact ⟨fun s e => (by cases e), isKind_2⟩
      · exact ⟨fun s e => (by cases e), isKind_3⟩
      · exact ⟨fun s e => (by cases e), isKind_4⟩
      · exact ⟨fun s e => (by cases e), isKind_5⟩
      · exact ⟨fun s e => (by cases e), isKind_6⟩
      · exact ⟨fun s e => (by cases e; exact ⟨⟨pgKind, hdKind, poKind, saKind⟩, hcKind, GS, GT, moKind⟩), isKind_7⟩

    is_bool := fun t b => lookup_all (P := fun t b => (∀ s, t = .c s → IsC K (A.ca s)) ∧ PySem.W.kitOne K ((⟨K, l.prog, w, A.ca, none⟩ : Kc).tagV t) (.type "bool") = some b) fun p hp => by
      simp only [isis_bool, List.mem_cons, List.not_mem_nil, or_false] at hp
      rcases hp with rfl | rfl | rfl | rfl | rfl | rfl | rfl | rfl
      · exact ⟨fun s e => (by cases e), isbool_0⟩
      · exact ⟨fun s e => (by cases e), isbool_1⟩
      · exact ⟨fun s e => (by cases e), isbool_2⟩
      · exact ⟨fun s e => (by cases e), isbool_3⟩
      · exact ⟨fun s e => (by cases e), isbool_4⟩
      · exact ⟨fun s e => (by cases e), isbool_5⟩
      · exact ⟨fun s e => (by cases e), isbool_6⟩
      · exact ⟨fun s e => (by cases e; exact ⟨⟨pgKind, hdKind, poKind, saKind⟩, hcKind, GS, GT, moKind⟩), isbool_7⟩

    is_tuple := fun t b => lookup_all (P := fun t b => (∀ s, t = .c s → IsC K (A.ca s)) ∧ PySem.W.kitOne K ((⟨K, l.prog, w, A.ca, none⟩ : Kc).tagV t) (.type "tuple") = some b) fun p hp => by
      simp only [isis_tuple, List.mem_cons, List.not_mem_nil, or_false] at hp
      rcases hp with rfl | rfl | rfl | rfl | rfl | rfl | rfl | rfl
      · exact ⟨fun s e => (by cases e), istuple_0⟩
      · exact ⟨fun s e => (by cases e), istuple_1⟩
      · exact ⟨fun s e => (by cases e), istuple_2⟩
      · exact ⟨fun s e => (by cases e), istuple_3⟩
      · exact ⟨fun s e => (by cases e), istuple_4⟩
      · exact ⟨fun s e => (by cases e), istuple_5⟩
      · exact ⟨fun s e => (by cases e), istuple_6⟩
      · exact ⟨fun s e => (by cases e; exact ⟨⟨pgKind, hdKind, poKind, saKind⟩, hcKind, GS, GT, moKind⟩), istuple_7⟩
 }
  exact ⟨A.f_law, fun s v => .of_eq rfl, fun base _ _ => law_end (ok_law T) law_holds⟩
theorem walk {l : PySem.W.OpenLaw} {q : Program} {loose : List Str} {XP : (Str → Option Value) → Heap → Prop} {YP : World → Heap → Prop} {d : DefRec} {K : Params → PySem.W.Frag} (hn : l.most = some 63) (hdf : d.params.defaults = [])
    (hY : ∀ (w : World) (h : Heap), YP w h → (K w.params).In h)
    (F : ∀ (w : World) (mg : Str → Option Value) (fa : Addr) (h : Heap), (K w.params).In h → h.Ns mainGlobals mg → mg d.name = some (.ref fa) →
      ∃ fd : FuncData, (∀ (s : Shared) (u : Value), BindsTo s fd ⟨[u], []⟩ [("script", u)]) ∧ ∀ base : Heap, (K w.params).In base → base.Ns mainGlobals mg → FnOk l.prog w (K w.params) mg base (L2.CX l.prog w) 65 fa fd ["script"] (spLaw (K w.params))) :
    PySem.W.WalkO q loose XP YP l.row.toRowW d [] (fun f vs => PySem.call f vs) :=
  L2.walk_of (n := 63) (k := 65) (x := "script") (CX := fun w => L2.CX l.prog w) (sp := fun w => spLaw (K w.params)) hn (by decide) hdf ⟨rfl, by decide, by decide⟩ hY F (fun _ _ a ns hl _ hS => ⟨a, ns, rfl, hS, hl, fun _ => rfl⟩) fun _ _ _ _ _ z => cx_no z
end K78
set_option Elab.async false
open PySem PySem.W PyProof.Rows in
set_option maxRecDepth 100000 in
set_option maxHeartbeats 0 in
theorem PySem.Challenge.cw_cheapturns_k78_kinds_and_operators_holds : PySem.Challenge.rw_cheapturns_k78_kinds_and_operators.Holds := by
  w_on; o_law; k_head; (case hw => w_witness2)
  k_fill
  refine K78.walk (l := PySem.Challenge.rw_cheapturns_k78_kinds_and_operators) rfl rfl (fun w h Y => PySem.W.kIn_of Y) ?F
  case F =>
    intro w mg fa h KX G hmg
    refine' K78.all_mk KX G hmg ?NKind ?NBadName ?NComesapartError ?NTooLarge ?hA0 ?hL0 ?hC0 ?hK0 ?hA1 ?hL1 ?hC1 ?hK1 ?hA2 ?hL2 ?hC2 ?hK2 ?hA3 ?hL3 ?hC3 ?hK3 ?hI3 ?hP4 ?hR4 ?hF4 ?hL4 ?hC4 ?hK4 ?hP5 ?hR5 ?hG5 ?hT5 ?hL5 ?hC5 ?hK5 ?hA6 ?hL6 ?hC6 ?hK6 ?hI6 ?hA7 ?hL7 ?hC7 ?hK7 ?hI7 ?hA8 ?hL8 ?hC8 ?hK8 ?hI8 ?hA9 ?hL9 ?hC9 ?hK9 ?hI9 ?hA10 ?hL10 ?hC10 ?hK10 ?hI10 ?hA11 ?hL11 ?hC11 ?hK11 ?hA12 ?hL12 ?hC12 ?hK12 ?hA13 ?hL13 ?hC13 ?hK13 ?hA14 ?hL14 ?hC14 ?hK14 ?hA15 ?hL15 ?hC15 ?hK15 ?hA16 ?hL16 ?hC16 ?hK16 ?hA17 ?hL17 ?hC17 ?hK17 ?hA18 ?hL18 ?hC18 ?hK18 ?hA19 ?hL19 ?hC19 ?hK19 ?hA20 ?hL20 ?hC20 ?hK20 ?hA21 ?hL21 ?hC21 ?hK21 ?hA22 ?hL22 ?hC22 ?hK22 ?hA23 ?hL23 ?hC23 ?hK23 ?hA24 ?hL24 ?hC24 ?hK24 ?hA25 ?hL25 ?hC25 ?hK25 ?hA26 ?hL26 ?hC26 ?hK26 ?hA27 ?hL27 ?hC27 ?hK27 ?hA28 ?hL28 ?hC28 ?hK28 ?hA29 ?hL29 ?hC29 ?hK29 ?hA30 ?hL30 ?hC30 ?hK30 ?hA31 ?hL31 ?hC31 ?hK31 ?sfKind ?enKind_0 ?enKind_1 ?ebKind_1 ?enKind_2 ?ebKind_2 ?enKind_3 ?ebKind_3 ?enKind_4 ?ebKind_4 ?rdKind ?gaKind ?wfKind_MOST_LETTERS ?wrKind_MOST_LETTERS ?pgKind ?hdKind ?poKind ?saKind ?mkKind ?kcKind ?hcKind ?moKind ?nfKind_shape ?cfKind_MOST_LETTERS ?cgKind_MOST_LETTERS ?crKind_MOST_LETTERS ?GS ?GT ?isKind_0 ?isKind_1 ?isKind_2 ?isKind_3 ?isKind_4 ?isKind_5 ?isKind_6 ?isKind_7 ?isbool_0 ?isbool_1 ?isbool_2 ?isbool_3 ?isbool_4 ?isbool_5 ?isbool_6 ?isbool_7 ?istuple_0 ?istuple_1 ?istuple_2 ?istuple_3 ?istuple_4 ?istuple_5 ?istuple_6 ?istuple_7 ?xIBadName ?xtBadName ?xlBadName ?xcBadName ?xdBadName ?xvBadName ?xwBadName ?xeBadName ?xKBadName ?xmBadName ?xhBadName ?xuBadName ?xsBadName ?xyBadName ?xnBadName ?xfBadName ?xaBadName ?xoBadName ?xpBadName ?xbBadName ?xTBadName ?xkBadName ?xgBadName ?xGBadName ?xDBadName ?xCBadName ?xOBadName ?xrBadName_ComesapartError ?xqBadName_BadName ?xqBadName_TooLarge ?xqBadName_ValueError ?xITooLarge ?xtTooLarge ?xlTooLarge ?xcTooLarge ?xdTooLarge ?xvTooLarge ?xwTooLarge ?xeTooLarge ?xKTooLarge ?xmTooLarge ?xhTooLarge ?xuTooLarge ?xsTooLarge ?xyTooLarge ?xnTooLarge ?xfTooLarge ?xaTooLarge ?xoTooLarge ?xpTooLarge ?xbTooLarge ?xTTooLarge ?xkTooLarge ?xgTooLarge ?xGTooLarge ?xDTooLarge ?xCTooLarge ?xOTooLarge ?xrTooLarge_ComesapartError ?xqTooLarge_BadName ?xqTooLarge_TooLarge ?xqTooLarge_ValueError ?ZS ?ZA ?ZT ?tbComesapartError ?tdComesapartError ?ttComesapartError ?Z_ValueError ?Z_abs ?Z_all ?Z_bool ?Z_int ?Z_isinstance ?Z_len ?Z_list ?Z_range ?Z_tuple ?g_ALPHABET ?r_ALPHABET ?g_MOST_IN_NAME ?r_MOST_IN_NAME
    (case NKind => k_is)
    (case NBadName => k_is)
    (case NComesapartError => k_is)
    (case NTooLarge => k_is)
    (case hA0 => k_is)
    (case hL0 => k_is)
    (case hC0 => k_is)
    (case hK0 => k_is)
    (case hA1 => k_is)
    (case hL1 => k_is)
    (case hC1 => k_is)
    (case hK1 => k_is)
    (case hA2 => k_is)
    (case hL2 => k_is)
    (case hC2 => k_is)
    (case hK2 => k_is)
    (case hA3 => k_is)
    (case hL3 => k_is)
    (case hC3 => k_is)
    (case hK3 => k_is)
    (case hI3 => k_is)
    (case hP4 => k_is)
    (case hR4 => k_is)
    (case hF4 => k_is)
    (case hL4 => k_is)
    (case hC4 => k_is)
    (case hK4 => k_is)
    (case hP5 => k_is)
    (case hR5 => k_is)
    (case hG5 => k_is)
    (case hT5 => k_is)
    (case hL5 => k_is)
    (case hC5 => k_is)
    (case hK5 => k_is)
    (case hA6 => k_is)
    (case hL6 => k_is)
    (case hC6 => k_is)
    (case hK6 => k_is)
    (case hI6 => k_is)
    (case hA7 => k_is)
    (case hL7 => k_is)
    (case hC7 => k_is)
    (case hK7 => k_is)
    (case hI7 => k_is)
    (case hA8 => k_is)
    (case hL8 => k_is)
    (case hC8 => k_is)
    (case hK8 => k_is)
    (case hI8 => k_is)
    (case hA9 => k_is)
    (case hL9 => k_is)
    (case hC9 => k_is)
    (case hK9 => k_is)
    (case hI9 => k_is)
    (case hA10 => k_is)
    (case hL10 => k_is)
    (case hC10 => k_is)
    (case hK10 => k_is)
    (case hI10 => k_is)
    (case hA11 => k_is)
    (case hL11 => k_is)
    (case hC11 => k_is)
    (case hK11 => k_is)
    (case hA12 => k_is)
    (case hL12 => k_is)
    (case hC12 => k_is)
    (case hK12 => k_is)
    (case hA13 => k_is)
    (case hL13 => k_is)
    (case hC13 => k_is)
    (case hK13 => k_is)
    (case hA14 => k_is)
    (case hL14 => k_is)
    (case hC14 => k_is)
    (case hK14 => k_is)
    (case hA15 => k_is)
    (case hL15 => k_is)
    (case hC15 => k_is)
    (case hK15 => k_is)
    (case hA16 => k_is)
    (case hL16 => k_is)
    (case hC16 => k_is)
    (case hK16 => k_is)
    (case hA17 => k_is)
    (case hL17 => k_is)
    (case hC17 => k_is)
    (case hK17 => k_is)
    (case hA18 => k_is)
    (case hL18 => k_is)
    (case hC18 => k_is)
    (case hK18 => k_is)
    (case hA19 => k_is)
    (case hL19 => k_is)
    (case hC19 => k_is)
    (case hK19 => k_is)
    (case hA20 => k_is)
    (case hL20 => k_is)
    (case hC20 => k_is)
    (case hK20 => k_is)
    (case hA21 => k_is)
    (case hL21 => k_is)
    (case hC21 => k_is)
    (case hK21 => k_is)
    (case hA22 => k_is)
    (case hL22 => k_is)
    (case hC22 => k_is)
    (case hK22 => k_is)
    (case hA23 => k_is)
    (case hL23 => k_is)
    (case hC23 => k_is)
    (case hK23 => k_is)
    (case hA24 => k_is)
    (case hL24 => k_is)
    (case hC24 => k_is)
    (case hK24 => k_is)
    (case hA25 => k_is)
    (case hL25 => k_is)
    (case hC25 => k_is)
    (case hK25 => k_is)
    (case hA26 => k_is)
    (case hL26 => k_is)
    (case hC26 => k_is)
    (case hK26 => k_is)
    (case hA27 => k_is)
    (case hL27 => k_is)
    (case hC27 => k_is)
    (case hK27 => k_is)
    (case hA28 => k_is)
    (case hL28 => k_is)
    (case hC28 => k_is)
    (case hK28 => k_is)
    (case hA29 => k_is)
    (case hL29 => k_is)
    (case hC29 => k_is)
    (case hK29 => k_is)
    (case hA30 => k_is)
    (case hL30 => k_is)
    (case hC30 => k_is)
    (case hK30 => k_is)
    (case hA31 => k_is)
    (case hL31 => k_is)
    (case hC31 => k_is)
    (case hK31 => k_is)
    (case sfKind => k_is)
    (case enKind_0 => k_is)
    (case enKind_1 => k_is)
    (case ebKind_1 => k_is)
    (case enKind_2 => k_is)
    (case ebKind_2 => k_is)
    (case enKind_3 => k_is)
    (case ebKind_3 => k_is)
    (case enKind_4 => k_is)
    (case ebKind_4 => k_is)
    (case rdKind => k_is)
    (case gaKind => k_is)
    (case wfKind_MOST_LETTERS => k_is)
    (case wrKind_MOST_LETTERS => exact ⟨_, rfl⟩)
    (case pgKind => k_is)
    (case hdKind => k_is)
    (case poKind => k_is)
    (case saKind => k_is)
    (case mkKind => k_is)
    (case kcKind => k_is)
    (case hcKind => k_is)
    (case moKind => k_is)
    (case nfKind_shape => k_is)
    (case cfKind_MOST_LETTERS => k_is)
    (case cgKind_MOST_LETTERS => k_is)
    (case crKind_MOST_LETTERS => exact ⟨_, rfl⟩)
    (case GS => k_is)
    (case GT => k_is)
    (case isKind_0 => kit_is)
    (case isKind_1 => kit_is)
    (case isKind_2 => kit_is)
    (case isKind_3 => kit_is)
    (case isKind_4 => kit_is)
    (case isKind_5 => kit_is)
    (case isKind_6 => kit_is)
    (case isKind_7 => kit_is)
    (case isbool_0 => kit_is)
    (case isbool_1 => kit_is)
    (case isbool_2 => kit_is)
    (case isbool_3 => kit_is)
    (case isbool_4 => kit_is)
    (case isbool_5 => kit_is)
    (case isbool_6 => kit_is)
    (case isbool_7 => kit_is)
    (case istuple_0 => kit_is)
    (case istuple_1 => kit_is)
    (case istuple_2 => kit_is)
    (case istuple_3 => kit_is)
    (case istuple_4 => kit_is)
    (case istuple_5 => kit_is)
    (case istuple_6 => kit_is)
    (case istuple_7 => kit_is)
    (case xIBadName => k_is)
    (case xtBadName => k_is)
    (case xlBadName => k_is)
    (case xcBadName => k_is)
    (case xdBadName => k_is)
    (case xvBadName => rfl)
    (case xwBadName => decide +kernel)
    (case xeBadName => k_is)
    (case xKBadName => k_is)
    (case xmBadName => rfl)
    (case xhBadName => rfl)
    (case xuBadName => ks_is)
    (case xsBadName => k_is)
    (case xyBadName => k_is)
    (case xnBadName => kx_is)
    (case xfBadName => k_is)
    (case xaBadName => k_is)
    (case xoBadName => k_is)
    (case xpBadName => rfl)
    (case xbBadName => k_is)
    (case xTBadName => k_is)
    (case xkBadName => k_is)
    (case xgBadName => k_is)
    (case xGBadName => k_is)
    (case xDBadName => k_is)
    (case xCBadName => k_is)
    (case xOBadName => k_is)
    (case xrBadName_ComesapartError => k_is)
    (case xqBadName_BadName => kit_is)
    (case xqBadName_TooLarge => kit_is)
    (case xqBadName_ValueError => kit_is)
    (case xITooLarge => k_is)
    (case xtTooLarge => k_is)
    (case xlTooLarge => k_is)
    (case xcTooLarge => k_is)
    (case xdTooLarge => k_is)
    (case xvTooLarge => rfl)
    (case xwTooLarge => decide +kernel)
    (case xeTooLarge => k_is)
    (case xKTooLarge => k_is)
    (case xmTooLarge => rfl)
    (case xhTooLarge => rfl)
    (case xuTooLarge => ks_is)
    (case xsTooLarge => k_is)
    (case xyTooLarge => k_is)
    (case xnTooLarge => kx_is)
    (case xfTooLarge => k_is)
    (case xaTooLarge => k_is)
    (case xoTooLarge => k_is)
    (case xpTooLarge => rfl)
    (case xbTooLarge => k_is)
    (case xTTooLarge => k_is)
    (case xkTooLarge => k_is)
    (case xgTooLarge => k_is)
    (case xGTooLarge => k_is)
    (case xDTooLarge => k_is)
    (case xCTooLarge => k_is)
    (case xOTooLarge => k_is)
    (case xrTooLarge_ComesapartError => k_is)
    (case xqTooLarge_BadName => kit_is)
    (case xqTooLarge_TooLarge => kit_is)
    (case xqTooLarge_ValueError => kit_is)
    (case ZS => k_is)
    (case ZA => k_is)
    (case ZT => decide +kernel)
    (case tbComesapartError => k_is)
    (case tdComesapartError => k_is)
    (case ttComesapartError => k_is)
    (case Z_ValueError => k_is)
    (case Z_abs => k_is)
    (case Z_all => k_is)
    (case Z_bool => k_is)
    (case Z_int => k_is)
    (case Z_isinstance => k_is)
    (case Z_len => k_is)
    (case Z_list => k_is)
    (case Z_range => k_is)
    (case Z_tuple => k_is)
    (case g_ALPHABET => k_is)
    (case r_ALPHABET => exact ⟨_, rfl⟩)
    (case g_MOST_IN_NAME => k_is)
    (case r_MOST_IN_NAME => exact ⟨_, rfl⟩)
