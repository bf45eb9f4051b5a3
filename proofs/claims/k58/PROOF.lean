import PyProof.Rows.All
import Wide.All
import OpenK.AllK
import Wide.FinOn
import HandS.ForMost
import HandS.ForExc
import KE.KeyNested
import HandS.NoneIn
import HandS.Zip
import HandS.Wide
import HandS.TupAny
import HandS.IsInst
import HandS.Conv
import HandS.Style
import KE.SortData
import KE.KTupSum
import KE.GoesMore
import KE.GoesEnum
import HandS.Ends
import PySem.Challenge.RW_willinglift_k58_whole_bounds_of_pairs
set_option Elab.async false
set_option linter.all false
set_option maxRecDepth 100000
namespace Mi
open PySem L2
/-! ## Plain data: what Python values are, by value -/
abbrev NK := PySem.NestedKey
inductive D where
  | non
  | bl (b : Bool)
  | int (i : Int)
  | str (x : Str)
  | ty (n : String)
  | code (n : Str)
  | tup (xs : List D)
  | lst (xs : List D)
  | scr (ns : List Int)
  | dic (t : Bool) (kvs : List (NK × D))
  | ins (c : Str) (fs : List (Str × D))
/-- an object that is owned by one slot (or is on its way to one), or frozen data -/
inductive OT where
  | fz (d : D)
  | lst (xs : List D)
  | dic (t : Bool) (kvs : List (NK × D))
  | ins (c : Str) (fs : List (Str × OT))
mutual
def OT.er : OT → D
  | .fz d => d
  | .lst xs => .lst xs
  | .dic t kvs => .dic t kvs
  | .ins c fs => .ins c (erF fs)
def erF : List (Str × OT) → List (Str × D)
  | [] => []
  | (f, t) :: r => (f, t.er) :: erF r
end
/-- the names of classes and defs, and where they stand -/
structure Tb where
  cls : Str → Option Addr
  exc : Str → Option Addr
  code : Str → Option Addr
def keyN : Key → NK
  | .inl i => .num i
  | .inr x => .text x
def keyT (ks : List Key) : NK := .tup (ks.map keyN)
mutual
/-- the value v reads as the data d in the heap H -/
inductive Rep (T : Tb) (K : PySem.W.Frag) (H : Hp) : D → V → Prop where
  | non : Rep T K H .non .non
  | bl (b : Bool) : Rep T K H (.bl b) (.bl b)
  | int (i : Int) : Rep T K H (.int i) (.int i)
  | str (x : Str) : Rep T K H (.str x) (.str x)
  | ty (n : String) : Rep T K H (.ty n) (.ty n)
  | code {n : Str} {a : Addr} : T.code n = some a → Rep T K H (.code n) (.ref a)
  | tup {a : Addr} {vs : List V} {xs : List D} : H a = some (.tup vs) → Reps T K H xs vs → Rep T K H (.tup xs) (.ref a)
  | lst {a : Addr} {vs : List V} {xs : List D} : H a = some (.lst vs) → Reps T K H xs vs → Rep T K H (.lst xs) (.ref a)
  | scr {a : Addr} {ns : List Int} : SqL K H a (ns.map V.int) → Rep T K H (.scr ns) (.ref a)
  | dK {a : Addr} {ks : List (Key × V)} {kvs : List (NK × D)} : Rd H a (.dK ks) → RepK T K H kvs ks → Rep T K H (.dic false kvs) (.ref a)
  | dT {a : Addr} {ks : List (List Key × V)} {kvs : List (NK × D)} : Rd H a (.dT ks) → RepT T K H kvs ks → Rep T K H (.dic true kvs) (.ref a)
  | ins {a C dx : Addr} {c : Str} {gs : List (Str × V)} {fs : List (Str × D)} : T.cls c = some C → H a = some (.ins C dx gs) → RepF T K H fs gs → Rep T K H (.ins c fs) (.ref a)
inductive Reps (T : Tb) (K : PySem.W.Frag) (H : Hp) : List D → List V → Prop where
  | nil : Reps T K H [] []
  | cons {d : D} {v : V} {ds : List D} {vs : List V} : Rep T K H d v → Reps T K H ds vs → Reps T K H (d :: ds) (v :: vs)
inductive RepK (T : Tb) (K : PySem.W.Frag) (H : Hp) : List (NK × D) → List (Key × V) → Prop where
  | nil : RepK T K H [] []
  | cons {k : Key} {d : D} {v : V} {ds : List (NK × D)} {vs : List (Key × V)} : Rep T K H d v → RepK T K H ds vs → RepK T K H ((keyN k, d) :: ds) ((k, v) :: vs)
inductive RepT (T : Tb) (K : PySem.W.Frag) (H : Hp) : List (NK × D) → List (List Key × V) → Prop where
  | nil : RepT T K H [] []
  | cons {k : List Key} {d : D} {v : V} {ds : List (NK × D)} {vs : List (List Key × V)} : Rep T K H d v → RepT T K H ds vs → RepT T K H ((keyT k, d) :: ds) ((k, v) :: vs)
inductive RepF (T : Tb) (K : PySem.W.Frag) (H : Hp) : List (Str × D) → List (Str × V) → Prop where
  | nil : RepF T K H [] []
  | cons {f : Str} {d : D} {v : V} {ds : List (Str × D)} {vs : List (Str × V)} : Rep T K H d v → RepF T K H ds vs → RepF T K H ((f, d) :: ds) ((f, v) :: vs)
end
/-- one heap holds all of another -/
def Sub (H H' : Hp) : Prop := ∀ a o, H a = some o → H' a = some o
theorem Sub.refl (H : Hp) : Sub H H := fun _ _ h => h
theorem Sub.trans {H H1 H2 : Hp} (x : Sub H H1) (y : Sub H1 H2) : Sub H H2 := fun a o h => y a o (x a o h)
theorem Sub.rd {H H' : Hp} (s : Sub H H') {a : Addr} {u : HO} (h : Rd H a u) : Rd H' a u := by
  rcases h with h | ⟨o, h⟩
  · exact .inl (s _ _ h)
  · exact .inr ⟨o, s _ _ h⟩
theorem Sub.sqL {K : PySem.W.Frag} {H H' : Hp} (s : Sub H H') {a : Addr} {vs : List V} (h : SqL K H a vs) : SqL K H' a vs := by
  rcases h with h | h
  · exact .inl (s.rd h)
  · exact .inr h
theorem Sub.sqT {K : PySem.W.Frag} {H H' : Hp} (s : Sub H H') {a : Addr} {vs : List V} (h : SqT K H a vs) : SqT K H' a vs := by
  rcases h with h | h
  · exact .inl (s.rd h)
  · exact .inr h
section
variable {T : Tb} {K : PySem.W.Frag} {H H' : Hp}
mutual
theorem Rep.mono (s : Sub H H') : ∀ {d : D} {v : V}, Rep T K H d v → Rep T K H' d v
  | _, _, .non => .non
  | _, _, .bl b => .bl b
  | _, _, .int i => .int i
  | _, _, .str x => .str x
  | _, _, .ty n => .ty n
  | _, _, .code h => .code h
  | _, _, .tup h r => .tup (s _ _ h) (Reps.mono s r)
  | _, _, .lst h r => .lst (s _ _ h) (Reps.mono s r)
  | _, _, .scr h => .scr (s.sqL h)
  | _, _, .dK h r => .dK (s.rd h) (RepK.mono s r)
  | _, _, .dT h r => .dT (s.rd h) (RepT.mono s r)
  | _, _, .ins c h r => .ins c (s _ _ h) (RepF.mono s r)
theorem Reps.mono (s : Sub H H') : ∀ {d : List D} {v : List V}, Reps T K H d v → Reps T K H' d v
  | _, _, .nil => .nil
  | _, _, .cons h r => .cons (Rep.mono s h) (Reps.mono s r)
theorem RepK.mono (s : Sub H H') : ∀ {d : List (NK × D)} {v : List (Key × V)}, RepK T K H d v → RepK T K H' d v
  | _, _, .nil => .nil
  | _, _, .cons h r => .cons (Rep.mono s h) (RepK.mono s r)
theorem RepT.mono (s : Sub H H') : ∀ {d : List (NK × D)} {v : List (List Key × V)}, RepT T K H d v → RepT T K H' d v
  | _, _, .nil => .nil
  | _, _, .cons h r => .cons (Rep.mono s h) (RepT.mono s r)
theorem RepF.mono (s : Sub H H') : ∀ {d : List (Str × D)} {v : List (Str × V)}, RepF T K H d v → RepF T K H' d v
  | _, _, .nil => .nil
  | _, _, .cons h r => .cons (Rep.mono s h) (RepF.mono s r)
end
theorem Reps.length : ∀ {ds : List D} {vs : List V}, Reps T K H ds vs → ds.length = vs.length
  | _, _, .nil => rfl
  | _, _, .cons _ r => congrArg (· + 1) r.length
theorem Reps.get : ∀ {ds : List D} {vs : List V}, Reps T K H ds vs → ∀ {i : Nat} {d : D}, ds[i]? = some d → ∃ v, vs[i]? = some v ∧ Rep T K H d v
  | _, _, .nil, i, d, h => by simp at h
  | _, _, .cons r _, 0, d, h => by
    simp at h; subst h
    exact ⟨_, rfl, r⟩
  | _, _, .cons _ t, i + 1, d, h => by
    obtain ⟨v, e, r⟩ := Reps.get t (i := i) (d := d) (by simpa using h)
    exact ⟨v, by simpa using e, r⟩
theorem Reps.getV : ∀ {ds : List D} {vs : List V}, Reps T K H ds vs → ∀ {i : Nat} {v : V}, vs[i]? = some v → ∃ d, ds[i]? = some d ∧ Rep T K H d v
  | _, _, .nil, i, d, h => by simp at h
  | _, _, .cons r _, 0, d, h => by
    simp at h; subst h
    exact ⟨_, rfl, r⟩
  | _, _, .cons _ t, i + 1, d, h => by
    obtain ⟨v, e, r⟩ := Reps.getV t (i := i) (v := d) (by simpa using h)
    exact ⟨v, by simpa using e, r⟩
theorem Reps.app : ∀ {ds es : List D} {vs us : List V}, Reps T K H ds vs → Reps T K H es us → Reps T K H (ds ++ es) (vs ++ us)
  | _, _, _, _, .nil, s => s
  | _, _, _, _, .cons r t, s => .cons r (Reps.app t s)
theorem Reps.set {d : D} {v : V} (r : Rep T K H d v) : ∀ {ds : List D} {vs : List V} (i : Nat), Reps T K H ds vs → Reps T K H (ds.set i d) (vs.set i v)
  | _, _, _, .nil => .nil
  | _, _, 0, .cons _ t => .cons r t
  | _, _, i + 1, .cons q t => .cons q (Reps.set r i t)
theorem Reps.take : ∀ {ds : List D} {vs : List V} (n : Nat), Reps T K H ds vs → Reps T K H (ds.take n) (vs.take n)
  | _, _, 0, _ => by simp only [List.take_zero]; exact .nil
  | _, _, _ + 1, .nil => .nil
  | _, _, n + 1, .cons r t => .cons r (Reps.take n t)
theorem Reps.drop : ∀ {ds : List D} {vs : List V} (n : Nat), Reps T K H ds vs → Reps T K H (ds.drop n) (vs.drop n)
  | _, _, 0, r => r
  | _, _, _ + 1, .nil => .nil
  | _, _, n + 1, .cons _ t => Reps.drop n t
theorem Reps.rev : ∀ {ds : List D} {vs : List V}, Reps T K H ds vs → Reps T K H ds.reverse vs.reverse
  | _, _, .nil => .nil
  | _, _, .cons r t => by
    rw [List.reverse_cons, List.reverse_cons]
    exact Reps.app (Reps.rev t) (.cons r .nil)
theorem Reps.ofFn {α : Type} {f : α → D} {g : α → V} (h : ∀ a, Rep T K H (f a) (g a)) : ∀ l : List α, Reps T K H (l.map f) (l.map g)
  | [] => .nil
  | a :: r => .cons (h a) (Reps.ofFn h r)
theorem RepF.look {f : Str} : ∀ {ds : List (Str × D)} {vs : List (Str × V)}, RepF T K H ds vs → ∀ {d : D}, ds.lookup f = some d → ∃ v, vs.lookup f = some v ∧ Rep T K H d v
  | _, _, .nil, d, h => by simp at h
  | _, _, .cons (f := g) r t, d, h => by
    by_cases e : f = g
    · subst e
      simp only [List.lookup_cons_self, Option.some.injEq] at h
      subst h
      exact ⟨_, by simp only [List.lookup_cons_self], r⟩
    · have hb : (f == g) = false := beq_eq_false_iff_ne.mpr e
      rw [List.lookup_cons, hb] at h
      obtain ⟨v, e1, r1⟩ := RepF.look t h
      exact ⟨v, by rw [List.lookup_cons, hb]; exact e1, r1⟩
end
/-! ## What is owned -/
mutual
inductive Own (T : Tb) (K : PySem.W.Frag) (Hf H : Hp) : OT → V → (Addr → Prop) → Prop where
  | fz {d : D} {v : V} {S : Addr → Prop} : Rep T K Hf d v → (∀ a, ¬ S a) → Own T K Hf H (.fz d) v S
  | lst {a : Addr} {vs : List V} {xs : List D} {S : Addr → Prop} : H a = some (.lst vs) → Reps T K Hf xs vs → (∀ b, S b ↔ b = a) → Own T K Hf H (.lst xs) (.ref a) S
  | dK {a : Addr} {ks : List (Key × V)} {kvs : List (NK × D)} {S : Addr → Prop} : H a = some (.dK ks) → RepK T K Hf kvs ks → (∀ b, S b ↔ b = a) → Own T K Hf H (.dic false kvs) (.ref a) S
  | dT {a : Addr} {ks : List (List Key × V)} {kvs : List (NK × D)} {S : Addr → Prop} : H a = some (.dT ks) → RepT T K Hf kvs ks → (∀ b, S b ↔ b = a) → Own T K Hf H (.dic true kvs) (.ref a) S
  | ins {a C dx : Addr} {c : Str} {gs : List (Str × V)} {fs : List (Str × OT)} {S S1 : Addr → Prop} : T.cls c = some C → H a = some (.ins C dx gs) → OwnF T K Hf H fs gs S1 → ¬ S1 a → (∀ b, S b ↔ b = a ∨ S1 b) → Own T K Hf H (.ins c fs) (.ref a) S
inductive OwnF (T : Tb) (K : PySem.W.Frag) (Hf H : Hp) : List (Str × OT) → List (Str × V) → (Addr → Prop) → Prop where
  | nil {S : Addr → Prop} : (∀ a, ¬ S a) → OwnF T K Hf H [] [] S
  | cons {f : Str} {t : OT} {v : V} {ts : List (Str × OT)} {vs : List (Str × V)} {S S1 S2 : Addr → Prop} : Own T K Hf H t v S1 → OwnF T K Hf H ts vs S2 → (∀ a, S1 a → S2 a → False) → (∀ a, S a ↔ S1 a ∨ S2 a) → OwnF T K Hf H ((f, t) :: ts) ((f, v) :: vs) S
end
section
variable {T : Tb} {K : PySem.W.Frag} {Hf Hf' H H' : Hp}
mutual
theorem Own.move (sf : Sub Hf Hf') : ∀ {t : OT} {v : V} {S : Addr → Prop}, Own T K Hf H t v S → (∀ a o, S a → H a = some o → H' a = some o) → Own T K Hf' H' t v S
  | _, _, _, .fz r n, _ => .fz (r.mono sf) n
  | _, _, _, .lst h r n, k => .lst (k _ _ ((n _).mpr rfl) h) (r.mono sf) n
  | _, _, _, .dK h r n, k => .dK (k _ _ ((n _).mpr rfl) h) (r.mono sf) n
  | _, _, _, .dT h r n, k => .dT (k _ _ ((n _).mpr rfl) h) (r.mono sf) n
  | _, _, _, .ins c h r z n, k => .ins c (k _ _ ((n _).mpr (.inl rfl)) h) (OwnF.move sf r fun a o q => k a o ((n _).mpr (.inr q))) z n
theorem OwnF.move (sf : Sub Hf Hf') : ∀ {t : List (Str × OT)} {v : List (Str × V)} {S : Addr → Prop}, OwnF T K Hf H t v S → (∀ a o, S a → H a = some o → H' a = some o) → OwnF T K Hf' H' t v S
  | _, _, _, .nil n, _ => .nil n
  | _, _, _, .cons x r z n, k => .cons (Own.move sf x fun a o q => k a o ((n a).mpr (.inl q))) (OwnF.move sf r fun a o q => k a o ((n a).mpr (.inr q))) z n
end
/-- no tuple -/
def NT (o : HO) : Prop := ∀ xs, o ≠ .tup xs
mutual
/-- what is owned stands in the heap, and is no tuple -/
theorem Own.there : ∀ {t : OT} {v : V} {S : Addr → Prop}, Own T K Hf H t v S → ∀ a, S a → ∃ o, H a = some o ∧ NT o
  | _, _, _, .fz _ n, a, q => absurd q (n a)
  | _, _, _, .lst h _ n, a, q => by rw [(n a).mp q]; exact ⟨_, h, fun _ e => (nomatch e)⟩
  | _, _, _, .dK h _ n, a, q => by rw [(n a).mp q]; exact ⟨_, h, fun _ e => (nomatch e)⟩
  | _, _, _, .dT h _ n, a, q => by rw [(n a).mp q]; exact ⟨_, h, fun _ e => (nomatch e)⟩
  | _, _, _, .ins c h r z n, a, q => by
    rcases (n a).mp q with e | q
    · rw [e]; exact ⟨_, h, fun _ e => (nomatch e)⟩
    · exact OwnF.there r a q
theorem OwnF.there : ∀ {t : List (Str × OT)} {v : List (Str × V)} {S : Addr → Prop}, OwnF T K Hf H t v S → ∀ a, S a → ∃ o, H a = some o ∧ NT o
  | _, _, _, .nil n, a, q => absurd q (n a)
  | _, _, _, .cons x r z n, a, q => by
    rcases (n a).mp q with q | q
    · exact Own.there x a q
    · exact OwnF.there r a q
end
mutual
theorem Own.rep (s : Sub Hf H) : ∀ {t : OT} {v : V} {S : Addr → Prop}, Own T K Hf H t v S → Rep T K H t.er v
  | _, _, _, .fz r _ => r.mono s
  | _, _, _, .lst h r _ => .lst h (r.mono s)
  | _, _, _, .dK h r _ => .dK (.inl h) (r.mono s)
  | _, _, _, .dT h r _ => .dT (.inl h) (r.mono s)
  | _, _, _, .ins c h r z _ => .ins c h (OwnF.rep s r)
theorem OwnF.rep (s : Sub Hf H) : ∀ {t : List (Str × OT)} {v : List (Str × V)} {S : Addr → Prop}, OwnF T K Hf H t v S → RepF T K H (erF t) v
  | _, _, _, .nil _ => .nil
  | _, _, _, .cons x r _ _ => .cons (Own.rep s x) (OwnF.rep s r)
end
/-- a value that reads as d, its items frozen -/
def View (T : Tb) (K : PySem.W.Frag) (Hf H : Hp) (d : D) (v : V) : Prop := ∃ t S, Own T K Hf H t v S ∧ t.er = d
theorem View.of_rep {d : D} {v : V} (r : Rep T K Hf d v) : View T K Hf H d v := ⟨.fz d, fun _ => False, .fz r fun _ h => h, rfl⟩
theorem View.non {v : V} (h : View T K Hf H .non v) : v = .non := by
  obtain ⟨t, S, o, e⟩ := h
  cases o with
  | fz r _ => cases e; cases r; rfl
  | _ => cases e
theorem View.bl {v : V} {b : Bool} (h : View T K Hf H (.bl b) v) : v = .bl b := by
  obtain ⟨t, S, o, e⟩ := h
  cases o with
  | fz r _ => cases e; cases r; rfl
  | _ => cases e
theorem View.int {v : V} {i : Int} (h : View T K Hf H (.int i) v) : v = .int i := by
  obtain ⟨t, S, o, e⟩ := h
  cases o with
  | fz r _ => cases e; cases r; rfl
  | _ => cases e
theorem View.str {v : V} {i : Str} (h : View T K Hf H (.str i) v) : v = .str i := by
  obtain ⟨t, S, o, e⟩ := h
  cases o with
  | fz r _ => cases e; cases r; rfl
  | _ => cases e
theorem View.tup {v : V} {xs : List D} (h : View T K Hf H (.tup xs) v) : ∃ a vs, v = .ref a ∧ Hf a = some (.tup vs) ∧ Reps T K Hf xs vs := by
  obtain ⟨t, S, o, e⟩ := h
  cases o with
  | fz r _ => cases e; cases r with | tup h r => exact ⟨_, _, rfl, h, r⟩
  | _ => cases e
theorem View.lst (s : Sub Hf H) {v : V} {xs : List D} (h : View T K Hf H (.lst xs) v) : ∃ a vs, v = .ref a ∧ H a = some (.lst vs) ∧ Reps T K Hf xs vs := by
  obtain ⟨t, S, o, e⟩ := h
  cases o with
  | fz r _ => cases e; cases r with | lst h r => exact ⟨_, _, rfl, s _ _ h, r⟩
  | lst h r _ => cases e; exact ⟨_, _, rfl, h, r⟩
  | _ => cases e
theorem View.scr (s : Sub Hf H) {v : V} {ns : List Int} (h : View T K Hf H (.scr ns) v) : ∃ a, v = .ref a ∧ SqL K H a (ns.map V.int) := by
  obtain ⟨t, S, o, e⟩ := h
  cases o with
  | fz r _ => cases e; cases r with | scr h => exact ⟨_, rfl, s.sqL h⟩
  | _ => cases e
theorem View.dic (s : Sub Hf H) {v : V} {b : Bool} {xs : List (NK × D)} (h : View T K Hf H (.dic b xs) v) : ∃ a, v = .ref a ∧ ((b = false ∧ ∃ ks, Rd H a (.dK ks) ∧ RepK T K Hf xs ks) ∨ (b = true ∧ ∃ ks, Rd H a (.dT ks) ∧ RepT T K Hf xs ks)) := by
  obtain ⟨t, S, o, e⟩ := h
  cases o with
  | fz r _ =>
    cases e
    cases r with
    | dK h r => exact ⟨_, rfl, .inl ⟨rfl, _, s.rd h, r⟩⟩
    | dT h r => exact ⟨_, rfl, .inr ⟨rfl, _, s.rd h, r⟩⟩
  | dK h r _ => cases e; exact ⟨_, rfl, .inl ⟨rfl, _, .inl h, r⟩⟩
  | dT h r _ => cases e; exact ⟨_, rfl, .inr ⟨rfl, _, .inl h, r⟩⟩
  | _ => cases e
end
end Mi
namespace Mi
open PySem L2
/-! ## The mirror's state: a def's slots, by value -/
abbrev ME := List (Option OT)
/-- what an expression gives: frozen data; a new object; the object of a slot -/
inductive ER where
  | fz (d : D)
  | new (t : OT)
  | bor (i : Nat)
inductive Res (α : Type) where
  | ok (a : α) (env : ME)
  | exc (c : Str) (fs : List (Str × D)) (env : ME)
  | bad
def Res.bind {α β : Type} (r : Res α) (f : α → ME → Res β) : Res β :=
  match r with
  | .ok a env => f a env
  | .exc c fs env => .exc c fs env
  | .bad => .bad
inductive SR where
  | nx (env : ME)
  | ret (t : OT) (env : ME)
  | bk (env : ME)
  | ct (env : ME)
  | exc (c : Str) (fs : List (Str × D)) (env : ME)
  | bad
abbrev EM := ME → Res ER
abbrev TM := ME → Res Bool
abbrev AM := ME → Res (List ER)
abbrev SM := ME → SR
/-- the object of a slot -/
@[simp] def slot (env : ME) (i : Nat) : Option OT := (env[i]?).join
@[simp] def viewD (env : ME) : ER → Option D
  | .fz d => some d
  | .new t => some t.er
  | .bor i => (slot env i).map OT.er
/-! ## heaps -/
def noDict (o : HO) : Prop := (∀ ks, o ≠ .dK ks) ∧ ∀ ks, o ≠ .dT ks
def HfOk (Hf : Hp) : Prop := ∀ a o, Hf a = some o → noDict o
abbrev Ad := Addr → Prop
/-- what a piece of code may do: the owned objects S may change, new ones come -/
structure Step (S : Ad) (Hf H : Hp) (S' : Ad) (Hf' H' : Hp) : Prop where
  fz : Sub Hf Hf'
  keep : ∀ a o, H a = some o → ¬ S a → H' a = some o
  newf : ∀ a o, Hf' a = some o → Hf a = some o ∨ H a = none ∨ S a ∨ ∃ xs, o = .tup xs
  news : ∀ a, S' a → S a ∨ H a = none
  dom : ∀ a o, H a = some o → ∃ o', H' a = some o' ∧ (NT o → NT o')
theorem Step.refl {S : Ad} {Hf H : Hp} : Step S Hf H S Hf H := ⟨Sub.refl _, fun _ _ h _ => h, fun _ _ h => .inl h, fun _ h => .inl h, fun _ o h => ⟨o, h, id⟩⟩
theorem Step.nn {S S' : Ad} {Hf H Hf' H' : Hp} (x : Step S Hf H S' Hf' H') {a : Addr} (h : H' a = none) : H a = none := by
  cases e : H a with
  | none => rfl
  | some o =>
    obtain ⟨o', e', _⟩ := x.dom a o e
    rw [h] at e'; cases e'
theorem Step.trans {S S1 S2 : Ad} {Hf H Hf1 H1 Hf2 H2 : Hp} (x : Step S Hf H S1 Hf1 H1) (y : Step S1 Hf1 H1 S2 Hf2 H2) : Step S Hf H S2 Hf2 H2 where
  fz := x.fz.trans y.fz
  keep := fun a o h n => y.keep a o (x.keep a o h n) fun q => by
    rcases x.news a q with z | z
    · exact n z
    · rw [h] at z; cases z
  newf := fun a o h => by
    rcases y.newf a o h with z | z | z | z
    · exact x.newf a o z
    · exact .inr (.inl (x.nn z))
    · rcases x.news a z with q | q
      · exact .inr (.inr (.inl q))
      · exact .inr (.inl q)
    · exact .inr (.inr (.inr z))
  news := fun a h => by
    rcases y.news a h with z | z
    · exact x.news a z
    · exact .inr (x.nn z)
  dom := fun a o h => by
    obtain ⟨o1, h1, n1⟩ := x.dom a o h
    obtain ⟨o2, h2, n2⟩ := y.dom a o1 h1
    exact ⟨o2, h2, fun z => n2 (n1 z)⟩
/-- less may be owned before or behind -/
theorem Step.weakS {S S0 S' : Ad} {Hf H Hf' H' : Hp} (x : Step S Hf H S' Hf' H') (h : ∀ a, S a → S0 a) : Step S0 Hf H S' Hf' H' where
  fz := x.fz
  keep := fun a o e n => x.keep a o e fun z => n (h a z)
  newf := fun a o e => by
    rcases x.newf a o e with z | z | z | z
    · exact .inl z
    · exact .inr (.inl z)
    · exact .inr (.inr (.inl (h a z)))
    · exact .inr (.inr (.inr z))
  news := fun a e => by
    rcases x.news a e with z | z
    · exact .inl (h a z)
    · exact .inr z
  dom := x.dom
/-- what must stay: slots that hold their object; instances that stand as they are -/
structure Pn where
  sl : List (Nat × V)
  hp : List (Addr × Addr × Addr × List (Str × V))
abbrev Pn.mt : Pn := ⟨[], []⟩
/-- the instances stand -/
def Stand (H H' : Hp) : Prop := ∀ a C dx gs, H a = some (.ins C dx gs) → H' a = some (.ins C dx gs)
theorem Stand.sub {H H' : Hp} (s : ∀ a o, H a = some o → H' a = some o) : Stand H H' := fun a _ _ _ e => s a _ e
/-- the slots σ of a def bear the mirror's slots env. S: what they own; F: slots that must hold their object -/
structure Rel (T : Tb) (K : PySem.W.Frag) (F : Pn) (env : ME) (σ : St) (Hf H : Hp) (S : Ad) : Prop where
  sub : Sub Hf H
  nod : HfOk Hf
  len : σ.length = env.length
  cells : ∃ fp : Nat → Ad, (∀ i t, slot env i = some t → ∃ v, σ[i]? = some (some v) ∧ Own T K Hf H t v (fp i)) ∧ (∀ i a, fp i a → ∃ t, slot env i = some t) ∧ (∀ i j a, fp i a → fp j a → i = j) ∧ ∀ i a, fp i a → S a
  owned : ∀ a, S a → Hf a = none
  there : ∀ a, S a → ∃ o, H a = some o ∧ NT o
  pins : ∀ p ∈ F.sl, σ[p.1]? = some (some p.2)
  stand : ∀ p ∈ F.hp, H p.1 = some (.ins p.2.1 p.2.2.1 p.2.2.2)
section
variable {T : Tb} {K : PySem.W.Frag} {F : Pn} {env : ME} {σ : St} {Hf H Hf' H' : Hp} {S S' : Ad}
theorem slot_lt {i : Nat} {t : OT} (h : slot env i = some t) : i < env.length := by
  unfold slot at h
  cases e : env[i]? with
  | none => rw [e] at h; cases h
  | some x => exact (List.getElem?_eq_some_iff.mp e).1
theorem slot_set {i j : Nat} {x : Option OT} (hi : i < env.length) : slot (env.set i x) j = if i = j then x else slot env j := by
  unfold slot
  by_cases e : i = j
  · subst e
    rw [List.getElem?_set_self hi, if_pos rfl]
    rfl
  · rw [List.getElem?_set_ne e, if_neg e]
theorem Rel.at (R : Rel T K F env σ Hf H S) {i : Nat} {t : OT} (h : slot env i = some t) : ∃ v P, σ[i]? = some (some v) ∧ Own T K Hf H t v P ∧ ∀ a, P a → S a := by
  obtain ⟨fp, c1, c2, c3, c4⟩ := R.cells
  obtain ⟨v, e, o⟩ := c1 i t h
  exact ⟨v, fp i, e, o, fun a q => c4 i a q⟩
/-- more of the heap -/
theorem Rel.grow (R : Rel T K F env σ Hf H S) (sf : Sub Hf Hf') (sh : Sub H H') (s : Sub Hf' H') (nod : HfOk Hf') (ow : ∀ a, S a → Hf' a = none) : Rel T K F env σ Hf' H' S where
  sub := s
  nod := nod
  len := R.len
  cells := by
    obtain ⟨fp, c1, c2, c3, c4⟩ := R.cells
    refine ⟨fp, fun i t h => ?_, c2, c3, c4⟩
    obtain ⟨v, e, o⟩ := c1 i t h
    exact ⟨v, e, o.move sf fun a o' q h => sh a o' h⟩
  owned := ow
  there := fun a h => by
    obtain ⟨o, e, n⟩ := R.there a h
    exact ⟨o, sh a o e, n⟩
  pins := R.pins
  stand := fun p hp => sh _ _ (R.stand p hp)
theorem Rel.hf (R : Rel T K F env σ Hf H S) {p : Addr} (hp : H p = none) : Hf p = none := by
  cases e : Hf p with
  | none => rfl
  | some u => rw [R.sub p u e] at hp; cases hp
theorem Rel.ns (R : Rel T K F env σ Hf H S) {p : Addr} (hp : H p = none) : ¬ S p := fun h => by
  obtain ⟨o, e, _⟩ := R.there p h
  rw [e] at hp; cases hp
theorem sub_upd {H : Hp} {p : Addr} {o : HO} (hp : H p = none) : Sub H (upd H p o) := fun a u e => by
  rw [upd_ne (ne_of_none e hp)]; exact e
theorem dom_new {H : Hp} {p : Addr} {o : HO} (hp : H p = none) : ∀ a u, H a = some u → ∃ u', upd H p o a = some u' ∧ (NT u → NT u') := fun a u e => ⟨u, sub_upd hp a u e, id⟩
theorem dom_upd {H : Hp} {p : Addr} {o : HO} (n : NT o) : ∀ a u, H a = some u → ∃ u', upd H p o a = some u' ∧ (NT u → NT u') := fun a u e => by
  by_cases h : a = p
  · subst h; exact ⟨_, upd_same, fun _ => n⟩
  · exact ⟨u, by rw [upd_ne h]; exact e, id⟩
theorem upd_some {H : Hp} {p a : Addr} {o u : HO} (h : upd H p o a = some u) : (a = p ∧ u = o) ∨ (a ≠ p ∧ H a = some u) := by
  by_cases e : a = p
  · subst e
    rw [upd_same] at h
    exact .inl ⟨rfl, (Option.some.inj h).symm⟩
  · rw [upd_ne e] at h
    exact .inr ⟨e, h⟩
/-- a new frozen object -/
theorem Rel.newFz (R : Rel T K F env σ Hf H S) {p : Addr} {o : HO} (hp : H p = none) (nd : noDict o) : Rel T K F env σ (upd Hf p o) (upd H p o) S ∧ Step S Hf H S (upd Hf p o) (upd H p o) := by
  have hfp := R.hf hp
  refine ⟨R.grow (sub_upd hfp) (sub_upd hp) (fun a u e => ?_) (fun a u e => ?_) (fun a q => ?_), sub_upd hfp, fun a u e _ => sub_upd hp a u e, fun a u e => ?_, fun a q => .inl q, dom_new hp⟩
  · rcases upd_some e with ⟨rfl, rfl⟩ | ⟨n, e⟩
    · exact upd_same
    · rw [upd_ne n]; exact R.sub a u e
  · rcases upd_some e with ⟨rfl, rfl⟩ | ⟨n, e⟩
    · exact nd
    · exact R.nod a u e
  · have : a ≠ p := fun z => R.ns hp (z ▸ q)
    rw [upd_ne this]
    exact R.owned a q
  · rcases upd_some e with ⟨rfl, rfl⟩ | ⟨n, e⟩
    · exact .inr (.inl hp)
    · exact .inl e
/-- a new object that nobody has yet -/
theorem Rel.newOw (R : Rel T K F env σ Hf H S) {p : Addr} {o : HO} (hp : H p = none) : Rel T K F env σ Hf (upd H p o) S ∧ Step S Hf H S Hf (upd H p o) :=
  ⟨R.grow (Sub.refl _) (sub_upd hp) (fun a u e => sub_upd hp a u (R.sub a u e)) R.nod R.owned, Sub.refl _, fun a u e _ => sub_upd hp a u e, fun a u e => .inl e, fun a q => .inl q, dom_new hp⟩
/-- a slot gets frozen data -/
theorem Rel.setFz (R : Rel T K F env σ Hf H S) {i : Nat} {d : D} {v : V} (r : Rep T K Hf d v) (hi : i < env.length) (hF : ∀ p ∈ F.sl, p.1 ≠ i) : Rel T K F (env.set i (some (.fz d))) (σ.set i (some v)) Hf H S where
  sub := R.sub
  nod := R.nod
  len := by rw [List.length_set, List.length_set]; exact R.len
  cells := by
    obtain ⟨fp, c1, c2, c3, c4⟩ := R.cells
    refine ⟨fun j a => j ≠ i ∧ fp j a, fun j t h => ?_, fun j a h => ?_, fun j k a h1 h2 => c3 j k a h1.2 h2.2, fun j a h => c4 j a h.2⟩
    · rw [slot_set hi] at h
      by_cases e : i = j
      · subst e
        rw [if_pos rfl] at h; cases h
        exact ⟨v, List.getElem?_set_self (by rw [R.len]; exact hi), .fz r fun a q => q.1 rfl⟩
      · rw [if_neg e] at h
        obtain ⟨u, e1, o⟩ := c1 j t h
        refine ⟨u, by rw [List.getElem?_set_ne e]; exact e1, ?_⟩
        have : (fun a => j ≠ i ∧ fp j a) = fp j := by funext a; simp [Ne.symm e]
        (dsimp only; rw [this]); exact o
    · obtain ⟨t, e⟩ := c2 j a h.2
      exact ⟨t, by rw [slot_set hi, if_neg (Ne.symm h.1)]; exact e⟩
  owned := R.owned
  there := R.there
  pins := fun p hp => by rw [List.getElem?_set_ne (Ne.symm (hF p hp))]; exact R.pins p hp
  stand := R.stand
/-- a slot gets an object -/
theorem Rel.setOw (R : Rel T K F env σ Hf H S) {i : Nat} {t : OT} {v : V} {P : Ad} (o : Own T K Hf H t v P) (hP : ∀ a, P a → ¬ S a ∧ Hf a = none) (hi : i < env.length) (hF : ∀ p ∈ F.sl, p.1 ≠ i) :
    Rel T K F (env.set i (some t)) (σ.set i (some v)) Hf H (fun a => S a ∨ P a) where
  sub := R.sub
  nod := R.nod
  len := by rw [List.length_set, List.length_set]; exact R.len
  cells := by
    obtain ⟨fp, c1, c2, c3, c4⟩ := R.cells
    refine ⟨fun j a => (j = i ∧ P a) ∨ (j ≠ i ∧ fp j a), fun j u h => ?_, fun j a h => ?_, fun j k a h1 h2 => ?_, fun j a h => ?_⟩
    · rw [slot_set hi] at h
      by_cases e : i = j
      · subst e
        rw [if_pos rfl] at h; cases h
        refine ⟨v, List.getElem?_set_self (by rw [R.len]; exact hi), ?_⟩
        have : (fun a => (i = i ∧ P a) ∨ (i ≠ i ∧ fp i a)) = P := by funext a; simp
        (dsimp only; rw [this]); exact o
      · rw [if_neg e] at h
        obtain ⟨u', e1, o'⟩ := c1 j u h
        refine ⟨u', by rw [List.getElem?_set_ne e]; exact e1, ?_⟩
        have : (fun a => (j = i ∧ P a) ∨ (j ≠ i ∧ fp j a)) = fp j := by funext a; simp [Ne.symm e]
        (dsimp only; rw [this]); exact o'
    · rcases h with ⟨e, h⟩ | ⟨e, h⟩
      · subst e; exact ⟨t, by rw [slot_set hi, if_pos rfl]⟩
      · obtain ⟨u, e1⟩ := c2 j a h
        exact ⟨u, by rw [slot_set hi, if_neg (Ne.symm e)]; exact e1⟩
    · rcases h1 with ⟨e, h1⟩ | ⟨e, h1⟩ <;> rcases h2 with ⟨e2, h2⟩ | ⟨e2, h2⟩
      · rw [e, e2]
      · exact absurd (c4 k a h2) (hP a h1).1
      · exact absurd (c4 j a h1) (hP a h2).1
      · exact c3 j k a h1 h2
    · rcases h with ⟨_, h⟩ | ⟨_, h⟩
      · exact .inr h
      · exact .inl (c4 j a h)
  owned := fun a h => h.elim (R.owned a) fun q => (hP a q).2
  there := fun a h => h.elim (R.there a) fun q => o.there a q
  pins := fun p hp => by rw [List.getElem?_set_ne (Ne.symm (hF p hp))]; exact R.pins p hp
  stand := R.stand
/-- a slot is forgotten; what it owned goes -/
theorem Rel.take (R : Rel T K F env σ Hf H S) {i : Nat} {t : OT} (h : slot env i = some t) : ∃ v P, σ[i]? = some (some v) ∧ Own T K Hf H t v P ∧ (∀ a, P a → S a) ∧
    Rel T K F (env.set i none) σ Hf H (fun a => S a ∧ ¬ P a) := by
  obtain ⟨fp, c1, c2, c3, c4⟩ := R.cells
  obtain ⟨v, e, o⟩ := c1 i t h
  have hi := slot_lt h
  refine ⟨v, fp i, e, o, fun a q => c4 i a q, R.sub, R.nod, by rw [List.length_set]; exact R.len, ⟨fun j a => j ≠ i ∧ fp j a, fun j u hj => ?_, fun j a q => ?_, fun j k a h1 h2 => c3 j k a h1.2 h2.2, fun j a q => ⟨c4 j a q.2, fun z => q.1 (c3 j i a q.2 z)⟩⟩, fun a q => R.owned a q.1, fun a q => R.there a q.1, R.pins, R.stand⟩
  · rw [slot_set hi] at hj
    by_cases e : i = j
    · rw [if_pos e] at hj; cases hj
    · rw [if_neg e] at hj
      obtain ⟨u', e1, o'⟩ := c1 j u hj
      refine ⟨u', e1, ?_⟩
      have : (fun a => j ≠ i ∧ fp j a) = fp j := by funext a; simp [Ne.symm e]
      (dsimp only; rw [this]); exact o'
  · obtain ⟨u, e1⟩ := c2 j a q.2
    exact ⟨u, by rw [slot_set hi, if_neg (Ne.symm q.1)]; exact e1⟩
/-- the object of a slot changes: P what it owned, P' what it owns now -/
theorem Rel.mutG (R : Rel T K F env σ Hf H S) {i : Nat} {t : OT} (h : slot env i = some t) : ∃ v P, σ[i]? = some (some v) ∧ Own T K Hf H t v P ∧ (∀ a, P a → S a) ∧
    ∀ {Hf' H' : Hp} {t' : OT} {P' Pm : Ad}, Step P Hf H Pm Hf' H' → (∀ a, P' a → P a ∨ H a = none ∨ ¬ S a) → Sub Hf' H' → HfOk Hf' → Own T K Hf' H' t' v P' → (∀ a, P' a → Hf' a = none) → (∀ p ∈ F.hp, H' p.1 = H p.1) →
      Rel T K F (env.set i (some t')) σ Hf' H' (fun a => (S a ∧ ¬ P a) ∨ P' a) := by
  obtain ⟨fp, c1, c2, c3, c4⟩ := R.cells
  obtain ⟨v, e, o⟩ := c1 i t h
  have hi := slot_lt h
  refine ⟨v, fp i, e, o, fun a q => c4 i a q, fun {Hf' H' t' P' Pm} st hn sub nod o' ow hs => ⟨sub, nod, by rw [List.length_set]; exact R.len, ⟨fun j a => (j = i ∧ P' a) ∨ (j ≠ i ∧ fp j a), fun j u hj => ?_, fun j a q => ?_, fun j k a h1 h2 => ?_, fun j a q => ?_⟩, fun a q => ?_, fun a q => ?_, R.pins, fun p hp => (hs p hp).trans (R.stand p hp)⟩⟩
  · rw [slot_set hi] at hj
    by_cases e' : i = j
    · subst e'
      rw [if_pos rfl] at hj; cases hj
      refine ⟨v, e, ?_⟩
      have : (fun a => (i = i ∧ P' a) ∨ (i ≠ i ∧ fp i a)) = P' := by funext a; simp
      (dsimp only; rw [this]); exact o'
    · rw [if_neg e'] at hj
      obtain ⟨u', e1, o2⟩ := c1 j u hj
      refine ⟨u', e1, ?_⟩
      have : (fun a => (j = i ∧ P' a) ∨ (j ≠ i ∧ fp j a)) = fp j := by funext a; simp [Ne.symm e']
      dsimp only; rw [this]
      exact o2.move st.fz fun a ob q hb => st.keep a ob hb fun z => e' (c3 i j a z q)
  · rcases q with ⟨e', q⟩ | ⟨e', q⟩
    · subst e'; exact ⟨t', by rw [slot_set hi, if_pos rfl]⟩
    · obtain ⟨u, e1⟩ := c2 j a q
      exact ⟨u, by rw [slot_set hi, if_neg (Ne.symm e')]; exact e1⟩
  · rcases h1 with ⟨e1, h1⟩ | ⟨e1, h1⟩ <;> rcases h2 with ⟨e2, h2⟩ | ⟨e2, h2⟩
    · rw [e1, e2]
    · exfalso
      rcases hn a h1 with z | z | z
      · exact e2 (c3 k i a h2 z)
      · obtain ⟨ob, z2, _⟩ := R.there a (c4 k a h2)
        rw [z] at z2; cases z2
      · exact z (c4 k a h2)
    · exfalso
      rcases hn a h2 with z | z | z
      · exact e1 (c3 j i a h1 z)
      · obtain ⟨ob, z2, _⟩ := R.there a (c4 j a h1)
        rw [z] at z2; cases z2
      · exact z (c4 j a h1)
    · exact c3 j k a h1 h2
  · rcases q with ⟨_, q⟩ | ⟨e1, q⟩
    · exact .inr q
    · exact .inl ⟨c4 j a q, fun z => e1 (c3 j i a q z)⟩
  · rcases q with ⟨q, n⟩ | q
    · cases eh : Hf' a with
      | none => rfl
      | some ob =>
        obtain ⟨ob2, z2, nt⟩ := R.there a q
        rcases st.newf a ob eh with z | z | z | ⟨xs, z⟩
        · rw [R.owned a q] at z; cases z
        · rw [z] at z2; cases z2
        · exact absurd z n
        · have y1 := sub a ob eh
          rw [st.keep a ob2 z2 n] at y1
          cases y1
          exact absurd z (nt xs)
    · exact ow a q
  · rcases q with ⟨q, n⟩ | q
    · obtain ⟨ob, z, nt⟩ := R.there a q
      exact ⟨ob, st.keep a ob z n, nt⟩
    · exact o'.there a q
/-- the object of a slot changes by itself: the step -/
theorem Rel.mut (R : Rel T K F env σ Hf H S) {i : Nat} {t : OT} (h : slot env i = some t) : ∃ v P, σ[i]? = some (some v) ∧ Own T K Hf H t v P ∧ (∀ a, P a → S a) ∧
    ∀ {Hf' H' : Hp} {t' : OT} {P' : Ad}, Step P Hf H P' Hf' H' → Sub Hf' H' → HfOk Hf' → Own T K Hf' H' t' v P' → (∀ a, P' a → Hf' a = none) → (∀ p ∈ F.hp, H' p.1 = H p.1) →
      Rel T K F (env.set i (some t')) σ Hf' H' (fun a => (S a ∧ ¬ P a) ∨ P' a) ∧ Step S Hf H (fun a => (S a ∧ ¬ P a) ∨ P' a) Hf' H' := by
  obtain ⟨v, P, e, o, hP, k⟩ := R.mutG h
  refine ⟨v, P, e, o, hP, fun {Hf' H' t' P'} st sub nod o' ow hs => ⟨k st (fun a z => (st.news a z).imp id .inl) sub nod o' ow hs, st.fz, fun a ob q n => st.keep a ob q fun z => n (hP a z), fun a ob q => ?_, fun a q => ?_, st.dom⟩⟩
  · rcases st.newf a ob q with z | z | z | z
    · exact .inl z
    · exact .inr (.inl z)
    · exact .inr (.inr (.inl (hP a z)))
    · exact .inr (.inr (.inr z))
  · rcases q with ⟨q, _⟩ | q
    · exact .inl q
    · exact (st.news a q).imp (hP a) id
/-- .. seen from a begin -/
theorem Step.mutd {S1 P P' Pm : Ad} {Hf1 H1 : Hp} (x : Step S1 Hf1 H1 S Hf H) (st : Step P Hf H Pm Hf' H') (hP : ∀ a, P a → S a) (hn : ∀ a, P' a → P a ∨ S1 a ∨ H1 a = none) : Step S1 Hf1 H1 (fun a => (S a ∧ ¬ P a) ∨ P' a) Hf' H' where
  fz := x.fz.trans st.fz
  keep := fun a o e n => st.keep a o (x.keep a o e n) fun z => (x.news a (hP a z)).elim n fun q => by rw [e] at q; cases q
  newf := fun a o e => by
    rcases st.newf a o e with z | z | z | z
    · exact x.newf a o z
    · exact .inr (.inl (x.nn z))
    · rcases x.news a (hP a z) with q | q
      · exact .inr (.inr (.inl q))
      · exact .inr (.inl q)
    · exact .inr (.inr (.inr z))
  news := fun a q => by
    rcases q with ⟨q, _⟩ | q
    · exact x.news a q
    · rcases hn a q with z | z
      · exact x.news a (hP a z)
      · exact z
  dom := fun a o e => by
    obtain ⟨o1, e1, n1⟩ := x.dom a o e
    obtain ⟨o2, e2, n2⟩ := st.dom a o1 e1
    exact ⟨o2, e2, fun z => n2 (n1 z)⟩
/-! ## results -/
/-- the result r of an expression is the value v; S₀, H₀: as the expression began -/
def TRel (T : Tb) (K : PySem.W.Frag) (env : ME) (σ : St) (Hf H : Hp) (S : Ad) (S0 : Ad) (H0 : Hp) : ER → V → Prop
  | .fz d, v => Rep T K Hf d v
  | .new t, v => ∃ P, Own T K Hf H t v P ∧ ∀ a, P a → (H0 a = none ∨ S0 a) ∧ ¬ S a ∧ Hf a = none
  | .bor i, v => σ[i]? = some (some v)
/-- what came before stands behind a further step -/
theorem TRel.step {env env' : ME} {S0 S1 S2 : Ad} {Hf1 H1 Hf2 H2 H0 : Hp} {r : ER} {v : V} (t : TRel T K env σ Hf1 H1 S1 S0 H0 r v) (st : Step S1 Hf1 H1 S2 Hf2 H2) (sub : Sub Hf2 H2) : TRel T K env' σ Hf2 H2 S2 S0 H0 r v := by
  cases r with
  | fz d => exact Rep.mono st.fz t
  | bor i => exact t
  | new u =>
    obtain ⟨P, o, h⟩ := t
    refine ⟨P, o.move st.fz fun a ob q e => st.keep a ob e (h a q).2.1, fun a q => ⟨(h a q).1, fun z => ?_, ?_⟩⟩
    · rcases st.news a z with z | z
      · exact (h a q).2.1 z
      · obtain ⟨ob, e, _⟩ := o.there a q
        rw [z] at e; cases e
    · cases e : Hf2 a with
      | none => rfl
      | some ob =>
        obtain ⟨ob2, e2, nt⟩ := o.there a q
        rcases st.newf a ob e with z | z | z | ⟨xs, z⟩
        · rw [(h a q).2.2] at z; cases z
        · rw [z] at e2; cases e2
        · exact absurd z (h a q).2.1
        · have y1 := sub a ob e
          rw [st.keep a ob2 e2 (h a q).2.1] at y1
          cases y1
          exact absurd z (nt xs)
/-- seen from an earlier begin -/
theorem TRel.early {S0 S1 S2 : Ad} {H0 H1 Hf0 Hf1 Hf2 H2 : Hp} {r : ER} {v : V} (t : TRel T K env σ Hf2 H2 S2 S1 H1 r v) (st : Step S0 Hf0 H0 S1 Hf1 H1) : TRel T K env σ Hf2 H2 S2 S0 H0 r v := by
  cases r with
  | fz d => exact t
  | bor i => exact t
  | new u =>
    obtain ⟨P, o, h⟩ := t
    refine ⟨P, o, fun a q => ⟨?_, (h a q).2⟩⟩
    rcases (h a q).1 with z | z
    · exact .inl (st.nn z)
    · rcases st.news a z with z | z
      · exact .inr z
      · exact .inl z
/-- the result can be read -/
theorem TRel.view (R : Rel T K F env σ Hf H S) {S0 : Ad} {H0 : Hp} {r : ER} {v : V} {d : D} (t : TRel T K env σ Hf H S S0 H0 r v) (h : viewD env r = some d) : View T K Hf H d v := by
  cases r with
  | fz d' => cases h; exact View.of_rep t
  | new u =>
    cases h
    obtain ⟨P, o, _⟩ := t
    exact ⟨u, P, o, rfl⟩
  | bor i =>
    simp only [viewD, Option.map_eq_some_iff] at h
    obtain ⟨u, h, e⟩ := h
    obtain ⟨v', P, e1, o, _⟩ := R.at h
    have e2 : σ[i]? = some (some v) := t
    rw [e1] at e2; cases e2
    exact ⟨u, P, o, e⟩
end
/-! ## readings -/
/-- an exception: its class, its fields -/
def XRel (T : Tb) (K : PySem.W.Frag) (Hf H : Hp) (c : Str) (fs : List (Str × D)) (cls : Value) (d : Option Addr) : Prop :=
  ∃ C, T.exc c = some C ∧ cls = .ref C ∧ ((fs = [] ∧ d = none) ∨ ∃ dx gs, d = some dx ∧ H dx = some (.xd gs) ∧ RepF T K Hf fs gs)
def ExcEnd (T : Tb) (K : PySem.W.Frag) (w : WX) (F : Pn) (S : Ad) (Hf H : Hp) (c : Str) (fs : List (Str × D)) (env' : ME) : Prop :=
  ∀ cls d σ' Hf' H' S', Rel T K F env' σ' Hf' H' S' → Step S Hf H S' Hf' H' → XRel T K Hf' H' c fs cls d → w cls d σ' H'
theorem ExcEnd.step {T : Tb} {K : PySem.W.Frag} {w : WX} {F : Pn} {S S1 : Ad} {Hf H Hf1 H1 : Hp} {c : Str} {fs : List (Str × D)} {env' : ME} (e : ExcEnd T K w F S Hf H c fs env') (st : Step S Hf H S1 Hf1 H1) : ExcEnd T K w F S1 Hf1 H1 c fs env' :=
  fun cls d σ' Hf' H' S' R st' x => e cls d σ' Hf' H' S' R (st.trans st') x
/-- an expression's end -/
def EndE (T : Tb) (K : PySem.W.Frag) (w : WX) (F : Pn) (S : Ad) (Hf H : Hp) (σ : St) (Q : VK) : Res ER → Prop
  | .ok r env' => ∀ Hf' H' S' v, Rel T K F env' σ Hf' H' S' → Step S Hf H S' Hf' H' → TRel T K env' σ Hf' H' S' S H r v → Q v H'
  | .exc c fs env' => ExcEnd T K w F S Hf H c fs env'
  | .bad => False
def EndT (T : Tb) (K : PySem.W.Frag) (w : WX) (F : Pn) (S : Ad) (Hf H : Hp) (σ : St) (Q : Bool → Hp → Prop) : Res Bool → Prop
  | .ok b env' => ∀ Hf' H' S', Rel T K F env' σ Hf' H' S' → Step S Hf H S' Hf' H' → Q b H'
  | .exc c fs env' => ExcEnd T K w F S Hf H c fs env'
  | .bad => False
/-- arguments: frozen data, or a slot's object -/
inductive ARel (T : Tb) (K : PySem.W.Frag) (env : ME) (σ : St) (Hf H : Hp) (S S0 : Ad) (H0 : Hp) : List ER → List V → Prop where
  | nil : ARel T K env σ Hf H S S0 H0 [] []
  | cons {r : ER} {v : V} {rs : List ER} {vs : List V} : TRel T K env σ Hf H S S0 H0 r v → ARel T K env σ Hf H S S0 H0 rs vs → ARel T K env σ Hf H S S0 H0 (r :: rs) (v :: vs)
def EndA (T : Tb) (K : PySem.W.Frag) (w : WX) (F : Pn) (S : Ad) (Hf H : Hp) (σ : St) (Q : List V → Hp → Prop) : Res (List ER) → Prop
  | .ok rs env' => ∀ Hf' H' S' vs, Rel T K F env' σ Hf' H' S' → Step S Hf H S' Hf' H' → ARel T K env' σ Hf' H' S' S H rs vs → Q vs H'
  | .exc c fs env' => ExcEnd T K w F S Hf H c fs env'
  | .bad => False
def EndS (T : Tb) (K : PySem.W.Frag) (w : WX) (F : Pn) (S : Ad) (Hf H : Hp) (E : Ends) : SR → Prop
  | .nx env' => ∀ σ' Hf' H' S', Rel T K F env' σ' Hf' H' S' → Step S Hf H S' Hf' H' → E.nx σ' H'
  | .bk env' => ∀ σ' Hf' H' S', Rel T K F env' σ' Hf' H' S' → Step S Hf H S' Hf' H' → E.bk σ' H'
  | .ct env' => ∀ σ' Hf' H' S', Rel T K F env' σ' Hf' H' S' → Step S Hf H S' Hf' H' → E.ct σ' H'
  | .ret t env' => ∀ σ' Hf' H' S' v P, Rel T K F env' σ' Hf' H' S' → Step S Hf H S' Hf' H' → Own T K Hf' H' t v P → (∀ a, P a → (H a = none ∨ S a) ∧ ¬ S' a ∧ Hf' a = none) → E.rt v H'
  | .exc c fs env' => ExcEnd T K w F S Hf H c fs env'
  | .bad => False
def liftE (T : Tb) (K : PySem.W.Frag) (w : WX) (F : Pn) (m : EM) : TE := fun σ H Q => ∃ env Hf S, Rel T K F env σ Hf H S ∧ EndE T K w F S Hf H σ Q (m env)
def liftT (T : Tb) (K : PySem.W.Frag) (w : WX) (F : Pn) (m : TM) : TT := fun σ H Q => ∃ env Hf S, Rel T K F env σ Hf H S ∧ EndT T K w F S Hf H σ Q (m env)
def liftA (T : Tb) (K : PySem.W.Frag) (w : WX) (F : Pn) (m : AM) : TA := fun σ H Q => ∃ env Hf S, Rel T K F env σ Hf H S ∧ EndA T K w F S Hf H σ Q (m env)
def liftS (T : Tb) (K : PySem.W.Frag) (w : WX) (F : Pn) (m : SM) : TS := fun E σ H => ∃ env Hf S, Rel T K F env σ Hf H S ∧ EndS T K w F S Hf H E (m env)
section
variable {X : Cx}
theorem PE.weak {e : Expr} {t t' : TE} (h : PE X e t) (k : ∀ σ H Q, t' σ H Q → t σ H Q) : PE X e t' := ⟨fun pins s σ H Q I q => h.run pins s σ H Q I (k σ H Q q)⟩
theorem PT.weak {e : Expr} {t t' : TT} (h : PT X e t) (k : ∀ σ H Q, t' σ H Q → t σ H Q) : PT X e t' := ⟨fun pins s σ H Q I q => h.run pins s σ H Q I (k σ H Q q)⟩
theorem PA.weak {e : List Expr} {t t' : TA} (h : PA X e t) (k : ∀ σ H Q, t' σ H Q → t σ H Q) : PA X e t' := ⟨fun pos pins s σ H Q I q => h.run pos pins s σ H Q I (k σ H Q q)⟩
theorem PS.weak {e : Stmt} {t t' : TS} (h : PS X e t) (k : ∀ D σ H, t' D σ H → t D σ H) : PS X e t' := ⟨fun pins s σ H D I q => h.run pins s σ H D I (k D σ H q)⟩
theorem PSs.weak {e : List Stmt} {t t' : TS} (h : PSs X e t) (k : ∀ D σ H, t' D σ H → t D σ H) : PSs X e t' := ⟨fun pins s σ H D I q => h.run pins s σ H D I (k D σ H q)⟩
end
end Mi
namespace Mi
open PySem L2
/-! ## operations on data -/
/-- what an operation gives: a value that stands, a tuple (new or not), a new list, a new dict -/
inductive OR where
  | val (d : D)
  | tup (xs : List D)
  | lst (xs : List D)
  | dk (kvs : List (NK × D))
  | dt (kvs : List (NK × D))
@[simp] def orER : OR → ER
  | .val d => .fz d
  | .tup xs => .fz (.tup xs)
  | .lst xs => .new (.lst xs)
  | .dk kvs => .new (.dic false kvs)
  | .dt kvs => .new (.dic true kvs)
def OREnd (T : Tb) (K : PySem.W.Frag) (Hf H : Hp) (Q : VK) : OR → Prop
  | .val d => ∀ v, Rep T K Hf d v → Q v H
  | .tup xs => (∀ v, Rep T K Hf (.tup xs) v → Q v H) ∧ ∀ p vs, H p = none → Reps T K Hf xs vs → Q (.ref p) (upd H p (.tup vs))
  | .lst xs => ∀ p vs, H p = none → Reps T K Hf xs vs → Q (.ref p) (upd H p (.lst vs))
  | .dk kvs => ∀ p ks, H p = none → RepK T K Hf kvs ks → Q (.ref p) (upd H p (.dK ks))
  | .dt kvs => ∀ p ks, H p = none → RepT T K Hf kvs ks → Q (.ref p) (upd H p (.dT ks))
/-- a rule for two values, one, several: by their data -/
def Op1 (T : Tb) (K : PySem.W.Frag) (r : V → Hp → VK → Prop) (g : D → Option OR) : Prop :=
  ∀ {Hf H : Hp} {d : D} {v : V} {o : OR} {Q : VK}, Sub Hf H → HfOk Hf → View T K Hf H d v → g d = some o → OREnd T K Hf H Q o → r v H Q
def Op2 (T : Tb) (K : PySem.W.Frag) (r : R2) (g : D → D → Option OR) : Prop :=
  ∀ {Hf H : Hp} {d e : D} {v u : V} {o : OR} {Q : VK}, Sub Hf H → HfOk Hf → View T K Hf H d v → View T K Hf H e u → g d e = some o → OREnd T K Hf H Q o → r v u H Q
inductive Views (T : Tb) (K : PySem.W.Frag) (Hf H : Hp) : List D → List V → Prop where
  | nil : Views T K Hf H [] []
  | cons {d : D} {v : V} {ds : List D} {vs : List V} : View T K Hf H d v → Views T K Hf H ds vs → Views T K Hf H (d :: ds) (v :: vs)
def OpN (T : Tb) (K : PySem.W.Frag) (r : List V → Hp → VK → Prop) (g : List D → Option OR) : Prop :=
  ∀ {Hf H : Hp} {ds : List D} {vs : List V} {o : OR} {Q : VK}, Sub Hf H → HfOk Hf → Views T K Hf H ds vs → g ds = some o → OREnd T K Hf H Q o → r vs H Q
/-! ## expressions of the mirror -/
@[simp] def give (env : ME) (o : Option OR) : Res ER := match o with
  | some o => .ok (orER o) env
  | none => .bad
def eVar (i : Nat) : EM := fun env => match slot env i with
  | some (.fz d) => .ok (.fz d) env
  | some _ => .ok (.bor i) env
  | none => .bad
def eC (d : D) : EM := fun env => .ok (.fz d) env
def eU (g : D → Option OR) (m : EM) : EM := fun env => (m env).bind fun r e => give e ((viewD e r).bind g)
def eB (g : D → D → Option OR) (m n : EM) : EM := fun env => (m env).bind fun r e1 => (n e1).bind fun s e2 => give e2 ((viewD e2 r).bind fun d => (viewD e2 s).bind fun d' => g d d')
def aNil : AM := fun env => .ok [] env
def aCons (m : EM) (n : AM) : AM := fun env => (m env).bind fun r e1 => (n e1).bind fun rs e2 => .ok (r :: rs) e2
@[simp] def viewAll (env : ME) : List ER → Option (List D)
  | [] => some []
  | r :: rs => (viewD env r).bind fun d => (viewAll env rs).map fun ds => d :: ds
def eN (g : List D → Option OR) (m : AM) : EM := fun env => (m env).bind fun rs e => give e ((viewAll e rs).bind g)
/-! tests -/
@[simp] def boolOf : Option D → Option Bool
  | some (.bl b) => some b
  | _ => none
@[simp] def giveB (env : ME) (o : Option Bool) : Res Bool := match o with
  | some b => .ok b env
  | none => .bad
def tVal (m : EM) : TM := fun env => (m env).bind fun r e => giveB e (boolOf (viewD e r))
def tNotM (m : TM) : TM := fun env => (m env).bind fun b e => .ok (!b) e
def tAndM (m n : TM) : TM := fun env => (m env).bind fun b e => if b = true then n e else .ok false e
def tOrM (m n : TM) : TM := fun env => (m env).bind fun b e => if b = true then .ok true e else n e
def eTest (m : TM) : EM := fun env => (m env).bind fun b e => .ok (.fz (.bl b)) e
def eIf (c : TM) (m n : EM) : EM := fun env => (c env).bind fun b e => if b = true then m e else n e
section
variable {X : Cx} {T : Tb} {w : WX} {F : Pn} {K : PySem.W.Frag} {σ : St} {H Hf : Hp} {S S0 : Ad} {env e1 : ME} {Q : VK}
theorem or_end {Hf0 H0 : Hp} {o : OR} (R : Rel T K F env σ Hf H S) (st : Step S0 Hf0 H0 S Hf H) (q : EndE T K w F S0 Hf0 H0 σ Q (.ok (orER o) env)) : OREnd T K Hf H Q o := by
  cases o with
  | val d => exact fun v r => q Hf H S v R st r
  | tup xs =>
    refine ⟨fun v r => q Hf H S v R st r, fun p vs hp r => ?_⟩
    obtain ⟨R', st'⟩ := R.newFz (o := .tup vs) hp ⟨fun _ e => (nomatch e), fun _ e => (nomatch e)⟩
    exact q _ _ S _ R' (st.trans st') (.tup upd_same (r.mono st'.fz))
  | lst xs =>
    intro p vs hp r
    obtain ⟨R', st'⟩ := R.newOw (o := .lst vs) hp
    exact q _ _ S _ R' (st.trans st') ⟨fun a => a = p, .lst upd_same r fun _ => Iff.rfl, fun a e => by subst e; exact ⟨.inl (st.nn hp), R.ns hp, R.hf hp⟩⟩
  | dk kvs =>
    intro p vs hp r
    obtain ⟨R', st'⟩ := R.newOw (o := .dK vs) hp
    exact q _ _ S _ R' (st.trans st') ⟨fun a => a = p, .dK upd_same r fun _ => Iff.rfl, fun a e => by subst e; exact ⟨.inl (st.nn hp), R.ns hp, R.hf hp⟩⟩
  | dt kvs =>
    intro p vs hp r
    obtain ⟨R', st'⟩ := R.newOw (o := .dT vs) hp
    exact q _ _ S _ R' (st.trans st') ⟨fun a => a = p, .dT upd_same r fun _ => Iff.rfl, fun a e => by subst e; exact ⟨.inl (st.nn hp), R.ns hp, R.hf hp⟩⟩
theorem give_end {Hf0 H0 : Hp} {o : Option OR} (R : Rel T K F env σ Hf H S) (st : Step S0 Hf0 H0 S Hf H) (q : EndE T K w F S0 Hf0 H0 σ Q (give env o)) : ∃ o', o = some o' ∧ OREnd T K Hf H Q o' := by
  cases o with
  | none => exact q.elim
  | some o' => exact ⟨o', rfl, or_end R st q⟩
/-- the run of an expression, then what follows -/
theorem runE {m : EM} {f : ER → ME → Res ER} {k : V → Hp → Prop} {Hf0 H0 : Hp} (R : Rel T K F env σ Hf H S) (st : Step S0 Hf0 H0 S Hf H) (q : EndE T K w F S0 Hf0 H0 σ Q ((m env).bind f))
    (h : ∀ r e1 Hf1 H1 S1 v, Rel T K F e1 σ Hf1 H1 S1 → Step S Hf H S1 Hf1 H1 → Step S0 Hf0 H0 S1 Hf1 H1 → TRel T K e1 σ Hf1 H1 S1 S H r v → EndE T K w F S0 Hf0 H0 σ Q (f r e1) → k v H1) : liftE T K w F m σ H k := by
  refine ⟨env, Hf, S, R, ?_⟩
  cases hm : m env with
  | bad => rw [hm] at q; exact q.elim
  | exc c fs e =>
    rw [hm] at q
    exact ExcEnd.step q st
  | ok r e =>
    rw [hm] at q
    intro Hf1 H1 S1 v R1 st1 t
    exact h r e Hf1 H1 S1 v R1 st1 (st.trans st1) t q
theorem runA {m : AM} {f : List ER → ME → Res ER} {k : List V → Hp → Prop} {Hf0 H0 : Hp} (R : Rel T K F env σ Hf H S) (st : Step S0 Hf0 H0 S Hf H) (q : EndE T K w F S0 Hf0 H0 σ Q ((m env).bind f))
    (h : ∀ r e1 Hf1 H1 S1 v, Rel T K F e1 σ Hf1 H1 S1 → Step S Hf H S1 Hf1 H1 → Step S0 Hf0 H0 S1 Hf1 H1 → ARel T K e1 σ Hf1 H1 S1 S H r v → EndE T K w F S0 Hf0 H0 σ Q (f r e1) → k v H1) : liftA T K w F m σ H k := by
  refine ⟨env, Hf, S, R, ?_⟩
  cases hm : m env with
  | bad => rw [hm] at q; exact q.elim
  | exc c fs e =>
    rw [hm] at q
    exact ExcEnd.step q st
  | ok r e =>
    rw [hm] at q
    intro Hf1 H1 S1 v R1 st1 t
    exact h r e Hf1 H1 S1 v R1 st1 (st.trans st1) t q
theorem ARel.step {env env' : ME} {S1 S2 : Ad} {Hf1 H1 Hf2 H2 H0 : Hp} {r : List ER} {v : List V} (t : ARel T K env σ Hf1 H1 S1 S0 H0 r v) (st : Step S1 Hf1 H1 S2 Hf2 H2) (sub : Sub Hf2 H2) : ARel T K env' σ Hf2 H2 S2 S0 H0 r v := by
  induction t with
  | nil => exact .nil
  | cons a _ ih => exact .cons (a.step st sub) ih
theorem ARel.early {S1 S2 : Ad} {H0 H1 Hf0 Hf1 Hf2 H2 : Hp} {r : List ER} {v : List V} (t : ARel T K env σ Hf2 H2 S2 S1 H1 r v) (st : Step S0 Hf0 H0 S1 Hf1 H1) : ARel T K env σ Hf2 H2 S2 S0 H0 r v := by
  induction t with
  | nil => exact .nil
  | cons a _ ih => exact .cons (a.early st) ih
theorem ARel.views (R : Rel T K F env σ Hf H S) {H0 : Hp} {rs : List ER} {vs : List V} (t : ARel T K env σ Hf H S S0 H0 rs vs) : ∀ {ds : List D}, viewAll env rs = some ds → Views T K Hf H ds vs := by
  induction t with
  | nil => intro ds h; cases h; exact .nil
  | cons a _ ih =>
    intro ds h
    simp only [viewAll, Option.bind_eq_some_iff, Option.map_eq_some_iff] at h
    obtain ⟨d, h1, ds', h2, rfl⟩ := h
    exact .cons (a.view R h1) (ih h2)
/-! ### names, constants -/
theorem m_var {i : Nat} {x : Str} {pos : Pos} (hN : X.N[i]? = some x) (hv : Vis X.env.scope x) (hd : (x == ("__debug__" : Str)) = false := by decide) (hcd : (x == ("__classdict__" : Str)) = false := by decide) :
    PE X (.Name x pos) (liftE T X.K w F (eVar i)) := by
  refine PE.weak (pe_var hN hv hd hcd) fun σ H Q ⟨env, Hf, S, R, q⟩ => ?_
  cases hs : slot env i with
  | none => simp only [eVar, hs] at q; exact q.elim
  | some t =>
    obtain ⟨v, P, e, o, hP⟩ := R.at hs
    refine ⟨v, e, ?_⟩
    cases t with
    | fz d =>
      simp only [eVar, hs] at q
      cases o with
      | fz r _ => exact q Hf H S v R .refl r
    | _ =>
      simp only [eVar, hs] at q
      exact q Hf H S v R .refl e
/-- data that needs no heap -/
inductive Flat : D → V → Prop
  | non : Flat .non .non
  | bl (b : Bool) : Flat (.bl b) (.bl b)
  | int (i : Int) : Flat (.int i) (.int i)
  | str (x : Str) : Flat (.str x) (.str x)
  | ty (n : String) : Flat (.ty n) (.ty n)
theorem Flat.rep {d : D} {v : V} (h : Flat d v) : Rep T K H d v := by
  cases h
  · exact .non
  · exact .bl _
  · exact .int _
  · exact .str _
  · exact .ty _
theorem m_const {e : Expr} {d : D} {v : V} (he : PE X e (tC v)) (h : Flat d v) : PE X e (liftE T X.K w F (eC d)) :=
  PE.weak he fun σ H Q ⟨env, Hf, S, R, q⟩ => q Hf H S v R .refl h.rep
theorem m_int {i : Int} {j : Nat} {pos : Pos} : PE X (.Constant (.int i) j pos) (liftE T X.K w F (eC (.int i))) := m_const pe_int (.int i)
theorem m_bl {b : Bool} {j : Nat} {pos : Pos} : PE X (.Constant (.bool b) j pos) (liftE T X.K w F (eC (.bl b))) := m_const pe_bl (.bl b)
theorem m_non {j : Nat} {pos : Pos} : PE X (.Constant .none j pos) (liftE T X.K w F (eC .non)) := m_const pe_non .non
theorem m_str {x : Str} {j : Nat} {pos : Pos} : PE X (.Constant (.str x) j pos) (liftE T X.K w F (eC (.str x))) := m_const pe_str (.str x)
/-- a module's int -/
theorem m_gint {x : Str} {i : Int} {pos : Pos} (hg : Gl X x) (hm : ∃ t, X.mg x = some (.int i t)) (hd : (x == ("__debug__" : Str)) = false := by decide) : PE X (.Name x pos) (liftE T X.K w F (eC (.int i))) :=
  let ⟨_, h⟩ := hm
  m_const (pe_glob (v := .int i) hg h ⟨_, rfl⟩ hd) (.int i)
/-- a class or def as a value -/
theorem m_code {x : Str} {a : Addr} {pos : Pos} (hg : Gl X x) (hm : X.mg x = some (.ref a)) (ht : T.code x = some a) (hd : (x == ("__debug__" : Str)) = false := by decide) : PE X (.Name x pos) (liftE T X.K w F (eC (.code x))) :=
  PE.weak (pe_glob (v := .ref a) hg hm rfl hd) fun σ H Q ⟨env, Hf, S, R, q⟩ => q Hf H S _ R .refl (.code ht)
/-- a built-in class -/
theorem m_ty {x : Str} {n : String} {pos : Pos} (hg : Gl X x) (hm : X.mg x = none) (hv : bootBuiltins x = some (.type n)) (hn : x ≠ "__name__" := by decide) (hd : (x == ("__debug__" : Str)) = false := by decide) : PE X (.Name x pos) (liftE T X.K w F (eC (.ty n))) :=
  m_const (pe_bltn (v := .ty n) hg hm hv rfl hn hd) (.ty n)
/-! ### operators -/
theorem op1_core {r : V → Hp → VK → Prop} {g : D → Option OR} {m : EM} (hg : Op1 T K r g) (R : Rel T K F env σ Hf H S) (q : EndE T K w F S Hf H σ Q (eU g m env)) : liftE T K w F m σ H fun x H1 => r x H1 Q :=
  runE R .refl q fun ra e1 Hf1 H1 S1 v R1 _ st1 t1 q1 => by
    obtain ⟨o, ho, q2⟩ := give_end R1 st1 q1
    obtain ⟨d, hd, ho⟩ := Option.bind_eq_some_iff.mp ho
    exact hg R1.sub R1.nod (t1.view R1 hd) ho q2
theorem op2_core {r : R2} {g : D → D → Option OR} {m n : EM} (hg : Op2 T K r g) (R : Rel T K F env σ Hf H S) (q : EndE T K w F S Hf H σ Q (eB g m n env)) : tOp r (liftE T K w F m) (liftE T K w F n) σ H Q :=
  runE R .refl q fun ra e1 Hf1 H1 S1 v R1 _ st1 t1 q1 =>
    runE R1 st1 q1 fun rb e2 Hf2 H2 S2 u R2 s12 st2 t2 q2 => by
      obtain ⟨o, ho, q3⟩ := give_end R2 st2 q2
      obtain ⟨d, hd, ho⟩ := Option.bind_eq_some_iff.mp ho
      obtain ⟨d', hd', ho⟩ := Option.bind_eq_some_iff.mp ho
      exact hg R2.sub R2.nod ((t1.step (env' := e2) s12 R2.sub).view R2 hd) (t2.view R2 hd') ho q3
variable {a b c : Expr} {ma mb mc : EM} {pos : Pos} {r : R2} {g : D → D → Option OR}
theorem m_bin {op : Operator} (ho : OpR X (binaryOp op) r) (hg : Op2 T X.K r g) (ha : PE X a (liftE T X.K w F ma)) (hb : PE X b (liftE T X.K w F mb)) : PE X (.BinOp a op b pos) (liftE T X.K w F (eB g ma mb)) :=
  PE.weak (pe_op ho ha hb) fun _ _ _ ⟨_, _, _, R, q⟩ => op2_core hg R q
theorem m_cmp {op : CmpOp} (ho : OpR X (compareOp op) r) (hg : Op2 T X.K r g) (ha : PE X a (liftE T X.K w F ma)) (hb : PE X b (liftE T X.K w F mb)) (hn : behindInMarks op b = false := by first | exact nomark _ | rfl) : PE X (.Compare a [op] [b] pos) (liftE T X.K w F (eB g ma mb)) :=
  PE.weak (pe_cmpR ho ha hb hn) fun _ _ _ ⟨_, _, _, R, q⟩ => op2_core hg R q
theorem m_ix (ho : IxR X r) (hg : Op2 T X.K r g) (ha : PE X a (liftE T X.K w F ma)) (hb : PE X b (liftE T X.K w F mb)) (hs : PlainIx b) : PE X (.Subscript a b pos) (liftE T X.K w F (eB g ma mb)) :=
  PE.weak (pe_ix ho ha hb hs) fun _ _ _ ⟨_, _, _, R, q⟩ => op2_core hg R q
theorem m_un {op : UnaryOp} {r : V → Hp → VK → Prop} {g : D → Option OR} (ho : UnR X (unaryOp op) r) (hg : Op1 T X.K r g) (ha : PE X a (liftE T X.K w F ma)) : PE X (.UnaryOp op a pos) (liftE T X.K w F (eU g ma)) :=
  PE.weak (pe_un ho ha) fun _ _ _ ⟨_, _, _, R, q⟩ => op1_core hg R q
/-- one rule or another -/
theorem OpR.or {f : Value → Value → Sem Value} {r1 r2 : R2} (h1 : OpR X f r1) (h2 : OpR X f r2) : OpR X f (fun x y H Q => r1 x y H Q ∨ r2 x y H Q) := fun pins s σ H x y v u Q I rx ry h => by
  rcases h with h | h
  · exact h1 pins s σ H x y v u Q I rx ry h
  · exact h2 pins s σ H x y v u Q I rx ry h
theorem CallR.or {f : Value} {r1 r2 : List V → Hp → VK → Prop} (h1 : CallR X f r1) (h2 : CallR X f r2) : CallR X f (fun xs H Q => r1 xs H Q ∨ r2 xs H Q) := fun pins s σ H xs us Q I r h => by
  rcases h with h | h
  · exact h1 pins s σ H xs us Q I r h
  · exact h2 pins s σ H xs us Q I r h
/-! ### arguments -/
theorem m_anil : PA X [] (liftA T X.K w F aNil) :=
  PA.weak pa_nil fun σ H Q ⟨env, Hf, S, R, q⟩ => q Hf H S [] R .refl .nil
theorem m_acons {es : List Expr} {n : AM} (ha : PE X a (liftE T X.K w F ma)) (hb : PA X es (liftA T X.K w F n)) (hs : starEach (a :: es) X.env = (false, eval a X.env) :: starEach es X.env := by rfl) : PA X (a :: es) (liftA T X.K w F (aCons ma n)) := by
  refine PA.weak (pa_cons ha hb hs) fun σ H Q ⟨env, Hf, S, R, q⟩ => ⟨env, Hf, S, R, ?_⟩
  simp only [aCons] at q
  cases hm : ma env with
  | bad => rw [hm] at q; exact q.elim
  | exc c fs e => rw [hm] at q; exact q
  | ok r e =>
    rw [hm] at q
    intro Hf1 H1 S1 v R1 st1 t1
    refine ⟨e, Hf1, S1, R1, ?_⟩
    simp only [Res.bind] at q
    cases hn : n e with
    | bad => rw [hn] at q; exact q.elim
    | exc c fs e => rw [hn] at q; exact ExcEnd.step q st1
    | ok rs e2 =>
      rw [hn] at q
      intro Hf2 H2 S2 vs R2 st2 t2
      exact q Hf2 H2 S2 (v :: vs) R2 (st1.trans st2) (.cons (t1.step st2 R2.sub) (t2.early st1))
theorem opN_core {r : List V → Hp → VK → Prop} {g : List D → Option OR} {m : AM} (hg : OpN T K r g) (R : Rel T K F env σ Hf H S) (q : EndE T K w F S Hf H σ Q (eN g m env)) : liftA T K w F m σ H fun xs H1 => r xs H1 Q :=
  runA R .refl q fun ra e1 Hf1 H1 S1 v R1 _ st1 t1 q1 => by
    obtain ⟨o, ho, q2⟩ := give_end R1 st1 q1
    obtain ⟨d, hd, ho⟩ := Option.bind_eq_some_iff.mp ho
    exact hg R1.sub R1.nod (t1.views R1 hd) ho q2
variable {x : Str} {p : Pos} {e : Expr} {es : List Expr} {id : String} {rn : List V → Hp → VK → Prop} {gn : List D → Option OR} {n : AM}
theorem m_callB (hc : CallR X (.builtin id) rn) (hg : OpN T X.K rn gn) (gl : Gl X x) (hm : X.mg x = none) (hv : bootBuiltins x = some (.builtin id)) (ha : PA X (e :: es) (liftA T X.K w F n)) (hn : x ≠ "__name__" := by decide) (hdb : (x == ("__debug__" : Str)) = false := by decide)
    (he : starEach (e :: es) X.env = (false, eval e X.env) :: starEach es X.env := by rfl) (hpl : (backTo pos (starEach es X.env)).any (·.1) = false := by rfl) : PE X (.Call (.Name x p) (e :: es) [] pos) (liftE T X.K w F (eN gn n)) :=
  PE.weak (pe_callB hc gl hm hv ha hn hdb he hpl) fun _ _ _ ⟨_, _, _, R, q⟩ => opN_core hg R q
theorem m_callTy (hc : CallR X (.type id) rn) (hg : OpN T X.K rn gn) (gl : Gl X x) (hm : X.mg x = none) (hv : bootBuiltins x = some (.type id)) (ha : PA X (e :: es) (liftA T X.K w F n)) (hn : x ≠ "__name__" := by decide) (hdb : (x == ("__debug__" : Str)) = false := by decide)
    (he : starEach (e :: es) X.env = (false, eval e X.env) :: starEach es X.env := by rfl) (hpl : (backTo pos (starEach es X.env)).any (·.1) = false := by rfl) : PE X (.Call (.Name x p) (e :: es) [] pos) (liftE T X.K w F (eN gn n)) :=
  PE.weak (pe_callTy hc gl hm hv ha hn hdb he hpl) fun _ _ _ ⟨_, _, _, R, q⟩ => opN_core hg R q
/-! ### tests -/
variable {ta tb : TM} {QB : Bool → Hp → Prop}
theorem tval_core {m : EM} (R : Rel T K F env σ Hf H S) (q : EndT T K w F S Hf H σ QB (tVal m env)) : liftE T K w F m σ H fun x H1 => ∃ k, x = .bl k ∧ QB k H1 := by
  refine ⟨env, Hf, S, R, ?_⟩
  simp only [tVal] at q
  cases hm : m env with
  | bad => rw [hm] at q; exact q.elim
  | exc c fs e => rw [hm] at q; exact q
  | ok r e1 =>
    rw [hm] at q
    intro Hf1 H1 S1 v R1 st1 t
    simp only [Res.bind] at q
    cases hd : viewD e1 r with
    | none => simp only [hd, boolOf, giveB] at q; exact q.elim
    | some d =>
      cases d with
      | bl b =>
        simp only [hd, boolOf, giveB] at q
        exact ⟨b, (t.view R1 hd).bl, q Hf1 H1 S1 R1 st1⟩
      | _ => simp only [hd, boolOf, giveB] at q; exact q.elim
theorem m_tval (h : PE X e (liftE T X.K w F ma)) (he : ∀ whole, isTrue e X.env whole = (do let v ← whole; standAt e.pos; holding [v] (truthy v)) := by intro _; rfl) : PT X e (liftT T X.K w F (tVal ma)) :=
  PT.weak (pt_val h he) fun _ _ _ ⟨_, _, _, R, q⟩ => tval_core R q
theorem m_tcmp {op : CmpOp} (ho : OpR X (compareOp op) r) (hg : Op2 T X.K r g) (ha : PE X a (liftE T X.K w F ma)) (hb : PE X b (liftE T X.K w F mb)) (hn : behindInMarks op b = false := by first | exact nomark _ | rfl) : PT X (.Compare a [op] [b] pos) (liftT T X.K w F (tVal (eB g ma mb))) :=
  PT.weak (pt_cmpR ho ha hb hn) fun σ H QB ⟨env, Hf, S, R, q⟩ => by
    obtain ⟨env', Hf', S', R', q'⟩ := tval_core R q
    exact op2_core hg R' q'
theorem m_tnot (h : PT X a (liftT T X.K w F ta)) : PT X (.UnaryOp .Not a pos) (liftT T X.K w F (tNotM ta)) :=
  PT.weak (pt_not h) fun σ H QB ⟨env, Hf, S, R, q⟩ => by
    refine ⟨env, Hf, S, R, ?_⟩
    simp only [tNotM] at q
    cases hm : ta env with
    | bad => rw [hm] at q; exact q.elim
    | exc c fs e => rw [hm] at q; exact q
    | ok b e1 => rw [hm] at q; exact q
theorem PW.weak {e : Expr} {t t' : TT} (h : PW X e t) (k : ∀ σ H Q, t' σ H Q → t σ H Q) : PW X e t' := ⟨fun wh pins s σ H Q I q => h.run wh pins s σ H Q I (k σ H Q q)⟩
theorem EndT.step {Hf0 H0 Hf1 H1 : Hp} {S1 : Ad} {b : Res Bool} (q : EndT T K w F S0 Hf0 H0 σ QB b) (st : Step S0 Hf0 H0 S1 Hf1 H1) : EndT T K w F S1 Hf1 H1 σ QB b := by
  cases b with
  | bad => exact q
  | exc c fs e => exact ExcEnd.step q st
  | ok b e => exact fun Hf' H' S' R st' => q Hf' H' S' R (st.trans st')
theorem m_and1 (h : PT X a (liftT T X.K w F ta)) : PW X (.BoolOp .And [a] pos) (liftT T X.K w F ta) := pw_and1 h
theorem m_or1 (h : PT X a (liftT T X.K w F ta)) : PW X (.BoolOp .Or [a] pos) (liftT T X.K w F ta) := pw_or1 h
theorem m_and {rest : List Expr} (h : PT X a (liftT T X.K w F ta)) (h2 : PW X (.BoolOp .And (b :: rest) pos) (liftT T X.K w F tb)) : PW X (.BoolOp .And (a :: b :: rest) pos) (liftT T X.K w F (tAndM ta tb)) :=
  PW.weak (pw_and h h2) fun σ H QB ⟨env, Hf, S, R, q⟩ => by
    refine ⟨env, Hf, S, R, ?_⟩
    simp only [tAndM] at q
    cases hm : ta env with
    | bad => rw [hm] at q; exact q.elim
    | exc c fs e => rw [hm] at q; exact q
    | ok b e1 =>
      rw [hm] at q
      intro Hf1 H1 S1 R1 st1
      cases b with
      | true => exact ⟨e1, Hf1, S1, R1, EndT.step q st1⟩
      | false => exact q Hf1 H1 S1 R1 st1
theorem m_or {rest : List Expr} (h : PT X a (liftT T X.K w F ta)) (h2 : PW X (.BoolOp .Or (b :: rest) pos) (liftT T X.K w F tb)) : PW X (.BoolOp .Or (a :: b :: rest) pos) (liftT T X.K w F (tOrM ta tb)) :=
  PW.weak (pw_or h h2) fun σ H QB ⟨env, Hf, S, R, q⟩ => by
    refine ⟨env, Hf, S, R, ?_⟩
    simp only [tOrM] at q
    cases hm : ta env with
    | bad => rw [hm] at q; exact q.elim
    | exc c fs e => rw [hm] at q; exact q
    | ok b e1 =>
      rw [hm] at q
      intro Hf1 H1 S1 R1 st1
      cases b with
      | true => exact q Hf1 H1 S1 R1 st1
      | false => exact ⟨e1, Hf1, S1, R1, EndT.step q st1⟩
theorem EndE.step {Hf0 H0 Hf1 H1 : Hp} {S1 : Ad} {b : Res ER} (q : EndE T K w F S0 Hf0 H0 σ Q b) (st : Step S0 Hf0 H0 S1 Hf1 H1) : EndE T K w F S1 Hf1 H1 σ Q b := by
  cases b with
  | bad => exact q
  | exc c fs e => exact ExcEnd.step q st
  | ok b e => exact fun Hf' H' S' v R st' t => q Hf' H' S' v R (st.trans st') (t.early st)
theorem m_if {c : Expr} (hc : PT X c (liftT T X.K w F ta)) (ha : PE X a (liftE T X.K w F ma)) (hb : PE X b (liftE T X.K w F mb)) : PE X (.IfExp c a b pos) (liftE T X.K w F (eIf ta ma mb)) :=
  PE.weak (pe_ifExp hc ha hb) fun σ H Q ⟨env, Hf, S, R, q⟩ => by
    refine ⟨env, Hf, S, R, ?_⟩
    simp only [eIf] at q
    cases hm : ta env with
    | bad => rw [hm] at q; exact q.elim
    | exc c fs e => rw [hm] at q; exact q
    | ok b e1 =>
      rw [hm] at q
      intro Hf1 H1 S1 R1 st1
      cases b with
      | true => exact ⟨e1, Hf1, S1, R1, EndE.step q st1⟩
      | false => exact ⟨e1, Hf1, S1, R1, EndE.step q st1⟩
/-! ### and, or, not as values -/
def eAnd (m n : EM) : EM := fun env => (tVal m env).bind fun b e => if b = true then n e else .ok (.fz (.bl false)) e
def eOr (m n : EM) : EM := fun env => (tVal m env).bind fun b e => if b = true then .ok (.fz (.bl true)) e else n e
def eNot (m : EM) : EM := fun env => (tVal m env).bind fun b e => .ok (.fz (.bl (!b))) e
theorem tval_then {m : EM} {f : Bool → ME → Res ER} {k : Bool → Hp → Prop} {Hf0 H0 : Hp} (R : Rel T K F env σ Hf H S) (st : Step S0 Hf0 H0 S Hf H) (q : EndE T K w F S0 Hf0 H0 σ Q ((tVal m env).bind f))
    (h : ∀ b e1 Hf1 H1 S1, Rel T K F e1 σ Hf1 H1 S1 → Step S0 Hf0 H0 S1 Hf1 H1 → EndE T K w F S0 Hf0 H0 σ Q (f b e1) → k b H1) : liftE T K w F m σ H fun x H1 => ∃ c, x = .bl c ∧ k c H1 := by
  refine tval_core (m := m) R ?_
  cases hm : tVal m env with
  | bad => rw [hm] at q; exact q.elim
  | exc c fs e =>
    rw [hm] at q
    exact ExcEnd.step q st
  | ok b e =>
    rw [hm] at q
    intro Hf1 H1 S1 R1 st1
    exact h b e Hf1 H1 S1 R1 (st.trans st1) q
theorem m_andV {rest : List Expr} (h : PE X a (liftE T X.K w F ma)) (h2 : PE X (.BoolOp .And (b :: rest) pos) (liftE T X.K w F mb)) : PE X (.BoolOp .And (a :: b :: rest) pos) (liftE T X.K w F (eAnd ma mb)) :=
  PE.weak (pe_and h h2) fun σ H Q ⟨env, Hf, S, R, q⟩ =>
    tval_then (k := fun c H1 => if c = true then liftE T X.K w F mb σ H1 Q else Q (.bl false) H1) R .refl q fun b e1 Hf1 H1 S1 R1 st1 q1 => by
      cases b with
      | true => exact ⟨e1, Hf1, S1, R1, EndE.step q1 st1⟩
      | false => exact q1 Hf1 H1 S1 _ R1 st1 (.bl false)
theorem m_orV {rest : List Expr} (h : PE X a (liftE T X.K w F ma)) (h2 : PE X (.BoolOp .Or (b :: rest) pos) (liftE T X.K w F mb)) : PE X (.BoolOp .Or (a :: b :: rest) pos) (liftE T X.K w F (eOr ma mb)) :=
  PE.weak (pe_or h h2) fun σ H Q ⟨env, Hf, S, R, q⟩ =>
    tval_then (k := fun c H1 => if c = true then Q (.bl true) H1 else liftE T X.K w F mb σ H1 Q) R .refl q fun b e1 Hf1 H1 S1 R1 st1 q1 => by
      cases b with
      | true => exact q1 Hf1 H1 S1 _ R1 st1 (.bl true)
      | false => exact ⟨e1, Hf1, S1, R1, EndE.step q1 st1⟩
theorem m_oneV {o : BoolOp} (h : PE X a (liftE T X.K w F ma)) : PE X (.BoolOp o [a] pos) (liftE T X.K w F ma) := pe_one h
theorem m_notV (h : PE X a (liftE T X.K w F ma)) : PE X (.UnaryOp .Not a pos) (liftE T X.K w F (eNot ma)) :=
  PE.weak (pe_not h) fun σ H Q ⟨env, Hf, S, R, q⟩ =>
    tval_then (k := fun c H1 => Q (.bl (!c)) H1) R .refl q fun b e1 Hf1 H1 S1 R1 st1 q1 => q1 Hf1 H1 S1 _ R1 st1 (.bl (!b))
end
end Mi
namespace Mi
open PySem L2
/-! ## freezing -/
section
variable {X : Cx} {T : Tb} {w : WX} {F : Pn} {K : PySem.W.Frag} {σ : St} {H Hf : Hp} {S S0 : Ad} {env e1 : ME} {Q : VK} {pins : List (Addr × Obj)} {s : Shared}
abbrev No : Ad := fun _ => False
theorem Step.hf_none {P P' : Ad} {Hf' H' : Hp} (st : Step P Hf H P' Hf' H') (sub : Sub Hf' H') {a : Addr} {o : HO} (h : H a = some o) (nt : NT o) (hf : Hf a = none) (hp : ¬ P a) : Hf' a = none := by
  cases e : Hf' a with
  | none => rfl
  | some u =>
    rcases st.newf a u e with z | z | z | ⟨xs, z⟩
    · rw [hf] at z; cases z
    · rw [h] at z; cases z
    · exact absurd z hp
    · have y := sub a u e
      rw [st.keep a o h hp] at y
      cases y
      exact absurd z (nt xs)
theorem freeze_one {H1 : Hp} {a : Addr} {o u : HO} (sub : Sub Hf H) (nod : HfOk Hf) (hf : Hf a = none) (ha : H a = some u) (nd : noDict o) (nt : NT o) : Sub (upd Hf a o) (upd H a o) ∧ HfOk (upd Hf a o) ∧ Step (fun b => b = a) Hf H No (upd Hf a o) (upd H a o) := by
  have s1 : Sub Hf (upd Hf a o) := fun b v e => by
    rw [upd_ne (fun z => by subst z; rw [hf] at e; cases e)]; exact e
  refine ⟨fun b v e => ?_, fun b v e => ?_, s1, fun b v e n => ?_, fun b v e => ?_, fun _ h => h.elim, dom_upd nt⟩
  · rcases upd_some e with ⟨rfl, rfl⟩ | ⟨n, e⟩
    · exact upd_same
    · rw [upd_ne n]; exact sub b v e
  · rcases upd_some e with ⟨rfl, rfl⟩ | ⟨n, e⟩
    · exact nd
    · exact nod b v e
  · rw [upd_ne n]; exact e
  · rcases upd_some e with ⟨rfl, rfl⟩ | ⟨n, e⟩
    · exact .inr (.inr (.inl rfl))
    · exact .inl e
theorem upd_self {a : Addr} {o : HO} (h : H a = some o) : upd H a o = H := by
  funext b
  by_cases e : b = a
  · subst e; rw [upd_same, h]
  · exact upd_ne e
theorem Step.any {P P' P2 : Ad} {Hf' H' : Hp} (st : Step P Hf H P' Hf' H') (h : ∀ a, P2 a → P a ∨ H a = none) : Step P Hf H P2 Hf' H' := ⟨st.fz, st.keep, st.newf, h, st.dom⟩
mutual
theorem Own.freeze {t : OT} {v : V} {P : Ad} {Hf H : Hp} : Own T K Hf H t v P → Inv X pins σ H s → Sub Hf H → HfOk Hf → (∀ a, P a → Hf a = none) →
    ∃ Hf' H', Inv X pins σ H' s ∧ Sub Hf' H' ∧ HfOk Hf' ∧ Rep T K Hf' t.er v ∧ Step P Hf H No Hf' H' ∧ Stand H H'
  | .fz r n, I, sub, nod, hp => ⟨Hf, H, I, sub, nod, r, Step.any Step.refl fun _ h => h.elim, fun _ _ _ _ e => e⟩
  | .lst (a := a) (vs := vs) h r n, I, sub, nod, hp => by
    obtain ⟨s1, n1, st⟩ := freeze_one (H1 := H) (o := .lst vs) sub nod (hp a ((n a).mpr rfl)) h ⟨fun _ e => (nomatch e), fun _ e => (nomatch e)⟩ (fun _ e => (nomatch e))
    rw [upd_self h] at s1 st
    exact ⟨_, H, I, s1, n1, .lst upd_same (r.mono st.fz), st.weakS fun b e => (n b).mpr e, fun _ _ _ _ e => e⟩
  | .dK (a := a) (ks := ks) h r n, I, sub, nod, hp => by
    obtain ⟨od, I'⟩ := I.lock h True.intro
    obtain ⟨s1, n1, st⟩ := freeze_one (H1 := H) (o := .frz od (.dK ks)) sub nod (hp a ((n a).mpr rfl)) h ⟨fun _ e => (nomatch e), fun _ e => (nomatch e)⟩ (fun _ e => (nomatch e))
    exact ⟨_, _, I', s1, n1, .dK (.inr ⟨od, upd_same⟩) (r.mono st.fz), st.weakS fun b e => (n b).mpr e, fun b _ _ _ e => by rw [upd_ne (fun z => by subst z; rw [h] at e; cases e)]; exact e⟩
  | .dT (a := a) (ks := ks) h r n, I, sub, nod, hp => by
    obtain ⟨od, I'⟩ := I.lock h True.intro
    obtain ⟨s1, n1, st⟩ := freeze_one (H1 := H) (o := .frz od (.dT ks)) sub nod (hp a ((n a).mpr rfl)) h ⟨fun _ e => (nomatch e), fun _ e => (nomatch e)⟩ (fun _ e => (nomatch e))
    exact ⟨_, _, I', s1, n1, .dT (.inr ⟨od, upd_same⟩) (r.mono st.fz), st.weakS fun b e => (n b).mpr e, fun b _ _ _ e => by rw [upd_ne (fun z => by subst z; rw [h] at e; cases e)]; exact e⟩
  | .ins (a := a) (C := C) (dx := dx) (gs := gs) c h r z n, I, sub, nod, hp => by
    obtain ⟨Hf1, H1, I1, s1, n1, r1, st1, sd1⟩ := OwnF.freeze r I sub nod fun b q => hp b ((n b).mpr (.inr q))
    have h1 := st1.keep a _ h z
    obtain ⟨s2, n2, st2⟩ := freeze_one (H1 := H1) (o := .ins C dx gs) s1 n1 (st1.hf_none s1 h (fun _ e => (nomatch e)) (hp a ((n a).mpr (.inl rfl))) z) h1 ⟨fun _ e => (nomatch e), fun _ e => (nomatch e)⟩ (fun _ e => (nomatch e))
    rw [upd_self h1] at s2 st2
    refine ⟨_, H1, I1, s2, n2, .ins c upd_same (r1.mono st2.fz), ?_, sd1⟩
    have x1 : Step (fun b => b = a ∨ _) Hf H (fun b => b = a) Hf1 H1 := (st1.weakS (S0 := fun b => b = a ∨ _) fun b q => .inr q).any fun b e => .inl (.inl e)
    exact (x1.trans st2).weakS fun b q => (n b).mpr q
theorem OwnF.freeze {t : List (Str × OT)} {v : List (Str × V)} {P : Ad} {Hf H : Hp} : OwnF T K Hf H t v P → Inv X pins σ H s → Sub Hf H → HfOk Hf → (∀ a, P a → Hf a = none) →
    ∃ Hf' H', Inv X pins σ H' s ∧ Sub Hf' H' ∧ HfOk Hf' ∧ RepF T K Hf' (erF t) v ∧ Step P Hf H No Hf' H' ∧ Stand H H'
  | .nil n, I, sub, nod, hp => ⟨Hf, H, I, sub, nod, .nil, Step.any Step.refl fun _ h => h.elim, fun _ _ _ _ e => e⟩
  | .cons (S1 := S1) (S2 := S2) x r z n, I, sub, nod, hp => by
    obtain ⟨Hf1, H1, I1, s1, n1, r1, st1, sd1⟩ := Own.freeze x I sub nod fun b q => hp b ((n b).mpr (.inl q))
    have r' : OwnF T K Hf1 H1 _ _ S2 := r.move st1.fz fun b o q e => st1.keep b o e fun q1 => z b q1 q
    obtain ⟨Hf2, H2, I2, s2, n2, r2, st2, sd2⟩ := OwnF.freeze r' I1 s1 n1 fun b q => by
      obtain ⟨o, e, nt⟩ := r.there b q
      exact st1.hf_none s1 e nt (hp b ((n b).mpr (.inr q))) fun q1 => z b q1 q
    refine ⟨Hf2, H2, I2, s2, n2, .cons (r1.mono st2.fz) r2, ?_, fun a C dx gs e => sd2 a C dx gs (sd1 a C dx gs e)⟩
    have x1 : Step (fun b => S1 b ∨ S2 b) Hf H S2 Hf1 H1 := (st1.weakS (S0 := fun b => S1 b ∨ S2 b) fun b q => .inl q).any fun b e => .inl (.inr e)
    exact (x1.trans st2).weakS fun b q => (n b).mpr q
end
theorem Rel.sds {H' : Hp} (R : Rel T K F env σ Hf H S) (sd : Stand H H') : ∀ p ∈ F.hp, H' p.1 = H p.1 := fun p hp => (sd _ _ _ _ (R.stand p hp)).trans (R.stand p hp).symm
/-- something beside what the slots own changes -/
theorem Rel.side {P P' : Ad} {Hf' H' : Hp} (R : Rel T K F env σ Hf H S) (st : Step P Hf H P' Hf' H') (hp : ∀ a, P a → ¬ S a) (sub : Sub Hf' H') (nod : HfOk Hf') (sd : ∀ p ∈ F.hp, H' p.1 = H p.1) : Rel T K F env σ Hf' H' S where
  sub := sub
  nod := nod
  len := R.len
  cells := by
    obtain ⟨fp, c1, c2, c3, c4⟩ := R.cells
    refine ⟨fp, fun i t h => ?_, c2, c3, c4⟩
    obtain ⟨v, e, o⟩ := c1 i t h
    exact ⟨v, e, o.move st.fz fun a o' q h => st.keep a o' h fun z => hp a z (c4 i a q)⟩
  owned := fun a q => by
    obtain ⟨o, e, nt⟩ := R.there a q
    exact st.hf_none sub e nt (R.owned a q) fun z => hp a z q
  there := fun a q => by
    obtain ⟨o, e, nt⟩ := R.there a q
    exact ⟨o, st.keep a o e fun z => hp a z q, nt⟩
  pins := R.pins
  stand := fun p h => (sd p h).trans (R.stand p h)
theorem Step.side {P P' : Ad} {Hf0 H0 Hf' H' : Hp} (x : Step S0 Hf0 H0 S Hf H) (st : Step P Hf H P' Hf' H') (hp : ∀ a, P a → H0 a = none ∨ S0 a) : Step S0 Hf0 H0 S Hf' H' where
  fz := x.fz.trans st.fz
  keep := fun a o e n => st.keep a o (x.keep a o e n) fun z => (hp a z).elim (fun q => by rw [e] at q; cases q) n
  newf := fun a o e => by
    rcases st.newf a o e with z | z | z | z
    · exact x.newf a o z
    · exact .inr (.inl (x.nn z))
    · exact .inr ((hp a z).elim .inl fun q => .inr (.inl q))
    · exact .inr (.inr (.inr z))
  news := x.news
  dom := fun a o e => by
    obtain ⟨o1, e1, n1⟩ := x.dom a o e
    obtain ⟨o2, e2, n2⟩ := st.dom a o1 e1
    exact ⟨o2, e2, fun z => n2 (n1 z)⟩
def eFrz (m : EM) : EM := fun env => (m env).bind fun r e => match r with
  | .fz d => .ok (.fz d) e
  | .new t => .ok (.fz t.er) e
  | .bor i => match slot e i with
    | some t => .ok (.fz t.er) (e.set i (some (.fz t.er)))
    | none => .bad
theorem m_frz {e : Expr} {m : EM} (h : PE X e (liftE T X.K w F m)) : PE X e (liftE T X.K w F (eFrz m)) := by
  refine ⟨fun pins s σ H Q I q => ?_⟩
  obtain ⟨env, Hf, S, R, q⟩ := q
  refine thn (h.run pins s σ H (fun v H1 => ∃ r e1 Hf1 S1, m env = .ok r e1 ∧ Rel T X.K F e1 σ Hf1 H1 S1 ∧ Step S Hf H S1 Hf1 H1 ∧ TRel T X.K e1 σ Hf1 H1 S1 S H r v) I ⟨env, Hf, S, R, ?_⟩) fun u s1 ⟨v, H1, I1, rv, r, e1, Hf1, S1, em, R1, st1, t1⟩ => ?_
  · cases hm : m env with
    | bad => simp only [eFrz, hm, Res.bind] at q; exact q.elim
    | exc c fs e => simp only [eFrz, hm, Res.bind] at q; exact q
    | ok r e1 => exact fun Hf1 H1 S1 v R1 st1 t1 => ⟨r, e1, Hf1, S1, rfl, R1, st1, t1⟩
  · simp only [eFrz, em, Res.bind] at q
    cases r with
    | fz d => exact ⟨v, H1, I1, rv, q Hf1 H1 S1 v R1 st1 t1⟩
    | new t =>
      obtain ⟨P, o, hP⟩ := t1
      obtain ⟨Hf2, H2, I2, s2, n2, r2, st2, sd⟩ := o.freeze I1 R1.sub R1.nod fun a z => (hP a z).2.2
      exact ⟨v, H2, I2, rv, q Hf2 H2 S1 v (R1.side st2 (fun a z => (hP a z).2.1) s2 n2 (R1.sds sd)) (st1.side st2 fun a z => (hP a z).1) r2⟩
    | bor i =>
      cases hs : slot e1 i with
      | none => simp only [hs] at q; exact q.elim
      | some t =>
        simp only [hs] at q
        obtain ⟨v', P, ev, o, hP, mu⟩ := R1.mut hs
        have e2 : σ[i]? = some (some v) := t1
        rw [ev] at e2; cases e2
        obtain ⟨Hf2, H2, I2, s2, n2, r2, st2, sd⟩ := o.freeze I1 R1.sub R1.nod fun a z => R1.owned a (hP a z)
        obtain ⟨R2, st3⟩ := mu st2 s2 n2 (.fz r2 fun _ z => z) (fun _ z => z.elim) (R1.sds sd)
        exact ⟨v, H2, I2, rv, q Hf2 H2 _ v R2 (st1.trans st3) r2⟩
end
/-! ## targets -/
inductive Tg where
  | nm (i : Nat)
  | tp (ts : List Tg)
mutual
def setT : Tg → D → ME → Option ME
  | .nm i, d, env => if i < env.length then some (env.set i (some (.fz d))) else none
  | .tp ts, .tup ds, env => if ds.length = ts.length then setTs ts ds env else none
  | .tp ts, .lst ds, env => if ds.length = ts.length then setTs ts ds env else none
  | .tp _, _, _ => none
def setTs : List Tg → List D → ME → Option ME
  | [], [], env => some env
  | t :: ts, d :: ds, env => (setT t d env).bind fun e => setTs ts ds e
  | _, _, _ => none
end
mutual
/-- the slots that a target stores are not pinned -/
def freeT (F : Pn) : Tg → Bool
  | .nm i => F.sl.all fun p => p.1 != i
  | .tp ts => freeTs F ts
def freeTs (F : Pn) : List Tg → Bool
  | [] => true
  | t :: ts => freeT F t && freeTs F ts
end
mutual
def tgIx : Tg → List Nat
  | .nm i => [i]
  | .tp ts => tgIxs ts
def tgIxs : List Tg → List Nat
  | [] => []
  | t :: ts => tgIx t ++ tgIxs ts
end
/-- alike but at some slots -/
def Agree (is : List Nat) (σ σ' : St) : Prop := σ'.length = σ.length ∧ ∀ i, i ∉ is → σ'[i]? = σ[i]?
def liftG (T : Tb) (K : PySem.W.Frag) (F : Pn) (tg : Tg) : TG := fun v σ H Q => ∃ env Hf S d, Rel T K F env σ Hf H S ∧ Rep T K Hf d v ∧ ∃ e', setT tg d env = some e' ∧ ∀ σ', Rel T K F e' σ' Hf H S → Agree (tgIx tg) σ σ' → Q σ' H
def liftGs (T : Tb) (K : PySem.W.Frag) (F : Pn) (tg : List Tg) : TGs := fun v σ H Q => ∃ env Hf S d, Rel T K F env σ Hf H S ∧ Reps T K Hf d v ∧ ∃ e', setTs tg d env = some e' ∧ ∀ σ', Rel T K F e' σ' Hf H S → Agree (tgIxs tg) σ σ' → Q σ' H
section
variable {X : Cx} {T : Tb} {w : WX} {F : Pn} {K : PySem.W.Frag} {σ : St} {H Hf : Hp} {S S0 : Ad} {env e1 : ME} {Q : VK} {pins : List (Addr × Obj)} {s : Shared} {pos : Pos}
theorem PG.weak {e : Expr} {t t' : TG} (h : PG X e t) (k : ∀ v σ H Q, t' v σ H Q → t v σ H Q) : PG X e t' := ⟨fun pins s σ H v u Q I r q => h.run pins s σ H v u Q I r (k v σ H Q q)⟩
theorem PGs.weak {e : List Expr} {t t' : TGs} (h : PGs X e t) (k : ∀ v σ H Q, t' v σ H Q → t v σ H Q) : PGs X e t' := ⟨fun pins s σ H v u Q I r q => h.run pins s σ H v u Q I r (k v σ H Q q)⟩
theorem notPin {i : Nat} (h : (F.sl.all fun p => p.1 != i) = true) : ∀ p ∈ F.sl, p.1 ≠ i := fun p hp e => by
  have := List.all_eq_true.mp h p hp
  rw [e] at this
  simp at this
theorem m_gnm {i : Nat} {x : Str} (hN : X.N.Nodup) (hi : X.N[i]? = some x) (hx : Loc X.env.scope x) (hF : (F.sl.all fun p => p.1 != i) = true) (hf : X.fn x = true ∨ X.env.scope.names.lookup x = some .local := by first | exact .inl rfl | exact .inr rfl | assumption) : PG X (.Name x pos) (liftG T X.K F (.nm i)) :=
  PG.weak (pg_name hN hi hx hf) fun v σ H Q ⟨env, Hf, S, d, R, r, e', he, q⟩ => by
    simp only [setT] at he
    split at he
    · rename_i hl
      cases he
      exact q _ (R.setFz r hl (notPin hF)) ⟨List.length_set, fun j hj => List.getElem?_set_ne fun z => hj (by simp [tgIx, z])⟩
    · cases he
theorem m_gnil : PGs X [] (liftGs T X.K F []) :=
  PGs.weak pgs_nil fun v σ H Q ⟨env, Hf, S, d, R, r, e', he, q⟩ => by
    cases r with
    | nil => simp only [setTs] at he; cases he; exact ⟨rfl, q σ R ⟨rfl, fun _ _ => rfl⟩⟩
    | cons _ _ => simp only [setTs] at he; cases he
theorem m_gcons {e : Expr} {es : List Expr} {t : Tg} {ts : List Tg} (h1 : PG X e (liftG T X.K F t)) (h2 : PGs X es (liftGs T X.K F ts))
    (hs : (assignEach (e :: es) X.env).map (·.2) = assign e X.env :: (assignEach es X.env).map (·.2) := by rfl) : PGs X (e :: es) (liftGs T X.K F (t :: ts)) :=
  PGs.weak (pgs_cons h1 h2 hs) fun v σ H Q ⟨env, Hf, S, d, R, r, e', he, q⟩ => by
    cases r with
    | nil => simp only [setTs] at he; cases he
    | cons r1 rr =>
      simp only [setTs, Option.bind_eq_some_iff] at he
      obtain ⟨e1, h1, h2⟩ := he
      exact ⟨_, _, rfl, env, Hf, S, _, R, r1, e1, h1, fun σ1 R1 a1 => ⟨e1, Hf, S, _, R1, rr, e', h2, fun σ' R' a2 => q σ' R' ⟨a2.1.trans a1.1, fun i hi => by
        simp only [tgIxs, List.mem_append, not_or] at hi
        exact (a2.2 i hi.2).trans (a1.2 i hi.1)⟩⟩⟩
theorem PG.or {e : Expr} {t1 t2 : TG} (h1 : PG X e t1) (h2 : PG X e t2) : PG X e fun v σ H Q => t1 v σ H Q ∨ t2 v σ H Q := ⟨fun pins s σ H v u Q I r h => by
  rcases h with h | h
  · exact h1.run pins s σ H v u Q I r h
  · exact h2.run pins s σ H v u Q I r h⟩
theorem m_gtp {es : List Expr} {k : Nat} {ts : List Tg} {n : Nat} (hc : X.calm = true) (h : PGs X es (liftGs T X.K F ts)) (hl : ts.length = n := by rfl)
    (hn : (assignEach es X.env).length = n := by rfl) (hst : (assignEach es X.env).findIdx? (·.1) = none := by rfl) : PG X (.Tuple es k pos) (liftG T X.K F (.tp ts)) :=
  PG.weak (PG.or (pg_tup hc h hn hst) (pg_unl hc h hn hst)) fun v σ H Q ⟨env, Hf, S, d, R, r, e', he, q⟩ => by
    cases r with
    | tup h1 r1 =>
      simp only [setT] at he
      split at he
      · rename_i hle
        exact .inl ⟨_, _, rfl, SqT.of (R.sub _ _ h1), by rw [← r1.length, hle, hl], env, Hf, S, _, R, r1, e', he, q⟩
      · cases he
    | lst h1 r1 =>
      simp only [setT] at he
      split at he
      · rename_i hle
        exact .inr ⟨_, _, rfl, SqL.of (R.sub _ _ h1), by rw [← r1.length, hle, hl], env, Hf, S, _, R, r1, e', he, q⟩
      · cases he
    | _ => simp only [setT] at he; cases he
/-! ## statements -/
def SR.then (r : SR) (f : ME → SR) : SR := match r with
  | .nx e => f e
  | r => r
def sSkip : SM := fun env => .nx env
def sSeq (a b : SM) : SM := fun env => (a env).then b
def ofRes {α : Type} (r : Res α) (f : α → ME → SR) : SR := match r with
  | .ok a e => f a e
  | .exc c fs e => .exc c fs e
  | .bad => .bad
def sDrop (m : EM) : SM := fun env => ofRes (m env) fun _ e => .nx e
def sSet (i : Nat) (m : EM) : SM := fun env => ofRes (m env) fun r e => if i < e.length then (match r with
  | .fz d => .nx (e.set i (some (.fz d)))
  | .new t => .nx (e.set i (some t))
  | .bor _ => .bad) else .bad
def sTgt (tg : Tg) (m : EM) : SM := fun env => ofRes (m env) fun r e => match r with
  | .fz d => (match setT tg d e with
    | some e' => .nx e'
    | none => .bad)
  | _ => .bad
def sRet (m : EM) : SM := fun env => ofRes (m env) fun r e => match r with
  | .fz d => .ret (.fz d) e
  | .new t => .ret t e
  | .bor i => match slot e i with
    | some t => .ret t (e.set i none)
    | none => .bad
def sRetN : SM := fun env => .ret (.fz .non) env
def sBrk : SM := fun env => .bk env
def sCnt : SM := fun env => .ct env
def sBad : SM := fun _ => .bad
def sIf (c : TM) (a b : SM) : SM := fun env => ofRes (c env) fun k e => if k = true then a e else b e
variable {D' : Ends} {sa sb : SM} {m : EM} {st : Stmt} {rest : List Stmt} {e : Expr}
theorem EndS.step {Hf0 H0 Hf1 H1 : Hp} {S1 : Ad} {r : SR} (q : EndS T K w F S0 Hf0 H0 D' r) (x : Step S0 Hf0 H0 S1 Hf1 H1) : EndS T K w F S1 Hf1 H1 D' r := by
  cases r with
  | bad => exact q
  | exc c fs e => exact ExcEnd.step q x
  | nx e => exact fun σ' Hf' H' S' R y => q σ' Hf' H' S' R (x.trans y)
  | bk e => exact fun σ' Hf' H' S' R y => q σ' Hf' H' S' R (x.trans y)
  | ct e => exact fun σ' Hf' H' S' R y => q σ' Hf' H' S' R (x.trans y)
  | ret t e => exact fun σ' Hf' H' S' v P R y o h => q σ' Hf' H' S' v P R (x.trans y) o fun a z => ⟨by
      rcases (h a z).1 with z | z
      · exact .inl (x.nn z)
      · rcases x.news a z with z | z
        · exact .inr z
        · exact .inl z, (h a z).2⟩
theorem m_nil : PSs X [] (liftS T X.K w F sSkip) := PSs.weak pss_nil fun D σ H ⟨env, Hf, S, R, q⟩ => q σ Hf H S R .refl
theorem seq_core {D : Ends} {Hf0 H0 : Hp} (q : EndS T K w F S Hf H D ((sa env).then sb)) : EndS T K w F S Hf H { D with nx := liftS T K w F sb D } (sa env) := by
  cases hm : sa env with
  | nx e1 =>
    rw [hm] at q
    exact fun σ1 Hf1 H1 S1 R1 st1 => ⟨e1, Hf1, S1, R1, EndS.step q st1⟩
  | _ => rw [hm] at q; exact q
theorem m_cons (h1 : PS X st (liftS T X.K w F sa)) (h2 : PSs X rest (liftS T X.K w F sb)) : PSs X (st :: rest) (liftS T X.K w F (sSeq sa sb)) :=
  PSs.weak (pss_cons h1 h2) fun D σ H ⟨env, Hf, S, R, q⟩ => ⟨env, Hf, S, R, seq_core (H0 := H) (Hf0 := Hf) q⟩
theorem m_one (h1 : PS X st (liftS T X.K w F sa)) : PSs X [st] (liftS T X.K w F sa) := pss_one h1
theorem m_pass : PS X (.Pass pos) (liftS T X.K w F sSkip) := PS.weak ps_pass fun D σ H ⟨env, Hf, S, R, q⟩ => q σ Hf H S R .refl
theorem m_brk : PS X (.Break pos) (liftS T X.K w F sBrk) := PS.weak ps_break fun D σ H ⟨env, Hf, S, R, q⟩ => q σ Hf H S R .refl
theorem m_cnt : PS X (.Continue pos) (liftS T X.K w F sCnt) := PS.weak ps_continue fun D σ H ⟨env, Hf, S, R, q⟩ => q σ Hf H S R .refl
theorem m_never : PS X st (liftS T X.K w F sBad) := PS.weak ps_never fun D σ H ⟨env, Hf, S, R, q⟩ => q.elim
theorem m_nevers {sts : List Stmt} : PSs X sts (liftS T X.K w F sBad) := PSs.weak pss_never fun D σ H ⟨env, Hf, S, R, q⟩ => q.elim
/-- an expression, then a statement's end -/
theorem runES {m : EM} {f : ER → ME → SR} {k : VK} {D : Ends} {Hf0 H0 : Hp} (R : Rel T K F env σ Hf H S) (st : Step S0 Hf0 H0 S Hf H) (q : EndS T K w F S0 Hf0 H0 D (ofRes (m env) f))
    (h : ∀ r e1 Hf1 H1 S1 v, Rel T K F e1 σ Hf1 H1 S1 → Step S0 Hf0 H0 S1 Hf1 H1 → TRel T K e1 σ Hf1 H1 S1 S H r v → EndS T K w F S0 Hf0 H0 D (f r e1) → k v H1) : liftE T K w F m σ H k := by
  refine ⟨env, Hf, S, R, ?_⟩
  cases hm : m env with
  | bad => rw [hm] at q; exact q.elim
  | exc c fs e =>
    rw [hm] at q
    exact ExcEnd.step q st
  | ok r e =>
    rw [hm] at q
    exact fun Hf1 H1 S1 v R1 st1 t => h r e Hf1 H1 S1 v R1 (st.trans st1) t q
theorem runTS {m : TM} {f : Bool → ME → SR} {k : Bool → Hp → Prop} {D : Ends} {Hf0 H0 : Hp} (R : Rel T K F env σ Hf H S) (st : Step S0 Hf0 H0 S Hf H) (q : EndS T K w F S0 Hf0 H0 D (ofRes (m env) f))
    (h : ∀ b e1 Hf1 H1 S1, Rel T K F e1 σ Hf1 H1 S1 → Step S0 Hf0 H0 S1 Hf1 H1 → EndS T K w F S0 Hf0 H0 D (f b e1) → k b H1) : liftT T K w F m σ H k := by
  refine ⟨env, Hf, S, R, ?_⟩
  cases hm : m env with
  | bad => rw [hm] at q; exact q.elim
  | exc c fs e =>
    rw [hm] at q
    exact ExcEnd.step q st
  | ok b e =>
    rw [hm] at q
    exact fun Hf1 H1 S1 R1 st1 => h b e Hf1 H1 S1 R1 (st.trans st1) q
theorem m_expr (he : PE X e (liftE T X.K w F m)) (hs : swapsWith e none pos.line X.env = pure false := by rfl) : PS X (.Expr e pos) (liftS T X.K w F (sDrop m)) :=
  PS.weak (ps_expr he hs) fun D σ H ⟨env, Hf, S, R, q⟩ => runES R .refl q fun r e1 Hf1 H1 S1 v R1 st1 t q1 => q1 σ Hf1 H1 S1 R1 st1
theorem m_ret (he : PE X e (liftE T X.K w F m)) : PS X (.Return (some e) pos) (liftS T X.K w F (sRet m)) :=
  PS.weak (ps_ret he) fun D σ H ⟨env, Hf, S, R, q⟩ => runES R .refl q fun r e1 Hf1 H1 S1 v R1 st1 t q1 => by
    cases r with
    | fz d => exact q1 σ Hf1 H1 S1 v No R1 st1 (.fz t fun _ h => h) fun _ h => h.elim
    | new u =>
      obtain ⟨P, o, h⟩ := t
      exact q1 σ Hf1 H1 S1 v P R1 st1 o h
    | bor i =>
      cases hs : slot e1 i with
      | none => simp only [hs] at q1; exact q1.elim
      | some u =>
        simp only [hs] at q1
        obtain ⟨v', P, ev, o, hP, R2⟩ := R1.take hs
        have e2 : σ[i]? = some (some v) := t
        rw [ev] at e2; cases e2
        refine q1 σ Hf1 H1 _ v P R2 (st1.any fun a z => st1.news a z.1) o fun a z => ⟨?_, fun n => n.2 z, R1.owned a (hP a z)⟩
        exact (st1.news a (hP a z)).symm
theorem m_retN : PS X (.Return none pos) (liftS T X.K w F sRetN) :=
  PS.weak ps_retN fun D σ H ⟨env, Hf, S, R, q⟩ => q σ Hf H S .non No R .refl (.fz .non fun _ h => h) fun _ h => h.elim
theorem m_sif {c : Expr} {a b : List Stmt} {tc : TM} (hc : PT X c (liftT T X.K w F tc)) (ha : PSs X a (liftS T X.K w F sa)) (hb : PSs X b (liftS T X.K w F sb)) : PS X (.If c a b pos) (liftS T X.K w F (sIf tc sa sb)) :=
  PS.weak (ps_if hc ha hb) fun D σ H ⟨env, Hf, S, R, q⟩ => runTS R .refl q fun k e1 Hf1 H1 S1 R1 st1 q1 => by
    cases k with
    | true => exact ⟨e1, Hf1, S1, R1, EndS.step q1 st1⟩
    | false => exact ⟨e1, Hf1, S1, R1, EndS.step q1 st1⟩
/-- what a store of a name does -/
theorem set_core {i : Nat} {D : Ends} (hF : (F.sl.all fun p => p.1 != i) = true) (R : Rel T K F env σ Hf H S) (q : EndS T K w F S Hf H D (sSet i m env)) : liftE T K w F m σ H fun x H1 => D.nx (σ.set i (some x)) H1 :=
  runES R .refl q fun r e1 Hf1 H1 S1 v R1 st1 t q1 => by
    by_cases hl : i < e1.length
    · rw [if_pos hl] at q1
      cases r with
      | fz d => exact q1 _ Hf1 H1 S1 (R1.setFz t hl (notPin hF)) st1
      | new u =>
        obtain ⟨P, o, h⟩ := t
        exact q1 _ Hf1 H1 _ (R1.setOw o (fun a z => (h a z).2) hl (notPin hF)) (st1.any fun a z => z.elim (st1.news a) fun z => (h a z).1.symm)
      | bor j => exact q1.elim
    · rw [if_neg hl] at q1
      exact q1.elim
theorem m_set {i : Nat} {x : Str} {pos' : Pos} (hN : X.N.Nodup) (hi : X.N[i]? = some x) (hx : Loc X.env.scope x) (hF : (F.sl.all fun p => p.1 != i) = true) (he : PE X e (liftE T X.K w F m)) (hs : swapsWith e (some (.Name x pos')) pos.line X.env = pure false := by rfl)
    (hf : X.fn x = true ∨ X.env.scope.names.lookup x = some .local := by first | exact .inl rfl | exact .inr rfl | assumption) : PS X (.Assign [.Name x pos'] e pos) (liftS T X.K w F (sSet i m)) :=
  PS.weak (ps_set hN hi hx he hs hf) fun D σ H ⟨env, Hf, S, R, q⟩ => set_core hF R q
/-- target = e, the value frozen -/
theorem m_tgt {tg : Expr} {t : Tg} (he : PE X e (liftE T X.K w F m)) (hg : PG X tg (liftG T X.K F t)) (hs : swapsWithSole [tg] e pos.line X.env = pure false := by rfl) (hw : swappedStores [tg] e X.env = pure none := by rfl)
    (h1 : (assignEach [tg] X.env).map (·.2) = [assign tg X.env] := by rfl) : PS X (.Assign [tg] e pos) (liftS T X.K w F (sTgt t m)) :=
  PS.weak (ps_asg he hg hs hw h1) fun D σ H ⟨env, Hf, S, R, q⟩ => runES R .refl q fun r e1 Hf1 H1 S1 v R1 st1 tr q1 => by
    cases r with
    | fz d =>
      cases hs : setT t d e1 with
      | none => simp only [hs] at q1; exact q1.elim
      | some e2 =>
        simp only [hs] at q1
        exact ⟨e1, Hf1, S1, d, R1, tr, e2, hs, fun σ' R' _ => q1 σ' Hf1 H1 S1 R' st1⟩
    | _ => exact q1.elim
end
end Mi
namespace Mi
open PySem L2
/-! ## what is walked -/
def keyD1 : NK → D
  | .num i => .int i
  | .text x => .str x
  | _ => .non
def keyD : NK → D
  | .num i => .int i
  | .text x => .str x
  | .tup ks => .tup (ks.map keyD1)
  | .none => .non
inductive Yield (Hf H : Hp) : Hp → Hp → Prop where
  | same : Yield Hf H Hf H
  | tup {p : Addr} {vs : List V} : H p = none → Yield Hf H (upd Hf p (.tup vs)) (upd H p (.tup vs))
  | key {p : Addr} {vs : List V} : H p = some (.tup vs) → Yield Hf H (upd Hf p (.tup vs)) H
/-- an iterator that gives the items, whatever new heap stands -/
def ItOk (T : Tb) (K : PySem.W.Frag) (J : It) (items : List D) (Hf0 : Hp) : Prop :=
  ∀ Hf H i, Sub Hf0 Hf → Sub Hf H → HfOk Hf → (∀ d, items[i]? = some d → J.go i H ∧ ∀ x H', J.yld i H x H' → ∃ Hf', Yield Hf H Hf' H' ∧ Rep T K Hf' d x) ∧ (items.length ≤ i → J.stop i H)
abbrev IM := ME → Res (List D)
def EndI (T : Tb) (K : PySem.W.Frag) (w : WX) (F : Pn) (S : Ad) (Hf H : Hp) (σ : St) (R : It → Hp → Prop) : Res (List D) → Prop
  | .ok items env' => ∀ Hf' H' S' J, Rel T K F env' σ Hf' H' S' → Step S Hf H S' Hf' H' → ItOk T K J items Hf' → R J H'
  | .exc c fs env' => ExcEnd T K w F S Hf H c fs env'
  | .bad => False
def liftI (T : Tb) (K : PySem.W.Frag) (w : WX) (F : Pn) (m : IM) : TI := fun σ H R => ∃ env Hf S, Rel T K F env σ Hf H S ∧ EndI T K w F S Hf H σ R (m env)
def iEnd (r : ER) (e : ME) : Res (List D) := match r with
  | .fz (.lst xs) => .ok xs e
  | .fz (.scr ns) => .ok (ns.map D.int) e
  | .fz (.tup xs) => .ok xs e
  | .fz (.dic _ kvs) => .ok (kvs.map fun p => keyD p.1) e
  | _ => .bad
def iAny (m : EM) : IM := fun env => (eFrz m env).bind iEnd
def rng (lo : Int) (n : Nat) : List D := (List.range n).map fun i => D.int (lo + (i : Nat))
def rngDown (lo : Int) (n : Nat) : List D := (List.range n).map fun i => D.int (lo - (i : Nat))
/-- sealed: no term of it is ever run -/
theorem small62_ex : ∃ f : Int → Bool, ∀ i, f i = decide (-(2 ^ 62) ≤ i ∧ i < 2 ^ 62) := ⟨_, fun _ => rfl⟩
noncomputable def small62 : Int → Bool := Classical.choose small62_ex
theorem small62_eq (i : Int) : small62 i = decide (-(2 ^ 62) ≤ i ∧ i < 2 ^ 62) := Classical.choose_spec small62_ex i
noncomputable def rng1 : Option (List D) → Option (List D)
  | some [.int j] => if small62 j = true then some (rng 0 j.toNat) else none
  | _ => none
noncomputable def rng2 : Option (List D) → Option (List D)
  | some [.int i, .int j] => if small62 i = true ∧ small62 j = true then some (rng i (j - i).toNat) else none
  | _ => none
noncomputable def rngD : Option (List D) → Option (List D)
  | some [.int i, .int j, .int c] => if c = -1 ∧ small62 i = true ∧ small62 j = true then some (rngDown i (i - j).toNat) else none
  | _ => none
def iRange (g : Option (List D) → Option (List D)) (m : AM) : IM := fun env => (m env).bind fun rs e => match g (viewAll e rs) with
  | some xs => .ok xs e
  | none => .bad
def enumL : Nat → List D → List D
  | _, [] => []
  | n, x :: xs => .tup [.int (n : Int), x] :: enumL (n + 1) xs
def zipL : List D → List D → List D := List.zipWith fun x y => .tup [x, y]
section
variable {X : Cx} {T : Tb} {w : WX} {F : Pn} {K : PySem.W.Frag} {σ : St} {H Hf : Hp} {S S0 : Ad} {env e1 : ME} {Q : VK} {pins : List (Addr × Obj)} {s : Shared} {pos : Pos} {m : EM} {tg : Expr}
theorem Yield.rel {Hf' H' : Hp} (R : Rel T K F env σ Hf H S) (y : Yield Hf H Hf' H') : Rel T K F env σ Hf' H' S ∧ Step S Hf H S Hf' H' := by
  cases y with
  | same => exact ⟨R, .refl⟩
  | tup hp => exact R.newFz hp ⟨fun _ e => (nomatch e), fun _ e => (nomatch e)⟩
  | key hp =>
    rename_i p vs
    have s1 : Sub Hf (upd Hf p (.tup vs)) := fun a o e => by
      by_cases z : a = p
      · subst z
        have := R.sub a o e
        rw [hp] at this; cases this
        exact upd_same
      · rw [upd_ne z]; exact e
    refine ⟨R.grow s1 (Sub.refl _) (fun a o e => ?_) (fun a o e => ?_) (fun a q => ?_), s1, fun a o e _ => e, fun a o e => ?_, fun a q => .inl q, fun a o e => ⟨o, e, id⟩⟩
    · rcases upd_some e with ⟨rfl, rfl⟩ | ⟨n, e⟩
      · exact hp
      · exact R.sub a o e
    · rcases upd_some e with ⟨rfl, rfl⟩ | ⟨n, e⟩
      · exact ⟨fun _ e => (nomatch e), fun _ e => (nomatch e)⟩
      · exact R.nod a o e
    · obtain ⟨o, e, nt⟩ := R.there a q
      have : a ≠ p := fun z => by
        subst z
        rw [hp] at e; cases e
        exact nt vs rfl
      rw [upd_ne this]
      exact R.owned a q
    · rcases upd_some e with ⟨rfl, rfl⟩ | ⟨n, e⟩
      · exact .inr (.inr (.inr ⟨vs, rfl⟩))
      · exact .inl e
theorem ItOk.mono {J : It} {items : List D} {Hf Hf' : Hp} (h : ItOk T K J items Hf) (s : Sub Hf Hf') : ItOk T K J items Hf' := fun Hf2 H i s2 => h Hf2 H i (s.trans s2)
theorem Reps.lenV {xs : List D} {vs : List V} (r : Reps T K Hf xs vs) {i : Nat} (h : xs.length ≤ i) : vs.length ≤ i := r.length ▸ h
theorem it_list {a : Addr} {vs : List V} {xs : List D} (h : SqL K Hf a vs) (r : Reps T K Hf xs vs) : ItOk T K (Itl K a) xs Hf := fun Hf2 H i s1 s2 _ => by
  have hL : SqL K H a vs := (s1.trans s2).sqL h
  refine ⟨fun d e => ?_, fun e => ⟨vs, hL, r.lenV e⟩⟩
  obtain ⟨v, ev, rv⟩ := r.get e
  refine ⟨⟨vs, v, hL, ev⟩, fun x H' y => ⟨Hf2, ?_, ?_⟩⟩
  · rw [y.1]; exact .same
  · have := y.2 vs hL
    rw [ev] at this; cases this
    exact rv.mono s1
theorem it_tup {a : Addr} {vs : List V} {xs : List D} (h : SqT K Hf a vs) (r : Reps T K Hf xs vs) : ItOk T K (Itt K a) xs Hf := fun Hf2 H i s1 s2 _ => by
  have hL : SqT K H a vs := (s1.trans s2).sqT h
  refine ⟨fun d e => ?_, fun e => ⟨vs, hL, r.lenV e⟩⟩
  obtain ⟨v, ev, rv⟩ := r.get e
  refine ⟨⟨vs, v, hL, ev⟩, fun x H' y => ⟨Hf2, ?_, ?_⟩⟩
  · rw [y.1]; exact .same
  · have := y.2 vs hL
    rw [ev] at this; cases this
    exact rv.mono s1
theorem it_rng {lo : Int} {n : Nat} : ItOk T K (Itr lo n) (rng lo n) Hf := fun Hf2 H i s1 s2 _ => by
  refine ⟨fun d e => ?_, fun e => show n ≤ i by simpa [rng] using e⟩
  have hi : i < n := by
    have := (List.getElem?_eq_some_iff.mp e).1
    simpa [rng] using this
  refine ⟨hi, fun x H' y => ⟨Hf2, ?_, ?_⟩⟩
  · rw [y.1]; exact .same
  · have : d = .int (lo + i) := by
      simp [rng, hi] at e; exact e.symm
    rw [y.2, this]; exact .int _
theorem RepK.get : ∀ {ds : List (NK × D)} {vs : List (Key × V)}, RepK T K H ds vs → ∀ {i : Nat} {k : Key} {v : V}, vs[i]? = some (k, v) → ∃ d, ds[i]? = some (keyN k, d) ∧ Rep T K H d v
  | _, _, .nil, i, k, d, h => by simp at h
  | _, _, .cons r _, 0, k, d, h => by
    simp at h
    obtain ⟨rfl, rfl⟩ := h
    exact ⟨_, rfl, r⟩
  | _, _, .cons _ t, i + 1, k, d, h => by
    obtain ⟨v, e, r⟩ := RepK.get t (i := i) (v := d) (k := k) (by simpa using h)
    exact ⟨v, by simpa using e, r⟩
theorem RepK.length : ∀ {ds : List (NK × D)} {vs : List (Key × V)}, RepK T K H ds vs → ds.length = vs.length
  | _, _, .nil => rfl
  | _, _, .cons _ r => congrArg (· + 1) r.length
theorem RepT.get : ∀ {ds : List (NK × D)} {vs : List (List Key × V)}, RepT T K H ds vs → ∀ {i : Nat} {k : List Key} {v : V}, vs[i]? = some (k, v) → ∃ d, ds[i]? = some (keyT k, d) ∧ Rep T K H d v
  | _, _, .nil, i, k, d, h => by simp at h
  | _, _, .cons r _, 0, k, d, h => by
    simp at h
    obtain ⟨rfl, rfl⟩ := h
    exact ⟨_, rfl, r⟩
  | _, _, .cons _ t, i + 1, k, d, h => by
    obtain ⟨v, e, r⟩ := RepT.get t (i := i) (v := d) (k := k) (by simpa using h)
    exact ⟨v, by simpa using e, r⟩
theorem RepT.length : ∀ {ds : List (NK × D)} {vs : List (List Key × V)}, RepT T K H ds vs → ds.length = vs.length
  | _, _, .nil => rfl
  | _, _, .cons _ r => congrArg (· + 1) r.length
theorem keyD_rep (k : Key) : Rep T K H (keyD (keyN k)) (kV k) := by
  cases k with
  | inl i => exact .int i
  | inr x => exact .str x
theorem keyD1_rep (k : Key) : Rep T K H (keyD1 (keyN k)) (kV k) := by
  cases k with
  | inl i => exact .int i
  | inr x => exact .str x
theorem keyT_reps : ∀ ks : List Key, Reps T K H ((ks.map keyN).map keyD1) (ks.map kV)
  | [] => .nil
  | k :: ks => .cons (keyD1_rep k) (keyT_reps ks)
/-- a frozen dict is locked -/
theorem rd_dK (n : HfOk Hf) {a : Addr} {ks : List (Key × V)} (h : Rd Hf a (.dK ks)) : ∃ o, Hf a = some (.frz o (.dK ks)) := by
  rcases h with h | h
  · exact absurd rfl ((n a _ h).1 ks)
  · exact h
theorem rd_dT (n : HfOk Hf) {a : Addr} {ks : List (List Key × V)} (h : Rd Hf a (.dT ks)) : ∃ o, Hf a = some (.frz o (.dT ks)) := by
  rcases h with h | h
  · exact absurd rfl ((n a _ h).2 ks)
  · exact h
theorem it_keysK {a : Addr} {o : Obj} {ks : List (Key × V)} {kvs : List (NK × D)} (h : Hf a = some (.frz o (.dK ks))) (r : RepK T K Hf kvs ks) : ItOk T K (Itk a o ks) (kvs.map fun p => keyD p.1) Hf := fun Hf2 H i s1 s2 _ => by
  have hH := s2 _ _ (s1 _ _ h)
  have hl := r.length
  refine ⟨fun d e => ?_, fun e => ⟨hH, by simpa [← hl] using e⟩⟩
  have hi : i < ks.length := by
    have := (List.getElem?_eq_some_iff.mp e).1
    simpa [← hl] using this
  refine ⟨⟨hH, hi⟩, fun x H' y => ⟨Hf2, ?_, ?_⟩⟩
  · rw [y.1]; exact .same
  · obtain ⟨k, v, ek, ex⟩ := y.2
    obtain ⟨d', ed, _⟩ := r.get ek
    rw [List.getElem?_map, ed] at e
    cases e
    rw [ex]; exact keyD_rep k
theorem it_keysT {a : Addr} {o : Obj} {ks : List (List Key × V)} {kvs : List (NK × D)} (h : Hf a = some (.frz o (.dT ks))) (r : RepT T K Hf kvs ks) : ItOk T K (Itkt a o ks) (kvs.map fun p => keyD p.1) Hf := fun Hf2 H i s1 s2 _ => by
  have hH := s2 _ _ (s1 _ _ h)
  have hl := r.length
  refine ⟨fun d e => ?_, fun e => ⟨hH, by simpa [← hl] using e⟩⟩
  have hi : i < ks.length := by
    have := (List.getElem?_eq_some_iff.mp e).1
    simpa [← hl] using this
  refine ⟨⟨hH, hi⟩, fun x H' y => ?_⟩
  obtain ⟨eH, k, v, q, ek, ex, eq⟩ := y
  obtain ⟨d', ed, _⟩ := r.get ek
  rw [List.getElem?_map, ed] at e
  cases e
  rw [eH, ex]
  exact ⟨_, .key eq, .tup upd_same (keyT_reps k)⟩
theorem m_iany {l : Expr} (h : PE X l (liftE T X.K w F m)) : PI X tg l (liftI T X.K w F (iAny m)) := by
  have hf := m_frz h
  refine ⟨fun pins s σ H R I ⟨env, Hf, S, RR, q⟩ => ?_⟩
  have go : ∀ wi : TI, PI X tg l wi → wi σ H R → _ := fun wi hp hw => hp.run pins s σ H R I hw
  cases hm : eFrz m env with
  | bad => simp only [iAny, hm] at q; exact q.elim
  | exc c fs e =>
    refine go _ (pi_list hf) ⟨env, Hf, S, RR, ?_⟩
    rw [hm]
    simp only [iAny, hm] at q
    exact q
  | ok r e =>
    simp only [iAny, hm, Res.bind] at q
    have bad : ∀ {P : Prop}, iEnd r e = .bad → P := fun z => by rw [z] at q; exact q.elim
    cases r with
    | fz d =>
      cases d with
      | lst xs =>
        refine go _ (pi_list hf) ⟨env, Hf, S, RR, ?_⟩
        rw [hm]
        intro Hf1 H1 S1 v R1 st1 t
        cases t with
        | lst hs r => exact ⟨_, rfl, ⟨_, SqL.of (R1.sub _ _ hs)⟩, q Hf1 H1 S1 _ R1 st1 (it_list (SqL.of hs) r)⟩
      | scr ns =>
        refine go _ (pi_list hf) ⟨env, Hf, S, RR, ?_⟩
        rw [hm]
        intro Hf1 H1 S1 v R1 st1 t
        cases t with
        | scr hs => exact ⟨_, rfl, ⟨_, R1.sub.sqL hs⟩, q Hf1 H1 S1 _ R1 st1 (it_list hs (Reps.ofFn (fun i => .int i) ns))⟩
      | tup xs =>
        refine go _ (pi_tup hf) ⟨env, Hf, S, RR, ?_⟩
        rw [hm]
        intro Hf1 H1 S1 v R1 st1 t
        cases t with
        | tup hs r => exact ⟨_, rfl, ⟨_, SqT.of (R1.sub _ _ hs)⟩, q Hf1 H1 S1 _ R1 st1 (it_tup (SqT.of hs) r)⟩
      | dic b kvs =>
        refine go _ (pi_keys hf) ⟨env, Hf, S, RR, ?_⟩
        rw [hm]
        intro Hf1 H1 S1 v R1 st1 t
        cases t with
        | dK hs r =>
          obtain ⟨o, ho⟩ := rd_dK R1.nod hs
          exact ⟨_, o, rfl, .inl ⟨_, R1.sub _ _ ho, q Hf1 H1 S1 _ R1 st1 (it_keysK ho r)⟩⟩
        | dT hs r =>
          obtain ⟨o, ho⟩ := rd_dT R1.nod hs
          exact ⟨_, o, rfl, .inr ⟨_, R1.sub _ _ ho, q Hf1 H1 S1 _ R1 st1 (it_keysT ho r)⟩⟩
      | _ => exact bad rfl
    | new t => exact bad rfl
    | bor i => exact bad rfl
theorem small62_of {i : Int} (h : small62 i = true) : -(2 ^ 62) ≤ i ∧ i < 2 ^ 62 := of_decide_eq_true ((small62_eq i).symm.trans h)
theorem runAI {m : AM} {f : List ER → ME → Res (List D)} {R : It → Hp → Prop} {k : List V → Hp → Prop} (RR : Rel T K F env σ Hf H S) (q : EndI T K w F S Hf H σ R ((m env).bind f))
    (h : ∀ r e1 Hf1 H1 S1 v, Rel T K F e1 σ Hf1 H1 S1 → Step S Hf H S1 Hf1 H1 → ARel T K e1 σ Hf1 H1 S1 S H r v → EndI T K w F S Hf H σ R (f r e1) → k v H1) : liftA T K w F m σ H k := by
  refine ⟨env, Hf, S, RR, ?_⟩
  cases hm : m env with
  | bad => rw [hm] at q; exact q.elim
  | exc c fs e => rw [hm] at q; exact q
  | ok r e =>
    rw [hm] at q
    exact fun Hf1 H1 S1 v R1 st1 t => h r e Hf1 H1 S1 v R1 st1 t q
theorem rng_core {g : Option (List D) → Option (List D)} {n : AM} {R : It → Hp → Prop} {k : List V → Hp → Prop} (RR : Rel T K F env σ Hf H S) (q : EndI T K w F S Hf H σ R (iRange g n env))
    (h : ∀ o xs Hf1 H1 vs, g o = some xs → (∀ ds, o = some ds → Views T K Hf1 H1 ds vs) → (∀ J, ItOk T K J xs Hf1 → R J H1) → k vs H1) : liftA T K w F n σ H k :=
  runAI RR q fun rs e Hf1 H1 S1 vs R1 st1 t q1 => by
    cases hg : g (viewAll e rs) with
    | none => simp only [hg] at q1; exact q1.elim
    | some xs =>
      simp only [hg] at q1
      exact h _ xs Hf1 H1 vs hg (fun ds e => t.views R1 e) fun J hJ => q1 Hf1 H1 S1 J R1 st1 hJ
theorem Views.one {d : D} {vs : List V} (h : Views T K Hf H [d] vs) : ∃ v, vs = [v] ∧ View T K Hf H d v := by
  cases h with | cons a b => cases b; exact ⟨_, rfl, a⟩
theorem Views.two {d e : D} {vs : List V} (h : Views T K Hf H [d, e] vs) : ∃ v u, vs = [v, u] ∧ View T K Hf H d v ∧ View T K Hf H e u := by
  cases h with | cons a b => cases b with | cons b c => cases c; exact ⟨_, _, rfl, a, b⟩
theorem Views.three {d e f : D} {vs : List V} (h : Views T K Hf H [d, e, f] vs) : ∃ v u z, vs = [v, u, z] ∧ View T K Hf H d v ∧ View T K Hf H e u ∧ View T K Hf H f z := by
  cases h with | cons a b => cases b with | cons b c => cases c with | cons c d => cases d; exact ⟨_, _, _, rfl, a, b, c⟩
theorem m_irange1 {a : Expr} {n : AM} {p pos : Pos} (hg : Gl X "range") (hm : X.mg "range" = none) (ha : PA X [a] (liftA T X.K w F n)) (hs : starEach [a] X.env = [(false, eval a X.env)] := by rfl) :
    PI X tg (.Call (.Name "range" p) [a] [] pos) (liftI T X.K w F (iRange rng1 n)) := by
  refine ⟨fun pins s σ H R I ⟨env, Hf, S, RR, q⟩ => (pi_range1 hg hm ha hs).run pins s σ H R I ?_⟩
  refine rng_core RR q fun o xs Hf1 H1 vs hx hv q1 => ?_
  unfold rng1 at hx
  split at hx
  · rename_i j
    obtain ⟨v, rfl, h1⟩ := (hv _ rfl).one
    split at hx
    · rename_i hj
      cases hx
      cases h1.int
      exact ⟨j, rfl, (small62_of hj).1, (small62_of hj).2, q1 _ it_rng⟩
    · cases hx
  · cases hx
theorem m_irange2 {a b : Expr} {n : AM} {p pos : Pos} (hg : Gl X "range") (hm : X.mg "range" = none) (ha : PA X [a, b] (liftA T X.K w F n)) (hs : starEach [a, b] X.env = [(false, eval a X.env), (false, eval b X.env)] := by rfl) (hs2 : starEach [b] X.env = [(false, eval b X.env)] := by rfl) :
    PI X tg (.Call (.Name "range" p) [a, b] [] pos) (liftI T X.K w F (iRange rng2 n)) := by
  refine ⟨fun pins s σ H R I ⟨env, Hf, S, RR, q⟩ => (pi_range2 hg hm ha hs hs2).run pins s σ H R I ?_⟩
  refine rng_core RR q fun o xs Hf1 H1 vs hx hv q1 => ?_
  unfold rng2 at hx
  split at hx
  · rename_i i j
    obtain ⟨v, u, rfl, h1, h2⟩ := (hv _ rfl).two
    split at hx
    · rename_i hj
      cases hx
      cases h1.int
      cases h2.int
      exact ⟨i, j, rfl, ⟨(small62_of hj.1).1, (small62_of hj.1).2, (small62_of hj.2).1, (small62_of hj.2).2⟩, q1 _ it_rng⟩
    · cases hx
  · cases hx
theorem it_rngD {lo : Int} {n : Nat} : ItOk T K (Itc lo (-1) n) (rngDown lo n) Hf := fun Hf2 H i s1 s2 _ => by
  refine ⟨fun d e => ?_, fun e => show n ≤ i by simpa [rngDown] using e⟩
  have hi : i < n := by
    have := (List.getElem?_eq_some_iff.mp e).1
    simpa [rngDown] using this
  refine ⟨hi, fun x H' y => ⟨Hf2, ?_, ?_⟩⟩
  · rw [y.1]; exact .same
  · have : d = .int (lo - i) := by
      simp [rngDown, hi] at e; exact e.symm
    have e2 : x = .int (lo + (i : Int) * (-1)) := y.2
    rw [e2, this]
    have : lo + (i : Int) * (-1) = lo - i := by omega
    rw [this]; exact .int _
theorem m_irange3 {a b c : Expr} {n : AM} {p pos : Pos} (hg : Gl X "range") (hm : X.mg "range" = none) (ha : PA X [a, b, c] (liftA T X.K w F n)) (hs : starEach [a, b, c] X.env = (false, eval a X.env) :: starEach [b, c] X.env := by rfl) (hpl : (backTo pos (starEach [b, c] X.env)).any (·.1) = false := by rfl) :
    PI X tg (.Call (.Name "range" p) [a, b, c] [] pos) (liftI T X.K w F (iRange rngD n)) := by
  refine ⟨fun pins s σ H R I ⟨env, Hf, S, RR, q⟩ => (pi_range3 hg hm ha hs hpl).run pins s σ H R I ?_⟩
  refine rng_core RR q fun o xs Hf1 H1 vs hx hv q1 => ?_
  unfold rngD at hx
  split at hx
  · rename_i i j c
    obtain ⟨v, u, z, rfl, h1, h2, h3⟩ := (hv _ rfl).three
    split at hx
    · rename_i hj
      obtain ⟨rfl, hi, hj⟩ := hj
      cases hx
      cases h1.int
      cases h2.int
      cases h3.int
      exact ⟨i, j, -1, _, rfl, RgC.neg (small62_of hi).1 (small62_of hi).2 (small62_of hj).1 (small62_of hj).2, q1 _ it_rngD⟩
    · cases hx
  · cases hx
/-! enumerate, zip -/
def enum1 : List ER → Option (List D)
  | [.fz (.lst xs)] => some (enumL 0 xs)
  | _ => none
def zip2 : List ER → Option (List D)
  | [.fz (.lst xs), .fz (.lst ys)] => some (zipL xs ys)
  | [.fz (.tup xs), .fz (.tup ys)] => some (zipL xs ys)
  | _ => none
def iArgs (g : List ER → Option (List D)) (m : AM) : IM := fun env => (m env).bind fun rs e => match g rs with
  | some xs => .ok xs e
  | none => .bad
theorem args_core {g : List ER → Option (List D)} {n : AM} {R : It → Hp → Prop} {k : List V → Hp → Prop} (RR : Rel T K F env σ Hf H S) (q : EndI T K w F S Hf H σ R (iArgs g n env))
    (h : ∀ rs xs e Hf1 H1 S1 vs, g rs = some xs → Sub Hf1 H1 → ARel T K e σ Hf1 H1 S1 S H rs vs → (∀ J, ItOk T K J xs Hf1 → R J H1) → k vs H1) : liftA T K w F n σ H k :=
  runAI RR q fun rs e Hf1 H1 S1 vs R1 st1 t q1 => by
    cases hg : g rs with
    | none => simp only [hg] at q1; exact q1.elim
    | some xs =>
      simp only [hg] at q1
      exact h _ xs e Hf1 H1 S1 vs hg R1.sub t fun J hJ => q1 Hf1 H1 S1 J R1 st1 hJ
theorem enumL_get : ∀ (xs : List D) (n i : Nat) (d : D), (enumL n xs)[i]? = some d → ∃ x, xs[i]? = some x ∧ d = .tup [.int ((n + i : Nat) : Int), x]
  | [], n, i, d, h => by simp [enumL] at h
  | x :: xs, n, 0, d, h => by
    simp [enumL] at h
    exact ⟨x, rfl, by rw [← h]; simp⟩
  | x :: xs, n, i + 1, d, h => by
    simp only [enumL, List.getElem?_cons_succ] at h
    obtain ⟨y, e1, e2⟩ := enumL_get xs (n + 1) i d h
    exact ⟨y, by simpa using e1, by rw [e2, show n + 1 + i = n + (i + 1) by omega]⟩
theorem enumL_length : ∀ (xs : List D) (n : Nat), (enumL n xs).length = xs.length
  | [], _ => rfl
  | x :: xs, n => congrArg (· + 1) (enumL_length xs (n + 1))
theorem it_enum {a : Addr} {vs : List V} {xs : List D} (h : SqL K Hf a vs) (r : Reps T K Hf xs vs) : ItOk T K (Ite K a) (enumL 0 xs) Hf := fun Hf2 H i s1 s2 _ => by
  have hL : SqL K H a vs := (s1.trans s2).sqL h
  refine ⟨fun d e => ?_, fun e => ⟨vs, hL, r.lenV (by simpa [enumL_length] using e)⟩⟩
  obtain ⟨x, ex, rfl⟩ := enumL_get xs 0 i d e
  obtain ⟨v, ev, rv⟩ := r.get ex
  refine ⟨⟨vs, v, hL, ev⟩, fun u H' y => ?_⟩
  obtain ⟨p, v', rfl, hp, rfl, q⟩ := y
  have := q vs hL
  rw [ev] at this; cases this
  have hp2 : Hf2 p = none := by
    cases z : Hf2 p with
    | none => rfl
    | some o => rw [s2 p o z] at hp; cases hp
  exact ⟨_, .tup hp, .tup upd_same (.cons (by rw [show ((0 + i : Nat) : Int) = (i : Int) by simp]; exact .int _) (.cons ((rv.mono s1).mono (sub_upd hp2)) .nil))⟩
theorem zipL_get : ∀ (xs ys : List D) (i : Nat) (d : D), (zipL xs ys)[i]? = some d → ∃ x y, xs[i]? = some x ∧ ys[i]? = some y ∧ d = .tup [x, y] := fun xs ys i d h => by
  unfold zipL at h
  rw [List.getElem?_zipWith] at h
  cases h1 : xs[i]? with
  | none => rw [h1] at h; simp at h
  | some x =>
    cases h2 : ys[i]? with
    | none => rw [h1, h2] at h; simp at h
    | some y => rw [h1, h2] at h; simp at h; exact ⟨x, y, rfl, rfl, h.symm⟩
theorem it_zipL {a b : Addr} {vs us : List V} {xs ys : List D} (h : SqL K Hf a vs) (r : Reps T K Hf xs vs) (h2 : SqL K Hf b us) (r2 : Reps T K Hf ys us) : ItOk T K (Itz K a b) (zipL xs ys) Hf := fun Hf2 H i s1 s2 _ => by
  have hL : SqL K H a vs := (s1.trans s2).sqL h
  have hL2 : SqL K H b us := (s1.trans s2).sqL h2
  refine ⟨fun d e => ?_, fun e => ⟨vs, us, hL, hL2, ?_⟩⟩
  · obtain ⟨x, y, ex, ey, rfl⟩ := zipL_get xs ys i d e
    obtain ⟨v, ev, rv⟩ := r.get ex
    obtain ⟨u, eu, ru⟩ := r2.get ey
    refine ⟨⟨vs, us, v, u, hL, hL2, ev, eu⟩, fun z H' yy => ?_⟩
    obtain ⟨p, v', u', rfl, hp, rfl, q, q'⟩ := yy
    have := q vs hL
    rw [ev] at this; cases this
    have := q' us hL2
    rw [eu] at this; cases this
    have hp2 : Hf2 p = none := by
      cases z : Hf2 p with
      | none => rfl
      | some o => rw [s2 p o z] at hp; cases hp
    exact ⟨_, .tup hp, .tup upd_same (.cons ((rv.mono s1).mono (sub_upd hp2)) (.cons ((ru.mono s1).mono (sub_upd hp2)) .nil))⟩
  · unfold zipL at e
    rw [List.length_zipWith, r.length, r2.length] at e
    omega
theorem it_zipT {a b : Addr} {vs us : List V} {xs ys : List D} (h : SqT K Hf a vs) (r : Reps T K Hf xs vs) (h2 : SqT K Hf b us) (r2 : Reps T K Hf ys us) : ItOk T K (RZ.ItzT K a b) (zipL xs ys) Hf := fun Hf2 H i s1 s2 _ => by
  have hL : SqT K H a vs := (s1.trans s2).sqT h
  have hL2 : SqT K H b us := (s1.trans s2).sqT h2
  refine ⟨fun d e => ?_, fun e => ⟨vs, us, hL, hL2, ?_⟩⟩
  · obtain ⟨x, y, ex, ey, rfl⟩ := zipL_get xs ys i d e
    obtain ⟨v, ev, rv⟩ := r.get ex
    obtain ⟨u, eu, ru⟩ := r2.get ey
    refine ⟨⟨vs, us, v, u, hL, hL2, ev, eu⟩, fun z H' yy => ?_⟩
    obtain ⟨p, v', u', rfl, hp, rfl, q, q'⟩ := yy
    have := q vs hL
    rw [ev] at this; cases this
    have := q' us hL2
    rw [eu] at this; cases this
    have hp2 : Hf2 p = none := by
      cases z : Hf2 p with
      | none => rfl
      | some o => rw [s2 p o z] at hp; cases hp
    exact ⟨_, .tup hp, .tup upd_same (.cons ((rv.mono s1).mono (sub_upd hp2)) (.cons ((ru.mono s1).mono (sub_upd hp2)) .nil))⟩
  · unfold zipL at e
    rw [List.length_zipWith, r.length, r2.length] at e
    omega
theorem m_ienum {e : Expr} {n : AM} {p pos tpos : Pos} {elts : List Expr} {kk : Nat} (hg : Gl X "enumerate") (hm : X.mg "enumerate" = none) (ha : PA X [e] (liftA T X.K w F n)) (hs : starEach [e] X.env = [(false, eval e X.env)] := by rfl) :
    PI X (.Tuple elts kk tpos) (.Call (.Name "enumerate" p) [e] [] pos) (liftI T X.K w F (iArgs enum1 n)) := by
  refine ⟨fun pins s σ H R I ⟨env, Hf, S, RR, q⟩ => (pi_enum hg hm ha hs).run pins s σ H R I ?_⟩
  refine args_core RR q fun rs xs e Hf1 H1 S1 vs hx sub t q1 => ?_
  unfold enum1 at hx
  split at hx
  · cases hx
    cases t with
    | cons a b =>
      cases b
      cases (show Rep T X.K Hf1 _ _ from a) with
      | lst hs r => exact ⟨_, _, rfl, SqL.of (sub _ _ hs), q1 _ (it_enum (SqL.of hs) r)⟩
  · cases hx
theorem m_izip {e e2 : Expr} {n : AM} {p pos tpos : Pos} {elts : List Expr} {kk : Nat} (hg : Gl X "zip") (hm : X.mg "zip" = none) (ha : PA X [e, e2] (liftA T X.K w F n)) (hs : starEach [e, e2] X.env = (false, eval e X.env) :: starEach [e2] X.env := by rfl) (hpl : (backTo pos (starEach [e2] X.env)).any (·.1) = false := by rfl) :
    PI X (.Tuple elts kk tpos) (.Call (.Name "zip" p) [e, e2] [] pos) (liftI T X.K w F (iArgs zip2 n)) := by
  refine ⟨fun pins s σ H R I ⟨env, Hf, S, RR, q⟩ => (RZ.pi_zipA hg hm ha hs hpl).run pins s σ H R I ?_⟩
  refine args_core RR q fun rs xs e Hf1 H1 S1 vs hx sub t q1 => ?_
  unfold zip2 at hx
  split at hx
  · cases hx
    cases t with
    | cons a b =>
      cases b with
      | cons b c =>
        cases c
        cases (show Rep T X.K Hf1 _ _ from a) with
        | lst hs r =>
          cases (show Rep T X.K Hf1 _ _ from b) with
          | lst hs2 r2 => exact ⟨_, _, _, _, rfl, .inl ⟨SqL.of (sub _ _ hs), SqL.of (sub _ _ hs2), q1 _ (it_zipL (SqL.of hs) r (SqL.of hs2) r2)⟩⟩
  · cases hx
    cases t with
    | cons a b =>
      cases b with
      | cons b c =>
        cases c
        cases (show Rep T X.K Hf1 _ _ from a) with
        | tup hs r =>
          cases (show Rep T X.K Hf1 _ _ from b) with
          | tup hs2 r2 => exact ⟨_, _, _, _, rfl, .inr ⟨SqT.of (sub _ _ hs), SqT.of (sub _ _ hs2), q1 _ (it_zipT (SqT.of hs) r (SqT.of hs2) r2)⟩⟩
  · cases hx
end
/-! ## for, while -/
def forL (tg : Tg) (body : SM) : List D → ME → SR
  | [], env => .nx env
  | d :: ds, env => match setT tg d env with
    | none => .bad
    | some e1 => match body e1 with
      | .nx e2 => forL tg body ds e2
      | .ct e2 => forL tg body ds e2
      | .bk e2 => .nx e2
      | r => r
def sFor (it : IM) (tg : Tg) (body : SM) : SM := fun env => ofRes (it env) fun items e => forL tg body items e
def whileN (c : TM) (body : SM) : Nat → ME → SR
  | 0, _ => .bad
  | n + 1, env => match c env with
    | .bad => .bad
    | .exc x fs e => .exc x fs e
    | .ok false e => .nx e
    | .ok true e => match body e with
      | .nx e2 => whileN c body n e2
      | .ct e2 => whileN c body n e2
      | .bk e2 => .nx e2
      | r => r
theorem whileN_more (c : TM) (body : SM) : ∀ (n m : Nat) (env : ME), whileN c body n env ≠ .bad → n ≤ m → whileN c body m env = whileN c body n env
  | 0, _, env, h, _ => absurd rfl h
  | n + 1, 0, env, _, h => absurd h (by omega)
  | n + 1, m + 1, env, h, hl => by
    simp only [whileN] at h ⊢
    split
    · rfl
    · rfl
    · rfl
    · rename_i e hc
      rw [hc] at h
      simp only at h
      split
      · rename_i e2 hb
        rw [hb] at h
        exact whileN_more c body n m e2 h (by omega)
      · rename_i e2 hb
        rw [hb] at h
        exact whileN_more c body n m e2 h (by omega)
      · rfl
      · rfl
open Classical in
noncomputable def sWhile (c : TM) (body : SM) : SM := fun env => if h : ∃ n, whileN c body n env ≠ .bad then whileN c body h.choose env else .bad
theorem sWhile_eq {c : TM} {body : SM} {env : ME} {n : Nat} {r : SR} (h : whileN c body n env = r) (hr : r ≠ .bad) : sWhile c body env = r := by
  have hx : ∃ n, whileN c body n env ≠ .bad := ⟨n, by rw [h]; exact hr⟩
  unfold sWhile
  rw [dif_pos hx]
  rcases Nat.le_total n hx.choose with hl | hl
  · rw [whileN_more c body n _ env (by rw [h]; exact hr) hl, h]
  · rw [← whileN_more c body _ n env hx.choose_spec hl, h]
theorem sWhile_ex {c : TM} {body : SM} {env : ME} (h : sWhile c body env ≠ .bad) : ∃ n, whileN c body n env = sWhile c body env := by
  unfold sWhile at h ⊢
  split
  · exact ⟨_, rfl⟩
  · rename_i hn
    rw [dif_neg hn] at h
    exact absurd rfl h
section
variable {X : Cx} {T : Tb} {w : WX} {F : Pn} {K : PySem.W.Frag} {σ : St} {H Hf : Hp} {S S0 : Ad} {env e1 : ME} {pins : List (Addr × Obj)} {s : Shared} {pos : Pos} {tg iter : Expr} {D' : Ends} {body : List Stmt} {sb : SM} {im : IM} {t : Tg}
theorem m_for (hp : PassesOwn (model X.prog X.w) X.A X.env X.xe) (hc : X.calm = true) (hi : PI X tg iter (liftI T X.K w F im)) (hg : PG X tg (liftG T X.K F t)) (hb : PSs X body (liftS T X.K w F sb))
    (hs : ∀ x, foldedSetIterable iter X.env x = pure x := by intro _; rfl) : PS X (.For tg iter body [] pos) (liftS T X.K w F (sFor im t sb)) := by
  refine PS.weak (ps_for hp hc hi hg hb hs) fun D σ H ⟨env, Hf, S, R, q⟩ => ⟨env, Hf, S, R, ?_⟩
  simp only [sFor] at q
  cases hm : im env with
  | bad => rw [hm] at q; exact q.elim
  | exc c fs e => rw [hm] at q; exact q
  | ok items e =>
    rw [hm] at q
    intro Hf1 H1 S1 J R1 st1 it
    simp only [ofRes] at q
    refine ⟨fun i m σ2 H2 => m = items.length - i ∧ i ≤ items.length ∧ ∃ env2 Hf2 S2, Rel T X.K F env2 σ2 Hf2 H2 S2 ∧ Step S Hf H S2 Hf2 H2 ∧ Sub Hf1 Hf2 ∧ EndS T X.K w F S Hf H D (forL t sb (items.drop i) env2),
      ⟨items.length, by simp, Nat.zero_le _, e, Hf1, S1, R1, st1, Sub.refl _, q⟩, ?_⟩
    rintro i m σ2 H2 ⟨rfl, hi, env2, Hf2, S2, R2, st2, sf, q2⟩
    by_cases hlt : i < items.length
    · right
      obtain ⟨d, hd⟩ : ∃ d, items[i]? = some d := ⟨items[i], by simp [hlt]⟩
      obtain ⟨go, yl⟩ := (it Hf2 H2 i sf R2.sub R2.nod).1 d hd
      have hdr : items.drop i = d :: items.drop (i + 1) := by
        obtain ⟨h1, h2⟩ := List.getElem?_eq_some_iff.mp hd
        rw [← h2]; exact List.drop_eq_getElem_cons h1
      rw [hdr] at q2
      simp only [forL] at q2
      refine ⟨go, fun σ3 H3 => ∃ env3 Hf3 S3, Rel T X.K F env3 σ3 Hf3 H3 S3 ∧ Step S Hf H S3 Hf3 H3 ∧ Sub Hf1 Hf3 ∧ EndS T X.K w F S Hf H D (forL t sb (items.drop (i + 1)) env3),
        fun σ3 H3 ⟨env3, Hf3, S3, a, b, c, d⟩ => ⟨items.length - (i + 1), by omega, rfl, hlt, env3, Hf3, S3, a, b, c, d⟩, fun x H' y => ?_⟩
      obtain ⟨Hf', yy, rx⟩ := yl x H' y
      obtain ⟨R3, st3⟩ := yy.rel R2
      cases hs : setT t d env2 with
      | none => simp only [hs] at q2; exact q2.elim
      | some e3 =>
        simp only [hs] at q2
        refine ⟨env2, Hf', S2, d, R3, rx, e3, hs, fun σ4 R4 _ => ⟨e3, Hf', S2, R4, ?_⟩⟩
        have st4 := st2.trans st3
        have sf4 := sf.trans st3.fz
        cases hb2 : sb e3 with
        | bad => rw [hb2] at q2; exact q2
        | exc c fs e => rw [hb2] at q2; exact ExcEnd.step q2 st4
        | nx e => rw [hb2] at q2; exact fun σ' Hf5 H5 S5 R5 st5 => ⟨e, Hf5, S5, R5, st4.trans st5, sf4.trans st5.fz, q2⟩
        | ct e => rw [hb2] at q2; exact fun σ' Hf5 H5 S5 R5 st5 => ⟨e, Hf5, S5, R5, st4.trans st5, sf4.trans st5.fz, q2⟩
        | bk e => rw [hb2] at q2; exact fun σ' Hf5 H5 S5 R5 st5 => q2 σ' Hf5 H5 S5 R5 (st4.trans st5)
        | ret t' e => rw [hb2] at q2; exact (EndS.step q2 st4 : EndS T X.K w F S2 Hf' H' D (.ret t' e))
    · left
      have : items.drop i = [] := List.drop_eq_nil_of_le (by omega)
      rw [this] at q2
      exact ⟨(it Hf2 H2 i sf R2.sub R2.nod).2 (by omega), q2 σ2 Hf2 H2 S2 R2 st2⟩
theorem m_while {c : Expr} {tc : TM} (hp : PassesOwn (model X.prog X.w) X.A X.env X.xe) (hc : PT X c (liftT T X.K w F tc)) (hb : PSs X body (liftS T X.K w F sb)) : PS X (.While c body [] pos) (liftS T X.K w F (sWhile tc sb)) := by
  refine PS.weak (ps_while hp hc hb) fun D σ H ⟨env, Hf, S, R, q⟩ => ?_
  have hne : sWhile tc sb env ≠ .bad := fun z => by rw [z] at q; exact q
  obtain ⟨n, hn⟩ := sWhile_ex hne
  rw [← hn] at q
  refine ⟨fun m σ2 H2 => ∃ env2 Hf2 S2, Rel T X.K F env2 σ2 Hf2 H2 S2 ∧ Step S Hf H S2 Hf2 H2 ∧ EndS T X.K w F S Hf H D (whileN tc sb m env2), ⟨n, env, Hf, S, R, .refl, q⟩, ?_⟩
  rintro m σ2 H2 ⟨env2, Hf2, S2, R2, st2, q2⟩
  cases m with
  | zero => exact q2.elim
  | succ m =>
    simp only [whileN] at q2
    refine ⟨env2, Hf2, S2, R2, ?_⟩
    cases hcc : tc env2 with
    | bad => rw [hcc] at q2; exact q2.elim
    | exc x fs e => rw [hcc] at q2; exact ExcEnd.step q2 st2
    | ok k e =>
      rw [hcc] at q2
      intro Hf3 H3 S3 R3 st3
      have st4 := st2.trans st3
      cases k with
      | false => exact q2 σ2 Hf3 H3 S3 R3 st4
      | true =>
        simp only at q2
        refine ⟨fun σ3 H3 => ∃ env3 Hf3 S3, Rel T X.K F env3 σ3 Hf3 H3 S3 ∧ Step S Hf H S3 Hf3 H3 ∧ EndS T X.K w F S Hf H D (whileN tc sb m env3), fun σ3 H3 h => ⟨m, Nat.lt_succ_self m, h⟩, e, Hf3, S3, R3, ?_⟩
        cases hb2 : sb e with
        | bad => rw [hb2] at q2; exact q2
        | exc c fs e => rw [hb2] at q2; exact ExcEnd.step q2 st4
        | nx e => rw [hb2] at q2; exact fun σ' Hf5 H5 S5 R5 st5 => ⟨e, Hf5, S5, R5, st4.trans st5, q2⟩
        | ct e => rw [hb2] at q2; exact fun σ' Hf5 H5 S5 R5 st5 => ⟨e, Hf5, S5, R5, st4.trans st5, q2⟩
        | bk e => rw [hb2] at q2; exact fun σ' Hf5 H5 S5 R5 st5 => q2 σ' Hf5 H5 S5 R5 (st4.trans st5)
        | ret t' e => rw [hb2] at q2; exact (EndS.step q2 st4 : EndS T X.K w F S3 Hf3 H3 D (.ret t' e))
end
end Mi
namespace Mi
open PySem L2
/-! ## list comprehensions -/
def wipeM (env : ME) : List Nat → ME
  | [] => env
  | v :: vs => (wipeM env vs).set v none
abbrev w0 : WX := fun _ _ _ _ => False
def compL (tg : Tg) (cond : TM) (elt : EM) (vs : List Nat) : List D → ME → List D → Res (List D)
  | [], env, acc => .ok acc env
  | d :: ds, env, acc => match setT tg d env with
    | none => .bad
    | some e1 => match cond e1 with
      | .ok false e2 => compL tg cond elt vs ds (wipeM e2 vs) acc
      | .ok true e2 => match eFrz elt e2 with
        | .ok (.fz x) e3 => if acc.length < 16777216 then compL tg cond elt vs ds (wipeM e3 vs) (acc ++ [x]) else .bad
        | _ => .bad
      | _ => .bad
def eComp (it : IM) (tg : Tg) (cond : TM) (elt : EM) (vs : List Nat) : EM := fun env => (it env).bind fun items e => (compL tg cond elt vs items (wipeM e vs) []).bind fun acc e => .ok (.new (.lst acc)) e
def tTrue : TM := fun env => .ok true env
section
variable {X : Cx} {T : Tb} {w : WX} {F : Pn} {K : PySem.W.Frag} {σ : St} {H Hf : Hp} {S S0 : Ad} {env e1 : ME} {Q : VK} {pins : List (Addr × Obj)} {s : Shared} {pos : Pos} {tg iter : Expr}
theorem wipeM_length (env : ME) : ∀ vs : List Nat, (wipeM env vs).length = env.length
  | [] => rfl
  | v :: vs => by unfold wipeM; rw [List.length_set, wipeM_length env vs]
theorem slot_wipe {i : Nat} {t : OT} : ∀ {vs : List Nat}, slot (wipeM env vs) i = some t → slot env i = some t ∧ i ∉ vs
  | [], h => ⟨h, by simp⟩
  | v :: vs, h => by
    unfold wipeM at h
    by_cases hv : v < (wipeM env vs).length
    · rw [slot_set hv] at h
      split at h
      · cases h
      · rename_i n
        obtain ⟨h1, h2⟩ := slot_wipe h
        exact ⟨h1, by simp only [List.mem_cons, not_or]; exact ⟨fun e => n e.symm, h2⟩⟩
    · rw [List.set_eq_of_length_le (by omega)] at h
      obtain ⟨h1, h2⟩ := slot_wipe h
      refine ⟨h1, by simp only [List.mem_cons, not_or]; exact ⟨fun e => hv (by rw [wipeM_length, ← e]; exact slot_lt h1), h2⟩⟩
theorem wipe_keep {σ : St} {i : Nat} : ∀ {vs : List Nat}, i ∉ vs → (wipe σ vs)[i]? = σ[i]? := fun {vs} h => wipe_out h
/-- the block's slots forgotten -/
theorem Rel.wipe (R : Rel T K F env σ Hf H S) {vs : List Nat} (hF : ∀ p ∈ F.sl, p.1 ∉ vs) : Rel T K F (wipeM env vs) (L2.wipe σ vs) Hf H S where
  sub := R.sub
  nod := R.nod
  len := by rw [wipe_length, wipeM_length]; exact R.len
  cells := by
    obtain ⟨fp, c1, c2, c3, c4⟩ := R.cells
    refine ⟨fun j a => (∃ t, slot (wipeM env vs) j = some t) ∧ fp j a, fun j t h => ?_, fun j a h => h.1, fun j k a h1 h2 => c3 j k a h1.2 h2.2, fun j a h => c4 j a h.2⟩
    obtain ⟨h1, h2⟩ := slot_wipe h
    obtain ⟨v, e, o⟩ := c1 j t h1
    refine ⟨v, by rw [wipe_keep h2]; exact e, ?_⟩
    have : (fun a => (∃ t, slot (wipeM env vs) j = some t) ∧ fp j a) = fp j := by
      funext a
      simp only [eq_iff_iff, and_iff_right_iff_imp]
      exact fun _ => ⟨t, h⟩
    dsimp only
    rw [this]; exact o
  owned := R.owned
  there := R.there
  pins := fun p hp => by rw [wipe_keep (hF p hp)]; exact R.pins p hp
  stand := R.stand
theorem wipeM_none {i : Nat} : ∀ {vs : List Nat}, i ∈ vs → slot (wipeM env vs) i = none := fun {vs} h => by
  cases e : slot (wipeM env vs) i with
  | none => rfl
  | some t => exact absurd h (slot_wipe e).2
theorem Rel.unwipe {vs : List Nat} (R : Rel T K F env (L2.wipe σ vs) Hf H S) : Rel T K F env σ Hf H S where
  sub := R.sub
  nod := R.nod
  len := by rw [← wipe_length σ vs]; exact R.len
  cells := by
    obtain ⟨fp, c1, c2, c3, c4⟩ := R.cells
    refine ⟨fp, fun j t h => ?_, c2, c3, c4⟩
    obtain ⟨v, e, o⟩ := c1 j t h
    exact ⟨v, (wipe_some e).1, o⟩
  owned := R.owned
  there := R.there
  pins := fun p hp => (wipe_some (R.pins p hp)).1
  stand := R.stand
theorem wipe_agree {is vs : List Nat} {σ σ' : St} (h : Agree is (L2.wipe σ vs) σ') (hs : ∀ i ∈ is, i ∈ vs) : L2.wipe σ' vs = L2.wipe σ vs := by
  have hl : σ'.length = σ.length := by rw [h.1, wipe_length]
  apply List.ext_getElem?
  intro i
  by_cases hi : i ∈ vs
  · have none_at : ∀ {τ : St} {us : List Nat}, i ∈ us → i < τ.length → (L2.wipe τ us)[i]? = some none := by
      intro τ us
      induction us with
      | nil => intro h _; cases h
      | cons u us ih =>
        intro h hl
        unfold L2.wipe
        by_cases e : u = i
        · subst e
          exact List.getElem?_set_self (by rw [wipe_length]; exact hl)
        · rw [List.getElem?_set_ne e]
          exact ih (by simpa [Ne.symm e] using h) hl
    by_cases hlt : i < σ.length
    · rw [none_at hi (by omega), none_at hi hlt]
    · rw [List.getElem?_eq_none (by rw [wipe_length]; omega), List.getElem?_eq_none (by rw [wipe_length]; omega)]
  · rw [wipe_keep hi, h.2 i fun z => hi (hs i z)]
theorem comp_core {wi : TI} {it : IM} {t : Tg} {cond : TM} {elt : EM} {vs : List Nat} {tt : TT} {te : TE} {g : TG} (hwi : ∀ σ H R, liftI T K w F it σ H R → wi σ H R) (hg : ∀ v σ H Q, liftG T K F t v σ H Q → g v σ H Q) (ht : ∀ σ H Q, liftT T K w0 F cond σ H Q → tt σ H Q) (he : ∀ σ H Q, liftE T K w0 F (eFrz elt) σ H Q → te σ H Q)
    (hF : ∀ p ∈ F.sl, p.1 ∉ vs) (hvs : ∀ i ∈ tgIx t, i ∈ vs) : ∀ σ H Q, liftE T K w F (eComp it t cond elt vs) σ H Q → tLc wi g tt te vs σ H Q := by
  intro σ H Q ⟨env, Hf, S, R, q⟩
  refine hwi σ H _ ⟨env, Hf, S, R, ?_⟩
  simp only [eComp] at q
  cases hm : it env with
  | bad => rw [hm] at q; exact q.elim
  | exc c fs e => rw [hm] at q; exact q
  | ok items e =>
    rw [hm] at q
    intro Hf1 H1 S1 J R1 st1 ito D hD
    simp only [Res.bind] at q
    have Rw := R1.wipe (vs := vs) hF
    obtain ⟨R2, st2⟩ := Rw.newOw (o := .lst []) hD
    refine ⟨fun i m H2 => m = items.length - i ∧ i ≤ items.length ∧ ∃ env2 Hf2 S2 acc vacc, Rel T K F env2 (L2.wipe σ vs) Hf2 H2 S2 ∧ Step S Hf H S2 Hf2 H2 ∧ Sub Hf1 Hf2 ∧ H2 D = some (.lst vacc) ∧ Reps T K Hf2 acc vacc ∧ ¬ S2 D ∧ Hf2 D = none ∧
        EndE T K w F S Hf H σ Q ((compL t cond elt vs (items.drop i) env2 acc).bind fun acc e => .ok (.new (.lst acc)) e),
      ⟨items.length, by simp, Nat.zero_le _, wipeM e vs, Hf1, S1, [], [], R2, st1.trans st2, Sub.refl _, upd_same, .nil, R1.ns hD, R1.hf hD, q⟩, ?_⟩
    rintro i m H2 ⟨rfl, hi, env2, Hf2, S2, acc, vacc, R2, st2, sf, hDl, ra, nS, nF, q2⟩
    by_cases hlt : i < items.length
    · right
      obtain ⟨d, hd⟩ : ∃ d, items[i]? = some d := ⟨items[i], by simp [hlt]⟩
      obtain ⟨go, yl⟩ := (ito Hf2 H2 i sf R2.sub R2.nod).1 d hd
      have hdr : items.drop i = d :: items.drop (i + 1) := by
        obtain ⟨h1, h2⟩ := List.getElem?_eq_some_iff.mp hd
        rw [← h2]; exact List.drop_eq_getElem_cons h1
      rw [hdr] at q2
      simp only [compL] at q2
      refine ⟨go, fun H3 => ∃ env3 Hf3 S3 acc vacc, Rel T K F env3 (L2.wipe σ vs) Hf3 H3 S3 ∧ Step S Hf H S3 Hf3 H3 ∧ Sub Hf1 Hf3 ∧ H3 D = some (.lst vacc) ∧ Reps T K Hf3 acc vacc ∧ ¬ S3 D ∧ Hf3 D = none ∧
          EndE T K w F S Hf H σ Q ((compL t cond elt vs (items.drop (i + 1)) env3 acc).bind fun acc e => .ok (.new (.lst acc)) e),
        fun H3 ⟨env3, Hf3, S3, acc, vacc, a⟩ => ⟨items.length - (i + 1), by omega, rfl, hlt, env3, Hf3, S3, acc, vacc, a⟩, fun x H' y => ?_⟩
      obtain ⟨Hf', yy, rx⟩ := yl x H' y
      obtain ⟨R3, st3⟩ := yy.rel R2
      cases hs : setT t d env2 with
      | none => simp only [hs] at q2; exact q2.elim
      | some e3 =>
        simp only [hs] at q2
        refine hg _ _ _ _ ⟨env2, Hf', S2, d, R3, rx, e3, hs, fun σ4 R4 ag => ⟨wipe_agree ag hvs, ?_⟩⟩
        have st4 := st2.trans st3
        have sf4 := sf.trans st3.fz
        have hD4 := st3.keep D _ hDl nS
        have nF4 := st3.hf_none R3.sub hDl (fun _ z => (nomatch z)) nF nS
        refine ht _ _ _ ⟨e3, Hf', S2, R4, ?_⟩
        cases hc : cond e3 with
        | bad => rw [hc] at q2; exact q2.elim
        | exc c fs e => rw [hc] at q2; exact q2.elim
        | ok b e4 =>
          rw [hc] at q2
          intro Hf5 H5 S5 R5 st5
          have hD5 := st5.keep D _ hD4 nS
          have nF5 := st5.hf_none R5.sub hD4 (fun _ z => (nomatch z)) nF4 nS
          have nS5 : ¬ S5 D := fun z => by
            rcases st5.news D z with z | z
            · exact nS z
            · rw [hD4] at z; cases z
          have st45 := st4.trans st5
          cases b with
          | false =>
            simp only [Bool.false_eq_true, if_false]
            exact ⟨_, Hf5, S5, acc, vacc, (wipe_agree ag hvs) ▸ R5.wipe hF, st45, sf4.trans st5.fz, hD5, ra.mono (st3.fz.trans st5.fz), nS5, nF5, q2⟩
          | true =>
            simp only [if_true]
            simp only at q2
            refine he _ _ _ ⟨e4, Hf5, S5, R5, ?_⟩
            cases hx : eFrz elt e4 with
            | bad => rw [hx] at q2; exact q2.elim
            | exc c fs e => rw [hx] at q2; exact q2.elim
            | ok r e5 =>
              rw [hx] at q2
              cases r with
              | new _ => exact q2.elim
              | bor _ => exact q2.elim
              | fz x' =>
                simp only at q2
                intro Hf6 H6 S6 v6 R6 st6 r6
                have hD6 := st6.keep D _ hD5 nS5
                have nF6 := st6.hf_none R6.sub hD5 (fun _ z => (nomatch z)) nF5 nS5
                have nS6 : ¬ S6 D := fun z => by
                  rcases st6.news D z with z | z
                  · exact nS5 z
                  · rw [hD5] at z; cases z
                split at q2
                · rename_i hlen
                  have r6 : Rep T K Hf6 x' v6 := r6
                  have ra6 := ra.mono (st3.fz.trans (st5.fz.trans st6.fz))
                  refine ⟨vacc, hD6, by rw [← ra.length, sizeLine_eq]; exact hlen, ?_⟩
                  have stD : Step (fun a => a = D) Hf6 H6 (fun a => a = D) Hf6 (upd H6 D (.lst (vacc ++ [v6]))) := ⟨Sub.refl _, fun a o e n => by rw [upd_ne n]; exact e, fun a o e => .inl e, fun a z => .inl z, dom_upd fun _ z => (nomatch z)⟩
                  have sb6 : Sub Hf6 (upd H6 D (.lst (vacc ++ [v6]))) := fun a o e => by
                    rw [upd_ne (fun z => by subst z; rw [nF6] at e; cases e)]
                    exact R6.sub a o e
                  have st456 := st45.trans st6
                  have R7 := R6.side stD (fun a z => by subst z; exact nS6) sb6 R6.nod (R6.sds fun b _ _ _ e => by rw [upd_ne (fun z => by subst z; rw [hD6] at e; cases e)]; exact e)
                  refine ⟨_, Hf6, S6, acc ++ [x'], vacc ++ [v6], (wipe_agree ag hvs) ▸ R7.wipe hF, st456.side stD fun a z => by subst z; exact .inl (st1.nn hD), sf4.trans (st5.fz.trans st6.fz), upd_same, ra6.app (.cons r6 .nil), nS6, nF6, q2⟩
                · exact q2.elim
    · left
      have : items.drop i = [] := List.drop_eq_nil_of_le (by omega)
      rw [this] at q2
      simp only [compL, Res.bind] at q2
      refine ⟨(ito Hf2 H2 i sf R2.sub R2.nod).2 (by omega), q2 Hf2 H2 S2 (.ref D) R2.unwipe st2 ⟨fun a => a = D, .lst hDl ra fun _ => Iff.rfl, fun a z => ?_⟩⟩
      subst z
      exact ⟨.inl (st1.nn hD), nS, nF⟩
variable {elt : Expr} {ifs : List Expr} {scope : Scope} {own : List (Str × Nat)} {im : IM} {t : Tg} {cond : TM} {em : EM}
theorem m_tests0 : PTs X [] (liftT T X.K w F tTrue) := ⟨fun pins s σ H Q I ⟨env, Hf, S, R, q⟩ => pts_nil.run pins s σ H Q I (q Hf H S R .refl)⟩
theorem m_tests1 {c : Expr} (h : PT X c (liftT T X.K w F cond)) : PTs X [c] (liftT T X.K w F cond) := pts_one h
theorem pinsOk {vs : List Nat} (h : (F.sl.all fun p => !vs.contains p.1) = true) : ∀ p ∈ F.sl, p.1 ∉ vs := fun p hp z => by
  have := List.all_eq_true.mp h p hp
  simp at this
  exact this z
theorem m_lc (hc : X.calm = true) (hN : X.N.Nodup) (hi : PI X tg iter (liftI T X.K w F im)) (ok : BlkOk X.N X.env.scope scope own)
    (hg : ∀ (s : Shared) (H : Hp) (C : Addr) (cl : List (Str × Addr)) (fp : List Addr), PG (X.blk s H scope (compEnvC scope cl C X.env) fp) tg (liftG T X.K F t)) (ht : ∀ (s : Shared) (H : Hp) (C : Addr) (cl : List (Str × Addr)) (fp : List Addr), PTs (X.blk s H scope (compEnvC scope cl C X.env) fp) ifs (liftT T X.K w0 F cond))
    (he : ∀ (s : Shared) (H : Hp) (C : Addr) (cl : List (Str × Addr)) (fp : List Addr), PE (X.blk s H scope (compEnvC scope cl C X.env) fp) elt (liftE T X.K w0 F em)) (hF : (F.sl.all fun p => !(own.map (·.2)).contains p.1) = true) (hvs : (tgIx t).all ((own.map (·.2)).contains ·) = true) (hs : ∀ x, foldedSetIterable iter X.env x = pure x := by intro _; rfl) :
    PE X (.ListComp elt [⟨tg, iter, ifs, 0⟩] scope pos) (liftE T X.K w F (eComp im t cond em (own.map (·.2)))) :=
  PE.weak (pe_lc hc hN hi ok hg ht (fun s H C cl fp => m_frz (he s H C cl fp)) hs)
    (comp_core (fun _ _ _ h => h) (fun _ _ _ _ h => h) (fun _ _ _ h => h) (fun _ _ _ h => h) (pinsOk hF) fun i hi => by
      have := List.all_eq_true.mp hvs i hi
      simpa using this)
theorem m_setLc {i : Nat} {y : Str} {py spos : Pos} (hc : X.calm = true) (hN : X.N.Nodup) (hy : X.N[i]? = some y) (hyl : X.env.scope.names.lookup y = some .local)
    (hsw : swapsWith (.ListComp elt [⟨tg, iter, ifs, 0⟩] scope pos) (some (.Name y py)) spos.line X.env = pure true) (hFi : (F.sl.all fun p => p.1 != i) = true) (hi : PI X tg iter (liftI T X.K w F im)) (ok : BlkOk X.N X.env.scope scope own)
    (hg : ∀ (s : Shared) (H : Hp) (C : Addr) (cl : List (Str × Addr)) (fp : List Addr), PG (X.blk s H scope (compEnvC scope cl C X.env) fp) tg (liftG T X.K F t)) (ht : ∀ (s : Shared) (H : Hp) (C : Addr) (cl : List (Str × Addr)) (fp : List Addr), PTs (X.blk s H scope (compEnvC scope cl C X.env) fp) ifs (liftT T X.K w0 F cond))
    (he : ∀ (s : Shared) (H : Hp) (C : Addr) (cl : List (Str × Addr)) (fp : List Addr), PE (X.blk s H scope (compEnvC scope cl C X.env) fp) elt (liftE T X.K w0 F em)) (hF : (F.sl.all fun p => !(own.map (·.2)).contains p.1) = true) (hvs : (tgIx t).all ((own.map (·.2)).contains ·) = true) (hs : ∀ x, foldedSetIterable iter X.env x = pure x := by intro _; rfl) :
    PS X (.Assign [.Name y py] (.ListComp elt [⟨tg, iter, ifs, 0⟩] scope pos) spos) (liftS T X.K w F (sSet i (eComp im t cond em (own.map (·.2))))) :=
  PS.weak (ps_setLc hc hN hy hyl hsw hi ok hg ht (fun s H C cl fp => m_frz (he s H C cl fp)) hs) fun D σ H ⟨env, Hf, S, R, q⟩ =>
    comp_core (fun _ _ _ h => h) (fun _ _ _ _ h => h) (fun _ _ _ h => h) (fun _ _ _ h => h) (pinsOk hF) (fun i hi => by
      have := List.all_eq_true.mp hvs i hi
      simpa using this) σ H _ (set_core hFi R q)
end
end Mi
namespace Mi
open PySem L2
open PyProof.Rows (envOfC)
/-! ## defs: what they give -/
inductive FR where
  | ok (t : OT) (out : Option OT)
  | exc (c : Str) (fs : List (Str × D)) (out : Option OT)
  | bad
abbrev FM := List OT → FR
/-- the object that a def may change (its io-th argument), as it hands it back -/
def OutRel (T : Tb) (K : PySem.W.Frag) (io : Option Nat) (vs : List V) (Hf H : Hp) (S : Ad) : Option OT → Prop
  | none => io = none
  | some t => ∃ i v, io = some i ∧ vs[i]? = some v ∧ Own T K Hf H t v S
def EndF (T : Tb) (K : PySem.W.Frag) (io : Option Nat) (vs : List V) (S : Ad) (Hf H : Hp) (Q : VK) (E : XK) : FR → Prop
  | .ok t out => ∀ Hf' H' S' v P, Sub Hf' H' → HfOk Hf' → Step S Hf H S' Hf' H' → Own T K Hf' H' t v P → (∀ a, P a → (H a = none ∨ S a) ∧ ¬ S' a ∧ Hf' a = none) → OutRel T K io vs Hf' H' S' out → (∀ a, S' a → Hf' a = none) → Q v H'
  | .exc c fs out => ∀ cls d Hf' H' S', Sub Hf' H' → HfOk Hf' → Step S Hf H S' Hf' H' → XRel T K Hf' H' c fs cls d → OutRel T K io vs Hf' H' S' out → (∀ a, S' a → Hf' a = none) → E cls d H'
  | .bad => False
/-- a def's promise, by its mirror mf of n arguments -/
def SpM (T : Tb) (K : PySem.W.Frag) (n : Nat) (io : Option Nat) (mf : FM) : Sp := fun vs H Q E => vs.length = n ∧ ∃ ts Hf S, Rel T K .mt (ts.map some) (vs.map some) Hf H S ∧ EndF T K io vs S Hf H Q E (mf ts)
@[simp] def fin (io : Option Nat) (t : OT) (e : ME) : FR := match io with
  | none => .ok t none
  | some i => match slot e i with
    | some u => .ok t (some u)
    | none => .bad
@[simp] def finX (io : Option Nat) (c : Str) (fs : List (Str × D)) (e : ME) : FR := match io with
  | none => .exc c fs none
  | some i => match slot e i with
    | some u => .exc c fs (some u)
    | none => .bad
/-- the mirror of a def with n slots -/
@[simp] def runDef (n : Nat) (io : Option Nat) (body : SM) : FM := fun ts => match body (ts.map some ++ List.replicate (n - ts.length) none) with
  | .nx e => fin io (.fz .non) e
  | .ret t e => fin io t e
  | .exc c fs e => finX io c fs e
  | _ => .bad
abbrev wE (E : XK) : WX := fun cls d _ H => E cls d H
def pinOf (io : Option Nat) (v : V) : Pn := match io with
  | none => ⟨[], []⟩
  | some i => ⟨[(i, v)], []⟩
section
variable {T : Tb} {K : PySem.W.Frag} {F : Pn} {env : ME} {σ : St} {Hf H : Hp} {S : Ad}
theorem slot_app {ts : List OT} {n i : Nat} {t : OT} (h : slot (ts.map some ++ List.replicate n none) i = some t) : slot (ts.map some) i = some t := by
  unfold slot at h ⊢
  by_cases hi : i < ts.length
  · rw [List.getElem?_append_left (by simpa using hi)] at h
    exact h
  · rw [List.getElem?_append_right (by simpa using hi), List.getElem?_replicate] at h
    split at h <;> cases h
theorem slot_app' {ts : List OT} {n i : Nat} {t : OT} (h : slot (ts.map some) i = some t) : slot (ts.map some ++ List.replicate n none) i = some t := by
  unfold slot at h ⊢
  by_cases hi : i < ts.length
  · rw [List.getElem?_append_left (by simpa using hi)]
    exact h
  · rw [List.getElem?_eq_none (by simpa using hi)] at h
    cases h
/-- a def's entry -/
theorem Rel.enter {ts : List OT} {vs : List V} {N : List Str} (R : Rel T K .mt (ts.map some) (vs.map some) Hf H S) (hn : vs.length ≤ N.length) (hF : ∀ p ∈ F.sl, vs[p.1]? = some p.2) (hh : F.hp = []) : Rel T K F (ts.map some ++ List.replicate (N.length - ts.length) none) (L2.start N vs) Hf H S where
  sub := R.sub
  nod := R.nod
  len := by
    have h := R.len
    simp only [List.length_map] at h
    unfold L2.start
    simp only [List.length_append, List.length_map, List.length_replicate]
    omega
  cells := by
    obtain ⟨fp, c1, c2, c3, c4⟩ := R.cells
    refine ⟨fp, fun i t h => ?_, fun i a h => ?_, c3, c4⟩
    · obtain ⟨v, e, o⟩ := c1 i t (slot_app h)
      refine ⟨v, ?_, o⟩
      unfold L2.start
      rw [List.getElem?_append_left (List.getElem?_eq_some_iff.mp e).1]
      exact e
    · obtain ⟨t, e⟩ := c2 i a h
      exact ⟨t, slot_app' e⟩
  owned := R.owned
  there := R.there
  pins := fun p hp => by
    have h := hF p hp
    unfold L2.start
    rw [List.getElem?_append_left (by simpa using (List.getElem?_eq_some_iff.mp h).1), List.getElem?_map, h]
    rfl
  stand := fun p hp => by rw [hh] at hp; cases hp
theorem Rel.out {io : Option Nat} {vs : List V} {i : Nat} {v : V} {t : OT} (R : Rel T K ⟨[(i, v)], []⟩ env σ Hf H S) (hv : vs[i]? = some v) (hs : slot env i = some t) : ∃ P, (∀ a, P a → S a) ∧ OutRel T K (some i) vs Hf H P (some t) := by
  obtain ⟨v', P, e, o, hP⟩ := R.at hs
  have e2 : σ[i]? = some (some v) := R.pins (i, v) (by simp)
  rw [e2] at e; cases e
  exact ⟨P, hP, i, v, rfl, hv, o⟩
theorem end_fin {io : Option Nat} {v : V} {vs : List V} {Hf0 H0 : Hp} {S0 : Ad} {Q : VK} {E : XK} {t : OT} {u : V} {P : Ad} (hF : ∀ i, io = some i → vs[i]? = some v) (R : Rel T K (pinOf io v) env σ Hf H S) (st : Step S0 Hf0 H0 S Hf H) (o : Own T K Hf H t u P)
    (hP : ∀ a, P a → (H0 a = none ∨ S0 a) ∧ ¬ S a ∧ Hf a = none) (q : EndF T K io vs S0 Hf0 H0 Q E (fin io t env)) : Q u H := by
  cases io with
  | none => exact q Hf H S u P R.sub R.nod st o hP rfl R.owned
  | some i =>
    simp only [fin] at q
    cases hs : slot env i with
    | none => simp only [hs] at q; exact q.elim
    | some t' =>
      simp only [hs] at q
      obtain ⟨P', hP', out⟩ := Rel.out (io := some i) R (hF i rfl) hs
      exact q Hf H P' u P R.sub R.nod (st.any fun a z => st.news a (hP' a z)) o (fun a z => ⟨(hP a z).1, fun z' => (hP a z).2.1 (hP' a z'), (hP a z).2.2⟩) out fun a z => R.owned a (hP' a z)
theorem end_finX {io : Option Nat} {v : V} {vs : List V} {Hf0 H0 : Hp} {S0 : Ad} {Q : VK} {E : XK} {c : Str} {fs : List (Str × D)} {cls : Value} {d : Option Addr} (hF : ∀ i, io = some i → vs[i]? = some v) (R : Rel T K (pinOf io v) env σ Hf H S) (st : Step S0 Hf0 H0 S Hf H)
    (x : XRel T K Hf H c fs cls d) (q : EndF T K io vs S0 Hf0 H0 Q E (finX io c fs env)) : E cls d H := by
  cases io with
  | none => exact q cls d Hf H S R.sub R.nod st x rfl R.owned
  | some i =>
    simp only [finX] at q
    cases hs : slot env i with
    | none => simp only [hs] at q; exact q.elim
    | some t' =>
      simp only [hs] at q
      obtain ⟨P', hP', out⟩ := Rel.out (io := some i) R (hF i rfl) hs
      exact q cls d Hf H P' R.sub R.nod (st.any fun a z => st.news a (hP' a z)) x out fun a z => R.owned a (hP' a z)
end
/-- a body that does what its mirror does -/
def BodyOk (T : Tb) (P : Program) (w : World) (K : PySem.W.Frag) (mg : Str → Option Value) (base : Heap) (k : Nat) (N : List Str) (qual : Str) (st : Stmt) (io : Option Nat) (body : SM) : Prop :=
  ∀ (f : Addr) (cdv : Value) (A : Around) (outer : List Env) (s : Shared) (H : Hp) (E : XK) (v : V), Room k (A.deeper (envOfC qual (defScope st) s.heap.objs.size f cdv)) →
    PSs (cxOf (L2.CX P w) P w K mg base N qual (defScope st) f cdv A outer s H E) (defBody st) (liftS T K (wE E) (pinOf io v) body)
theorem def_ok {T : Tb} {P : Program} {w : World} {K : PySem.W.Frag} {mg : Str → Option Value} {base : Heap} {x qual : Str} {st : Stmt} {f : Addr} {fd : FuncData} {N ps : List Str} {k : Nat} {io : Option Nat} {body : SM} (F : Fun K x qual st f fd) (S : FnScope N ps (defScope st))
    (hio : ∀ i, io = some i → i < ps.length) (hb : BodyOk T P w K mg base k N qual st io body) : FnOk P w K mg base (L2.CX P w) (k + 1) f fd ps (SpM T K ps.length io (runDef N.length io body)) := by
  refine F.okX S (fun vs H Q E h => h.1) fun cdv A outer s H vs Q E hr ⟨hl, ts, Hf, Sd, R, q⟩ => ?_
  have hpl : ps.length ≤ N.length := by
    have := congrArg List.length S.pre
    rw [List.length_take] at this
    omega
  obtain ⟨v, hF⟩ : ∃ v : V, ∀ i, io = some i → vs[i]? = some v := by
    cases io with
    | none => exact ⟨.non, fun _ e => (nomatch e)⟩
    | some i => exact ⟨vs[i]'(by have := hio i rfl; omega), fun j e => by cases e; exact List.getElem?_eq_getElem _⟩
  refine ⟨_, hb f cdv A outer s H E v hr, ts.map some ++ List.replicate (N.length - ts.length) none, Hf, Sd, R.enter (by omega) (fun p hp => ?_) (by cases io <;> rfl), ?_⟩
  · cases io with
    | none => cases hp
    | some i =>
      have e : p = (i, v) := by simpa [pinOf] using hp
      subst e
      exact hF i rfl
  · simp only [runDef] at q
    cases hm : body (ts.map some ++ List.replicate (N.length - ts.length) none) with
    | bad => rw [hm] at q; exact q.elim
    | bk e => rw [hm] at q; exact q.elim
    | ct e => rw [hm] at q; exact q.elim
    | nx e =>
      rw [hm] at q
      exact fun σ' Hf' H' S' R' st' => end_fin hF R' st' (P := No) (.fz .non fun _ h => h) (fun a h => h.elim) q
    | ret t e =>
      rw [hm] at q
      exact fun σ' Hf' H' S' u P R' st' o hP => end_fin hF R' st' o hP q
    | exc c fs e =>
      rw [hm] at q
      exact fun cls d σ' Hf' H' S' R' st' x => end_finX hF R' st' x q
/-- a def by its name, for its callers -/
structure FnM (T : Tb) (P : Program) (w : World) (K : PySem.W.Frag) (mg : Str → Option Value) (base : Heap) (k : Nat) (x : Str) (n : Nat) (io : Option Nat) (mf : FM) : Prop where
  ex : ∃ f fd ps, mg x = some (.ref f) ∧ PySem.W.keepIn K (.ref f) = true ∧ Binds K fd ps [] ∧ FnOk P w K mg base (L2.CX P w) k f fd ps (SpM T K n io mf)
/-- a method: of a class, by its name -/
structure MtM (T : Tb) (P : Program) (w : World) (K : PySem.W.Frag) (mg : Str → Option Value) (base : Heap) (k : Nat) (c m : Str) (n : Nat) (io : Option Nat) (mf : FM) : Prop where
  ex : ∃ C f fd ps, T.cls c = some C ∧ Cls K C ∧ Meth K C m f ∧ Binds K fd ps [] ∧ FnOk P w K mg base (L2.CX P w) k f fd ps (SpM T K n io mf)
/-- a class that is made by its __init__ -/
structure MkM (T : Tb) (P : Program) (w : World) (K : PySem.W.Frag) (mg : Str → Option Value) (base : Heap) (k : Nat) (c : Str) (n : Nat) (mf : FM) : Prop where
  ex : ∃ C f fd ps, T.cls c = some C ∧ mg c = some (.ref C) ∧ Mk K C f ∧ Binds K fd ps [] ∧ FnOk P w K mg base (L2.CX P w) k f fd ps (SpM T K n (some 0) mf)
/-! ## calls -/
/-- arguments as the callee gets them; the io-th is a slot's object -/
def argsOf (e : ME) (io : Option Nat) : Nat → List ER → Option (List OT)
  | _, [] => some []
  | k, .fz d :: rs => if io = some k then none else (argsOf e io (k + 1) rs).map fun ts => .fz d :: ts
  | k, .bor i :: rs => if io = some k then (slot e i).bind fun t => (argsOf e io (k + 1) rs).map fun ts => t :: ts else none
  | _, .new _ :: _ => none
def ofOT : OT → ER
  | .fz d => .fz d
  | t => .new t
def ioSlot (io : Option Nat) (rs : List ER) : Option Nat := match io with
  | none => none
  | some k => match rs[k]? with
    | some (.bor i) => some i
    | _ => none
def putOut (e : ME) (j : Option Nat) (out : Option OT) : ME := match j, out with
  | some i, some t => e.set i (some t)
  | _, _ => e
@[simp] def resOf (j : Option Nat) (e : ME) (r : FR) : Res ER := match r with
  | .ok t out => .ok (ofOT t) (putOut e j out)
  | .exc c fs out => .exc c fs (putOut e j out)
  | .bad => .bad
@[simp] def callM (ar : Nat) (io : Option Nat) (mf : FM) (rs : List ER) (e : ME) : Res ER := if rs.length = ar then (match argsOf e io 0 rs with
  | some ts => resOf (ioSlot io rs) e (mf ts)
  | none => .bad) else .bad
def eCall (ar : Nat) (io : Option Nat) (mf : FM) (m : AM) : EM := fun env => (m env).bind fun rs e => callM ar io mf rs e
section
variable {X : Cx} {T : Tb} {w : WX} {F : Pn} {K : PySem.W.Frag} {σ : St} {H Hf : Hp} {S S0 : Ad} {env e1 : ME} {Q : VK}
theorem ARel.length {rs : List ER} {vs : List V} {H0 : Hp} (t : ARel T K env σ Hf H S S0 H0 rs vs) : rs.length = vs.length := by
  induction t with
  | nil => rfl
  | cons _ _ ih => simp [ih]
/-- all arguments frozen -/
theorem args_fz {H0 : Hp} {rs : List ER} {vs : List V} (R : Rel T K F env σ Hf H S) (t : ARel T K env σ Hf H S S0 H0 rs vs) : ∀ {k : Nat} {ts : List OT} {io : Option Nat}, (∀ i, io = some i → i < k) → argsOf env io k rs = some ts → ts.length = vs.length ∧ ∀ i t, slot (ts.map some) i = some t → ∃ d v, t = .fz d ∧ vs[i]? = some v ∧ Rep T K Hf d v := by
  induction t with
  | nil =>
    intro k ts io hk h
    simp only [argsOf, Option.some.injEq] at h
    subst h
    exact ⟨rfl, fun i t h => by simp at h⟩
  | @cons r v rs vs a _ ih =>
    intro k ts io hk h
    cases r with
    | new _ => simp only [argsOf] at h; cases h
    | bor i =>
      simp only [argsOf] at h
      rw [if_neg (fun z => by have := hk k z; omega)] at h
      cases h
    | fz d =>
      simp only [argsOf] at h
      rw [if_neg (fun z => by have := hk k z; omega)] at h
      obtain ⟨ts', h', rfl⟩ := Option.map_eq_some_iff.mp h
      obtain ⟨l, g⟩ := ih (fun i z => by have := hk i z; omega) h'
      refine ⟨by simp [l], fun i t h => ?_⟩
      cases i with
      | zero =>
        simp at h
        exact ⟨d, v, h.symm, rfl, a⟩
      | succ i => exact g i t (by simpa using h)
/-- the arguments, one of them a slot's object -/
theorem args_io {H0 : Hp} {rs : List ER} {vs : List V} (R : Rel T K F env σ Hf H S) (t : ARel T K env σ Hf H S S0 H0 rs vs) : ∀ {k j : Nat} {ts : List OT}, argsOf env (some (k + j)) k rs = some ts → ts.length = vs.length ∧
    (∀ i t, i ≠ j → slot (ts.map some) i = some t → ∃ d v, t = .fz d ∧ vs[i]? = some v ∧ Rep T K Hf d v) ∧
    (rs.length ≤ j ∨ ∃ n u v, rs[j]? = some (.bor n) ∧ slot env n = some u ∧ ts[j]? = some u ∧ vs[j]? = some v ∧ σ[n]? = some (some v)) := by
  induction t with
  | nil =>
    intro k j ts h
    simp only [argsOf, Option.some.injEq] at h
    subst h
    exact ⟨rfl, fun i t _ h => by simp at h, .inl (Nat.zero_le _)⟩
  | @cons r v rs vs a ar ih =>
    intro k j ts h
    cases r with
    | new _ => simp only [argsOf] at h; cases h
    | bor n =>
      simp only [argsOf] at h
      split at h
      · rename_i hj
        have hj : j = 0 := by simp at hj; omega
        subst hj
        obtain ⟨u, hu, h⟩ := Option.bind_eq_some_iff.mp h
        obtain ⟨ts', h', rfl⟩ := Option.map_eq_some_iff.mp h
        obtain ⟨l, g⟩ := args_fz R ar (io := some (k + 0)) (fun i z => by cases z; omega) h'
        refine ⟨by simp [l], fun i t hi h => ?_, .inr ⟨n, u, v, rfl, hu, rfl, rfl, a⟩⟩
        cases i with
        | zero => exact absurd rfl hi
        | succ i => exact g i t (by simpa using h)
      · cases h
    | fz d =>
      simp only [argsOf] at h
      split at h
      · cases h
      · rename_i hj
        cases j with
        | zero => exact absurd rfl hj
        | succ j =>
          obtain ⟨ts', h', rfl⟩ := Option.map_eq_some_iff.mp h
          rw [show k + (j + 1) = k + 1 + j by omega] at h'
          obtain ⟨l, g, g2⟩ := ih h'
          refine ⟨by simp [l], fun i t hi h => ?_, ?_⟩
          · cases i with
            | zero =>
              simp at h
              exact ⟨d, v, h.symm, rfl, a⟩
            | succ i => exact g i t (fun z => hi (by omega)) (by simpa using h)
          · rcases g2 with g2 | ⟨n, u, v', a1, a2, a3, a4, a5⟩
            · exact .inl (by simpa using g2)
            · exact .inr ⟨n, u, v', by simpa using a1, a2, by simpa using a3, by simpa using a4, a5⟩
theorem slot_map {ts : List OT} {i : Nat} {t : OT} : slot (ts.map some) i = some t ↔ ts[i]? = some t := by
  unfold slot
  rw [List.getElem?_map]
  cases ts[i]? <;> simp
theorem trel_of {t : OT} {v : V} {P S0 S' : Ad} {H0 Hf' H' : Hp} {e' : ME} {σ' : St} (o : Own T K Hf' H' t v P) (hP : ∀ a, P a → (H0 a = none ∨ S0 a) ∧ ¬ S' a ∧ Hf' a = none) : TRel T K e' σ' Hf' H' S' S0 H0 (ofOT t) v := by
  cases o with
  | fz r _ => exact r
  | lst h r n => exact ⟨P, .lst h r n, hP⟩
  | dK h r n => exact ⟨P, .dK h r n, hP⟩
  | dT h r n => exact ⟨P, .dT h r n, hP⟩
  | ins c h r z n => exact ⟨P, .ins c h r z n, hP⟩
/-- a call's promise, from the caller's state; more: what stands ahead of the arguments (a new instance) is not served here -/
theorem call_core {Hf0 H0 : Hp} {io : Option Nat} {n : Nat} {mf : FM} {rs : List ER} {vs : List V} {ts : List OT} {E : XK} (R : Rel T K F env σ Hf H S) (st : Step S0 Hf0 H0 S Hf H) (ar : ARel T K env σ Hf H S S0 H0 rs vs) (ha : argsOf env io 0 rs = some ts) (hl : vs.length = n) (hG : io ≠ none → F.hp = [])
    (hio : ∀ i, io = some i → i < n) (hE : ∀ cls d H, w cls d σ H → E cls d H) (q : EndE T K w F S0 Hf0 H0 σ Q (resOf (ioSlot io rs) env (mf ts))) : SpM T K n io mf vs H Q E := by
  refine ⟨hl, ?_⟩
  cases io with
  | none =>
    obtain ⟨l, g⟩ := args_fz R ar (io := none) (fun i z => (nomatch z)) ha
    refine ⟨ts, Hf, No, ⟨R.sub, R.nod, by simp [l], ⟨fun _ => No, fun i t h => ?_, fun i a h => h.elim, fun _ _ _ h => h.elim, fun _ _ h => h.elim⟩, fun _ h => h.elim, fun _ h => h.elim, fun p hp => (nomatch hp), fun p hp => (nomatch hp)⟩, ?_⟩
    · obtain ⟨d, v, rfl, e, r⟩ := g i t h
      exact ⟨v, by rw [List.getElem?_map, e]; rfl, .fz r fun _ h => h⟩
    · have side : ∀ {Hf' H' : Hp} {S' : Ad}, Step No Hf H S' Hf' H' → Sub Hf' H' → HfOk Hf' → Rel T K F env σ Hf' H' S ∧ Step S0 Hf0 H0 S Hf' H' := fun st' s n => ⟨R.side st' (fun _ h => h.elim) s n (R.sds fun a _ _ _ e => st'.keep a _ e fun z => z), st.side st' fun _ h => h.elim⟩
      cases hm : mf ts with
      | bad => rw [hm] at q; exact q.elim
      | ok t out =>
        rw [hm] at q
        intro Hf' H' S' v P s n st' o hP outr _
        obtain ⟨R', st2⟩ := side st' s n
        have eo : out = none := by
          cases out with
          | none => rfl
          | some u => obtain ⟨i, v, e, _⟩ := outr; cases e
        subst eo
        refine q Hf' H' S v R' st2 (trel_of o fun a z => ⟨?_, fun z' => ?_, (hP a z).2.2⟩)
        · rcases (hP a z).1 with z | z
          · exact .inl (st.nn z)
          · exact z.elim
        · rcases (hP a z).1 with z | z
          · exact R.ns z z'
          · exact z.elim
      | exc c fs out =>
        rw [hm] at q
        intro cls d Hf' H' S' s n st' x outr _
        obtain ⟨R', st2⟩ := side st' s n
        have eo : out = none := by
          cases out with
          | none => rfl
          | some u => obtain ⟨i, v, e, _⟩ := outr; cases e
        subst eo
        exact hE _ _ _ (q cls d σ Hf' H' S R' st2 x)
  | some j =>
    obtain ⟨l, g, g2⟩ := args_io R ar (k := 0) (j := j) (by simpa using ha)
    have hj := hio j rfl
    have lr : rs.length = vs.length := ar.length
    rcases g2 with g2 | ⟨i, u, v, a1, a2, a3, a4, a5⟩
    · omega
    · obtain ⟨v', P, ev, o, hP, mu⟩ := R.mut a2
      rw [a5] at ev; cases ev
      have hs : ioSlot (some j) rs = some i := by simp only [ioSlot, a1]
      rw [hs] at q
      refine ⟨ts, Hf, P, ⟨R.sub, R.nod, by simp [l], ⟨fun k a => k = j ∧ P a, fun k t h => ?_, fun k a h => ⟨u, by rw [h.1]; exact slot_map.mpr a3⟩, fun k k' a h h' => h.1.trans h'.1.symm, fun k a h => h.2⟩, fun a z => R.owned a (hP a z), fun a z => R.there a (hP a z), fun p hp => (nomatch hp), fun p hp => (nomatch hp)⟩, ?_⟩
      · by_cases hk : k = j
        · subst hk
          rw [slot_map.mp h] at a3
          cases a3
          have : (fun a => k = k ∧ P a) = P := by funext a; simp
          dsimp only
          rw [this]
          exact ⟨v, by rw [List.getElem?_map, a4]; rfl, o⟩
        · obtain ⟨d, v2, rfl, e, r⟩ := g k t hk h
          exact ⟨v2, by rw [List.getElem?_map, e]; rfl, .fz r fun a z => hk z.1⟩
      · cases hm : mf ts with
        | bad => rw [hm] at q; exact q.elim
        | ok t out =>
          rw [hm] at q
          intro Hf' H' S' v2 P2 s n st' o2 hP2 outr how
          cases out with
          | none => cases outr
          | some t' =>
            obtain ⟨i', v3, e1, e2, o3⟩ := outr
            cases e1
            rw [a4] at e2; cases e2
            obtain ⟨R', st2⟩ := mu st' s n o3 how (by rw [hG (by simp)]; intro p hp; cases hp)
            refine q Hf' H' _ v2 R' (st.trans st2) (trel_of o2 fun a z => ⟨?_, fun z' => ?_, (hP2 a z).2.2⟩)
            · rcases (hP2 a z).1 with z | z
              · exact .inl (st.nn z)
              · exact (st.news a (hP a z)).symm
            · rcases z' with ⟨z', n'⟩ | z'
              · rcases (hP2 a z).1 with z | z
                · exact R.ns z z'
                · exact n' z
              · exact (hP2 a z).2.1 z'
        | exc c fs out =>
          rw [hm] at q
          intro cls d Hf' H' S' s n st' x outr how
          cases out with
          | none => cases outr
          | some t' =>
            obtain ⟨i', v3, e1, e2, o3⟩ := outr
            cases e1
            rw [a4] at e2; cases e2
            obtain ⟨R', st2⟩ := mu st' s n o3 how (by rw [hG (by simp)]; intro p hp; cases hp)
            exact hE _ _ _ (q cls d σ Hf' H' _ R' (st.trans st2) x)
variable {x : Str} {p pos : Pos} {e : Expr} {es : List Expr} {n : AM} {k : Nat} {io : Option Nat} {mf : FM}
/-- calls, at values -/
theorem call_end {ar : Nat} {Hf0 H0 : Hp} {rs : List ER} {vs : List V} {E : XK} (R : Rel T K F env σ Hf H S) (st : Step S0 Hf0 H0 S Hf H) (t : ARel T K env σ Hf H S S0 H0 rs vs) (hio : ∀ i, io = some i → i < ar) (hG : io ≠ none → F.hp = []) (hE : ∀ cls d H, w cls d σ H → E cls d H)
    (q : EndE T K w F S0 Hf0 H0 σ Q (callM ar io mf rs env)) : SpM T K ar io mf vs H Q E := by
  simp only [callM] at q
  split at q
  · rename_i hl
    cases ha : argsOf env io 0 rs with
    | none => rw [ha] at q; exact q.elim
    | some ts =>
      rw [ha] at q
      exact call_core R st t ha (by rw [← t.length]; exact hl) hG hio hE q
  · exact q.elim
/-- f(e, ..) -/
theorem m_call {ar : Nat} (G : FnM T X.prog X.w X.K X.mg X.base k x ar io mf) (hr : Room k X.A) (gl : Gl X x) (tk : Takes X w) (ha : PA X (e :: es) (liftA T X.K w F n)) (hio : ∀ i, io = some i → i < ar := by intro i h; first | (cases h; done) | (cases h; decide)) (hG : io ≠ none → F.hp = [] := by first | exact fun h => absurd rfl h | exact fun _ => rfl) (hdb : (x == ("__debug__" : Str)) = false := by decide)
    (he : starEach (e :: es) X.env = (false, eval e X.env) :: starEach es X.env := by rfl) (hpl : (backTo pos (starEach es X.env)).any (·.1) = false := by rfl) :
    PE X (.Call (.Name x p) (e :: es) [] pos) (liftE T X.K w F (eCall ar io mf n)) := by
  obtain ⟨f, fd, ps, hm, hk, hb, hf⟩ := G.ex
  refine PE.weak (pe_callS hf hr gl hm hk hb (fun σ => passAt tk σ) ha hdb he hpl) fun σ H Q ⟨env, Hf, S, R, q⟩ => ?_
  exact runA R .refl q fun rs e1 Hf1 H1 S1 vs R1 _ st1 t1 q1 => call_end R1 st1 t1 hio hG (fun _ _ _ h => h) q1
/-- what is wanted of exceptions does not hang on the slots -/
def FlatW (w : WX) : Prop := ∀ cls d σ σ' H, w cls d σ H → w cls d σ' H
theorem flat_wE {E : XK} : FlatW (wE E) := fun _ _ _ _ _ h => h
theorem flat_w0 : FlatW w0 := fun _ _ _ _ _ h => h
/-- a new instance as an argument -/
@[simp] def makeM (ar : Nat) (c : Str) (mf : FM) (rs : List ER) (e : ME) : Res ER := if rs.length + 1 = ar then (match argsOf e none 0 rs with
  | some ts => match mf (.ins c [] :: ts) with
    | .ok (.fz .non) (some t) => .ok (.new t) e
    | .exc x fs _ => .exc x fs e
    | _ => .bad
  | none => .bad) else .bad
def eMake (ar : Nat) (c : Str) (mf : FM) (m : AM) : EM := fun env => (m env).bind fun rs e => makeM ar c mf rs e
theorem make_end {ar : Nat} {c : Str} {C : Addr} {Hf0 H0 : Hp} {rs : List ER} {vs : List V} {E : XK} (hC : T.cls c = some C) (R : Rel T K F env σ Hf H S) (st : Step S0 Hf0 H0 S Hf H) (t : ARel T K env σ Hf H S S0 H0 rs vs) (h0 : 0 < ar) (hE : ∀ cls d H, w cls d σ H → E cls d H)
    (q : EndE T K w F S0 Hf0 H0 σ Q (makeM ar c mf rs env)) (x dx : Addr) (hx : H x = none) (hdx : H dx = none) (ne : dx ≠ x) : SpM T K ar (some 0) mf (.ref x :: (vs ++ [])) (upd (upd H dx (.own x)) x (.ins C dx [])) (fun v H2 => v = .non ∧ Q (.ref x) H2) E := by
  simp only [makeM] at q
  split at q
  · rename_i hl
    cases ha : argsOf env none 0 rs with
    | none => rw [ha] at q; exact q.elim
    | some ts =>
      rw [ha] at q
      simp only at q
      rw [List.append_nil]
      obtain ⟨l, g⟩ := args_fz R t (io := none) (fun i z => (nomatch z)) ha
      obtain ⟨R1, st1⟩ := R.newOw (o := .own x) hdx
      have hx1 : upd H dx (.own x) x = none := by rw [upd_ne (Ne.symm ne)]; exact hx
      obtain ⟨R2, st2⟩ := R1.newOw (o := .ins C dx []) hx1
      have st12 := (st.trans st1).trans st2
      refine ⟨by rw [List.length_cons, ← t.length]; exact hl, .ins c [] :: ts, Hf, fun a => a = x, ⟨R2.sub, R.nod, by simp [l], ⟨fun k a => k = 0 ∧ a = x, fun k u h => ?_, fun k a h => ⟨.ins c [], by rw [h.1]; rfl⟩, fun k k' a h h' => h.1.trans h'.1.symm, fun k a h => h.2⟩, fun a z => by subst z; exact R.hf hx, fun a z => ⟨.ins C dx [], by subst z; exact upd_same, fun _ e => (nomatch e)⟩, fun p hp => (nomatch hp), fun p hp => (nomatch hp)⟩, ?_⟩
      · cases k with
        | zero =>
          have : u = .ins c [] := by simpa using h.symm
          subst this
          exact ⟨.ref x, rfl, .ins (S1 := No) hC upd_same (.nil fun _ h => h) (fun h => h) fun b => by simp⟩
        | succ k =>
          obtain ⟨d, v2, rfl, e, r⟩ := g k u (by simpa using h)
          exact ⟨v2, by simp [e], .fz r fun a z => by cases z.1⟩
      · have side : ∀ {Hf' H' : Hp} {S' : Ad}, Step (fun a => a = x) Hf (upd (upd H dx (.own x)) x (.ins C dx [])) S' Hf' H' → Sub Hf' H' → HfOk Hf' → Rel T K F env σ Hf' H' S ∧ Step S0 Hf0 H0 S Hf' H' := fun st' s n => ⟨R2.side st' (fun a z => by subst z; exact R.ns hx) s n (fun p hp => by
        have e := R2.stand p hp
        rw [e]
        exact st'.keep _ _ e fun z => by
          have e0 := R.stand p hp
          rw [z, hx] at e0
          cases e0), st12.side st' fun a z => by subst z; exact .inl (st.nn hx)⟩
        cases hm : mf (.ins c [] :: ts) with
        | bad => rw [hm] at q; exact q.elim
        | exc c fs out =>
          rw [hm] at q
          intro cls d Hf' H' S' s n st' xr outr how
          obtain ⟨R', st3⟩ := side st' s n
          exact hE _ _ _ (q cls d σ Hf' H' S R' st3 xr)
        | ok u out =>
          rw [hm] at q
          intro Hf' H' S' v2 P2 s n st' o2 hP2 outr how
          obtain ⟨R', st3⟩ := side st' s n
          cases out with
          | none =>
            cases u with
            | fz d => cases d <;> exact q.elim
            | _ => exact q.elim
          | some t' =>
            cases u with
            | fz d =>
              cases d with
              | non =>
                obtain ⟨i', v3, e1, e2, o3⟩ := outr
                cases e1
                have e3 : v3 = .ref x := by simpa using e2.symm
                subst e3
                refine ⟨?_, q Hf' H' S _ R' st3 ⟨S', o3, fun a z => ⟨?_, fun z' => ?_, how a z⟩⟩⟩
                · cases o2 with | fz r _ => cases r; rfl
                · rcases st'.news a z with z | z
                  · subst z; exact .inl (st.nn hx)
                  · exact .inl (st12.nn z)
                · rcases st'.news a z with z | z
                  · subst z; exact R.ns hx z'
                  · exact R2.ns z z'
              | _ => exact q.elim
            | _ => exact q.elim
  · exact q.elim
/-- C(e, ..) -/
theorem m_make {ar : Nat} {c : Str} (G : MkM T X.prog X.w X.K X.mg X.base k c ar mf) (hr : Room (k + 1) X.A) (gl : Gl X c) (tk : Takes X w) (fw : FlatW w) (ha : PA X (e :: es) (liftA T X.K w F n)) (h0 : 0 < ar := by decide) (hdb : (c == ("__debug__" : Str)) = false := by decide)
    (he : starEach (e :: es) X.env = (false, eval e X.env) :: starEach es X.env := by rfl) (hpl : (backTo pos (starEach es X.env)).any (·.1) = false := by rfl) :
    PE X (.Call (.Name c p) (e :: es) [] pos) (liftE T X.K w F (eMake ar c mf n)) := by
  obtain ⟨C, f, fd, ps, hC, hm, M, hb, hf⟩ := G.ex
  refine PE.weak (pe_make (E := fun cls d H => w cls d [] H) M hf hr gl hm hb .nil (passes_call tk fun cls d σ H h => fw cls d [] σ H h) ha hdb he hpl) fun σ H Q ⟨env, Hf, S, R, q⟩ => ?_
  refine runA R .refl q fun rs e1 Hf1 H1 S1 vs R1 _ st1 t1 q1 x dx hx hdx ne => ?_
  exact make_end hC R1 st1 t1 h0 (fun cls d H h => fw cls d σ [] H h) q1 x dx hx hdx ne
/-! ### methods: o.m(..), o's object first -/
variable {o : Expr} {apos : Pos} {mo : EM} {c m : Str}
def isIns (c : Str) : Option D → Bool
  | some (.ins c' _) => decide (c' = c)
  | _ => false
def insF : Option D → List (Str × D)
  | some (.ins _ fs) => fs
  | _ => []
def eMeth (c mn : Str) (ar : Nat) (io : Option Nat) (mf : FM) (mo : EM) (n : AM) : EM := fun env => (mo env).bind fun r e => if isIns c (viewD e r) = true ∧ (insF (viewD e r)).lookup mn = none then ((n e).bind fun rs e2 => callM ar io mf (r :: rs) e2) else .bad
theorem RepF.nolook {f : Str} : ∀ {ds : List (Str × D)} {vs : List (Str × V)}, RepF T K H ds vs → ds.lookup f = none → vs.lookup f = none
  | _, _, .nil, h => rfl
  | _, _, .cons (f := g) r t, h => by
    by_cases e : f = g
    · subst e
      simp at h
    · have hb : (f == g) = false := beq_eq_false_iff_ne.mpr e
      rw [List.lookup_cons, hb] at h ⊢
      exact RepF.nolook t h
theorem ins_at {r : ER} {v : V} {H0 : Hp} {C : Addr} (hC : T.cls c = some C) (R : Rel T K F env σ Hf H S) (t : TRel T K env σ Hf H S S0 H0 r v) (h : isIns c (viewD env r) = true) (hl : (insF (viewD env r)).lookup m = none) : ∃ a dx fs, v = .ref a ∧ H a = some (.ins C dx fs) ∧ fs.lookup m = none := by
  cases hv : viewD env r with
  | none => rw [hv] at h; cases h
  | some d =>
    rw [hv] at h hl
    cases d with
    | ins c' fs =>
      have hc : c' = c := of_decide_eq_true h
      subst hc
      obtain ⟨u, P, ow, e⟩ := t.view R hv
      have rp := ow.rep R.sub
      rw [e] at rp
      cases rp with
      | ins h1 h2 h3 =>
        rw [hC] at h1; cases h1
        exact ⟨_, _, _, rfl, h2, h3.nolook hl⟩
    | _ => cases h
theorem m_meth {ar : Nat} {pl : Sem Bool} (G : MtM T X.prog X.w X.K X.mg X.base k c m ar io mf) (hr : Room k X.A) (tk : Takes X w) (fw : FlatW w) (ho : PE X o (liftE T X.K w F mo)) (ha : PA X (e :: es) (liftA T X.K w F n)) (hio : ∀ i, io = some i → i < ar := by intro i h; first | (cases h; done) | (cases h; decide)) (hG : io ≠ none → F.hp = [] := by first | exact fun h => absurd rfl h | exact fun _ => rfl)
    (hst : starEach (e :: es) X.env = (false, eval e X.env) :: starEach es X.env := by rfl) (hpl : (backTo pos (starEach es X.env)).any (·.1) = false := by rfl)
    (ht : eval (.Call (.Attribute o m apos) (e :: es) [] pos) X.env = (eval o X.env >>= fun ov => standAt apos.atName >>= fun _ => holding [ov] (getMethod ov m pl) >>= fun x => callWith pos x.1 x.2 (backTo pos (starEach (e :: es) X.env)) (backToKw pos (keywordEach [] X.env))) := by rfl) :
    PE X (.Call (.Attribute o m apos) (e :: es) [] pos) (liftE T X.K w F (eMeth c m ar io mf mo n)) := by
  obtain ⟨C, f, fd, ps, hC, hcl, M, hb, hf⟩ := G.ex
  refine PE.weak (pe_meth (pl := pl) (E := fun cls d H => w cls d [] H) ho hcl M hf hr hb .nil (passes_call tk fun cls d σ H h => fw cls d [] σ H h) ha hst hpl ht) fun σ H Q ⟨env, Hf, S, R, q⟩ => ?_
  refine runE R .refl q fun r e1 Hf1 H1 S1 v R1 _ st1 t1 q1 => ?_
  split at q1
  · rename_i hi
    obtain ⟨a, dx, fs, rfl, e2, e3⟩ := ins_at (m := m) hC R1 t1 hi.1 hi.2
    refine ⟨a, dx, fs, rfl, e2, e3, ?_⟩
    refine runA R1 st1 q1 fun rs e3 Hf2 H2 S2 vs R2 st12 st2 t2 q2 => ?_
    rw [List.append_nil]
    exact call_end R2 st2 (.cons (t1.step st12 R2.sub) (t2.early st1)) hio hG (fun cls d H h => fw cls d σ [] H h) q2
  · exact q1.elim
theorem m_meth0 {ar : Nat} {pl : Sem Bool} (G : MtM T X.prog X.w X.K X.mg X.base k c m ar io mf) (hr : Room k X.A) (tk : Takes X w) (fw : FlatW w) (ho : PE X o (liftE T X.K w F mo)) (hio : ∀ i, io = some i → i < ar := by intro i h; first | (cases h; done) | (cases h; decide)) (hG : io ≠ none → F.hp = [] := by first | exact fun h => absurd rfl h | exact fun _ => rfl)
    (ht : eval (.Call (.Attribute o m apos) [] [] pos) X.env = (eval o X.env >>= fun ov => standAt apos.atName >>= fun _ => holding [ov] (getMethod ov m pl) >>= fun x => callWith pos x.1 x.2 (backTo pos (starEach [] X.env)) (backToKw pos (keywordEach [] X.env))) := by rfl) :
    PE X (.Call (.Attribute o m apos) [] [] pos) (liftE T X.K w F (eMeth c m ar io mf mo aNil)) := by
  obtain ⟨C, f, fd, ps, hC, hcl, M, hb, hf⟩ := G.ex
  refine PE.weak (pe_meth0 (pl := pl) (E := fun cls d H => w cls d [] H) ho hcl M hf hr hb .nil (passes_call tk fun cls d σ H h => fw cls d [] σ H h) ht) fun σ H Q ⟨env, Hf, S, R, q⟩ => ?_
  refine runE R .refl q fun r e1 Hf1 H1 S1 v R1 _ st1 t1 q1 => ?_
  split at q1
  · rename_i hi
    obtain ⟨a, dx, fs, rfl, e2, e3⟩ := ins_at (m := m) hC R1 t1 hi.1 hi.2
    refine ⟨a, dx, fs, rfl, e2, e3, ?_⟩
    simp only [aNil, Res.bind] at q1
    exact call_end R1 st1 (.cons t1 .nil) hio hG (fun cls d H h => fw cls d σ [] H h) q1
  · exact q1.elim
/-! ### attributes -/
/-- the frozen data of an attribute -/
def attrF (f : Str) : List (Str × OT) → Option D := fun fs => match fs.lookup f with
  | some (.fz d) => some d
  | _ => none
def attrD (e : ME) (f : Str) : ER → Option D
  | .fz (.ins _ fs) => fs.lookup f
  | .new (.ins _ fs) => attrF f fs
  | .bor i => match slot e i with
    | some (.fz (.ins _ fs)) => fs.lookup f
    | some (.ins _ fs) => attrF f fs
    | _ => none
  | _ => none
def eAttr (f : Str) (m : EM) : EM := fun env => (m env).bind fun r e => match attrD e f r with
  | some d => .ok (.fz d) e
  | none => .bad
/-- no class of the program has a name f -/
def Att (T : Tb) (K : PySem.W.Frag) (f : Str) : Prop := ∀ c C, T.cls c = some C → Cls K C ∧ NoAttr K C f
theorem OwnF.look {f : Str} : ∀ {ts : List (Str × OT)} {vs : List (Str × V)} {P : Ad}, OwnF T K Hf H ts vs P → ∀ {t : OT}, ts.lookup f = some t → ∃ v P', vs.lookup f = some v ∧ Own T K Hf H t v P' ∧ ∀ a, P' a → P a
  | _, _, _, .nil _, t, h => by simp at h
  | _, _, _, .cons (f := g) o r _ n, t, h => by
    by_cases e : f = g
    · subst e
      simp only [List.lookup_cons_self, Option.some.injEq] at h
      subst h
      exact ⟨_, _, by simp only [List.lookup_cons_self], o, fun a z => (n a).mpr (.inl z)⟩
    · have hb : (f == g) = false := beq_eq_false_iff_ne.mpr e
      rw [List.lookup_cons, hb] at h
      obtain ⟨v, P', e1, o1, s1⟩ := OwnF.look r h
      exact ⟨v, P', by rw [List.lookup_cons, hb]; exact e1, o1, fun a z => (n a).mpr (.inr (s1 a z))⟩
theorem attr_own {f : Str} {t : OT} {v : V} {P : Ad} {c : Str} {fs : List (Str × OT)} {d : D} (o : Own T K Hf H (.ins c fs) v P) (h : attrF f fs = some d) : ∃ a C dx gs u, v = .ref a ∧ T.cls c = some C ∧ H a = some (.ins C dx gs) ∧ gs.lookup f = some u ∧ Rep T K Hf d u := by
  cases o with
  | ins hc ha r z n =>
    unfold attrF at h
    split at h
    · rename_i d' hl
      cases h
      obtain ⟨u, P', e, o', _⟩ := r.look hl
      cases o' with
      | fz rr _ => exact ⟨_, _, _, _, u, rfl, hc, ha, e, rr⟩
    · cases h
theorem attr_rep {f : Str} {v : V} {c : Str} {fs : List (Str × D)} {d : D} (s : Sub Hf H) (o : Rep T K Hf (.ins c fs) v) (h : fs.lookup f = some d) : ∃ a C dx gs u, v = .ref a ∧ T.cls c = some C ∧ H a = some (.ins C dx gs) ∧ gs.lookup f = some u ∧ Rep T K Hf d u := by
  cases o with
  | ins hc ha r =>
    obtain ⟨u, e, rr⟩ := r.look h
    exact ⟨_, _, _, _, u, rfl, hc, s _ _ ha, e, rr⟩
theorem m_attr {f : Str} (hA : Att T X.K f) (ho : PE X o (liftE T X.K w F mo)) (hb : attributeBase o f X.env (eval o X.env) = eval o X.env := by rfl) : PE X (.Attribute o f pos) (liftE T X.K w F (eAttr f mo)) := by
  refine PE.weak (pe_fld ho hb) fun σ H Q ⟨env, Hf, S, R, q⟩ => ?_
  refine runE R .refl q fun r e1 Hf1 H1 S1 v R1 _ st1 t1 q1 => ?_
  cases hd : attrD e1 f r with
  | none => rw [hd] at q1; exact q1.elim
  | some d =>
    rw [hd] at q1
    have key : ∃ a c C dx gs u, v = .ref a ∧ T.cls c = some C ∧ H1 a = some (.ins C dx gs) ∧ gs.lookup f = some u ∧ Rep T X.K Hf1 d u := by
      unfold attrD at hd
      split at hd
      · obtain ⟨a, C, dx, gs, u, h⟩ := attr_rep R1.sub t1 hd; exact ⟨a, _, C, dx, gs, u, h⟩
      · obtain ⟨P, ow, _⟩ := t1
        obtain ⟨a, C, dx, gs, u, h⟩ := attr_own (t := .fz .non) ow hd; exact ⟨a, _, C, dx, gs, u, h⟩
      · rename_i i
        have ev : σ[i]? = some (some v) := t1
        split at hd
        · rename_i hs
          obtain ⟨v', P, e2, ow, _⟩ := R1.at hs
          rw [ev] at e2; cases e2
          cases ow with
          | fz rr _ => obtain ⟨a, C, dx, gs, u, h⟩ := attr_rep R1.sub rr hd; exact ⟨a, _, C, dx, gs, u, h⟩
        · rename_i hs
          obtain ⟨v', P, e2, ow, _⟩ := R1.at hs
          rw [ev] at e2; cases e2
          obtain ⟨a, C, dx, gs, u, h⟩ := attr_own (t := .fz .non) ow hd; exact ⟨a, _, C, dx, gs, u, h⟩
        · cases hd
      · cases hd
    obtain ⟨a, c, C, dx, gs, u, rfl, hc, ha, hl, rr⟩ := key
    obtain ⟨c1, c2⟩ := hA c C hc
    exact ⟨a, C, dx, gs, u, rfl, ha, c1, c2, hl, q1 Hf1 H1 S1 u R1 st1 rr⟩
end
end Mi
namespace Mi
open PySem L2
/-! ## data of dicts -/
def dgetN (kvs : List (NK × D)) (k : NK) : Option D := (kvs.find? fun kv => decide (kv.1 = k)).map (·.2)
def dputN (kvs : List (NK × D)) (k : NK) (d : D) : List (NK × D) :=
  if (kvs.any fun kv => decide (kv.1 = k)) = true then kvs.map (fun kv => if kv.1 = k then (kv.1, d) else kv) else kvs ++ [(k, d)]
def ddropN (kvs : List (NK × D)) (k : NK) : List (NK × D) := kvs.filter fun kv => decide (kv.1 ≠ k)
/-- a flat key -/
def key1 : D → Option Key
  | .int i => some (.inl i)
  | .str x => some (.inr x)
  | _ => none
def keys1 : List D → Option (List Key)
  | [] => some []
  | d :: ds => (key1 d).bind fun k => (keys1 ds).map fun ks => k :: ks
/-- the key of a dict, of flat keys or of tuples -/
def keyOf : Bool → D → Option NK
  | false, d => (key1 d).map keyN
  | true, .tup ds => (keys1 ds).map keyT
  | true, _ => none
theorem keyN_inj {a b : Key} : keyN a = keyN b ↔ a = b := by
  cases a <;> cases b <;> simp [keyN]
theorem keysN_inj : ∀ {a b : List Key}, a.map keyN = b.map keyN ↔ a = b
  | [], [] => by simp
  | [], b :: bs => by simp
  | a :: as, [] => by simp
  | a :: as, b :: bs => by
    simp only [List.map_cons, List.cons.injEq, keyN_inj, keysN_inj (a := as) (b := bs)]
theorem keyT_inj {a b : List Key} : keyT a = keyT b ↔ a = b := by
  unfold keyT
  rw [PySem.NestedKey.tup.injEq, keysN_inj]
section
variable {T : Tb} {K : PySem.W.Frag} {H Hf : Hp}
theorem key1_rep {d : D} {k : Key} {v : V} (h : key1 d = some k) (hv : View T K Hf H d v) : v = kV k := by
  cases d <;> simp only [key1, Option.some.injEq] at h <;> first | (cases h; done) | skip
  · subst h; exact hv.int
  · subst h; exact hv.str
theorem key1_repF {d : D} {k : Key} {v : V} (h : key1 d = some k) (hv : Rep T K Hf d v) : v = kV k := key1_rep (H := Hf) h (View.of_rep hv)
theorem keys1_rep : ∀ {ds : List D} {ks : List Key} {vs : List V}, keys1 ds = some ks → Reps T K Hf ds vs → vs = ks.map kV
  | [], ks, vs, h, r => by
    simp only [keys1, Option.some.injEq] at h
    subst h
    cases r; rfl
  | d :: ds, ks, vs, h, r => by
    simp only [keys1] at h
    obtain ⟨k, h1, h⟩ := Option.bind_eq_some_iff.mp h
    obtain ⟨ks', h2, rfl⟩ := Option.map_eq_some_iff.mp h
    cases r with
    | cons a b => rw [key1_repF h1 a, keys1_rep h2 b]; rfl
theorem RepK.any {kvs : List (NK × D)} {ks : List (Key × V)} (r : RepK T K H kvs ks) (k : Key) : (kvs.any fun kv => decide (kv.1 = keyN k)) = ks.any fun kv => decide (kv.1 = k) := by
  induction ks generalizing kvs with
  | nil => cases r; rfl
  | cons a as ih =>
    cases r with
    | cons x y => simp only [List.any_cons, keyN_inj, ih y]
theorem RepT.any {kvs : List (NK × D)} {ks : List (List Key × V)} (r : RepT T K H kvs ks) (k : List Key) : (kvs.any fun kv => decide (kv.1 = keyT k)) = ks.any fun kv => decide (kv.1 = k) := by
  induction ks generalizing kvs with
  | nil => cases r; rfl
  | cons a as ih =>
    cases r with
    | cons x y => simp only [List.any_cons, keyT_inj, ih y]
theorem RepK.val {kvs : List (NK × D)} {ks : List (Key × V)} (r : RepK T K H kvs ks) (k : Key) : (∀ d, dgetN kvs (keyN k) = some d → ∃ v, valV ks k = some v ∧ Rep T K H d v) ∧ (dgetN kvs (keyN k) = none → valV ks k = none) := by
  induction ks generalizing kvs with
  | nil =>
    cases r
    exact ⟨fun d h => by simp [dgetN] at h, fun _ => rfl⟩
  | cons a as ih =>
    cases r with
    | cons x y =>
      rename_i k' d' v' ds
      by_cases e : k' = k
      · subst e
        refine ⟨fun d h => ⟨v', by simp [valV], ?_⟩, fun h => ?_⟩
        · have : d' = d := by simpa [dgetN] using h
          rw [← this]; exact x
        · simp [dgetN] at h
      · have e1 : dgetN ((keyN k', d') :: ds) (keyN k) = dgetN ds (keyN k) := by simp [dgetN, List.find?_cons, keyN_inj, e]
        have e2 : valV ((k', v') :: as) k = valV as k := by simp [valV, List.find?_cons, e]
        rw [e1, e2]
        exact ih y
theorem RepT.val {kvs : List (NK × D)} {ks : List (List Key × V)} (r : RepT T K H kvs ks) (k : List Key) : (∀ d, dgetN kvs (keyT k) = some d → ∃ v, valV ks k = some v ∧ Rep T K H d v) ∧ (dgetN kvs (keyT k) = none → valV ks k = none) := by
  induction ks generalizing kvs with
  | nil =>
    cases r
    exact ⟨fun d h => by simp [dgetN] at h, fun _ => rfl⟩
  | cons a as ih =>
    cases r with
    | cons x y =>
      rename_i k' d' v' ds
      by_cases e : k' = k
      · subst e
        refine ⟨fun d h => ⟨v', by simp [valV], ?_⟩, fun h => ?_⟩
        · have : d' = d := by simpa [dgetN] using h
          rw [← this]; exact x
        · simp [dgetN] at h
      · have e1 : dgetN ((keyT k', d') :: ds) (keyT k) = dgetN ds (keyT k) := by simp [dgetN, List.find?_cons, keyT_inj, e]
        have e2 : valV ((k', v') :: as) k = valV as k := by simp [valV, List.find?_cons, e]
        rw [e1, e2]
        exact ih y
theorem RepK.snoc {kvs : List (NK × D)} {ks : List (Key × V)} (r : RepK T K H kvs ks) {k : Key} {d : D} {v : V} (rd : Rep T K H d v) : RepK T K H (kvs ++ [(keyN k, d)]) (ks ++ [(k, v)]) := by
  induction ks generalizing kvs with
  | nil => cases r; exact .cons rd .nil
  | cons a as ih => cases r with | cons x y => exact .cons x (ih y)
theorem RepT.snoc {kvs : List (NK × D)} {ks : List (List Key × V)} (r : RepT T K H kvs ks) {k : List Key} {d : D} {v : V} (rd : Rep T K H d v) : RepT T K H (kvs ++ [(keyT k, d)]) (ks ++ [(k, v)]) := by
  induction ks generalizing kvs with
  | nil => cases r; exact .cons rd .nil
  | cons a as ih => cases r with | cons x y => exact .cons x (ih y)
theorem RepK.repl {kvs : List (NK × D)} {ks : List (Key × V)} (r : RepK T K H kvs ks) {k : Key} {d : D} {v : V} (rd : Rep T K H d v) : RepK T K H (kvs.map fun kv => if kv.1 = keyN k then (kv.1, d) else kv) (ks.map fun kv => if kv.1 = k then (kv.1, v) else kv) := by
  induction ks generalizing kvs with
  | nil => cases r; exact .nil
  | cons a as ih =>
    cases r with
    | cons x y =>
      simp only [List.map_cons, keyN_inj]
      split
      · exact .cons rd (ih y)
      · exact .cons x (ih y)
theorem RepT.repl {kvs : List (NK × D)} {ks : List (List Key × V)} (r : RepT T K H kvs ks) {k : List Key} {d : D} {v : V} (rd : Rep T K H d v) : RepT T K H (kvs.map fun kv => if kv.1 = keyT k then (kv.1, d) else kv) (ks.map fun kv => if kv.1 = k then (kv.1, v) else kv) := by
  induction ks generalizing kvs with
  | nil => cases r; exact .nil
  | cons a as ih =>
    cases r with
    | cons x y =>
      simp only [List.map_cons, keyT_inj]
      split
      · exact .cons rd (ih y)
      · exact .cons x (ih y)
theorem RepK.put {kvs : List (NK × D)} {ks : List (Key × V)} (r : RepK T K H kvs ks) {k : Key} {d : D} {v : V} (rd : Rep T K H d v) : RepK T K H (dputN kvs (keyN k) d) (putK ks k v) := by
  unfold dputN putK
  rw [r.any k]
  split
  · exact r.repl rd
  · exact r.snoc rd
theorem RepT.put {kvs : List (NK × D)} {ks : List (List Key × V)} (r : RepT T K H kvs ks) {k : List Key} {d : D} {v : V} (rd : Rep T K H d v) : RepT T K H (dputN kvs (keyT k) d) (putK ks k v) := by
  unfold dputN putK
  rw [r.any k]
  split
  · exact r.repl rd
  · exact r.snoc rd
theorem RepK.drop {kvs : List (NK × D)} {ks : List (Key × V)} (r : RepK T K H kvs ks) (k : Key) : RepK T K H (ddropN kvs (keyN k)) (dropK ks k) := by
  unfold ddropN dropK
  induction ks generalizing kvs with
  | nil => cases r; exact .nil
  | cons a as ih =>
    cases r with
    | cons x y =>
      simp only [List.filter_cons, ne_eq, keyN_inj]
      split
      · exact .cons x (ih y)
      · exact ih y
end
/-! ## an object of a slot, or of a field of a slot's instance, is written -/
/-- the content of a list or dict -/
inductive CellR (T : Tb) (K : PySem.W.Frag) (Hf : Hp) : OT → HO → Prop where
  | lst {xs : List D} {vs : List V} : Reps T K Hf xs vs → CellR T K Hf (.lst xs) (.lst vs)
  | dK {kvs : List (NK × D)} {ks : List (Key × V)} : RepK T K Hf kvs ks → CellR T K Hf (.dic false kvs) (.dK ks)
  | dT {kvs : List (NK × D)} {ks : List (List Key × V)} : RepT T K Hf kvs ks → CellR T K Hf (.dic true kvs) (.dT ks)
def isCell : OT → Bool
  | .lst _ => true
  | .dic _ _ => true
  | _ => false
/-- a slot's object, or a field's -/
inductive Pl where
  | sl (i : Nat)
  | fl (i : Nat) (f : Str)
def setF (f : Str) (t : OT) : List (Str × OT) → List (Str × OT)
  | [] => [(f, t)]
  | (g, x) :: r => if g = f then (g, t) :: r else (g, x) :: setF f t r
@[simp] def getP (env : ME) : Pl → Option OT
  | .sl i => slot env i
  | .fl i f => match slot env i with
    | some (.ins _ fs) => fs.lookup f
    | _ => none
@[simp] def putP (env : ME) (t : OT) : Pl → ME
  | .sl i => env.set i (some t)
  | .fl i f => match slot env i with
    | some (.ins c fs) => env.set i (some (.ins c (setF f t fs)))
    | _ => env
def Pl.ix : Pl → Nat
  | .sl i => i
  | .fl i _ => i
section
variable {X : Cx} {T : Tb} {w : WX} {F : Pn} {K : PySem.W.Frag} {σ : St} {H Hf : Hp} {S S0 : Ad} {env e1 : ME} {Q : VK} {pos : Pos}
theorem Own.cell {t : OT} {v : V} {P : Ad} (o : Own T K Hf H t v P) (hc : isCell t = true) : ∃ a u, v = .ref a ∧ H a = some u ∧ CellR T K Hf t u ∧ ∀ b, P b ↔ b = a := by
  cases o with
  | lst h r n => exact ⟨_, _, rfl, h, .lst r, n⟩
  | dK h r n => exact ⟨_, _, rfl, h, .dK r, n⟩
  | dT h r n => exact ⟨_, _, rfl, h, .dT r, n⟩
  | fz _ _ => cases hc
  | ins _ _ _ _ _ => cases hc
theorem CellR.own {t : OT} {u : HO} {a : Addr} {P : Ad} (c : CellR T K Hf t u) (h : H a = some u) (n : ∀ b, P b ↔ b = a) : Own T K Hf H t (.ref a) P := by
  cases c with
  | lst r => exact .lst h r n
  | dK r => exact .dK h r n
  | dT r => exact .dT h r n
theorem CellR.nt {t : OT} {u : HO} (c : CellR T K Hf t u) : NT u := by
  cases c <;> exact fun _ e => (nomatch e)
theorem CellR.ni {t : OT} {u : HO} (c : CellR T K Hf t u) : ∀ C dx gs, u ≠ .ins C dx gs := by
  cases c <;> exact fun _ _ _ e => (nomatch e)
/-- one object written: the step -/
theorem step_write {a : Addr} {u u' : HO} (hf : Hf a = none) (nt : NT u') : Step (fun b => b = a) Hf H (fun b => b = a) Hf (upd H a u') :=
  ⟨Sub.refl _, fun b o e n => by rw [upd_ne n]; exact e, fun b o e => .inl e, fun b z => .inl z, dom_upd nt⟩
theorem sub_write {a : Addr} {u' : HO} (s : Sub Hf H) (hf : Hf a = none) : Sub Hf (upd H a u') := fun b o e => by
  rw [upd_ne (fun z => by subst z; rw [hf] at e; cases e)]
  exact s b o e
/-- what is known where a place's object was met: b its instance (for a field) -/
def AtP (T : Tb) (K : PySem.W.Frag) (σ : St) (H : Hp) (a : Addr) : Pl → Prop
  | .sl i => σ[i]? = some (some (.ref a))
  | .fl i f => ∃ b c C dx gs, σ[i]? = some (some (.ref b)) ∧ T.cls c = some C ∧ H b = some (.ins C dx gs) ∧ gs.lookup f = some (.ref a)
theorem setF_own {f : Str} : ∀ {ts : List (Str × OT)} {vs : List (Str × V)} {P : Ad}, OwnF T K Hf H ts vs P → ∀ {t : OT}, ts.lookup f = some t → isCell t = true → ∃ a u, vs.lookup f = some (.ref a) ∧ H a = some u ∧ CellR T K Hf t u ∧ P a ∧
    ∀ t' u', CellR T K Hf t' u' → OwnF T K Hf (upd H a u') (setF f t' ts) vs P
  | _, _, _, .nil _, t, h, _ => by simp at h
  | _, _, _, .cons (f := g) (S1 := S1) (S2 := S2) o r z n, t, h, hc => by
    by_cases e : f = g
    · subst e
      simp only [List.lookup_cons_self, Option.some.injEq] at h
      subst h
      obtain ⟨a, u, rfl, ha, c, na⟩ := o.cell hc
      have s1 : S1 a := (na a).mpr rfl
      refine ⟨a, u, by simp only [List.lookup_cons_self], ha, c, (n a).mpr (.inl s1), fun t' u' c' => ?_⟩
      simp only [setF, if_pos]
      exact .cons (c'.own upd_same na) (r.move (Sub.refl _) fun b ob q eb => by
        rw [upd_ne (fun zz => by subst zz; exact z b s1 q)]; exact eb) z n
    · have hb : (f == g) = false := beq_eq_false_iff_ne.mpr e
      rw [List.lookup_cons, hb] at h
      obtain ⟨a, u, e1, ha, c, pa, k⟩ := setF_own r h hc
      refine ⟨a, u, by rw [List.lookup_cons, hb]; exact e1, ha, c, (n a).mpr (.inr pa), fun t' u' c' => ?_⟩
      simp only [setF, if_neg (Ne.symm e)]
      exact .cons (o.move (Sub.refl _) fun b ob q eb => by
        rw [upd_ne (fun zz => by subst zz; exact z b q pa)]; exact eb) (k t' u' c') z n
/-- THE WRITE -/
theorem Rel.cell (R : Rel T K F env σ Hf H S) {pl : Pl} {t : OT} (h : getP env pl = some t) (hc : isCell t = true) : ∃ a u, AtP T K σ H a pl ∧ H a = some u ∧ CellR T K Hf t u ∧
    ∀ t' u', CellR T K Hf t' u' → ∃ S', Rel T K F (putP env t' pl) σ Hf (upd H a u') S' ∧ Step S Hf H S' Hf (upd H a u') := by
  cases pl with
  | sl i =>
    obtain ⟨v, P, e, o, hP, mu⟩ := R.mut (i := i) h
    obtain ⟨a, u, rfl, ha, c, n⟩ := o.cell hc
    have hf : Hf a = none := R.owned a (hP a ((n a).mpr rfl))
    have eP : P = fun b => b = a := by funext b; exact propext (n b)
    refine ⟨a, u, e, ha, c, fun t' u' c' => ⟨_, mu (Hf' := Hf) (H' := upd H a u') (t' := t') (P' := fun b => b = a) (eP ▸ step_write (u := u) hf c'.nt) (sub_write R.sub hf) R.nod (c'.own upd_same fun _ => Iff.rfl) (fun b z => by rw [z]; exact hf) fun p hp => ?_⟩⟩
    exact upd_ne fun z => by
      have e1 := R.stand p hp
      rw [z, ha] at e1
      exact c.ni _ _ _ (Option.some.inj e1)
  | fl i f =>
    simp only [getP] at h
    cases hs : slot env i with
    | none => rw [hs] at h; cases h
    | some x =>
      rw [hs] at h
      cases x with
      | ins cn fs =>
        simp only at h
        obtain ⟨v, P, e, o, hP, mu⟩ := R.mut (i := i) hs
        cases o with
        | ins hcl hb r nb n =>
          rename_i b C dx gs S1
          obtain ⟨a, u, el, ha, c, pa, k⟩ := setF_own r h hc
          have hpa : P a := (n a).mpr (.inr pa)
          have hf : Hf a = none := R.owned a (hP a hpa)
          have nab : b ≠ a := fun z => nb (z ▸ pa)
          refine ⟨a, u, ⟨b, cn, C, dx, gs, e, hcl, hb, el⟩, ha, c, fun t' u' c' => ?_⟩
          have st : Step P Hf H P Hf (upd H a u') := ((step_write (H := H) (u := u) hf c'.nt).weakS (S0 := P) fun z hz => hz ▸ hpa).any fun z hz => .inl hz
          obtain ⟨R', st'⟩ := mu (Hf' := Hf) (H' := upd H a u') (t' := .ins cn (setF f t' fs)) (P' := P) st (sub_write R.sub hf) R.nod (.ins hcl (by rw [upd_ne nab]; exact hb) (k t' u' c') nb n) (fun z hz => R.owned z (hP z hz)) fun p hp => by
            exact upd_ne fun z => by
              have e1 := R.stand p hp
              rw [z, ha] at e1
              exact c.ni _ _ _ (Option.some.inj e1)
          refine ⟨_, ?_, st'⟩
          simp only [putP, hs]
          exact R'
      | _ => simp only at h; cases h
/-- the place is still where it was -/
theorem AtP.same (R : Rel T K F env σ Hf H S) {pl : Pl} {a b : Addr} {H1 : Hp} (h1 : AtP T K σ H1 a pl) (h2 : AtP T K σ H b pl) (hs : ∀ i f c, pl = .fl i f → σ[i]? = some (some (.ref c)) → ∀ C dx gs, H1 c = some (.ins C dx gs) → H c = some (.ins C dx gs)) : a = b := by
  cases pl with
  | sl i =>
    have e1 : σ[i]? = some (some (.ref a)) := h1
    have e2 : σ[i]? = some (some (.ref b)) := h2
    rw [e1] at e2; cases e2; rfl
  | fl i f =>
    obtain ⟨c, x, C, dx, gs, p1, p2, p3, p4⟩ := h1
    obtain ⟨c', x', C', dx', gs', q1, q2, q3, q4⟩ := h2
    rw [p1] at q1; cases q1
    have e := hs i f c rfl p1 C dx gs p3
    rw [e] at q3; cases q3
    rw [p4] at q4; cases q4; rfl
/-- fewer pins -/
theorem Rel.unpin {hp : List (Addr × Addr × Addr × List (Str × V))} (R : Rel T K ⟨F.sl, hp⟩ env σ Hf H S) (h : ∀ p ∈ F.hp, p ∈ hp) : Rel T K F env σ Hf H S := ⟨R.sub, R.nod, R.len, R.cells, R.owned, R.there, R.pins, fun p z => R.stand p (h p z)⟩
/-- the instance of a place is pinned -/
theorem Rel.pinP (R : Rel T K F env σ Hf H S) {pl : Pl} {a : Addr} (h : AtP T K σ H a pl) : ∃ hp, (∀ p ∈ F.hp, p ∈ hp) ∧ Rel T K ⟨F.sl, hp⟩ env σ Hf H S ∧
    ∀ {env' : ME} {Hf' H' : Hp} {S' : Ad}, Rel T K ⟨F.sl, hp⟩ env' σ Hf' H' S' → ∀ i f c, pl = .fl i f → σ[i]? = some (some (.ref c)) → ∀ C dx gs, H c = some (.ins C dx gs) → H' c = some (.ins C dx gs) := by
  cases pl with
  | sl i => exact ⟨F.hp, fun p h => h, R, fun _ i f c e => nomatch e⟩
  | fl i f =>
    obtain ⟨b, x, C, dx, gs, p1, p2, p3, p4⟩ := h
    refine ⟨(b, C, dx, gs) :: F.hp, fun p h => List.mem_cons_of_mem _ h, ⟨R.sub, R.nod, R.len, R.cells, R.owned, R.there, R.pins, fun p hp => ?_⟩, fun R' i' f' c e ec C' dx' gs' hc => ?_⟩
    · rcases List.mem_cons.mp hp with z | z
      · subst z; exact p3
      · exact R.stand p z
    · cases e
      rw [p1] at ec; cases ec
      rw [p3] at hc; cases hc
      exact R'.stand (b, C, dx, gs) (by simp)
/-- how a place's object is met -/
structure PlE (X : Cx) (T : Tb) (o : Expr) (pl : Pl) where
  te : TE
  pe : PE X o te
  run : ∀ {σ : St} {H : Hp} {a : Addr} {Q : VK}, AtP T X.K σ H a pl → Q (.ref a) H → te σ H Q
def pl_sl {i : Nat} {x : Str} (hN : X.N[i]? = some x) (hv : Vis X.env.scope x) (hd : (x == ("__debug__" : Str)) = false := by decide) (hcd : (x == ("__classdict__" : Str)) = false := by decide) : PlE X T (.Name x pos) (.sl i) where
  te := tVar i
  pe := pe_var hN hv hd hcd
  run := fun h q => ⟨_, h, q⟩
def pl_fl {i : Nat} {x : Str} {f : Str} {pos' : Pos} (hA : Att T X.K f) (hN : X.N[i]? = some x) (hv : Vis X.env.scope x) (hb : attributeBase (.Name x pos') f X.env (eval (.Name x pos') X.env) = eval (.Name x pos') X.env := by rfl) (hd : (x == ("__debug__" : Str)) = false := by decide) (hcd : (x == ("__classdict__" : Str)) = false := by decide) : PlE X T (.Attribute (.Name x pos') f pos) (.fl i f) where
  te := tFld X.K (tVar i) f
  pe := pe_fld (pe_var hN hv hd hcd) hb
  run := fun ⟨b, c, C, dx, gs, h1, h2, h3, h4⟩ q => ⟨.ref b, h1, b, C, dx, gs, _, rfl, h3, (hA c C h2).1, (hA c C h2).2, h4, q⟩
/-- an expression that runs beside a place's object: whatever is pinned for a field, for a slot just F -/
def PinE (X : Cx) (T : Tb) (w : WX) (F : Pn) (pl : Pl) (e : Expr) (m : EM) : Prop := match pl with
  | .sl _ => PE X e (liftE T X.K w F m)
  | .fl _ _ => ∀ hp, PE X e (liftE T X.K w ⟨F.sl, hp⟩ m)
/-! ### statements that write -/
def liftX (T : Tb) (K : PySem.W.Frag) (w : WX) (F : Pn) (pl : Pl) (m : EM) : TE := match pl with
  | .sl _ => liftE T K w F m
  | .fl _ _ => fun σ H Q => ∃ hp, liftE T K w ⟨F.sl, hp⟩ m σ H Q
theorem PinE.pe {pl : Pl} {e : Expr} {m : EM} (he : PinE X T w F pl e m) : PE X e (liftX T X.K w F pl m) := by
  cases pl with
  | sl i => exact he
  | fl i f => exact ⟨fun pins s σ H Q I ⟨hp, q⟩ => (he hp).run pins s σ H Q I q⟩
/-- an expression beside a place, then a statement's end -/
theorem runPin {pl : Pl} {m : EM} {f : ER → ME → SR} {k : VK} {a : Addr} {D : Ends} {Hf0 H0 : Hp} (hat : AtP T K σ H a pl) (R : Rel T K F env σ Hf H S) (st : Step S0 Hf0 H0 S Hf H) (q : EndS T K w F S0 Hf0 H0 D (ofRes (m env) f))
    (h : ∀ r e1 Hf1 H1 S1 v, Rel T K F e1 σ Hf1 H1 S1 → Step S Hf H S1 Hf1 H1 → Step S0 Hf0 H0 S1 Hf1 H1 → TRel T K e1 σ Hf1 H1 S1 S H r v → (∀ {b : Addr}, AtP T K σ H1 b pl → a = b) → EndS T K w F S0 Hf0 H0 D (f r e1) → k v H1) : liftX T K w F pl m σ H k := by
  obtain ⟨hp, sub, R', keep⟩ := R.pinP hat
  cases pl with
  | sl i =>
    refine ⟨env, Hf, S, R, ?_⟩
    cases hm : m env with
    | bad => rw [hm] at q; exact q.elim
    | exc c fs e => rw [hm] at q; exact ExcEnd.step q st
    | ok r e =>
      rw [hm] at q
      exact fun Hf1 H1 S1 v R1 st1 t => h r e Hf1 H1 S1 v R1 st1 (st.trans st1) t (fun hb => AtP.same R1 hat hb fun _ _ _ z => nomatch z) q
  | fl i f =>
    refine ⟨hp, env, Hf, S, R', ?_⟩
    cases hm : m env with
    | bad => rw [hm] at q; exact q.elim
    | exc c fs e => rw [hm] at q; exact fun cls d σ' Hf' H' S' R2 st' x => q cls d σ' Hf' H' S' (R2.unpin sub) (st.trans st') x
    | ok r e =>
      rw [hm] at q
      exact fun Hf1 H1 S1 v R1 st1 t => h r e Hf1 H1 S1 v (R1.unpin sub) st1 (st.trans st1) t (fun hb => AtP.same (R1.unpin sub) hat hb (keep R1)) q
def isLst : Option OT → Bool
  | some (.lst _) => true
  | _ => false
def sApp (pl : Pl) (m : EM) : SM := fun env => if isLst (getP env pl) = true then ofRes (m env) (fun r e => match r, getP e pl with
  | .fz d, some (.lst xs) => if xs.length < 16777216 then .nx (putP e (.lst (xs ++ [d])) pl) else .bad
  | _, _ => .bad) else .bad
def sExt (pl : Pl) (m : EM) : SM := fun env => if isLst (getP env pl) = true then ofRes (m env) (fun r e => match r, getP e pl with
  | .new (.lst ys), some (.lst xs) => if xs.length + ys.length ≤ 16777216 then .nx (putP e (.lst (xs ++ ys)) pl) else .bad
  | _, _ => .bad) else .bad
theorem isLst_of {o : Option OT} (h : isLst o = true) : ∃ xs, o = some (.lst xs) := by
  unfold isLst at h
  split at h
  · exact ⟨_, rfl⟩
  · cases h
theorem CellR.lst_of {xs : List D} {u : HO} (c : CellR T K Hf (.lst xs) u) : ∃ vs, u = .lst vs ∧ Reps T K Hf xs vs := by
  cases c with | lst r => exact ⟨_, rfl, r⟩
variable {o e : Expr} {pl : Pl} {m : EM} {apos cpos : Pos}
theorem m_app (P : PlE X T o pl) (he : PinE X T w F pl e m) (hbase : attributeBase o "append" X.env (eval o X.env) = eval o X.env := by rfl)
    (hfew : ((backTo cpos (starEach [e] X.env)).all (fun x => !x.1) && (backToKw cpos (keywordEach [] X.env)).all (fun x => x.1.isSome) && decide ([e].length + ([] : List Keyword).length + (if ([] : List Keyword).isEmpty then 0 else 1) < 30)) = true := by rfl)
    (hline : (apos.endLine == cpos.line) = true := by rfl) (hst : starEach [e] X.env = (false, eval e X.env) :: starEach [] X.env := by rfl) (hpl : (backTo cpos (starEach [] X.env)).any (·.1) = false := by rfl)
    (hs : swapsWith (.Call (.Attribute o "append" apos) [e] [] cpos) none pos.line X.env = pure false := by rfl) : PS X (.Expr (.Call (.Attribute o "append" apos) [e] [] cpos) pos) (liftS T X.K w F (sApp pl m)) := by
  refine PS.weak (ps_expr (pe_bm PySem.F.plainAttrs_list PySem.F.slot_list_append PySem.F.type_list_append mt_append P.pe (pa_cons he.pe pa_nil hst) hbase hfew hline hst hpl) hs) fun D σ H ⟨env, Hf, S, R, q⟩ => ?_
  simp only [sApp] at q
  split at q
  · rename_i hl
    obtain ⟨xs0, hx0⟩ := isLst_of hl
    obtain ⟨a, u, hat, ha, c, _⟩ := R.cell hx0 rfl
    obtain ⟨vs0, rfl, _⟩ := c.lst_of
    refine P.run hat ⟨.inl ⟨rfl, _, SqL.of ha⟩, ?_⟩
    refine runPin hat R .refl q fun r e1 Hf1 H1 S1 v R1 _ st1 t same q1 => ?_
    split at q1
    · rename_i d xs hx
      split at q1
      · rename_i hlen
        obtain ⟨b, u, hb, hu, c1, wr⟩ := R1.cell hx rfl
        obtain rfl := same hb
        obtain ⟨vs, rfl, rs⟩ := c1.lst_of
        obtain ⟨S', R2, st2⟩ := wr (.lst (xs ++ [d])) (.lst (vs ++ [v])) (.lst (rs.app (.cons t .nil)))
        exact ⟨a, vs, v, rfl, rfl, hu, by rw [← rs.length, sizeLine_eq]; exact hlen, q1 σ Hf1 _ S' R2 (st1.trans st2)⟩
      · exact q1.elim
    · exact q1.elim
  · exact q.elim
theorem m_ext (P : PlE X T o pl) (he : PinE X T w F pl e m) (hbase : attributeBase o "extend" X.env (eval o X.env) = eval o X.env := by rfl)
    (hfew : ((backTo cpos (starEach [e] X.env)).all (fun x => !x.1) && (backToKw cpos (keywordEach [] X.env)).all (fun x => x.1.isSome) && decide ([e].length + ([] : List Keyword).length + (if ([] : List Keyword).isEmpty then 0 else 1) < 30)) = true := by rfl)
    (hline : (apos.endLine == cpos.line) = true := by rfl) (hst : starEach [e] X.env = (false, eval e X.env) :: starEach [] X.env := by rfl) (hpl : (backTo cpos (starEach [] X.env)).any (·.1) = false := by rfl)
    (hs : swapsWith (.Call (.Attribute o "extend" apos) [e] [] cpos) none pos.line X.env = pure false := by rfl) : PS X (.Expr (.Call (.Attribute o "extend" apos) [e] [] cpos) pos) (liftS T X.K w F (sExt pl m)) := by
  refine PS.weak (ps_expr (pe_bm PySem.F.plainAttrs_list PySem.F.slot_list_extend PySem.F.type_list_extend mt_extend P.pe (pa_cons he.pe pa_nil hst) hbase hfew hline hst hpl) hs) fun D σ H ⟨env, Hf, S, R, q⟩ => ?_
  simp only [sExt] at q
  split at q
  · rename_i hl
    obtain ⟨xs0, hx0⟩ := isLst_of hl
    obtain ⟨a, u, hat, ha, c, _⟩ := R.cell hx0 rfl
    obtain ⟨vs0, rfl, _⟩ := c.lst_of
    refine P.run hat ⟨.inl ⟨rfl, _, SqL.of ha⟩, ?_⟩
    refine runPin hat R .refl q fun r e1 Hf1 H1 S1 v R1 _ st1 t same q1 => ?_
    split at q1
    · rename_i ys xs hx
      split at q1
      · rename_i hlen
        obtain ⟨b, u, hb, hu, c1, wr⟩ := R1.cell hx rfl
        obtain rfl := same hb
        obtain ⟨vs, rfl, rs⟩ := c1.lst_of
        obtain ⟨P', ow, _⟩ := t
        cases ow with
        | lst hb' rs' _ =>
          obtain ⟨S', R2, st2⟩ := wr (.lst (xs ++ ys)) (.lst (vs ++ _)) (.lst (rs.app rs'))
          exact ⟨a, _, vs, _, rfl, rfl, hu, hb', by rw [← rs.length, ← rs'.length, sizeLine_eq]; exact hlen, q1 σ Hf1 _ S' R2 (st1.trans st2)⟩
      · exact q1.elim
    · exact q1.elim
  · exact q.elim
/-! ### x[k] = v -/
theorem PSet.or {t1 t2 : TSet} (h1 : PSet X t1) (h2 : PSet X t2) : PSet X (fun o i v H Q => t1 o i v H Q ∨ t2 o i v H Q) := fun pins s σ H o i v ov iv u Q I ro ri rv h => by
  rcases h with h | h
  · exact h1 pins s σ H o i v ov iv u Q I ro ri rv h
  · exact h2 pins s σ H o i v ov iv u Q I ro ri rv h
def rSetD : TSet := fun o i v H Q => ∃ a H', o = .ref a ∧ DPut H a i v H' ∧ Q H'
theorem set_dict (hu : X.A.units + 1 < cLine) : PSet X rSetD := fun pins s σ H o i v ov iv u Q I ro ri rv ⟨a, H', eo, dp, q⟩ => by
  subst eo
  obtain rfl : ov = Value.ref a := ro
  exact d_setItem hu I dp ri rv fun s' I' => ⟨H', I', q⟩
def putItem : OT → D → D → Option OT
  | .lst xs, .int i, d => (ixN xs.length i).map fun j => .lst (xs.set j d)
  | .dic b kvs, k, d => (keyOf b k).bind fun k => if kvs.length < 16777216 then some (.dic b (dputN kvs k d)) else none
  | _, _, _ => none
def sSub (pl : Pl) (mk mv : EM) : SM := fun env => ofRes (mv env) fun r e1 => match r with
  | .fz d => (match getP e1 pl with
    | some t0 => if isCell t0 = true then ofRes (mk e1) (fun rk e2 => match viewD e2 rk, getP e2 pl with
      | some k, some t => (match putItem t k d with
        | some t' => .nx (putP e2 t' pl)
        | none => .bad)
      | _, _ => .bad) else .bad
    | none => .bad)
  | _ => .bad
theorem putItem_cell {t t' : OT} {k d : D} (h : putItem t k d = some t') : isCell t = true := by
  unfold putItem at h
  split at h
  · rfl
  · rfl
  · cases h
theorem putItem_ok {t t' : OT} {k d : D} {u : HO} {a : Addr} {kv v : V} {Q : Hp → Prop} (sub : Sub Hf H) (ha : H a = some u) (c : CellR T K Hf t u) (hk : View T K Hf H k kv) (hv : Rep T K Hf d v) (h : putItem t k d = some t') (q : ∀ u', CellR T K Hf t' u' → Q (upd H a u')) :
    rSetL (.ref a) kv v H Q ∨ rSetD (.ref a) kv v H Q := by
  unfold putItem at h
  split at h
  · rename_i xs i d
    obtain ⟨j, hj, rfl⟩ := Option.map_eq_some_iff.mp h
    obtain ⟨vs, rfl, rs⟩ := c.lst_of
    left
    exact ⟨a, vs, _, j, rfl, hk.int, ha, by rw [← rs.length]; exact hj, q _ (.lst (rs.set hv j))⟩
  · rename_i b kvs k d
    obtain ⟨kk, hkk, h⟩ := Option.bind_eq_some_iff.mp h
    split at h
    · rename_i hl
      cases h
      right
      cases c with
      | dK r =>
        simp only [keyOf] at hkk
        obtain ⟨k1, h1, rfl⟩ := Option.map_eq_some_iff.mp hkk
        have e := key1_rep h1 hk
        subst e
        exact ⟨a, _, rfl, DPut.k ha (by rw [← r.length, sizeLine_eq]; exact hl), q _ (.dK (r.put hv))⟩
      | dT r =>
        simp only [keyOf] at hkk
        cases k with
        | tup ds =>
          simp only at hkk
          obtain ⟨k1, h1, rfl⟩ := Option.map_eq_some_iff.mp hkk
          obtain ⟨b, vs, rfl, hs, rr⟩ := hk.tup
          have e := keys1_rep h1 rr
          subst e
          have hb : H b = some (.tup (k1.map kV)) := sub _ _ hs
          exact ⟨a, _, rfl, DPut.t ha hb (by rw [← r.length, sizeLine_eq]; exact hl), q _ (.dT (r.put hv))⟩
        | _ => simp only at hkk; cases hkk
    · cases h
  · cases h
variable {mk mv : EM} {k v : Expr}
theorem m_sub (hu : X.A.units + 1 < cLine) (P : PlE X T o pl) (hk : PinE X T w F pl k mk) (hv : PE X v (liftE T X.K w F mv)) (hs : swapsWithSole [.Subscript o k cpos] v pos.line X.env = pure false := by rfl) (hw : swappedStores [.Subscript o k cpos] v X.env = pure none := by rfl)
    (h1 : (assignEach [.Subscript o k cpos] X.env).map (·.2) = [assign (.Subscript o k cpos) X.env] := by rfl)
    (ha : ∀ u, assign (.Subscript o k cpos) X.env u = (holding [u] (eval o X.env) >>= fun ov => holding [u, ov] (eval k X.env) >>= fun iv => standAt cpos >>= fun _ => holding [u, ov, iv] (setItem ov iv u) >>= fun _ => release [u, ov, iv] []) := by intro _; rfl) :
    PS X (.Assign [.Subscript o k cpos] v pos) (liftS T X.K w F (sSub pl mk mv)) := by
  refine PS.weak (ps_asg hv (pg_sub P.pe hk.pe (PSet.or set_list (set_dict hu)) ha) hs hw h1) fun D σ H ⟨env, Hf, S, R, q⟩ => ?_
  refine runES R .refl q fun r e1 Hf1 H1 S1 x R1 st1 t q1 => ?_
  cases r with
  | new _ => exact q1.elim
  | bor _ => exact q1.elim
  | fz d =>
    cases hg : getP e1 pl with
    | none => simp only [hg] at q1; exact q1.elim
    | some t0 =>
      simp only [hg] at q1
      split at q1
      · rename_i hc
        obtain ⟨a, u, hat, hau, c, _⟩ := R1.cell hg hc
        refine P.run hat ?_
        refine runPin hat R1 st1 q1 fun rk e2 Hf2 H2 S2 kv R2 st12 st2 tk same q2 => ?_
        split at q2
        · rename_i kd tt hkd htt
          split at q2
          · rename_i t' hp
            have hcell := putItem_cell hp
            obtain ⟨b, u, hb, hu', c1, wr⟩ := R2.cell htt hcell
            obtain rfl := same hb
            have hd : Rep T X.K Hf2 d x := Rep.mono st12.fz t
            refine putItem_ok R2.sub hu' c1 (tk.view R2 hkd) hd hp fun u' c' => ?_
            obtain ⟨S', R3, st3⟩ := wr t' u' c'
            exact q2 σ Hf2 _ S' R3 (st2.trans st3)
          · exact q2.elim
        · exact q2.elim
      · exact q1.elim
/-! ### x += e, o.f = e, o.f += e -/
def augV (g : Int → Int → Int) : Option OT → Option D → Option D
  | some (.fz (.int a)), some (.int b) => some (.int (g a b))
  | _, _ => none
def sAug (g : Int → Int → Int) (i : Nat) (m : EM) : SM := fun env => match slot env i with
  | some (.fz (.int a)) => ofRes (m env) fun r e => if i < e.length then (match viewD e r with
    | some (.int b) => .nx (e.set i (some (.fz (.int (g a b)))))
    | _ => .bad) else .bad
  | _ => .bad
theorem m_aug {op : Operator} {g : Int → Int → Int} {i : Nat} {x : Str} {pos' : Pos} (hp : PIp X op (ipI g)) (hN : X.N.Nodup) (hi : X.N[i]? = some x) (hx : Loc X.env.scope x) (hF : (F.sl.all fun p => p.1 != i) = true) (he : PE X e (liftE T X.K w F m)) (hf : X.fn x = true ∨ X.env.scope.names.lookup x = some .local := by first | exact .inl rfl | exact .inr rfl | assumption) :
    PS X (.AugAssign (.Name x pos') op e pos) (liftS T X.K w F (sAug g i m)) := by
  refine PS.weak (ps_aug hN hi hx he hp hf) fun D σ H ⟨env, Hf, S, R, q⟩ => ?_
  simp only [sAug] at q
  split at q
  · rename_i a hs
    obtain ⟨v, P, ev, o, _⟩ := R.at hs
    have evv : v = .int a := by cases o with | fz r _ => cases r; rfl
    subst evv
    refine ⟨_, ev, runES R .refl q fun r e1 Hf1 H1 S1 y R1 st1 t q1 => ?_⟩
    split at q1
    · rename_i hl
      split at q1
      · rename_i b hb
        exact ⟨a, b, rfl, (t.view R1 hb).int, q1 _ Hf1 H1 S1 (R1.setFz (.int _) hl (notPin hF)) st1⟩
      · exact q1.elim
    · exact q1.elim
  · exact q.elim
theorem setF_put {f : Str} {t : OT} {v : V} {P2 : Ad} (o : Own T K Hf H t v P2) : ∀ {ts : List (Str × OT)} {vs : List (Str × V)} {P : Ad}, OwnF T K Hf H ts vs P → (∀ a, P a → P2 a → False) → ∃ P3, OwnF T K Hf H (setF f t ts) (putF f v vs) P3 ∧ ∀ a, P3 a → P a ∨ P2 a
  | _, _, _, .nil n, d => ⟨P2, .cons (S2 := No) o (.nil fun _ h => h) (fun _ _ h => h) fun a => by simp, fun a h => .inr h⟩
  | _, _, _, .cons (f := g) (S1 := S1) (S2 := S2) x r z n, d => by
    by_cases e : g = f
    · subst e
      simp only [setF, putF, if_pos]
      exact ⟨fun a => P2 a ∨ S2 a, .cons o r (fun a h1 h2 => d a ((n a).mpr (.inr h2)) h1) fun a => Iff.rfl, fun a h => h.elim .inr fun h => .inl ((n a).mpr (.inr h))⟩
    · obtain ⟨P3, r', h3⟩ := setF_put o (f := f) r fun a h => d a ((n a).mpr (.inr h))
      simp only [setF, putF, if_neg e]
      exact ⟨fun a => S1 a ∨ P3 a, .cons x r' (fun a h1 h2 => (h3 a h2).elim (z a h1) fun h => d a ((n a).mpr (.inl h1)) h) fun a => Iff.rfl, fun a h => h.elim (fun h => .inl ((n a).mpr (.inl h))) fun h => (h3 a h).imp (fun h => (n a).mpr (.inr h)) id⟩
theorem OwnF.length : ∀ {ts : List (Str × OT)} {vs : List (Str × V)} {P : Ad}, OwnF T K Hf H ts vs P → ts.length = vs.length
  | _, _, _, .nil _ => rfl
  | _, _, _, .cons _ r _ _ => congrArg (· + 1) r.length
def erOT : ER → Option OT
  | .fz d => some (.fz d)
  | .new t => some t
  | .bor _ => none
def sFldM (i : Nat) (f : Str) (m : EM) : SM := fun env => ofRes (m env) fun r e => match slot e i, erOT r with
  | some (.ins c fs), some t => if fs.length < 1000 then .nx (e.set i (some (.ins c (setF f t fs)))) else .bad
  | _, _ => .bad
/-- an instance's attribute is stored -/
theorem Rel.fld {S0 : Ad} {H0 : Hp} (R : Rel T K F env σ Hf H S) {i : Nat} {f : Str} {c : Str} {fs : List (Str × OT)} {t : OT} {r : ER} {v : V} (hh : F.hp = []) (hs : slot env i = some (.ins c fs)) (ht : erOT r = some t) (tr : TRel T K env σ Hf H S S0 H0 r v) : ∃ a C dx gs, σ[i]? = some (some (.ref a)) ∧ T.cls c = some C ∧ H a = some (.ins C dx gs) ∧ gs.length = fs.length ∧
    (∀ d, fs.lookup f = some (.fz d) → ∃ u, gs.lookup f = some u ∧ Rep T K Hf d u) ∧
    ∃ S', Rel T K F (env.set i (some (.ins c (setF f t fs)))) σ Hf (upd H a (.ins C dx (putF f v gs))) S' ∧ ∀ {S1 : Ad} {Hf1 H1 : Hp}, Step S1 Hf1 H1 S Hf H → (∀ a, S0 a → S1 a ∨ H1 a = none) → (∀ a, H0 a = none → H1 a = none) → Step S1 Hf1 H1 S' Hf (upd H a (.ins C dx (putF f v gs))) := by
  obtain ⟨P2, o2, h2, h3⟩ : ∃ P2, Own T K Hf H t v P2 ∧ (∀ a, P2 a → ¬ S a ∧ Hf a = none) ∧ ∀ a, P2 a → H0 a = none ∨ S0 a := by
    cases r with
    | fz d => cases ht; exact ⟨No, .fz tr fun _ h => h, fun _ h => h.elim, fun _ h => h.elim⟩
    | new u => cases ht; obtain ⟨P, o, h⟩ := tr; exact ⟨P, o, fun a z => (h a z).2, fun a z => (h a z).1⟩
    | bor j => cases ht
  obtain ⟨w', P, e, o, hP, mu⟩ := R.mutG hs
  cases o with
  | ins hc ha rr nb n =>
    rename_i a C dx gs P1
    have hpa : P a := (n a).mpr (.inl rfl)
    have hf : Hf a = none := R.owned a (hP a hpa)
    have na : ∀ b, P1 b → b ≠ a := fun b z y => nb (y ▸ z)
    have n2 : ∀ b, P2 b → b ≠ a := fun b z y => (h2 b z).1 (y ▸ hP a hpa)
    have keep : ∀ b o', b ≠ a → H b = some o' → upd H a (.ins C dx (putF f v gs)) b = some o' := fun b o' z q => by rw [upd_ne z]; exact q
    obtain ⟨P3, r3, h4⟩ := setF_put (f := f) (o2.move (Sub.refl _) fun b ob z q => keep b ob (n2 b z) q) (rr.move (Sub.refl _) fun b ob z q => keep b ob (na b z) q) fun b z y => (h2 b y).1 (hP b ((n b).mpr (.inr z)))
    have a3 : ¬ P3 a := fun z => (h4 a z).elim nb fun y => n2 a y rfl
    refine ⟨a, C, dx, gs, e, hc, ha, rr.length.symm, fun d hl => ?_, ?_⟩
    · obtain ⟨u, P', e1, o1, _⟩ := rr.look hl
      cases o1 with | fz r1 _ => exact ⟨u, e1, r1⟩
    · have st0 : Step P Hf H P Hf (upd H a (.ins C dx (putF f v gs))) := ⟨Sub.refl _, fun b ob q z => keep b ob (fun y => z (y ▸ hpa)) q, fun b ob q => .inl q, fun b z => .inl z, dom_upd fun _ z => (nomatch z)⟩
      have sb : Sub Hf (upd H a (.ins C dx (putF f v gs))) := fun b ob q => keep b ob (fun y => by subst y; rw [hf] at q; cases q) (R.sub b ob q)
      have h5 : ∀ b, (b = a ∨ P3 b) → P b ∨ P2 b := fun b z => z.elim (fun y => .inl (y ▸ hpa)) fun y => (h4 b y).imp (fun y => (n b).mpr (.inr y)) id
      have R' := mu (Hf' := Hf) (H' := upd H a (.ins C dx (putF f v gs))) (t' := .ins c (setF f t fs)) (P' := fun b => b = a ∨ P3 b) st0 (fun b z => (h5 b z).imp id fun y => .inr (h2 b y).1) sb R.nod (.ins hc upd_same r3 a3 fun b => Iff.rfl) (fun b z => (h5 b z).elim (fun y => R.owned b (hP b y)) fun y => (h2 b y).2) (by rw [hh]; intro p hp; cases hp)
      refine ⟨_, R', fun {S1 Hf1 H1} x k1 k2 => x.mutd st0 hP fun b z => (h5 b z).imp id fun y => ?_⟩
      rcases h3 b y with z | z
      · exact .inr (k2 b z)
      · exact k1 b z
theorem m_fld {i : Nat} {x : Str} {f : Str} {pn pos' : Pos} (hA : Att T X.K f) (hN : X.N[i]? = some x) (hv : Vis X.env.scope x) (hh : F.hp = []) (he : PE X e (liftE T X.K w F m)) (hs : swapsWith e (some (.Attribute (.Name x pn) f pos')) pos.line X.env = pure false := by rfl) (hd : (x == ("__debug__" : Str)) = false := by decide) (hcd : (x == ("__classdict__" : Str)) = false := by decide) :
    PS X (.Assign [.Attribute (.Name x pn) f pos'] e pos) (liftS T X.K w F (sFldM i f m)) := by
  refine PS.weak (ps_fld (pe_var hN hv hd hcd) he hs) fun D σ H ⟨env, Hf, S, R, q⟩ => ?_
  refine runES R .refl q fun r e1 Hf1 H1 S1 y R1 st1 t q1 => ?_
  split at q1
  · rename_i c fs u hsl hu
    split at q1
    · rename_i hl
      obtain ⟨a, C, dx, gs, ev, hc, ha, len, _, S', R2, st2⟩ := R1.fld hh hsl hu t
      obtain ⟨c1, c2⟩ := hA c C hc
      exact ⟨_, ev, a, C, dx, gs, rfl, ha, c1, c2, by rw [len]; exact hl, q1 σ Hf1 _ S' R2 (st2 st1 (fun a z => .inl z) fun a z => z)⟩
    · exact q1.elim
  · exact q1.elim
/-- o.f += e, of ints -/
def sFldAugM (g : Int → Int → Int) (i : Nat) (f : Str) (m : EM) : SM := fun env => match slot env i with
  | some (.ins c fs) => (match fs.lookup f with
    | some (.fz (.int a)) => ofRes (m env) (fun r e => match slot e i, viewD e r with
      | some (.ins c' fs'), some (.int b) => if c' = c ∧ fs'.length < 1000 then .nx (e.set i (some (.ins c' (setF f (.fz (.int (g a b))) fs')))) else .bad
      | _, _ => .bad)
    | _ => .bad)
  | _ => .bad
theorem m_fldaug {op : Operator} {g : Int → Int → Int} {i : Nat} {x : Str} {f : Str} {pn pos' : Pos} (hop : InOp X op (rI0 fun a b => .int (g a b))) (hA : Att T X.K f) (hN : X.N[i]? = some x) (hv : Vis X.env.scope x) (hh : F.hp = []) (he : PE X e (liftE T X.K w F m)) (hd : (x == ("__debug__" : Str)) = false := by decide) (hcd : (x == ("__classdict__" : Str)) = false := by decide) :
    PS X (.AugAssign (.Attribute (.Name x pn) f pos') op e pos) (liftS T X.K w F (sFldAugM g i f m)) := by
  refine PS.weak (ps_fldaug (pe_var hN hv hd hcd) he hop) fun D σ H ⟨env, Hf, S, R, q⟩ => ?_
  simp only [sFldAugM] at q
  split at q
  · rename_i c fs hs
    split at q
    · rename_i a hl
      obtain ⟨a', C, dx, gs, ev, hc, ha, len, lk, _⟩ := R.fld (f := f) (S0 := S) (H0 := H) (r := .fz .non) (v := .non) hh hs rfl .non
      obtain ⟨u, eu, ru⟩ := lk _ hl
      cases ru
      obtain ⟨c1, c2⟩ := hA c C hc
      refine ⟨_, ev, a', C, dx, gs, _, rfl, ha, c1, c2, eu, runES R .refl q fun r e1 Hf1 H1 S1 y R1 st1 t q1 => ?_⟩
      split at q1
      · rename_i c' fs' b hs1 hb
        split at q1
        · rename_i hl1
          have hy := (t.view R1 hb).int
          subst hy
          obtain ⟨a2, C2, dx2, gs2, ev2, hc2, ha2, len2, _, S', R2, st2⟩ := R1.fld (f := f) (S0 := S1) (H0 := H1) (r := .fz (.int (g a b))) (v := .int (g a b)) hh hs1 rfl (.int _)
          obtain ⟨rfl, hl1⟩ := hl1
          rw [ev] at ev2; cases ev2
          rw [hc] at hc2; cases hc2
          exact ⟨a, b, rfl, rfl, dx2, gs2, ha2, by rw [len2]; exact hl1, q1 σ Hf1 _ S' R2 (st2 st1 (fun a z => st1.news a z) fun a z => st1.nn z)⟩
        · exact q1.elim
      · exact q1.elim
    · exact q.elim
  · exact q.elim
/-! ### x.pop() as an expression -/
def ePop (pl : Pl) : EM := fun env => match getP env pl with
  | some (.lst xs) => (match xs[xs.length - 1]? with
    | some d => .ok (.fz d) (putP env (.lst xs.dropLast) pl)
    | none => .bad)
  | _ => .bad
theorem Reps.dropLast {xs : List D} {vs : List V} (r : Reps T K Hf xs vs) : Reps T K Hf xs.dropLast vs.dropLast := by
  rw [List.dropLast_eq_take, List.dropLast_eq_take, r.length]
  exact r.take _
theorem m_pop (P : PlE X T o pl) (hbase : attributeBase o "pop" X.env (eval o X.env) = eval o X.env := by rfl) (hline : (apos.endLine == cpos.line) = true := by rfl) : PE X (.Call (.Attribute o "pop" apos) [] [] cpos) (liftE T X.K w F (ePop pl)) := by
  refine PE.weak (pe_bm0 PySem.F.plainAttrs_list PySem.F.slot_list_pop PySem.F.type_list_pop mt_pop P.pe hbase hline) fun σ H Q ⟨env, Hf, S, R, q⟩ => ?_
  simp only [ePop] at q
  split at q
  · rename_i xs hx
    obtain ⟨a, u, hat, ha, c, wr⟩ := R.cell hx rfl
    obtain ⟨vs, rfl, rs⟩ := c.lst_of
    split at q
    · rename_i d hd
      obtain ⟨v, hv, rv⟩ := rs.get hd
      obtain ⟨S', R2, st2⟩ := wr (.lst xs.dropLast) (.lst vs.dropLast) (.lst rs.dropLast)
      refine P.run hat ⟨.inl ⟨rfl, _, SqL.of ha⟩, a, vs, v, rfl, rfl, ha, by rw [← rs.length]; exact hv, q Hf _ S' v R2 st2 rv⟩
    · exact q.elim
  · exact q.elim
end
end Mi
namespace Mi
open PySem L2
section
variable {X : Cx} {T : Tb} {K : PySem.W.Frag} {H Hf : Hp}
theorem View.lstT (s : Sub Hf H) {v : V} {xs : List D} (h : View T K Hf H (.lst xs) v) : ∃ a vs, v = .ref a ∧ H a = some (.lst vs) ∧ Reps T K Hf xs vs := h.lst s
theorem View.tupH (s : Sub Hf H) {v : V} {xs : List D} (h : View T K Hf H (.tup xs) v) : ∃ a vs, v = .ref a ∧ Hf a = some (.tup vs) ∧ H a = some (.tup vs) ∧ Reps T K Hf xs vs := by
  obtain ⟨a, vs, e, h, r⟩ := h.tup
  exact ⟨a, vs, e, h, s _ _ h, r⟩
/-! ### arithmetic -/
def gAdd : D → D → Option OR
  | .int i, .int j => some (.val (.int (i + j)))
  | .tup xs, .tup ys => if xs.length + ys.length ≤ 16777216 then some (.tup (xs ++ ys)) else none
  | _, _ => none
theorem op_addM : OpR X (binaryOp .Add) (fun x y H Q => rI0 (fun i j => .int (i + j)) x y H Q ∨ rCatA X.K x y H Q) := OpR.or op_add op_catA
theorem g_add : Op2 T K (fun x y H Q => rI0 (fun i j => .int (i + j)) x y H Q ∨ rCatA K x y H Q) gAdd := by
  intro Hf H d e v u o Q s n hd he h q
  unfold gAdd at h
  split at h
  · cases h
    exact .inl ⟨_, _, hd.int, he.int, q _ (.int _)⟩
  · rename_i xs ys
    split at h
    · rename_i hl
      cases h
      obtain ⟨a, vs, rfl, ha, ha', ra⟩ := hd.tupH s
      obtain ⟨b, us, rfl, hb, hb', rb⟩ := he.tupH s
      right
      refine ⟨a, b, vs, us, rfl, rfl, SqT.of ha', SqT.of hb', by rw [← ra.length, ← rb.length, sizeLine_eq]; exact hl, fun e => ?_, fun _ e => ?_, fun _ _ p hp => q.2 p _ hp (ra.app rb)⟩
      · subst e; cases ra; exact q.1 _ (.tup hb rb)
      · subst e; cases rb; rw [List.append_nil] at q; exact q.1 _ (.tup ha ra)
    · cases h
  · cases h
def gSub : D → D → Option OR
  | .int i, .int j => some (.val (.int (i - j)))
  | _, _ => none
theorem g_sub : Op2 T K (rI0 fun i j => .int (i - j)) gSub := by
  intro Hf H d e v u o Q s n hd he h q
  unfold gSub at h
  split at h
  · cases h
    exact ⟨_, _, hd.int, he.int, q _ (.int _)⟩
  · cases h
def mulOk (i j : Int) : Bool := decide (i.natAbs < 2 ^ 64) || decide (j.natAbs < 2 ^ 64) || decide (i.natAbs.log2 + j.natAbs.log2 < 1000000)
theorem mulOk_ok {i j : Int} (h : mulOk i j = true) : IntMulOk i j := by
  unfold mulOk at h
  simp only [Bool.or_eq_true, decide_eq_true_eq] at h
  rcases h with (h | h) | h
  · exact IntMulOk.of_left (intBits_le_64 (by omega) (by omega))
  · exact IntMulOk.of_right (intBits_le_64 (by omega) (by omega))
  · exact CMulW.ok h
theorem mulLok_ex : ∃ f : Nat → Int → Bool, ∀ n k, f n k = decide (0 ≤ k ∧ k < 2 ^ 63 ∧ n * k.toNat ≤ 16777216) := ⟨_, fun _ _ => rfl⟩
noncomputable def mulLok : Nat → Int → Bool := Classical.choose mulLok_ex
theorem mulLok_eq (n : Nat) (k : Int) : mulLok n k = decide (0 ≤ k ∧ k < 2 ^ 63 ∧ n * k.toNat ≤ 16777216) := Classical.choose_spec mulLok_ex n k
noncomputable def gMul : D → D → Option OR
  | .int i, .int j => if mulOk i j = true then some (.val (.int (i * j))) else none
  | .lst xs, .int k => if mulLok xs.length k = true then some (.lst (List.replicate k.toNat xs).flatten) else none
  | _, _ => none
theorem op_mul3 : OpR X (binaryOp .Mult) (rI (fun i j => mulOk i j = true) fun i j => .int (i * j)) := opI fun _ _ _ _ _ _ _ hc q => PyProof.Rows.mul_int q (mulOk_ok hc)
theorem op_mulM : OpR X (binaryOp .Mult) (fun x y H Q => rI (fun i j => mulOk i j = true) (fun i j => .int (i * j)) x y H Q ∨ rRep x y H Q) := OpR.or op_mul3 op_rep
theorem Reps.flat {xs : List D} {vs : List V} (r : Reps T K H xs vs) : ∀ n : Nat, Reps T K H (List.replicate n xs).flatten (List.replicate n vs).flatten
  | 0 => .nil
  | n + 1 => by
    rw [List.replicate_succ, List.replicate_succ, List.flatten_cons, List.flatten_cons]
    exact r.app (Reps.flat r n)
theorem g_mul : Op2 T K (fun x y H Q => rI (fun i j => mulOk i j = true) (fun i j => .int (i * j)) x y H Q ∨ rRep x y H Q) gMul := by
  intro Hf H d e v u o Q s n hd he h q
  unfold gMul at h
  split at h
  · split at h
    · rename_i hl
      cases h
      exact .inl ⟨_, _, hd.int, he.int, hl, q _ (.int _)⟩
    · cases h
  · split at h
    · rename_i hl
      rw [mulLok_eq, decide_eq_true_eq] at hl
      cases h
      obtain ⟨a, vs, rfl, ha, ra⟩ := hd.lst s
      exact .inr ⟨a, _, vs, rfl, he.int, ha, by omega, hl.2.1, by rw [← ra.length, sizeLine_eq]; exact hl.2.2, fun p hp => q p _ hp (ra.flat _)⟩
    · cases h
  · cases h
def gDiv : D → D → Option OR
  | .int i, .int j => if 0 < j ∧ j.natAbs.log2 < 9000 then some (.val (.int (i / j))) else none
  | _, _ => none
theorem g_div : Op2 T K (rI CDivW fun i j => .int (i / j)) gDiv := by
  intro Hf H d e v u o Q s n hd he h q
  unfold gDiv at h
  split at h
  · split at h
    · rename_i hl
      cases h
      exact ⟨_, _, hd.int, he.int, hl, q _ (.int _)⟩
    · cases h
  · cases h
def gMod : D → D → Option OR
  | .int i, .int j => if 0 < j then some (.val (.int (i % j))) else none
  | _, _ => none
theorem g_mod : Op2 T K (rI (fun _ j => 0 < j) fun i j => .int (i % j)) gMod := by
  intro Hf H d e v u o Q s n hd he h q
  unfold gMod at h
  split at h
  · split at h
    · rename_i hl
      cases h
      exact ⟨_, _, hd.int, he.int, hl, q _ (.int _)⟩
    · cases h
  · cases h
def gPow : D → D → Option OR
  | .int i, .int j => if 0 ≤ j ∧ j ≤ 1000000 ∧ i.natAbs < 2 ^ 64 then some (.val (.int (i ^ j.toNat))) else none
  | _, _ => none
theorem g_pow : Op2 T K (rI CPow fun i j => .int (i ^ j.toNat)) gPow := by
  intro Hf H d e v u o Q s n hd he h q
  unfold gPow at h
  split at h
  · split at h
    · rename_i hl
      cases h
      exact ⟨_, _, hd.int, he.int, hl, q _ (.int _)⟩
    · cases h
  · cases h
def gNeg : D → Option OR
  | .int i => some (.val (.int (-i)))
  | _ => none
theorem g_neg : Op1 T K (rU fun i => .int (-i)) gNeg := by
  intro Hf H d v o Q s n hd h q
  unfold gNeg at h
  split at h
  · cases h
    exact ⟨_, hd.int, q _ (.int _)⟩
  · cases h
/-! ### comparisons -/
def gCmp (p : Int → Int → Bool) : D → D → Option OR
  | .int i, .int j => some (.val (.bl (p i j)))
  | _, _ => none
theorem g_cmp {p : Int → Int → Bool} : Op2 T K (rI0 fun i j => .bl (p i j)) (gCmp p) := by
  intro Hf H d e v u o Q s n hd he h q
  unfold gCmp at h
  split at h
  · cases h
    exact ⟨_, _, hd.int, he.int, q _ (.bl _)⟩
  · cases h
abbrev gLt := gCmp fun i j => decide (i < j)
abbrev gLe := gCmp fun i j => decide (i ≤ j)
abbrev gGt := gCmp fun i j => decide (j < i)
abbrev gGe := gCmp fun i j => decide (j ≤ i)
mutual
def toP : D → PyData
  | .non => .none
  | .bl b => .bool b
  | .int i => .int i
  | .str x => .str x
  | .tup xs => .tuple (toPs xs)
  | .lst xs => .list (toPs xs)
  | _ => .dict []
def toPs : List D → List PyData
  | [] => []
  | d :: ds => toP d :: toPs ds
end
mutual
def pure0 : D → Bool
  | .non => true
  | .bl _ => true
  | .int _ => true
  | .str x => SeqAt.shaped (.str x)
  | .tup xs => pures xs
  | .lst xs => pures xs
  | _ => false
def pures : List D → Bool
  | [] => true
  | d :: ds => pure0 d && pures ds
end
mutual
theorem rep_dp : ∀ {d : D} {v : V}, Rep T K H d v → pure0 d = true → Dp K H v (toP d)
  | _, _, .non, _ => .non
  | _, _, .bl b, _ => .bl b
  | _, _, .int i, _ => .int i
  | _, _, .str x, _ => .str x
  | _, _, .tup h r, p => .tup (SqT.of h) (reps_dp r (by simpa [pure0] using p))
  | _, _, .lst h r, p => .lst (SqL.of h) (reps_dp r (by simpa [pure0] using p))
  | _, _, .ty _, p => by simp [pure0] at p
  | _, _, .code _, p => by simp [pure0] at p
  | _, _, .scr _, p => by simp [pure0] at p
  | _, _, .dK _ _, p => by simp [pure0] at p
  | _, _, .dT _ _, p => by simp [pure0] at p
  | _, _, .ins _ _ _, p => by simp [pure0] at p
theorem reps_dp : ∀ {ds : List D} {vs : List V}, Reps T K H ds vs → pures ds = true → DpAll K H vs (toPs ds)
  | _, _, .nil, _ => .nil
  | _, _, .cons a b, p => by
    simp only [pures, Bool.and_eq_true] at p
    exact .cons (rep_dp a p.1) (reps_dp b p.2)
end
theorem View.rep (s : Sub Hf H) {d : D} {v : V} (h : View T K Hf H d v) : Rep T K H d v := by
  obtain ⟨t, S, o, e⟩ := h
  exact e ▸ o.rep s
def okP (d : D) : Bool := pure0 d && SeqAt.shaped (toP d)
def gEq : D → D → Option OR := fun a b => if okP a = true ∧ okP b = true then some (.val (.bl (PyData.eqv (toP a) (toP b)))) else none
def gNe : D → D → Option OR := fun a b => if okP a = true ∧ okP b = true then some (.val (.bl (!PyData.eqv (toP a) (toP b)))) else none
theorem g_eq : Op2 T K (rEqD K) gEq := by
  intro Hf H d e v u o Q s n hd he h q
  unfold gEq at h
  split at h
  · rename_i hp
    cases h
    simp only [okP, Bool.and_eq_true] at hp
    exact ⟨_, _, rep_dp (hd.rep s) hp.1.1, rep_dp (he.rep s) hp.2.1, hp.1.2, hp.2.2, q _ (.bl _)⟩
  · cases h
theorem g_ne : Op2 T K (rNeD K) gNe := by
  intro Hf H d e v u o Q s n hd he h q
  unfold gNe at h
  split at h
  · rename_i hp
    cases h
    simp only [okP, Bool.and_eq_true] at hp
    exact ⟨_, _, rep_dp (hd.rep s) hp.1.1, rep_dp (he.rep s) hp.2.1, hp.1.2, hp.2.2, q _ (.bl _)⟩
  · cases h
def isNonD : D → Bool
  | .non => true
  | _ => false
theorem non_iff (s : Sub Hf H) {d : D} {v : V} (h : View T K Hf H d v) : decide (v = .non) = isNonD d := by
  have r := h.rep s
  cases r <;> simp [isNonD]
def gIsN : D → D → Option OR
  | d, .non => some (.val (.bl (isNonD d)))
  | _, _ => none
def gNotN : D → D → Option OR
  | d, .non => some (.val (.bl (!isNonD d)))
  | _, _ => none
theorem g_isN : Op2 T K (fun x y H Q => y = .non ∧ Q (.bl (decide (x = .non))) H) gIsN := by
  intro Hf H d e v u o Q s n hd he h q
  unfold gIsN at h
  split at h
  · cases h
    exact ⟨he.non, by rw [non_iff s hd]; exact q _ (.bl _)⟩
  · cases h
theorem g_notN : Op2 T K (fun x y H Q => y = .non ∧ Q (.bl (!decide (x = .non))) H) gNotN := by
  intro Hf H d e v u o Q s n hd he h q
  unfold gNotN at h
  split at h
  · cases h
    exact ⟨he.non, by rw [non_iff s hd]; exact q _ (.bl _)⟩
  · cases h
/-! ### subscripts -/
def rGetD : R2 := fun x y H Q => ∃ a v, x = .ref a ∧ DGet H a y (some v) ∧ Q v H
theorem ix_dict (hu : X.A.units + 1 < cLine) : IxR X rGetD := by
  intro value slice pins s σ H x y v u Q I rx ry ⟨a, z, ex, g, q⟩ hs
  subst ex
  obtain rfl : v = Value.ref a := rx
  exact PyProof.Rows.tail_any (dict_typeIs I g) PySem.F.slot_dict_getitem.lookup (d_getItem hu I g ry fun w' s3 I3 rw' => ⟨z, H, I3, rw', q⟩) hs
theorem IxR.or3 {r r' : R2} (h : IxR X r) (h' : IxR X r') : IxR X (fun x y H Q => r x y H Q ∨ r' x y H Q) := h.or h'
def gIx : D → D → Option OR
  | .lst xs, .int i => (atI xs i).map .val
  | .tup xs, .int i => (atI xs i).map .val
  | .dic b kvs, k => (keyOf b k).bind fun k => (dgetN kvs k).map .val
  | _, _ => none
abbrev rIxM (K : PySem.W.Frag) : R2 := fun x y H Q => rIxL K x y H Q ∨ (rIxT K x y H Q ∨ rGetD x y H Q)
theorem ix_M (hu : X.A.units + 1 < cLine) : IxR X (rIxM X.K) := ix_list.or (ix_tup.or (ix_dict hu))
theorem Reps.atI {xs : List D} {vs : List V} (r : Reps T K H xs vs) {i : Int} {d : D} (h : L2.atI xs i = some d) : ∃ v, L2.atI vs i = some v ∧ Rep T K H d v := by
  unfold L2.atI at h ⊢
  rw [← r.length]
  obtain ⟨j, hj, hd⟩ := Option.bind_eq_some_iff.mp h
  obtain ⟨v, hv, rv⟩ := r.get hd
  exact ⟨v, by rw [hj]; exact hv, rv⟩
theorem dget_ok (s : Sub Hf H) {b : Bool} {kvs : List (NK × D)} {k d : D} {v u : V} {kk : NK} (hd : View T K Hf H (.dic b kvs) v) (he : View T K Hf H k u) (hk : keyOf b k = some kk) : ∃ a r, v = .ref a ∧ IsD H a ∧ DGet H a u r ∧ (∀ d, dgetN kvs kk = some d → ∃ z, r = some z ∧ Rep T K Hf d z) ∧ (dgetN kvs kk = none → r = none) := by
  obtain ⟨a, rfl, h⟩ := hd.dic s
  rcases h with ⟨rfl, ks, hr, rk⟩ | ⟨rfl, ks, hr, rk⟩
  · simp only [keyOf] at hk
    obtain ⟨k1, h1, rfl⟩ := Option.map_eq_some_iff.mp hk
    have e := key1_rep h1 he
    subst e
    exact ⟨a, _, rfl, .inl ⟨_, hr⟩, .inl ⟨ks, k1, hr, rfl, rfl⟩, (rk.val k1).1, (rk.val k1).2⟩
  · cases k with
    | tup ds =>
      simp only [keyOf] at hk
      obtain ⟨k1, h1, rfl⟩ := Option.map_eq_some_iff.mp hk
      obtain ⟨p, vs, rfl, _, hp, rr⟩ := he.tupH s
      have e := keys1_rep h1 rr
      subst e
      exact ⟨a, _, rfl, .inr ⟨_, hr⟩, .inr ⟨ks, k1, p, hr, rfl, hp, rfl⟩, (rk.val k1).1, (rk.val k1).2⟩
    | _ => simp only [keyOf] at hk; cases hk
theorem g_ix : Op2 T K (rIxM K) gIx := by
  intro Hf H d e v u o Q s n hd he h q
  unfold gIx at h
  split at h
  · obtain ⟨x, hx, rfl⟩ := Option.map_eq_some_iff.mp h
    obtain ⟨a, vs, rfl, ha, ra⟩ := hd.lst s
    obtain ⟨z, hz, rz⟩ := ra.atI hx
    exact .inl ⟨a, vs, _, z, rfl, he.int, SqL.of ha, hz, q _ rz⟩
  · obtain ⟨x, hx, rfl⟩ := Option.map_eq_some_iff.mp h
    obtain ⟨a, vs, rfl, _, ha, ra⟩ := hd.tupH s
    obtain ⟨z, hz, rz⟩ := ra.atI hx
    exact .inr (.inl ⟨a, vs, _, z, rfl, he.int, SqT.of ha, hz, q _ rz⟩)
  · obtain ⟨kk, hk, h⟩ := Option.bind_eq_some_iff.mp h
    obtain ⟨x, hx, rfl⟩ := Option.map_eq_some_iff.mp h
    obtain ⟨a, r, rfl, _, g, g1, _⟩ := dget_ok s (d := x) hd he hk
    obtain ⟨z, rfl, rz⟩ := g1 x hx
    exact .inr (.inr ⟨a, z, rfl, g, q _ rz⟩)
  · cases h
/-! ### in -/
def rInD (neg : Bool) : R2 := fun x y H Q => ∃ a o, y = .ref a ∧ DGet H a x o ∧ Q (.bl (if neg then !o.isSome else o.isSome)) H
theorem op_inDict (hu : X.A.units + 1 < cLine) : OpR X (compareOp .In) (rInD false) := fun pins s σ H x y v u Q I rx ry ⟨a, o, ey, g, q⟩ => by
  subst ey
  obtain rfl : u = Value.ref a := ry
  exact d_in hu I g rx fun s' I' => ⟨.bl o.isSome, H, I', rfl, q⟩
theorem op_ninDict (hu : X.A.units + 1 < cLine) : OpR X (compareOp .NotIn) (rInD true) := fun pins s σ H x y v u Q I rx ry ⟨a, o, ey, g, q⟩ => by
  subst ey
  obtain rfl : u = Value.ref a := ry
  exact d_notIn hu I g rx fun s' I' => ⟨.bl (!o.isSome), H, I', rfl, q⟩
def gIn (neg : Bool) : D → D → Option OR
  | k, .dic b kvs => (keyOf b k).map fun k => .val (.bl (if neg then !(dgetN kvs k).isSome else (dgetN kvs k).isSome))
  | _, _ => none
theorem g_in {neg : Bool} : Op2 T K (rInD neg) (gIn neg) := by
  intro Hf H d e v u o Q s n hd he h q
  unfold gIn at h
  split at h
  · obtain ⟨kk, hk, rfl⟩ := Option.map_eq_some_iff.mp h
    rename_i b kvs
    obtain ⟨a, r, rfl, _, g, g1, g2⟩ := dget_ok s (d := .non) he hd hk
    refine ⟨a, r, rfl, g, ?_⟩
    have e : r.isSome = (dgetN kvs kk).isSome := by
      cases hh : dgetN kvs kk with
      | none => rw [g2 hh]; rfl
      | some x => obtain ⟨z, rfl, _⟩ := g1 x hh; rfl
    rw [e]
    exact q _ (.bl _)
  · cases h
/-! ### built-ins -/
def gLen : List D → Option OR
  | [.lst xs] => some (.val (.int xs.length))
  | [.scr xs] => some (.val (.int xs.length))
  | [.tup xs] => some (.val (.int xs.length))
  | [.dic false kvs] => some (.val (.int kvs.length))
  | _ => none
abbrev rLenM (K : PySem.W.Frag) : List V → Hp → VK → Prop := fun xs H Q => (∃ p ys, xs = [.ref p] ∧ (SqL K H p ys ∨ SqT K H p ys) ∧ Q (.int ys.length) H) ∨ ∃ p ks, xs = [.ref p] ∧ Rd H p (.dK ks) ∧ Q (.int ks.length) H
theorem call_lenM : CallR X (.builtin "len") (rLenM X.K) := CallR.or call_len_seq fun pins s σ H xs us Q I r ⟨p, ks, e, h, q⟩ => by
  subst e
  cases r with
  | cons a b =>
    cases b
    cases a
    exact d_len I h fun t s' I' => ⟨.int ks.length, H, I', ⟨t, rfl⟩, q⟩
theorem g_len : OpN T K (rLenM K) gLen := by
  intro Hf H ds vs o Q s n hv h q
  unfold gLen at h
  split at h
  · cases h
    obtain ⟨v, rfl, hv1⟩ := hv.one
    obtain ⟨a, us, rfl, ha, ra⟩ := hv1.lst s
    exact .inl ⟨a, us, rfl, .inl (SqL.of ha), by rw [← ra.length]; exact q _ (.int _)⟩
  · cases h
    rename_i ns
    obtain ⟨v, rfl, hv1⟩ := hv.one
    obtain ⟨a, rfl, ha⟩ := hv1.scr s
    exact .inl ⟨a, _, rfl, .inl ha, by rw [List.length_map]; exact q _ (.int _)⟩
  · cases h
    obtain ⟨v, rfl, hv1⟩ := hv.one
    obtain ⟨a, us, rfl, _, ha, ra⟩ := hv1.tupH s
    exact .inl ⟨a, us, rfl, .inr (SqT.of ha), by rw [← ra.length]; exact q _ (.int _)⟩
  · cases h
    obtain ⟨v, rfl, hv1⟩ := hv.one
    obtain ⟨a, rfl, hh⟩ := hv1.dic s
    rcases hh with ⟨_, ks, hr, rk⟩ | ⟨z, _⟩
    · exact .inr ⟨a, ks, rfl, hr, by rw [← rk.length]; exact q _ (.int _)⟩
    · cases z
  · cases h
def gMax2 : List D → Option OR
  | [.int i, .int j] => some (.val (.int (if j > i then j else i)))
  | _ => none
def gMin2 : List D → Option OR
  | [.int i, .int j] => some (.val (.int (if j < i then j else i)))
  | _ => none
theorem g_max2 : OpN T K (fun xs H Q => ∃ i j, xs = [.int i, .int j] ∧ Q (.int (if j > i then j else i)) H) gMax2 := by
  intro Hf H ds vs o Q s n hv h q
  unfold gMax2 at h
  split at h
  · cases h
    obtain ⟨v, u, rfl, h1, h2⟩ := hv.two
    cases h1.int; cases h2.int
    exact ⟨_, _, rfl, q _ (.int _)⟩
  · cases h
theorem g_min2 : OpN T K (fun xs H Q => ∃ i j, xs = [.int i, .int j] ∧ Q (.int (if j < i then j else i)) H) gMin2 := by
  intro Hf H ds vs o Q s n hv h q
  unfold gMin2 at h
  split at h
  · cases h
    obtain ⟨v, u, rfl, h1, h2⟩ := hv.two
    cases h1.int; cases h2.int
    exact ⟨_, _, rfl, q _ (.int _)⟩
  · cases h
def gAbs : List D → Option OR
  | [.int i] => some (.val (.int (if i < 0 then -i else i)))
  | _ => none
theorem g_abs : OpN T K (fun xs H Q => ∃ i, xs = [.int i] ∧ Q (.int (if i < 0 then -i else i)) H) gAbs := by
  intro Hf H ds vs o Q s n hv h q
  unfold gAbs at h
  split at h
  · cases h
    obtain ⟨v, rfl, h1⟩ := hv.one
    cases h1.int
    exact ⟨_, rfl, q _ (.int _)⟩
  · cases h
def gInt : List D → Option OR
  | [.int i] => some (.val (.int i))
  | [.bl b] => some (.val (.int (if b then 1 else 0)))
  | _ => none
theorem g_int : OpN T K (fun xs H Q => (∃ i, xs = [.int i] ∧ Q (.int i) H) ∨ ∃ k, xs = [.bl k] ∧ Q (.int (if k then 1 else 0)) H) gInt := by
  intro Hf H ds vs o Q s n hv h q
  unfold gInt at h
  split at h
  · cases h
    obtain ⟨v, rfl, h1⟩ := hv.one
    cases h1.int
    exact .inl ⟨_, rfl, q _ (.int _)⟩
  · cases h
    obtain ⟨v, rfl, h1⟩ := hv.one
    cases h1.bl
    exact .inr ⟨_, rfl, q _ (.int _)⟩
  · cases h
/-- ints of a list -/
def intsOf : List D → Option (List Int)
  | [] => some []
  | .int i :: ds => (intsOf ds).map fun is => i :: is
  | _ => none
def blsOf : List D → Option (List Bool)
  | [] => some []
  | .bl i :: ds => (blsOf ds).map fun is => i :: is
  | _ => none
theorem intsOf_map (ns : List Int) : intsOf (ns.map D.int) = some ns := by
  induction ns with
  | nil => rfl
  | cons n ns ih => simp [intsOf, ih]
theorem blsOf_map (ns : List Bool) : blsOf (ns.map D.bl) = some ns := by
  induction ns with
  | nil => rfl
  | cons n ns ih => simp [blsOf, ih]
theorem intsOf_rep : ∀ {xs : List D} {ns : List Int} {vs : List V}, intsOf xs = some ns → Reps T K H xs vs → vs = ns.map V.int
  | [], ns, vs, h, r => by
    simp only [intsOf, Option.some.injEq] at h
    subst h
    cases r; rfl
  | d :: ds, ns, vs, h, r => by
    cases d with
    | int i =>
      simp only [intsOf] at h
      obtain ⟨is, h2, rfl⟩ := Option.map_eq_some_iff.mp h
      cases r with
      | cons a b =>
        cases a
        rw [intsOf_rep h2 b]; rfl
    | _ => simp only [intsOf] at h; cases h
theorem blsOf_rep : ∀ {xs : List D} {ns : List Bool} {vs : List V}, blsOf xs = some ns → Reps T K H xs vs → vs = ns.map V.bl
  | [], ns, vs, h, r => by
    simp only [blsOf, Option.some.injEq] at h
    subst h
    cases r; rfl
  | d :: ds, ns, vs, h, r => by
    cases d with
    | bl i =>
      simp only [blsOf] at h
      obtain ⟨is, h2, rfl⟩ := Option.map_eq_some_iff.mp h
      cases r with
      | cons a b =>
        cases a
        rw [blsOf_rep h2 b]; rfl
    | _ => simp only [blsOf] at h; cases h
def gAll : List D → Option OR
  | [.lst xs] => (blsOf xs).map fun bs => .val (.bl (bs.all id))
  | _ => none
def gAny : List D → Option OR
  | [.lst xs] => (blsOf xs).map fun bs => .val (.bl (bs.any id))
  | _ => none
theorem g_all : OpN T K (rAll K) gAll := by
  intro Hf H ds vs o Q s n hv h q
  unfold gAll at h
  split at h
  · obtain ⟨bs, hb, rfl⟩ := Option.map_eq_some_iff.mp h
    obtain ⟨v, rfl, hv1⟩ := hv.one
    obtain ⟨a, us, rfl, ha, ra⟩ := hv1.lst s
    have e := blsOf_rep hb ra
    subst e
    exact ⟨a, bs, rfl, SqL.of ha, q _ (.bl _)⟩
  · cases h
theorem g_any : OpN T K (rAny K) gAny := by
  intro Hf H ds vs o Q s n hv h q
  unfold gAny at h
  split at h
  · obtain ⟨bs, hb, rfl⟩ := Option.map_eq_some_iff.mp h
    obtain ⟨v, rfl, hv1⟩ := hv.one
    obtain ⟨a, us, rfl, ha, ra⟩ := hv1.lst s
    have e := blsOf_rep hb ra
    subst e
    exact ⟨a, bs, rfl, SqL.of ha, q _ (.bl _)⟩
  · cases h
def maxI : List Int → Int
  | [] => 0
  | [x] => x
  | x :: y :: r => max x (maxI (y :: r))
def minI : List Int → Int
  | [] => 0
  | [x] => x
  | x :: y :: r => min x (minI (y :: r))
theorem maxI_spec : ∀ (x : Int) (r : List Int), maxI (x :: r) ∈ x :: r ∧ ∀ y ∈ x :: r, y ≤ maxI (x :: r)
  | x, [] => ⟨by simp [maxI], fun y h => by simp at h; simp [maxI, h]⟩
  | x, y :: r => by
    obtain ⟨h1, h2⟩ := maxI_spec y r
    simp only [maxI]
    refine ⟨?_, fun z hz => ?_⟩
    · by_cases h : x ≤ maxI (y :: r)
      · rw [Int.max_eq_right h]; exact List.mem_cons_of_mem _ h1
      · rw [Int.max_eq_left (by omega)]; exact List.mem_cons_self
    · rcases List.mem_cons.mp hz with e | hz
      · omega
      · have := h2 z hz; omega
theorem minI_spec : ∀ (x : Int) (r : List Int), minI (x :: r) ∈ x :: r ∧ ∀ y ∈ x :: r, minI (x :: r) ≤ y
  | x, [] => ⟨by simp [minI], fun y h => by simp at h; simp [minI, h]⟩
  | x, y :: r => by
    obtain ⟨h1, h2⟩ := minI_spec y r
    simp only [minI]
    refine ⟨?_, fun z hz => ?_⟩
    · by_cases h : maxI (y :: r) ≤ x ∧ False
      · exact h.2.elim
      · by_cases h : minI (y :: r) ≤ x
        · rw [Int.min_eq_right h]; exact List.mem_cons_of_mem _ h1
        · rw [Int.min_eq_left (by omega)]; exact List.mem_cons_self
    · rcases List.mem_cons.mp hz with e | hz
      · omega
      · have := h2 z hz; omega
def gMaxL : List D → Option OR
  | [.lst xs] => (intsOf xs).bind fun ns => if ns = [] then none else some (.val (.int (maxI ns)))
  | _ => none
def gMinL : List D → Option OR
  | [.lst xs] => (intsOf xs).bind fun ns => if ns = [] then none else some (.val (.int (minI ns)))
  | _ => none
theorem g_maxL : OpN T K (rMax K) gMaxL := by
  intro Hf H ds vs o Q s n hv h q
  unfold gMaxL at h
  split at h
  · obtain ⟨ns, hb, h⟩ := Option.bind_eq_some_iff.mp h
    split at h
    · cases h
    · rename_i hne
      cases h
      obtain ⟨v, rfl, hv1⟩ := hv.one
      obtain ⟨a, us, rfl, ha, ra⟩ := hv1.lst s
      have e := intsOf_rep hb ra
      subst e
      cases ns with
      | nil => exact absurd rfl hne
      | cons x r =>
        refine ⟨a, _, rfl, SqL.of ha, by simp, fun m hm hle => ?_⟩
        obtain ⟨h1, h2⟩ := maxI_spec x r
        have := h2 m hm
        have := hle _ h1
        have e : m = maxI (x :: r) := by omega
        rw [e]; exact q _ (.int _)
  · cases h
theorem g_minL : OpN T K (rMin K) gMinL := by
  intro Hf H ds vs o Q s n hv h q
  unfold gMinL at h
  split at h
  · obtain ⟨ns, hb, h⟩ := Option.bind_eq_some_iff.mp h
    split at h
    · cases h
    · rename_i hne
      cases h
      obtain ⟨v, rfl, hv1⟩ := hv.one
      obtain ⟨a, us, rfl, ha, ra⟩ := hv1.lst s
      have e := intsOf_rep hb ra
      subst e
      cases ns with
      | nil => exact absurd rfl hne
      | cons x r =>
        refine ⟨a, _, rfl, SqL.of ha, by simp, fun m hm hle => ?_⟩
        obtain ⟨h1, h2⟩ := minI_spec x r
        have := h2 m hm
        have := hle _ h1
        have e : m = minI (x :: r) := by omega
        rw [e]; exact q _ (.int _)
  · cases h
/-! list(..), tuple(..) -/
def gList : List D → Option OR
  | [.lst xs] => some (.lst xs)
  | [.tup xs] => some (.lst xs)
  | _ => none
theorem g_list : OpN T K (fun xs H Q => ∃ p ys, xs = [.ref p] ∧ (SqL K H p ys ∨ SqT K H p ys) ∧ ∀ l, H l = none → Q (.ref l) (upd H l (.lst ys))) gList := by
  intro Hf H ds vs o Q s n hv h q
  unfold gList at h
  split at h
  · cases h
    obtain ⟨v, rfl, hv1⟩ := hv.one
    obtain ⟨a, us, rfl, ha, ra⟩ := hv1.lst s
    exact ⟨a, us, rfl, .inl (SqL.of ha), fun l hl => q l us hl ra⟩
  · cases h
    obtain ⟨v, rfl, hv1⟩ := hv.one
    obtain ⟨a, us, rfl, _, ha, ra⟩ := hv1.tupH s
    exact ⟨a, us, rfl, .inr (SqT.of ha), fun l hl => q l us hl ra⟩
  · cases h
def gTuple : List D → Option OR
  | [.lst xs] => some (.tup xs)
  | [.tup xs] => some (.tup xs)
  | _ => none
theorem g_tuple : OpN T K (fun xs H Q => ∃ p ys, xs = [.ref p] ∧ ((SqL K H p ys ∧ ∀ l, H l = none → Q (.ref l) (upd H l (.tup ys))) ∨ (SqT K H p ys ∧ Q (.ref p) H))) gTuple := by
  intro Hf H ds vs o Q s n hv h q
  unfold gTuple at h
  split at h
  · cases h
    obtain ⟨v, rfl, hv1⟩ := hv.one
    obtain ⟨a, us, rfl, ha, ra⟩ := hv1.lst s
    exact ⟨a, us, rfl, .inl ⟨SqL.of ha, fun l hl => q.2 l us hl ra⟩⟩
  · cases h
    obtain ⟨v, rfl, hv1⟩ := hv.one
    obtain ⟨a, us, rfl, hf, ha, ra⟩ := hv1.tupH s
    exact ⟨a, us, rfl, .inr ⟨SqT.of ha, q.1 _ (.tup hf ra)⟩⟩
  · cases h
end
end Mi
namespace Mi
open PySem L2
/-! ## displays -/
def allFz : List ER → Option (List D)
  | [] => some []
  | .fz d :: rs => (allFz rs).map fun ds => d :: ds
  | _ :: _ => none
def eTup (n : AM) : EM := fun env => (n env).bind fun rs e => match allFz rs with
  | some ds => if ds.length ≤ 16777216 then .ok (.fz (.tup ds)) e else .bad
  | none => .bad
def eLst (n : AM) : EM := fun env => (n env).bind fun rs e => match allFz rs with
  | some ds => if ds.length ≤ 16777216 then .ok (.new (.lst ds)) e else .bad
  | none => .bad
def eDnew (t : Bool) : EM := fun env => .ok (.new (.dic t [])) env
section
variable {X : Cx} {T : Tb} {w : WX} {F : Pn} {K : PySem.W.Frag} {σ : St} {H Hf : Hp} {S S0 : Ad} {env e1 : ME} {Q : VK} {pos : Pos} {es : List Expr} {n : AM} {m mo : EM} {e o : Expr}
theorem allFz_rep {H0 : Hp} {rs : List ER} {vs : List V} (t : ARel T K env σ Hf H S S0 H0 rs vs) : ∀ {ds : List D}, allFz rs = some ds → Reps T K Hf ds vs := by
  induction t with
  | nil => intro ds h; cases h; exact .nil
  | @cons r v rs vs a _ ih =>
    intro ds h
    cases r with
    | fz d =>
      simp only [allFz] at h
      obtain ⟨ds', h', rfl⟩ := Option.map_eq_some_iff.mp h
      exact .cons a (ih h')
    | _ => cases h
theorem m_tup {k : Nat} (ha : PA X es (liftA T X.K w F n)) : PE X (.Tuple es k pos) (liftE T X.K w F (eTup n)) :=
  PE.weak (pe_tup ha) fun σ H Q ⟨env, Hf, S, R, q⟩ => runA R .refl q fun rs e1 Hf1 H1 S1 vs R1 _ st1 t1 q1 => by
    cases hd : allFz rs with
    | none => simp only [hd] at q1; exact q1.elim
    | some ds =>
      simp only [hd] at q1
      have rr := allFz_rep t1 hd
      split at q1
      · rename_i hl
        exact ⟨by rw [← rr.length, sizeLine_eq]; exact hl, fun p hp => (or_end (o := .tup ds) R1 st1 q1).2 p vs hp rr⟩
      · exact q1.elim
theorem m_lst (ha : PA X es (liftA T X.K w F n)) : PE X (.List es pos) (liftE T X.K w F (eLst n)) :=
  PE.weak (pe_lst ha) fun σ H Q ⟨env, Hf, S, R, q⟩ => runA R .refl q fun rs e1 Hf1 H1 S1 vs R1 _ st1 t1 q1 => by
    cases hd : allFz rs with
    | none => simp only [hd] at q1; exact q1.elim
    | some ds =>
      simp only [hd] at q1
      have rr := allFz_rep t1 hd
      split at q1
      · rename_i hl
        exact ⟨by rw [← rr.length, sizeLine_eq]; exact hl, fun p hp => or_end (o := .lst ds) R1 st1 q1 p vs hp rr⟩
      · exact q1.elim
theorem m_dnewK : PE X (.Dict [] [] pos) (liftE T X.K w F (eDnew false)) :=
  PE.weak pe_dnewK fun σ H Q ⟨env, Hf, S, R, q⟩ p hp => or_end (o := .dk []) R .refl q p [] hp .nil
theorem m_dnewT : PE X (.Dict [] [] pos) (liftE T X.K w F (eDnew true)) :=
  PE.weak pe_dnewT fun σ H Q ⟨env, Hf, S, R, q⟩ p hp => or_end (o := .dt []) R .refl q p [] hp .nil
/-! ## d.get(k), d.get(k, x) -/
def isDicD : Option D → Bool
  | some (.dic _ _) => true
  | _ => false
def getD2 (o k x : Option D) : Option D := match o, k, x with
  | some (.dic b kvs), some k, some x => (keyOf b k).map fun k => (dgetN kvs k).getD x
  | _, _, _ => none
/-- the default is frozen data -/
def eGet2 (mo mk mx : EM) : EM := fun env => (mo env).bind fun r e1 => if isDicD (viewD e1 r) = true then ((mk e1).bind fun rk e2 => (mx e2).bind fun rx e3 => match rx with
  | .fz x => (match getD2 (viewD e3 r) (viewD e3 rk) (some x) with
    | some d => .ok (.fz d) e3
    | none => .bad)
  | _ => .bad) else .bad
def eGet1 (mo mk : EM) : EM := fun env => (mo env).bind fun r e1 => if isDicD (viewD e1 r) = true then ((mk e1).bind fun rk e2 => match getD2 (viewD e2 r) (viewD e2 rk) (some .non) with
    | some d => .ok (.fz d) e2
    | none => .bad) else .bad
theorem isD_of (R : Rel T K F env σ Hf H S) {H0 : Hp} {r : ER} {v : V} (t : TRel T K env σ Hf H S S0 H0 r v) (h : isDicD (viewD env r) = true) : ∃ a, v = .ref a ∧ IsD H a := by
  cases hv : viewD env r with
  | none => rw [hv] at h; cases h
  | some d =>
    rw [hv] at h
    cases d with
    | dic b kvs =>
      obtain ⟨a, rfl, hh⟩ := (t.view R hv).dic R.sub
      rcases hh with ⟨_, ks, hr, _⟩ | ⟨_, ks, hr, _⟩
      · exact ⟨a, rfl, .inl ⟨_, hr⟩⟩
      · exact ⟨a, rfl, .inr ⟨_, hr⟩⟩
    | _ => cases h
theorem getD2_ok (s : Sub Hf H) {od kd : D} {x d : D} {v u xv : V} {Q : VK} (hd : View T K Hf H od v) (hk : View T K Hf H kd u) (hx : Rep T K Hf x xv) (h : getD2 (some od) (some kd) (some x) = some d) (q : ∀ z, Rep T K Hf d z → Q z H) {a : Addr} (ea : v = .ref a) : ∃ r, DGet H a u r ∧ Q (r.getD xv) H := by
  unfold getD2 at h
  split at h
  · rename_i b kvs k x' e1 e2 e3
    cases e1; cases e2; cases e3
    obtain ⟨kk, hkk, rfl⟩ := Option.map_eq_some_iff.mp h
    obtain ⟨a', r, e4, _, g, g1, g2⟩ := dget_ok s (d := .non) hd hk hkk
    rw [ea] at e4; cases e4
    refine ⟨r, g, q _ ?_⟩
    cases hh : dgetN kvs kk with
    | none => rw [g2 hh]; exact hx
    | some y => obtain ⟨z, rfl, rz⟩ := g1 y hh; exact rz
  · cases h
theorem m_get2 {k x : Expr} {mk mx : EM} {apos cpos : Pos} (hu : X.A.units + 1 < cLine) (ho : PE X o (liftE T X.K w F mo)) (hk : PE X k (liftE T X.K w F mk)) (hx : PE X x (liftE T X.K w F mx)) (m2 : M2 X o "get" apos k x cpos) : PE X (.Call (.Attribute o "get" apos) [k, x] [] cpos) (liftE T X.K w F (eGet2 mo mk mx)) :=
  PE.weak (pe_dget2 hu ho hk hx m2) fun σ H Q ⟨env, Hf, S, R, q⟩ => runE R .refl q fun r e1 Hf1 H1 S1 v R1 _ st1 t1 q1 => by
    split at q1
    · rename_i hd
      obtain ⟨a, ea, hD⟩ := isD_of R1 t1 hd
      refine ⟨a, ea, hD, runE R1 st1 q1 fun rk e2 Hf2 H2 S2 u R2 s12 st2 t2 q2 => runE R2 st2 q2 fun rx e3 Hf3 H3 S3 xv R3 s23 st3 t3 q3 => ?_⟩
      cases rx with
      | fz x' =>
        simp only at q3
        cases hg : getD2 (viewD e3 r) (viewD e3 rk) (some x') with
        | none => simp only [hg] at q3; exact q3.elim
        | some d =>
          simp only [hg] at q3
          cases h1 : viewD e3 r with
          | none => rw [h1] at hg; cases hg
          | some od =>
            cases h2 : viewD e3 rk with
            | none => rw [h1, h2] at hg; cases od <;> cases hg
            | some kd =>
              rw [h1, h2] at hg
              exact getD2_ok R3.sub ((t1.step (env' := e3) (s12.trans s23) R3.sub).view R3 h1) ((t2.step (env' := e3) s23 R3.sub).view R3 h2) t3 hg (fun z rz => q3 Hf3 H3 S3 z R3 st3 rz) ea
      | _ => exact q3.elim
    · exact q1.elim
theorem m_get1 {k : Expr} {mk : EM} {apos cpos : Pos} (hu : X.A.units + 1 < cLine) (ho : PE X o (liftE T X.K w F mo)) (hk : PE X k (liftE T X.K w F mk)) (m1 : M1 X o "get" apos k cpos) : PE X (.Call (.Attribute o "get" apos) [k] [] cpos) (liftE T X.K w F (eGet1 mo mk)) :=
  PE.weak (pe_dget1 hu ho hk m1) fun σ H Q ⟨env, Hf, S, R, q⟩ => runE R .refl q fun r e1 Hf1 H1 S1 v R1 _ st1 t1 q1 => by
    split at q1
    · rename_i hd
      obtain ⟨a, ea, hD⟩ := isD_of R1 t1 hd
      refine ⟨a, ea, hD, runE R1 st1 q1 fun rk e2 Hf2 H2 S2 u R2 s12 st2 t2 q2 => ?_⟩
      cases hg : getD2 (viewD e2 r) (viewD e2 rk) (some .non) with
      | none => simp only [hg] at q2; exact q2.elim
      | some d =>
        simp only [hg] at q2
        cases h1 : viewD e2 r with
        | none => rw [h1] at hg; cases hg
        | some od =>
          cases h2 : viewD e2 rk with
          | none => rw [h1, h2] at hg; cases od <;> cases hg
          | some kd =>
            rw [h1, h2] at hg
            exact getD2_ok R2.sub ((t1.step (env' := e2) s12 R2.sub).view R2 h1) (t2.view R2 h2) .non hg (fun z rz => q2 Hf2 H2 S2 z R2 st2 rz) ea
    · exact q1.elim
/-! ## slices -/
def cutD (xs : List D) (lo hi : Option Int) : List D := (xs.drop (HT.sIx xs.length 0 lo)).take (HT.sIx xs.length xs.length hi - HT.sIx xs.length 0 lo)
def gSl (lo hi : Option Int) : D → Option OR
  | .lst xs => some (.lst (cutD xs lo hi))
  | .tup xs => some (.tup (cutD xs lo hi))
  | .scr ns => some (.lst (cutD (ns.map D.int) lo hi))
  | _ => none
theorem Reps.cut {xs : List D} {vs : List V} (r : Reps T K Hf xs vs) (lo hi : Option Int) : Reps T K Hf (cutD xs lo hi) (cutV vs lo hi) := by
  unfold cutD cutV
  rw [r.length]
  exact (r.drop _).take _
theorem cutD_all {xs : List D} {lo hi : Option Int} (h : HT.sIx xs.length 0 lo = 0 ∧ HT.sIx xs.length xs.length hi = xs.length) : cutD xs lo hi = xs := by
  unfold cutD
  rw [h.1, h.2]
  simp
def rSlM (K : PySem.W.Frag) : V → Option Int → Option Int → Hp → VK → Prop := fun x lo hi H Q => rSlL K x lo hi H Q ∨ rSlA K x lo hi H Q
theorem sl_M : SlR X (rSlM X.K) := SlR.or sl_list sl_tupA
theorem gSl_ok {lo hi : Option Int} (s : Sub Hf H) {d : D} {v : V} {o : OR} {Q : VK} (hd : View T K Hf H d v) (h : gSl lo hi d = some o) (q : OREnd T K Hf H Q o) : rSlM K v lo hi H Q := by
  unfold gSl at h
  split at h
  · cases h
    obtain ⟨a, vs, rfl, ha, ra⟩ := hd.lst s
    exact .inl ⟨a, vs, rfl, SqL.of ha, fun p hp => q p _ hp (ra.cut lo hi)⟩
  · cases h
    obtain ⟨a, vs, rfl, hf, ha, ra⟩ := hd.tupH s
    refine .inr ⟨a, vs, rfl, SqT.of ha, fun z => q.1 _ ?_, fun _ p hp => q.2 p _ hp (ra.cut lo hi)⟩
    rw [cutD_all (by rw [ra.length]; exact z)]
    exact .tup hf ra
  · cases h
    obtain ⟨a, rfl, ha⟩ := hd.scr s
    exact .inl ⟨a, _, rfl, ha, fun p hp => q p _ hp ((Reps.ofFn (fun i => .int i) _).cut lo hi)⟩
  · cases h
/-- a part of a slice -/
@[simp] def partM : Option EM → ME → Res (Option Int)
  | none, e => .ok none e
  | some m, e => (m e).bind fun r e1 => match viewD e1 r with
    | some (.int i) => .ok (some i) e1
    | _ => .bad
def eSl (m : EM) (lo hi : Option EM) : EM := fun env => (m env).bind fun r e1 => (partM lo e1).bind fun l e2 => (partM hi e2).bind fun h e3 => give e3 ((viewD e3 r).bind (gSl l h))
inductive PartOk (X : Cx) (T : Tb) (w : WX) (F : Pn) : Option Expr → Option EM → Prop where
  | none : PartOk X T w F none none
  | some {e : Expr} {m : EM} : PE X e (liftE T X.K w F m) → PartOk X T w F (some e) (some m)
def liftO (T : Tb) (K : PySem.W.Frag) (w : WX) (F : Pn) : Option EM → TO
  | none => tNoPart
  | some m => tPart (liftE T K w F m)
theorem PartOk.po {oe : Option Expr} {om : Option EM} (h : PartOk X T w F oe om) : PO X oe (liftO T X.K w F om) := by
  cases h with
  | none => exact po_none
  | some h => exact po_some h
theorem runO {om : Option EM} {f : Option Int → ME → Res ER} {k : Option Int → Hp → Prop} {Hf0 H0 : Hp} (R : Rel T K F env σ Hf H S) (st : Step S0 Hf0 H0 S Hf H) (q : EndE T K w F S0 Hf0 H0 σ Q ((partM om env).bind f))
    (h : ∀ l e1 Hf1 H1 S1, Rel T K F e1 σ Hf1 H1 S1 → Step S Hf H S1 Hf1 H1 → Step S0 Hf0 H0 S1 Hf1 H1 → EndE T K w F S0 Hf0 H0 σ Q (f l e1) → k l H1) : liftO T K w F om σ H k := by
  cases om with
  | none => exact h none env Hf H S R .refl st q
  | some m =>
    refine runE (Q := Q) (f := fun r e1 => (match viewD e1 r with
      | some (.int i) => Res.ok (some i) e1
      | _ => Res.bad).bind f) R st ?_ fun r e1 Hf1 H1 S1 v R1 s1 st1 t q1 => ?_
    · simp only [partM] at q
      cases hm : m env with
      | bad => rw [hm] at q; exact q
      | exc c fs e => rw [hm] at q; exact q
      | ok r e => rw [hm] at q; exact q
    · split at q1
      · rename_i i hi
        exact ⟨i, (t.view R1 hi).int, h (some i) e1 Hf1 H1 S1 R1 s1 st1 q1⟩
      · exact q1.elim
theorem m_sl {lo hi : Option Expr} {ml mh : Option EM} {p2 : Pos} (he : PE X e (liftE T X.K w F m)) (hl : PartOk X T w F lo ml) (hh : PartOk X T w F hi mh) : PE X (.Subscript e (.Slice lo hi none p2) pos) (liftE T X.K w F (eSl m ml mh)) :=
  PE.weak (pe_slice sl_M he hl.po hh.po) fun σ H Q ⟨env, Hf, S, R, q⟩ => runE R .refl q fun r e1 Hf1 H1 S1 v R1 _ st1 t1 q1 =>
    runO R1 st1 q1 fun l e2 Hf2 H2 S2 R2 s12 st2 q2 => runO R2 st2 q2 fun h e3 Hf3 H3 S3 R3 s23 st3 q3 => by
      obtain ⟨o, ho, q4⟩ := give_end R3 st3 q3
      obtain ⟨d, hd, ho⟩ := Option.bind_eq_some_iff.mp ho
      exact gSl_ok R3.sub ((t1.step (env' := e3) (s12.trans s23) R3.sub).view R3 hd) ho q4
/-- x[::-1] of a list -/
def gRev : D → Option OR
  | .lst xs => some (.lst xs.reverse)
  | _ => none
theorem m_rev {k : Nat} {p1 p2 p3 : Pos} (he : PE X e (liftE T X.K w F m)) : PE X (.Subscript e (.Slice none none (some (.UnaryOp .USub (.Constant (.int 1) k p1) p2)) p3) pos) (liftE T X.K w F (eU gRev m)) :=
  PE.weak (pe_revL he) fun σ H Q ⟨env, Hf, S, R, q⟩ => runE R .refl q fun r e1 Hf1 H1 S1 v R1 _ st1 t1 q1 => by
    obtain ⟨o, ho, q2⟩ := give_end R1 st1 q1
    obtain ⟨d, hd, ho⟩ := Option.bind_eq_some_iff.mp ho
    unfold gRev at ho
    split at ho
    · cases ho
      obtain ⟨a, vs, rfl, ha, ra⟩ := (t1.view R1 hd).lst R1.sub
      exact ⟨a, vs, rfl, SqL.of ha, fun p hp => q2 p _ hp ra.rev⟩
    · cases ho
/-! ## a < b < c -/
def eChain (g g' : D → D → Option OR) (ma mb mc : EM) : EM := fun env => (ma env).bind fun ra e1 => (mb e1).bind fun rb e2 => match (viewD e2 ra).bind fun x => (viewD e2 rb).bind fun y => g x y with
  | some (.val (.bl k)) => if k = true then ((mc e2).bind fun rc e3 => give e3 ((viewD e3 rb).bind fun y => (viewD e3 rc).bind fun z => g' y z)) else .ok (.fz (.bl false)) e2
  | _ => .bad
section
variable {a b c : Expr} {ma mb mc : EM} {r r' : R2} {g g' : D → D → Option OR} {op op' : CmpOp}
theorem chain_core (hg : Op2 T K r g) (hg' : Op2 T K r' g') (R : Rel T K F env σ Hf H S) (q : EndE T K w F S Hf H σ Q (eChain g g' ma mb mc env)) : tChain r r' (liftE T K w F ma) (liftE T K w F mb) (liftE T K w F mc) σ H Q :=
  runE R .refl q fun ra e1 Hf1 H1 S1 v R1 _ st1 t1 q1 => runE R1 st1 q1 fun rb e2 Hf2 H2 S2 u R2 s12 st2 t2 q2 => by
    split at q2
    · rename_i k ho
      obtain ⟨x, hx, ho⟩ := Option.bind_eq_some_iff.mp ho
      obtain ⟨y, hy, ho⟩ := Option.bind_eq_some_iff.mp ho
      refine hg R2.sub R2.nod ((t1.step (env' := e2) s12 R2.sub).view R2 hx) (t2.view R2 hy) ho fun z rz => ?_
      cases rz
      refine ⟨k, rfl, ?_⟩
      cases k with
      | true =>
        rw [if_pos rfl] at q2 ⊢
        refine runE R2 st2 q2 fun rc e3 Hf3 H3 S3 z R3 s23 st3 t3 q3 => ?_
        obtain ⟨o, ho', q4⟩ := give_end R3 st3 q3
        obtain ⟨y', hy', ho'⟩ := Option.bind_eq_some_iff.mp ho'
        obtain ⟨z', hz', ho'⟩ := Option.bind_eq_some_iff.mp ho'
        exact hg' R3.sub R3.nod ((t2.step (env' := e3) s23 R3.sub).view R3 hy') (t3.view R3 hz') ho' q4
      | false =>
        rw [if_neg (by decide)] at q2 ⊢
        exact q2 Hf2 H2 S2 _ R2 st2 (.bl false)
    · exact q2.elim
theorem m_chain (ho : OpR X (compareOp op) r) (ho' : OpR X (compareOp op') r') (hg : Op2 T X.K r g) (hg' : Op2 T X.K r' g') (ha : PE X a (liftE T X.K w F ma)) (hb : PE X b (liftE T X.K w F mb)) (hc : PE X c (liftE T X.K w F mc)) (hm : lastMarks [op, op'] [b, c] = false := by with_unfolding_all rfl) :
    PE X (.Compare a [op, op'] [b, c] pos) (liftE T X.K w F (eChain g g' ma mb mc)) :=
  PE.weak (pe_chain ho ho' ha hb hc hm) fun _ _ _ ⟨_, _, _, R, q⟩ => chain_core hg hg' R q
theorem m_tchain (ho : OpR X (compareOp op) r) (ho' : OpR X (compareOp op') r') (hg : Op2 T X.K r g) (hg' : Op2 T X.K r' g') (ha : PE X a (liftE T X.K w F ma)) (hb : PE X b (liftE T X.K w F mb)) (hc : PE X c (liftE T X.K w F mc)) (hm : lastMarks [op, op'] [b, c] = false := by with_unfolding_all rfl) :
    PT X (.Compare a [op, op'] [b, c] pos) (liftT T X.K w F (tVal (eChain g g' ma mb mc))) :=
  PT.weak (pt_chain ho ho' ha hb hc hm) fun σ H QB ⟨env, Hf, S, R, q⟩ => by
    obtain ⟨env', Hf', S', R', q'⟩ := tval_core R q
    exact chain_core hg hg' R' q'
end
/-! ## isinstance -/
def tyName : D → Option String
  | .non => some "NoneType"
  | .bl _ => some "bool"
  | .int _ => some "int"
  | .str _ => some "str"
  | .tup _ => some "tuple"
  | .lst _ => some "list"
  | .dic false _ => some "dict"
  | _ => none
/-- the answers among built-in classes -/
def subTy (a b : String) : Bool := a == b || (a == "bool" && b == "int") || b == "object"
def tyNames : List String := ["NoneType", "bool", "int", "str", "tuple", "list", "dict"]
theorem kit_bt {a b : String} (ha : a ∈ tyNames) (hb : b ∈ tyNames) : PySem.W.kitOne K (.type a) (.type b) = some (subTy a b) := by
  simp only [tyNames, List.mem_cons, List.not_mem_nil, or_false] at ha hb
  rcases ha with rfl | rfl | rfl | rfl | rfl | rfl | rfl <;> rcases hb with rfl | rfl | rfl | rfl | rfl | rfl | rfl <;> exact kit_ty (by decide +kernel)
theorem tyName_ok (s : Sub Hf H) (n : HfOk Hf) {d : D} {v : V} {a : String} (hv : View T K Hf H d v) (ht : tyName d = some a) : TyX K H v (.type a) ∧ a ∈ tyNames := by
  have r := hv.rep s
  unfold tyName at ht
  split at ht <;> first | cases ht | skip
  · rw [hv.non]; exact ⟨.base .non, by decide⟩
  · rw [hv.bl]; exact ⟨.base (.bl _), by decide⟩
  · rw [hv.int]; exact ⟨.base (.int _), by decide⟩
  · rw [hv.str]; exact ⟨.base (.str _), by decide⟩
  · cases r with | tup hh _ => exact ⟨.base (.tup hh), by decide⟩
  · cases r with | lst hh _ => exact ⟨.base (.lst hh), by decide⟩
  · cases r with
    | dK hh _ =>
      rcases hh with hh | ⟨o, hh⟩
      · exact ⟨.base (.dK hh), by decide⟩
      · exact ⟨.fDict hh, by decide⟩
def gIsi : List D → Option OR
  | [d, .ty b] => if b ∈ tyNames then (tyName d).map fun a => .val (.bl (subTy a b)) else none
  | _ => none
theorem g_isi : OpN T K (rIsi K) gIsi := by
  intro Hf H ds vs o Q s n hv h q
  unfold gIsi at h
  split at h
  · rename_i d b
    split at h
    · rename_i hb
      obtain ⟨a, ha, rfl⟩ := Option.map_eq_some_iff.mp h
      obtain ⟨v, u, rfl, h1, h2⟩ := hv.two
      obtain ⟨h3, h4⟩ := tyName_ok s n h1 ha
      have e : u = .ty b := by
        have r := h2.rep s
        cases r; rfl
      subst e
      exact ⟨v, .ty b, .type a, .type b, _, rfl, .ty b, h3, kit_bt h4 hb, q _ (.bl _)⟩
    · cases h
  · cases h
end
end Mi
namespace Mi
open PySem L2 PySem.Spec PyProof.Rows
/-! ## sums -/
section
variable {X : Cx} {T : Tb} {w : WX} {F : Pn} {K : PySem.W.Frag} {σ : L2.St} {H Hf : Hp} {S S0 : Ad} {env e1 : ME} {Q : VK} {pos : Pos}
def rSumA (K : PySem.W.Frag) : List V → Hp → VK → Prop := fun vs H Q => ∃ (a : Addr) (ns : List Int), vs = [V.ref a] ∧ (SqL K H a (ns.map V.int) ∨ SqT K H a (ns.map V.int)) ∧ Q (.int ns.sum) H
theorem cr_sumA (hc : X.calm = true) : CallR X (.builtin "sum") (rSumA X.K) := by
  intro pins s σ H vs us Q I r h
  obtain ⟨a, ns, rfl, hs, q⟩ := h
  rw [Vals.ref1 r]
  rcases hs with hs | hs
  · obtain ⟨its, rv, hl, _⟩ := I.list hs
    exact sum_raw (I.ok.hd hc) hl.isList rv.ints fun h' tk t' hk => ⟨.int _, H, I.kept hk, ⟨_, rfl⟩, q⟩
  · obtain ⟨its, rv, hl, _⟩ := I.tuple hs
    obtain ⟨xs, e⟩ := rv.ints.allInts.items
    have hn : numsOf (intItems xs).toList = ns := by rw [← e]; exact rv.ints.numsOf
    rw [nums_intItems] at hn
    have hl' : s.heap.IsTuple a its.toArray := hl
    rw [e] at hl'
    refine PySem.W.ktm_sumG (I.ok.hd hc) hl' fun h' tk t' hk => ?_
    rw [preSum_eq, List.take_of_length_le (by simp), hn]
    exact ⟨.int _, H, I.kept hk, ⟨_, rfl⟩, q⟩
def gSum : List D → Option OR
  | [.lst xs] => (intsOf xs).map fun ns => .val (.int ns.sum)
  | [.tup xs] => (intsOf xs).map fun ns => .val (.int ns.sum)
  | [.scr ns] => some (.val (.int ns.sum))
  | _ => none
theorem g_sum : OpN T K (rSumA K) gSum := by
  intro Hf H ds vs o Q s n hv h q
  unfold gSum at h
  split at h
  · obtain ⟨ns, hb, rfl⟩ := Option.map_eq_some_iff.mp h
    obtain ⟨v, rfl, hv1⟩ := hv.one
    obtain ⟨a, us, rfl, ha, ra⟩ := hv1.lst s
    have e := intsOf_rep hb ra
    subst e
    exact ⟨a, ns, rfl, .inl (SqL.of ha), q _ (.int _)⟩
  · obtain ⟨ns, hb, rfl⟩ := Option.map_eq_some_iff.mp h
    obtain ⟨v, rfl, hv1⟩ := hv.one
    obtain ⟨a, us, rfl, _, ha, ra⟩ := hv1.tupH s
    have e := intsOf_rep hb ra
    subst e
    exact ⟨a, ns, rfl, .inr (SqT.of ha), q _ (.int _)⟩
  · cases h
    obtain ⟨v, rfl, hv1⟩ := hv.one
    obtain ⟨a, rfl, ha⟩ := hv1.scr s
    exact ⟨a, _, rfl, .inl ha, q _ (.int _)⟩
  · cases h
/-! ## sorted -/
theorem sortsAt_unit {prog : Program} {w : World} {A : PySem.Around} {s : Shared} {v : Value} {as : List Addr} (r : Reads s.heap v (.tuple []) as) (hu : A.units < PySem.cLine) : PySem.W.SortsAt prog w A s (PySem.W.dataKind s.heap [.tuple []]) [v] := by
  have hal : PySem.W.AllAlike [.tuple []] := fun d hd d' hd' => by
    simp only [List.mem_singleton] at hd hd'
    subst hd hd'
    simp [PySem.W.alike, PySem.W.alikeAll]
  refine ⟨fun u hu => ?_, PyProof.Rows.tuples' true, ?_, fun h => absurd h (by simp)⟩
  · simp only [List.mem_singleton] at hu
    subst hu
    exact ⟨_, PySem.W.dataKind_some hal (List.mem_singleton.mpr rfl) r⟩
  · intro E x y a b Q ha hb hq
    obtain ⟨d, as1, hd, ra, rfl⟩ := PySem.W.dataKind_inv ha
    obtain ⟨d', as2, hd', rb, rfl⟩ := PySem.W.dataKind_inv hb
    simp only [List.mem_singleton] at hd hd'
    subst hd hd'
    have hq' : Q (PySem.W.dataLt (.tuple []) (.tuple [])) s := hq
    rw [PySem.W.dataLt_tuple] at hq'
    cases ra with
    | @tuple l o xs n _ _ h1 h2 h3 h4 =>
      cases rb with
      | @tuple l' o' xs' n' _ _ k1 k2 k3 k4 =>
        have n1 : xs.size = 0 := by simpa using SeqAt.ReadsAll.length _ _ _ h4
        have n2 : xs'.size = 0 := by simpa using SeqAt.ReadsAll.length _ _ _ k4
        refine PySem.W.kat_lt h1 h3 k1 k3 (PySem.W.katLex_alike [] [] 0 _ _ _ _ h4 k4 (by simp [PySem.W.alikeAll]) (by simp [PyData.depthAll]; omega) (fun hb _ x r t ex => by cases ex) (by rw [n1, n2]; rfl) hq')
def isTup1 : D → Bool
  | .tup (_ :: _) => true
  | _ => false
def isTN : D → Bool
  | .non => true
  | .tup _ => true
  | _ => false
/-- lists that can be sorted -/
def isE1 : List D → Bool
  | [.tup []] => true
  | _ => false
def ready (xs : List D) : Bool := xs.all okP && (xs.all fun a => xs.all fun b => PySem.W.alike (toP a) (toP b)) && (xs.all isTup1 || (xs.all fun a => !isTN a) || isE1 xs) && xs.all fun a => decide ((toP a).depth ≤ 8)
def leD : D → D → Bool := PySem.W.dataLe false toP
def rSortedM (K : PySem.W.Frag) : List V → Hp → VK → Prop := fun vs H Q => ∃ (a : Addr) (zs : List (V × D)), vs = [V.ref a] ∧ SqL K H a (zs.map (·.1)) ∧ ready (zs.map (·.2)) = true ∧ (∀ z ∈ zs, Dp K H z.1 (toP z.2)) ∧
  ∀ p, H p = none → Q (.ref p) (upd H p (.lst ((zs.mergeSort (PySem.W.dataLe false fun z => toP z.2)).map (·.1))))
theorem vals_each : ∀ {zs : List (V × D)} {us : List Value}, Vals (zs.map (·.1)) us → PySem.W.EachIs (fun u z => RelV z.1 u) us zs
  | [], _, r => by cases r; exact .nil
  | z :: zs, _, r => by
    cases r with
    | cons a b => exact .cons a (vals_each b)
theorem each_vals : ∀ {zs : List (V × D)} {us : List Value}, PySem.W.EachIs (fun u z => RelV z.1 u) us zs → Vals (zs.map (·.1)) us
  | _, _, .nil => .nil
  | _, _, .cons a b => .cons a (each_vals b)
theorem cr_sortedM (hu : X.A.units + 16 < cLine) : CallR X (.builtin "sorted") (rSortedM X.K) := by
  intro pins s σ H vs us Q I r h
  obtain ⟨a, zs, rfl, hs, rdy, hd, q⟩ := h
  obtain ⟨its, rv, hl, hz⟩ := I.list hs
  rw [Vals.ref1 r]
  have e := vals_each rv
  have er : PySem.W.EachIs (fun v (b : V × D) => ∃ as, Reads s.heap v (toP b.2) as) its zs := (PySem.W.each_mem e).mono fun u z m => Dp.reads I _ _ _ (hd z m.2) m.1
  simp only [ready, Bool.and_eq_true, List.all_eq_true, decide_eq_true_eq] at rdy
  obtain ⟨⟨⟨r1, r2⟩, r3⟩, r4⟩ := rdy
  have hal : PySem.W.AllAlike (zs.map fun z => toP z.2) := fun d h1 d' h2 => by
    obtain ⟨z, m, rfl⟩ := List.mem_map.mp h1
    obtain ⟨z', m', rfl⟩ := List.mem_map.mp h2
    exact r2 _ (List.mem_map.mpr ⟨z, m, rfl⟩) _ (List.mem_map.mpr ⟨z', m', rfl⟩)
  have fin : ∀ out : List Value, out.length = zs.length → PySem.W.EachIs (fun u z => RelV z.1 u) out (zs.mergeSort (PySem.W.dataLe false fun z => toP z.2)) → ∃ x H', Inv X pins σ H' { s with heap := PyProof.Rows.sortedAll s.heap its out.toArray } ∧ RelV x (.ref (s.heap.objs.size + 1)) ∧ Q x H' := fun out ho eo => by
    obtain ⟨ep, he'⟩ := PyProof.Rows.sortedAll_at s.heap its out.toArray
    refine ⟨.ref _, upd H (s.heap.objs.size + 1) (.lst ((zs.mergeSort (PySem.W.dataLe false fun z => toP z.2)).map (·.1))), I.laid (t' := s.toks) (fun _ _ => PyProof.Rows.sortedAll_old) (Nat.le_succ _) ⟨?_, out, ep, each_vals eo, he'⟩, rfl, q _ (I.hok.fresh (Nat.le_succ _))⟩
    rw [List.length_map, List.length_mergeSort, ← List.length_map (f := fun z : V × D => z.1)]
    exact hz
  have hz' : zs.length ≤ sizeLine := by rw [List.length_map] at hz; exact hz
  by_cases hE : isE1 (zs.map (·.2)) = true
  · have e2 : zs.map (·.2) = [.tup []] := by
      generalize zs.map (·.2) = ds at hE
      unfold isE1 at hE
      split at hE
      · rfl
      · cases hE
    have e3 : (zs.map fun z => toP z.2) = [.tuple []] := by
      have := congrArg (List.map toP) e2
      rw [List.map_map] at this
      exact this
    have hl1 : its.length = 1 := by
      rw [e.length, ← List.length_map (f := fun z : V × D => z.2), e2]; rfl
    obtain ⟨u, rfl⟩ : ∃ u, its = [u] := List.length_eq_one_iff.mp hl1
    have er' : PySem.W.EachIs (fun v (b : V × D) => ∃ as, Reads (PySem.W.sortingHeap (PySem.W.copyHeap s.heap [u]) (s.heap.objs.size + 1) [u]) v (toP b.2) as) [u] zs := er.mono fun _ _ ⟨as, r⟩ => ⟨as, PyProof.Rows.Reads.keeps (fun _ _ => PySem.W.sorting_copy_old) r⟩
    obtain ⟨as, ru⟩ : ∃ as, Reads (PySem.W.sortingHeap (PySem.W.copyHeap s.heap [u]) (s.heap.objs.size + 1) [u]) u (.tuple []) as := by
      obtain ⟨z, m, as, rr⟩ := er'.left u (List.mem_singleton.mpr rfl)
      have : toP z.2 ∈ zs.map fun z => toP z.2 := List.mem_map.mpr ⟨z, m, rfl⟩
      rw [e3, List.mem_singleton] at this
      exact ⟨as, this ▸ rr⟩
    refine PySem.W.sorted_vals hl.isList (sortsAt_unit (s := { s with heap := PySem.W.sortingHeap (PySem.W.copyHeap s.heap [u]) (s.heap.objs.size + 1) [u] }) ru (by have := hu; show X.A.units + 1 + 1 < _; omega)) (by rw [sizeLine_eq]; simp) ?_
    refine fin _ (by rw [PySem.W.sortVals_length false rfl]; exact e.length) ?_
    have := PySem.W.sortVals_data false (h' := PySem.W.sortingHeap (PySem.W.copyHeap s.heap [u]) (s.heap.objs.size + 1) [u]) e er' hal
    rw [e3] at this
    exact this
  · have hk : PySem.W.Sortable (zs.map fun z => toP z.2) := by
      rcases Bool.or_eq_true _ _ ▸ r3 with r3 | r3
      · rcases Bool.or_eq_true _ _ ▸ r3 with r3 | r3
        · refine .inl fun d h1 => ?_
          obtain ⟨z, m, rfl⟩ := List.mem_map.mp h1
          have := List.all_eq_true.mp r3 _ (List.mem_map.mpr ⟨z, m, rfl⟩)
          unfold isTup1 at this
          split at this
          · rename_i x r hx
            exact ⟨toP x, toPs r, by rw [hx]; rfl⟩
          · cases this
        · refine .inr fun d h1 => ?_
          obtain ⟨z, m, rfl⟩ := List.mem_map.mp h1
          have := List.all_eq_true.mp r3 _ (List.mem_map.mpr ⟨z, m, rfl⟩)
          generalize z.2 = dz at this
          cases dz <;> simp [isTN] at this <;> simp [toP]
      · exact absurd r3 hE
    exact PySem.W.sorted_data hl.isList e er hal hk hz' (fun b hb => by
      have := r4 _ (List.mem_map.mpr ⟨b, hb, rfl⟩)
      omega) fun out ho eo => fin out ho eo
def gSorted : List D → Option OR
  | [.lst xs] => if ready xs = true then some (.lst (xs.mergeSort leD)) else none
  | _ => none
theorem Reps.zipM {xs : List D} {vs : List V} (r : Reps T K H xs vs) : ∃ zs : List (V × D), zs.map (·.1) = vs ∧ zs.map (·.2) = xs ∧ ∀ z ∈ zs, Rep T K H z.2 z.1 := by
  induction xs generalizing vs with
  | nil => cases r; exact ⟨[], rfl, rfl, fun _ h => (nomatch h)⟩
  | cons x xs ih =>
    cases r with
    | cons a b =>
      obtain ⟨zs, e1, e2, h⟩ := ih b
      refine ⟨(_, x) :: zs, by rw [List.map_cons, e1], by rw [List.map_cons, e2], fun z hz => ?_⟩
      rcases List.mem_cons.mp hz with rfl | hz
      · exact a
      · exact h z hz
theorem Reps.unzip : ∀ {zs : List (V × D)}, (∀ z ∈ zs, Rep T K H z.2 z.1) → Reps T K H (zs.map (·.2)) (zs.map (·.1))
  | [], _ => .nil
  | z :: zs, h => .cons (h z List.mem_cons_self) (Reps.unzip fun y m => h y (List.mem_cons_of_mem _ m))
theorem ready_ok {xs : List D} (h : ready xs = true) : ∀ x ∈ xs, okP x = true := by
  simp only [ready, Bool.and_eq_true, List.all_eq_true] at h
  exact h.1.1.1
theorem g_sorted : OpN T K (rSortedM K) gSorted := by
  intro Hf H ds vs o Q s n hv h q
  unfold gSorted at h
  split at h
  · split at h
    · rename_i hr
      cases h
      obtain ⟨v, rfl, hv1⟩ := hv.one
      obtain ⟨a, us, rfl, ha, ra⟩ := hv1.lst s
      obtain ⟨zs, rfl, rfl, hz⟩ := ra.zipM
      refine ⟨a, zs, rfl, SqL.of ha, hr, fun z m => ?_, fun p hp => q p _ hp ?_⟩
      · have := ready_ok hr _ (List.mem_map.mpr ⟨z, m, rfl⟩)
        simp only [okP, Bool.and_eq_true] at this
        exact rep_dp ((hz z m).mono s) this.1
      · have e : (zs.mergeSort (PySem.W.dataLe false fun z => toP z.2)).map (·.2) = (zs.map (·.2)).mergeSort leD := PySem.W.sort_maps (fun z : V × D => z.2) fun _ _ _ _ => rfl
        rw [← e]
        exact Reps.unzip fun z m => hz z (List.mem_mergeSort.mp m)
    · cases h
  · cases h
end
end Mi
/-! enumerate of a tuple -/
namespace MiE
open PySem PySem.Spec PyProof.Rows L2
open Sem (wp)
open AutoSeq1 (wpAny_loadPart')
theorem meets_enum_tuple (l : Addr) (items : Array Value) (n : Nat) (dct : Option Addr) (sl : Array (Option Value)) :
    Meets (Builtin.«enumerate.__new__» ⟨[.type "enumerate", .ref l], []⟩) (fun _ R s => s.heap.get? l = some { cls := .type "tuple", dict := dct, data := .seq items n, slots := sl } ∧
      R (.ok (.ret (.ref (s.heap.push { cls := .type "tuple_iterator", data := .fields #[.ref l, .int 0 0] }).objs.size)))
        { s with heap := (s.heap.push { cls := .type "tuple_iterator", data := .fields #[.ref l, .int 0 0] }).push { cls := .type "enumerate", data := .fields #[.none, .bool false, .ref s.heap.objs.size, rawInt 0, .none, .none] } }) :=
  .of_wp fun prog w A R s h => by
    obtain ⟨hp, g, d, tk, os⟩ := s
    obtain ⟨hl, h⟩ := h
    have hsub := sub_enumerate
    have hL : Heap.IsTuple (Shared.heap ⟨hp, g, d, tk, os⟩) l items := ⟨_, hl, rfl, n, rfl⟩
    have q1 : ∀ {A' : Around} {E : Value → Shared → Prop} {Q : Value → Shared → Prop}, Q (.ref hp.objs.size) ⟨hp.push { cls := .type "tuple_iterator", data := .fields #[.ref l, .int 0 0] }, g, d, tk, os⟩ → wpAny (model prog w) A' (pyIter (.ref l)) Q E ⟨hp, g, d, tk, os⟩ :=
      fun q => wpAny_pyIter_tuple hL q
    wp_walk using q1
    refine wpAny_stack_any fun st => wpAny_pure ?_
    split
    · rename_i c _ _ _ _ _
      cases (c == Value.type "enumerate")
      · wp_walk using q1
        exact ⟨_, rfl, h⟩
      · wp_walk using q1
        exact ⟨_, rfl, h⟩
    · wp_walk using q1
      exact ⟨_, rfl, h⟩
theorem call_enum_tuple {prog : Program} {w : World} {A : Around} {E : Value → Shared → Prop} {s : Shared} {l : Addr} {items : Array Value} {Q : Value → Shared → Prop} (hL : s.heap.IsTuple l items)
    (h : ∀ h', IsEnum h' (s.heap.objs.size + 1) s.heap.objs.size 0 .none → h'.IsTupleIter s.heap.objs.size l 0 → h'.objs.size = s.heap.objs.size + 2 →
      (∀ b o, s.heap.get? b = some o → h'.get? b = some o) → Q (.ref (s.heap.objs.size + 1)) { s with heap := h' }) :
    wpAny (model prog w) A (call (.type "enumerate") [.ref l]) Q E s := by
  obtain ⟨⟨c, dct, dt, sl⟩, hl, hc, n, hd⟩ := hL
  replace hc : c = .type "tuple" := hc
  replace hd : dt = .seq items n := hd
  subst hc hd
  refine callType_new F.called_enumerate (by decide) (F.typeCall_enumerate_1 _) (F.newCall_enumerate_1 _) (fun obj => F.args_object_init_2 obj _) F.entry_enumerate_new
    (meets_enum_tuple l items n dct sl) ⟨hl, ?_⟩
  have hz : (s.heap.push { cls := .type "tuple_iterator", data := .fields #[.ref l, .int 0 0] }).objs.size = s.heap.objs.size + 1 := Heap.size_push ..
  show _ ∧ _
  rw [hz]
  have he : IsEnum ((s.heap.push { cls := .type "tuple_iterator", data := .fields #[.ref l, .int 0 0] }).push
      { cls := .type "enumerate", data := .fields #[.none, .bool false, .ref s.heap.objs.size, rawInt 0, .none, .none] }) (s.heap.objs.size + 1) s.heap.objs.size 0 .none := by
    have := Heap.get?_push_size (s.heap.push { cls := .type "tuple_iterator", data := .fields #[.ref l, .int 0 0] })
      (o := { cls := .type "enumerate", data := .fields #[.none, .bool false, .ref s.heap.objs.size, rawInt 0, .none, .none] }) rfl
    rw [hz] at this; exact this
  refine ⟨⟨_, he, rfl⟩, h _ he ⟨_, Heap.get?_push_of_some _ (Heap.get?_push_size _ rfl), rfl, rfl⟩ (by rw [Heap.size_push, hz]) fun b o x => Heap.get?_push_of_some _ (Heap.get?_push_of_some _ x)⟩
def IteT (K : PySem.W.Frag) (a : Addr) : It :=
  ⟨fun i H => ∃ (xs : List V) (x : V), SqT K H a xs ∧ xs[i]? = some x, fun i H v H' => ∃ T x, v = .ref T ∧ H T = none ∧ H' = upd H T (.tup [.int (i : Nat), x]) ∧ ∀ xs, SqT K H a xs → xs[i]? = some x, fun i H => ∃ xs : List V, SqT K H a xs ∧ xs.length ≤ i⟩
theorem turn_enumT {P : Program} {w : World} {K : PySem.W.Frag} {elts : List Expr} {kk : Nat} {tpos : Pos} (a e it : Addr) (ait : a ≠ it) (aen : e ≠ a) :
    Turn P w K (.Tuple elts kk tpos) (IteT K a) [e, it] e (fun i h => (∃ old, IsEnum h e it ((i : Nat) : Int) old) ∧ h.IsTupleIter it a i ∧ e ≠ it) where
  mem := by simp
  obj := fun i h st b hb => by
    obtain ⟨⟨old, he⟩, ⟨o, ho, hc, hd⟩, _⟩ := st
    have e' : b = e ∨ b = it := by simpa using hb
    rcases e' with z | z
    · rw [z]; exact ⟨_, he, fun v q => nomatch q⟩
    · rw [z]; exact ⟨o, ho, fun v q => by rw [hd] at q; cases q⟩
  keep := fun i h h' st k => let ⟨⟨old, he⟩, hi, hne⟩ := st; ⟨⟨old, k e (by simp) _ he⟩, hi.at fun o q => k it (by simp) o q, hne⟩
  item := by
    intro X hP hw hK hc i pins s σ H E I hf st hg
    subst hP hw hK
    obtain ⟨⟨old, he⟩, hit, hne⟩ := st
    obtain ⟨xs, x, hq, hx⟩ := hg
    obtain ⟨its, rv, p, hz⟩ := I.tuple hq
    obtain ⟨u, hu, ru⟩ := rv.get hx
    have hel : e < s.heap.objs.size := Heap.lt_size he
    have hil : it < s.heap.objs.size := by obtain ⟨_, q, _⟩ := hit; exact Heap.lt_size q
    have hlen : i < its.toArray.size := by
      have := (List.getElem?_eq_some_iff.mp hu).1
      simpa using this
    refine wpAny_pyNext_enum_itemD (Draws.tuple (A := X.A.in1) (I.ok.hd hc) it a ait its.toArray) he ⟨hit, (show s.heap.IsTuple a its.toArray from p)⟩ hlen hne (by simp [aen, hne]) fun x' h' tk hPx ho hst' hT hsz hk => ?_
    have ex : x' = u := by
      have h1 : its[i]? = some x' := by simpa using hPx
      rw [hu] at h1; exact (Option.some.inj h1).symm
    subst ex
    refine ⟨_, rfl, wpAny_letOwnedTupleGo_enum (s := { s with heap := h', toks := tk + 1 }) ho fun h'' he' sb => ?_⟩
    have hT2 : h''.get? s.heap.objs.size = some { cls := .type "tuple", data := .seq #[.int i tk, x'] } := (sb.2 _ (Nat.ne_of_gt hel)).trans hT
    have new : ObjOk X.prog X.w (upd H s.heap.objs.size (.tup [.int (i : Nat), x])) h'' s.heap.objs.size (.tup [.int (i : Nat), x]) :=
      ⟨by show 2 ≤ sizeLine; decide, [.int i tk, x'], .cons ⟨_, rfl⟩ (.cons ru .nil), ⟨_, hT2, rfl, _, rfl⟩⟩
    have I1 : Inv X pins σ (upd H s.heap.objs.size (.tup [.int (i : Nat), x])) { s with heap := h'', toks := tk + 1 } :=
      I.turnedNew (ch := [e, it]) (fun b ob hb q => (sb.2 b (fun z => hb (by simp [z]))).trans (hk b ob (fun z => hb (by simp [z])) (fun z => hb (by simp [z])) q)) hf (Nat.le_refl _) new
    refine ⟨.ref s.heap.objs.size, _, I1, rfl, ⟨_, x, rfl, I.hok.fresh (Nat.le_refl _), rfl, fun ys hy => by rw [I.tuple_inj hy hq]; exact hx⟩, ⟨⟨x', ?_⟩, hst'.1.at fun o q => (sb.2 it (Ne.symm hne)).trans q, hne⟩, fun b hb => ?_⟩
    · have e1 : ((i + 1 : Nat) : Int) = (i : Int) + 1 := by omega
      rw [e1]; exact he'
    · have hb' : b < s.heap.objs.size := by
        have e' : b = e ∨ b = it := by simpa using hb
        rcases e' with z | z
        · rw [z]; exact hel
        · rw [z]; exact hil
      rw [upd_ne (Nat.ne_of_lt hb')]
      exact (hf b hb).1
  done := by
    intro X hP hw hK hc i pins s σ H E I hf st hg
    subst hP hw hK
    obtain ⟨⟨old, he⟩, hit, hne⟩ := st
    obtain ⟨xs, hq, hx⟩ := hg
    obtain ⟨its, rv, p, hz⟩ := I.tuple hq
    obtain ⟨f0, f1, f2, f3, f4, f5⟩ := hf it (by simp)
    have hl := rv.length
    have hn : its.toArray[i]? = none := by simp; omega
    refine wpAny_pyNext_enum_endD (n := i) (P := fun _ _ => False) (fp := [it, a]) (St := fun j h => j = i ∧ h.IsTupleIter it a i ∧ h.IsTuple a its.toArray) ⟨fun j h st => let ⟨o, ho, _⟩ := st.2.1; ⟨o, ho⟩, fun j h h' st hk => ⟨st.1, st.2.1.at fun o e => hk it (by simp) o e, st.2.2.at fun o e => hk a (by simp) o e⟩, fun j s Q E hj st => absurd st.1 (Nat.ne_of_lt hj), fun s Q E st hE => wpAny_nextOf_tuple_end (I.ok.hd hc) st.2.1 st.2.2 hn hE⟩ he ⟨rfl, hit, (show s.heap.IsTuple a its.toArray from p)⟩ fun h' eb => ⟨rfl, I.turned (t' := s.toks) (fun b o hb q => eb b o hb q) f0 f1 f3 f4 f5⟩
  self := fun A i s Q E st h => let ⟨⟨_, he⟩, _⟩ := st; wpAny_pyIter_enum he h
def iEnumT (K : PySem.W.Frag) (ta : TA) : TI := fun σ H R => ta σ H fun vs H1 => ∃ a xs, vs = [.ref a] ∧ ((SqL K H1 a xs ∧ R (Ite K a) H1) ∨ (SqT K H1 a xs ∧ R (IteT K a) H1))
theorem pi_enumT {X : Cx} {e : Expr} {ta : TA} {p pos tpos : Pos} {elts : List Expr} {kk : Nat} (hg : Gl X "enumerate") (hm : X.mg "enumerate" = none) (ha : PA X [e] ta) (hs : starEach [e] X.env = [(false, eval e X.env)] := by rfl) :
    PI X (.Tuple elts kk tpos) (.Call (.Name "enumerate" p) [e] [] pos) (iEnumT X.K ta) := by
  refine ⟨fun pins s σ H R I h => ?_⟩
  refine Call_ (ld_blt I hg hm boot_enumerate (PyProof.Rows.callWith_type1 (thn (ha.run pos pins s σ H _ I h) fun us s1 ⟨vs, H1, I1, r1, q1⟩ => ?_) hs rfl))
  obtain ⟨a, xs, ex, q1⟩ := q1
  subst ex
  cases r1 with
  | cons r rr =>
    cases rr
    cases r
    have fpk : ∀ b, b ∈ [s1.heap.objs.size + 1, s1.heap.objs.size] → FpOk X pins H1 b := fun b hb => by
      have e' : b = s1.heap.objs.size + 1 ∨ b = s1.heap.objs.size := by simpa using hb
      have hle : s1.heap.objs.size ≤ b := by
        rcases e' with z | z
        · rw [z]; exact Nat.le_add_right _ _
        · rw [z]; exact Nat.le_refl _
      exact I1.fpOk hle (I1.hok.fresh hle)
    rcases q1 with ⟨hq, q⟩ | ⟨hq, q⟩
    · obtain ⟨its, rv, p', hz⟩ := I1.list hq
      refine call_enumerate_list p'.isList fun h' he hit hsz hk => wpAny_pyIter_enum he ?_
      have I2 : Inv X pins σ H1 { s1 with heap := h' } := I1.kept (t' := s1.toks) hk
      exact ⟨s1.heap.objs.size + 1, [s1.heap.objs.size + 1, s1.heap.objs.size], _, _, H1, rfl, I2, turn_enum a (s1.heap.objs.size + 1) s1.heap.objs.size, ⟨⟨.none, he⟩, hit, Nat.succ_ne_self _⟩, fpk, q⟩
    · obtain ⟨its, rv, p', hz⟩ := I1.tuple hq
      obtain ⟨o1, ho1, _⟩ := id p'
      have hlt := Heap.lt_size ho1
      refine call_enum_tuple (show s1.heap.IsTuple a its.toArray from p') fun h' he hit hsz hk => wpAny_pyIter_enum he ?_
      have I2 : Inv X pins σ H1 { s1 with heap := h' } := I1.kept (t' := s1.toks) hk
      exact ⟨s1.heap.objs.size + 1, [s1.heap.objs.size + 1, s1.heap.objs.size], _, _, H1, rfl, I2, turn_enumT a (s1.heap.objs.size + 1) s1.heap.objs.size (Nat.ne_of_lt hlt) (Ne.symm (Nat.ne_of_lt (Nat.lt_succ_of_lt hlt))), ⟨⟨.none, he⟩, hit, Nat.succ_ne_self _⟩, fpk, q⟩
end MiE
namespace Mi
open PySem L2
section
variable {X : Cx} {T : Tb} {w : WX} {F : Pn} {K : PySem.W.Frag} {σ : St} {H Hf : Hp} {S S0 : Ad} {env e1 : ME} {Q : VK} {pos : Pos}
def enum2 : List ER → Option (List D)
  | [.fz (.lst xs)] => some (enumL 0 xs)
  | [.fz (.tup xs)] => some (enumL 0 xs)
  | _ => none
theorem it_enumT {a : Addr} {vs : List V} {xs : List D} (h : SqT K Hf a vs) (r : Reps T K Hf xs vs) : ItOk T K (MiE.IteT K a) (enumL 0 xs) Hf := fun Hf2 H i s1 s2 _ => by
  have hL : SqT K H a vs := (s1.trans s2).sqT h
  refine ⟨fun d e => ?_, fun e => ⟨vs, hL, r.lenV (by simpa [enumL_length] using e)⟩⟩
  obtain ⟨x, ex, rfl⟩ := enumL_get xs 0 i d e
  obtain ⟨v, ev, rv⟩ := r.get ex
  refine ⟨⟨vs, v, hL, ev⟩, fun u H' y => ?_⟩
  obtain ⟨p, v', rfl, hp, rfl, q⟩ := y
  have := q vs hL
  rw [ev] at this; cases this
  have hp2 : Hf2 p = none := by
    cases z : Hf2 p with
    | none => rfl
    | some o => rw [s2 p o z] at hp; cases hp
  exact ⟨_, .tup hp, .tup upd_same (.cons (by rw [show ((0 + i : Nat) : Int) = (i : Int) by simp]; exact .int _) (.cons ((rv.mono s1).mono (sub_upd hp2)) .nil))⟩
theorem m_ienum2 {e : Expr} {n : AM} {p pos tpos : Pos} {elts : List Expr} {kk : Nat} (hg : Gl X "enumerate") (hm : X.mg "enumerate" = none) (ha : PA X [e] (liftA T X.K w F n)) (hs : starEach [e] X.env = [(false, eval e X.env)] := by rfl) :
    PI X (.Tuple elts kk tpos) (.Call (.Name "enumerate" p) [e] [] pos) (liftI T X.K w F (iArgs enum2 n)) := by
  refine ⟨fun pins s σ H R I ⟨env, Hf, S, RR, q⟩ => (MiE.pi_enumT hg hm ha hs).run pins s σ H R I ?_⟩
  refine args_core RR q fun rs xs e Hf1 H1 S1 vs hx sub t q1 => ?_
  unfold enum2 at hx
  split at hx
  · cases hx
    cases t with
    | cons a b =>
      cases b
      cases (show Rep T X.K Hf1 _ _ from a) with
      | lst hs r => exact ⟨_, _, rfl, .inl ⟨SqL.of (sub _ _ hs), q1 _ (it_enum (SqL.of hs) r)⟩⟩
  · cases hx
    cases t with
    | cons a b =>
      cases b
      cases (show Rep T X.K Hf1 _ _ from a) with
      | tup hs r => exact ⟨_, _, rfl, .inr ⟨SqT.of (sub _ _ hs), q1 _ (it_enumT (SqT.of hs) r)⟩⟩
  · cases hx
/-! ## list(range(..)) -/
noncomputable def lstRg (i j : Int) : Option OR := if small62 i = true ∧ small62 j = true ∧ (j - i).toNat ≤ 16777216 then some (.lst (rng i (j - i).toNat)) else none
noncomputable def gRg1 : D → Option OR
  | .int j => lstRg 0 j
  | _ => none
noncomputable def gRg2 : D → D → Option OR
  | .int i, .int j => lstRg i j
  | _, _ => none
theorem rng_rep (i j : Int) : Reps T K H (rng i (j - i).toNat) (rgV i j) := by
  unfold rng rgV
  exact Reps.ofFn (fun k => .int _) _
theorem lstRg_ok {i j : Int} {o : OR} {Q : VK} (h : lstRg i j = some o) (q : OREnd T K Hf H Q o) : RgOk i j ∧ ∀ p, H p = none → Q (.ref p) (upd H p (.lst (rgV i j))) := by
  unfold lstRg at h
  split at h
  · rename_i hc
    cases h
    have h1 := small62_of hc.1
    have h2 := small62_of hc.2.1
    exact ⟨⟨h1.1, h1.2, h2.1, h2.2, hc.2.2⟩, fun p hp => q p _ hp (rng_rep i j)⟩
  · cases h
theorem m_lstRg1 {a : Expr} {ma : EM} {p p2 pos2 : Pos} (hc : X.calm = true) (hgl : Gl X "list") (hml : X.mg "list" = none) (hg : Gl X "range") (hm : X.mg "range" = none) (ha : PE X a (liftE T X.K w F ma)) (na : starEach [a] X.env = (false, eval a X.env) :: starEach [] X.env := by rfl)
    (nb : starEach [.Call (.Name "range" p2) [a] [] pos2] X.env = (false, eval (.Call (.Name "range" p2) [a] [] pos2) X.env) :: starEach [] X.env := by rfl) :
    PE X (.Call (.Name "list" p) [.Call (.Name "range" p2) [a] [] pos2] [] pos) (liftE T X.K w F (eU gRg1 ma)) :=
  PE.weak (pe_listRg hc hgl hml (prg_1 hg hm ha na) nb) fun σ H Q ⟨env, Hf, S, R, q⟩ => by
    refine op1_core (r := fun x H Q => ∃ n, x = .int n ∧ (RgOk 0 n ∧ ∀ q, H q = none → Q (.ref q) (upd H q (.lst (rgV 0 n))))) (g := gRg1) ?_ R q
    intro Hf H d v o Q s n hv h q
    unfold gRg1 at h
    split at h
    · exact ⟨_, hv.int, lstRg_ok h q⟩
    · cases h
theorem m_lstRg2 {a b : Expr} {ma mb : EM} {p p2 pos2 : Pos} (hc : X.calm = true) (hgl : Gl X "list") (hml : X.mg "list" = none) (hg : Gl X "range") (hm : X.mg "range" = none) (ha : PE X a (liftE T X.K w F ma)) (hb : PE X b (liftE T X.K w F mb)) (na : starEach [a, b] X.env = (false, eval a X.env) :: starEach [b] X.env := by rfl)
    (nb : starEach [b] X.env = (false, eval b X.env) :: starEach [] X.env := by rfl) (hp : (backTo pos2 (starEach [b] X.env)).any (·.1) = false := by rfl)
    (nc : starEach [.Call (.Name "range" p2) [a, b] [] pos2] X.env = (false, eval (.Call (.Name "range" p2) [a, b] [] pos2) X.env) :: starEach [] X.env := by rfl) :
    PE X (.Call (.Name "list" p) [.Call (.Name "range" p2) [a, b] [] pos2] [] pos) (liftE T X.K w F (eB gRg2 ma mb)) :=
  PE.weak (pe_listRg hc hgl hml (prg_2 hg hm ha hb na nb hp) nc) fun σ H Q ⟨env, Hf, S, R, q⟩ => by
    refine op2_core (r := fun x y H Q => ∃ i j, x = .int i ∧ y = .int j ∧ (RgOk i j ∧ ∀ q, H q = none → Q (.ref q) (upd H q (.lst (rgV i j))))) (g := gRg2) ?_ R q
    intro Hf H d e v u o Q s n hv hu h q
    unfold gRg2 at h
    split at h
    · exact ⟨_, _, hv.int, hu.int, lstRg_ok h q⟩
    · cases h
end
end Mi
namespace Mi
open PySem L2
/-! ## for row in [a, b]: the lists of two slots, each in turn written by the name row -/
def moveS (env : ME) (i j : Nat) : Option ME := if j < env.length then (slot env i).map fun t => (env.set i none).set j (some t) else none
def turnA (ia ir : Nat) (body : SM) (env : ME) : Option ME := (moveS env ia ir).bind fun e => match body e with
  | .nx e1 => moveS e1 ir ia
  | .ct e1 => moveS e1 ir ia
  | _ => none
def isLs : Option OT → Bool
  | some (.lst _) => true
  | _ => false
def sAl2 (ia ib ir : Nat) (body : SM) : SM := fun env => if (slot env ia).isSome = true ∧ (slot env ib).isSome = true then (match (turnA ia ir body env).bind (turnA ib ir body) with
  | some e => .nx e
  | none => .bad) else .bad
section
variable {X : Cx} {T : Tb} {w : WX} {F : Pn} {K : PySem.W.Frag} {σ : St} {H Hf : Hp} {S S0 : Ad} {env e1 : ME} {Q : VK} {pos : Pos}
theorem Rel.pin (R : Rel T K F env σ Hf H S) {i : Nat} {v : V} (h : σ[i]? = some (some v)) : Rel T K ⟨(i, v) :: F.sl, F.hp⟩ env σ Hf H S :=
  ⟨R.sub, R.nod, R.len, R.cells, R.owned, R.there, fun p hp => by
    rcases List.mem_cons.mp hp with rfl | hp
    · exact h
    · exact R.pins p hp, R.stand⟩
theorem Rel.unpinS {F' : Pn} (R : Rel T K F' env σ Hf H S) (h : ∀ p ∈ F.sl, p ∈ F'.sl) (h2 : F.hp = F'.hp) : Rel T K F env σ Hf H S :=
  ⟨R.sub, R.nod, R.len, R.cells, R.owned, R.there, fun p hp => R.pins p (h p hp), fun p hp => R.stand p (h2 ▸ hp)⟩
theorem set_self {σ : St} {i : Nat} {x : Option V} (h : σ[i]? = some x) : σ.set i x = σ := by
  apply List.ext_getElem?
  intro j
  by_cases e : i = j
  · subst e
    rw [List.getElem?_set_self (List.getElem?_eq_some_iff.mp h).1, h]
  · rw [List.getElem?_set_ne e]
theorem Rel.moveS (R : Rel T K F env σ Hf H S) {i j : Nat} {v : V} {e1 : ME} (h : moveS env i j = some e1) (hv : σ[i]? = some (some v)) (hF : ∀ p ∈ F.sl, p.1 ≠ j) : ∃ S1, Rel T K F e1 (σ.set j (some v)) Hf H S1 ∧ Step S Hf H S1 Hf H := by
  unfold Mi.moveS at h
  split at h
  · rename_i hj
    obtain ⟨t, ht, rfl⟩ := Option.map_eq_some_iff.mp h
    obtain ⟨v', P, ev, o, hP, R2⟩ := R.take ht
    rw [hv] at ev; cases ev
    exact ⟨_, R2.setOw o (fun a z => ⟨fun n => n.2 z, R.owned a (hP a z)⟩) (by rw [List.length_set]; exact hj) hF, Step.any Step.refl fun a z => z.elim (fun z => .inl z.1) fun z => .inl (hP a z)⟩
  · cases h
theorem Rel.moveB {F' : Pn} (R : Rel T K F' env σ Hf H S) {i j : Nat} {v : V} {e1 : ME} (h : Mi.moveS env i j = some e1) (hv : σ[i]? = some (some v)) (hv2 : σ[j]? = some (some v)) (hF : ∀ p ∈ F.sl, p ∈ F'.sl) (h2 : F.hp = F'.hp) : ∃ S1, Rel T K F e1 σ Hf H S1 ∧ Step S Hf H S1 Hf H := by
  obtain ⟨S1, R1, st⟩ := Rel.moveS (R.unpinS (F := ⟨[], F.hp⟩) (fun _ h => (nomatch h)) h2) h hv fun _ h => (nomatch h)
  rw [set_self hv2] at R1
  exact ⟨S1, ⟨R1.sub, R1.nod, R1.len, R1.cells, R1.owned, R1.there, fun p hp => R.pins p (hF p hp), R1.stand⟩, st⟩
variable {body : List Stmt} {sb : SM} {ia ib ir : Nat} {a b x : Str} {pa pb px lp : Pos}
abbrev pin3 (F : Pn) (ia ib ir : Nat) (va vb vr : V) : Pn := ⟨(ia, va) :: (ib, vb) :: (ir, vr) :: F.sl, F.hp⟩
theorem m_alias2 (hp : PassesOwn (model X.prog X.w) X.A X.env X.xe) (hc : X.calm = true) (hN : X.N.Nodup) (hia : X.N[ia]? = some a) (hib : X.N[ib]? = some b) (hir : X.N[ir]? = some x) (hva : Vis X.env.scope a) (hvb : Vis X.env.scope b) (hx : Loc X.env.scope x)
    (hF : (F.sl.all fun p => p.1 != ia && p.1 != ib && p.1 != ir) = true) (hne : ia ≠ ib ∧ ia ≠ ir ∧ ib ≠ ir) (hb : ∀ va vb vr, PSs X body (liftS T X.K w (pin3 F ia ib ir va vb vr) sb))
    (hda : (a == ("__debug__" : Str)) = false := by decide) (hdb : (b == ("__debug__" : Str)) = false := by decide) (hca : (a == ("__classdict__" : Str)) = false := by decide) (hcb : (b == ("__classdict__" : Str)) = false := by decide)
    (hf : X.fn x = true ∨ X.env.scope.names.lookup x = some .local := by first | exact .inl rfl | exact .inr rfl | assumption)
    (hs1 : starEach [.Name a pa, .Name b pb] X.env = (false, eval (.Name a pa) X.env) :: starEach [.Name b pb] X.env := by rfl) (hs2 : starEach [.Name b pb] X.env = (false, eval (.Name b pb) X.env) :: starEach [] X.env := by rfl)
    (hs : ∀ x, foldedSetIterable (.List [.Name a pa, .Name b pb] lp) X.env x = pure x := by intro _; rfl) :
    PS X (.For (.Name x px) (.List [.Name a pa, .Name b pb] lp) body [] pos) (liftS T X.K w F (sAl2 ia ib ir sb)) := by
  refine ⟨fun pins s σ H D I h => ?_⟩
  obtain ⟨env, Hf, S, R, q⟩ := h
  simp only [sAl2] at q
  split at q
  rotate_left
  · exact q.elim
  rename_i hsome
  obtain ⟨ta, hta⟩ := Option.isSome_iff_exists.mp hsome.1
  obtain ⟨tb, htb⟩ := Option.isSome_iff_exists.mp hsome.2
  obtain ⟨va, Pa, eva, _, _⟩ := R.at hta
  obtain ⟨vb, Pb, evb, _, _⟩ := R.at htb
  cases h12 : (turnA ia ir sb env).bind (turnA ib ir sb) with
  | none => rw [h12] at q; exact q.elim
  | some e4 =>
    rw [h12] at q
    obtain ⟨e2, h1, h2⟩ := Option.bind_eq_some_iff.mp h12
    have hFa : ∀ p ∈ F.sl, p.1 ≠ ia ∧ p.1 ≠ ib ∧ p.1 ≠ ir := fun p hp => by
      have := List.all_eq_true.mp hF p hp
      simp only [Bool.and_eq_true, bne_iff_ne] at this
      exact ⟨this.1.1, this.1.2, this.2⟩
    refine (ps_for (wi := iList X.K (tLst (tCons (tVar ia) (tCons (tVar ib) tNil)))) (g := gName ir) (tb := fun D σ H => ∃ va vb vr, liftS T X.K w (pin3 F ia ib ir va vb vr) sb D σ H) hp hc (pi_list (pe_lst (pa_cons (pe_var hia hva hda hca) (pa_cons (pe_var hib hvb hdb hcb) pa_nil hs2) hs1))) (pg_name hN hir hx hf) ⟨fun pins s σ H D I ⟨va, vb, vr, h⟩ => (hb va vb vr).run pins s σ H D I h⟩ hs).run pins s σ H D I ?_
    refine ⟨va, eva, vb, evb, ?_⟩
    refine ⟨by show 2 ≤ sizeLine; rw [sizeLine_eq]; decide, fun L hL => ?_⟩
    obtain ⟨R1, st1⟩ := R.newFz (o := .lst [va, vb]) hL ⟨fun _ e => (nomatch e), fun _ e => (nomatch e)⟩
    refine ⟨L, rfl, ⟨_, SqL.of upd_same⟩, ?_⟩
    -- one turn
    have turn : ∀ {j : Nat} {v : V} {env1 env2 : ME} {σ1 : St} {Hf1 H1 : Hp} {S1 : Ad}, (j = ia ∧ v = va ∨ j = ib ∧ v = vb) → turnA j ir sb env1 = some env2 → Rel T X.K F env1 σ1 Hf1 H1 S1 → Step S Hf H S1 Hf1 H1 → σ1[ia]? = some (some va) → σ1[ib]? = some (some vb) → Hf1 L = some (.lst [va, vb]) →
        ∀ N : St → Hp → Prop, (∀ σ2 Hf2 H2 S2, Rel T X.K F env2 σ2 Hf2 H2 S2 → Step S Hf H S2 Hf2 H2 → σ2[ia]? = some (some va) → σ2[ib]? = some (some vb) → Hf2 L = some (.lst [va, vb]) → N σ2 H2) →
        ∃ wa wb wr, liftS T X.K w (pin3 F ia ib ir wa wb wr) sb { D with nx := N, ct := N, bk := D.nx } (σ1.set ir (some v)) H1 := by
      intro j v env1 env2 σ1 Hf1 H1 S1 hj ht R1 st1 ha hb hL1 N hN
      have hjv : σ1[j]? = some (some v) := hj.elim (fun z => by rw [z.1, z.2]; exact ha) fun z => by rw [z.1, z.2]; exact hb
      have hjr : j ≠ ir := hj.elim (fun z => z.1 ▸ hne.2.1) fun z => z.1 ▸ hne.2.2
      unfold turnA at ht
      obtain ⟨e0, hm, ht⟩ := Option.bind_eq_some_iff.mp ht
      obtain ⟨S2, R2, st2⟩ := Rel.moveS R1 hm hjv fun p hp => (hFa p hp).2.2
      have hir1 : ir < σ1.length := by
        rw [R1.len]
        unfold Mi.moveS at hm
        split at hm
        · assumption
        · cases hm
      have pr : (σ1.set ir (some v))[ir]? = some (some v) := List.getElem?_set_self hir1
      have pa' : (σ1.set ir (some v))[ia]? = some (some va) := by rw [List.getElem?_set_ne (Ne.symm hne.2.1)]; exact ha
      have pb' : (σ1.set ir (some v))[ib]? = some (some vb) := by rw [List.getElem?_set_ne (Ne.symm hne.2.2)]; exact hb
      have R3 : Rel T X.K (pin3 F ia ib ir va vb v) e0 (σ1.set ir (some v)) Hf1 H1 S2 := ((R2.pin pr).pin pb').pin pa'
      refine ⟨va, vb, v, e0, Hf1, S2, R3, ?_⟩
      have fin : ∀ e1 σ' Hf' H' S', Rel T X.K (pin3 F ia ib ir va vb v) e1 σ' Hf' H' S' → Step S2 Hf1 H1 S' Hf' H' → Mi.moveS e1 ir j = some env2 → N σ' H' := fun e1 σ' Hf' H' S' R' st' hmv => by
        have q1 : σ'[ia]? = some (some va) := R'.pins (ia, va) (by simp)
        have q2 : σ'[ib]? = some (some vb) := R'.pins (ib, vb) (by simp)
        have q3 : σ'[ir]? = some (some v) := R'.pins (ir, v) (by simp)
        have q4 : σ'[j]? = some (some v) := hj.elim (fun z => by rw [z.1, z.2]; exact q1) fun z => by rw [z.1, z.2]; exact q2
        obtain ⟨S3, R4, st4⟩ := Rel.moveB (F := F) R' hmv q3 q4 (fun p hp => by simp [hp]) rfl
        exact hN σ' Hf' H' S3 R4 (((st1.trans st2).trans st').trans st4) q1 q2 (st'.fz _ _ hL1)
      cases hbo : sb e0 with
      | nx e1 => rw [hbo] at ht; exact fun σ' Hf' H' S' R' st' => fin e1 σ' Hf' H' S' R' st' ht
      | ct e1 => rw [hbo] at ht; exact fun σ' Hf' H' S' R' st' => fin e1 σ' Hf' H' S' R' st' ht
      | bk _ => rw [hbo] at ht; cases ht
      | ret _ _ => rw [hbo] at ht; cases ht
      | exc _ _ _ => rw [hbo] at ht; cases ht
      | bad => rw [hbo] at ht; cases ht
    have go : ∀ {Hf1 H1 : Hp}, Sub Hf1 H1 → Hf1 L = some (.lst [va, vb]) → SqL X.K H1 L [va, vb] := fun s h => SqL.of (s _ _ h)
    refine ⟨fun i m σ2 H2 => m = 2 - i ∧ ∃ env2 Hf2 S2, Rel T X.K F env2 σ2 Hf2 H2 S2 ∧ Step S Hf H S2 Hf2 H2 ∧ σ2[ia]? = some (some va) ∧ σ2[ib]? = some (some vb) ∧ Hf2 L = some (.lst [va, vb]) ∧ ((i = 0 ∧ turnA ia ir sb env2 = some e2) ∨ (i = 1 ∧ env2 = e2) ∨ (i = 2 ∧ env2 = e4)),
      ⟨2, rfl, env, _, S, R1, st1, eva, evb, upd_same, .inl ⟨rfl, h1⟩⟩, ?_⟩
    rintro i m σ2 H2 ⟨rfl, env2, Hf2, S2, R2, st2, pa2, pb2, hL2, hi⟩
    have sq := go R2.sub hL2
    rcases hi with ⟨rfl, ht⟩ | ⟨rfl, rfl⟩ | ⟨rfl, rfl⟩
    · refine .inr ⟨⟨_, va, sq, rfl⟩, fun σ' H' => ∃ env2 Hf2 S2, Rel T X.K F env2 σ' Hf2 H' S2 ∧ Step S Hf H S2 Hf2 H' ∧ σ'[ia]? = some (some va) ∧ σ'[ib]? = some (some vb) ∧ Hf2 L = some (.lst [va, vb]) ∧ env2 = e2, fun σ' H' ⟨env2, Hf2, S2, a, b, c, d, e, f⟩ => ⟨1, by decide, rfl, env2, Hf2, S2, a, b, c, d, e, .inr (.inl ⟨rfl, f⟩)⟩, fun y H' hy => ?_⟩
      obtain ⟨rfl, hy⟩ := hy
      have : y = va := by
        have := hy _ sq
        simpa using this.symm
      subst this
      exact turn (.inl ⟨rfl, rfl⟩) ht R2 st2 pa2 pb2 hL2 _ fun σ2 Hf2 H2 S2 a b c d e => ⟨_, Hf2, S2, a, b, c, d, e, rfl⟩
    · refine .inr ⟨⟨_, vb, sq, rfl⟩, fun σ' H' => ∃ env2 Hf2 S2, Rel T X.K F env2 σ' Hf2 H' S2 ∧ Step S Hf H S2 Hf2 H' ∧ σ'[ia]? = some (some va) ∧ σ'[ib]? = some (some vb) ∧ Hf2 L = some (.lst [va, vb]) ∧ env2 = e4, fun σ' H' ⟨env2, Hf2, S2, a, b, c, d, e, f⟩ => ⟨0, by decide, rfl, env2, Hf2, S2, a, b, c, d, e, .inr (.inr ⟨rfl, f⟩)⟩, fun y H' hy => ?_⟩
      obtain ⟨rfl, hy⟩ := hy
      have : y = vb := by
        have := hy _ sq
        simpa using this.symm
      subst this
      exact turn (.inr ⟨rfl, rfl⟩) h2 R2 st2 pa2 pb2 hL2 _ fun σ2 Hf2 H2 S2 a b c d e => ⟨_, Hf2, S2, a, b, c, d, e, rfl⟩
    · exact .inl ⟨⟨_, sq, by simp⟩, q σ2 Hf2 H2 S2 R2 st2⟩
end
end Mi
namespace Mi
open PySem L2
/-! ## one step of a mirror at a time: what follows waits for what is ahead -/
section
variable {α β : Type} {e : ME} {a : α} {c : Str} {fs : List (Str × D)}
@[simp] theorem bind_ok {f : α → ME → Res β} : (Res.ok a e).bind f = f a e := (rfl)
@[simp] theorem bind_exc {f : α → ME → Res β} : (Res.exc c fs e : Res α).bind f = .exc c fs e := (rfl)
@[simp] theorem bind_bad {f : α → ME → Res β} : (Res.bad : Res α).bind f = .bad := (rfl)
theorem bind_congr {r r' : Res α} {f : α → ME → Res β} (h : r = r') : r.bind f = r'.bind f := by rw [h]
@[simp] theorem then_nx {f : ME → SR} : (SR.nx e).then f = f e := (rfl)
@[simp] theorem then_ret {f : ME → SR} {t : OT} : (SR.ret t e).then f = .ret t e := (rfl)
@[simp] theorem then_bk {f : ME → SR} : (SR.bk e).then f = .bk e := (rfl)
@[simp] theorem then_ct {f : ME → SR} : (SR.ct e).then f = .ct e := (rfl)
@[simp] theorem then_exc {f : ME → SR} : (SR.exc c fs e).then f = .exc c fs e := (rfl)
@[simp] theorem then_bad {f : ME → SR} : SR.bad.then f = .bad := (rfl)
theorem then_congr {r r' : SR} {f : ME → SR} (h : r = r') : r.then f = r'.then f := by rw [h]
@[simp] theorem ofRes_ok {f : α → ME → SR} : ofRes (Res.ok a e) f = f a e := (rfl)
@[simp] theorem ofRes_exc {f : α → ME → SR} : ofRes (Res.exc c fs e : Res α) f = .exc c fs e := (rfl)
@[simp] theorem ofRes_bad {f : α → ME → SR} : ofRes (Res.bad : Res α) f = .bad := (rfl)
theorem ofRes_congr {r r' : Res α} {f : α → ME → SR} (h : r = r') : ofRes r f = ofRes r' f := by rw [h]
end
@[simp] theorem ap_eVar (i : Nat) (env : ME) : eVar i env = match slot env i with
  | some (.fz d) => .ok (.fz d) env
  | some _ => .ok (.bor i) env
  | none => .bad := (rfl)
@[simp] theorem ap_eC (d : D) (env : ME) : eC d env = .ok (.fz d) env := (rfl)
@[simp] theorem ap_eU (g : D → Option OR) (m : EM) (env : ME) : eU g m env = (m env).bind fun r e => give e ((viewD e r).bind g) := (rfl)
@[simp] theorem ap_eB (g : D → D → Option OR) (m n : EM) (env : ME) : eB g m n env = (m env).bind fun r e1 => (n e1).bind fun s e2 => give e2 ((viewD e2 r).bind fun d => (viewD e2 s).bind fun d' => g d d') := (rfl)
@[simp] theorem ap_aNil  (env : ME) : aNil  env = .ok [] env := (rfl)
@[simp] theorem ap_aCons (m : EM) (n : AM) (env : ME) : aCons m n env = (m env).bind fun r e1 => (n e1).bind fun rs e2 => .ok (r :: rs) e2 := (rfl)
@[simp] theorem ap_eN (g : List D → Option OR) (m : AM) (env : ME) : eN g m env = (m env).bind fun rs e => give e ((viewAll e rs).bind g) := (rfl)
@[simp] theorem ap_tVal (m : EM) (env : ME) : tVal m env = (m env).bind fun r e => giveB e (boolOf (viewD e r)) := (rfl)
@[simp] theorem ap_tNotM (m : TM) (env : ME) : tNotM m env = (m env).bind fun b e => .ok (!b) e := (rfl)
@[simp] theorem ap_tAndM (m n : TM) (env : ME) : tAndM m n env = (m env).bind fun b e => if b = true then n e else .ok false e := (rfl)
@[simp] theorem ap_tOrM (m n : TM) (env : ME) : tOrM m n env = (m env).bind fun b e => if b = true then .ok true e else n e := (rfl)
@[simp] theorem ap_eTest (m : TM) (env : ME) : eTest m env = (m env).bind fun b e => .ok (.fz (.bl b)) e := (rfl)
@[simp] theorem ap_eIf (c : TM) (m n : EM) (env : ME) : eIf c m n env = (c env).bind fun b e => if b = true then m e else n e := (rfl)
@[simp] theorem ap_eAnd (m n : EM) (env : ME) : eAnd m n env = (tVal m env).bind fun b e => if b = true then n e else .ok (.fz (.bl false)) e := (rfl)
@[simp] theorem ap_eOr (m n : EM) (env : ME) : eOr m n env = (tVal m env).bind fun b e => if b = true then .ok (.fz (.bl true)) e else n e := (rfl)
@[simp] theorem ap_eNot (m : EM) (env : ME) : eNot m env = (tVal m env).bind fun b e => .ok (.fz (.bl (!b))) e := (rfl)
@[simp] theorem ap_eFrz (m : EM) (env : ME) : eFrz m env = (m env).bind fun r e => match r with
  | .fz d => .ok (.fz d) e
  | .new t => .ok (.fz t.er) e
  | .bor i => match slot e i with
    | some t => .ok (.fz t.er) (e.set i (some (.fz t.er)))
    | none => .bad := (rfl)
@[simp] theorem ap_sSkip  (env : ME) : sSkip  env = .nx env := (rfl)
@[simp] theorem ap_sSeq (a b : SM) (env : ME) : sSeq a b env = (a env).then b := (rfl)
@[simp] theorem ap_sDrop (m : EM) (env : ME) : sDrop m env = ofRes (m env) fun _ e => .nx e := (rfl)
@[simp] theorem ap_sSet (i : Nat) (m : EM) (env : ME) : sSet i m env = ofRes (m env) fun r e => if i < e.length then (match r with
  | .fz d => .nx (e.set i (some (.fz d)))
  | .new t => .nx (e.set i (some t))
  | .bor _ => .bad) else .bad := (rfl)
@[simp] theorem ap_sTgt (tg : Tg) (m : EM) (env : ME) : sTgt tg m env = ofRes (m env) fun r e => match r with
  | .fz d => (match setT tg d e with
    | some e' => .nx e'
    | none => .bad)
  | _ => .bad := (rfl)
@[simp] theorem ap_sRet (m : EM) (env : ME) : sRet m env = ofRes (m env) fun r e => match r with
  | .fz d => .ret (.fz d) e
  | .new t => .ret t e
  | .bor i => match slot e i with
    | some t => .ret t (e.set i none)
    | none => .bad := (rfl)
@[simp] theorem ap_sRetN  (env : ME) : sRetN  env = .ret (.fz .non) env := (rfl)
@[simp] theorem ap_sBrk  (env : ME) : sBrk  env = .bk env := (rfl)
@[simp] theorem ap_sCnt  (env : ME) : sCnt  env = .ct env := (rfl)
@[simp] theorem ap_sBad  (env : ME) : sBad  env = .bad := (rfl)
@[simp] theorem ap_sIf (c : TM) (a b : SM) (env : ME) : sIf c a b env = ofRes (c env) fun k e => if k = true then a e else b e := (rfl)
@[simp] theorem ap_iAny (m : EM) (env : ME) : iAny m env = (eFrz m env).bind iEnd := (rfl)
@[simp] theorem ap_iRange (g : Option (List D) → Option (List D)) (m : AM) (env : ME) : iRange g m env = (m env).bind fun rs e => match g (viewAll e rs) with
  | some xs => .ok xs e
  | none => .bad := (rfl)
@[simp] theorem ap_iArgs (g : List ER → Option (List D)) (m : AM) (env : ME) : iArgs g m env = (m env).bind fun rs e => match g rs with
  | some xs => .ok xs e
  | none => .bad := (rfl)
@[simp] theorem ap_sFor (it : IM) (tg : Tg) (body : SM) (env : ME) : sFor it tg body env = ofRes (it env) fun items e => forL tg body items e := (rfl)
@[simp] theorem ap_eComp (it : IM) (tg : Tg) (cond : TM) (elt : EM) (vs : List Nat) (env : ME) : eComp it tg cond elt vs env = (it env).bind fun items e => (compL tg cond elt vs items (wipeM e vs) []).bind fun acc e => .ok (.new (.lst acc)) e := (rfl)
@[simp] theorem ap_tTrue  (env : ME) : tTrue  env = .ok true env := (rfl)
@[simp] theorem ap_eCall (ar : Nat) (io : Option Nat) (mf : FM) (m : AM) (env : ME) : eCall ar io mf m env = (m env).bind fun rs e => callM ar io mf rs e := (rfl)
@[simp] theorem ap_eMake (ar : Nat) (c : Str) (mf : FM) (m : AM) (env : ME) : eMake ar c mf m env = (m env).bind fun rs e => makeM ar c mf rs e := (rfl)
@[simp] theorem ap_eMeth (c mn : Str) (ar : Nat) (io : Option Nat) (mf : FM) (mo : EM) (n : AM) (env : ME) : eMeth c mn ar io mf mo n env = (mo env).bind fun r e => if isIns c (viewD e r) = true ∧ (insF (viewD e r)).lookup mn = none then ((n e).bind fun rs e2 => callM ar io mf (r :: rs) e2) else .bad := (rfl)
@[simp] theorem ap_eAttr (f : Str) (m : EM) (env : ME) : eAttr f m env = (m env).bind fun r e => match attrD e f r with
  | some d => .ok (.fz d) e
  | none => .bad := (rfl)
@[simp] theorem ap_sApp (pl : Pl) (m : EM) (env : ME) : sApp pl m env = if isLst (getP env pl) = true then ofRes (m env) (fun r e => match r, getP e pl with
  | .fz d, some (.lst xs) => if xs.length < 16777216 then .nx (putP e (.lst (xs ++ [d])) pl) else .bad
  | _, _ => .bad) else .bad := (rfl)
@[simp] theorem ap_sExt (pl : Pl) (m : EM) (env : ME) : sExt pl m env = if isLst (getP env pl) = true then ofRes (m env) (fun r e => match r, getP e pl with
  | .new (.lst ys), some (.lst xs) => if xs.length + ys.length ≤ 16777216 then .nx (putP e (.lst (xs ++ ys)) pl) else .bad
  | _, _ => .bad) else .bad := (rfl)
@[simp] theorem ap_sSub (pl : Pl) (mk mv : EM) (env : ME) : sSub pl mk mv env = ofRes (mv env) fun r e1 => match r with
  | .fz d => (match getP e1 pl with
    | some t0 => if isCell t0 = true then ofRes (mk e1) (fun rk e2 => match viewD e2 rk, getP e2 pl with
      | some k, some t => (match putItem t k d with
        | some t' => .nx (putP e2 t' pl)
        | none => .bad)
      | _, _ => .bad) else .bad
    | none => .bad)
  | _ => .bad := (rfl)
@[simp] theorem ap_sAug (g : Int → Int → Int) (i : Nat) (m : EM) (env : ME) : sAug g i m env = match slot env i with
  | some (.fz (.int a)) => ofRes (m env) fun r e => if i < e.length then (match viewD e r with
    | some (.int b) => .nx (e.set i (some (.fz (.int (g a b)))))
    | _ => .bad) else .bad
  | _ => .bad := (rfl)
@[simp] theorem ap_sFldM (i : Nat) (f : Str) (m : EM) (env : ME) : sFldM i f m env = ofRes (m env) fun r e => match slot e i, erOT r with
  | some (.ins c fs), some t => if fs.length < 1000 then .nx (e.set i (some (.ins c (setF f t fs)))) else .bad
  | _, _ => .bad := (rfl)
@[simp] theorem ap_sFldAugM (g : Int → Int → Int) (i : Nat) (f : Str) (m : EM) (env : ME) : sFldAugM g i f m env = match slot env i with
  | some (.ins c fs) => (match fs.lookup f with
    | some (.fz (.int a)) => ofRes (m env) (fun r e => match slot e i, viewD e r with
      | some (.ins c' fs'), some (.int b) => if c' = c ∧ fs'.length < 1000 then .nx (e.set i (some (.ins c' (setF f (.fz (.int (g a b))) fs')))) else .bad
      | _, _ => .bad)
    | _ => .bad)
  | _ => .bad := (rfl)
@[simp] theorem ap_ePop (pl : Pl) (env : ME) : ePop pl env = match getP env pl with
  | some (.lst xs) => (match xs[xs.length - 1]? with
    | some d => .ok (.fz d) (putP env (.lst xs.dropLast) pl)
    | none => .bad)
  | _ => .bad := (rfl)
@[simp] theorem ap_eTup (n : AM) (env : ME) : eTup n env = (n env).bind fun rs e => match allFz rs with
  | some ds => if ds.length ≤ 16777216 then .ok (.fz (.tup ds)) e else .bad
  | none => .bad := (rfl)
@[simp] theorem ap_eLst (n : AM) (env : ME) : eLst n env = (n env).bind fun rs e => match allFz rs with
  | some ds => if ds.length ≤ 16777216 then .ok (.new (.lst ds)) e else .bad
  | none => .bad := (rfl)
@[simp] theorem ap_eDnew (t : Bool) (env : ME) : eDnew t env = .ok (.new (.dic t [])) env := (rfl)
@[simp] theorem ap_eGet2 (mo mk mx : EM) (env : ME) : eGet2 mo mk mx env = (mo env).bind fun r e1 => if isDicD (viewD e1 r) = true then ((mk e1).bind fun rk e2 => (mx e2).bind fun rx e3 => match rx with
  | .fz x => (match getD2 (viewD e3 r) (viewD e3 rk) (some x) with
    | some d => .ok (.fz d) e3
    | none => .bad)
  | _ => .bad) else .bad := (rfl)
@[simp] theorem ap_eGet1 (mo mk : EM) (env : ME) : eGet1 mo mk env = (mo env).bind fun r e1 => if isDicD (viewD e1 r) = true then ((mk e1).bind fun rk e2 => match getD2 (viewD e2 r) (viewD e2 rk) (some .non) with
    | some d => .ok (.fz d) e2
    | none => .bad) else .bad := (rfl)
@[simp] theorem ap_eSl (m : EM) (lo hi : Option EM) (env : ME) : eSl m lo hi env = (m env).bind fun r e1 => (partM lo e1).bind fun l e2 => (partM hi e2).bind fun h e3 => give e3 ((viewD e3 r).bind (gSl l h)) := (rfl)
@[simp] theorem ap_eChain (g g' : D → D → Option OR) (ma mb mc : EM) (env : ME) : eChain g g' ma mb mc env = (ma env).bind fun ra e1 => (mb e1).bind fun rb e2 => match (viewD e2 ra).bind fun x => (viewD e2 rb).bind fun y => g x y with
  | some (.val (.bl k)) => if k = true then ((mc e2).bind fun rc e3 => give e3 ((viewD e3 rb).bind fun y => (viewD e3 rc).bind fun z => g' y z)) else .ok (.fz (.bl false)) e2
  | _ => .bad := (rfl)
@[simp] theorem ap_sAl2 (ia ib ir : Nat) (body : SM) (env : ME) : sAl2 ia ib ir body env = if (slot env ia).isSome = true ∧ (slot env ib).isSome = true then (match (turnA ia ir body env).bind (turnA ib ir body) with
  | some e => .nx e
  | none => .bad) else .bad := (rfl)
/-! ## what mirrors compute: loops and comprehensions, by invariants -/
theorem forL_inv {tg : Tg} {body : SM} (ds : List D) (P : List D → ME → Prop) {env : ME} (h0 : P [] env)
    (hs : ∀ pre d post e, ds = pre ++ d :: post → P pre e → ∃ e1 e2, setT tg d e = some e1 ∧ (body e1 = .nx e2 ∨ body e1 = .ct e2) ∧ P (pre ++ [d]) e2) : ∃ e', forL tg body ds env = .nx e' ∧ P ds e' := by
  suffices h : ∀ (post pre : List D) (e : ME), ds = pre ++ post → P pre e → ∃ e', forL tg body post e = .nx e' ∧ P ds e' from h ds [] env rfl h0
  intro post
  induction post with
  | nil => intro pre e hd hp; exact ⟨e, rfl, by rw [hd, List.append_nil]; exact hp⟩
  | cons d post ih =>
    intro pre e hd hp
    obtain ⟨e1, e2, h1, h2, h3⟩ := hs pre d post e hd hp
    obtain ⟨e', h4, h5⟩ := ih (pre ++ [d]) e2 (by rw [hd]; simp) h3
    refine ⟨e', ?_, h5⟩
    unfold forL
    rw [h1]
    rcases h2 with h2 | h2 <;> simp only [h2] <;> exact h4
/-- a loop that may end early by return -/
theorem compL_inv {tg : Tg} {cond : TM} {elt : EM} {vs : List Nat} (ds : List D) (P : List D → ME → List D → Prop) {env : ME} (h0 : P [] env [])
    (hs : ∀ pre d post e acc, ds = pre ++ d :: post → P pre e acc → ∃ e1 e2, setT tg d e = some e1 ∧ ((cond e1 = .ok false e2 ∧ P (pre ++ [d]) (wipeM e2 vs) acc) ∨ ∃ x e3, cond e1 = .ok true e2 ∧ eFrz elt e2 = .ok (.fz x) e3 ∧ acc.length < 16777216 ∧ P (pre ++ [d]) (wipeM e3 vs) (acc ++ [x]))) :
    ∃ e' acc, compL tg cond elt vs ds env [] = .ok acc e' ∧ P ds e' acc := by
  suffices h : ∀ (post pre : List D) (e : ME) (acc : List D), ds = pre ++ post → P pre e acc → ∃ e' acc', compL tg cond elt vs post e acc = .ok acc' e' ∧ P ds e' acc' from h ds [] env [] rfl h0
  intro post
  induction post with
  | nil => intro pre e acc hd hp; exact ⟨e, acc, rfl, by rw [hd, List.append_nil]; exact hp⟩
  | cons d post ih =>
    intro pre e acc hd hp
    obtain ⟨e1, e2, h1, h2⟩ := hs pre d post e acc hd hp
    rcases h2 with ⟨h2, h3⟩ | ⟨x, e3, h2, h3, h4, h5⟩
    · obtain ⟨e', acc', h6, h7⟩ := ih (pre ++ [d]) _ acc (by rw [hd]; simp) h3
      refine ⟨e', acc', ?_, h7⟩
      unfold compL
      rw [h1]
      simp only [h2]
      exact h6
    · obtain ⟨e', acc', h6, h7⟩ := ih (pre ++ [d]) _ (acc ++ [x]) (by rw [hd]; simp) h5
      refine ⟨e', acc', ?_, h7⟩
      unfold compL
      rw [h1]
      simp only [h2, h3, if_pos h4]
      exact h6
/-- a comprehension that reads alone: the items that pass b, by f -/
theorem compL_pure {tg : Tg} {cond : TM} {elt : EM} {vs : List Nat} {env : ME} (b : D → Bool) (f : D → D) : ∀ (ds acc : List D), acc.length + ds.length ≤ 16777216 →
    (∀ d ∈ ds, ∃ e1 e2, setT tg d env = some e1 ∧ ((b d = false ∧ cond e1 = .ok false e2 ∧ wipeM e2 vs = env) ∨ ∃ e3, b d = true ∧ cond e1 = .ok true e2 ∧ eFrz elt e2 = .ok (.fz (f d)) e3 ∧ wipeM e3 vs = env)) →
    compL tg cond elt vs ds env acc = .ok (acc ++ (ds.filter b).map f) env
  | [], acc, _, _ => by simp [compL]
  | d :: ds, acc, hl, h => by
    obtain ⟨e1, e2, h1, h2⟩ := h d List.mem_cons_self
    rw [List.length_cons] at hl
    unfold compL
    rw [h1]
    rcases h2 with ⟨hb, h2, h3⟩ | ⟨e3, hb, h2, h3, h4⟩
    · simp only [h2, h3]
      rw [compL_pure b f ds acc (by omega) fun x hx => h x (List.mem_cons_of_mem _ hx), List.filter_cons_of_neg (by simp [hb])]
    · have : acc.length < 16777216 := by omega
      simp only [h2, h3, if_pos this, h4]
      rw [compL_pure b f ds (acc ++ [f d]) (by simp; omega) fun x hx => h x (List.mem_cons_of_mem _ hx), List.filter_cons_of_pos hb]
      simp
/-! ## how mirrors of plain pieces reduce -/
section
variable {env : ME} {i j k : Nat} {d x : D} {ds xs ys : List D} {a b : Int} {io : Option Nat} {rs : List ER} {o : OT} {f : Str} {fs : List (Str × D)} {gs : List (Str × OT)}
@[simp] theorem er_fz : (OT.fz d).er = d := (rfl)
@[simp] theorem er_lst : (OT.lst xs).er = .lst xs := (rfl)
@[simp] theorem er_dic {t : Bool} {kvs : List (NK × D)} : (OT.dic t kvs).er = .dic t kvs := (rfl)
@[simp] theorem er_ins {c : Str} : (OT.ins c gs).er = .ins c (erF gs) := (rfl)
@[simp] theorem erF_nil : erF [] = [] := (rfl)
@[simp] theorem erF_cons : erF ((f, o) :: gs) = (f, o.er) :: erF gs := (rfl)
@[simp] theorem args_nil : argsOf env io k [] = some [] := by simp [argsOf]
@[simp] theorem args_fz0 : argsOf env none k (.fz d :: rs) = (argsOf env none (k + 1) rs).map fun ts => .fz d :: ts := by simp [argsOf]
theorem args_fzN (h : io ≠ some k) : argsOf env io k (.fz d :: rs) = (argsOf env io (k + 1) rs).map fun ts => .fz d :: ts := by simp [argsOf, h]
@[simp] theorem args_fz1 : argsOf env (some 0) (k + 1) (.fz d :: rs) = (argsOf env (some 0) (k + 1 + 1) rs).map fun ts => .fz d :: ts := args_fzN (by simp)
@[simp] theorem args_b0 : argsOf env (some 0) 0 (.bor i :: rs) = (slot env i).bind fun t => (argsOf env (some 0) (0 + 1) rs).map fun ts => t :: ts := by simp [argsOf]
@[simp] theorem ofOT_fz : ofOT (.fz d) = .fz d := (rfl)
@[simp] theorem ofOT_lst : ofOT (.lst xs) = .new (.lst xs) := (rfl)
@[simp] theorem ofOT_ins {c : Str} : ofOT (.ins c gs) = .new (.ins c gs) := (rfl)
@[simp] theorem ofOT_dic {t : Bool} {kvs : List (NK × D)} : ofOT (.dic t kvs) = .new (.dic t kvs) := (rfl)
@[simp] theorem ioSlot_none : ioSlot none rs = none := (rfl)
@[simp] theorem ioSlot_b0 : ioSlot (some 0) (.bor i :: rs) = some i := (rfl)
@[simp] theorem putOut_none : putOut env none none = env := (rfl)
@[simp] theorem putOut_none' : putOut env none (some o) = env := (rfl)
@[simp] theorem putOut_some : putOut env (some i) (some o) = env.set i (some o) := (rfl)
@[simp] theorem erOT_fz : erOT (.fz d) = some (.fz d) := (rfl)
@[simp] theorem erOT_new : erOT (.new o) = some o := (rfl)
@[simp] theorem setF_nil : setF f o [] = [(f, o)] := (rfl)
@[simp] theorem setF_cons {g : Str} {u : OT} : setF f o ((g, u) :: gs) = if g = f then (g, o) :: gs else (g, u) :: setF f o gs := (rfl)
@[simp] theorem attrD_fz {c : Str} : attrD env f (.fz (.ins c fs)) = fs.lookup f := (rfl)
@[simp] theorem attrD_new {c : Str} : attrD env f (.new (.ins c gs)) = attrF f gs := (rfl)
@[simp] theorem add_int : gAdd (.int a) (.int b) = some (.val (.int (a + b))) := (rfl)
@[simp] theorem add_tup : gAdd (.tup xs) (.tup ys) = if xs.length + ys.length ≤ 16777216 then some (.tup (xs ++ ys)) else none := (rfl)
@[simp] theorem sub_int : Mi.gSub (.int a) (.int b) = some (.val (.int (a - b))) := (rfl)
@[simp] theorem mul_int : gMul (.int a) (.int b) = if mulOk a b = true then some (.val (.int (a * b))) else none := (rfl)
@[simp] theorem mul_lst : gMul (.lst xs) (.int a) = if mulLok xs.length a = true then some (.lst (List.replicate a.toNat xs).flatten) else none := (rfl)
@[simp] theorem div_int : gDiv (.int a) (.int b) = if 0 < b ∧ b.natAbs.log2 < 9000 then some (.val (.int (a / b))) else none := (rfl)
@[simp] theorem mod_int : gMod (.int a) (.int b) = if 0 < b then some (.val (.int (a % b))) else none := (rfl)
@[simp] theorem pow_int : gPow (.int a) (.int b) = if 0 ≤ b ∧ b ≤ 1000000 ∧ a.natAbs < 2 ^ 64 then some (.val (.int (a ^ b.toNat))) else none := (rfl)
@[simp] theorem neg_int : gNeg (.int a) = some (.val (.int (-a))) := (rfl)
@[simp] theorem cmp_int {p : Int → Int → Bool} : gCmp p (.int a) (.int b) = some (.val (.bl (p a b))) := (rfl)
@[simp] theorem ix_lst : gIx (.lst xs) (.int a) = (atI xs a).map .val := (rfl)
@[simp] theorem ix_tup : gIx (.tup xs) (.int a) = (atI xs a).map .val := (rfl)
@[simp] theorem ix_dic {t : Bool} {kvs : List (NK × D)} : gIx (.dic t kvs) d = (keyOf t d).bind fun k => (dgetN kvs k).map .val := by cases d <;> rfl
@[simp] theorem len_lst : gLen [.lst xs] = some (.val (.int xs.length)) := (rfl)
@[simp] theorem len_tup : gLen [.tup xs] = some (.val (.int xs.length)) := (rfl)
@[simp] theorem len_scr {ns : List Int} : gLen [.scr ns] = some (.val (.int ns.length)) := (rfl)
@[simp] theorem max2_int : gMax2 [.int a, .int b] = some (.val (.int (if b > a then b else a))) := (rfl)
@[simp] theorem min2_int : gMin2 [.int a, .int b] = some (.val (.int (if b < a then b else a))) := (rfl)
@[simp] theorem int_int : gInt [.int a] = some (.val (.int a)) := (rfl)
@[simp] theorem int_bl {c : Bool} : gInt [.bl c] = some (.val (.int (if c then 1 else 0))) := (rfl)
@[simp] theorem list_lst : gList [.lst xs] = some (.lst xs) := (rfl)
@[simp] theorem list_tup : gList [.tup xs] = some (.lst xs) := (rfl)
@[simp] theorem tuple_lst : gTuple [.lst xs] = some (.tup xs) := (rfl)
@[simp] theorem tuple_tup : gTuple [.tup xs] = some (.tup xs) := (rfl)
@[simp] theorem put_lst {i : Int} : putItem (.lst xs) (.int i) d = (ixN xs.length i).map fun j => .lst (xs.set j d) := (rfl)
@[simp] theorem put_dic {t : Bool} {kvs : List (NK × D)} : putItem (.dic t kvs) x d = (keyOf t x).bind fun k => if kvs.length < 16777216 then some (.dic t (dputN kvs k d)) else none := by cases x <;> rfl
@[simp] theorem cell_lst : isCell (.lst xs) = true := (rfl)
@[simp] theorem cell_dic {t : Bool} {kvs : List (NK × D)} : isCell (.dic t kvs) = true := (rfl)
@[simp] theorem isLst_lst : isLst (some (.lst xs)) = true := (rfl)
@[simp] theorem allFz_nil : allFz [] = some [] := (rfl)
@[simp] theorem allFz_cons : allFz (.fz d :: rs) = (allFz rs).map fun ds => d :: ds := (rfl)
@[simp] theorem setT_nm : setT (.nm i) d env = if i < env.length then some (env.set i (some (.fz d))) else none := by simp [setT]
@[simp] theorem setT_tp {ts : List Tg} : setT (.tp ts) (.tup ds) env = if ds.length = ts.length then setTs ts ds env else none := by simp [setT]
@[simp] theorem setT_tpl {ts : List Tg} : setT (.tp ts) (.lst ds) env = if ds.length = ts.length then setTs ts ds env else none := by simp [setT]
@[simp] theorem setTs_nil : setTs [] [] env = some env := by simp [setTs]
@[simp] theorem setTs_cons {t : Tg} {ts : List Tg} : setTs (t :: ts) (d :: ds) env = (setT t d env).bind fun e => setTs ts ds e := by simp [setTs]
@[simp] theorem wipe_nil : wipeM env [] = env := (rfl)
@[simp] theorem wipe_cons {vs : List Nat} : wipeM env (i :: vs) = (wipeM env vs).set i none := (rfl)
@[simp] theorem iEnd_lst : iEnd (.fz (.lst xs)) env = .ok xs env := (rfl)
@[simp] theorem iEnd_tup : iEnd (.fz (.tup xs)) env = .ok xs env := (rfl)
@[simp] theorem iEnd_scr {ns : List Int} : iEnd (.fz (.scr ns)) env = .ok (ns.map D.int) env := (rfl)
@[simp] theorem iEnd_dic {t : Bool} {kvs : List (NK × D)} : iEnd (.fz (.dic t kvs)) env = .ok (kvs.map fun p => keyD p.1) env := (rfl)
@[simp] theorem boolOf_bl {c : Bool} : boolOf (some (.bl c)) = some c := (rfl)
@[simp] theorem enum_lst : enum2 [.fz (.lst xs)] = some (enumL 0 xs) := (rfl)
@[simp] theorem enum_tup : enum2 [.fz (.tup xs)] = some (enumL 0 xs) := (rfl)
@[simp] theorem rng1_int : rng1 (some [.int a]) = if small62 a = true then some (rng 0 a.toNat) else none := (rfl)
@[simp] theorem rng2_int : rng2 (some [.int a, .int b]) = if small62 a = true ∧ small62 b = true then some (rng a (b - a).toNat) else none := (rfl)
@[simp] theorem rg1_int : gRg1 (.int a) = lstRg 0 a := (rfl)
@[simp] theorem rg2_int : gRg2 (.int a) (.int b) = lstRg a b := (rfl)
@[simp] theorem rev_lst : gRev (.lst xs) = some (.lst xs.reverse) := (rfl)
@[simp] theorem sl_lst {lo hi : Option Int} : gSl lo hi (.lst xs) = some (.lst (cutD xs lo hi)) := (rfl)
@[simp] theorem sl_tup {lo hi : Option Int} : gSl lo hi (.tup xs) = some (.tup (cutD xs lo hi)) := (rfl)
@[simp] theorem sl_scr {lo hi : Option Int} {ns : List Int} : gSl lo hi (.scr ns) = some (.lst (cutD (ns.map D.int) lo hi)) := (rfl)
@[simp] theorem sum_lst : gSum [.lst xs] = (intsOf xs).map fun ns => .val (.int ns.sum) := (rfl)
@[simp] theorem sum_tup : gSum [.tup xs] = (intsOf xs).map fun ns => .val (.int ns.sum) := (rfl)
theorem atI_nat (h : i < xs.length) : atI xs (i : Int) = some xs[i] := by
  unfold atI ixN
  simp [h]
theorem ixN_nat {n : Nat} (h : i < n) : ixN n (i : Int) = some i := by
  unfold ixN
  simp [h]
theorem isi_int : gIsi [.int a, .ty "int"] = some (.val (.bl true)) := by simp [gIsi, tyName, subTy, tyNames]
end
end Mi
namespace Mi
open PySem L2
/-! ## data that can be compared: okN n -/
def okN (n : Nat) (d : D) : Prop := pure0 d = true ∧ (toP d).canLay0 = true ∧ (toP d).depth ≤ n
theorem okN.mono {n m : Nat} {d : D} (h : okN n d) (hn : n ≤ m) : okN m d := ⟨h.1, h.2.1, Nat.le_trans h.2.2 hn⟩
theorem okN.okP {n : Nat} {d : D} (h : okN n d) (hn : n ≤ 64) : okP d = true := by
  have := h.2.2
  simp [Mi.okP, SeqAt.shaped, h.1, h.2.1]
  omega
theorem okN_int (a : Int) : okN 0 (.int a) := ⟨rfl, by simp [toP, PyData.canLay0], by simp [toP, PyData.depth]⟩
theorem okN_bl (a : Bool) : okN 0 (.bl a) := ⟨rfl, by simp [toP, PyData.canLay0], by simp [toP, PyData.depth]⟩
theorem okN_non : okN 0 .non := ⟨rfl, by simp [toP, PyData.canLay0], by simp [toP, PyData.depth]⟩
theorem okN_all : ∀ {n : Nat} {xs : List D}, (∀ x ∈ xs, okN n x) → pures xs = true ∧ PyData.canLayAll0 (toPs xs) = true ∧ PyData.depthAll (toPs xs) ≤ n
  | n, [], _ => ⟨rfl, by simp [toPs, PyData.canLayAll0], by simp [toPs, PyData.depthAll]⟩
  | n, x :: xs, h => by
    obtain ⟨a, b, c⟩ := h x List.mem_cons_self
    obtain ⟨a', b', c'⟩ := okN_all (n := n) (xs := xs) fun y m => h y (List.mem_cons_of_mem _ m)
    exact ⟨by simp [pures, a, a'], by simp [toPs, PyData.canLayAll0, b, b'], by simp only [toPs, PyData.depthAll]; omega⟩
theorem okN_tup {n : Nat} {xs : List D} (h : ∀ x ∈ xs, okN n x) : okN (n + 1) (.tup xs) := by
  obtain ⟨a, b, c⟩ := okN_all h
  exact ⟨by simpa [pure0] using a, by simpa [toP, PyData.canLay0] using b, by simp only [toP, PyData.depth]; omega⟩
theorem okN_lst {n : Nat} {xs : List D} (h : ∀ x ∈ xs, okN n x) : okN (n + 1) (.lst xs) := by
  obtain ⟨a, b, c⟩ := okN_all h
  exact ⟨by simpa [pure0] using a, by simpa [toP, PyData.canLay0] using b, by simp only [toP, PyData.depth]; omega⟩
theorem okN_ints (l : List Int) : okN 1 (.tup (l.map D.int)) := okN_tup fun x h => by
  obtain ⟨a, _, rfl⟩ := List.mem_map.mp h
  exact okN_int a
def eqvD (a b : D) : Bool := PyData.eqv (toP a) (toP b)
theorem gEq_ok {n m : Nat} {a b : D} (ha : okN n a) (hb : okN m b) (hn : n ≤ 64 := by decide) (hm : m ≤ 64 := by decide) : gEq a b = some (.val (.bl (eqvD a b))) := by
  simp [gEq, ha.okP hn, hb.okP hm, eqvD]
theorem gNe_ok {n m : Nat} {a b : D} (ha : okN n a) (hb : okN m b) (hn : n ≤ 64 := by decide) (hm : m ≤ 64 := by decide) : gNe a b = some (.val (.bl (!eqvD a b))) := by
  simp [gNe, ha.okP hn, hb.okP hm, eqvD]
theorem eqv_int (a b : Int) : eqvD (.int a) (.int b) = decide (a = b) := by
  simp [eqvD, toP, PyData.eqv]
  by_cases h : a = b <;> simp [h]
@[simp] theorem eq_int (a b : Int) : gEq (.int a) (.int b) = some (.val (.bl (decide (a = b)))) := by rw [gEq_ok (okN_int a) (okN_int b), eqv_int]
@[simp] theorem ne_int (a b : Int) : gNe (.int a) (.int b) = some (.val (.bl (!decide (a = b)))) := by rw [gNe_ok (okN_int a) (okN_int b), eqv_int]
theorem eqvAll_ints : ∀ a b : List Int, PyData.eqvAll (toPs (a.map D.int)) (toPs (b.map D.int)) = decide (a = b)
  | [], [] => by simp [toPs, PyData.eqvAll]
  | [], _ :: _ => by simp [toPs, PyData.eqvAll]
  | _ :: _, [] => by simp [toPs, PyData.eqvAll]
  | x :: a, y :: b => by
    have e : PyData.eqv (.int x) (.int y) = decide (x = y) := eqv_int x y
    simp only [List.map_cons, toPs, PyData.eqvAll, eqvAll_ints a b, toP, e, List.cons.injEq]
    by_cases h : x = y <;> simp [h]
theorem eqv_ints (a b : List Int) : eqvD (.tup (a.map D.int)) (.tup (b.map D.int)) = decide (a = b) := by
  simp only [eqvD, toP, PyData.eqv]
  exact eqvAll_ints a b
@[simp] theorem eq_ints (a b : List Int) : gEq (.tup (a.map D.int)) (.tup (b.map D.int)) = some (.val (.bl (decide (a = b)))) := by rw [gEq_ok (okN_ints a) (okN_ints b), eqv_ints]
@[simp] theorem ne_ints (a b : List Int) : gNe (.tup (a.map D.int)) (.tup (b.map D.int)) = some (.val (.bl (!decide (a = b)))) := by rw [gNe_ok (okN_ints a) (okN_ints b), eqv_ints]
@[simp] theorem isi_int_int (a : Int) : gIsi [.int a, .ty "int"] = some (.val (.bl true)) := by simp [gIsi, tyName, subTy, tyNames]
@[simp] theorem isi_int_bool (a : Int) : gIsi [.int a, .ty "bool"] = some (.val (.bl false)) := by simp [gIsi, tyName, subTy, tyNames]
@[simp] theorem isi_tup_tup (xs : List D) : gIsi [.tup xs, .ty "tuple"] = some (.val (.bl true)) := by simp [gIsi, tyName, subTy, tyNames]
@[simp] theorem isi_lst_lst (xs : List D) : gIsi [.lst xs, .ty "list"] = some (.val (.bl true)) := by simp [gIsi, tyName, subTy, tyNames]
@[simp] theorem ints_map (ns : List Int) : intsOf (ns.map D.int) = some ns := intsOf_map ns
@[simp] theorem ints_nil : intsOf [] = some [] := rfl
@[simp] theorem ints_cons (a : Int) (l : List D) : intsOf (.int a :: l) = (intsOf l).map fun ns => a :: ns := rfl
theorem at_nat {xs : List D} {n : Nat} (h : n < xs.length) : atI xs (n : Int) = some xs[n] := Mi.atI_nat h
theorem at_map {α : Type} {f : α → D} {l : List α} {n : Nat} (h : n < l.length) : atI (l.map f) (n : Int) = some (f l[n]) := by
  rw [at_nat (by simpa using h)]
  simp
theorem ixn_nat {m n : Nat} (h : n < m) : ixN m (n : Int) = some n := Mi.ixN_nat h
theorem mulOk_l {a b : Int} (h : a.natAbs < 2 ^ 64) : mulOk a b = true := by simp [mulOk, h]
theorem mulOk_r {a b : Int} (h : b.natAbs < 2 ^ 64) : mulOk a b = true := by simp [mulOk, h]
theorem mulLok_nat {m n : Nat} (h : m * n ≤ 16777216) (hn : n < 9223372036854775808) : mulLok m (n : Int) = true := by
  rw [mulLok_eq]; simp; omega
theorem log_small {b : Int} (h : b.natAbs < 2 ^ 200) : b.natAbs.log2 < 9000 := by
  by_cases h0 : b.natAbs = 0
  · rw [h0]; decide
  · have := (Nat.log2_lt h0).mpr h
    omega
theorem small62_nat {n : Nat} (h : n < 4611686018427387904) : small62 (n : Int) = true := by
  simp [small62_eq]; omega
theorem small62_int {a : Int} (h0 : 0 ≤ a) (h : a < 4611686018427387904) : small62 a = true := by
  simp [small62_eq]; omega
theorem atI_lit {xs : List D} {n : Nat} : atI xs (n : Int) = xs[n]? := by
  unfold L2.atI L2.ixN
  by_cases h : (n : Int) < xs.length
  · simp [h]
  · simp only [Int.natCast_nonneg, if_true, if_neg h, Option.bind_none]
    rw [List.getElem?_eq_none (by omega)]
@[simp] theorem at0 {a : D} {xs : List D} : atI (a :: xs) 0 = some a := atI_lit (n := 0)
@[simp] theorem at1 {a b : D} {xs : List D} : atI (a :: b :: xs) 1 = some b := atI_lit (n := 1)
@[simp] theorem at2 {a b c : D} {xs : List D} : atI (a :: b :: c :: xs) 2 = some c := atI_lit (n := 2)
@[simp] theorem at3 {a b c d : D} {xs : List D} : atI (a :: b :: c :: d :: xs) 3 = some d := atI_lit (n := 3)
@[simp] theorem filter_true {α : Type} : ∀ l : List α, l.filter (fun _ => true) = l
  | [] => rfl
  | a :: l => by simp
/-! ## ready to be sorted -/
theorem alike_ints : ∀ a b : List Int, PySem.W.alikeAll (toPs (a.map D.int)) (toPs (b.map D.int)) = true
  | [], _ => by simp [toPs, PySem.W.alikeAll]
  | _ :: _, [] => by simp [toPs, PySem.W.alikeAll]
  | x :: a, y :: b => by simp [toPs, PySem.W.alikeAll, toP, PySem.W.alike, alike_ints a b]
theorem ready_tups {n : Nat} {xs : List D} (h : ∀ x ∈ xs, okN n x ∧ isTup1 x = true) (ha : ∀ x ∈ xs, ∀ y ∈ xs, PySem.W.alike (toP x) (toP y) = true) (hn : n ≤ 8) : ready xs = true := by
  simp only [ready, Bool.and_eq_true, List.all_eq_true, decide_eq_true_eq, Bool.or_eq_true]
  exact ⟨⟨⟨fun x m => (h x m).1.okP (by omega), ha⟩, .inl (.inl fun x m => (h x m).2)⟩, fun x m => Nat.le_trans (h x m).1.2.2 hn⟩
end Mi
namespace K58
open PySem L2 Mi
noncomputable def b__law_deck : SM :=
  (sRet (eLst (aCons (eFrz (eComp (iAny (eSl (eVar 0) none (some (eC (.int 63))))) (.nm 1) tTrue (eN gInt (aCons (eVar 1) aNil)) [1])) (aCons (eC (.int 0)) (aCons (eC (.int 0)) (aCons (eC (.int 0)) aNil))))))
noncomputable def M__law_deck : FM := runDef 2 none b__law_deck
noncomputable def b_is_integer : SM :=
  (sRet (eAnd (eN gIsi (aCons (eVar 0) (aCons (eC (.ty "int")) aNil))) (eNot (eN gIsi (aCons (eVar 0) (aCons (eC (.ty "bool")) aNil))))))
noncomputable def M_is_integer : FM := runDef 1 none b_is_integer
noncomputable def b_is_within : SM :=
  (sRet (eAnd (eCall 1 none M_is_integer (aCons (eFrz (eVar 0)) aNil)) (eChain gLe gLe (eVar 1) (eVar 0) (eVar 2))))
noncomputable def M_is_within : FM := runDef 3 none b_is_within
noncomputable def b_House___init__ : SM :=
  (sSeq (sIf (tNotM (tVal (eCall 3 none M_is_within (aCons (eFrz (eVar 1)) (aCons (eC (.int 2)) (aCons (eC (.int 40)) aNil)))))) sBad sSkip)
  (sSeq (sIf (tNotM (tVal (eCall 3 none M_is_within (aCons (eFrz (eVar 2)) (aCons (eC (.int 1)) (aCons (eC (.int 1000000000000)) aNil)))))) sBad sSkip)
  (sSeq (sFldM 0 "floors" (eFrz (eVar 1)))
  (sFldM 0 "room" (eFrz (eVar 2))))))
noncomputable def M_House___init__ : FM := runDef 3 (some 0) b_House___init__
noncomputable def b__law_pick : SM :=
  (sSeq (sSub (.sl 0) (eC (.int 3)) (eB gAdd (eB gIx (eVar 0) (eC (.int 3))) (eC (.int 1))))
  (sSeq (sIf (tVal (eB gGt (eB gIx (eVar 0) (eC (.int 2))) (eC (.int 0)))) (sSeq (sSet 2 (eB gMod (eN gInt (aCons (eB gIx (eVar 0) (eC (.int 2))) aNil)) (eVar 1)))
  (sSeq (sSub (.sl 0) (eC (.int 2)) (eB gDiv (eN gInt (aCons (eB gIx (eVar 0) (eC (.int 2))) aNil)) (eVar 1)))
  (sRet (eVar 2)))) sSkip)
  (sSeq (sSet 3 (eB gIx (eVar 0) (eC (.int 0))))
  (sSeq (sSet 4 (eC (.int 0)))
  (sSeq (sIf (tVal (eB gGt (eN gLen (aCons (eVar 3) aNil)) (eC (.int 0)))) (sSet 4 (eB gIx (eVar 3) (eB gMod (eN gInt (aCons (eB gIx (eVar 0) (eC (.int 1))) aNil)) (eN gLen (aCons (eVar 3) aNil))))) sSkip)
  (sSeq (sSub (.sl 0) (eC (.int 1)) (eB gAdd (eB gIx (eVar 0) (eC (.int 1))) (eC (.int 1))))
  (sSeq (sIf (tAndM (tVal (eB gGe (eVar 4) (eB gPow (eC (.int 10)) (eC (.int 18))))) (tVal (eB gLe (eB gIx (eVar 0) (eC (.int 1))) (eN gLen (aCons (eVar 3) aNil))))) (sSeq (sSub (.sl 0) (eC (.int 2)) (eB gDiv (eN gInt (aCons (eVar 4) aNil)) (eVar 1)))
  (sRet (eB gMod (eN gInt (aCons (eVar 4) aNil)) (eVar 1)))) sSkip)
  (sSeq (sSet 5 (eB gMod (eB gMul (eN gInt (aCons (eB gAdd (eB gAdd (eVar 4) (eB gMul (eC (.int 7919)) (eB gIx (eVar 0) (eC (.int 3))))) (eC (.int 1))) aNil)) (eC (.int 48271))) (eC (.int 2147483647))))
  (sSeq (sSet 5 (eB gMod (eB gMul (eVar 5) (eB gAdd (eB gDiv (eVar 5) (eC (.int 1009))) (eC (.int 69621)))) (eC (.int 2147483647))))
  (sSeq (sSet 5 (eB gMod (eB gMul (eVar 5) (eB gAdd (eB gDiv (eVar 5) (eC (.int 2003))) (eC (.int 40692)))) (eC (.int 2147483399))))
  (sRet (eB gMod (eVar 5) (eVar 1)))))))))))))
noncomputable def M__law_pick : FM := runDef 6 (some 0) b__law_pick
noncomputable def b__law_counts : SM :=
  (sSeq (sSet 3 (eB gMul (eCall 2 (some 0) M__law_pick (aCons (eVar 0) (aCons (eB gAdd (eN gMin2 (aCons (eVar 2) (aCons (eB gPow (eC (.int 10)) (eC (.int 9))) aNil))) (eC (.int 1))) aNil))) (eB gAdd (eC (.int 1)) (eB gDiv (eB gSub (eVar 2) (eC (.int 1))) (eB gPow (eC (.int 10)) (eC (.int 9)))))))
  (sSeq (sSet 4 (eB gMul (eLst (aCons (eC (.int 0)) aNil)) (eVar 1)))
  (sSeq (sSet 5 (eB gMul (eLst (aCons (eC (.int 0)) aNil)) (eVar 1)))
  (sSeq (sAl2 4 5 6 (sSeq (sSet 7 (eFrz (eVar 3)))
  (sSeq (sFor (iRange rng1 (aCons (eCall 2 (some 0) M__law_pick (aCons (eVar 0) (aCons (eC (.int 6)) aNil))) aNil)) (.nm 8) (sSeq (sSet 9 (eB gDiv (eB gMul (eVar 7) (eCall 2 (some 0) M__law_pick (aCons (eVar 0) (aCons (eC (.int 8)) aNil)))) (eC (.int 7))))
  (sSeq (sSet 10 (eCall 2 (some 0) M__law_pick (aCons (eVar 0) (aCons (eFrz (eVar 1)) aNil))))
  (sSeq (sSub (.sl 6) (eFrz (eVar 10)) (eB gAdd (eB gIx (eVar 6) (eVar 10)) (eVar 9)))
  (sSet 7 (eB gSub (eVar 7) (eVar 9)))))))
  (sSeq (sSet 10 (eCall 2 (some 0) M__law_pick (aCons (eVar 0) (aCons (eFrz (eVar 1)) aNil))))
  (sSub (.sl 6) (eFrz (eVar 10)) (eB gAdd (eB gIx (eVar 6) (eVar 10)) (eVar 7)))))))
  (sRet (eLst (aCons (eN gTuple (aCons (eVar 4) aNil)) (aCons (eN gTuple (aCons (eVar 5) aNil)) aNil))))))))
noncomputable def M__law_counts : FM := runDef 11 (some 0) b__law_counts
noncomputable def b__law_spread : SM :=
  (sSeq (sSet 2 (eLst (aCons (eTup aNil) aNil)))
  (sSeq (sFor (iRange rng1 (aCons (eN gLen (aCons (eVar 1) aNil)) aNil)) (.nm 3) (sSeq (sSet 4 (eLst aNil))
  (sSeq (sSet 5 (eB gEq (eVar 3) (eB gSub (eN gLen (aCons (eVar 1) aNil)) (eC (.int 1)))))
  (sSeq (sFor (iAny (eVar 2)) (.nm 6) (sSeq (sSet 7 (eB gSub (eVar 0) (eN gSum (aCons (eVar 6) aNil))))
  (sSeq (sSet 8 (eU gRg1 (eB gAdd (eN gMin2 (aCons (eVar 7) (aCons (eB gIx (eVar 1) (eVar 3)) aNil))) (eC (.int 1)))))
  (sSeq (sIf (tVal (eVar 5)) (sSet 8 (eComp (iAny (eVar 8)) (.nm 9) (tVal (eB gEq (eVar 9) (eVar 7))) (eVar 9) [9])) sSkip)
  (sExt (.sl 4) (eComp (iAny (eVar 8)) (.nm 9) tTrue (eB gAdd (eVar 6) (eTup (aCons (eFrz (eVar 9)) aNil))) [9]))))))
  (sSet 2 (eFrz (eVar 4)))))))
  (sRet (eVar 2))))
noncomputable def M__law_spread : FM := runDef 10 none b__law_spread
noncomputable def b__law_all_wishes : SM :=
  (sSeq (sSet 2 (eLst (aCons (eFrz (eLst (aCons (eTup aNil) (aCons (eN gTuple (aCons (eVar 1) aNil)) aNil)))) aNil)))
  (sSeq (sFor (iRange rng1 (aCons (eN gLen (aCons (eVar 0) aNil)) aNil)) (.nm 3) (sSeq (sSet 4 (eLst aNil))
  (sSeq (sFor (iAny (eVar 2)) (.tp [(.nm 5), (.nm 6)]) (sFor (iAny (eCall 2 none M__law_spread (aCons (eB gIx (eVar 0) (eVar 3)) (aCons (eFrz (eVar 6)) aNil)))) (.nm 7) (sSeq (sSet 8 (eN gTuple (aCons (eComp (iRange rng1 (aCons (eN gLen (aCons (eVar 7) aNil)) aNil)) (.nm 9) (tVal (eB gGt (eB gIx (eVar 7) (eVar 9)) (eC (.int 0)))) (eTup (aCons (eFrz (eVar 3)) (aCons (eFrz (eVar 9)) (aCons (eB gIx (eVar 7) (eVar 9)) aNil)))) [9]) aNil)))
  (sApp (.sl 4) (eFrz (eLst (aCons (eB gAdd (eVar 5) (eVar 8)) (aCons (eN gTuple (aCons (eComp (iRange rng1 (aCons (eN gLen (aCons (eVar 7) aNil)) aNil)) (.nm 9) tTrue (eB gSub (eB gIx (eVar 6) (eVar 9)) (eB gIx (eVar 7) (eVar 9))) [9]) aNil)) aNil))))))))
  (sSet 2 (eFrz (eVar 4))))))
  (sRet (eN gSorted (aCons (eComp (iAny (eVar 2)) (.tp [(.nm 5), (.nm 6)]) tTrue (eVar 5) [5, 6]) aNil)))))
noncomputable def M__law_all_wishes : FM := runDef 10 none b__law_all_wishes
noncomputable def b_is_count_row : SM :=
  (sSeq (sIf (tOrM (tNotM (tVal (eN gIsi (aCons (eVar 1) (aCons (eC (.ty "tuple")) aNil))))) (tVal (eB gNe (eN gLen (aCons (eVar 1) aNil)) (eAttr "floors" (eVar 0))))) (sRet (eC (.bl false))) sSkip)
  (sRet (eN gAll (aCons (eComp (iAny (eVar 1)) (.nm 2) tTrue (eCall 3 none M_is_within (aCons (eFrz (eVar 2)) (aCons (eC (.int 0)) (aCons (eC (.int 1000000000000000000000000000000)) aNil)))) [2]) aNil))))
noncomputable def M_is_count_row : FM := runDef 3 none b_is_count_row
noncomputable def b_check_counts : SM :=
  (sIf (tOrM (tNotM (tVal (eCall 2 none M_is_count_row (aCons (eFrz (eVar 0)) (aCons (eFrz (eVar 1)) aNil))))) (tOrM (tNotM (tVal (eCall 2 none M_is_count_row (aCons (eFrz (eVar 0)) (aCons (eFrz (eVar 2)) aNil))))) (tVal (eB gNe (eN gSum (aCons (eVar 1) aNil)) (eN gSum (aCons (eVar 2) aNil)))))) sBad sSkip)
noncomputable def M_check_counts : FM := runDef 3 none b_check_counts
noncomputable def b_is_floor : SM :=
  (sRet (eCall 3 none M_is_within (aCons (eFrz (eVar 1)) (aCons (eC (.int 0)) (aCons (eB gSub (eAttr "floors" (eVar 0)) (eC (.int 1))) aNil)))))
noncomputable def M_is_floor : FM := runDef 2 none b_is_floor
noncomputable def b_check_floor : SM :=
  (sSeq (sIf (tNotM (tVal (eCall 2 none M_is_floor (aCons (eFrz (eVar 0)) (aCons (eFrz (eVar 1)) aNil))))) sBad sSkip)
  (sRet (eVar 1)))
noncomputable def M_check_floor : FM := runDef 2 none b_check_floor
noncomputable def b_pair_bounds : SM :=
  (sSeq (sDrop (eCall 3 none M_check_counts (aCons (eFrz (eVar 0)) (aCons (eFrz (eVar 1)) (aCons (eFrz (eVar 2)) aNil)))))
  (sSeq (sDrop (eCall 2 none M_check_floor (aCons (eFrz (eVar 0)) (aCons (eFrz (eVar 3)) aNil))))
  (sSeq (sDrop (eCall 2 none M_check_floor (aCons (eFrz (eVar 0)) (aCons (eFrz (eVar 4)) aNil))))
  (sSeq (sSet 5 (eN gMax2 (aCons (eC (.int 0)) (aCons (eB gSub (eB gAdd (eB gIx (eVar 1) (eVar 3)) (eB gIx (eVar 2) (eVar 4))) (eN gSum (aCons (eVar 1) aNil))) aNil))))
  (sRet (eTup (aCons (eFrz (eVar 5)) (aCons (eN gMin2 (aCons (eB gIx (eVar 1) (eVar 3)) (aCons (eB gIx (eVar 2) (eVar 4)) aNil))) aNil))))))))
noncomputable def M_pair_bounds : FM := runDef 6 none b_pair_bounds
noncomputable def b__law_many : SM :=
  (sRet (eN gSum (aCons (eComp (iAny (eVar 0)) (.nm 3) (tVal (eB gEq (eSl (eVar 3) none (some (eC (.int 2)))) (eTup (aCons (eFrz (eVar 1)) (aCons (eFrz (eVar 2)) aNil))))) (eB gIx (eVar 3) (eC (.int 2))) [3]) aNil)))
noncomputable def M__law_many : FM := runDef 4 none b__law_many
noncomputable def b__law_few_right : SM :=
  (sSeq (sSet 1 (eB gIx (eLst (aCons (eC (.int 2)) (aCons (eC (.int 3)) (aCons (eC (.int 3)) (aCons (eC (.int 4)) (aCons (eC (.int 8)) aNil)))))) (eCall 2 (some 0) M__law_pick (aCons (eVar 0) (aCons (eC (.int 5)) aNil)))))
  (sSeq (sSet 2 (eMake 3 "House" M_House___init__ (aCons (eFrz (eVar 1)) (aCons (eB gAdd (eC (.int 1)) (eCall 2 (some 0) M__law_pick (aCons (eVar 0) (aCons (eC (.int 3)) aNil)))) aNil))))
  (sSeq (sTgt (.tp [(.nm 3), (.nm 4)]) (eFrz (eCall 3 (some 0) M__law_counts (aCons (eVar 0) (aCons (eFrz (eVar 1)) (aCons (eB gIx (eLst (aCons (eC (.int 6)) (aCons (eC (.int 6)) (aCons (eC (.int 6)) (aCons (eC (.int 6)) (aCons (eC (.int 4)) (aCons (eC (.int 4)) (aCons (eC (.int 4)) (aCons (eC (.int 4)) (aCons (eC (.int 3)) aNil)))))))))) (eVar 1)) aNil))))))
  (sSeq (sSet 5 (eCall 2 none M__law_all_wishes (aCons (eFrz (eVar 3)) (aCons (eFrz (eVar 4)) aNil))))
  (sSeq (sFor (iRange rng1 (aCons (eVar 1) aNil)) (.nm 6) (sFor (iRange rng1 (aCons (eVar 1) aNil)) (.nm 7) (sSeq (sSet 8 (eComp (iAny (eVar 5)) (.nm 10) tTrue (eCall 3 none M__law_many (aCons (eFrz (eVar 10)) (aCons (eFrz (eVar 6)) (aCons (eFrz (eVar 7)) aNil)))) [10]))
  (sSeq (sSet 9 (eCall 5 none M_pair_bounds (aCons (eFrz (eVar 2)) (aCons (eFrz (eVar 3)) (aCons (eFrz (eVar 4)) (aCons (eFrz (eVar 6)) (aCons (eFrz (eVar 7)) aNil)))))))
  (sIf (tOrM (tNotM (tVal (eN gIsi (aCons (eVar 9) (aCons (eC (.ty "tuple")) aNil))))) (tOrM (tVal (eB gNe (eVar 9) (eTup (aCons (eN gMinL (aCons (eVar 8) aNil)) (aCons (eN gMaxL (aCons (eVar 8) aNil)) aNil))))) (tVal (eN gIsi (aCons (eB gIx (eVar 9) (eC (.int 0))) (aCons (eC (.ty "bool")) aNil)))))) (sRet (eC (.bl false))) sSkip)))))
  (sRet (eC (.bl true))))))))
noncomputable def M__law_few_right : FM := runDef 11 (some 0) b__law_few_right
noncomputable def b_RawStanding___init__ : SM :=
  (sSeq (sFldM 0 "house" (eFrz (eVar 1)))
  (sSeq (sFldM 0 "lift" (eFrz (eVar 2)))
  (sFldM 0 "groups" (eFrz (eVar 3)))))
noncomputable def M_RawStanding___init__ : FM := runDef 4 (some 0) b_RawStanding___init__
noncomputable def b_raw_standing : SM :=
  (sSeq (sSet 3 (eComp (iAny (eVar 2)) (.nm 4) (tVal (eB gGt (eB gIx (eVar 2) (eVar 4)) (eC (.int 0)))) (eB gAdd (eVar 4) (eTup (aCons (eB gIx (eVar 2) (eVar 4)) aNil))) [4]))
  (sRet (eMake 4 "RawStanding" M_RawStanding___init__ (aCons (eFrz (eVar 0)) (aCons (eFrz (eVar 1)) (aCons (eN gTuple (aCons (eN gSorted (aCons (eVar 3) aNil)) aNil)) aNil))))))
noncomputable def M_raw_standing : FM := runDef 5 none b_raw_standing
noncomputable def b_paired : SM :=
  (sSeq (sSet 4 (eN gList (aCons (eVar 2) aNil)))
  (sSeq (sSet 5 (eDnew true))
  (sSeq (sSet 6 (eN gList (aCons (eVar 3) aNil)))
  (sSeq (sFor (iArgs enum2 (aCons (eFrz (eVar 1)) aNil)) (.tp [(.nm 7), (.nm 8)]) (sWhile (tVal (eB gGt (eVar 8) (eC (.int 0)))) (sSeq (sSet 9 (eB gIx (eVar 6) (eC (.int 0))))
  (sSeq (sSet 10 (eN gMin2 (aCons (eVar 8) (aCons (eB gIx (eVar 4) (eVar 9)) aNil))))
  (sSeq (sIf (tVal (eB gGt (eVar 10) (eC (.int 0)))) (sSub (.sl 5) (eTup (aCons (eFrz (eVar 7)) (aCons (eFrz (eVar 9)) aNil))) (eB gAdd (eGet2 (eVar 5) (eTup (aCons (eFrz (eVar 7)) (aCons (eFrz (eVar 9)) aNil))) (eC (.int 0))) (eVar 10))) sSkip)
  (sSeq (sSub (.sl 4) (eFrz (eVar 9)) (eB gSub (eB gIx (eVar 4) (eVar 9)) (eVar 10)))
  (sSeq (sAug (fun a b => a - b) 8 (eVar 10))
  (sIf (tVal (eB gEq (eB gIx (eVar 4) (eVar 9)) (eC (.int 0)))) (sSet 6 (eSl (eVar 6) (some (eC (.int 1))) none)) sSkip))))))))
  (sRet (eCall 3 none M_raw_standing (aCons (eFrz (eVar 0)) (aCons (eC (.int 0)) (aCons (eFrz (eVar 5)) aNil)))))))))
noncomputable def M_paired : FM := runDef 11 none b_paired
noncomputable def b_least_wishes : SM :=
  (sSeq (sDrop (eCall 3 none M_check_counts (aCons (eFrz (eVar 0)) (aCons (eFrz (eVar 1)) (aCons (eFrz (eVar 2)) aNil)))))
  (sRet (eCall 4 none M_paired (aCons (eFrz (eVar 0)) (aCons (eFrz (eVar 1)) (aCons (eFrz (eVar 2)) (aCons (eFrz (eU gRg1 (eAttr "floors" (eVar 0)))) aNil)))))))
noncomputable def M_least_wishes : FM := runDef 3 none b_least_wishes
noncomputable def b_most_wishes : SM :=
  (sSeq (sDrop (eCall 3 none M_check_counts (aCons (eFrz (eVar 0)) (aCons (eFrz (eVar 1)) (aCons (eFrz (eVar 2)) aNil)))))
  (sRet (eCall 4 none M_paired (aCons (eFrz (eVar 0)) (aCons (eFrz (eVar 1)) (aCons (eFrz (eVar 2)) (aCons (eFrz (eU gRev (eU gRg1 (eAttr "floors" (eVar 0))))) aNil)))))))
noncomputable def M_most_wishes : FM := runDef 3 none b_most_wishes
noncomputable def b__law_great_right : SM :=
  (sSeq (sSet 1 (eB gIx (eLst (aCons (eB gAdd (eC (.int 2)) (eCall 2 (some 0) M__law_pick (aCons (eVar 0) (aCons (eC (.int 7)) aNil)))) (aCons (eC (.int 40)) aNil))) (eN gInt (aCons (eB gEq (eCall 2 (some 0) M__law_pick (aCons (eVar 0) (aCons (eC (.int 12)) aNil))) (eC (.int 11))) aNil))))
  (sSeq (sSet 2 (eMake 3 "House" M_House___init__ (aCons (eFrz (eVar 1)) (aCons (eB gAdd (eC (.int 1)) (eCall 2 (some 0) M__law_pick (aCons (eVar 0) (aCons (eB gPow (eC (.int 10)) (eC (.int 6))) aNil)))) aNil))))
  (sSeq (sTgt (.tp [(.nm 3), (.nm 4)]) (eFrz (eCall 3 (some 0) M__law_counts (aCons (eVar 0) (aCons (eFrz (eVar 1)) (aCons (eB gIx (eLst (aCons (eC (.int 12)) (aCons (eB gPow (eC (.int 10)) (eC (.int 30))) aNil))) (eCall 2 (some 0) M__law_pick (aCons (eVar 0) (aCons (eC (.int 2)) aNil)))) aNil))))))
  (sSeq (sSet 5 (eAttr "groups" (eCall 3 none M_least_wishes (aCons (eFrz (eVar 2)) (aCons (eFrz (eVar 3)) (aCons (eFrz (eVar 4)) aNil))))))
  (sSeq (sSet 6 (eAttr "groups" (eCall 3 none M_most_wishes (aCons (eFrz (eVar 2)) (aCons (eFrz (eVar 3)) (aCons (eFrz (eVar 4)) aNil))))))
  (sSeq (sFor (iRange rng1 (aCons (eC (.int 6)) aNil)) (.nm 7) (sSeq (sSet 8 (eCall 2 (some 0) M__law_pick (aCons (eVar 0) (aCons (eFrz (eVar 1)) aNil))))
  (sSeq (sSet 9 (eCall 2 (some 0) M__law_pick (aCons (eVar 0) (aCons (eFrz (eVar 1)) aNil))))
  (sSeq (sSet 10 (eTup (aCons (eN gMax2 (aCons (eC (.int 0)) (aCons (eB gSub (eB gAdd (eB gIx (eVar 3) (eVar 8)) (eB gIx (eVar 4) (eVar 9))) (eN gSum (aCons (eVar 3) aNil))) aNil))) (aCons (eN gMin2 (aCons (eB gIx (eVar 3) (eVar 8)) (aCons (eB gIx (eVar 4) (eVar 9)) aNil))) aNil))))
  (sSeq (sIf (tVal (eB gNe (eCall 5 none M_pair_bounds (aCons (eFrz (eVar 2)) (aCons (eFrz (eVar 3)) (aCons (eFrz (eVar 4)) (aCons (eFrz (eVar 8)) (aCons (eFrz (eVar 9)) aNil)))))) (eVar 10))) (sRet (eC (.bl false))) sSkip)
  (sFor (iAny (eLst (aCons (eFrz (eVar 5)) (aCons (eFrz (eVar 6)) aNil)))) (.nm 11) (sIf (tNotM (tVal (eChain gLe gLe (eB gIx (eVar 10) (eC (.int 0))) (eCall 3 none M__law_many (aCons (eFrz (eVar 11)) (aCons (eFrz (eVar 8)) (aCons (eFrz (eVar 9)) aNil)))) (eB gIx (eVar 10) (eC (.int 1)))))) (sRet (eC (.bl false))) sSkip)))))))
  (sRet (eC (.bl true)))))))))
noncomputable def M__law_great_right : FM := runDef 12 (some 0) b__law_great_right
noncomputable def b_law : SM :=
  (sSeq (sSet 1 (eCall 1 none M__law_deck (aCons (eFrz (eVar 0)) aNil)))
  (sSeq (sFor (iRange rng1 (aCons (eB gAdd (eC (.int 1)) (eN gMin2 (aCons (eN gLen (aCons (eVar 0) aNil)) (aCons (eC (.int 2)) aNil)))) aNil)) (.nm 2) (sIf (tOrM (tNotM (tVal (eCall 1 (some 0) M__law_few_right (aCons (eVar 1) aNil)))) (tNotM (tVal (eCall 1 (some 0) M__law_great_right (aCons (eVar 1) aNil))))) (sRet (eC (.bl false))) sSkip))
  (sRet (eC (.bl true)))))
noncomputable def M_law : FM := runDef 3 none b_law
end K58
namespace K58
open PySem L2 Mi
theorem is_integer_int (i : Int) : M_is_integer [.fz (.int i)] = .ok (.fz (.bl true)) none := by
  simp [M_is_integer, b_is_integer]
theorem is_within_int (i a b : Int) : M_is_within [.fz (.int i), .fz (.int a), .fz (.int b)] = .ok (.fz (.bl (decide (a ≤ i) && decide (i ≤ b)))) none := by
  by_cases h : a ≤ i <;> simp [M_is_within, b_is_within, is_integer_int, h]
abbrev hD (f r : Int) : D := .ins "House" [("floors", .int f), ("room", .int r)]
theorem house (f r : Int) (h1 : 2 ≤ f) (h2 : f ≤ 40) (h3 : 1 ≤ r) (h4 : r ≤ 1000000000000) : M_House___init__ [.ins "House" [], .fz (.int f), .fz (.int r)] = .ok (.fz .non) (some (.ins "House" [("floors", .fz (.int f)), ("room", .fz (.int r))])) := by
  simp (decide := true) [M_House___init__, b_House___init__, is_within_int, h1, h2, h3, h4]
theorem is_floor_int (f r t : Int) : M_is_floor [.fz (hD f r), .fz (.int t)] = .ok (.fz (.bl (decide (0 ≤ t) && decide (t ≤ f - 1)))) none := by
  simp [M_is_floor, b_is_floor, is_within_int]
theorem check_floor_int (f r t : Int) (h : 0 ≤ t) (h2 : t ≤ f - 1) : M_check_floor [.fz (hD f r), .fz (.int t)] = .ok (.fz (.int t)) none := by
  simp [M_check_floor, b_check_floor, is_floor_int, h, h2]
abbrev tI (l : List Int) : D := .tup (l.map D.int)
theorem bls_true {α : Type} : ∀ l : List α, blsOf (l.map fun _ => D.bl true) = some (l.map fun _ => true)
  | [] => rfl
  | a :: l => by simp only [List.map_cons, blsOf, bls_true l]; rfl
theorem count_row (f r : Int) (l : List Int) (hl : (l.length : Int) = f) (h : ∀ x ∈ l, 0 ≤ x ∧ x ≤ 10 ^ 30) (hs : l.length ≤ 1000) : M_is_count_row [.fz (hD f r), .fz (tI l)] = .ok (.fz (.bl true)) none := by
  have e : compL (.nm 2) tTrue (eCall 3 none M_is_within (aCons (eFrz (eVar 2)) (aCons (eC (.int 0)) (aCons (eC (.int 1000000000000000000000000000000)) aNil)))) [2] (l.map D.int) [some (.fz (hD f r)), some (.fz (tI l)), none] [] = .ok ([] ++ ((l.map D.int).filter fun _ => true).map fun _ => D.bl true) [some (.fz (hD f r)), some (.fz (tI l)), none] := by
    refine compL_pure (fun _ => true) (fun _ => .bl true) _ _ (by simp; omega) fun d hd => ?_
    obtain ⟨x, hx, rfl⟩ := List.mem_map.mp hd
    have := h x hx
    refine ⟨_, _, by simp; rfl, .inr ⟨_, rfl, by simp; rfl, by simp [is_within_int, this.1]; exact ⟨by omega, rfl⟩, by simp⟩⟩
  simp [M_is_count_row, b_is_count_row, hl, e, bls_true, gAll, Function.comp_def]
theorem check_ok (f r : Int) (a b : List Int) (ha : (a.length : Int) = f) (hb : (b.length : Int) = f) (h : ∀ x ∈ a, 0 ≤ x ∧ x ≤ 10 ^ 30) (h' : ∀ x ∈ b, 0 ≤ x ∧ x ≤ 10 ^ 30) (hs : a.length ≤ 1000) (hs' : b.length ≤ 1000) (e : a.sum = b.sum) :
    M_check_counts [.fz (hD f r), .fz (tI a), .fz (tI b)] = .ok (.fz .non) none := by
  simp [M_check_counts, b_check_counts, count_row f r a ha h hs, count_row f r b hb h' hs', e]
theorem bounds (f r : Int) (a b : List Int) (i j : Nat) (ha : (a.length : Int) = f) (hb : (b.length : Int) = f) (h : ∀ x ∈ a, 0 ≤ x ∧ x ≤ 10 ^ 30) (h' : ∀ x ∈ b, 0 ≤ x ∧ x ≤ 10 ^ 30) (hs : a.length ≤ 1000) (hs' : b.length ≤ 1000) (e : a.sum = b.sum) (hi : i < a.length) (hj : j < b.length) :
    M_pair_bounds [.fz (hD f r), .fz (tI a), .fz (tI b), .fz (.int i), .fz (.int j)] = .ok (.fz (tI [if a[i] + b[j] - a.sum > 0 then a[i] + b[j] - a.sum else 0, if b[j] < a[i] then b[j] else a[i]])) none := by
  have c1 := check_floor_int f r i (by omega) (by omega)
  have c2 := check_floor_int f r j (by omega) (by omega)
  simp [M_pair_bounds, b_pair_bounds, check_ok f r a b ha hb h h' hs hs' e, c1, c2, at_map hi, at_map hj]
end K58
namespace K58
open PySem L2 Mi
/-! the deck -/
structure Dk where
  cells : List Int
  pos : Int
  rest : Int
  cnt : Int
abbrev deckO (k : Dk) : OT := .lst [.lst (k.cells.map D.int), .int k.pos, .int k.rest, .int k.cnt]
theorem mod_b (a : Int) {b : Int} (h : 0 < b) : 0 ≤ a % b ∧ a % b < b := ⟨Int.emod_nonneg _ (by omega), Int.emod_lt_of_pos _ h⟩
theorem pick (k : Dk) (m : Int) (h : 1 ≤ m) (h2 : m < 2 ^ 200) : ∃ r k', M__law_pick [deckO k, .fz (.int m)] = .ok (.fz (.int r)) (some (deckO k')) ∧ 0 ≤ r ∧ r < m := by
  obtain ⟨cells, pos, rest, cnt⟩ := k
  have hm : 0 < m := by omega
  have hl2 : m.natAbs.log2 < 9000 := log_small (by omega)
  by_cases h3 : 0 < rest
  · refine ⟨rest % m, ⟨cells, pos, rest / m, cnt + 1⟩, ?_, mod_b _ hm⟩
    simp [M__law_pick, b__law_pick, ixN, h3, hm, hl2]
  · have key : ∀ c : Int, (if 0 < cells.length then atI (cells.map D.int) (pos % (cells.length : Int)) = some (.int c) else c = 0) → ∃ r k', M__law_pick [deckO ⟨cells, pos, rest, cnt⟩, .fz (.int m)] = .ok (.fz (.int r)) (some (deckO k')) ∧ 0 ≤ r ∧ r < m := by
      intro c hc
      have b1 := mod_b ((c + 7919 * (cnt + 1) + 1) * 48271) (b := 2147483647) (by omega)
      generalize hx : (c + 7919 * (cnt + 1) + 1) * 48271 % 2147483647 = x at b1
      have b2 := mod_b (x * (x / 1009 + 69621)) (b := 2147483647) (by omega)
      generalize hy : x * (x / 1009 + 69621) % 2147483647 = y at b2
      have o1 : mulOk 7919 (cnt + 1) = true := mulOk_l (by decide)
      have o2 : mulOk (c + 7919 * (cnt + 1) + 1) 48271 = true := mulOk_r (by decide)
      have o3 : mulOk x (x / 1009 + 69621) = true := mulOk_l (by omega)
      have o4 : mulOk y (y / 2003 + 40692) = true := mulOk_l (by omega)
      have l1 : (1009 : Nat).log2 < 9000 := by decide
      have l2 : (2003 : Nat).log2 < 9000 := by decide
      by_cases h4 : 0 < cells.length
      · rw [if_pos h4] at hc
        have h4' : (0 : Int) < cells.length := by omega
        have hne : cells ≠ [] := List.length_pos_iff.mp h4
        by_cases h5 : 1000000000000000000 ≤ c
        · by_cases h6 : pos + 1 ≤ (cells.length : Int)
          · refine ⟨c % m, ⟨cells, pos + 1, c / m, cnt + 1⟩, ?_, mod_b _ hm⟩
            simp [M__law_pick, b__law_pick, ixN, h3, hm, hl2, h4, hc, h5, h6, hne]
          · refine ⟨y * (y / 2003 + 40692) % 2147483399 % m, ⟨cells, pos + 1, rest, cnt + 1⟩, ?_, mod_b _ hm⟩
            simp [M__law_pick, b__law_pick, ixN, h3, hm, hl2, h4, hc, h5, h6, hne, hx, hy, o1, o2, o3, o4, l1, l2]
        · refine ⟨y * (y / 2003 + 40692) % 2147483399 % m, ⟨cells, pos + 1, rest, cnt + 1⟩, ?_, mod_b _ hm⟩
          simp [M__law_pick, b__law_pick, ixN, h3, hm, hl2, h4, hc, h5, hne, hx, hy, o1, o2, o3, o4, l1, l2]
      · refine ⟨y * (y / 2003 + 40692) % 2147483399 % m, ⟨cells, pos + 1, rest, cnt + 1⟩, ?_, mod_b _ hm⟩
        rw [if_neg h4] at hc
        subst hc
        have : cells = [] := by
          cases cells with
          | nil => rfl
          | cons a l => exact absurd (by simp) h4
        subst this
        simp only [Int.zero_add] at hx o2
        simp [M__law_pick, b__law_pick, ixN, h3, hm, hl2, hx, hy, o1, o2, o3, o4, l1, l2]
    by_cases h4 : 0 < cells.length
    · have hb := mod_b pos (b := (cells.length : Int)) (by omega)
      obtain ⟨n, hn⟩ := Int.eq_ofNat_of_zero_le hb.1
      have hl : n < cells.length := by omega
      exact key (cells[n]) (by rw [if_pos h4, hn]; exact at_map hl)
    · exact key 0 (by rw [if_neg h4])
end K58
namespace K58
open PySem L2 Mi
theorem sum_set : ∀ (l : List Int) (n : Nat) (x : Int) (h : n < l.length), (l.set n x).sum = l.sum - l[n] + x
  | a :: l, 0, x, h => by simp; omega
  | a :: l, n + 1, x, h => by
    have := sum_set l n x (by simpa using h)
    simp only [List.set_cons_succ, List.sum_cons, List.getElem_cons_succ, this]
    omega
theorem map_set_int (l : List Int) (n : Nat) (x : Int) : (l.map D.int).set n (.int x) = (l.set n x).map D.int := by rw [List.map_set]
theorem nonneg_set {l : List Int} {n : Nat} {x : Int} (h : ∀ y ∈ l, 0 ≤ y) (hx : 0 ≤ x) : ∀ y ∈ l.set n x, 0 ≤ y := fun y hy => by
  rcases List.mem_or_eq_of_mem_set hy with h1 | h1
  · exact h y h1
  · omega
/-- a row of the law's counts gets the total -/
noncomputable def rowBody : SM := (sSeq (sSet 7 (eFrz (eVar 3)))
  (sSeq (sFor (iRange rng1 (aCons (eCall 2 (some 0) M__law_pick (aCons (eVar 0) (aCons (eC (.int 6)) aNil))) aNil)) (.nm 8) (sSeq (sSet 9 (eB gDiv (eB gMul (eVar 7) (eCall 2 (some 0) M__law_pick (aCons (eVar 0) (aCons (eC (.int 8)) aNil)))) (eC (.int 7))))
  (sSeq (sSet 10 (eCall 2 (some 0) M__law_pick (aCons (eVar 0) (aCons (eFrz (eVar 1)) aNil))))
  (sSeq (sSub (.sl 6) (eFrz (eVar 10)) (eB gAdd (eB gIx (eVar 6) (eVar 10)) (eVar 9)))
  (sSet 7 (eB Mi.gSub (eVar 7) (eVar 9)))))))
  (sSeq (sSet 10 (eCall 2 (some 0) M__law_pick (aCons (eVar 0) (aCons (eFrz (eVar 1)) aNil))))
  (sSub (.sl 6) (eFrz (eVar 10)) (eB gAdd (eB gIx (eVar 6) (eVar 10)) (eVar 7))))))
theorem rowBody_ok (k : Dk) (F : Nat) (total : Int) (s2 s4 s5 s7 s8 s9 s10 : Option OT) (l : List Int) (hF : 1 ≤ F) (hF2 : F ≤ 1000) (h0 : 0 ≤ total) (hl : l.length = F) (hn : ∀ y ∈ l, 0 ≤ y) :
    ∃ (k' : Dk) (l' : List Int) (t7 t8 t9 t10 : Option OT), rowBody [some (deckO k), some (.fz (.int F)), s2, some (.fz (.int total)), s4, s5, some (.lst (l.map D.int)), s7, s8, s9, s10] = .nx [some (deckO k'), some (.fz (.int F)), s2, some (.fz (.int total)), s4, s5, some (.lst (l'.map D.int)), t7, t8, t9, t10] ∧ l'.length = F ∧ (∀ y ∈ l', 0 ≤ y) ∧ l'.sum = l.sum + total := by
  obtain ⟨n, k1, e1, n0, n6⟩ := pick k 6 (by decide) (by decide)
  obtain ⟨n, rfl⟩ := Int.eq_ofNat_of_zero_le n0
  have sm : small62 (n : Int) = true := small62_nat (by omega)
  generalize hbase : l.sum + total = base
  have loop := forL_inv (tg := .nm 8) (body := (sSeq (sSet 9 (eB gDiv (eB gMul (eVar 7) (eCall 2 (some 0) M__law_pick (aCons (eVar 0) (aCons (eC (.int 8)) aNil)))) (eC (.int 7))))
  (sSeq (sSet 10 (eCall 2 (some 0) M__law_pick (aCons (eVar 0) (aCons (eFrz (eVar 1)) aNil))))
  (sSeq (sSub (.sl 6) (eFrz (eVar 10)) (eB gAdd (eB gIx (eVar 6) (eVar 10)) (eVar 9)))
  (sSet 7 (eB Mi.gSub (eVar 7) (eVar 9))))))) (rng 0 n)
    (fun _ e => ∃ (k : Dk) (l : List Int) (left : Int) (t8 t9 t10 : Option OT), e = [some (deckO k), some (.fz (.int F)), s2, some (.fz (.int total)), s4, s5, some (.lst (l.map D.int)), some (.fz (.int left)), t8, t9, t10] ∧ 0 ≤ left ∧ l.length = F ∧ (∀ y ∈ l, 0 ≤ y) ∧ l.sum + left = base) (env := [some (deckO k1), some (.fz (.int F)), s2, some (.fz (.int total)), s4, s5, some (.lst (l.map D.int)), some (.fz (.int total)), s8, s9, s10])
    ⟨k1, l, total, s8, s9, s10, rfl, h0, hl, hn, hbase⟩ ?_
  · obtain ⟨e', h1, k2, l2, left, t8, t9, t10, rfl, q0, ql, qn, qs⟩ := loop
    obtain ⟨p, k3, e3, p0, pF⟩ := pick k2 F (by omega) (by omega)
    obtain ⟨p, rfl⟩ := Int.eq_ofNat_of_zero_le p0
    have hp : p < l2.length := by omega
    refine ⟨k3, l2.set p (l2[p] + left), some (.fz (.int left)), t8, t9, some (.fz (.int p)), ?_, by simp [ql], nonneg_set qn (by have := qn _ (List.getElem_mem hp); omega), by rw [sum_set _ _ _ hp]; omega⟩
    simp [rowBody, e1, sm, h1, e3, at_map hp, ixn_nat, hp]
  · rintro pre d post e hd ⟨k, l, left, t8, t9, t10, rfl, q0, ql, qn, qs⟩
    obtain ⟨a, k2, e2, a0, a8⟩ := pick k 8 (by decide) (by decide)
    obtain ⟨p, k3, e3, p0, pF⟩ := pick k2 F (by omega) (by omega)
    obtain ⟨p, rfl⟩ := Int.eq_ofNat_of_zero_le p0
    have hp : p < l.length := by omega
    have m1 : mulOk left a = true := mulOk_r (by omega)
    have b1 : 0 ≤ left * a / 7 := Int.ediv_nonneg (Int.mul_nonneg q0 a0) (by decide)
    have b2 : left * a / 7 ≤ left := by
      have : left * a ≤ left * 7 := Int.mul_le_mul_of_nonneg_left (by omega) q0
      omega
    have l7 : (7 : Nat).log2 < 9000 := by decide
    refine ⟨_, _, by simp; rfl, .inl (by simp [e2, e3, m1, l7, at_map hp, ixn_nat, hp]), k3, l.set p (l[p] + left * a / 7), left - left * a / 7, some (.fz d), some (.fz (.int (left * a / 7))), some (.fz (.int p)), rfl, by omega, by simp [ql], nonneg_set qn (by have := qn _ (List.getElem_mem hp); omega), by rw [sum_set _ _ _ hp]; omega⟩
theorem rep_int (n : Nat) : (List.replicate n [D.int 0]).flatten = (List.replicate n (0 : Int)).map D.int := by
  induction n with
  | zero => rfl
  | succ n ih => rw [List.replicate_succ, List.flatten_cons, ih, List.replicate_succ]; rfl
theorem rep_sum (n : Nat) : (List.replicate n (0 : Int)).sum = 0 := by
  induction n with
  | zero => rfl
  | succ n ih => rw [List.replicate_succ, List.sum_cons, ih]; rfl
theorem counts (k : Dk) (F : Nat) (size : Int) (hF : 1 ≤ F) (hF2 : F ≤ 1000) (hs : 1 ≤ size) (hs2 : size ≤ 10 ^ 30) : ∃ (k' : Dk) (a b : List Int), M__law_counts [deckO k, .fz (.int F), .fz (.int size)] = .ok (.lst [tI a, tI b]) (some (deckO k')) ∧ a.length = F ∧ b.length = F ∧ (∀ y ∈ a, 0 ≤ y) ∧ (∀ y ∈ b, 0 ≤ y) ∧ a.sum = b.sum ∧ a.sum ≤ (if 1000000000 < size then 1000000000 else size) * (1 + (size - 1) / 1000000000) := by
  generalize hm : (if 1000000000 < size then 1000000000 else size) = mn
  have hmn : 1 ≤ mn ∧ mn ≤ 1000000000 := by split at hm <;> omega
  obtain ⟨r, k1, e1, r0, r1⟩ := pick k (mn + 1) (by omega) (by omega)
  have m1 : mulOk r (1 + (size - 1) / 1000000000) = true := mulOk_l (by omega)
  have hq : 0 ≤ (size - 1) / 1000000000 := Int.ediv_nonneg (by omega) (by decide)
  generalize hT : r * (1 + (size - 1) / 1000000000) = total
  have t0 : 0 ≤ total := by rw [← hT]; exact Int.mul_nonneg r0 (by omega)
  have tb : total ≤ mn * (1 + (size - 1) / 1000000000) := by rw [← hT]; exact Int.mul_le_mul_of_nonneg_right (by omega) (by omega)
  obtain ⟨k2, a, t7, t8, t9, t10, e2, a1, a2, a3⟩ := rowBody_ok k1 F total (some (.fz (.int size))) none (some (.lst ((List.replicate F (0 : Int)).map D.int))) none none none none (List.replicate F 0) hF hF2 t0 (by simp) (by simp)
  obtain ⟨k3, b, u7, u8, u9, u10, e3, b1, b2, b3⟩ := rowBody_ok k2 F total (some (.fz (.int size))) (some (.lst (a.map D.int))) none t7 t8 t9 t10 (List.replicate F 0) hF hF2 t0 (by simp) (by simp)
  have l9 : (1000000000 : Nat).log2 < 9000 := by decide
  refine ⟨k3, a, b, ?_, a1, b1, a2, b2, by rw [a3, b3], by rw [a3, rep_sum]; omega⟩
  have F2 : mulLok 1 (F : Int) = true := mulLok_nat (by omega) (by omega)
  have ub : b__law_counts = (sSeq (sSet 3 (eB gMul (eCall 2 (some 0) M__law_pick (aCons (eVar 0) (aCons (eB gAdd (eN gMin2 (aCons (eVar 2) (aCons (eB gPow (eC (.int 10)) (eC (.int 9))) aNil))) (eC (.int 1))) aNil))) (eB gAdd (eC (.int 1)) (eB gDiv (eB Mi.gSub (eVar 2) (eC (.int 1))) (eB gPow (eC (.int 10)) (eC (.int 9)))))))
  (sSeq (sSet 4 (eB gMul (eLst (aCons (eC (.int 0)) aNil)) (eVar 1)))
  (sSeq (sSet 5 (eB gMul (eLst (aCons (eC (.int 0)) aNil)) (eVar 1)))
  (sSeq (sAl2 4 5 6 rowBody)
  (sRet (eLst (aCons (eN gTuple (aCons (eVar 4) aNil)) (aCons (eN gTuple (aCons (eVar 5) aNil)) aNil)))))))) := rfl
  unfold M__law_counts
  rw [ub]
  simp only [List.map_replicate] at e2 e3
  simp [runDef, turnA, moveS, hm, e1, m1, hT, l9, F2, e2, e3]
end K58
namespace K58
open PySem L2 Mi
def natsI (n : Nat) : List Int := (List.range n).map Int.ofNat
theorem rng_nats (n : Nat) : rng 0 n = (natsI n).map D.int := by
  simp [rng, natsI]
theorem lstRg0 {y : Int} (h0 : 0 ≤ y) (h : y ≤ 16777216) : lstRg 0 y = some (.lst ((natsI y.toNat).map D.int)) := by
  unfold lstRg
  rw [if_pos ⟨small62_int (by decide) (by decide), small62_int h0 (by omega), by omega⟩, Int.sub_zero, rng_nats]
theorem mem_nats {n : Nat} {x : Int} : x ∈ natsI n ↔ 0 ≤ x ∧ x < n := by
  simp only [natsI, List.mem_map, List.mem_range]
  constructor
  · rintro ⟨i, h, rfl⟩; exact ⟨Int.natCast_nonneg i, by show (i : Int) < n; omega⟩
  · rintro ⟨h1, h2⟩; exact ⟨x.toNat, by omega, by show (x.toNat : Int) = x; omega⟩
theorem nats_length (n : Nat) : (natsI n).length = n := by simp [natsI]
def partsP (left m : Int) (last : Bool) : List Int :=
  if last = true then (natsI ((if m < left then m else left) + 1).toNat).filter fun x => decide (x = left) else natsI ((if m < left then m else left) + 1).toNat
def extP (left m : Int) (last : Bool) (row : List Int) : List (List Int) := (partsP left m last).map fun x => row ++ [x]
theorem comp_filter (s0 s1 s2 s3 s4 s5 s6 s8 : Option OT) (left : Int) (xs : List Int) (h : xs.length ≤ 16777216) : compL (.nm 9) (tVal (eB gEq (eVar 9) (eVar 7))) (eVar 9) [9] (xs.map D.int) [s0, s1, s2, s3, s4, s5, s6, some (.fz (.int left)), s8, none] [] = .ok ((xs.filter fun x => decide (x = left)).map D.int) [s0, s1, s2, s3, s4, s5, s6, some (.fz (.int left)), s8, none] := by
  rw [compL_pure (fun d => match d with | .int x => decide (x = left) | _ => false) id _ _ (by simpa using h)]
  · simp only [List.nil_append, List.map_id, Res.ok.injEq, and_true]
    induction xs with
    | nil => rfl
    | cons x xs ih =>
      simp only [List.length_cons] at h
      by_cases hx : x = left
      · simp [hx, ih (by omega)]
      · simp [hx, ih (by omega)]
  · intro d hd
    obtain ⟨x, hx, rfl⟩ := List.mem_map.mp hd
    by_cases hx : x = left
    · subst hx
      exact ⟨_, _, by simp; rfl, .inr ⟨_, by simp, by simp; rfl, by simp; rfl, by simp⟩⟩
    · exact ⟨_, _, by simp; rfl, .inl ⟨by simp [hx], by simp [hx]; rfl, by simp⟩⟩
theorem comp_app (s0 s1 s2 s3 s4 s5 s7 s8 : Option OT) (row : List Int) (xs : List Int) (h : xs.length ≤ 16777216) (hr : row.length < 16777216) : compL (.nm 9) tTrue (eB gAdd (eVar 6) (eTup (aCons (eFrz (eVar 9)) aNil))) [9] (xs.map D.int) [s0, s1, s2, s3, s4, s5, some (.fz (tI row)), s7, s8, none] [] = .ok ((xs.map fun x => row ++ [x]).map tI) [s0, s1, s2, s3, s4, s5, some (.fz (tI row)), s7, s8, none] := by
  rw [compL_pure (fun _ => true) (fun d => match d with | .int x => tI (row ++ [x]) | _ => .non) _ _ (by simpa using h)]
  · simp
  · intro d hd
    obtain ⟨x, hx, rfl⟩ := List.mem_map.mp hd
    have : row.length + 1 ≤ 16777216 := hr
    exact ⟨_, _, by simp; rfl, .inr ⟨_, rfl, by simp; rfl, by simp [this]; rfl, by simp⟩⟩
noncomputable def spRow : SM := (sSeq (sSet 7 (eB Mi.gSub (eVar 0) (eN gSum (aCons (eVar 6) aNil))))
  (sSeq (sSet 8 (eU gRg1 (eB gAdd (eN gMin2 (aCons (eVar 7) (aCons (eB gIx (eVar 1) (eVar 3)) aNil))) (eC (.int 1)))))
  (sSeq (sIf (tVal (eVar 5)) (sSet 8 (eComp (iAny (eVar 8)) (.nm 9) (tVal (eB gEq (eVar 9) (eVar 7))) (eVar 9) [9])) sSkip)
  (sExt (.sl 4) (eComp (iAny (eVar 8)) (.nm 9) tTrue (eB gAdd (eVar 6) (eTup (aCons (eFrz (eVar 9)) aNil))) [9])))))
theorem parts_len (left m : Int) (last : Bool) (h : left ≤ 16000000) : (partsP left m last).length ≤ 16777216 := by
  unfold partsP
  split
  · refine Nat.le_trans (List.length_filter_le _ _) ?_
    rw [nats_length]; split <;> omega
  · rw [nats_length]; split <;> omega
theorem spRow_ok (M : Int) (most row : List Int) (s2 : Option OT) (at_ : Nat) (last : Bool) (acc : List (List Int)) (s7 s8 s9 : Option OT) (hat : at_ < most.length) (hm : 0 ≤ most[at_]) (hl : 0 ≤ M - row.sum) (hl2 : M - row.sum ≤ 16000000) (hr : row.length < 16777216) (hacc : acc.length + (extP (M - row.sum) most[at_] last row).length ≤ 16777216) :
    ∃ t7 t8, spRow [some (.fz (.int M)), some (.fz (tI most)), s2, some (.fz (.int at_)), some (.lst (acc.map tI)), some (.fz (.bl last)), some (.fz (tI row)), s7, s8, s9] = .nx [some (.fz (.int M)), some (.fz (tI most)), s2, some (.fz (.int at_)), some (.lst ((acc ++ extP (M - row.sum) most[at_] last row).map tI)), some (.fz (.bl last)), some (.fz (tI row)), t7, t8, none] := by
  have e1 : lstRg 0 ((if most[at_] < M - row.sum then most[at_] else M - row.sum) + 1) = some (.lst ((natsI ((if most[at_] < M - row.sum then most[at_] else M - row.sum) + 1).toNat).map D.int)) := lstRg0 (by split <;> omega) (by split <;> omega)
  have hn : (natsI ((if most[at_] < M - row.sum then most[at_] else M - row.sum) + 1).toNat).length ≤ 16777216 := by rw [nats_length]; split <;> omega
  have hp := parts_len (M - row.sum) most[at_] last hl2
  have e2 := comp_filter (some (.fz (.int M))) (some (.fz (tI most))) s2 (some (.fz (.int at_))) (some (.lst (acc.map tI))) (some (.fz (.bl last))) (some (.fz (tI row))) (some (.fz (.lst ((natsI ((if most[at_] < M - row.sum then most[at_] else M - row.sum) + 1).toNat).map D.int)))) (M - row.sum) _ hn
  have e3 := comp_app (some (.fz (.int M))) (some (.fz (tI most))) s2 (some (.fz (.int at_))) (some (.lst (acc.map tI))) (some (.fz (.bl last))) (some (.fz (.int (M - row.sum)))) (some (.fz (.lst ((partsP (M - row.sum) most[at_] last).map D.int)))) row _ hp hr
  refine ⟨some (.fz (.int (M - row.sum))), some (.fz (.lst ((partsP (M - row.sum) most[at_] last).map D.int))), ?_⟩
  unfold extP at hacc ⊢
  generalize hv : (if most[at_] < M - row.sum then most[at_] else M - row.sum) = v at e1 hn e2
  cases last with
  | true =>
    have pe : partsP (M - row.sum) most[at_] true = (natsI (v + 1).toNat).filter fun x => decide (x = M - row.sum) := by simp [partsP, hv]
    rw [pe] at e3 hacc ⊢
    simp only [List.length_map] at hacc
    simp only [List.map_append]
    simp [spRow, at_map hat, hv, e1, -List.map_map]
    rw [e2]
    simp [-List.map_map]
    rw [e3]
    simp [hacc, -List.map_map]
  | false =>
    have pe : partsP (M - row.sum) most[at_] false = natsI (v + 1).toNat := by simp [partsP, hv]
    rw [pe] at e3 hacc ⊢
    simp only [List.length_map] at hacc
    simp only [List.map_append]
    simp [spRow, at_map hat, hv, e1, -List.map_map]
    rw [e3]
    simp [hacc, -List.map_map]
/-! rows that fit -/
def fits : List Int → List Int → Prop
  | [], [] => True
  | x :: r, m :: ms => 0 ≤ x ∧ x ≤ m ∧ fits r ms
  | _, _ => False
theorem fits_len : ∀ {r ms : List Int}, fits r ms → r.length = ms.length
  | [], [], _ => rfl
  | x :: r, m :: ms, h => congrArg (· + 1) (fits_len h.2.2)
  | [], _ :: _, h => h.elim
  | _ :: _, [], h => h.elim
theorem fits_snoc : ∀ {r ms : List Int} {x m : Int}, fits (r ++ [x]) (ms ++ [m]) ↔ fits r ms ∧ 0 ≤ x ∧ x ≤ m
  | [], [], x, m => by simp [fits]
  | y :: r, n :: ms, x, m => by simp [fits, fits_snoc (r := r) (ms := ms), and_assoc]
  | [], [n], x, m => by simp [fits]
  | [], n :: k :: ms, x, m => by simp [fits]
  | [y], [], x, m => by simp [fits]
  | y :: z :: r, [], x, m => by simp [fits]
theorem fits_inv {r' ms : List Int} {m : Int} (h : fits r' (ms ++ [m])) : ∃ r x, r' = r ++ [x] := by
  have hl := fits_len h
  have hne : r' ≠ [] := fun z => by rw [z] at hl; simp at hl
  exact ⟨r'.dropLast, r'.getLast hne, (List.dropLast_concat_getLast hne).symm⟩
theorem fits_sum : ∀ {r ms : List Int}, fits r ms → 0 ≤ r.sum
  | [], [], _ => by simp
  | x :: r, m :: ms, h => by
    have := fits_sum h.2.2
    have := h.1
    simp only [List.sum_cons]; omega
  | [], _ :: _, h => h.elim
  | _ :: _, [], h => h.elim
theorem mem_parts {left m x : Int} {last : Bool} (hl : 0 ≤ left) (hm : 0 ≤ m) : x ∈ partsP left m last ↔ 0 ≤ x ∧ x ≤ m ∧ (if last = true then x = left else x ≤ left) := by
  unfold partsP
  cases last with
  | true =>
    simp only [if_true, List.mem_filter, mem_nats, decide_eq_true_eq]
    split <;> constructor <;> intro h <;> (try refine ⟨⟨?_, ?_⟩, ?_⟩) <;> (try refine ⟨?_, ?_, ?_⟩) <;> omega
  | false =>
    simp only [mem_nats, Bool.false_eq_true, if_false]
    split <;> constructor <;> intro h <;> (try refine ⟨?_, ?_⟩) <;> (try refine ⟨?_, ?_, ?_⟩) <;> omega
theorem parts_count {left m M : Int} {last : Bool} (hl : 0 ≤ left) (hm : 0 ≤ m) (hM : left ≤ M) : (partsP left m last).length ≤ if last = true then 1 else M.toNat + 1 := by
  unfold partsP
  cases last with
  | true =>
    simp only [if_true]
    unfold natsI
    rw [List.filter_map, List.length_map]
    have hnd : ((List.range ((if m < left then m else left) + 1).toNat).filter ((fun x => decide (x = left)) ∘ Int.ofNat)).Nodup := List.Pairwise.filter _ List.nodup_range
    have hall : ∀ x ∈ (List.range ((if m < left then m else left) + 1).toNat).filter ((fun x => decide (x = left)) ∘ Int.ofNat), x = left.toNat := fun x hx => by
      have := (List.mem_filter.mp hx).2
      simp only [Function.comp, decide_eq_true_eq] at this
      have e : (x : Int) = left := this
      omega
    generalize (List.range ((if m < left then m else left) + 1).toNat).filter ((fun x => decide (x = left)) ∘ Int.ofNat) = l at hnd hall
    match l, hnd, hall with
    | [], _, _ => simp
    | [_], _, _ => simp
    | a :: b :: l, hnd, hall =>
      have h1 := hall a (by simp)
      have h2 := hall b (by simp)
      rw [h1, h2] at hnd
      simp at hnd
  | false =>
    simp only [Bool.false_eq_true, if_false, nats_length]
    split <;> omega
theorem flat_len {α β : Type} (f : α → List β) (b : Nat) : ∀ l : List α, (∀ a ∈ l, (f a).length ≤ b) → (l.flatMap f).length ≤ l.length * b
  | [], _ => by simp
  | a :: l, h => by
    have h1 := h a List.mem_cons_self
    have h2 := flat_len f b l fun x m => h x (List.mem_cons_of_mem _ m)
    simp only [List.flatMap_cons, List.length_append, List.length_cons, Nat.add_mul, Nat.one_mul]
    omega
theorem pow_le' {a m n : Nat} (h : m ≤ n) : (a + 1) ^ m ≤ (a + 1) ^ n := Nat.pow_le_pow_right (by omega) h
theorem spInner (M : Int) (most : List Int) (s2 s6 s7 s8 s9 : Option OT) (at_ : Nat) (last : Bool) (found : List (List Int)) (hat : at_ < most.length) (hm : 0 ≤ most[at_]) (hf : ∀ r ∈ found, 0 ≤ M - r.sum ∧ M - r.sum ≤ 16000000 ∧ r.length < 16777216) (hb : (found.flatMap fun r => extP (M - r.sum) most[at_] last r).length ≤ 16777216) :
    ∃ t6 t7 t8 t9, forL (.nm 6) spRow (found.map tI) [some (.fz (.int M)), some (.fz (tI most)), s2, some (.fz (.int at_)), some (.lst []), some (.fz (.bl last)), s6, s7, s8, s9] = .nx [some (.fz (.int M)), some (.fz (tI most)), s2, some (.fz (.int at_)), some (.lst ((found.flatMap fun r => extP (M - r.sum) most[at_] last r).map tI)), some (.fz (.bl last)), t6, t7, t8, t9] := by
  suffices h : ∀ (post : List (List Int)) (acc : List (List Int)) (s6 s7 s8 s9 : Option OT), (∀ r ∈ post, r ∈ found) → acc.length + (post.flatMap fun r => extP (M - r.sum) most[at_] last r).length ≤ 16777216 →
      ∃ t6 t7 t8 t9, forL (.nm 6) spRow (post.map tI) [some (.fz (.int M)), some (.fz (tI most)), s2, some (.fz (.int at_)), some (.lst (acc.map tI)), some (.fz (.bl last)), s6, s7, s8, s9] = .nx [some (.fz (.int M)), some (.fz (tI most)), s2, some (.fz (.int at_)), some (.lst ((acc ++ post.flatMap fun r => extP (M - r.sum) most[at_] last r).map tI)), some (.fz (.bl last)), t6, t7, t8, t9] by
    simpa using h found [] s6 s7 s8 s9 (fun _ h => h) (by simpa using hb)
  intro post
  induction post with
  | nil => intro acc s6 s7 s8 s9 _ _; exact ⟨s6, s7, s8, s9, by simp [forL]⟩
  | cons r post ih =>
    intro acc s6 s7 s8 s9 hm2 hl
    simp only [List.flatMap_cons, List.length_append] at hl
    obtain ⟨h1, h2, h3⟩ := hf r (hm2 r List.mem_cons_self)
    obtain ⟨t7, t8, e1⟩ := spRow_ok M most r s2 at_ last acc s7 s8 s9 hat hm h1 h2 h3 (by omega)
    obtain ⟨u6, u7, u8, u9, e2⟩ := ih (acc ++ extP (M - r.sum) most[at_] last r) (some (.fz (tI r))) t7 t8 none (fun x h => hm2 x (List.mem_cons_of_mem _ h)) (by simp only [List.length_append]; omega)
    refine ⟨u6, u7, u8, u9, ?_⟩
    rw [List.map_cons, forL]
    simp only [setT_nm, List.length_cons, List.length_nil, Nat.reduceAdd, Nat.reduceLT, if_true, List.set_cons_succ, List.set_cons_zero, e1, e2, List.flatMap_cons, List.append_assoc]
/-- what stands found behind k places -/
def Found (M : Int) (most : List Int) (k : Nat) (found : List (List Int)) : Prop :=
  (∀ r, r ∈ found ↔ fits r (most.take k) ∧ if k = most.length ∧ 0 < k then r.sum = M else r.sum ≤ M) ∧ found.length ≤ (M.toNat + 1) ^ (min k (most.length - 1))
theorem found_step {M : Int} {most : List Int} {k : Nat} {found : List (List Int)} (hk : k < most.length) (hm : ∀ m ∈ most, 0 ≤ m) (h : Found M most k found) : Found M most (k + 1) (found.flatMap fun r => extP (M - r.sum) most[k] (decide ((k : Int) = (most.length : Int) - 1)) r) := by
  obtain ⟨h1, h2⟩ := h
  have m0 : 0 ≤ most[k] := hm _ (List.getElem_mem hk)
  have tk : most.take (k + 1) = most.take k ++ [most[k]] := by rw [List.take_succ_eq_append_getElem hk]
  have notyet : ¬ (k = most.length ∧ 0 < k) := by omega
  have left0 : ∀ r ∈ found, 0 ≤ M - r.sum ∧ M - r.sum ≤ M := fun r hr => by
    obtain ⟨a, b⟩ := (h1 r).mp hr
    rw [if_neg notyet] at b
    have := fits_sum a
    omega
  refine ⟨fun r' => ?_, ?_⟩
  · simp only [List.mem_flatMap, extP, List.mem_map]
    rw [tk]
    constructor
    · rintro ⟨r, hr, x, hx, rfl⟩
      obtain ⟨a, b⟩ := (h1 r).mp hr
      obtain ⟨x0, x1, x2⟩ := (mem_parts (left0 r hr).1 m0).mp hx
      refine ⟨fits_snoc.mpr ⟨a, x0, x1⟩, ?_⟩
      simp only [List.sum_append, List.sum_cons, List.sum_nil]
      by_cases hlast : k + 1 = most.length
      · rw [if_pos ⟨hlast, by omega⟩]
        rw [if_pos (by simp; omega)] at x2
        omega
      · rw [if_neg (by omega)]
        rw [if_neg (by simp; omega)] at x2
        omega
    · rintro ⟨a, b⟩
      obtain ⟨r, x, rfl⟩ := fits_inv a
      obtain ⟨a1, x0, x1⟩ := fits_snoc.mp a
      simp only [List.sum_append, List.sum_cons, List.sum_nil] at b
      have hr : r ∈ found := (h1 r).mpr ⟨a1, by rw [if_neg notyet]; split at b <;> omega⟩
      refine ⟨r, hr, x, (mem_parts (left0 r hr).1 m0).mpr ⟨x0, x1, ?_⟩, rfl⟩
      by_cases hlast : k + 1 = most.length
      · rw [if_pos ⟨hlast, by omega⟩] at b
        rw [if_pos (by simp; omega)]
        omega
      · rw [if_neg (by omega)] at b
        rw [if_neg (by simp; omega)]
        omega
  · have hb := flat_len (fun r => extP (M - r.sum) most[k] (decide ((k : Int) = (most.length : Int) - 1)) r) (if (decide ((k : Int) = (most.length : Int) - 1)) = true then 1 else M.toNat + 1) found fun r hr => by
      simp only [extP, List.length_map]
      exact parts_count (left0 r hr).1 m0 (left0 r hr).2
    by_cases hlast : k + 1 = most.length
    · rw [if_pos (by simp; omega)] at hb
      refine Nat.le_trans hb ?_
      rw [Nat.mul_one]
      refine Nat.le_trans h2 (pow_le' (by omega))
    · rw [if_neg (by simp; omega)] at hb
      refine Nat.le_trans hb ?_
      have e : min (k + 1) (most.length - 1) = min k (most.length - 1) + 1 := by omega
      rw [e, Nat.pow_succ]
      exact Nat.mul_le_mul_right _ h2
theorem spread (M : Int) (most : List Int) (h0 : 0 ≤ M) (hM : M ≤ 1000) (hn : 1 ≤ most.length) (hn2 : most.length ≤ 1000) (hm : ∀ m ∈ most, 0 ≤ m) (hb : (M.toNat + 1) ^ (most.length - 1) ≤ 16000000) :
    ∃ R : List (List Int), M__law_spread [.fz (.int M), .fz (tI most)] = .ok (.fz (.lst (R.map tI))) none ∧ (∀ r, r ∈ R ↔ fits r most ∧ r.sum = M) ∧ R.length ≤ (M.toNat + 1) ^ (most.length - 1) := by
  have start : Found M most 0 [[]] := by
    refine ⟨fun r => ?_, by simp⟩
    simp only [List.mem_singleton, List.take_zero]
    constructor
    · rintro rfl; exact ⟨trivial, by simp; exact h0⟩
    · rintro ⟨h, _⟩
      exact List.length_eq_zero_iff.mp (fits_len h)
  have loop := forL_inv (tg := .nm 3) (body := (sSeq (sSet 4 (eLst aNil))
  (sSeq (sSet 5 (eB gEq (eVar 3) (eB Mi.gSub (eN gLen (aCons (eVar 1) aNil)) (eC (.int 1)))))
  (sSeq (sFor (iAny (eVar 2)) (.nm 6) spRow)
  (sSet 2 (eFrz (eVar 4))))))) ((natsI most.length).map D.int)
    (fun pre e => ∃ (found : List (List Int)) (t2 t3 t4 t5 t6 t7 t8 t9 : Option OT), e = [some (.fz (.int M)), some (.fz (tI most)), t2, t3, t4, t5, t6, t7, t8, t9] ∧ Found M most pre.length found ∧ (t2 = some (.fz (.lst (found.map tI))) ∨ (pre = [] ∧ t2 = some (.lst (found.map tI)))))
    (env := [some (.fz (.int M)), some (.fz (tI most)), some (.lst [.tup []]), none, none, none, none, none, none, none]) ⟨[[]], _, _, _, _, _, _, _, _, rfl, start, .inr ⟨rfl, rfl⟩⟩ ?_
  · obtain ⟨e', h1, found, t2, t3, t4, t5, t6, t7, t8, t9, rfl, hF, ht⟩ := loop
    have hl : ((natsI most.length).map D.int).length = most.length := by rw [List.length_map, nats_length]
    rw [hl] at hF
    have ht2 : t2 = some (.fz (.lst (found.map tI))) := by
      rcases ht with h | ⟨h, _⟩
      · exact h
      · have h0 : ((natsI most.length).map D.int).length = 0 := by rw [h]; rfl
        omega
    subst ht2
    refine ⟨found, ?_, fun r => ?_, Nat.le_trans hF.2 (by rw [Nat.min_eq_right (by omega)]; exact Nat.le_refl _)⟩
    · have ub : b__law_spread = (sSeq (sSet 2 (eLst (aCons (eTup aNil) aNil)))
        (sSeq (sFor (iRange rng1 (aCons (eN gLen (aCons (eVar 1) aNil)) aNil)) (.nm 3) (sSeq (sSet 4 (eLst aNil))
        (sSeq (sSet 5 (eB gEq (eVar 3) (eB Mi.gSub (eN gLen (aCons (eVar 1) aNil)) (eC (.int 1)))))
        (sSeq (sFor (iAny (eVar 2)) (.nm 6) spRow)
        (sSet 2 (eFrz (eVar 4)))))))
        (sRet (eVar 2)))) := rfl
      have sm : small62 (most.length : Int) = true := small62_nat (by omega)
      simp [M__law_spread, ub, runDef, sm, rng_nats, h1]
    · have := hF.1 r
      rw [List.take_length, if_pos ⟨rfl, by omega⟩] at this
      exact this
  · rintro pre d post e hd ⟨found, t2, t3, t4, t5, t6, t7, t8, t9, rfl, hF, ht⟩
    have hk : pre.length < most.length ∧ d = .int pre.length := by
      have hl := congrArg List.length hd
      rw [List.length_map, nats_length] at hl
      have hg := congrArg (fun l => l[pre.length]?) hd
      simp [natsI] at hl hg
      rw [List.getElem?_range (by omega)] at hg
      simp at hg
      exact ⟨by omega, hg.symm⟩
    obtain ⟨hk, rfl⟩ := hk
    have hstep := found_step hk hm hF
    have hle : (M.toNat + 1) ^ min (pre.length + 1) (most.length - 1) ≤ 16000000 := Nat.le_trans (pow_le' (Nat.min_le_right _ _)) hb
    obtain ⟨u6, u7, u8, u9, e1⟩ := spInner M most (some (.fz (.lst (found.map tI)))) t6 t7 t8 t9 pre.length (decide ((pre.length : Int) = (most.length : Int) - 1)) found hk (hm _ (List.getElem_mem hk)) (fun r hr => by
      obtain ⟨a, b⟩ := (hF.1 r).mp hr
      have s0 := fits_sum a
      have l0 := fits_len a
      simp at l0
      refine ⟨by split at b <;> omega, by omega, by omega⟩) (by have := hstep.2; omega)
    have fin : ∀ t2, (t2 = some (.fz (.lst (found.map tI))) ∨ t2 = some (.lst (found.map tI))) → (sSeq (sSet 4 (eLst aNil)) (sSeq (sSet 5 (eB gEq (eVar 3) (eB Mi.gSub (eN gLen (aCons (eVar 1) aNil)) (eC (.int 1))))) (sSeq (sFor (iAny (eVar 2)) (.nm 6) spRow) (sSet 2 (eFrz (eVar 4)))))) [some (.fz (.int M)), some (.fz (tI most)), t2, some (.fz (.int pre.length)), t4, t5, t6, t7, t8, t9] =
        .nx [some (.fz (.int M)), some (.fz (tI most)), some (.fz (.lst ((found.flatMap fun r => extP (M - r.sum) most[pre.length] (decide ((pre.length : Int) = (most.length : Int) - 1)) r).map tI))), some (.fz (.int pre.length)), some (.fz (.lst ((found.flatMap fun r => extP (M - r.sum) most[pre.length] (decide ((pre.length : Int) = (most.length : Int) - 1)) r).map tI))), some (.fz (.bl (decide ((pre.length : Int) = (most.length : Int) - 1)))), u6, u7, u8, u9] := by
      rintro t2 (rfl | rfl)
      · simp [e1]
      · simp [e1]
    refine ⟨_, _, by simp, .inl (fin t2 (ht.imp id fun h => h.2)), _, _, _, _, _, _, _, _, _, rfl, by rw [List.length_append, List.length_singleton]; exact hstep, .inl rfl⟩
end K58
namespace K58
open PySem L2 Mi
def gd (r : List Int) (j : Int) : Int := r.getD j.toNat 0
theorem gd_nat {r : List Int} {j : Int} (h0 : 0 ≤ j) (h : j < r.length) : atI (r.map D.int) j = some (.int (gd r j)) := by
  obtain ⟨n, rfl⟩ := Int.eq_ofNat_of_zero_le h0
  have hn : n < r.length := by omega
  rw [at_map hn]
  simp [gd, hn]
def encRow (i : Int) (r : List Int) : List (List Int) := ((natsI r.length).filter fun j => decide (0 < gd r j)).map fun j => [i, j, gd r j]
def subR (l r : List Int) : List Int := (natsI r.length).map fun j => gd l j - gd r j
theorem filt_int (p : Int → Bool) : ∀ xs : List Int, ((xs.map D.int).filter fun d => match d with | .int x => p x | _ => false) = (xs.filter p).map D.int
  | [] => rfl
  | x :: xs => by
    cases h : p x <;> simp [h, filt_int p xs]
theorem map_int {α : Type} (f : Int → α) (z : α) (xs : List Int) : ((xs.map D.int).map fun d => match d with | .int x => f x | _ => z) = xs.map f := by
  rw [List.map_map]; rfl
theorem comp_enc (s0 s1 s2 s4 s5 s6 s8 : Option OT) (i : Int) (row : List Int) (h : row.length ≤ 16777216) : compL (.nm 9) (tVal (eB gGt (eB gIx (eVar 7) (eVar 9)) (eC (.int 0)))) (eTup (aCons (eFrz (eVar 3)) (aCons (eFrz (eVar 9)) (aCons (eB gIx (eVar 7) (eVar 9)) aNil)))) [9] ((natsI row.length).map D.int) [s0, s1, s2, some (.fz (.int i)), s4, s5, s6, some (.fz (tI row)), s8, none] [] = .ok ((encRow i row).map tI) [s0, s1, s2, some (.fz (.int i)), s4, s5, s6, some (.fz (tI row)), s8, none] := by
  rw [compL_pure (fun d => match d with | .int x => decide (0 < gd row x) | _ => false) (fun d => match d with | .int x => tI [i, x, gd row x] | _ => .non) _ _ (by simpa [nats_length] using h)]
  · rw [filt_int (fun x => decide (0 < gd row x)), map_int]
    simp [encRow]
  · intro d hd
    obtain ⟨x, hx, rfl⟩ := List.mem_map.mp hd
    obtain ⟨x0, x1⟩ := mem_nats.mp hx
    have e := gd_nat x0 x1
    by_cases hp : 0 < gd row x
    · exact ⟨_, _, by simp; rfl, .inr ⟨_, by simp [hp], by simp [e, hp]; rfl, by simp [e]; rfl, by simp⟩⟩
    · exact ⟨_, _, by simp; rfl, .inl ⟨by simp [hp], by simp [e, hp]; rfl, by simp⟩⟩
theorem comp_sub (s0 s1 s2 s3 s4 s5 s8 : Option OT) (left row : List Int) (h : row.length ≤ 16777216) (hl : left.length = row.length) : compL (.nm 9) tTrue (eB Mi.gSub (eB gIx (eVar 6) (eVar 9)) (eB gIx (eVar 7) (eVar 9))) [9] ((natsI row.length).map D.int) [s0, s1, s2, s3, s4, s5, some (.fz (tI left)), some (.fz (tI row)), s8, none] [] = .ok ((subR left row).map D.int) [s0, s1, s2, s3, s4, s5, some (.fz (tI left)), some (.fz (tI row)), s8, none] := by
  rw [compL_pure (fun _ => true) (fun d => match d with | .int x => .int (gd left x - gd row x) | _ => .non) _ _ (by simpa [nats_length] using h)]
  · rw [filter_true, map_int]
    simp [subR]
  · intro d hd
    obtain ⟨x, hx, rfl⟩ := List.mem_map.mp hd
    obtain ⟨x0, x1⟩ := mem_nats.mp hx
    have e := gd_nat x0 x1
    have e2 := gd_nat (r := left) x0 (by omega)
    exact ⟨_, _, by simp; rfl, .inr ⟨_, rfl, by simp; rfl, by simp [e, e2]; rfl, by simp⟩⟩
abbrev gD (gs : List (List Int)) : D := .tup (gs.map tI)
abbrev item (gs : List (List Int)) (left : List Int) : D := .lst [gD gs, tI left]
noncomputable def awRow : SM := (sSeq (sSet 8 (eN gTuple (aCons (eComp (iRange rng1 (aCons (eN gLen (aCons (eVar 7) aNil)) aNil)) (.nm 9) (tVal (eB gGt (eB gIx (eVar 7) (eVar 9)) (eC (.int 0)))) (eTup (aCons (eFrz (eVar 3)) (aCons (eFrz (eVar 9)) (aCons (eB gIx (eVar 7) (eVar 9)) aNil)))) [9]) aNil)))
  (sApp (.sl 4) (eFrz (eLst (aCons (eB gAdd (eVar 5) (eVar 8)) (aCons (eN gTuple (aCons (eComp (iRange rng1 (aCons (eN gLen (aCons (eVar 7) aNil)) aNil)) (.nm 9) tTrue (eB Mi.gSub (eB gIx (eVar 6) (eVar 9)) (eB gIx (eVar 7) (eVar 9))) [9]) aNil)) aNil))))))
theorem enc_len (i : Int) (r : List Int) : (encRow i r).length ≤ r.length := by
  unfold encRow
  rw [List.length_map]
  exact Nat.le_trans (List.length_filter_le _ _) (by rw [nats_length]; exact Nat.le_refl _)
theorem awRow_ok (s0 s1 s2 s8 s9 : Option OT) (i : Int) (acc : List D) (gs : List (List Int)) (left row : List Int) (hl : left.length = row.length) (hr : row.length ≤ 1000) (hg : gs.length ≤ 16000000) (ha : acc.length < 16777216) :
    ∃ t8, awRow [s0, s1, s2, some (.fz (.int i)), some (.lst acc), some (.fz (gD gs)), some (.fz (tI left)), some (.fz (tI row)), s8, s9] = .nx [s0, s1, s2, some (.fz (.int i)), some (.lst (acc ++ [item (gs ++ encRow i row) (subR left row)])), some (.fz (gD gs)), some (.fz (tI left)), some (.fz (tI row)), t8, none] := by
  have e1 := comp_enc s0 s1 s2 (some (.lst acc)) (some (.fz (gD gs))) (some (.fz (tI left))) s8 i row (by omega)
  have e2 := comp_sub s0 s1 s2 (some (.fz (.int i))) (some (.lst acc)) (some (.fz (gD gs))) (some (.fz (gD (encRow i row)))) left row (by omega) hl
  have sm : small62 (row.length : Int) = true := small62_nat (by omega)
  have hlen : gs.length + (encRow i row).length ≤ 16777216 := by have := enc_len i row; omega
  refine ⟨some (.fz (gD (encRow i row))), ?_⟩
  simp [awRow, sm, rng_nats, e1, hlen, -List.map_map]
  rw [e2]
  simp [ha]
/-! matrices: row by row what is left -/
def MatF : List Int → List Int → List (List Int) → Prop
  | [], _, [] => True
  | s :: ss, left, r :: X => fits r left ∧ r.sum = s ∧ MatF ss (subR left r) X
  | _, _, _ => False
def subs : List Int → List (List Int) → List Int
  | left, [] => left
  | left, r :: X => subs (subR left r) X
def encFrom : Int → List (List Int) → List (List Int)
  | _, [] => []
  | i, r :: X => encRow i r ++ encFrom (i + 1) X
theorem subR_len (l r : List Int) : (subR l r).length = r.length := by simp [subR, nats_length]
theorem subs_snoc : ∀ (X : List (List Int)) (l r : List Int), subs l (X ++ [r]) = subR (subs l X) r
  | [], _, _ => rfl
  | x :: X, l, r => subs_snoc X (subR l x) r
theorem enc_snoc : ∀ (X : List (List Int)) (i : Int) (r : List Int), encFrom i (X ++ [r]) = encFrom i X ++ encRow (i + X.length) r
  | [], i, r => by simp [encFrom]
  | x :: X, i, r => by
    simp only [List.cons_append, encFrom, enc_snoc X (i + 1) r, List.append_assoc, List.length_cons]
    congr 2
    congr 1
    omega
theorem mat_snoc : ∀ (ss : List Int) (l : List Int) (X : List (List Int)) (s : Int) (r : List Int), MatF (ss ++ [s]) l (X ++ [r]) ↔ MatF ss l X ∧ fits r (subs l X) ∧ r.sum = s
  | [], l, [], s, r => by simp [MatF, subs]
  | a :: ss, l, x :: X, s, r => by simp [MatF, subs, mat_snoc ss, and_assoc]
  | [], l, x :: X, s, r => by cases X <;> simp [MatF]
  | a :: ss, l, [], s, r => by cases ss <;> simp [MatF]
theorem mat_len : ∀ {ss l : List Int} {X : List (List Int)}, MatF ss l X → X.length = ss.length
  | [], _, [], _ => rfl
  | _ :: ss, _, _ :: X, h => congrArg (· + 1) (mat_len h.2.2)
  | [], _, _ :: _, h => h.elim
  | _ :: _, _, [], h => h.elim
theorem subR_nonneg : ∀ {r l : List Int}, fits r l → ∀ y ∈ subR l r, 0 ≤ y := fun {r l} h y hy => by
  simp only [subR, List.mem_map] at hy
  obtain ⟨j, hj, rfl⟩ := hy
  obtain ⟨j0, j1⟩ := mem_nats.mp hj
  suffices hh : ∀ (r l : List Int) (n : Nat), fits r l → n < r.length → 0 ≤ l.getD n 0 - r.getD n 0 by
    exact hh r l j.toNat h (by omega)
  intro r
  induction r with
  | nil => intro l n _ hn; simp at hn
  | cons x r ih =>
    intro l n h hn
    cases l with
    | nil => exact h.elim
    | cons m l =>
      cases n with
      | zero => simp; exact h.2.1
      | succ n =>
        have := ih l n h.2.2 (by simpa using hn)
        simpa using this
theorem mat_inv {ss l : List Int} {s : Int} {X' : List (List Int)} (h : MatF (ss ++ [s]) l X') : ∃ X r, X' = X ++ [r] := by
  have hl := mat_len h
  have hne : X' ≠ [] := fun z => by rw [z] at hl; simp at hl
  exact ⟨X'.dropLast, X'.getLast hne, (List.dropLast_concat_getLast hne).symm⟩
theorem mat_subs : ∀ {ss l : List Int} {X : List (List Int)}, MatF ss l X → (∀ y ∈ l, 0 ≤ y) → (subs l X).length = l.length ∧ ∀ y ∈ subs l X, 0 ≤ y
  | [], l, [], _, h0 => ⟨rfl, h0⟩
  | _ :: ss, l, r :: X, h, h0 => by
    obtain ⟨a, b⟩ := mat_subs h.2.2 (subR_nonneg h.1)
    exact ⟨by rw [subs, a, subR_len, fits_len h.1], b⟩
  | [], _, _ :: _, h, _ => h.elim
  | _ :: _, _, [], h, _ => h.elim
theorem enc_from_len : ∀ {ss l : List Int} {X : List (List Int)} {i : Int}, MatF ss l X → (encFrom i X).length ≤ ss.length * l.length
  | [], l, [], i, _ => by simp [encFrom]
  | s :: ss, l, r :: X, i, h => by
    have h1 := enc_len i r
    have h2 := enc_from_len (i := i + 1) h.2.2
    rw [subR_len, fits_len h.1] at h2
    rw [fits_len h.1] at h1
    simp only [encFrom, List.length_append, List.length_cons, Nat.add_mul, Nat.one_mul]
    omega
  | [], _, _ :: _, _, h => h.elim
  | _ :: _, _, [], _, h => h.elim
end K58
namespace K58
open PySem L2 Mi
abbrev itemX (wants : List Int) (X : List (List Int)) : D := item (encFrom 0 X) (subs wants X)
theorem awRows (s0 s1 s2 : Option OT) (i : Int) (gs : List (List Int)) (left : List Int) (hg : gs.length ≤ 16000000) : ∀ (R : List (List Int)) (acc : List D) (s7 s8 s9 : Option OT), (∀ r ∈ R, left.length = r.length ∧ r.length ≤ 1000) → acc.length + R.length ≤ 16777216 →
    ∃ t7 t8 t9, forL (.nm 7) awRow (R.map tI) [s0, s1, s2, some (.fz (.int i)), some (.lst acc), some (.fz (gD gs)), some (.fz (tI left)), s7, s8, s9] = .nx [s0, s1, s2, some (.fz (.int i)), some (.lst (acc ++ R.map fun r => item (gs ++ encRow i r) (subR left r))), some (.fz (gD gs)), some (.fz (tI left)), t7, t8, t9]
  | [], acc, s7, s8, s9, _, _ => ⟨s7, s8, s9, by simp [forL]⟩
  | r :: R, acc, s7, s8, s9, h, hl => by
    obtain ⟨h1, h2⟩ := h r List.mem_cons_self
    simp only [List.length_cons] at hl
    obtain ⟨t8, e1⟩ := awRow_ok s0 s1 s2 s8 s9 i acc gs left r h1 h2 hg (by omega)
    obtain ⟨u7, u8, u9, e2⟩ := awRows s0 s1 s2 i gs left hg R (acc ++ [item (gs ++ encRow i r) (subR left r)]) (some (.fz (tI r))) t8 none (fun x m => h x (List.mem_cons_of_mem _ m)) (by simp; omega)
    refine ⟨u7, u8, u9, ?_⟩
    rw [List.map_cons, forL]
    simp only [setT_nm, List.length_cons, List.length_nil, Nat.reduceAdd, Nat.reduceLT, if_true, List.set_cons_succ, List.set_cons_zero, e1, e2, List.append_assoc, List.map_cons, List.cons_append, List.nil_append]
noncomputable def awItem : SM := (sFor (iAny (eCall 2 none M__law_spread (aCons (eB gIx (eVar 0) (eVar 3)) (aCons (eFrz (eVar 6)) aNil)))) (.nm 7) awRow)
theorem awItems (stands wants : List Int) (s2 : Option OT) (k : Nat) (hk : k < stands.length) (F b : Nat) (hF : 1 ≤ F) (hF2 : F ≤ 1000) (hs0 : 0 ≤ stands[k]) (hs1 : stands[k] ≤ 1000) (hb : (stands[k].toNat + 1) ^ (F - 1) ≤ b) (hb2 : b ≤ 16000000) : ∀ (Xs : List (List (List Int))) (acc : List D) (s5 s6 s7 s8 s9 : Option OT), (∀ X ∈ Xs, X.length = k ∧ (subs wants X).length = F ∧ (∀ y ∈ subs wants X, 0 ≤ y) ∧ (encFrom 0 X).length ≤ 16000000) → acc.length + Xs.length * b ≤ 16777216 →
    ∃ (Ys : List (List (List Int))) (t5 t6 t7 t8 t9 : Option OT), forL (.tp [.nm 5, .nm 6]) awItem (Xs.map (itemX wants)) [some (.fz (tI stands)), some (.fz (tI wants)), s2, some (.fz (.int k)), some (.lst acc), s5, s6, s7, s8, s9] = .nx [some (.fz (tI stands)), some (.fz (tI wants)), s2, some (.fz (.int k)), some (.lst (acc ++ Ys.map (itemX wants))), t5, t6, t7, t8, t9] ∧
      (∀ Y, Y ∈ Ys ↔ ∃ X ∈ Xs, ∃ r, Y = X ++ [r] ∧ fits r (subs wants X) ∧ r.sum = stands[k]) ∧ Ys.length ≤ Xs.length * b
  | [], acc, s5, s6, s7, s8, s9, _, _ => ⟨[], s5, s6, s7, s8, s9, by simp [forL], by simp, by simp⟩
  | X :: Xs, acc, s5, s6, s7, s8, s9, h, hl => by
    obtain ⟨h1, h2, h3, h4⟩ := h X List.mem_cons_self
    simp only [List.length_cons, Nat.add_mul, Nat.one_mul] at hl
    obtain ⟨R, e1, r1, r2⟩ := spread stands[k] (subs wants X) hs0 hs1 (by omega) (by omega) h3 (by rw [h2]; omega)
    rw [h2] at r2
    obtain ⟨t7, t8, t9, e2⟩ := awRows (some (.fz (tI stands))) (some (.fz (tI wants))) s2 k (encFrom 0 X) (subs wants X) h4 R acc s7 s8 s9 (fun r m => by
      have := fits_len ((r1 r).mp m).1
      omega) (by omega)
    have hY : (R.map fun r => item (encFrom 0 X ++ encRow k r) (subR (subs wants X) r)) = (R.map fun r => X ++ [r]).map (itemX wants) := by
      rw [List.map_map]
      apply List.map_congr_left
      intro r _
      simp [itemX, enc_snoc, subs_snoc, h1]
    rw [hY] at e2
    obtain ⟨Ys, u5, u6, u7, u8, u9, e3, y1, y2⟩ := awItems stands wants s2 k hk F b hF hF2 hs0 hs1 hb hb2 Xs (acc ++ (R.map fun r => X ++ [r]).map (itemX wants)) (some (.fz (gD (encFrom 0 X)))) (some (.fz (tI (subs wants X)))) t7 t8 t9 (fun x m => h x (List.mem_cons_of_mem _ m)) (by simp; omega)
    refine ⟨(R.map fun r => X ++ [r]) ++ Ys, u5, u6, u7, u8, u9, ?_, fun Y => ?_, ?_⟩
    · have e4 : awItem [some (.fz (tI stands)), some (.fz (tI wants)), s2, some (.fz (.int k)), some (.lst acc), some (.fz (gD (encFrom 0 X))), some (.fz (tI (subs wants X))), s7, s8, s9] = .nx [some (.fz (tI stands)), some (.fz (tI wants)), s2, some (.fz (.int k)), some (.lst (acc ++ (R.map fun r => X ++ [r]).map (itemX wants))), some (.fz (gD (encFrom 0 X))), some (.fz (tI (subs wants X))), t7, t8, t9] := by
        simp [awItem, at_map hk, e1, -List.map_map]
        rw [e2]
      rw [List.map_cons, forL]
      simp only [itemX, item, setT_tpl, List.length_cons, List.length_nil, if_true, setTs_cons, setTs_nil, setT_nm, Nat.reduceAdd, Nat.reduceLT, Option.bind_some, List.set_cons_succ, List.set_cons_zero, e4] at e3 ⊢
      rw [e3]
      simp [itemX]
    · simp only [List.mem_append, List.mem_map, List.mem_cons, y1]
      constructor
      · rintro (⟨r, hr, rfl⟩ | ⟨X', hX, r, h⟩)
        · exact ⟨X, .inl rfl, r, rfl, (r1 r).mp hr⟩
        · exact ⟨X', .inr hX, r, h⟩
      · rintro ⟨X', rfl | hX, r, h⟩
        · exact .inl ⟨r, (r1 r).mpr h.2, h.1.symm⟩
        · exact .inr ⟨X', hX, r, h⟩
    · simp only [List.length_append, List.length_map, List.length_cons, Nat.add_mul, Nat.one_mul]
      omega
theorem sum_take_le : ∀ (l : List Int) (k : Nat), (∀ y ∈ l, 0 ≤ y) → 0 ≤ (l.take k).sum ∧ (l.take k).sum ≤ l.sum
  | [], k, _ => by simp
  | x :: l, 0, h => by
    have := sum_take_le l l.length fun y m => h y (List.mem_cons_of_mem _ m)
    rw [List.take_length] at this
    have := h x List.mem_cons_self
    simp; omega
  | x :: l, k + 1, h => by
    have := sum_take_le l k fun y m => h y (List.mem_cons_of_mem _ m)
    have := h x List.mem_cons_self
    simp; omega
theorem encRow_nil {i : Int} : ∀ {r : List Int}, encRow i r = [] → ∀ j : Nat, j < r.length → r.getD j 0 ≤ 0 := fun {r} h j hj => by
  unfold encRow at h
  rw [List.map_eq_nil_iff, List.filter_eq_nil_iff] at h
  have := h (j : Int) (mem_nats.mpr ⟨by omega, by omega⟩)
  simp [gd] at this
  simpa using this
theorem zero_sum : ∀ {r l : List Int}, fits r l → (∀ j : Nat, j < r.length → r.getD j 0 ≤ 0) → r.sum = 0
  | [], [], _, _ => rfl
  | x :: r, m :: l, h, h2 => by
    have := h2 0 (by simp)
    simp at this
    have h3 := zero_sum h.2.2 fun j hj => by
      have := h2 (j + 1) (by simpa using hj)
      simpa using this
    have := h.1
    simp only [List.sum_cons]; omega
  | [], _ :: _, h, _ => h.elim
  | _ :: _, [], h, _ => h.elim
theorem enc_nil : ∀ {ss l : List Int} {X : List (List Int)} {i : Int}, MatF ss l X → encFrom i X = [] → ss.sum = 0
  | [], l, [], i, _, _ => rfl
  | s :: ss, l, r :: X, i, h, e => by
    simp only [encFrom, List.append_eq_nil_iff] at e
    have h1 := zero_sum h.1 (encRow_nil e.1)
    have h2 := enc_nil h.2.2 e.2
    have := h.2.1
    simp only [List.sum_cons]; omega
  | [], _, _ :: _, _, h, _ => h.elim
  | _ :: _, _, [], _, h, _ => h.elim
theorem alike_rows : ∀ a b : List (List Int), PySem.W.alikeAll (toPs (a.map tI)) (toPs (b.map tI)) = true
  | [], _ => by simp [toPs, PySem.W.alikeAll]
  | _ :: _, [] => by simp [toPs, PySem.W.alikeAll]
  | x :: a, y :: b => by
    have e : PySem.W.alike (toP (tI x)) (toP (tI y)) = true := by
      simp only [toP, PySem.W.alike]
      exact alike_ints x y
    simp [toPs, PySem.W.alikeAll, e, alike_rows a b]
theorem okN_rows (gs : List (List Int)) : okN 2 (gD gs) := okN_tup fun x h => by
  obtain ⟨a, _, rfl⟩ := List.mem_map.mp h
  exact okN_ints a
theorem all_wishes (stands wants : List Int) (hs0 : ∀ y ∈ stands, 0 ≤ y) (hw0 : ∀ y ∈ wants, 0 ≤ y) (hF : 1 ≤ wants.length) (hF2 : wants.length ≤ 1000) (hn : stands.length ≤ 1000) (hT : stands.sum ≤ 1000) (hb : 2 ^ (stands.sum.toNat * (wants.length - 1)) ≤ 8000000) :
    ∃ Xs : List (List (List Int)), M__law_all_wishes [.fz (tI stands), .fz (tI wants)] = .ok (.lst (Xs.map fun X => gD (encFrom 0 X))) none ∧ (∀ X, X ∈ Xs ↔ MatF stands wants X) ∧ Xs.length ≤ 8000000 := by
  have loop := forL_inv (tg := .nm 3) (body := (sSeq (sSet 4 (eLst aNil)) (sSeq (sFor (iAny (eVar 2)) (.tp [.nm 5, .nm 6]) awItem) (sSet 2 (eFrz (eVar 4)))))) ((natsI stands.length).map D.int)
    (fun pre e => ∃ (Xs : List (List (List Int))) (t2 t3 t4 t5 t6 t7 t8 t9 : Option OT), e = [some (.fz (tI stands)), some (.fz (tI wants)), t2, t3, t4, t5, t6, t7, t8, t9] ∧ (∀ X, X ∈ Xs ↔ MatF (stands.take pre.length) wants X) ∧ Xs.length ≤ 2 ^ ((stands.take pre.length).sum.toNat * (wants.length - 1)) ∧ (t2 = some (.fz (.lst (Xs.map (itemX wants)))) ∨ t2 = some (.lst (Xs.map (itemX wants)))))
    (env := [some (.fz (tI stands)), some (.fz (tI wants)), some (.lst [.lst [.tup [], tI wants]]), none, none, none, none, none, none, none]) ⟨[[]], _, _, _, _, _, _, _, _, rfl, fun X => by cases X <;> simp [MatF], by simp, .inr rfl⟩ ?_
  · obtain ⟨e', h1, Xs, t2, t3, t4, t5, t6, t7, t8, t9, rfl, hX, hl, ht⟩ := loop
    have hlen : ((natsI stands.length).map D.int).length = stands.length := by rw [List.length_map, nats_length]
    rw [hlen, List.take_length] at hX hl
    have hXl : Xs.length ≤ 8000000 := Nat.le_trans hl hb
    have comp : ∀ t2 : Option OT, compL (.tp [.nm 5, .nm 6]) tTrue (eVar 5) [5, 6] (Xs.map (itemX wants)) [some (.fz (tI stands)), some (.fz (tI wants)), t2, t3, t4, none, none, t7, t8, t9] [] = .ok (Xs.map fun X => gD (encFrom 0 X)) [some (.fz (tI stands)), some (.fz (tI wants)), t2, t3, t4, none, none, t7, t8, t9] := fun t2 => by
      rw [compL_pure (fun _ => true) (fun d => match d with | .lst [a, b] => a | _ => .non) _ _ (by simp; omega)]
      · simp [itemX, Function.comp_def]
      · intro d hd
        obtain ⟨X, hx, rfl⟩ := List.mem_map.mp hd
        exact ⟨_, _, by simp; rfl, .inr ⟨_, rfl, by simp; rfl, by simp; rfl, by simp⟩⟩
    have rdy : ready (Xs.map fun X => gD (encFrom 0 X)) = true := by
      by_cases hz : ∃ X ∈ Xs, encFrom 0 X = []
      · obtain ⟨X, hx, hz⟩ := hz
        have h0 := enc_nil ((hX X).mp hx) hz
        rw [h0] at hl
        simp at hl
        obtain ⟨Y, rfl⟩ : ∃ Y, Xs = [Y] := by
          cases Xs with
          | nil => cases hx
          | cons Y l =>
            cases l with
            | nil => exact ⟨Y, rfl⟩
            | cons Z l => simp at hl
        simp only [List.mem_singleton] at hx
        subst hx
        have : okP (.tup []) = true := (okN_tup (n := 0) (xs := []) (by simp)).okP (by decide)
        rw [show ([X].map fun X => gD (encFrom 0 X)) = [D.tup []] by rw [List.map_cons, hz]; rfl]
        simp [ready, isE1, this, toP, toPs, PySem.W.alike, PySem.W.alikeAll, PyData.depth, PyData.depthAll, isTup1, isTN]
      · refine ready_tups (n := 2) (fun x hx => ?_) (fun x hx y hy => ?_) (by decide)
        · obtain ⟨X, hX', rfl⟩ := List.mem_map.mp hx
          refine ⟨okN_rows _, ?_⟩
          cases he : encFrom 0 X with
          | nil => exact absurd ⟨X, hX', he⟩ hz
          | cons a l => rfl
        · obtain ⟨X, _, rfl⟩ := List.mem_map.mp hx
          obtain ⟨Y, _, rfl⟩ := List.mem_map.mp hy
          simp only [toP, PySem.W.alike]
          exact alike_rows _ _
    refine ⟨Xs.mergeSort (fun X Y => leD (gD (encFrom 0 X)) (gD (encFrom 0 Y))), ?_, fun X => by rw [List.mem_mergeSort]; exact hX X, by rw [List.length_mergeSort]; exact hXl⟩
    have ub : b__law_all_wishes = (sSeq (sSet 2 (eLst (aCons (eFrz (eLst (aCons (eTup aNil) (aCons (eN gTuple (aCons (eVar 1) aNil)) aNil)))) aNil)))
      (sSeq (sFor (iRange rng1 (aCons (eN gLen (aCons (eVar 0) aNil)) aNil)) (.nm 3) (sSeq (sSet 4 (eLst aNil)) (sSeq (sFor (iAny (eVar 2)) (.tp [.nm 5, .nm 6]) awItem) (sSet 2 (eFrz (eVar 4))))))
      (sRet (eN gSorted (aCons (eComp (iAny (eVar 2)) (.tp [.nm 5, .nm 6]) tTrue (eVar 5) [5, 6]) aNil))))) := rfl
    have sm : small62 (stands.length : Int) = true := small62_nat (by omega)
    have srt : gSorted [.lst (Xs.map fun X => gD (encFrom 0 X))] = some (.lst ((Xs.mergeSort (fun X Y => leD (gD (encFrom 0 X)) (gD (encFrom 0 Y)))).map fun X => gD (encFrom 0 X))) := by
      simp only [gSorted, rdy, if_true]
      rw [PySem.W.sort_maps (fun X => gD (encFrom 0 X)) fun _ _ _ _ => rfl]
    have c1 := comp (some (.fz (.lst (Xs.map (itemX wants)))))
    rcases ht with rfl | rfl
    · simp [M__law_all_wishes, ub, runDef, sm, rng_nats, h1, -List.map_map]
      rw [c1]
      simp [srt]
    · simp [M__law_all_wishes, ub, runDef, sm, rng_nats, h1, -List.map_map]
      rw [c1]
      simp [srt]
  · rintro pre d post e hd ⟨Xs, t2, t3, t4, t5, t6, t7, t8, t9, rfl, hX, hl, ht⟩
    have hk : pre.length < stands.length ∧ d = .int pre.length := by
      have hl := congrArg List.length hd
      rw [List.length_map, nats_length] at hl
      have hg := congrArg (fun l => l[pre.length]?) hd
      simp [natsI] at hl hg
      rw [List.getElem?_range (by omega)] at hg
      simp at hg
      exact ⟨by omega, hg.symm⟩
    obtain ⟨hk, rfl⟩ := hk
    have tk : stands.take (pre.length + 1) = stands.take pre.length ++ [stands[pre.length]] := by rw [List.take_succ_eq_append_getElem hk]
    have s0 := hs0 _ (List.getElem_mem hk)
    have q1 := sum_take_le stands pre.length hs0
    have q2 := sum_take_le stands (pre.length + 1) hs0
    have q3 : (stands.take (pre.length + 1)).sum = (stands.take pre.length).sum + stands[pre.length] := by rw [tk, List.sum_append, List.sum_cons, List.sum_nil, Int.add_zero]
    have bnd : Xs.length * 2 ^ (stands[pre.length].toNat * (wants.length - 1)) ≤ 2 ^ ((stands.take (pre.length + 1)).sum.toNat * (wants.length - 1)) := by
      rw [q3, show ((stands.take pre.length).sum + stands[pre.length]).toNat = (stands.take pre.length).sum.toNat + stands[pre.length].toNat by omega, Nat.add_mul, Nat.pow_add]
      exact Nat.mul_le_mul_right _ hl
    have top : 2 ^ ((stands.take (pre.length + 1)).sum.toNat * (wants.length - 1)) ≤ 8000000 := Nat.le_trans (Nat.pow_le_pow_right (by decide) (Nat.mul_le_mul_right _ (by omega))) hb
    have bl : 2 ^ (stands[pre.length].toNat * (wants.length - 1)) ≤ 8000000 := Nat.le_trans (Nat.pow_le_pow_right (by decide) (Nat.mul_le_mul_right _ (by omega))) hb
    have pw : (stands[pre.length].toNat + 1) ^ (wants.length - 1) ≤ 2 ^ (stands[pre.length].toNat * (wants.length - 1)) := by
      rw [Nat.pow_mul]
      exact Nat.pow_le_pow_left Nat.lt_two_pow_self _
    obtain ⟨Ys, u5, u6, u7, u8, u9, e1, y1, y2⟩ := awItems stands wants (some (.fz (.lst (Xs.map (itemX wants))))) pre.length hk wants.length _ hF hF2 s0 (by omega) pw (by omega) Xs [] t5 t6 t7 t8 t9 (fun X m => by
      have hm := (hX X).mp m
      obtain ⟨a, b⟩ := mat_subs hm hw0
      have c := mat_len hm
      have g := enc_from_len (i := 0) hm
      simp at c g
      refine ⟨by omega, a, b, Nat.le_trans g ?_⟩
      exact Nat.le_trans (Nat.mul_le_mul (Nat.le_trans (Nat.min_le_right _ _) hn) hF2) (by decide)) (by simp; omega)
    simp only [List.nil_append] at e1
    have fin : ∀ t2, (t2 = some (.fz (.lst (Xs.map (itemX wants)))) ∨ t2 = some (.lst (Xs.map (itemX wants)))) → (sSeq (sSet 4 (eLst aNil)) (sSeq (sFor (iAny (eVar 2)) (.tp [.nm 5, .nm 6]) awItem) (sSet 2 (eFrz (eVar 4))))) [some (.fz (tI stands)), some (.fz (tI wants)), t2, some (.fz (.int pre.length)), t4, t5, t6, t7, t8, t9] =
        .nx [some (.fz (tI stands)), some (.fz (tI wants)), some (.fz (.lst (Ys.map (itemX wants)))), some (.fz (.int pre.length)), some (.fz (.lst (Ys.map (itemX wants)))), u5, u6, u7, u8, u9] := by
      rintro t2 (rfl | rfl)
      · simp [e1, -List.map_map]
      · simp [e1, -List.map_map]
    refine ⟨_, _, by simp, .inl (fin t2 ht), Ys, _, _, _, _, _, _, _, _, rfl, fun Y => ?_, ?_, .inl rfl⟩
    · rw [List.length_append, List.length_singleton, tk, y1]
      constructor
      · rintro ⟨X, hx, r, rfl, hr⟩
        exact (mat_snoc _ _ _ _ _).mpr ⟨(hX X).mp hx, hr⟩
      · intro h
        obtain ⟨X, r, rfl⟩ := mat_inv h
        obtain ⟨a, b⟩ := (mat_snoc _ _ _ _ _).mp h
        exact ⟨X, (hX X).mpr a, r, rfl, b⟩
    · rw [List.length_append, List.length_singleton]
      exact Nat.le_trans y2 bnd
end K58
namespace K58
open PySem L2 Mi
def Trip (gs : List (List Int)) : Prop := ∀ g ∈ gs, ∃ a b v, g = [a, b, v]
def manyP (gs : List (List Int)) (i j : Int) : Int := ((gs.filter fun g => decide (gd g 0 = i) && decide (gd g 1 = j)).map fun g => gd g 2).sum
theorem eq2 (a b c d : Int) : gEq (.tup [.int a, .int b]) (.tup [.int c, .int d]) = some (.val (.bl (decide (a = c) && decide (b = d)))) := by
  have := eq_ints [a, b] [c, d]
  simp only [List.map_cons, List.map_nil] at this
  rw [this]
  simp
theorem cut2 (a b v : D) : cutD [a, b, v] none (some 2) = [a, b] := rfl
def isG (i j : Int) : D → Bool
  | .tup [.int a, .int b, _] => decide (a = i) && decide (b = j)
  | _ => false
def v3 : D → D
  | .tup [_, _, v] => v
  | _ => .non
theorem many (gs : List (List Int)) (i j : Int) (ht : Trip gs) (hl : gs.length ≤ 16000000) : M__law_many [.fz (gD gs), .fz (.int i), .fz (.int j)] = .ok (.fz (.int (manyP gs i j))) none := by
  have c : compL (.nm 3) (tVal (eB gEq (eSl (eVar 3) none (some (eC (.int 2)))) (eTup (aCons (eFrz (eVar 1)) (aCons (eFrz (eVar 2)) aNil))))) (eB gIx (eVar 3) (eC (.int 2))) [3] (gs.map tI) [some (.fz (gD gs)), some (.fz (.int i)), some (.fz (.int j)), none] [] = .ok (((gs.filter fun g => decide (gd g 0 = i) && decide (gd g 1 = j)).map fun g => gd g 2).map D.int) [some (.fz (gD gs)), some (.fz (.int i)), some (.fz (.int j)), none] := by
    rw [compL_pure (isG i j) v3 _ _ (by simp; omega)]
    · suffices h : ∀ gs : List (List Int), Trip gs → ((gs.map tI).filter (isG i j)).map v3 = ((gs.filter fun g => decide (gd g 0 = i) && decide (gd g 1 = j)).map fun g => gd g 2).map D.int by
        rw [h gs ht]; rfl
      intro gs ht
      induction gs with
      | nil => rfl
      | cons g gs ih =>
        have ih := ih fun x m => ht x (List.mem_cons_of_mem _ m)
        obtain ⟨a, b, v, rfl⟩ := ht g List.mem_cons_self
        have e1 : isG i j (tI [a, b, v]) = (decide (a = i) && decide (b = j)) := rfl
        have e0 : v3 (tI [a, b, v]) = .int v := rfl
        have e2 : gd [a, b, v] 0 = a ∧ gd [a, b, v] 1 = b ∧ gd [a, b, v] 2 = v := ⟨rfl, rfl, rfl⟩
        rw [List.map_cons]
        by_cases h : (decide (a = i) && decide (b = j)) = true
        · rw [List.filter_cons_of_pos (by rw [e1]; exact h), List.filter_cons_of_pos (by rw [e2.1, e2.2.1]; exact h), List.map_cons, List.map_cons, List.map_cons, ih, e2.2.2, e0]
        · rw [List.filter_cons_of_neg (by rw [e1]; exact h), List.filter_cons_of_neg (by rw [e2.1, e2.2.1]; exact h), ih]
    · intro d hd
      obtain ⟨g, hg, rfl⟩ := List.mem_map.mp hd
      obtain ⟨a, b, v, rfl⟩ := ht g hg
      by_cases h : (decide (a = i) && decide (b = j)) = true
      · have e0 : v3 (tI [a, b, v]) = .int v := rfl
        exact ⟨_, _, by simp; rfl, .inr ⟨_, h, by simp [cut2, eq2, h]; rfl, by simp [e0]; rfl, by simp⟩⟩
      · have h : (decide (a = i) && decide (b = j)) = false := by simpa using h
        exact ⟨_, _, by simp; rfl, .inl ⟨h, by simp [cut2, eq2, h]; rfl, by simp⟩⟩
  simp [M__law_many, b__law_many, runDef, -List.map_map]
  rw [c]
  simp [manyP, -List.map_map]
theorem many_app (a b : List (List Int)) (i j : Int) : manyP (a ++ b) i j = manyP a i j + manyP b i j := by
  simp [manyP, List.filter_append, List.sum_append]
theorem trip_row (i : Int) (r : List Int) : Trip (encRow i r) := fun g h => by
  simp only [encRow, List.mem_map] at h
  obtain ⟨j, _, rfl⟩ := h
  exact ⟨_, _, _, rfl⟩
theorem trip_enc : ∀ (X : List (List Int)) (i : Int), Trip (encFrom i X)
  | [], _ => fun _ h => (nomatch h)
  | r :: X, i => fun g h => by
    simp only [encFrom, List.mem_append] at h
    rcases h with h | h
    · exact trip_row i r g h
    · exact trip_enc X (i + 1) g h
theorem many_row_ne {k i j : Int} (h : k ≠ i) (r : List Int) : manyP (encRow k r) i j = 0 := by
  unfold manyP
  have : (encRow k r).filter (fun g => decide (gd g 0 = i) && decide (gd g 1 = j)) = [] := by
    rw [List.filter_eq_nil_iff]
    intro g hg
    simp only [encRow, List.mem_map] at hg
    obtain ⟨j', _, rfl⟩ := hg
    have e : gd [k, j', gd r j'] 0 = k := rfl
    simp [e, h]
  rw [this]; rfl
theorem sum_pick (f : Int → Int) (j : Int) : ∀ n : Nat, (((natsI n).filter fun x => decide (x = j)).map f).sum = if 0 ≤ j ∧ j < n then f j else 0
  | 0 => by simp [natsI]; omega
  | n + 1 => by
    have ih := sum_pick f j n
    have e : natsI (n + 1) = natsI n ++ [(n : Int)] := by simp [natsI, List.range_succ]
    rw [e, List.filter_append, List.map_append, List.sum_append, ih]
    by_cases h : (n : Int) = j
    · subst h
      rw [if_neg (by omega), if_pos (by omega)]
      simp
    · rw [List.filter_cons_of_neg (by simpa using h)]
      simp only [List.filter_nil, List.map_nil, List.sum_nil, Int.add_zero]
      have : (0 ≤ j ∧ j < (n : Int)) ↔ (0 ≤ j ∧ j < ((n + 1 : Nat) : Int)) := by omega
      by_cases h2 : 0 ≤ j ∧ j < (n : Int)
      · rw [if_pos h2, if_pos (this.mp h2)]
      · rw [if_neg h2, if_neg fun z => h2 (this.mpr z)]
theorem many_row (k j : Int) (r : List Int) (h0 : 0 ≤ j) (h : j < r.length) (hn : 0 ≤ gd r j) : manyP (encRow k r) k j = gd r j := by
  have e : manyP (encRow k r) k j = (((natsI r.length).filter fun x => decide (x = j)).map fun x => if 0 < gd r x then gd r x else 0).sum := by
    unfold manyP encRow
    generalize natsI r.length = l
    induction l with
    | nil => rfl
    | cons x l ih =>
      have e1 : gd [k, x, gd r x] 0 = k ∧ gd [k, x, gd r x] 1 = x ∧ gd [k, x, gd r x] 2 = gd r x := ⟨rfl, rfl, rfl⟩
      by_cases hx : 0 < gd r x
      · rw [List.filter_cons_of_pos (by simpa using hx), List.map_cons]
        by_cases hj : x = j
        · rw [List.filter_cons_of_pos (by rw [e1.1, e1.2.1]; simp [hj]), List.filter_cons_of_pos (by simp [hj]), List.map_cons, List.map_cons, List.sum_cons, List.sum_cons, ih, if_pos hx, e1.2.2]
        · rw [List.filter_cons_of_neg (by rw [e1.1, e1.2.1]; simp [hj]), List.filter_cons_of_neg (by simp [hj]), ih]
      · rw [List.filter_cons_of_neg (by simpa using hx), ih]
        by_cases hj : x = j
        · rw [List.filter_cons_of_pos (by simp [hj]), List.map_cons, List.sum_cons, if_neg hx, Int.zero_add]
        · rw [List.filter_cons_of_neg (by simp [hj])]
  rw [e, sum_pick, if_pos ⟨h0, h⟩]
  split <;> omega
theorem fits_gd : ∀ {r l : List Int}, fits r l → ∀ j : Int, 0 ≤ gd r j ∧ gd r j ≤ gd l j
  | [], [], _, j => by simp [gd]
  | x :: r, m :: l, h, j => by
    unfold gd
    cases hj : j.toNat with
    | zero => simp; exact ⟨h.1, h.2.1⟩
    | succ n =>
      have := fits_gd h.2.2 (n : Int)
      simp [gd] at this
      simp [this]
  | [], _ :: _, h, _ => h.elim
  | _ :: _, [], h, _ => h.elim
/-- how many stand on i and want j, in a matrix -/
def cell (X : List (List Int)) (i j : Int) : Int := gd (X.getD i.toNat []) j
theorem many_enc : ∀ {ss l : List Int} {X : List (List Int)} {k : Int} (i j : Int), MatF ss l X → 0 ≤ j → j < l.length → manyP (encFrom k X) (k + i) j = if 0 ≤ i ∧ i < X.length then cell X i j else 0
  | [], l, [], k, i, j, _, _, _ => by simp [encFrom, manyP]; omega
  | s :: ss, l, r :: X, k, i, j, h, j0, j1 => by
    have hl := fits_len h.1
    have ih := many_enc (k := k + 1) (i - 1) j h.2.2 j0 (by rw [subR_len, hl]; exact j1)
    rw [show k + 1 + (i - 1) = k + i by omega] at ih
    simp only [encFrom]
    rw [many_app, ih]
    by_cases hi : i = 0
    · subst hi
      rw [Int.add_zero, many_row k j r j0 (by omega) (fits_gd h.1 j).1]
      simp [cell]
    · rw [many_row_ne (by omega)]
      by_cases h2 : 0 ≤ i ∧ i < (X.length : Int) + 1
      · rw [if_pos (by omega), if_pos (by simp; omega)]
        unfold cell
        rw [show i.toNat = (i - 1).toNat + 1 by omega]
        simp
      · rw [if_neg (by omega), if_neg (by simp; omega)]
        rfl
  | [], _, _ :: _, _, _, _, h, _, _ => h.elim
  | _ :: _, _, [], _, _, _, h, _, _ => h.elim
end K58
namespace K58
open PySem L2 Mi
/-! the mathematics: which numbers a cell can have -/
theorem gd_sub {l r : List Int} {j : Int} (h0 : 0 ≤ j) (h : j < r.length) : gd (subR l r) j = gd l j - gd r j := by
  obtain ⟨n, rfl⟩ := Int.eq_ofNat_of_zero_le h0
  have hn : n < r.length := by omega
  simp [gd, subR, natsI, hn]
theorem sub_cons (m x : Int) (l r : List Int) : subR (m :: l) (x :: r) = (m - x) :: subR l r := by
  simp [subR, natsI, List.range_succ_eq_map, gd, Function.comp_def]
theorem sub_sum : ∀ {r l : List Int}, r.length = l.length → (subR l r).sum = l.sum - r.sum
  | [], [], _ => by simp [subR, natsI]
  | x :: r, m :: l, h => by
    rw [sub_cons]
    simp only [List.sum_cons, sub_sum (r := r) (l := l) (by simpa using h)]
    omega
theorem sum_nonneg : ∀ {l : List Int}, (∀ y ∈ l, 0 ≤ y) → 0 ≤ l.sum
  | [], _ => by simp
  | x :: l, h => by
    have := sum_nonneg fun y m => h y (List.mem_cons_of_mem x m)
    have := h x List.mem_cons_self
    simp only [List.sum_cons]; omega
/-- one part of a sum of many that are 0 or more -/
theorem gd_le_sum : ∀ {l : List Int}, (∀ y ∈ l, 0 ≤ y) → ∀ n : Nat, l.getD n 0 ≤ l.sum
  | [], _, n => by simp
  | x :: l, h, 0 => by
    have := sum_nonneg fun y m => h y (List.mem_cons_of_mem x m)
    simp; omega
  | x :: l, h, n + 1 => by
    have := gd_le_sum (fun y m => h y (List.mem_cons_of_mem x m)) n
    have := h x List.mem_cons_self
    simp at *
    omega
/-- one number of a fitting row, and what is left for the others -/
theorem fit_others : ∀ {r l : List Int}, fits r l → ∀ n : Nat, n < r.length → r.sum - r.getD n 0 ≤ l.sum - l.getD n 0
  | x :: r, m :: l, h, 0, _ => by
    have : r.sum ≤ l.sum := by
      suffices hh : ∀ r l : List Int, fits r l → r.sum ≤ l.sum from hh r l h.2.2
      intro r
      induction r with
      | nil => intro l h; cases l with
        | nil => simp
        | cons _ _ => exact h.elim
      | cons x r ih => intro l h; cases l with
        | nil => exact h.elim
        | cons m l =>
          have := ih l h.2.2
          have := h.2.1
          simp only [List.sum_cons]; omega
    simp; omega
  | x :: r, m :: l, h, n + 1, hn => by
    have := fit_others h.2.2 n (by simpa using hn)
    have := h.2.1
    simp at *
    omega
theorem fits_nonneg : ∀ {r l : List Int}, fits r l → ∀ y ∈ r, 0 ≤ y
  | [], [], _, _, hy => nomatch hy
  | x :: r, m :: l, h, y, hy => by
    rcases List.mem_cons.mp hy with rfl | hy
    · exact h.1
    · exact fits_nonneg h.2.2 y hy
  | [], _ :: _, h, _, _ => h.elim
  | _ :: _, [], h, _, _ => h.elim
theorem fits_le : ∀ {r l : List Int}, fits r l → r.sum ≤ l.sum
  | [], [], _ => by simp
  | x :: r, m :: l, h => by
    have := fits_le h.2.2
    have := h.2.1
    simp only [List.sum_cons]; omega
  | [], _ :: _, h => h.elim
  | _ :: _, [], h => h.elim
/-- a matrix whose rows use up all: bounds of a cell -/
theorem cell_bounds : ∀ {ss l : List Int} {X : List (List Int)} (i j : Nat), MatF ss l X → (∀ y ∈ l, 0 ≤ y) → ss.sum = l.sum → i < ss.length → j < l.length →
    0 ≤ cell X i j ∧ cell X i j ≤ ss.getD i 0 ∧ cell X i j ≤ l.getD j 0 ∧ ss.getD i 0 + l.getD j 0 - l.sum ≤ cell X i j
  | s :: ss, l, r :: X, 0, j, h, h0, hT, _, hj => by
    have hl := fits_len h.1
    have hg := fits_gd h.1 (j : Int)
    have ho := fit_others h.1 j (by omega)
    have hr := fits_sum h.1
    have e : cell (r :: X) (0 : Nat) j = r.getD j 0 := by simp [cell, gd]
    have e2 : gd r j = r.getD j 0 ∧ gd l j = l.getD j 0 := by simp [gd]
    rw [e2.1, e2.2] at hg
    have h3 := h.2.1
    have h4 : r.getD j 0 ≤ r.sum := gd_le_sum (fits_nonneg h.1) j
    rw [e]
    simp
    simp at *
    omega
  | s :: ss, l, r :: X, i + 1, j, h, h0, hT, hi, hj => by
    have hl := fits_len h.1
    obtain ⟨a, b, c, d⟩ := cell_bounds i j h.2.2 (subR_nonneg h.1) (by rw [sub_sum hl, ← hT, h.2.1]; simp; omega) (by simpa using hi) (by rw [subR_len]; omega)
    have e : cell (r :: X) (i + 1 : Nat) j = cell X i j := by simp [cell]
    have e2 : (subR l r).getD j 0 = l.getD j 0 - r.getD j 0 := by
      have := gd_sub (l := l) (r := r) (j := j) (by omega) (by omega)
      simpa [gd] using this
    have hg := fits_gd h.1 (j : Int)
    have e3 : gd r j = r.getD j 0 ∧ gd l j = l.getD j 0 := by simp [gd]
    rw [e3.1, e3.2] at hg
    have ho := fit_others h.1 j (by omega)
    rw [sub_sum hl] at d
    rw [e]
    rw [e2] at c d
    have hs := h.2.1
    have h4 : r.getD j 0 ≤ r.sum := gd_le_sum (fits_nonneg h.1) j
    simp at b d ⊢
    simp at *
    omega
/-! each number between the bounds is met -/
/-- rows of any sum up to the whole -/
theorem row_ex : ∀ (l : List Int) (s : Int), (∀ y ∈ l, 0 ≤ y) → 0 ≤ s → s ≤ l.sum → ∃ r, fits r l ∧ r.sum = s
  | [], s, _, h0, h => ⟨[], trivial, by simp at h; simp; omega⟩
  | m :: l, s, hn, h0, h => by
    have hm := hn m List.mem_cons_self
    have hl := sum_nonneg fun y k => hn y (List.mem_cons_of_mem m k)
    simp only [List.sum_cons] at h
    by_cases hs : s ≤ m
    · obtain ⟨r, a, b⟩ := row_ex l 0 (fun y k => hn y (List.mem_cons_of_mem m k)) (by omega) hl
      exact ⟨s :: r, ⟨h0, hs, a⟩, by simp [b]⟩
    · obtain ⟨r, a, b⟩ := row_ex l (s - m) (fun y k => hn y (List.mem_cons_of_mem m k)) (by omega) (by omega)
      exact ⟨m :: r, ⟨hm, by omega, a⟩, by simp [b]; omega⟩
/-- rows with one number given -/
theorem row_with : ∀ (l : List Int) (s v : Int) (j : Nat), (∀ y ∈ l, 0 ≤ y) → 0 ≤ v → v ≤ s → j < l.length → v ≤ l.getD j 0 → s - v ≤ l.sum - l.getD j 0 → ∃ r, fits r l ∧ r.sum = s ∧ r.getD j 0 = v
  | m :: l, s, v, 0, hn, h0, h1, _, h2, h3 => by
    simp at h2 h3
    obtain ⟨r, a, b⟩ := row_ex l (s - v) (fun y k => hn y (List.mem_cons_of_mem m k)) (by omega) (by omega)
    exact ⟨v :: r, ⟨h0, h2, a⟩, by simp [b]; omega, by simp⟩
  | m :: l, s, v, j + 1, hn, h0, h1, hj, h2, h3 => by
    have hm := hn m List.mem_cons_self
    have hn' := fun y k => hn y (List.mem_cons_of_mem m k)
    have hg := gd_le_sum hn' j
    simp at h2 h3 hj
    simp at hg
    by_cases hs : s - v ≤ m
    · obtain ⟨r, a, b, c⟩ := row_with l v v j hn' h0 (by omega) hj (by simpa using h2) (by simp; omega)
      refine ⟨(s - v) :: r, ⟨by omega, hs, a⟩, by simp [b], by simpa using c⟩
    · obtain ⟨r, a, b, c⟩ := row_with l (s - m) v j hn' h0 (by omega) hj (by simpa using h2) (by simp; omega)
      refine ⟨m :: r, ⟨hm, by omega, a⟩, by simp [b]; omega, by simpa using c⟩
/-- a matrix there is -/
theorem mat_ex : ∀ (ss l : List Int), (∀ y ∈ ss, 0 ≤ y) → (∀ y ∈ l, 0 ≤ y) → ss.sum ≤ l.sum → ∃ X, MatF ss l X
  | [], l, _, _, _ => ⟨[], trivial⟩
  | s :: ss, l, h1, h2, h => by
    have hs := sum_nonneg fun y k => h1 y (List.mem_cons_of_mem s k)
    simp only [List.sum_cons] at h
    obtain ⟨r, a, b⟩ := row_ex l s h2 (h1 s List.mem_cons_self) (by omega)
    obtain ⟨X, c⟩ := mat_ex ss (subR l r) (fun y k => h1 y (List.mem_cons_of_mem s k)) (subR_nonneg a) (by rw [sub_sum (fits_len a)]; omega)
    exact ⟨r :: X, a, b, c⟩
/-- subtraction in any order -/
theorem fits_sub : ∀ {r l : List Int}, fits r l → fits (subR l r) l
  | [], [], _ => by simp [subR, natsI, fits]
  | x :: r, m :: l, h => by
    rw [sub_cons]
    exact ⟨by have := h.2.1; omega, by have := h.1; omega, fits_sub h.2.2⟩
  | [], _ :: _, h => h.elim
  | _ :: _, [], h => h.elim
theorem sub_comm : ∀ {l r q : List Int}, r.length = l.length → q.length = l.length → subR (subR l r) q = subR (subR l q) r
  | [], [], [], _, _ => rfl
  | m :: l, x :: r, y :: q, h1, h2 => by
    simp only [sub_cons, sub_comm (l := l) (r := r) (q := q) (by simpa using h1) (by simpa using h2)]
    congr 1
    omega
/-- a row that fits into what is left fits, and what was taken fits into the rest -/
theorem fits_swap : ∀ {l r q : List Int}, fits r l → fits q (subR l r) → fits q l ∧ fits r (subR l q)
  | [], [], [], _, _ => ⟨trivial, trivial⟩
  | m :: l, x :: r, y :: q, h1, h2 => by
    rw [sub_cons] at h2
    obtain ⟨a, b⟩ := fits_swap h1.2.2 h2.2.2
    have := h1.1
    have := h2.1
    have := h2.2.1
    rw [sub_cons]
    exact ⟨⟨by omega, by omega, a⟩, ⟨by omega, by omega, b⟩⟩
  | [], [], _ :: _, _, h => h.elim
  | [], _ :: _, _, h, _ => h.elim
  | _ :: _, [], _, h, _ => h.elim
  | m :: l, x :: r, [], _, h => by rw [sub_cons] at h; exact h.elim
/-- row i first -/
theorem mat_first : ∀ (ss l : List Int) (i j : Nat) (v : Int), (∀ y ∈ ss, 0 ≤ y) → (∀ y ∈ l, 0 ≤ y) → ss.sum ≤ l.sum → i < ss.length → (∃ r, fits r l ∧ r.sum = ss.getD i 0 ∧ r.getD j 0 = v) → ∃ X, MatF ss l X ∧ cell X i j = v
  | s :: ss, l, 0, j, v, h1, h2, h, _, ⟨r, a, b, c⟩ => by
    simp at b
    obtain ⟨X, d⟩ := mat_ex ss (subR l r) (fun y k => h1 y (List.mem_cons_of_mem s k)) (subR_nonneg a) (by rw [sub_sum (fits_len a)]; simp at h; omega)
    exact ⟨r :: X, ⟨a, b, d⟩, by simp [cell, gd]; simpa using c⟩
  | s :: ss, l, i + 1, j, v, h1, h2, h, hi, ⟨r, a, b, c⟩ => by
    have h1' := fun y k => h1 y (List.mem_cons_of_mem s k)
    have hs := gd_le_sum h1' i
    have hs0 := sum_nonneg h1'
    simp at b
    simp at hs
    simp only [List.sum_cons] at h
    -- the row s out of what r leaves
    obtain ⟨q, qa, qb⟩ := row_ex (subR l r) s (subR_nonneg a) (h1 s List.mem_cons_self) (by rw [sub_sum (fits_len a)]; omega)
    obtain ⟨f1, f2⟩ := fits_swap a qa
    obtain ⟨X, d, e⟩ := mat_first ss (subR l q) i j v h1' (subR_nonneg f1) (by rw [sub_sum (fits_len f1)]; omega) (by simpa using hi) ⟨r, f2, by simpa using b, c⟩
    exact ⟨q :: X, ⟨f1, qb, d⟩, by
      have : cell (q :: X) (i + 1 : Nat) j = cell X i j := by simp [cell]
      rw [← e]; exact this⟩
/-- every number between the bounds is some matrix's -/
theorem cell_met (ss l : List Int) (i j : Nat) (v : Int) (h1 : ∀ y ∈ ss, 0 ≤ y) (h2 : ∀ y ∈ l, 0 ≤ y) (hT : ss.sum = l.sum) (hi : i < ss.length) (hj : j < l.length) (v0 : 0 ≤ v) (v1 : v ≤ ss.getD i 0) (v2 : v ≤ l.getD j 0) (v3 : ss.getD i 0 + l.getD j 0 - l.sum ≤ v) : ∃ X, MatF ss l X ∧ cell X i j = v :=
  mat_first ss l i j v h1 h2 (by omega) hi (row_with l _ v j h2 v0 v1 hj v2 (by omega))
end K58
namespace K58
open PySem L2 Mi
theorem ne2 (a b c d : Int) : gNe (.tup [.int a, .int b]) (.tup [.int c, .int d]) = some (.val (.bl (!(decide (a = c) && decide (b = d))))) := by
  have := ne_ints [a, b] [c, d]
  simp only [List.map_cons, List.map_nil] at this
  rw [this]
  simp
abbrev hO (F r : Int) : OT := .ins "House" [("floors", .fz (.int F)), ("room", .fz (.int r))]
theorem min_eq {l : List Int} {v : Int} (hv : v ∈ l) (h : ∀ y ∈ l, v ≤ y) : gMinL [.lst (l.map D.int)] = some (.val (.int v)) := by
  cases l with
  | nil => cases hv
  | cons x r =>
    obtain ⟨h1, h2⟩ := minI_spec x r
    have e : minI (x :: r) = v := by
      have := h2 v hv
      have := h _ h1
      omega
    simp [gMinL, e, -List.map_cons, ints_map]
theorem max_eq {l : List Int} {v : Int} (hv : v ∈ l) (h : ∀ y ∈ l, y ≤ v) : gMaxL [.lst (l.map D.int)] = some (.val (.int v)) := by
  cases l with
  | nil => cases hv
  | cons x r =>
    obtain ⟨h1, h2⟩ := maxI_spec x r
    have e : maxI (x :: r) = v := by
      have := h2 v hv
      have := h _ h1
      omega
    simp [gMaxL, e, -List.map_cons, ints_map]
structure Cnt (F : Nat) (a b : List Int) : Prop where
  la : a.length = F
  lb : b.length = F
  na : ∀ y ∈ a, 0 ≤ y
  nb : ∀ y ∈ b, 0 ≤ y
  eq : a.sum = b.sum
  sm : a.sum ≤ 10 ^ 30
theorem le_all {l : List Int} (h : ∀ y ∈ l, 0 ≤ y) {B : Int} (hs : l.sum ≤ B) : ∀ y ∈ l, 0 ≤ y ∧ y ≤ B := fun y hy => by
  refine ⟨h y hy, ?_⟩
  obtain ⟨n, hn, rfl⟩ := List.getElem_of_mem hy
  have := gd_le_sum h n
  simp [hn] at this
  omega
noncomputable def fewCell : SM := (sSeq (sSet 8 (eComp (iAny (eVar 5)) (.nm 10) tTrue (eCall 3 none M__law_many (aCons (eFrz (eVar 10)) (aCons (eFrz (eVar 6)) (aCons (eFrz (eVar 7)) aNil)))) [10]))
  (sSeq (sSet 9 (eCall 5 none M_pair_bounds (aCons (eFrz (eVar 2)) (aCons (eFrz (eVar 3)) (aCons (eFrz (eVar 4)) (aCons (eFrz (eVar 6)) (aCons (eFrz (eVar 7)) aNil)))))))
  (sIf (tOrM (tNotM (tVal (eN gIsi (aCons (eVar 9) (aCons (eC (.ty "tuple")) aNil))))) (tOrM (tVal (eB gNe (eVar 9) (eTup (aCons (eN gMinL (aCons (eVar 8) aNil)) (aCons (eN gMaxL (aCons (eVar 8) aNil)) aNil))))) (tVal (eN gIsi (aCons (eB gIx (eVar 9) (eC (.int 0))) (aCons (eC (.ty "bool")) aNil)))))) (sRet (eC (.bl false))) sSkip)))
theorem comp_many (s0 s1 s2 s3 s4 s5 s8 s9 : Option OT) (i j : Int) (Xs : List (List (List Int))) (wants : List Int) (ss : List Int) (hX : ∀ X ∈ Xs, MatF ss wants X) (i0 : 0 ≤ i) (i1 : i < ss.length) (j0 : 0 ≤ j) (j1 : j < wants.length) (h1 : ss.length ≤ 1000) (h2 : wants.length ≤ 1000) (hl : Xs.length ≤ 16000000) :
    compL (.nm 10) tTrue (eCall 3 none M__law_many (aCons (eFrz (eVar 10)) (aCons (eFrz (eVar 6)) (aCons (eFrz (eVar 7)) aNil)))) [10] (Xs.map fun X => gD (encFrom 0 X)) [s0, s1, s2, s3, s4, s5, some (.fz (.int i)), some (.fz (.int j)), s8, s9, none] [] = .ok ((Xs.map fun X => cell X i j).map D.int) [s0, s1, s2, s3, s4, s5, some (.fz (.int i)), some (.fz (.int j)), s8, s9, none] := by
  suffices h : ∀ (Xs : List (List (List Int))) (acc : List D), (∀ X ∈ Xs, MatF ss wants X) → acc.length + Xs.length ≤ 16777216 → compL (.nm 10) tTrue (eCall 3 none M__law_many (aCons (eFrz (eVar 10)) (aCons (eFrz (eVar 6)) (aCons (eFrz (eVar 7)) aNil)))) [10] (Xs.map fun X => gD (encFrom 0 X)) [s0, s1, s2, s3, s4, s5, some (.fz (.int i)), some (.fz (.int j)), s8, s9, none] acc = .ok (acc ++ (Xs.map fun X => cell X i j).map D.int) [s0, s1, s2, s3, s4, s5, some (.fz (.int i)), some (.fz (.int j)), s8, s9, none] by
    simpa using h Xs [] hX (by simp; omega)
  intro Xs
  induction Xs with
  | nil => intro acc _ _; simp [compL]
  | cons X Xs ih =>
    intro acc hX hl
    simp only [List.length_cons] at hl
    have hm := hX X List.mem_cons_self
    have hlen := enc_from_len (i := 0) hm
    have e1 := many (encFrom 0 X) i j (trip_enc X 0) (by
      refine Nat.le_trans hlen (Nat.le_trans (Nat.mul_le_mul h1 h2) (by decide)))
    have e2 := many_enc (k := 0) i j hm j0 j1
    rw [Int.zero_add, if_pos ⟨i0, by rw [mat_len hm]; exact i1⟩] at e2
    rw [e2] at e1
    have hacc : acc.length < 16777216 := by omega
    have ih := ih (acc ++ [.int (cell X i j)]) (fun Y m => hX Y (List.mem_cons_of_mem _ m)) (by simp; omega)
    rw [List.map_cons, compL]
    simp [e1, hacc]
    simp at ih
    exact ih
theorem fewCell_ok (F : Nat) (r : Int) (a b : List Int) (c : Cnt F a b) (hF : 2 ≤ F) (hF2 : F ≤ 40) (Xs : List (List (List Int))) (hX : ∀ X, X ∈ Xs ↔ MatF a b X) (hl : Xs.length ≤ 16000000) (i j : Nat) (hi : i < F) (hj : j < F) (s0 s1 t2 t5 s8 s9 s10 : Option OT)
    (h2 : t2 = some (hO F r) ∨ t2 = some (.fz (hD F r))) (h5 : t5 = some (.lst (Xs.map fun X => gD (encFrom 0 X))) ∨ t5 = some (.fz (.lst (Xs.map fun X => gD (encFrom 0 X))))) :
    ∃ u8 u9 u10, fewCell [s0, s1, t2, some (.fz (tI a)), some (.fz (tI b)), t5, some (.fz (.int i)), some (.fz (.int j)), s8, s9, s10] = .nx [s0, s1, some (.fz (hD F r)), some (.fz (tI a)), some (.fz (tI b)), some (.fz (.lst (Xs.map fun X => gD (encFrom 0 X)))), some (.fz (.int i)), some (.fz (.int j)), u8, u9, u10] := by
  obtain ⟨la, lb, na, nb, eq, sm⟩ := c
  have hi' : i < a.length := by omega
  have hj' : j < b.length := by omega
  have bd := bounds F r a b i j (by omega) (by omega) (le_all na sm) (le_all nb (by omega)) (by omega) (by omega) eq hi' hj'
  have ga : a.getD i 0 = a[i] := by simp [hi']
  have gb : b.getD j 0 = b[j] := by simp [hj']
  have ai := na _ (List.getElem_mem hi')
  have bj := nb _ (List.getElem_mem hj')
  have al := gd_le_sum na i
  have bl := gd_le_sum nb j
  rw [ga] at al
  rw [gb] at bl
  generalize hlo : (if a[i] + b[j] - a.sum > 0 then a[i] + b[j] - a.sum else 0) = lo at bd
  generalize hhi : (if b[j] < a[i] then b[j] else a[i]) = hi at bd
  have lo0 : 0 ≤ lo ∧ lo ≤ hi ∧ a[i] + b[j] - a.sum ≤ lo ∧ hi ≤ a[i] ∧ hi ≤ b[j] := by split at hlo <;> split at hhi <;> omega
  have all : ∀ y ∈ Xs.map (fun X => cell X i j), lo ≤ y ∧ y ≤ hi := fun y hy => by
    obtain ⟨X, hx, rfl⟩ := List.mem_map.mp hy
    obtain ⟨c0, c1, c2, c3⟩ := cell_bounds i j ((hX X).mp hx) nb eq hi' hj'
    rw [ga] at c1 c3
    rw [gb] at c2 c3
    split at hlo <;> split at hhi <;> omega
  have met : ∀ v, lo ≤ v → v ≤ hi → v ∈ Xs.map (fun X => cell X i j) := fun v v0 v1 => by
    obtain ⟨X, hx, e⟩ := cell_met a b i j v na nb eq hi' hj' (by omega) (by rw [ga]; omega) (by rw [gb]; omega) (by rw [ga, gb, ← eq]; omega)
    exact List.mem_map.mpr ⟨X, (hX X).mpr hx, e⟩
  have mn := min_eq (met lo (by omega) lo0.2.1) fun y hy => (all y hy).1
  have mx := max_eq (met hi lo0.2.1 (by omega)) fun y hy => (all y hy).2
  have cm := comp_many s0 s1 t2 (some (.fz (tI a))) (some (.fz (tI b))) (some (.fz (.lst (Xs.map fun X => gD (encFrom 0 X))))) s8 s9 i j Xs b a (fun X h => (hX X).mp h) (by omega) (by omega) (by omega) (by omega) (by omega) (by omega) hl
  have ite : (tI [lo, hi]) = .tup [.int lo, .int hi] := rfl
  refine ⟨some (.lst ((Xs.map fun X => cell X i j).map D.int)), some (.fz (tI [lo, hi])), none, ?_⟩
  rw [ite] at bd ⊢
  rcases h2 with rfl | rfl <;> rcases h5 with rfl | rfl
  all_goals
    simp [fewCell, -List.map_map]
    rw [cm]
    simp [bd, mn, mx, ne2, -List.map_map]
end K58
namespace K58
open PySem L2 Mi
theorem few_case (p : Int) (h0 : 0 ≤ p) (h5 : p < 5) : ∃ (F : Nat) (size : Int), atI [D.int 2, .int 3, .int 3, .int 4, .int 8] p = some (.int F) ∧ atI [D.int 6, .int 6, .int 6, .int 6, .int 4, .int 4, .int 4, .int 4, .int 3] (F : Int) = some (.int size) ∧ 2 ≤ F ∧ F ≤ 40 ∧ 1 ≤ size ∧ size ≤ 6 ∧ ∀ T : Int, 0 ≤ T → T ≤ size → 2 ^ (T.toNat * (F - 1)) ≤ 8000000 := by
  have mono : ∀ (F n : Nat) (T : Int), T ≤ n → 2 ^ (n * (F - 1)) ≤ 8000000 → 2 ^ (T.toNat * (F - 1)) ≤ 8000000 := fun F n T h hb =>
    Nat.le_trans (Nat.pow_le_pow_right (by decide) (Nat.mul_le_mul_right _ (by omega))) hb
  have : p = 0 ∨ p = 1 ∨ p = 2 ∨ p = 3 ∨ p = 4 := by omega
  rcases this with rfl | rfl | rfl | rfl | rfl
  · exact ⟨2, 6, rfl, rfl, by decide, by decide, by decide, by decide, fun T a b => mono 2 6 T b (by decide)⟩
  · exact ⟨3, 6, rfl, rfl, by decide, by decide, by decide, by decide, fun T a b => mono 3 6 T b (by decide)⟩
  · exact ⟨3, 6, rfl, rfl, by decide, by decide, by decide, by decide, fun T a b => mono 3 6 T b (by decide)⟩
  · exact ⟨4, 4, rfl, rfl, by decide, by decide, by decide, by decide, fun T a b => mono 4 4 T b (by decide)⟩
  · exact ⟨8, 3, rfl, rfl, by decide, by decide, by decide, by decide, fun T a b => mono 8 3 T b (by decide)⟩
section
variable (F : Nat) (r : Int) (a b : List Int) (c : Cnt F a b) (hF : 2 ≤ F) (hF2 : F ≤ 40) (Xs : List (List (List Int))) (hX : ∀ X, X ∈ Xs ↔ MatF a b X) (hl : Xs.length ≤ 16000000)
abbrev everyD (Xs : List (List (List Int))) : D := .lst (Xs.map fun X => gD (encFrom 0 X))
def Ho (F : Nat) (r : Int) (t : Option OT) : Prop := t = some (hO F r) ∨ t = some (.fz (hD F r))
def Ev (Xs : List (List (List Int))) (t : Option OT) : Prop := t = some (.lst (Xs.map fun X => gD (encFrom 0 X))) ∨ t = some (.fz (everyD Xs))
theorem nat_item {n : Nat} {pre post : List D} {d : D} (hd : (natsI n).map D.int = pre ++ d :: post) : pre.length < n ∧ d = .int pre.length := by
  have hl := congrArg List.length hd
  rw [List.length_map, nats_length] at hl
  have hg := congrArg (fun l => l[pre.length]?) hd
  simp [natsI] at hl hg
  rw [List.getElem?_range (by omega)] at hg
  simp at hg
  exact ⟨by omega, hg.symm⟩
include c hF hF2 hX hl in
theorem few_inner (s0 s1 : Option OT) (i : Nat) (hi : i < F) (t2 t5 s7 s8 s9 s10 : Option OT) (h2 : Ho F r t2) (h5 : Ev Xs t5) :
    ∃ u2 u5 u7 u8 u9 u10, forL (.nm 7) fewCell ((natsI F).map D.int) [s0, s1, t2, some (.fz (tI a)), some (.fz (tI b)), t5, some (.fz (.int i)), s7, s8, s9, s10] = .nx [s0, s1, u2, some (.fz (tI a)), some (.fz (tI b)), u5, some (.fz (.int i)), u7, u8, u9, u10] ∧ Ho F r u2 ∧ Ev Xs u5 := by
  obtain ⟨e', h1, u2, u5, u7, u8, u9, u10, rfl, q2, q5⟩ := forL_inv (tg := .nm 7) (body := fewCell) ((natsI F).map D.int) (fun _ e => ∃ u2 u5 u7 u8 u9 u10, e = [s0, s1, u2, some (.fz (tI a)), some (.fz (tI b)), u5, some (.fz (.int i)), u7, u8, u9, u10] ∧ Ho F r u2 ∧ Ev Xs u5)
    (env := [s0, s1, t2, some (.fz (tI a)), some (.fz (tI b)), t5, some (.fz (.int i)), s7, s8, s9, s10]) ⟨_, _, _, _, _, _, rfl, h2, h5⟩ (by
      rintro pre d post e hd ⟨u2, u5, u7, u8, u9, u10, rfl, q2, q5⟩
      obtain ⟨hk, rfl⟩ := nat_item hd
      obtain ⟨v8, v9, v10, e1⟩ := fewCell_ok F r a b c hF hF2 Xs hX hl i pre.length hi hk s0 s1 u2 u5 u8 u9 u10 q2 q5
      exact ⟨_, _, by simp, .inl e1, _, _, _, _, _, _, rfl, .inr rfl, .inr rfl⟩)
  exact ⟨u2, u5, u7, u8, u9, u10, h1, q2, q5⟩
include c hF hF2 hX hl in
theorem few_outer (s0 : Option OT) (t2 t5 s6 s7 s8 s9 s10 : Option OT) (h2 : Ho F r t2) (h5 : Ev Xs t5) :
    ∃ u2 u5 u6 u7 u8 u9 u10, forL (.nm 6) (sFor (iRange rng1 (aCons (eVar 1) aNil)) (.nm 7) fewCell) ((natsI F).map D.int) [s0, some (.fz (.int F)), t2, some (.fz (tI a)), some (.fz (tI b)), t5, s6, s7, s8, s9, s10] = .nx [s0, some (.fz (.int F)), u2, some (.fz (tI a)), some (.fz (tI b)), u5, u6, u7, u8, u9, u10] := by
  obtain ⟨e', h1, u2, u5, u6, u7, u8, u9, u10, rfl, q2, q5⟩ := forL_inv (tg := .nm 6) (body := (sFor (iRange rng1 (aCons (eVar 1) aNil)) (.nm 7) fewCell)) ((natsI F).map D.int) (fun _ e => ∃ u2 u5 u6 u7 u8 u9 u10, e = [s0, some (.fz (.int F)), u2, some (.fz (tI a)), some (.fz (tI b)), u5, u6, u7, u8, u9, u10] ∧ Ho F r u2 ∧ Ev Xs u5)
    (env := [s0, some (.fz (.int F)), t2, some (.fz (tI a)), some (.fz (tI b)), t5, s6, s7, s8, s9, s10]) ⟨_, _, _, _, _, _, _, rfl, h2, h5⟩ (by
      rintro pre d post e hd ⟨u2, u5, u6, u7, u8, u9, u10, rfl, q2, q5⟩
      obtain ⟨hk, rfl⟩ := nat_item hd
      obtain ⟨v2, v5, v7, v8, v9, v10, e1, w2, w5⟩ := few_inner F r a b c hF hF2 Xs hX hl s0 (some (.fz (.int F))) pre.length hk u2 u5 u7 u8 u9 u10 q2 q5
      have sm : small62 (F : Int) = true := small62_nat (by omega)
      refine ⟨_, _, by simp; rfl, .inl ?_, v2, v5, some (.fz (.int pre.length)), v7, v8, v9, v10, rfl, w2, w5⟩
      simp [sm, rng_nats]
      exact e1)
  exact ⟨u2, u5, u6, u7, u8, u9, u10, h1⟩
end
theorem few (k : Dk) : ∃ k', M__law_few_right [deckO k] = .ok (.fz (.bl true)) (some (deckO k')) := by
  obtain ⟨p, k1, e1, p0, p5⟩ := pick k 5 (by decide) (by decide)
  obtain ⟨F, size, a1, a2, hF, hF2, z1, z6, hb⟩ := few_case p p0 p5
  obtain ⟨q, k2, e2, q0, q3⟩ := pick k1 3 (by decide) (by decide)
  have eh := house F (1 + q) (by omega) (by omega) (by omega) (by omega)
  obtain ⟨k3, a, b, e3, la, lb, na, nb, eq, sm⟩ := counts k2 F size (by omega) (by omega) z1 (by omega)
  have sm : a.sum ≤ size := by
    rw [if_neg (by omega)] at sm
    have : (size - 1) / 1000000000 = 0 := by omega
    rw [this] at sm
    omega
  have c : Cnt F a b := ⟨la, lb, na, nb, eq, by omega⟩
  have hbb := hb a.sum (sum_nonneg na) sm
  rw [← lb] at hbb
  obtain ⟨Xs, e4, hX, hl⟩ := all_wishes a b na nb (by omega) (by omega) (by omega) (by omega) hbb
  have hl : Xs.length ≤ 16000000 := by omega
  obtain ⟨u2, u5, u6, u7, u8, u9, u10, e5⟩ := few_outer F (1 + q) a b c hF hF2 Xs hX hl (some (deckO k3)) (some (hO F (1 + q))) (some (.lst (Xs.map fun X => gD (encFrom 0 X)))) none none none none none (.inl rfl) (.inl rfl)
  have ub : b__law_few_right = (sSeq (sSet 1 (eB gIx (eLst (aCons (eC (.int 2)) (aCons (eC (.int 3)) (aCons (eC (.int 3)) (aCons (eC (.int 4)) (aCons (eC (.int 8)) aNil)))))) (eCall 2 (some 0) M__law_pick (aCons (eVar 0) (aCons (eC (.int 5)) aNil)))))
    (sSeq (sSet 2 (eMake 3 "House" M_House___init__ (aCons (eFrz (eVar 1)) (aCons (eB gAdd (eC (.int 1)) (eCall 2 (some 0) M__law_pick (aCons (eVar 0) (aCons (eC (.int 3)) aNil)))) aNil))))
    (sSeq (sTgt (.tp [(.nm 3), (.nm 4)]) (eFrz (eCall 3 (some 0) M__law_counts (aCons (eVar 0) (aCons (eFrz (eVar 1)) (aCons (eB gIx (eLst (aCons (eC (.int 6)) (aCons (eC (.int 6)) (aCons (eC (.int 6)) (aCons (eC (.int 6)) (aCons (eC (.int 4)) (aCons (eC (.int 4)) (aCons (eC (.int 4)) (aCons (eC (.int 4)) (aCons (eC (.int 3)) aNil)))))))))) (eVar 1)) aNil))))))
    (sSeq (sSet 5 (eCall 2 none M__law_all_wishes (aCons (eFrz (eVar 3)) (aCons (eFrz (eVar 4)) aNil))))
    (sSeq (sFor (iRange rng1 (aCons (eVar 1) aNil)) (.nm 6) (sFor (iRange rng1 (aCons (eVar 1) aNil)) (.nm 7) fewCell))
    (sRet (eC (.bl true)))))))) := rfl
  have smF : small62 (F : Int) = true := small62_nat (by omega)
  refine ⟨k3, ?_⟩
  simp [M__law_few_right, ub, runDef, e1, a1, e2, eh, a2, e3, e4, smF, rng_nats, -List.map_map]
  rw [e5]
  simp
end K58
namespace K58
open PySem L2 Mi
/-! the plan in order: what is known, as triples -/
def kv1 (g : List Int) : NK × D := (.tup [.num (gd g 0), .num (gd g 1)], .int (gd g 2))
abbrev kv (gs : List (List Int)) : List (NK × D) := gs.map kv1
def S (p : List Int → Bool) (gs : List (List Int)) : Int := ((gs.filter p).map fun g => gd g 2).sum
theorem S_snoc (p : List Int → Bool) (gs : List (List Int)) (g : List Int) : S p (gs ++ [g]) = S p gs + if p g = true then gd g 2 else 0 := by
  unfold S
  rw [List.filter_append, List.map_append, List.sum_append]
  cases h : p g <;> simp [h]
theorem key_key (i j : Int) : keyOf true (.tup [.int i, .int j]) = some (.tup [.num i, .num j]) := rfl
theorem get_none {gs : List (List Int)} {i j : Int} (h : ∀ g ∈ gs, ¬ (gd g 0 = i ∧ gd g 1 = j)) : dgetN (kv gs) (.tup [.num i, .num j]) = none := by
  unfold dgetN
  rw [Option.map_eq_none_iff, List.find?_eq_none]
  intro x hx
  obtain ⟨g, hg, rfl⟩ := List.mem_map.mp hx
  have := h g hg
  simp [kv1]
  intro a b
  exact this ⟨a, b⟩
theorem put_new {gs : List (List Int)} {i j v : Int} (h : ∀ g ∈ gs, ¬ (gd g 0 = i ∧ gd g 1 = j)) : dputN (kv gs) (.tup [.num i, .num j]) (.int v) = kv (gs ++ [[i, j, v]]) := by
  unfold dputN
  have : ((kv gs).any fun e => decide (e.1 = .tup [.num i, .num j])) = false := by
    rw [List.any_eq_false]
    intro x hx
    obtain ⟨g, hg, rfl⟩ := List.mem_map.mp hx
    have := h g hg
    simp [kv1]
    intro a b
    exact this ⟨a, b⟩
  rw [if_neg (by rw [this]; decide)]
  simp [kv, kv1]
  exact ⟨⟨rfl, rfl⟩, rfl⟩
theorem get_some {gs : List (List Int)} (hn : (gs.map fun g => (gd g 0, gd g 1)).Nodup) : ∀ g ∈ gs, dgetN (kv gs) (.tup [.num (gd g 0), .num (gd g 1)]) = some (.int (gd g 2)) := by
  induction gs with
  | nil => intro g h; cases h
  | cons x gs ih =>
    intro g hg
    rw [List.map_cons, List.nodup_cons] at hn
    rcases List.mem_cons.mp hg with rfl | hg
    · simp [dgetN, kv1]
    · have hne : ¬ (gd x 0 = gd g 0 ∧ gd x 1 = gd g 1) := fun e => hn.1 (List.mem_map.mpr ⟨g, hg, by rw [e.1, e.2]⟩)
      have := ih hn.2 g hg
      unfold dgetN at this ⊢
      rw [show kv (x :: gs) = kv1 x :: kv gs from rfl, List.find?_cons_of_neg]
      · exact this
      · simp [kv1]
        intro a b
        exact hne ⟨a, b⟩
structure PI (F : Nat) (a b : List Int) (i : Nat) (m : Int) (L R : List Int) (gs : List (List Int)) : Prop where
  trip : Trip gs
  pos : ∀ g ∈ gs, 0 < gd g 2
  nd : (gs.map fun g => (gd g 0, gd g 1)).Nodup
  fresh : ∀ g ∈ gs, gd g 0 < i ∨ (gd g 0 = i ∧ (m = 0 ∨ gd g 1 ∉ R))
  len : L.length = F
  nn : ∀ y ∈ L, 0 ≤ y
  rn : R.Nodup
  rin : ∀ j ∈ R, 0 ≤ j ∧ j < F
  out : ∀ j : Nat, j < F → (j : Int) ∉ R → L.getD j 0 = 0
  row : ∀ k : Nat, k < i → S (fun g => decide (gd g 0 = k)) gs = a.getD k 0
  now : S (fun g => decide (gd g 0 = i)) gs = a.getD i 0 - m
  col : ∀ j : Nat, j < F → S (fun g => decide (gd g 1 = j)) gs = b.getD j 0 - L.getD j 0
  tot : S (fun _ => true) gs = (a.take i).sum + a.getD i 0 - m
  sum : L.sum = b.sum - S (fun _ => true) gs
  m0 : 0 ≤ m
noncomputable def pairBody : SM := (sSeq (sSet 9 (eB gIx (eVar 6) (eC (.int 0))))
  (sSeq (sSet 10 (eN gMin2 (aCons (eVar 8) (aCons (eB gIx (eVar 4) (eVar 9)) aNil))))
  (sSeq (sIf (tVal (eB gGt (eVar 10) (eC (.int 0)))) (sSub (.sl 5) (eTup (aCons (eFrz (eVar 7)) (aCons (eFrz (eVar 9)) aNil))) (eB gAdd (eGet2 (eVar 5) (eTup (aCons (eFrz (eVar 7)) (aCons (eFrz (eVar 9)) aNil))) (eC (.int 0))) (eVar 10))) sSkip)
  (sSeq (sSub (.sl 4) (eFrz (eVar 9)) (eB Mi.gSub (eB gIx (eVar 4) (eVar 9)) (eVar 10)))
  (sSeq (sAug (fun a b => a - b) 8 (eVar 10))
  (sIf (tVal (eB gEq (eB gIx (eVar 4) (eVar 9)) (eC (.int 0)))) (sSet 6 (eSl (eVar 6) (some (eC (.int 1))) none)) sSkip))))))
abbrev penv (s0 s1 s2 s3 s9 s10 : Option OT) (i : Nat) (m : Int) (L R : List Int) (gs : List (List Int)) : ME := [s0, s1, s2, s3, some (.lst (L.map D.int)), some (.dic true (kv gs)), some (.lst (R.map D.int)), some (.fz (.int i)), some (.fz (.int m)), s9, s10]
theorem cut1 {x : D} {xs : List D} : cutD (x :: xs) (some 1) none = xs := by
  unfold cutD
  have e1 : HT.sIx (x :: xs).length 0 (some 1) = 1 := by
    have := HT.sIx_nat (x :: xs).length 0 1
    simp at this
    simpa using this
  have e2 : HT.sIx (x :: xs).length (x :: xs).length none = (x :: xs).length := rfl
  rw [e1, e2]
  simp
theorem pair_step (s0 s1 s2 s3 s9 s10 : Option OT) (i j : Nat) (m : Int) (L R : List Int) (gs : List (List Int)) (hj : j < L.length) (hm : 0 < m) (hL : 0 ≤ L[j]) (hf : ∀ g ∈ gs, ¬ (gd g 0 = i ∧ gd g 1 = j)) (hg : gs.length < 16777216) :
    ∃ t9 t10, pairBody (penv s0 s1 s2 s3 s9 s10 i m L ((j : Int) :: R) gs) = .nx (penv s0 s1 s2 s3 t9 t10 i (m - if L[j] < m then L[j] else m) (L.set j (L[j] - if L[j] < m then L[j] else m)) (if L[j] ≤ m then R else (j : Int) :: R) (if L[j] = 0 then gs else gs ++ [[(i : Int), (j : Int), if L[j] < m then L[j] else m]])) := by
  refine ⟨some (.fz (.int j)), some (.fz (.int (if L[j] < m then L[j] else m))), ?_⟩
  have a1 := at_map (f := D.int) hj
  have g1 := get_none hf
  have hset : ∀ v : Int, atI ((L.map D.int).set j (.int v)) (j : Int) = some (.int v) := fun v => by
    rw [at_nat (by simpa using hj)]
    simp
  have p1 := put_new (v := if L[j] < m then L[j] else m) hf
  have hl : (kv gs).length < 16777216 := by simpa using hg
  by_cases h0 : L[j] = 0
  · have hlt : L[j] < m := by omega
    have hle : L[j] ≤ m := by omega
    simp only [if_pos hlt, if_pos hle, if_pos h0] at p1 ⊢
    simp [pairBody, penv, a1, h0, ixn_nat, hj, hset, cut1, hm]
  · have hpos : 0 < L[j] := by omega
    by_cases hlt : L[j] < m
    · have hle : L[j] ≤ m := by omega
      simp only [if_pos hlt, if_pos hle, if_neg h0] at p1 ⊢
      simp [pairBody, penv, a1, h0, hlt, hpos, ixn_nat, hj, hset, cut1, hm, isDicD, getD2, key_key, g1, p1, hg, -List.map_append]
    · simp only [if_neg hlt, if_neg h0] at p1 ⊢
      by_cases hle : L[j] ≤ m
      · have e : L[j] - m = 0 := by omega
        simp only [if_pos hle]
        simp [pairBody, penv, a1, h0, hlt, hpos, ixn_nat, hj, hset, cut1, hm, isDicD, getD2, key_key, g1, p1, hg, e, -List.map_append]
      · have e : ¬ L[j] - m = 0 := by omega
        simp only [if_neg hle]
        simp [pairBody, penv, a1, h0, hlt, hpos, ixn_nat, hj, hset, cut1, hm, isDicD, getD2, key_key, g1, p1, hg, e, -List.map_append]
theorem getD_set {L : List Int} {j k : Nat} {v : Int} (hj : j < L.length) : (L.set j v).getD k 0 = if k = j then v else L.getD k 0 := by
  by_cases h : k = j
  · subst h; simp [hj]
  · simp [h, List.getElem?_set_ne (Ne.symm h)]
/-- one turn keeps all that is promised -/
theorem pi_step {F : Nat} {a b : List Int} {i j : Nat} {m : Int} {L R : List Int} {gs : List (List Int)} (h : PI F a b i m L ((j : Int) :: R) gs) (hm : 0 < m) (hj : j < L.length) :
    PI F a b i (m - if L[j] < m then L[j] else m) (L.set j (L[j] - if L[j] < m then L[j] else m)) (if L[j] ≤ m then R else (j : Int) :: R) (if L[j] = 0 then gs else gs ++ [[(i : Int), (j : Int), if L[j] < m then L[j] else m]]) := by
  have hL := h.nn _ (List.getElem_mem hj)
  have gj : L.getD j 0 = L[j] := by simp [hj]
  have nin : ∀ x ∈ R, x ≠ (j : Int) := fun x hx e => by
    have := h.rn
    rw [List.nodup_cons] at this
    exact this.1 (e ▸ hx)
  generalize ht : (if L[j] < m then L[j] else m) = t
  have t0 : 0 ≤ t ∧ t ≤ m ∧ t ≤ L[j] ∧ (t = m ∨ t = L[j]) := by split at ht <;> omega
  have hfr : ∀ g ∈ gs, ¬ (gd g 0 = i ∧ gd g 1 = j) := fun g hg e => by
    rcases h.fresh g hg with z | ⟨_, z | z⟩
    · omega
    · omega
    · exact z (by rw [e.2]; exact List.mem_cons_self)
  have g3 : gd [(i : Int), (j : Int), t] 0 = i ∧ gd [(i : Int), (j : Int), t] 1 = j ∧ gd [(i : Int), (j : Int), t] 2 = t := ⟨rfl, rfl, rfl⟩
  have Sx : ∀ p : List Int → Bool, S p (if L[j] = 0 then gs else gs ++ [[(i : Int), (j : Int), t]]) = S p gs + if p [(i : Int), (j : Int), t] = true then t else 0 := fun p => by
    by_cases hz : L[j] = 0
    · rw [if_pos hz]
      have : t = 0 := by omega
      rw [this]; split <;> omega
    · rw [if_neg hz, S_snoc, g3.2.2]
  have rsub : ∀ x, x ∈ (if L[j] ≤ m then R else (j : Int) :: R) → x ∈ (j : Int) :: R := fun x hx => by
    split at hx
    · exact List.mem_cons_of_mem _ hx
    · exact hx
  refine ⟨?_, ?_, ?_, ?_, by rw [List.length_set]; exact h.len, nonneg_set h.nn (by omega), ?_, fun x hx => h.rin x (rsub x hx), ?_, ?_, ?_, ?_, ?_, ?_, by omega⟩
  · split
    · exact h.trip
    · intro g hg
      rcases List.mem_append.mp hg with hg | hg
      · exact h.trip g hg
      · rw [List.mem_singleton] at hg; exact ⟨_, _, _, hg⟩
  · split
    · exact h.pos
    · intro g hg
      rcases List.mem_append.mp hg with hg | hg
      · exact h.pos g hg
      · rw [List.mem_singleton] at hg
        rw [hg, g3.2.2]
        omega
  · split
    · exact h.nd
    · rw [List.map_append, List.nodup_append]
      refine ⟨h.nd, by simp, fun x hx y hy e => ?_⟩
      obtain ⟨g, hg, rfl⟩ := List.mem_map.mp hx
      simp only [List.map_cons, List.map_nil, List.mem_singleton] at hy
      rw [hy, g3.1, g3.2.1] at e
      exact hfr g hg ⟨congrArg Prod.fst e, congrArg Prod.snd e⟩
  · intro g hg
    have old : g ∈ gs → gd g 0 < i ∨ (gd g 0 = i ∧ (m - t = 0 ∨ gd g 1 ∉ (if L[j] ≤ m then R else (j : Int) :: R))) := fun hg => by
      rcases h.fresh g hg with z | ⟨z, z2 | z2⟩
      · exact .inl z
      · omega
      · exact .inr ⟨z, .inr fun x => z2 (rsub _ x)⟩
    split at hg
    · exact old hg
    · rcases List.mem_append.mp hg with hg | hg
      · exact old hg
      · rw [List.mem_singleton] at hg
        refine .inr ⟨by rw [hg, g3.1], ?_⟩
        by_cases hle : L[j] ≤ m
        · right
          rw [if_pos hle, hg, g3.2.1]
          intro x
          exact nin _ x rfl
        · left; omega
  · split
    · have := h.rn; rw [List.nodup_cons] at this; exact this.2
    · exact h.rn
  · intro k hk hx
    rw [getD_set hj]
    by_cases e : k = j
    · rw [if_pos e]
      by_cases hle : L[j] ≤ m
      · omega
      · rw [if_neg hle, e] at hx
        exact absurd List.mem_cons_self hx
    · rw [if_neg e]
      refine h.out k hk fun z => hx ?_
      rcases List.mem_cons.mp z with z | z
      · exact absurd (by omega) e
      · split
        · exact z
        · exact List.mem_cons_of_mem _ z
  · intro k hk
    rw [Sx, h.row k hk, if_neg (by rw [g3.1]; simp; omega)]
    omega
  · rw [Sx, h.now, if_pos (by rw [g3.1]; simp)]
    omega
  · intro k hk
    rw [Sx, h.col k hk, getD_set hj]
    by_cases e : k = j
    · subst e
      rw [if_pos (by rw [g3.2.1]; simp), if_pos rfl, gj]
      omega
    · rw [if_neg (by rw [g3.2.1]; simp; omega), if_neg e]
      omega
  · rw [Sx, h.tot, if_pos rfl]
    omega
  · rw [sum_set _ _ _ hj, Sx, h.sum, if_pos rfl]
    omega
/-- the while loop of one floor -/
theorem pair_while (F : Nat) (a b : List Int) (hT : a.sum = b.sum) (na : ∀ y ∈ a, 0 ≤ y) (s0 s1 s2 s3 : Option OT) (i : Nat) (hi : i < a.length) (ia : a.length ≤ 1000) (hF : F ≤ 1000) :
    ∀ (n : Nat) (m : Int) (L R : List Int) (gs : List (List Int)) (s9 s10 : Option OT), R.length ≤ n → gs.length + n < 16000000 → PI F a b i m L R gs →
      ∃ L' R' gs' t9 t10 N, whileN (tVal (eB gGt (eVar 8) (eC (.int 0)))) pairBody N (penv s0 s1 s2 s3 s9 s10 i m L R gs) = .nx (penv s0 s1 s2 s3 t9 t10 i 0 L' R' gs') ∧ PI F a b i 0 L' R' gs' ∧ gs'.length + R'.length ≤ gs.length + n + 1 := by
  intro n
  induction n with
  | zero =>
    intro m L R gs s9 s10 hR hg h
    have e : R = [] := List.length_eq_zero_iff.mp (by omega)
    subst e
    have hz : L.sum = 0 := by
      have : ∀ j : Nat, j < L.length → L.getD j 0 = 0 := fun j hj => h.out j (by rw [← h.len]; exact hj) (by simp)
      clear h hg
      induction L with
      | nil => rfl
      | cons x L ih =>
        have h0 := this 0 (by simp)
        have := ih fun j hj => by simpa using this (j + 1) (by simpa using hj)
        simp at h0
        simp only [List.sum_cons]; omega
    have q1 := h.sum
    have q2 := h.tot
    have q3 := sum_take_le a (i + 1) na
    have tk : a.take (i + 1) = a.take i ++ [a[i]] := by rw [List.take_succ_eq_append_getElem hi]
    rw [tk, List.sum_append, List.sum_cons, List.sum_nil] at q3
    have ga : a.getD i 0 = a[i] := by simp [hi]
    rw [ga] at q2
    have m0 : m = 0 := by have := h.m0; omega
    subst m0
    refine ⟨L, [], gs, s9, s10, 1, ?_, h, by simp⟩
    simp [whileN, penv]
  | succ n ih =>
    intro m L R gs s9 s10 hR hg h
    by_cases hm : 0 < m
    · cases R with
      | nil =>
        obtain ⟨L', R', gs', t9, t10, N, e, p, q⟩ := ih m L [] gs s9 s10 (by simp) (by omega) h
        exact ⟨L', R', gs', t9, t10, N, e, p, by omega⟩
      | cons j R =>
        obtain ⟨j0, j1⟩ := h.rin j List.mem_cons_self
        obtain ⟨j, rfl⟩ := Int.eq_ofNat_of_zero_le j0
        have hj : j < L.length := by rw [h.len]; omega
        have hL := h.nn _ (List.getElem_mem hj)
        have hfr : ∀ g ∈ gs, ¬ (gd g 0 = i ∧ gd g 1 = j) := fun g hg e => by
          rcases h.fresh g hg with z | ⟨_, z | z⟩
          · omega
          · omega
          · exact z (by rw [e.2]; exact List.mem_cons_self)
        obtain ⟨t9, t10, e1⟩ := pair_step s0 s1 s2 s3 s9 s10 i j m L R gs hj hm hL hfr (by omega)
        have h2 := pi_step h hm hj
        simp only [List.length_cons] at hR
        by_cases hle : L[j] ≤ m
        · simp only [if_pos hle] at e1 h2
          have gl : (if L[j] = 0 then gs else gs ++ [[(i : Int), (j : Int), if L[j] < m then L[j] else m]]).length ≤ gs.length + 1 := by split <;> simp
          obtain ⟨L', R', gs', u9, u10, N, e2, p, q⟩ := ih _ _ R _ t9 t10 (by omega) (by omega) h2
          refine ⟨L', R', gs', u9, u10, N + 1, ?_, p, by omega⟩
          rw [whileN]
          have ec : tVal (eB gGt (eVar 8) (eC (.int 0))) (penv s0 s1 s2 s3 s9 s10 i m L ((j : Int) :: R) gs) = .ok true (penv s0 s1 s2 s3 s9 s10 i m L ((j : Int) :: R) gs) := by simp [penv, hm]
          rw [ec]
          simp only [e1]
          exact e2
        · have hlt : ¬ L[j] < m := by omega
          simp only [if_neg hle, if_neg hlt, Int.sub_self] at e1 h2
          refine ⟨_, _, _, t9, t10, 2, ?_, h2, ?_⟩
          · rw [whileN]
            have ec : tVal (eB gGt (eVar 8) (eC (.int 0))) (penv s0 s1 s2 s3 s9 s10 i m L ((j : Int) :: R) gs) = .ok true (penv s0 s1 s2 s3 s9 s10 i m L ((j : Int) :: R) gs) := by simp [penv, hm]
            rw [ec]
            simp only [e1]
            simp [whileN, penv]
          · have : (if L[j] = 0 then gs else gs ++ [[(i : Int), (j : Int), m]]).length ≤ gs.length + 1 := by split <;> simp
            simp only [List.length_cons]
            omega
    · have m0 : m = 0 := by have := h.m0; omega
      subst m0
      refine ⟨L, R, gs, s9, s10, 1, ?_, h, by omega⟩
      simp [whileN, penv]
end K58
namespace K58
open PySem L2 Mi
theorem S_nil {p : List Int → Bool} {gs : List (List Int)} (h : ∀ g ∈ gs, p g = false) : S p gs = 0 := by
  unfold S
  rw [List.filter_eq_nil_iff.mpr fun g hg => by rw [h g hg]; decide]
  rfl
theorem pi_next {F : Nat} {a b : List Int} {i : Nat} {L R : List Int} {gs : List (List Int)} (h : PI F a b i 0 L R gs) (hi : i < a.length) (na : ∀ y ∈ a, 0 ≤ y) : PI F a b (i + 1) (a.getD (i + 1) 0) L R gs := by
  have f : ∀ g ∈ gs, gd g 0 < ((i + 1 : Nat) : Int) := fun g hg => by rcases h.fresh g hg with z | ⟨z, _⟩ <;> omega
  refine ⟨h.trip, h.pos, h.nd, fun g hg => .inl (f g hg), h.len, h.nn, h.rn, h.rin, h.out, fun k hk => ?_, ?_, h.col, ?_, h.sum, ?_⟩
  · by_cases e : k = i
    · subst e; have := h.now; omega
    · exact h.row k (by omega)
  · rw [S_nil fun g hg => by have := f g hg; simp; omega]; omega
  · have tk : a.take (i + 1) = a.take i ++ [a[i]] := by rw [List.take_succ_eq_append_getElem hi]
    have ga : a.getD i 0 = a[i] := by simp [hi]
    have := h.tot
    rw [tk, List.sum_append, List.sum_cons, List.sum_nil]
    omega
  · by_cases hk : i + 1 < a.length
    · simp [hk]; exact na _ (List.getElem_mem hk)
    · simp [hk]
theorem S_both (p q : List Int → Bool) : ∀ gs : List (List Int), (∀ g ∈ gs, 0 < gd g 2) → 0 ≤ S (fun g => p g && q g) gs ∧ S (fun g => p g && q g) gs ≤ S p gs ∧ S (fun g => p g && q g) gs ≤ S q gs ∧ S p gs + S q gs - S (fun _ => true) gs ≤ S (fun g => p g && q g) gs
  | [], _ => by simp [S]
  | g :: gs, h => by
    have ih := S_both p q gs fun x m => h x (List.mem_cons_of_mem _ m)
    have h0 := h g List.mem_cons_self
    have e : ∀ r : List Int → Bool, S r (g :: gs) = (if r g = true then gd g 2 else 0) + S r gs := fun r => by
      unfold S
      cases hr : r g <;> simp [hr]
    rw [e, e, e, e]
    cases hp : p g <;> cases hq : q g <;> simp <;> omega
theorem S_perm {p : List Int → Bool} {gs hs : List (List Int)} (h : gs.Perm hs) : S p gs = S p hs := by
  induction h with
  | nil => rfl
  | cons x _ ih =>
    unfold S at ih ⊢
    cases hp : p x <;> simp [hp] <;> omega
  | swap x y l =>
    unfold S
    cases hp : p x <;> cases hq : p y <;> simp [hp, hq] <;> omega
  | trans _ _ i1 i2 => rw [i1, i2]
structure Plan (F : Nat) (a b : List Int) (gs : List (List Int)) : Prop where
  trip : Trip gs
  len : gs.length ≤ 16000000
  bd : ∀ i j : Nat, i < F → j < F → manyP gs i j ≤ a.getD i 0 ∧ manyP gs i j ≤ b.getD j 0 ∧ a.getD i 0 + b.getD j 0 - a.sum ≤ manyP gs i j ∧ 0 ≤ manyP gs i j
theorem plan_of {F : Nat} {a b L R : List Int} {gs : List (List Int)} (c : Cnt F a b) (h : PI F a b F 0 L R gs) (hl : gs.length ≤ 16000000) : Plan F a b gs := by
  refine ⟨h.trip, hl, fun i j hi hj => ?_⟩
  have ht := h.tot
  have e1 : a.take F = a := by rw [← c.la]; exact List.take_length
  have e2 : a.getD F 0 = 0 := by simp [c.la]
  rw [e1, e2] at ht
  have hs := h.sum
  have := c.eq
  have hz := gd_le_sum h.nn j
  have hz0 : 0 ≤ L.getD j 0 := by
    have := h.nn (L[j]'(by rw [h.len]; exact hj)) (List.getElem_mem _)
    simp [h.len, hj]; exact this
  have hr := h.row i hi
  have hc := h.col j hj
  obtain ⟨b0, b1, b2, b3⟩ := S_both (fun g => decide (gd g 0 = i)) (fun g => decide (gd g 1 = j)) gs h.pos
  have e : manyP gs i j = S (fun g => decide (gd g 0 = i) && decide (gd g 1 = j)) gs := rfl
  rw [e]
  refine ⟨by omega, by omega, by omega, b0⟩
theorem plan_perm {F : Nat} {a b : List Int} {gs hs : List (List Int)} (h : Plan F a b gs) (p : gs.Perm hs) : Plan F a b hs :=
  ⟨fun g hg => h.trip g (p.mem_iff.mpr hg), by rw [← p.length_eq]; exact h.len, fun i j hi hj => by
    have e : manyP hs i j = manyP gs i j := (S_perm p).symm
    rw [e]; exact h.bd i j hi hj⟩
theorem enum_item {a : List Int} {pre post : List D} {d : D} (hd : enumL 0 (a.map D.int) = pre ++ d :: post) : ∃ h : pre.length < a.length, d = .tup [.int pre.length, .int a[pre.length]] := by
  have hl := congrArg List.length hd
  rw [enumL_length, List.length_map] at hl
  simp at hl
  have hk : pre.length < a.length := by omega
  have hg : (enumL 0 (a.map D.int))[pre.length]? = some d := by rw [hd]; simp
  obtain ⟨x, ex, e⟩ := enumL_get _ _ _ _ hg
  simp [hk] at ex
  refine ⟨hk, ?_⟩
  rw [e, ← ex]
  simp
theorem pair_for (F : Nat) (a b : List Int) (c : Cnt F a b) (hF : F ≤ 1000) (s0 s1 s2 s3 s7 s8 s9 s10 : Option OT) (R : List Int) (rn : R.Nodup) (rin : ∀ j ∈ R, 0 ≤ j ∧ j < F) (rall : ∀ j : Nat, j < F → (j : Int) ∈ R) (rl : R.length ≤ 1000) :
    ∃ L' R' gs t7 t8 t9 t10, forL (.tp [.nm 7, .nm 8]) (sWhile (tVal (eB gGt (eVar 8) (eC (.int 0)))) pairBody) (enumL 0 (a.map D.int)) [s0, s1, s2, s3, some (.lst (b.map D.int)), some (.dic true []), some (.lst (R.map D.int)), s7, s8, s9, s10] = .nx [s0, s1, s2, s3, some (.lst (L'.map D.int)), some (.dic true (kv gs)), some (.lst (R'.map D.int)), t7, t8, t9, t10] ∧ PI F a b F 0 L' R' gs ∧ gs.length ≤ 3000 := by
  have loop := forL_inv (tg := .tp [.nm 7, .nm 8]) (body := (sWhile (tVal (eB gGt (eVar 8) (eC (.int 0)))) pairBody)) (enumL 0 (a.map D.int))
    (fun pre e => ∃ (L R' : List Int) (gs : List (List Int)) (t7 t8 t9 t10 : Option OT), e = [s0, s1, s2, s3, some (.lst (L.map D.int)), some (.dic true (kv gs)), some (.lst (R'.map D.int)), t7, t8, t9, t10] ∧ PI F a b pre.length (a.getD pre.length 0) L R' gs ∧ gs.length + R'.length ≤ 1000 + pre.length)
    (env := [s0, s1, s2, s3, some (.lst (b.map D.int)), some (.dic true []), some (.lst (R.map D.int)), s7, s8, s9, s10])
    ⟨b, R, [], s7, s8, s9, s10, rfl, ⟨fun _ h => (nomatch h), fun _ h => (nomatch h), by simp, fun _ h => (nomatch h), c.lb, c.nb, rn, rin, fun j hj h => absurd (rall j hj) h, fun k hk => absurd hk (by simp), by simp [S], fun j _ => by simp [S], by simp [S], by simp [S], by
      cases a with
      | nil => simp
      | cons x a => simp; exact c.na x (by simp)⟩, by simp; exact rl⟩ ?_
  · obtain ⟨e', h1, L, R', gs, t7, t8, t9, t10, rfl, q, ql⟩ := loop
    have hlen : (enumL 0 (a.map D.int)).length = F := by rw [enumL_length, List.length_map, c.la]
    rw [hlen] at q ql
    have e2 : a.getD F 0 = 0 := by simp [c.la]
    rw [e2] at q
    exact ⟨L, R', gs, t7, t8, t9, t10, h1, q, by omega⟩
  · rintro pre d post e hd ⟨L, R', gs, t7, t8, t9, t10, rfl, q, ql⟩
    obtain ⟨hk, rfl⟩ := enum_item hd
    have ga : a.getD pre.length 0 = a[pre.length] := by simp [hk]
    rw [ga] at q
    have hla := c.la
    obtain ⟨L2, R2, gs2, u9, u10, N, e1, q2, ql2⟩ := pair_while F a b c.eq c.na s0 s1 s2 s3 pre.length hk (by omega) hF R'.length a[pre.length] L R' gs t9 t10 (Nat.le_refl _) (by omega) q
    refine ⟨_, _, by simp, .inl (sWhile_eq (n := N) e1 (fun z => (nomatch z))), L2, R2, gs2, _, _, _, _, rfl, ?_, ?_⟩
    · rw [List.length_append, List.length_singleton]
      exact pi_next q2 hk c.na
    · rw [List.length_append, List.length_singleton]
      omega
theorem raw (F : Nat) (r : Int) (gs : List (List Int)) (ht : Trip gs) (hp : ∀ g ∈ gs, 0 < gd g 2) (hn : (gs.map fun g => (gd g 0, gd g 1)).Nodup) (hl : gs.length ≤ 16000000) :
    ∃ hs, gs.Perm hs ∧ M_raw_standing [.fz (hD F r), .fz (.int 0), .fz (.dic true (kv gs))] = .ok (.ins "RawStanding" [("house", .fz (hD F r)), ("lift", .fz (.int 0)), ("groups", .fz (gD hs))]) none := by
  have kD : ∀ g ∈ gs, keyD (kv1 g).1 = .tup [.int (gd g 0), .int (gd g 1)] := fun g _ => rfl
  have comp : ∀ s3 : Option OT, compL (.nm 4) (tVal (eB gGt (eB gIx (eVar 2) (eVar 4)) (eC (.int 0)))) (eB gAdd (eVar 4) (eTup (aCons (eB gIx (eVar 2) (eVar 4)) aNil))) [4] ((kv gs).map fun p => keyD p.1) [some (.fz (hD F r)), some (.fz (.int 0)), some (.fz (.dic true (kv gs))), s3, none] [] = .ok (gs.map tI) [some (.fz (hD F r)), some (.fz (.int 0)), some (.fz (.dic true (kv gs))), s3, none] := fun s3 => by
    suffices h : ∀ (hs : List (List Int)) (acc : List D), (∀ g ∈ hs, g ∈ gs) → acc.length + hs.length ≤ 16777216 → compL (.nm 4) (tVal (eB gGt (eB gIx (eVar 2) (eVar 4)) (eC (.int 0)))) (eB gAdd (eVar 4) (eTup (aCons (eB gIx (eVar 2) (eVar 4)) aNil))) [4] ((kv hs).map fun p => keyD p.1) [some (.fz (hD F r)), some (.fz (.int 0)), some (.fz (.dic true (kv gs))), s3, none] acc = .ok (acc ++ hs.map tI) [some (.fz (hD F r)), some (.fz (.int 0)), some (.fz (.dic true (kv gs))), s3, none] by
      simpa using h gs [] (fun _ h => h) (by simp; omega)
    intro hs
    induction hs with
    | nil => intro acc _ _; simp [compL, kv]
    | cons g hs ih =>
      intro acc hm hl
      simp only [List.length_cons] at hl
      have hg := hm g List.mem_cons_self
      have e1 := get_some hn g hg
      have e2 := hp g hg
      obtain ⟨x, y, v, rfl⟩ := ht g hg
      have g3 : gd [x, y, v] 0 = x ∧ gd [x, y, v] 1 = y ∧ gd [x, y, v] 2 = v := ⟨rfl, rfl, rfl⟩
      rw [g3.1, g3.2.1, g3.2.2] at e1
      rw [g3.2.2] at e2
      have hacc : acc.length < 16777216 := by omega
      have ih := ih (acc ++ [tI [x, y, v]]) (fun z m => hm z (List.mem_cons_of_mem _ m)) (by simp; omega)
      have ek : keyD (kv1 [x, y, v]).1 = .tup [.int x, .int y] := rfl
      rw [show kv ([x, y, v] :: hs) = kv1 [x, y, v] :: kv hs from rfl, List.map_cons, ek, compL]
      simp [key_key, e1, e2, hacc, -List.map_map]
      simp [-List.map_map] at ih
      exact ih
  have rdy : ready (gs.map tI) = true := by
    refine ready_tups (n := 1) (fun x hx => ?_) (fun x hx y hy => ?_) (by decide)
    · obtain ⟨g, hg, rfl⟩ := List.mem_map.mp hx
      obtain ⟨x, y, v, rfl⟩ := ht g hg
      exact ⟨okN_ints _, rfl⟩
    · obtain ⟨g, hg, rfl⟩ := List.mem_map.mp hx
      obtain ⟨h, hh, rfl⟩ := List.mem_map.mp hy
      simp only [toP, PySem.W.alike]
      exact alike_ints g h
  refine ⟨gs.mergeSort (fun x y => leD (tI x) (tI y)), (List.mergeSort_perm _ _).symm, ?_⟩
  have srt : gSorted [.lst (gs.map tI)] = some (.lst ((gs.mergeSort (fun x y => leD (tI x) (tI y))).map tI)) := by
    simp only [gSorted, rdy, if_true]
    rw [PySem.W.sort_maps tI fun _ _ _ _ => rfl]
  have ini : ∀ g : D, M_RawStanding___init__ [.ins "RawStanding" [], .fz (hD F r), .fz (.int 0), .fz g] = .ok (.fz .non) (some (.ins "RawStanding" [("house", .fz (hD F r)), ("lift", .fz (.int 0)), ("groups", .fz g)])) := fun g => by
    simp (decide := true) [M_RawStanding___init__, b_RawStanding___init__, runDef]
  simp [M_raw_standing, b_raw_standing, runDef, -List.map_map]
  rw [comp]
  simp [srt, ini, -List.map_map]
theorem paired (F : Nat) (r : Int) (a b : List Int) (c : Cnt F a b) (hF : F ≤ 1000) (R : List Int) (rn : R.Nodup) (rin : ∀ j ∈ R, 0 ≤ j ∧ j < F) (rall : ∀ j : Nat, j < F → (j : Int) ∈ R) (rl : R.length ≤ 1000) :
    ∃ hs, Plan F a b hs ∧ M_paired [.fz (hD F r), .fz (tI a), .fz (tI b), .fz (.lst (R.map D.int))] = .ok (.ins "RawStanding" [("house", .fz (hD F r)), ("lift", .fz (.int 0)), ("groups", .fz (gD hs))]) none := by
  obtain ⟨L', R', gs, t7, t8, t9, t10, e1, q, ql⟩ := pair_for F a b c hF (some (.fz (hD F r))) (some (.fz (tI a))) (some (.fz (tI b))) (some (.fz (.lst (R.map D.int)))) none none none none R rn rin rall rl
  obtain ⟨hs, hp, e2⟩ := raw F r gs q.trip q.pos q.nd (by omega)
  refine ⟨hs, plan_perm (plan_of c q (by omega)) hp, ?_⟩
  have ub : b_paired = (sSeq (sSet 4 (eN gList (aCons (eVar 2) aNil)))
    (sSeq (sSet 5 (eDnew true))
    (sSeq (sSet 6 (eN gList (aCons (eVar 3) aNil)))
    (sSeq (sFor (iArgs enum2 (aCons (eFrz (eVar 1)) aNil)) (.tp [(.nm 7), (.nm 8)]) (sWhile (tVal (eB gGt (eVar 8) (eC (.int 0)))) pairBody))
    (sRet (eCall 3 none M_raw_standing (aCons (eFrz (eVar 0)) (aCons (eC (.int 0)) (aCons (eFrz (eVar 5)) aNil))))))))) := rfl
  simp [M_paired, ub, runDef, -List.map_map]
  rw [e1]
  simp [e2, -List.map_map]
end K58
namespace K58
open PySem L2 Mi
theorem nats_nodup (n : Nat) : (natsI n).Nodup := by
  unfold natsI
  rw [List.nodup_iff_pairwise_ne, List.pairwise_map]
  exact (List.nodup_iff_pairwise_ne.mp List.nodup_range).imp fun h e => h (Int.ofNat.inj e)
section
variable (F : Nat) (r : Int) (a b : List Int) (c : Cnt F a b) (hF : 2 ≤ F) (hF2 : F ≤ 40)
include c hF hF2
theorem chk : M_check_counts [.fz (hD F r), .fz (tI a), .fz (tI b)] = .ok (.fz .non) none := by
  have := c.la
  have := c.lb
  have := c.eq
  exact check_ok F r a b (by omega) (by omega) (le_all c.na c.sm) (le_all c.nb (by have := c.sm; omega)) (by omega) (by omega) c.eq
theorem least : ∃ hs, Plan F a b hs ∧ M_least_wishes [.fz (hD F r), .fz (tI a), .fz (tI b)] = .ok (.ins "RawStanding" [("house", .fz (hD F r)), ("lift", .fz (.int 0)), ("groups", .fz (gD hs))]) none := by
  obtain ⟨hs, p, e⟩ := paired F r a b c (by omega) (natsI F) (nats_nodup F) (fun j hj => mem_nats.mp hj) (fun j hj => mem_nats.mpr ⟨by omega, by omega⟩) (by rw [nats_length]; omega)
  refine ⟨hs, p, ?_⟩
  have e1 := chk F r a b c hF hF2
  have e2 : lstRg 0 (F : Int) = some (.lst ((natsI F).map D.int)) := by
    have := lstRg0 (y := (F : Int)) (by omega) (by omega)
    simpa using this
  simp [M_least_wishes, b_least_wishes, runDef, e1, e2, -List.map_map]
  rw [e]
  simp
theorem most : ∃ hs, Plan F a b hs ∧ M_most_wishes [.fz (hD F r), .fz (tI a), .fz (tI b)] = .ok (.ins "RawStanding" [("house", .fz (hD F r)), ("lift", .fz (.int 0)), ("groups", .fz (gD hs))]) none := by
  obtain ⟨hs, p, e⟩ := paired F r a b c (by omega) (natsI F).reverse ((List.reverse_perm _).nodup_iff.mpr (nats_nodup F)) (fun j hj => mem_nats.mp (List.mem_reverse.mp hj)) (fun j hj => List.mem_reverse.mpr (mem_nats.mpr ⟨by omega, by omega⟩)) (by rw [List.length_reverse, nats_length]; omega)
  refine ⟨hs, p, ?_⟩
  have e1 := chk F r a b c hF hF2
  have e2 : lstRg 0 (F : Int) = some (.lst ((natsI F).map D.int)) := by
    have := lstRg0 (y := (F : Int)) (by omega) (by omega)
    simpa using this
  rw [List.map_reverse] at e
  simp [M_most_wishes, b_most_wishes, runDef, e1, e2, -List.map_map, -List.map_reverse]
  rw [e]
  simp
end
noncomputable def greatOne : SM := (sIf (tNotM (tVal (eChain gLe gLe (eB gIx (eVar 10) (eC (.int 0))) (eCall 3 none M__law_many (aCons (eFrz (eVar 11)) (aCons (eFrz (eVar 8)) (aCons (eFrz (eVar 9)) aNil)))) (eB gIx (eVar 10) (eC (.int 1)))))) (sRet (eC (.bl false))) sSkip)
noncomputable def greatBody : SM := (sSeq (sSet 8 (eCall 2 (some 0) M__law_pick (aCons (eVar 0) (aCons (eFrz (eVar 1)) aNil))))
  (sSeq (sSet 9 (eCall 2 (some 0) M__law_pick (aCons (eVar 0) (aCons (eFrz (eVar 1)) aNil))))
  (sSeq (sSet 10 (eTup (aCons (eN gMax2 (aCons (eC (.int 0)) (aCons (eB Mi.gSub (eB gAdd (eB gIx (eVar 3) (eVar 8)) (eB gIx (eVar 4) (eVar 9))) (eN gSum (aCons (eVar 3) aNil))) aNil))) (aCons (eN gMin2 (aCons (eB gIx (eVar 3) (eVar 8)) (aCons (eB gIx (eVar 4) (eVar 9)) aNil))) aNil))))
  (sSeq (sIf (tVal (eB gNe (eCall 5 none M_pair_bounds (aCons (eFrz (eVar 2)) (aCons (eFrz (eVar 3)) (aCons (eFrz (eVar 4)) (aCons (eFrz (eVar 8)) (aCons (eFrz (eVar 9)) aNil)))))) (eVar 10))) (sRet (eC (.bl false))) sSkip)
  (sFor (iAny (eLst (aCons (eFrz (eVar 5)) (aCons (eFrz (eVar 6)) aNil)))) (.nm 11) greatOne)))))
theorem greatBody_ok (F : Nat) (r : Int) (a b : List Int) (c : Cnt F a b) (hF : 2 ≤ F) (hF2 : F ≤ 40) (k : Dk) (g1 g2 : List (List Int)) (p1 : Plan F a b g1) (p2 : Plan F a b g2) (t2 s7 s8 s9 s10 s11 : Option OT) (h2 : Ho F r t2) :
    ∃ k' u8 u9 u10 u11, greatBody [some (deckO k), some (.fz (.int F)), t2, some (.fz (tI a)), some (.fz (tI b)), some (.fz (gD g1)), some (.fz (gD g2)), s7, s8, s9, s10, s11] = .nx [some (deckO k'), some (.fz (.int F)), some (.fz (hD F r)), some (.fz (tI a)), some (.fz (tI b)), some (.fz (gD g1)), some (.fz (gD g2)), s7, u8, u9, u10, u11] := by
  obtain ⟨i, k1, e1, i0, i1⟩ := pick k F (by omega) (by omega)
  obtain ⟨j, k2, e2, j0, j1⟩ := pick k1 F (by omega) (by omega)
  obtain ⟨i, rfl⟩ := Int.eq_ofNat_of_zero_le i0
  obtain ⟨j, rfl⟩ := Int.eq_ofNat_of_zero_le j0
  have hia : i < a.length := by have := c.la; omega
  have hjb : j < b.length := by have := c.lb; omega
  have la := c.la
  have lb := c.lb
  have sm := c.sm
  have eq := c.eq
  have bd := bounds F r a b i j (by omega) (by omega) (le_all c.na sm) (le_all c.nb (by omega)) (by omega) (by omega) eq hia hjb
  have ga : a.getD i 0 = a[i] := by simp [hia]
  have gb : b.getD j 0 = b[j] := by simp [hjb]
  obtain ⟨x1, x2, x3, x4⟩ := p1.bd i j (by omega) (by omega)
  obtain ⟨y1, y2, y3, y4⟩ := p2.bd i j (by omega) (by omega)
  rw [ga] at x1 x3 y1 y3
  rw [gb] at x2 x3 y2 y3
  have m1 := many g1 i j p1.trip p1.len
  have m2 := many g2 i j p2.trip p2.len
  have a1 := at_map (f := D.int) hia
  have a2 := at_map (f := D.int) hjb
  generalize hlo : (if a[i] + b[j] - a.sum > 0 then a[i] + b[j] - a.sum else 0) = lo at bd
  generalize hhi : (if b[j] < a[i] then b[j] else a[i]) = hi at bd
  have q1 : lo ≤ manyP g1 i j ∧ manyP g1 i j ≤ hi := by split at hlo <;> split at hhi <;> omega
  have q2 : lo ≤ manyP g2 i j ∧ manyP g2 i j ≤ hi := by split at hlo <;> split at hhi <;> omega
  have one : ∀ (g : List (List Int)) (s0 s1 s2 s3 s4 s5 s6 : Option OT), M__law_many [.fz (gD g), .fz (.int i), .fz (.int j)] = .ok (.fz (.int (manyP g i j))) none → lo ≤ manyP g i j ∧ manyP g i j ≤ hi → greatOne [s0, s1, s2, s3, s4, s5, s6, s7, some (.fz (.int i)), some (.fz (.int j)), some (.fz (.tup [.int lo, .int hi])), some (.fz (gD g))] = .nx [s0, s1, s2, s3, s4, s5, s6, s7, some (.fz (.int i)), some (.fz (.int j)), some (.fz (.tup [.int lo, .int hi])), some (.fz (gD g))] := fun g s0 s1 s2 s3 s4 s5 s6 em hq => by
    simp [greatOne, em, hq.1, hq.2]
  have ite : (tI [lo, hi]) = .tup [.int lo, .int hi] := rfl
  rw [ite] at bd
  have hlo' : (if a.sum < a[i] + b[j] then a[i] + b[j] - a.sum else 0) = lo := by rw [← hlo]; split <;> split <;> omega
  refine ⟨k2, some (.fz (.int i)), some (.fz (.int j)), some (.fz (.tup [.int lo, .int hi])), some (.fz (gD g2)), ?_⟩
  rcases h2 with rfl | rfl
  all_goals
    simp [greatBody, e1, e2, a1, a2, hlo', hhi, bd, ne2, forL, one g1 _ _ _ _ _ _ _ m1 q1, one g2 _ _ _ _ _ _ _ m2 q2]
theorem great_case (q : Int) (h0 : 0 ≤ q) (h7 : q < 7) (z : Bool) : ∃ F : Nat, atI [D.int (2 + q), .int 40] (if z then 1 else 0) = some (.int F) ∧ 2 ≤ F ∧ F ≤ 40 := by
  cases z
  · exact ⟨(2 + q).toNat, by
      have : ((2 + q).toNat : Int) = 2 + q := by omega
      rw [this]; simp, by omega, by omega⟩
  · exact ⟨40, rfl, by decide, by decide⟩
theorem great (k : Dk) : ∃ k', M__law_great_right [deckO k] = .ok (.fz (.bl true)) (some (deckO k')) := by
  obtain ⟨q, k1, e1, q0, q7⟩ := pick k 7 (by decide) (by decide)
  obtain ⟨y, k2, e2, y0, y12⟩ := pick k1 12 (by decide) (by decide)
  obtain ⟨F, a1, hF, hF2⟩ := great_case q q0 q7 (decide (y = 11))
  obtain ⟨v, k3, e3, v0, v6⟩ := pick k2 1000000 (by decide) (by decide)
  have eh := house F (1 + v) (by omega) (by omega) (by omega) (by omega)
  obtain ⟨u, k4, e4, u0, u2⟩ := pick k3 2 (by decide) (by decide)
  have usz : ∃ size : Int, atI [D.int 12, .int 1000000000000000000000000000000] u = some (.int size) ∧ 1 ≤ size ∧ size ≤ 10 ^ 30 ∧ (if 1000000000 < size then 1000000000 else size) * (1 + (size - 1) / 1000000000) ≤ 10 ^ 30 := by
    have : u = 0 ∨ u = 1 := by omega
    rcases this with rfl | rfl
    · exact ⟨12, rfl, by decide, by decide, by decide⟩
    · exact ⟨1000000000000000000000000000000, rfl, by decide, by decide, by decide⟩
  obtain ⟨size, a2, z1, z2, z3⟩ := usz
  obtain ⟨k5, a, b, e5, la, lb, na, nb, eq, sm⟩ := counts k4 F size (by omega) (by omega) z1 z2
  have c : Cnt F a b := ⟨la, lb, na, nb, eq, by omega⟩
  obtain ⟨g1, p1, e6⟩ := least F (1 + v) a b c hF hF2
  obtain ⟨g2, p2, e7⟩ := most F (1 + v) a b c hF hF2
  have loop := forL_inv (tg := .nm 7) (body := greatBody) ((natsI 6).map D.int)
    (fun _ e => ∃ (k : Dk) (t2 t7 t8 t9 t10 t11 : Option OT), e = [some (deckO k), some (.fz (.int F)), t2, some (.fz (tI a)), some (.fz (tI b)), some (.fz (gD g1)), some (.fz (gD g2)), t7, t8, t9, t10, t11] ∧ Ho F (1 + v) t2)
    (env := [some (deckO k5), some (.fz (.int F)), some (.fz (hD F (1 + v))), some (.fz (tI a)), some (.fz (tI b)), some (.fz (gD g1)), some (.fz (gD g2)), none, none, none, none, none]) ⟨k5, _, _, _, _, _, _, rfl, .inr rfl⟩ ?_
  · obtain ⟨e', h1, k6, t2, t7, t8, t9, t10, t11, rfl, _⟩ := loop
    refine ⟨k6, ?_⟩
    have ub : b__law_great_right = (sSeq (sSet 1 (eB gIx (eLst (aCons (eB gAdd (eC (.int 2)) (eCall 2 (some 0) M__law_pick (aCons (eVar 0) (aCons (eC (.int 7)) aNil)))) (aCons (eC (.int 40)) aNil))) (eN gInt (aCons (eB gEq (eCall 2 (some 0) M__law_pick (aCons (eVar 0) (aCons (eC (.int 12)) aNil))) (eC (.int 11))) aNil))))
      (sSeq (sSet 2 (eMake 3 "House" M_House___init__ (aCons (eFrz (eVar 1)) (aCons (eB gAdd (eC (.int 1)) (eCall 2 (some 0) M__law_pick (aCons (eVar 0) (aCons (eB gPow (eC (.int 10)) (eC (.int 6))) aNil)))) aNil))))
      (sSeq (sTgt (.tp [(.nm 3), (.nm 4)]) (eFrz (eCall 3 (some 0) M__law_counts (aCons (eVar 0) (aCons (eFrz (eVar 1)) (aCons (eB gIx (eLst (aCons (eC (.int 12)) (aCons (eB gPow (eC (.int 10)) (eC (.int 30))) aNil))) (eCall 2 (some 0) M__law_pick (aCons (eVar 0) (aCons (eC (.int 2)) aNil)))) aNil))))))
      (sSeq (sSet 5 (eAttr "groups" (eCall 3 none M_least_wishes (aCons (eFrz (eVar 2)) (aCons (eFrz (eVar 3)) (aCons (eFrz (eVar 4)) aNil))))))
      (sSeq (sSet 6 (eAttr "groups" (eCall 3 none M_most_wishes (aCons (eFrz (eVar 2)) (aCons (eFrz (eVar 3)) (aCons (eFrz (eVar 4)) aNil))))))
      (sSeq (sFor (iRange rng1 (aCons (eC (.int 6)) aNil)) (.nm 7) greatBody)
      (sRet (eC (.bl true))))))))) := rfl
    have sm6 : small62 6 = true := small62_int (by decide) (by decide)
    have r6 : rng 0 6 = (natsI 6).map D.int := rng_nats 6
    have gl : ∀ g : D, attrF "groups" [("house", .fz (hD F (1 + v))), ("lift", .fz (.int 0)), ("groups", .fz g)] = some g := fun g => rfl
    simp at a1
    simp [M__law_great_right, ub, runDef, e1, e2, a1, e3, eh, e4, a2, e5, e6, e7, gl, sm6, r6, -List.map_map]
    rw [h1]
    simp
  · rintro pre d post e hd ⟨k, t2, t7, t8, t9, t10, t11, rfl, q2⟩
    obtain ⟨k', u8, u9, u10, u11, e9⟩ := greatBody_ok F (1 + v) a b c hF hF2 k g1 g2 p1 p2 t2 (some (.fz d)) t8 t9 t10 t11 q2
    exact ⟨_, _, by simp, .inl e9, k', _, _, _, _, _, _, rfl, .inr rfl⟩
theorem deck (ns : List Int) : M__law_deck [.fz (.scr ns)] = .ok (deckO ⟨ns.take 63, 0, 0, 0⟩) none := by
  have cut : cutD (ns.map D.int) none (some 63) = (ns.take 63).map D.int := by
    unfold cutD
    have e1 : HT.sIx (ns.map D.int).length 0 none = 0 := rfl
    have e2 : HT.sIx (ns.map D.int).length (ns.map D.int).length (some 63) = min 63 ns.length := by
      have := HT.sIx_nat (ns.map D.int).length (ns.map D.int).length 63
      rw [List.length_map] at this ⊢
      exact this
    rw [e1, e2, List.drop_zero, Nat.sub_zero, List.map_take]
    rw [List.take_eq_take_iff]
    simp
  have comp : compL (.nm 1) tTrue (eN gInt (aCons (eVar 1) aNil)) [1] ((ns.take 63).map D.int) [some (.fz (.scr ns)), none] [] = .ok ((ns.take 63).map D.int) [some (.fz (.scr ns)), none] := by
    rw [compL_pure (fun _ => true) id _ _ (by simp; omega)]
    · simp
    · intro d hd
      obtain ⟨x, hx, rfl⟩ := List.mem_map.mp hd
      exact ⟨_, _, by simp; rfl, .inr ⟨_, rfl, by simp; rfl, by simp; rfl, by simp⟩⟩
  simp [M__law_deck, b__law_deck, runDef, cut, -List.map_take]
  rw [comp]
  simp
theorem law (ns : List Int) : M_law [.fz (.scr ns)] = .ok (.fz (.bl true)) none := by
  have loop := forL_inv (tg := .nm 2) (body := (sIf (tOrM (tNotM (tVal (eCall 1 (some 0) M__law_few_right (aCons (eVar 1) aNil)))) (tNotM (tVal (eCall 1 (some 0) M__law_great_right (aCons (eVar 1) aNil))))) (sRet (eC (.bl false))) sSkip)) ((natsI (1 + (if (2 : Int) < ns.length then 2 else (ns.length : Int))).toNat).map D.int)
    (fun _ e => ∃ (k : Dk) (t2 : Option OT), e = [some (.fz (.scr ns)), some (deckO k), t2]) (env := [some (.fz (.scr ns)), some (deckO ⟨ns.take 63, 0, 0, 0⟩), none]) ⟨_, _, rfl⟩ ?_
  · obtain ⟨e', h1, k, t2, rfl⟩ := loop
    have sm : small62 (1 + (if (2 : Int) < ns.length then 2 else (ns.length : Int))) = true := small62_int (by split <;> omega) (by split <;> omega)
    simp [M_law, b_law, runDef, deck, sm, rng_nats, -List.map_take]
    rw [h1]
    simp
  · rintro pre d post e hd ⟨k, t2, rfl⟩
    obtain ⟨k1, e1⟩ := few k
    obtain ⟨k2, e2⟩ := great k1
    exact ⟨_, _, by simp; rfl, .inl (by simp [e1, e2]; rfl), k2, _, rfl⟩
end K58
namespace K58
open PySem L2 Mi
theorem law_true (ns : List Int) (_ : ns.length ≤ 63) : M_law [.fz (.scr ns)] = .ok (.fz (.bl true)) none := law ns
end K58
namespace K58
open PySem L2 Mi
def topS (i : Nat) : Stmt := PySem.Challenge.pw_willinglift_k58_whole_bounds_of_pairs.main.body.getD i (.Pass ⟨0, 0, 0, 0⟩)
def inC (i j : Nat) : Stmt := match topS i with
  | .ClassDef (body := b) .. => b.getD j (.Pass ⟨0, 0, 0, 0⟩)
  | s => s
abbrev S__law_deck : Stmt := topS 30
theorem sc__law_deck : FnScope ["_law_script", "_law_cell"] ["_law_script"] (defScope S__law_deck) := ⟨rfl, rfl, rfl, by decide +kernel, rfl, by decide +kernel, by decide +kernel⟩
abbrev S_is_integer : Stmt := topS 11
theorem sc_is_integer : FnScope ["thing"] ["thing"] (defScope S_is_integer) := ⟨rfl, rfl, rfl, by decide +kernel, rfl, by decide +kernel, by decide +kernel⟩
abbrev S_is_within : Stmt := topS 12
theorem sc_is_within : FnScope ["thing", "least", "most"] ["thing", "least", "most"] (defScope S_is_within) := ⟨rfl, rfl, rfl, by decide +kernel, rfl, by decide +kernel, by decide +kernel⟩
abbrev S_House___init__ : Stmt := inC 13 0
theorem sc_House___init__ : FnScope ["self", "floors", "room"] ["self", "floors", "room"] (defScope S_House___init__) := ⟨rfl, rfl, rfl, by decide +kernel, rfl, by decide +kernel, by decide +kernel⟩
abbrev S__law_pick : Stmt := topS 31
theorem sc__law_pick : FnScope ["_law_deck_here", "_law_many_here", "_law_found", "_law_cells", "_law_cell", "_law_mixed"] ["_law_deck_here", "_law_many_here"] (defScope S__law_pick) := ⟨rfl, rfl, rfl, by decide +kernel, rfl, by decide +kernel, by decide +kernel⟩
abbrev S__law_counts : Stmt := topS 32
theorem sc__law_counts : FnScope ["_law_deck_here", "_law_floors", "_law_size", "_law_total", "_law_stands", "_law_wants", "_law_row", "_law_left", "_law_turn", "_law_part", "_law_floor"] ["_law_deck_here", "_law_floors", "_law_size"] (defScope S__law_counts) := ⟨rfl, rfl, rfl, by decide +kernel, rfl, by decide +kernel, by decide +kernel⟩
abbrev S__law_spread : Stmt := topS 33
theorem sc__law_spread : FnScope ["_law_many_here", "_law_most", "_law_found", "_law_at", "_law_longer", "_law_last", "_law_row", "_law_left", "_law_parts", "_law_part"] ["_law_many_here", "_law_most"] (defScope S__law_spread) := ⟨rfl, rfl, rfl, by decide +kernel, rfl, by decide +kernel, by decide +kernel⟩
abbrev S__law_all_wishes : Stmt := topS 34
theorem sc__law_all_wishes : FnScope ["_law_stands", "_law_wants", "_law_found", "_law_floor", "_law_longer", "_law_groups", "_law_left", "_law_row", "_law_more", "_law_want"] ["_law_stands", "_law_wants"] (defScope S__law_all_wishes) := ⟨rfl, rfl, rfl, by decide +kernel, rfl, by decide +kernel, by decide +kernel⟩
abbrev S_is_count_row : Stmt := topS 23
theorem sc_is_count_row : FnScope ["house", "thing", "item"] ["house", "thing"] (defScope S_is_count_row) := ⟨rfl, rfl, rfl, by decide +kernel, rfl, by decide +kernel, by decide +kernel⟩
abbrev S_check_counts : Stmt := topS 24
theorem sc_check_counts : FnScope ["house", "stands", "wants"] ["house", "stands", "wants"] (defScope S_check_counts) := ⟨rfl, rfl, rfl, by decide +kernel, rfl, by decide +kernel, by decide +kernel⟩
abbrev S_is_floor : Stmt := topS 14
theorem sc_is_floor : FnScope ["house", "thing"] ["house", "thing"] (defScope S_is_floor) := ⟨rfl, rfl, rfl, by decide +kernel, rfl, by decide +kernel, by decide +kernel⟩
abbrev S_check_floor : Stmt := topS 15
theorem sc_check_floor : FnScope ["house", "thing"] ["house", "thing"] (defScope S_check_floor) := ⟨rfl, rfl, rfl, by decide +kernel, rfl, by decide +kernel, by decide +kernel⟩
abbrev S_pair_bounds : Stmt := topS 28
theorem sc_pair_bounds : FnScope ["house", "stands", "wants", "stand", "want", "least"] ["house", "stands", "wants", "stand", "want"] (defScope S_pair_bounds) := ⟨rfl, rfl, rfl, by decide +kernel, rfl, by decide +kernel, by decide +kernel⟩
abbrev S__law_many : Stmt := topS 35
theorem sc__law_many : FnScope ["_law_groups", "_law_stand", "_law_want", "_law_group"] ["_law_groups", "_law_stand", "_law_want"] (defScope S__law_many) := ⟨rfl, rfl, rfl, by decide +kernel, rfl, by decide +kernel, by decide +kernel⟩
abbrev S__law_few_right : Stmt := topS 36
theorem sc__law_few_right : FnScope ["_law_deck_here", "_law_floors", "_law_house", "_law_stands", "_law_wants", "_law_every", "_law_stand", "_law_want", "_law_rows", "_law_found", "_law_groups"] ["_law_deck_here"] (defScope S__law_few_right) := ⟨rfl, rfl, rfl, by decide +kernel, rfl, by decide +kernel, by decide +kernel⟩
abbrev S_RawStanding___init__ : Stmt := inC 19 0
theorem sc_RawStanding___init__ : FnScope ["self", "house", "lift", "groups"] ["self", "house", "lift", "groups"] (defScope S_RawStanding___init__) := ⟨rfl, rfl, rfl, by decide +kernel, rfl, by decide +kernel, by decide +kernel⟩
abbrev S_raw_standing : Stmt := topS 20
theorem sc_raw_standing : FnScope ["house", "lift", "known", "rows", "pair"] ["house", "lift", "known"] (defScope S_raw_standing) := ⟨rfl, rfl, rfl, by decide +kernel, rfl, by decide +kernel, by decide +kernel⟩
abbrev S_paired : Stmt := topS 25
theorem sc_paired : FnScope ["house", "stands", "wants", "order", "left", "known", "row", "stand", "many", "want", "taken"] ["house", "stands", "wants", "order"] (defScope S_paired) := ⟨rfl, rfl, rfl, by decide +kernel, rfl, by decide +kernel, by decide +kernel⟩
abbrev S_least_wishes : Stmt := topS 26
theorem sc_least_wishes : FnScope ["house", "stands", "wants"] ["house", "stands", "wants"] (defScope S_least_wishes) := ⟨rfl, rfl, rfl, by decide +kernel, rfl, by decide +kernel, by decide +kernel⟩
abbrev S_most_wishes : Stmt := topS 27
theorem sc_most_wishes : FnScope ["house", "stands", "wants"] ["house", "stands", "wants"] (defScope S_most_wishes) := ⟨rfl, rfl, rfl, by decide +kernel, rfl, by decide +kernel, by decide +kernel⟩
abbrev S__law_great_right : Stmt := topS 37
theorem sc__law_great_right : FnScope ["_law_deck_here", "_law_floors", "_law_house", "_law_stands", "_law_wants", "_law_one", "_law_other", "_law_turn", "_law_stand", "_law_want", "_law_due", "_law_groups"] ["_law_deck_here"] (defScope S__law_great_right) := ⟨rfl, rfl, rfl, by decide +kernel, rfl, by decide +kernel, by decide +kernel⟩
abbrev S_law : Stmt := topS 38
theorem sc_law : FnScope ["_law_script", "_law_deck_here", "_law_turn"] ["_law_script"] (defScope S_law) := ⟨rfl, rfl, rfl, by decide +kernel, rfl, by decide +kernel, by decide +kernel⟩
/-- what stands around the defs -/
structure Ctx (T : Tb) (P : Program) (w : World) (K : PySem.W.Frag) (mg : Str → Option Value) (base : Heap) : Prop where
  f__law_deck : ∃ f fd, mg "_law_deck" = some (.ref f) ∧ Fun K "_law_deck" "_law_deck" S__law_deck f fd
  f_is_integer : ∃ f fd, mg "is_integer" = some (.ref f) ∧ Fun K "is_integer" "is_integer" S_is_integer f fd
  f_is_within : ∃ f fd, mg "is_within" = some (.ref f) ∧ Fun K "is_within" "is_within" S_is_within f fd
  f__law_pick : ∃ f fd, mg "_law_pick" = some (.ref f) ∧ Fun K "_law_pick" "_law_pick" S__law_pick f fd
  f__law_counts : ∃ f fd, mg "_law_counts" = some (.ref f) ∧ Fun K "_law_counts" "_law_counts" S__law_counts f fd
  f__law_spread : ∃ f fd, mg "_law_spread" = some (.ref f) ∧ Fun K "_law_spread" "_law_spread" S__law_spread f fd
  f__law_all_wishes : ∃ f fd, mg "_law_all_wishes" = some (.ref f) ∧ Fun K "_law_all_wishes" "_law_all_wishes" S__law_all_wishes f fd
  f_is_count_row : ∃ f fd, mg "is_count_row" = some (.ref f) ∧ Fun K "is_count_row" "is_count_row" S_is_count_row f fd
  f_check_counts : ∃ f fd, mg "check_counts" = some (.ref f) ∧ Fun K "check_counts" "check_counts" S_check_counts f fd
  f_is_floor : ∃ f fd, mg "is_floor" = some (.ref f) ∧ Fun K "is_floor" "is_floor" S_is_floor f fd
  f_check_floor : ∃ f fd, mg "check_floor" = some (.ref f) ∧ Fun K "check_floor" "check_floor" S_check_floor f fd
  f_pair_bounds : ∃ f fd, mg "pair_bounds" = some (.ref f) ∧ Fun K "pair_bounds" "pair_bounds" S_pair_bounds f fd
  f__law_many : ∃ f fd, mg "_law_many" = some (.ref f) ∧ Fun K "_law_many" "_law_many" S__law_many f fd
  f__law_few_right : ∃ f fd, mg "_law_few_right" = some (.ref f) ∧ Fun K "_law_few_right" "_law_few_right" S__law_few_right f fd
  f_raw_standing : ∃ f fd, mg "raw_standing" = some (.ref f) ∧ Fun K "raw_standing" "raw_standing" S_raw_standing f fd
  f_paired : ∃ f fd, mg "paired" = some (.ref f) ∧ Fun K "paired" "paired" S_paired f fd
  f_least_wishes : ∃ f fd, mg "least_wishes" = some (.ref f) ∧ Fun K "least_wishes" "least_wishes" S_least_wishes f fd
  f_most_wishes : ∃ f fd, mg "most_wishes" = some (.ref f) ∧ Fun K "most_wishes" "most_wishes" S_most_wishes f fd
  f__law_great_right : ∃ f fd, mg "_law_great_right" = some (.ref f) ∧ Fun K "_law_great_right" "_law_great_right" S__law_great_right f fd
  f_law : ∃ f fd, mg "law" = some (.ref f) ∧ Fun K "law" "law" S_law f fd
  c_House : ∃ C f fd, T.cls "House" = some C ∧ mg "House" = some (.ref C) ∧ Mk K C f ∧ Fun K "__init__" "House.__init__" S_House___init__ f fd
  c_RawStanding : ∃ C f fd, T.cls "RawStanding" = some C ∧ mg "RawStanding" = some (.ref C) ∧ Mk K C f ∧ Fun K "__init__" "RawStanding.__init__" S_RawStanding___init__ f fd
  n_all : mg "all" = none
  n_bool : mg "bool" = none
  n_enumerate : mg "enumerate" = none
  n_int : mg "int" = none
  n_isinstance : mg "isinstance" = none
  n_len : mg "len" = none
  n_list : mg "list" = none
  n_max : mg "max" = none
  n_min : mg "min" = none
  n_range : mg "range" = none
  n_sorted : mg "sorted" = none
  n_sum : mg "sum" = none
  n_tuple : mg "tuple" = none
  i_MOST_COUNT : ∃ t, mg "MOST_COUNT" = some (.int 1000000000000000000000000000000 t)
  i_MOST_FLOORS : ∃ t, mg "MOST_FLOORS" = some (.int 40 t)
  i_MOST_ROOM : ∃ t, mg "MOST_ROOM" = some (.int 1000000000000 t)
  a_floors : Att T K "floors"
  a_groups : Att T K "groups"
  a_house : Att T K "house"
  a_lift : Att T K "lift"
  a_room : Att T K "room"
section
variable {T : Tb} {P : Program} {w : World} {K : PySem.W.Frag} {mg : Str → Option Value} {base : Heap}
theorem ok__law_deck (C : Ctx T P w K mg base) : BodyOk T P w K mg base 0 ["_law_script", "_law_cell"] "_law_deck" S__law_deck none b__law_deck := by
  intro f cdv A outer s H E v hr
  have hu1 := L2.hu_of hr
  have hu16 := Nat.lt_of_le_of_lt (Nat.add_le_add_left (by decide : 16 ≤ 64) _) hr.units
  unfold b__law_deck
  exact (m_one (m_ret (m_lst (m_acons (m_frz (m_lc (own := [("_law_cell", 1)]) rfl sc__law_deck.nd (m_iany (m_sl (m_var (i := 0) rfl (by first | exact .inl rfl | exact .inr (.inl rfl) | exact .inr (.inr rfl))) .none (.some m_int))) (blkOk_by (by rfl)) (fun _ _ _ _ _ => (m_gnm (i := 1) sc__law_deck.nd rfl (by first | exact .inl rfl | exact .inr rfl) rfl)) (fun _ _ _ _ _ => m_tests0) (fun _ _ _ _ _ => (m_callTy call_int1 g_int (by rfl) C.n_int rfl (m_acons (m_var (i := 1) rfl (by first | exact .inl rfl | exact .inr (.inl rfl) | exact .inr (.inr rfl))) m_anil))) rfl rfl)) (m_acons m_int (m_acons m_int (m_acons m_int m_anil)))))))
theorem fn__law_deck (C : Ctx T P w K mg base) : FnM T P w K mg base 1 "_law_deck" 1 none M__law_deck := by
  obtain ⟨f, fd, hm, F⟩ := C.f__law_deck
  refine ⟨f, fd, ["_law_script"], hm, F.kp, F.binds (ps := ["_law_script"]) fun _ _ _ _ _ _ us hl => match us, hl with | [_], _ => rfl, def_ok F sc__law_deck (by intro i h; first | (cases h; done) | (cases h; decide)) (ok__law_deck C)⟩
theorem ok_is_integer (C : Ctx T P w K mg base) : BodyOk T P w K mg base 0 ["thing"] "is_integer" S_is_integer none b_is_integer := by
  intro f cdv A outer s H E v hr
  have hu1 := L2.hu_of hr
  have hu16 := Nat.lt_of_le_of_lt (Nat.add_le_add_left (by decide : 16 ≤ 64) _) hr.units
  unfold b_is_integer
  exact (m_one (m_ret (m_andV (m_callB call_isi g_isi (by rfl) C.n_isinstance rfl (m_acons (m_var (i := 0) rfl (by first | exact .inl rfl | exact .inr (.inl rfl) | exact .inr (.inr rfl))) (m_acons (m_ty (by rfl) C.n_int rfl) m_anil))) (m_oneV (m_notV (m_callB call_isi g_isi (by rfl) C.n_isinstance rfl (m_acons (m_var (i := 0) rfl (by first | exact .inl rfl | exact .inr (.inl rfl) | exact .inr (.inr rfl))) (m_acons (m_ty (by rfl) C.n_bool rfl) m_anil))))))))
theorem fn_is_integer (C : Ctx T P w K mg base) : FnM T P w K mg base 1 "is_integer" 1 none M_is_integer := by
  obtain ⟨f, fd, hm, F⟩ := C.f_is_integer
  refine ⟨f, fd, ["thing"], hm, F.kp, F.binds (ps := ["thing"]) fun _ _ _ _ _ _ us hl => match us, hl with | [_], _ => rfl, def_ok F sc_is_integer (by intro i h; first | (cases h; done) | (cases h; decide)) (ok_is_integer C)⟩
theorem ok_is_within (C : Ctx T P w K mg base) : BodyOk T P w K mg base 1 ["thing", "least", "most"] "is_within" S_is_within none b_is_within := by
  intro f cdv A outer s H E v hr
  have hu1 := L2.hu_of hr
  have hu16 := Nat.lt_of_le_of_lt (Nat.add_le_add_left (by decide : 16 ≤ 64) _) hr.units
  unfold b_is_within
  exact (m_one (m_ret (m_andV (m_call (fn_is_integer C) (hr.mono (by decide : 1 ≤ 1)) (by rfl) (L2.takes_of rfl rfl rfl rfl) (m_acons (m_frz (m_var (i := 0) rfl (by first | exact .inl rfl | exact .inr (.inl rfl) | exact .inr (.inr rfl)))) m_anil)) (m_oneV (m_chain op_le op_le g_cmp g_cmp (m_var (i := 1) rfl (by first | exact .inl rfl | exact .inr (.inl rfl) | exact .inr (.inr rfl))) (m_var (i := 0) rfl (by first | exact .inl rfl | exact .inr (.inl rfl) | exact .inr (.inr rfl))) (m_var (i := 2) rfl (by first | exact .inl rfl | exact .inr (.inl rfl) | exact .inr (.inr rfl))))))))
theorem fn_is_within (C : Ctx T P w K mg base) : FnM T P w K mg base 2 "is_within" 3 none M_is_within := by
  obtain ⟨f, fd, hm, F⟩ := C.f_is_within
  refine ⟨f, fd, ["thing", "least", "most"], hm, F.kp, F.binds (ps := ["thing", "least", "most"]) fun _ _ _ _ _ _ us hl => match us, hl with | [_, _, _], _ => rfl, def_ok F sc_is_within (by intro i h; first | (cases h; done) | (cases h; decide)) (ok_is_within C)⟩
theorem ok_House___init__ (C : Ctx T P w K mg base) : BodyOk T P w K mg base 2 ["self", "floors", "room"] "House.__init__" S_House___init__ (some 0) b_House___init__ := by
  intro f cdv A outer s H E v hr
  have hu1 := L2.hu_of hr
  have hu16 := Nat.lt_of_le_of_lt (Nat.add_le_add_left (by decide : 16 ≤ 64) _) hr.units
  unfold b_House___init__
  exact (m_cons (m_sif (m_tnot (m_tval (m_call (fn_is_within C) (hr.mono (by decide : 2 ≤ 2)) (by rfl) (L2.takes_of rfl rfl rfl rfl) (m_acons (m_frz (m_var (i := 1) rfl (by first | exact .inl rfl | exact .inr (.inl rfl) | exact .inr (.inr rfl)))) (m_acons m_int (m_acons (m_gint (by rfl) C.i_MOST_FLOORS) m_anil)))))) m_nevers m_nil)
    (m_cons (m_sif (m_tnot (m_tval (m_call (fn_is_within C) (hr.mono (by decide : 2 ≤ 2)) (by rfl) (L2.takes_of rfl rfl rfl rfl) (m_acons (m_frz (m_var (i := 2) rfl (by first | exact .inl rfl | exact .inr (.inl rfl) | exact .inr (.inr rfl)))) (m_acons m_int (m_acons (m_gint (by rfl) C.i_MOST_ROOM) m_anil)))))) m_nevers m_nil)
    (m_cons (m_fld (i := 0) C.a_floors rfl (by first | exact .inl rfl | exact .inr (.inl rfl) | exact .inr (.inr rfl)) rfl (m_frz (m_var (i := 1) rfl (by first | exact .inl rfl | exact .inr (.inl rfl) | exact .inr (.inr rfl)))))
    (m_one (m_fld (i := 0) C.a_room rfl (by first | exact .inl rfl | exact .inr (.inl rfl) | exact .inr (.inr rfl)) rfl (m_frz (m_var (i := 2) rfl (by first | exact .inl rfl | exact .inr (.inl rfl) | exact .inr (.inr rfl)))))))))
theorem mk_House (C : Ctx T P w K mg base) : MkM T P w K mg base 3 "House" 3 M_House___init__ := by
  obtain ⟨D, f, fd, hT, hm, hM, F⟩ := C.c_House
  refine ⟨D, f, fd, ["self", "floors", "room"], hT, hm, hM, F.binds (ps := ["self", "floors", "room"]) fun _ _ _ _ _ _ us hl => match us, hl with | [_, _, _], _ => rfl, def_ok F sc_House___init__ (by intro i h; first | (cases h; done) | (cases h; decide)) (ok_House___init__ C)⟩
theorem ok__law_pick (C : Ctx T P w K mg base) : BodyOk T P w K mg base 0 ["_law_deck_here", "_law_many_here", "_law_found", "_law_cells", "_law_cell", "_law_mixed"] "_law_pick" S__law_pick (some 0) b__law_pick := by
  intro f cdv A outer s H E v hr
  have hu1 := L2.hu_of hr
  have hu16 := Nat.lt_of_le_of_lt (Nat.add_le_add_left (by decide : 16 ≤ 64) _) hr.units
  unfold b__law_pick
  exact (m_cons (m_sub hu1 (pl_sl (i := 0) rfl (by first | exact .inl rfl | exact .inr (.inl rfl) | exact .inr (.inr rfl))) m_int (m_bin op_addM g_add (m_ix (ix_M hu1) g_ix (m_var (i := 0) rfl (by first | exact .inl rfl | exact .inr (.inl rfl) | exact .inr (.inr rfl))) m_int (fun _ _ => rfl)) m_int))
    (m_cons (m_sif (m_tcmp op_gt g_cmp (m_ix (ix_M hu1) g_ix (m_var (i := 0) rfl (by first | exact .inl rfl | exact .inr (.inl rfl) | exact .inr (.inr rfl))) m_int (fun _ _ => rfl)) m_int) (m_cons (m_set (i := 2) sc__law_pick.nd rfl (by first | exact .inl rfl | exact .inr rfl) rfl (m_bin op_mod g_mod (m_callTy call_int1 g_int (by rfl) C.n_int rfl (m_acons (m_ix (ix_M hu1) g_ix (m_var (i := 0) rfl (by first | exact .inl rfl | exact .inr (.inl rfl) | exact .inr (.inr rfl))) m_int (fun _ _ => rfl)) m_anil)) (m_var (i := 1) rfl (by first | exact .inl rfl | exact .inr (.inl rfl) | exact .inr (.inr rfl)))))
    (m_cons (m_sub hu1 (pl_sl (i := 0) rfl (by first | exact .inl rfl | exact .inr (.inl rfl) | exact .inr (.inr rfl))) m_int (m_bin op_fdivW g_div (m_callTy call_int1 g_int (by rfl) C.n_int rfl (m_acons (m_ix (ix_M hu1) g_ix (m_var (i := 0) rfl (by first | exact .inl rfl | exact .inr (.inl rfl) | exact .inr (.inr rfl))) m_int (fun _ _ => rfl)) m_anil)) (m_var (i := 1) rfl (by first | exact .inl rfl | exact .inr (.inl rfl) | exact .inr (.inr rfl)))))
    (m_one (m_ret (m_var (i := 2) rfl (by first | exact .inl rfl | exact .inr (.inl rfl) | exact .inr (.inr rfl))))))) m_nil)
    (m_cons (m_set (i := 3) sc__law_pick.nd rfl (by first | exact .inl rfl | exact .inr rfl) rfl (m_ix (ix_M hu1) g_ix (m_var (i := 0) rfl (by first | exact .inl rfl | exact .inr (.inl rfl) | exact .inr (.inr rfl))) m_int (fun _ _ => rfl)))
    (m_cons (m_set (i := 4) sc__law_pick.nd rfl (by first | exact .inl rfl | exact .inr rfl) rfl m_int)
    (m_cons (m_sif (m_tcmp op_gt g_cmp (m_callB call_lenM g_len (by rfl) C.n_len rfl (m_acons (m_var (i := 3) rfl (by first | exact .inl rfl | exact .inr (.inl rfl) | exact .inr (.inr rfl))) m_anil)) m_int) (m_one (m_set (i := 4) sc__law_pick.nd rfl (by first | exact .inl rfl | exact .inr rfl) rfl (m_ix (ix_M hu1) g_ix (m_var (i := 3) rfl (by first | exact .inl rfl | exact .inr (.inl rfl) | exact .inr (.inr rfl))) (m_bin op_mod g_mod (m_callTy call_int1 g_int (by rfl) C.n_int rfl (m_acons (m_ix (ix_M hu1) g_ix (m_var (i := 0) rfl (by first | exact .inl rfl | exact .inr (.inl rfl) | exact .inr (.inr rfl))) m_int (fun _ _ => rfl)) m_anil)) (m_callB call_lenM g_len (by rfl) C.n_len rfl (m_acons (m_var (i := 3) rfl (by first | exact .inl rfl | exact .inr (.inl rfl) | exact .inr (.inr rfl))) m_anil))) (fun _ _ => rfl)))) m_nil)
    (m_cons (m_sub hu1 (pl_sl (i := 0) rfl (by first | exact .inl rfl | exact .inr (.inl rfl) | exact .inr (.inr rfl))) m_int (m_bin op_addM g_add (m_ix (ix_M hu1) g_ix (m_var (i := 0) rfl (by first | exact .inl rfl | exact .inr (.inl rfl) | exact .inr (.inr rfl))) m_int (fun _ _ => rfl)) m_int))
    (m_cons (m_sif ((m_and (m_tcmp op_ge g_cmp (m_var (i := 4) rfl (by first | exact .inl rfl | exact .inr (.inl rfl) | exact .inr (.inr rfl))) (m_bin op_pow g_pow m_int m_int)) (m_and1 (m_tcmp op_le g_cmp (m_ix (ix_M hu1) g_ix (m_var (i := 0) rfl (by first | exact .inl rfl | exact .inr (.inl rfl) | exact .inr (.inr rfl))) m_int (fun _ _ => rfl)) (m_callB call_lenM g_len (by rfl) C.n_len rfl (m_acons (m_var (i := 3) rfl (by first | exact .inl rfl | exact .inr (.inl rfl) | exact .inr (.inr rfl))) m_anil)))))).pt (m_cons (m_sub hu1 (pl_sl (i := 0) rfl (by first | exact .inl rfl | exact .inr (.inl rfl) | exact .inr (.inr rfl))) m_int (m_bin op_fdivW g_div (m_callTy call_int1 g_int (by rfl) C.n_int rfl (m_acons (m_var (i := 4) rfl (by first | exact .inl rfl | exact .inr (.inl rfl) | exact .inr (.inr rfl))) m_anil)) (m_var (i := 1) rfl (by first | exact .inl rfl | exact .inr (.inl rfl) | exact .inr (.inr rfl)))))
    (m_one (m_ret (m_bin op_mod g_mod (m_callTy call_int1 g_int (by rfl) C.n_int rfl (m_acons (m_var (i := 4) rfl (by first | exact .inl rfl | exact .inr (.inl rfl) | exact .inr (.inr rfl))) m_anil)) (m_var (i := 1) rfl (by first | exact .inl rfl | exact .inr (.inl rfl) | exact .inr (.inr rfl))))))) m_nil)
    (m_cons (m_set (i := 5) sc__law_pick.nd rfl (by first | exact .inl rfl | exact .inr rfl) rfl (m_bin op_mod g_mod (m_bin op_mulM g_mul (m_callTy call_int1 g_int (by rfl) C.n_int rfl (m_acons (m_bin op_addM g_add (m_bin op_addM g_add (m_var (i := 4) rfl (by first | exact .inl rfl | exact .inr (.inl rfl) | exact .inr (.inr rfl))) (m_bin op_mulM g_mul m_int (m_ix (ix_M hu1) g_ix (m_var (i := 0) rfl (by first | exact .inl rfl | exact .inr (.inl rfl) | exact .inr (.inr rfl))) m_int (fun _ _ => rfl)))) m_int) m_anil)) m_int) m_int))
    (m_cons (m_set (i := 5) sc__law_pick.nd rfl (by first | exact .inl rfl | exact .inr rfl) rfl (m_bin op_mod g_mod (m_bin op_mulM g_mul (m_var (i := 5) rfl (by first | exact .inl rfl | exact .inr (.inl rfl) | exact .inr (.inr rfl))) (m_bin op_addM g_add (m_bin op_fdivW g_div (m_var (i := 5) rfl (by first | exact .inl rfl | exact .inr (.inl rfl) | exact .inr (.inr rfl))) m_int) m_int)) m_int))
    (m_cons (m_set (i := 5) sc__law_pick.nd rfl (by first | exact .inl rfl | exact .inr rfl) rfl (m_bin op_mod g_mod (m_bin op_mulM g_mul (m_var (i := 5) rfl (by first | exact .inl rfl | exact .inr (.inl rfl) | exact .inr (.inr rfl))) (m_bin op_addM g_add (m_bin op_fdivW g_div (m_var (i := 5) rfl (by first | exact .inl rfl | exact .inr (.inl rfl) | exact .inr (.inr rfl))) m_int) m_int)) m_int))
    (m_one (m_ret (m_bin op_mod g_mod (m_var (i := 5) rfl (by first | exact .inl rfl | exact .inr (.inl rfl) | exact .inr (.inr rfl))) (m_var (i := 1) rfl (by first | exact .inl rfl | exact .inr (.inl rfl) | exact .inr (.inr rfl))))))))))))))))
theorem fn__law_pick (C : Ctx T P w K mg base) : FnM T P w K mg base 1 "_law_pick" 2 (some 0) M__law_pick := by
  obtain ⟨f, fd, hm, F⟩ := C.f__law_pick
  refine ⟨f, fd, ["_law_deck_here", "_law_many_here"], hm, F.kp, F.binds (ps := ["_law_deck_here", "_law_many_here"]) fun _ _ _ _ _ _ us hl => match us, hl with | [_, _], _ => rfl, def_ok F sc__law_pick (by intro i h; first | (cases h; done) | (cases h; decide)) (ok__law_pick C)⟩
theorem ok__law_counts (C : Ctx T P w K mg base) : BodyOk T P w K mg base 1 ["_law_deck_here", "_law_floors", "_law_size", "_law_total", "_law_stands", "_law_wants", "_law_row", "_law_left", "_law_turn", "_law_part", "_law_floor"] "_law_counts" S__law_counts (some 0) b__law_counts := by
  intro f cdv A outer s H E v hr
  have hu1 := L2.hu_of hr
  have hu16 := Nat.lt_of_le_of_lt (Nat.add_le_add_left (by decide : 16 ≤ 64) _) hr.units
  unfold b__law_counts
  exact (m_cons (m_set (i := 3) sc__law_counts.nd rfl (by first | exact .inl rfl | exact .inr rfl) rfl (m_bin op_mulM g_mul (m_call (fn__law_pick C) (hr.mono (by decide : 1 ≤ 1)) (by rfl) (L2.takes_of rfl rfl rfl rfl) (m_acons (m_var (i := 0) rfl (by first | exact .inl rfl | exact .inr (.inl rfl) | exact .inr (.inr rfl))) (m_acons (m_bin op_addM g_add (m_callB (call_min2 rfl) g_min2 (by rfl) C.n_min rfl (m_acons (m_var (i := 2) rfl (by first | exact .inl rfl | exact .inr (.inl rfl) | exact .inr (.inr rfl))) (m_acons (m_bin op_pow g_pow m_int m_int) m_anil))) m_int) m_anil))) (m_bin op_addM g_add m_int (m_bin op_fdivW g_div (m_bin op_sub g_sub (m_var (i := 2) rfl (by first | exact .inl rfl | exact .inr (.inl rfl) | exact .inr (.inr rfl))) m_int) (m_bin op_pow g_pow m_int m_int)))))
    (m_cons (m_set (i := 4) sc__law_counts.nd rfl (by first | exact .inl rfl | exact .inr rfl) rfl (m_bin op_mulM g_mul (m_lst (m_acons m_int m_anil)) (m_var (i := 1) rfl (by first | exact .inl rfl | exact .inr (.inl rfl) | exact .inr (.inr rfl)))))
    (m_cons (m_set (i := 5) sc__law_counts.nd rfl (by first | exact .inl rfl | exact .inr rfl) rfl (m_bin op_mulM g_mul (m_lst (m_acons m_int m_anil)) (m_var (i := 1) rfl (by first | exact .inl rfl | exact .inr (.inl rfl) | exact .inr (.inr rfl)))))
    (m_cons (m_alias2 (ia := 4) (ib := 5) (ir := 6) (L2.passes_of rfl) rfl sc__law_counts.nd rfl rfl rfl (by first | exact .inl rfl | exact .inr (.inl rfl) | exact .inr (.inr rfl)) (by first | exact .inl rfl | exact .inr (.inl rfl) | exact .inr (.inr rfl)) (by first | exact .inl rfl | exact .inr rfl) rfl (by decide) (fun _ _ _ => (m_cons (m_set (i := 7) sc__law_counts.nd rfl (by first | exact .inl rfl | exact .inr rfl) rfl (m_frz (m_var (i := 3) rfl (by first | exact .inl rfl | exact .inr (.inl rfl) | exact .inr (.inr rfl)))))
    (m_cons (m_for (L2.passes_of rfl) rfl (m_irange1 (by rfl) C.n_range (m_acons (m_call (fn__law_pick C) (hr.mono (by decide : 1 ≤ 1)) (by rfl) (L2.takes_of rfl rfl rfl rfl) (m_acons (m_var (i := 0) rfl (by first | exact .inl rfl | exact .inr (.inl rfl) | exact .inr (.inr rfl))) (m_acons m_int m_anil))) m_anil)) (m_gnm (i := 8) sc__law_counts.nd rfl (by first | exact .inl rfl | exact .inr rfl) rfl) (m_cons (m_set (i := 9) sc__law_counts.nd rfl (by first | exact .inl rfl | exact .inr rfl) rfl (m_bin op_fdivW g_div (m_bin op_mulM g_mul (m_var (i := 7) rfl (by first | exact .inl rfl | exact .inr (.inl rfl) | exact .inr (.inr rfl))) (m_call (fn__law_pick C) (hr.mono (by decide : 1 ≤ 1)) (by rfl) (L2.takes_of rfl rfl rfl rfl) (m_acons (m_var (i := 0) rfl (by first | exact .inl rfl | exact .inr (.inl rfl) | exact .inr (.inr rfl))) (m_acons m_int m_anil)))) m_int))
    (m_cons (m_set (i := 10) sc__law_counts.nd rfl (by first | exact .inl rfl | exact .inr rfl) rfl (m_call (fn__law_pick C) (hr.mono (by decide : 1 ≤ 1)) (by rfl) (L2.takes_of rfl rfl rfl rfl) (m_acons (m_var (i := 0) rfl (by first | exact .inl rfl | exact .inr (.inl rfl) | exact .inr (.inr rfl))) (m_acons (m_frz (m_var (i := 1) rfl (by first | exact .inl rfl | exact .inr (.inl rfl) | exact .inr (.inr rfl)))) m_anil))))
    (m_cons (m_sub hu1 (pl_sl (i := 6) rfl (by first | exact .inl rfl | exact .inr (.inl rfl) | exact .inr (.inr rfl))) (m_frz (m_var (i := 10) rfl (by first | exact .inl rfl | exact .inr (.inl rfl) | exact .inr (.inr rfl)))) (m_bin op_addM g_add (m_ix (ix_M hu1) g_ix (m_var (i := 6) rfl (by first | exact .inl rfl | exact .inr (.inl rfl) | exact .inr (.inr rfl))) (m_var (i := 10) rfl (by first | exact .inl rfl | exact .inr (.inl rfl) | exact .inr (.inr rfl))) (fun _ _ => rfl)) (m_var (i := 9) rfl (by first | exact .inl rfl | exact .inr (.inl rfl) | exact .inr (.inr rfl)))))
    (m_one (m_set (i := 7) sc__law_counts.nd rfl (by first | exact .inl rfl | exact .inr rfl) rfl (m_bin op_sub g_sub (m_var (i := 7) rfl (by first | exact .inl rfl | exact .inr (.inl rfl) | exact .inr (.inr rfl))) (m_var (i := 9) rfl (by first | exact .inl rfl | exact .inr (.inl rfl) | exact .inr (.inr rfl))))))))))
    (m_cons (m_set (i := 10) sc__law_counts.nd rfl (by first | exact .inl rfl | exact .inr rfl) rfl (m_call (fn__law_pick C) (hr.mono (by decide : 1 ≤ 1)) (by rfl) (L2.takes_of rfl rfl rfl rfl) (m_acons (m_var (i := 0) rfl (by first | exact .inl rfl | exact .inr (.inl rfl) | exact .inr (.inr rfl))) (m_acons (m_frz (m_var (i := 1) rfl (by first | exact .inl rfl | exact .inr (.inl rfl) | exact .inr (.inr rfl)))) m_anil))))
    (m_one (m_sub hu1 (pl_sl (i := 6) rfl (by first | exact .inl rfl | exact .inr (.inl rfl) | exact .inr (.inr rfl))) (m_frz (m_var (i := 10) rfl (by first | exact .inl rfl | exact .inr (.inl rfl) | exact .inr (.inr rfl)))) (m_bin op_addM g_add (m_ix (ix_M hu1) g_ix (m_var (i := 6) rfl (by first | exact .inl rfl | exact .inr (.inl rfl) | exact .inr (.inr rfl))) (m_var (i := 10) rfl (by first | exact .inl rfl | exact .inr (.inl rfl) | exact .inr (.inr rfl))) (fun _ _ => rfl)) (m_var (i := 7) rfl (by first | exact .inl rfl | exact .inr (.inl rfl) | exact .inr (.inr rfl)))))))))))
    (m_one (m_ret (m_lst (m_acons (m_callTy call_tuple_of g_tuple (by rfl) C.n_tuple rfl (m_acons (m_var (i := 4) rfl (by first | exact .inl rfl | exact .inr (.inl rfl) | exact .inr (.inr rfl))) m_anil)) (m_acons (m_callTy call_tuple_of g_tuple (by rfl) C.n_tuple rfl (m_acons (m_var (i := 5) rfl (by first | exact .inl rfl | exact .inr (.inl rfl) | exact .inr (.inr rfl))) m_anil)) m_anil)))))))))
theorem fn__law_counts (C : Ctx T P w K mg base) : FnM T P w K mg base 2 "_law_counts" 3 (some 0) M__law_counts := by
  obtain ⟨f, fd, hm, F⟩ := C.f__law_counts
  refine ⟨f, fd, ["_law_deck_here", "_law_floors", "_law_size"], hm, F.kp, F.binds (ps := ["_law_deck_here", "_law_floors", "_law_size"]) fun _ _ _ _ _ _ us hl => match us, hl with | [_, _, _], _ => rfl, def_ok F sc__law_counts (by intro i h; first | (cases h; done) | (cases h; decide)) (ok__law_counts C)⟩
theorem ok__law_spread (C : Ctx T P w K mg base) : BodyOk T P w K mg base 0 ["_law_many_here", "_law_most", "_law_found", "_law_at", "_law_longer", "_law_last", "_law_row", "_law_left", "_law_parts", "_law_part"] "_law_spread" S__law_spread none b__law_spread := by
  intro f cdv A outer s H E v hr
  have hu1 := L2.hu_of hr
  have hu16 := Nat.lt_of_le_of_lt (Nat.add_le_add_left (by decide : 16 ≤ 64) _) hr.units
  unfold b__law_spread
  exact (m_cons (m_set (i := 2) sc__law_spread.nd rfl (by first | exact .inl rfl | exact .inr rfl) rfl (m_lst (m_acons (m_tup m_anil) m_anil)))
    (m_cons (m_for (L2.passes_of rfl) rfl (m_irange1 (by rfl) C.n_range (m_acons (m_callB call_lenM g_len (by rfl) C.n_len rfl (m_acons (m_var (i := 1) rfl (by first | exact .inl rfl | exact .inr (.inl rfl) | exact .inr (.inr rfl))) m_anil)) m_anil)) (m_gnm (i := 3) sc__law_spread.nd rfl (by first | exact .inl rfl | exact .inr rfl) rfl) (m_cons (m_set (i := 4) sc__law_spread.nd rfl (by first | exact .inl rfl | exact .inr rfl) rfl (m_lst m_anil))
    (m_cons (m_set (i := 5) sc__law_spread.nd rfl (by first | exact .inl rfl | exact .inr rfl) rfl (m_cmp (op_eqD hr.units) g_eq (m_var (i := 3) rfl (by first | exact .inl rfl | exact .inr (.inl rfl) | exact .inr (.inr rfl))) (m_bin op_sub g_sub (m_callB call_lenM g_len (by rfl) C.n_len rfl (m_acons (m_var (i := 1) rfl (by first | exact .inl rfl | exact .inr (.inl rfl) | exact .inr (.inr rfl))) m_anil)) m_int)))
    (m_cons (m_for (L2.passes_of rfl) rfl (m_iany (m_var (i := 2) rfl (by first | exact .inl rfl | exact .inr (.inl rfl) | exact .inr (.inr rfl)))) (m_gnm (i := 6) sc__law_spread.nd rfl (by first | exact .inl rfl | exact .inr rfl) rfl) (m_cons (m_set (i := 7) sc__law_spread.nd rfl (by first | exact .inl rfl | exact .inr rfl) rfl (m_bin op_sub g_sub (m_var (i := 0) rfl (by first | exact .inl rfl | exact .inr (.inl rfl) | exact .inr (.inr rfl))) (m_callB (cr_sumA rfl) g_sum (by rfl) C.n_sum rfl (m_acons (m_var (i := 6) rfl (by first | exact .inl rfl | exact .inr (.inl rfl) | exact .inr (.inr rfl))) m_anil))))
    (m_cons (m_set (i := 8) sc__law_spread.nd rfl (by first | exact .inl rfl | exact .inr rfl) rfl (m_lstRg1 rfl (by rfl) C.n_list (by rfl) C.n_range (m_bin op_addM g_add (m_callB (call_min2 rfl) g_min2 (by rfl) C.n_min rfl (m_acons (m_var (i := 7) rfl (by first | exact .inl rfl | exact .inr (.inl rfl) | exact .inr (.inr rfl))) (m_acons (m_ix (ix_M hu1) g_ix (m_var (i := 1) rfl (by first | exact .inl rfl | exact .inr (.inl rfl) | exact .inr (.inr rfl))) (m_var (i := 3) rfl (by first | exact .inl rfl | exact .inr (.inl rfl) | exact .inr (.inr rfl))) (fun _ _ => rfl)) m_anil))) m_int)))
    (m_cons (m_sif (m_tval (m_var (i := 5) rfl (by first | exact .inl rfl | exact .inr (.inl rfl) | exact .inr (.inr rfl)))) (m_one (m_setLc (i := 8) (own := [("_law_part", 9)]) rfl sc__law_spread.nd rfl rfl (sw_true rfl rfl rfl (by rfl)) rfl (m_iany (m_var (i := 8) rfl (by first | exact .inl rfl | exact .inr (.inl rfl) | exact .inr (.inr rfl)))) (blkOk_by (by rfl)) (fun _ _ _ _ _ => (m_gnm (i := 9) sc__law_spread.nd rfl (by first | exact .inl rfl | exact .inr rfl) rfl)) (fun _ _ _ _ _ => (m_tests1 (m_tcmp (op_eqD hr.units) g_eq (m_var (i := 9) rfl (by first | exact .inl rfl | exact .inr (.inl rfl) | exact .inr (.inr rfl))) (m_var (i := 7) rfl (by first | exact .inl rfl | exact .inr (.inl rfl) | exact .inr (.inr rfl)))))) (fun _ _ _ _ _ => (m_var (i := 9) rfl (by first | exact .inl rfl | exact .inr (.inl rfl) | exact .inr (.inr rfl)))) rfl rfl)) m_nil)
    (m_one (m_ext (pl_sl (i := 4) rfl (by first | exact .inl rfl | exact .inr (.inl rfl) | exact .inr (.inr rfl))) (m_lc (own := [("_law_part", 9)]) rfl sc__law_spread.nd (m_iany (m_var (i := 8) rfl (by first | exact .inl rfl | exact .inr (.inl rfl) | exact .inr (.inr rfl)))) (blkOk_by (by rfl)) (fun _ _ _ _ _ => (m_gnm (i := 9) sc__law_spread.nd rfl (by first | exact .inl rfl | exact .inr rfl) rfl)) (fun _ _ _ _ _ => m_tests0) (fun _ _ _ _ _ => (m_bin op_addM g_add (m_var (i := 6) rfl (by first | exact .inl rfl | exact .inr (.inl rfl) | exact .inr (.inr rfl))) (m_tup (m_acons (m_frz (m_var (i := 9) rfl (by first | exact .inl rfl | exact .inr (.inl rfl) | exact .inr (.inr rfl)))) m_anil)))) rfl rfl)))))))
    (m_one (m_set (i := 2) sc__law_spread.nd rfl (by first | exact .inl rfl | exact .inr rfl) rfl (m_frz (m_var (i := 4) rfl (by first | exact .inl rfl | exact .inr (.inl rfl) | exact .inr (.inr rfl))))))))))
    (m_one (m_ret (m_var (i := 2) rfl (by first | exact .inl rfl | exact .inr (.inl rfl) | exact .inr (.inr rfl)))))))
theorem fn__law_spread (C : Ctx T P w K mg base) : FnM T P w K mg base 1 "_law_spread" 2 none M__law_spread := by
  obtain ⟨f, fd, hm, F⟩ := C.f__law_spread
  refine ⟨f, fd, ["_law_many_here", "_law_most"], hm, F.kp, F.binds (ps := ["_law_many_here", "_law_most"]) fun _ _ _ _ _ _ us hl => match us, hl with | [_, _], _ => rfl, def_ok F sc__law_spread (by intro i h; first | (cases h; done) | (cases h; decide)) (ok__law_spread C)⟩
theorem ok__law_all_wishes (C : Ctx T P w K mg base) : BodyOk T P w K mg base 1 ["_law_stands", "_law_wants", "_law_found", "_law_floor", "_law_longer", "_law_groups", "_law_left", "_law_row", "_law_more", "_law_want"] "_law_all_wishes" S__law_all_wishes none b__law_all_wishes := by
  intro f cdv A outer s H E v hr
  have hu1 := L2.hu_of hr
  have hu16 := Nat.lt_of_le_of_lt (Nat.add_le_add_left (by decide : 16 ≤ 64) _) hr.units
  unfold b__law_all_wishes
  exact (m_cons (m_set (i := 2) sc__law_all_wishes.nd rfl (by first | exact .inl rfl | exact .inr rfl) rfl (m_lst (m_acons (m_frz (m_lst (m_acons (m_tup m_anil) (m_acons (m_callTy call_tuple_of g_tuple (by rfl) C.n_tuple rfl (m_acons (m_var (i := 1) rfl (by first | exact .inl rfl | exact .inr (.inl rfl) | exact .inr (.inr rfl))) m_anil)) m_anil)))) m_anil)))
    (m_cons (m_for (L2.passes_of rfl) rfl (m_irange1 (by rfl) C.n_range (m_acons (m_callB call_lenM g_len (by rfl) C.n_len rfl (m_acons (m_var (i := 0) rfl (by first | exact .inl rfl | exact .inr (.inl rfl) | exact .inr (.inr rfl))) m_anil)) m_anil)) (m_gnm (i := 3) sc__law_all_wishes.nd rfl (by first | exact .inl rfl | exact .inr rfl) rfl) (m_cons (m_set (i := 4) sc__law_all_wishes.nd rfl (by first | exact .inl rfl | exact .inr rfl) rfl (m_lst m_anil))
    (m_cons (m_for (L2.passes_of rfl) rfl (m_iany (m_var (i := 2) rfl (by first | exact .inl rfl | exact .inr (.inl rfl) | exact .inr (.inr rfl)))) (m_gtp rfl (m_gcons (m_gnm (i := 5) sc__law_all_wishes.nd rfl (by first | exact .inl rfl | exact .inr rfl) rfl) (m_gcons (m_gnm (i := 6) sc__law_all_wishes.nd rfl (by first | exact .inl rfl | exact .inr rfl) rfl) m_gnil))) (m_one (m_for (L2.passes_of rfl) rfl (m_iany (m_call (fn__law_spread C) (hr.mono (by decide : 1 ≤ 1)) (by rfl) (L2.takes_of rfl rfl rfl rfl) (m_acons (m_ix (ix_M hu1) g_ix (m_var (i := 0) rfl (by first | exact .inl rfl | exact .inr (.inl rfl) | exact .inr (.inr rfl))) (m_var (i := 3) rfl (by first | exact .inl rfl | exact .inr (.inl rfl) | exact .inr (.inr rfl))) (fun _ _ => rfl)) (m_acons (m_frz (m_var (i := 6) rfl (by first | exact .inl rfl | exact .inr (.inl rfl) | exact .inr (.inr rfl)))) m_anil)))) (m_gnm (i := 7) sc__law_all_wishes.nd rfl (by first | exact .inl rfl | exact .inr rfl) rfl) (m_cons (m_set (i := 8) sc__law_all_wishes.nd rfl (by first | exact .inl rfl | exact .inr rfl) rfl (m_callTy call_tuple_of g_tuple (by rfl) C.n_tuple rfl (m_acons (m_lc (own := [("_law_want", 9)]) rfl sc__law_all_wishes.nd (m_irange1 (by rfl) C.n_range (m_acons (m_callB call_lenM g_len (by rfl) C.n_len rfl (m_acons (m_var (i := 7) rfl (by first | exact .inl rfl | exact .inr (.inl rfl) | exact .inr (.inr rfl))) m_anil)) m_anil)) (blkOk_by (by rfl)) (fun _ _ _ _ _ => (m_gnm (i := 9) sc__law_all_wishes.nd rfl (by first | exact .inl rfl | exact .inr rfl) rfl)) (fun _ _ _ _ _ => (m_tests1 (m_tcmp op_gt g_cmp (m_ix (ix_M hu1) g_ix (m_var (i := 7) rfl (by first | exact .inl rfl | exact .inr (.inl rfl) | exact .inr (.inr rfl))) (m_var (i := 9) rfl (by first | exact .inl rfl | exact .inr (.inl rfl) | exact .inr (.inr rfl))) (fun _ _ => rfl)) m_int))) (fun _ _ _ _ _ => (m_tup (m_acons (m_frz (m_var (i := 3) rfl (by first | exact .inl rfl | exact .inr (.inl rfl) | exact .inr (.inr rfl)))) (m_acons (m_frz (m_var (i := 9) rfl (by first | exact .inl rfl | exact .inr (.inl rfl) | exact .inr (.inr rfl)))) (m_acons (m_ix (ix_M hu1) g_ix (m_var (i := 7) rfl (by first | exact .inl rfl | exact .inr (.inl rfl) | exact .inr (.inr rfl))) (m_var (i := 9) rfl (by first | exact .inl rfl | exact .inr (.inl rfl) | exact .inr (.inr rfl))) (fun _ _ => rfl)) m_anil))))) rfl rfl) m_anil)))
    (m_one (m_app (pl_sl (i := 4) rfl (by first | exact .inl rfl | exact .inr (.inl rfl) | exact .inr (.inr rfl))) (m_frz (m_lst (m_acons (m_bin op_addM g_add (m_var (i := 5) rfl (by first | exact .inl rfl | exact .inr (.inl rfl) | exact .inr (.inr rfl))) (m_var (i := 8) rfl (by first | exact .inl rfl | exact .inr (.inl rfl) | exact .inr (.inr rfl)))) (m_acons (m_callTy call_tuple_of g_tuple (by rfl) C.n_tuple rfl (m_acons (m_lc (own := [("_law_want", 9)]) rfl sc__law_all_wishes.nd (m_irange1 (by rfl) C.n_range (m_acons (m_callB call_lenM g_len (by rfl) C.n_len rfl (m_acons (m_var (i := 7) rfl (by first | exact .inl rfl | exact .inr (.inl rfl) | exact .inr (.inr rfl))) m_anil)) m_anil)) (blkOk_by (by rfl)) (fun _ _ _ _ _ => (m_gnm (i := 9) sc__law_all_wishes.nd rfl (by first | exact .inl rfl | exact .inr rfl) rfl)) (fun _ _ _ _ _ => m_tests0) (fun _ _ _ _ _ => (m_bin op_sub g_sub (m_ix (ix_M hu1) g_ix (m_var (i := 6) rfl (by first | exact .inl rfl | exact .inr (.inl rfl) | exact .inr (.inr rfl))) (m_var (i := 9) rfl (by first | exact .inl rfl | exact .inr (.inl rfl) | exact .inr (.inr rfl))) (fun _ _ => rfl)) (m_ix (ix_M hu1) g_ix (m_var (i := 7) rfl (by first | exact .inl rfl | exact .inr (.inl rfl) | exact .inr (.inr rfl))) (m_var (i := 9) rfl (by first | exact .inl rfl | exact .inr (.inl rfl) | exact .inr (.inr rfl))) (fun _ _ => rfl)))) rfl rfl) m_anil)) m_anil))))))))))
    (m_one (m_set (i := 2) sc__law_all_wishes.nd rfl (by first | exact .inl rfl | exact .inr rfl) rfl (m_frz (m_var (i := 4) rfl (by first | exact .inl rfl | exact .inr (.inl rfl) | exact .inr (.inr rfl)))))))))
    (m_one (m_ret (m_callB (cr_sortedM hu16) g_sorted (by rfl) C.n_sorted rfl (m_acons (m_lc (own := [("_law_groups", 5), ("_law_left", 6)]) rfl sc__law_all_wishes.nd (m_iany (m_var (i := 2) rfl (by first | exact .inl rfl | exact .inr (.inl rfl) | exact .inr (.inr rfl)))) (blkOk_by (by rfl)) (fun _ _ _ _ _ => (m_gtp rfl (m_gcons (m_gnm (i := 5) sc__law_all_wishes.nd rfl (by first | exact .inl rfl | exact .inr rfl) rfl) (m_gcons (m_gnm (i := 6) sc__law_all_wishes.nd rfl (by first | exact .inl rfl | exact .inr rfl) rfl) m_gnil)))) (fun _ _ _ _ _ => m_tests0) (fun _ _ _ _ _ => (m_var (i := 5) rfl (by first | exact .inl rfl | exact .inr (.inl rfl) | exact .inr (.inr rfl)))) rfl rfl) m_anil))))))
theorem fn__law_all_wishes (C : Ctx T P w K mg base) : FnM T P w K mg base 2 "_law_all_wishes" 2 none M__law_all_wishes := by
  obtain ⟨f, fd, hm, F⟩ := C.f__law_all_wishes
  refine ⟨f, fd, ["_law_stands", "_law_wants"], hm, F.kp, F.binds (ps := ["_law_stands", "_law_wants"]) fun _ _ _ _ _ _ us hl => match us, hl with | [_, _], _ => rfl, def_ok F sc__law_all_wishes (by intro i h; first | (cases h; done) | (cases h; decide)) (ok__law_all_wishes C)⟩
theorem ok_is_count_row (C : Ctx T P w K mg base) : BodyOk T P w K mg base 2 ["house", "thing", "item"] "is_count_row" S_is_count_row none b_is_count_row := by
  intro f cdv A outer s H E v hr
  have hu1 := L2.hu_of hr
  have hu16 := Nat.lt_of_le_of_lt (Nat.add_le_add_left (by decide : 16 ≤ 64) _) hr.units
  unfold b_is_count_row
  exact (m_cons (m_sif ((m_or (m_tnot (m_tval (m_callB call_isi g_isi (by rfl) C.n_isinstance rfl (m_acons (m_var (i := 1) rfl (by first | exact .inl rfl | exact .inr (.inl rfl) | exact .inr (.inr rfl))) (m_acons (m_ty (by rfl) C.n_tuple rfl) m_anil))))) (m_or1 (m_tcmp (op_neD hr.units) g_ne (m_callB call_lenM g_len (by rfl) C.n_len rfl (m_acons (m_var (i := 1) rfl (by first | exact .inl rfl | exact .inr (.inl rfl) | exact .inr (.inr rfl))) m_anil)) (m_attr C.a_floors (m_var (i := 0) rfl (by first | exact .inl rfl | exact .inr (.inl rfl) | exact .inr (.inr rfl)))))))).pt (m_one (m_ret m_bl)) m_nil)
    (m_one (m_ret (m_callB (cr_all rfl) g_all (by rfl) C.n_all rfl (m_acons (m_lc (own := [("item", 2)]) rfl sc_is_count_row.nd (m_iany (m_var (i := 1) rfl (by first | exact .inl rfl | exact .inr (.inl rfl) | exact .inr (.inr rfl)))) (blkOk_by (by rfl)) (fun _ _ _ _ _ => (m_gnm (i := 2) sc_is_count_row.nd rfl (by first | exact .inl rfl | exact .inr rfl) rfl)) (fun _ _ _ _ _ => m_tests0) (fun _ _ _ _ _ => (m_call (fn_is_within C) (hr.mono (by decide : 2 ≤ 2)) (by rfl) L2.takes0 (m_acons (m_frz (m_var (i := 2) rfl (by first | exact .inl rfl | exact .inr (.inl rfl) | exact .inr (.inr rfl)))) (m_acons m_int (m_acons (m_gint (by rfl) C.i_MOST_COUNT) m_anil))))) rfl rfl) m_anil)))))
theorem fn_is_count_row (C : Ctx T P w K mg base) : FnM T P w K mg base 3 "is_count_row" 2 none M_is_count_row := by
  obtain ⟨f, fd, hm, F⟩ := C.f_is_count_row
  refine ⟨f, fd, ["house", "thing"], hm, F.kp, F.binds (ps := ["house", "thing"]) fun _ _ _ _ _ _ us hl => match us, hl with | [_, _], _ => rfl, def_ok F sc_is_count_row (by intro i h; first | (cases h; done) | (cases h; decide)) (ok_is_count_row C)⟩
theorem ok_check_counts (C : Ctx T P w K mg base) : BodyOk T P w K mg base 3 ["house", "stands", "wants"] "check_counts" S_check_counts none b_check_counts := by
  intro f cdv A outer s H E v hr
  have hu1 := L2.hu_of hr
  have hu16 := Nat.lt_of_le_of_lt (Nat.add_le_add_left (by decide : 16 ≤ 64) _) hr.units
  unfold b_check_counts
  exact (m_one (m_sif ((m_or (m_tnot (m_tval (m_call (fn_is_count_row C) (hr.mono (by decide : 3 ≤ 3)) (by rfl) (L2.takes_of rfl rfl rfl rfl) (m_acons (m_frz (m_var (i := 0) rfl (by first | exact .inl rfl | exact .inr (.inl rfl) | exact .inr (.inr rfl)))) (m_acons (m_frz (m_var (i := 1) rfl (by first | exact .inl rfl | exact .inr (.inl rfl) | exact .inr (.inr rfl)))) m_anil))))) (m_or (m_tnot (m_tval (m_call (fn_is_count_row C) (hr.mono (by decide : 3 ≤ 3)) (by rfl) (L2.takes_of rfl rfl rfl rfl) (m_acons (m_frz (m_var (i := 0) rfl (by first | exact .inl rfl | exact .inr (.inl rfl) | exact .inr (.inr rfl)))) (m_acons (m_frz (m_var (i := 2) rfl (by first | exact .inl rfl | exact .inr (.inl rfl) | exact .inr (.inr rfl)))) m_anil))))) (m_or1 (m_tcmp (op_neD hr.units) g_ne (m_callB (cr_sumA rfl) g_sum (by rfl) C.n_sum rfl (m_acons (m_var (i := 1) rfl (by first | exact .inl rfl | exact .inr (.inl rfl) | exact .inr (.inr rfl))) m_anil)) (m_callB (cr_sumA rfl) g_sum (by rfl) C.n_sum rfl (m_acons (m_var (i := 2) rfl (by first | exact .inl rfl | exact .inr (.inl rfl) | exact .inr (.inr rfl))) m_anil))))))).pt m_nevers m_nil))
theorem fn_check_counts (C : Ctx T P w K mg base) : FnM T P w K mg base 4 "check_counts" 3 none M_check_counts := by
  obtain ⟨f, fd, hm, F⟩ := C.f_check_counts
  refine ⟨f, fd, ["house", "stands", "wants"], hm, F.kp, F.binds (ps := ["house", "stands", "wants"]) fun _ _ _ _ _ _ us hl => match us, hl with | [_, _, _], _ => rfl, def_ok F sc_check_counts (by intro i h; first | (cases h; done) | (cases h; decide)) (ok_check_counts C)⟩
theorem ok_is_floor (C : Ctx T P w K mg base) : BodyOk T P w K mg base 2 ["house", "thing"] "is_floor" S_is_floor none b_is_floor := by
  intro f cdv A outer s H E v hr
  have hu1 := L2.hu_of hr
  have hu16 := Nat.lt_of_le_of_lt (Nat.add_le_add_left (by decide : 16 ≤ 64) _) hr.units
  unfold b_is_floor
  exact (m_one (m_ret (m_call (fn_is_within C) (hr.mono (by decide : 2 ≤ 2)) (by rfl) (L2.takes_of rfl rfl rfl rfl) (m_acons (m_frz (m_var (i := 1) rfl (by first | exact .inl rfl | exact .inr (.inl rfl) | exact .inr (.inr rfl)))) (m_acons m_int (m_acons (m_bin op_sub g_sub (m_attr C.a_floors (m_var (i := 0) rfl (by first | exact .inl rfl | exact .inr (.inl rfl) | exact .inr (.inr rfl)))) m_int) m_anil))))))
theorem fn_is_floor (C : Ctx T P w K mg base) : FnM T P w K mg base 3 "is_floor" 2 none M_is_floor := by
  obtain ⟨f, fd, hm, F⟩ := C.f_is_floor
  refine ⟨f, fd, ["house", "thing"], hm, F.kp, F.binds (ps := ["house", "thing"]) fun _ _ _ _ _ _ us hl => match us, hl with | [_, _], _ => rfl, def_ok F sc_is_floor (by intro i h; first | (cases h; done) | (cases h; decide)) (ok_is_floor C)⟩
theorem ok_check_floor (C : Ctx T P w K mg base) : BodyOk T P w K mg base 3 ["house", "thing"] "check_floor" S_check_floor none b_check_floor := by
  intro f cdv A outer s H E v hr
  have hu1 := L2.hu_of hr
  have hu16 := Nat.lt_of_le_of_lt (Nat.add_le_add_left (by decide : 16 ≤ 64) _) hr.units
  unfold b_check_floor
  exact (m_cons (m_sif (m_tnot (m_tval (m_call (fn_is_floor C) (hr.mono (by decide : 3 ≤ 3)) (by rfl) (L2.takes_of rfl rfl rfl rfl) (m_acons (m_frz (m_var (i := 0) rfl (by first | exact .inl rfl | exact .inr (.inl rfl) | exact .inr (.inr rfl)))) (m_acons (m_frz (m_var (i := 1) rfl (by first | exact .inl rfl | exact .inr (.inl rfl) | exact .inr (.inr rfl)))) m_anil))))) m_nevers m_nil)
    (m_one (m_ret (m_var (i := 1) rfl (by first | exact .inl rfl | exact .inr (.inl rfl) | exact .inr (.inr rfl))))))
theorem fn_check_floor (C : Ctx T P w K mg base) : FnM T P w K mg base 4 "check_floor" 2 none M_check_floor := by
  obtain ⟨f, fd, hm, F⟩ := C.f_check_floor
  refine ⟨f, fd, ["house", "thing"], hm, F.kp, F.binds (ps := ["house", "thing"]) fun _ _ _ _ _ _ us hl => match us, hl with | [_, _], _ => rfl, def_ok F sc_check_floor (by intro i h; first | (cases h; done) | (cases h; decide)) (ok_check_floor C)⟩
theorem ok_pair_bounds (C : Ctx T P w K mg base) : BodyOk T P w K mg base 4 ["house", "stands", "wants", "stand", "want", "least"] "pair_bounds" S_pair_bounds none b_pair_bounds := by
  intro f cdv A outer s H E v hr
  have hu1 := L2.hu_of hr
  have hu16 := Nat.lt_of_le_of_lt (Nat.add_le_add_left (by decide : 16 ≤ 64) _) hr.units
  unfold b_pair_bounds
  exact (m_cons (m_expr (m_call (fn_check_counts C) (hr.mono (by decide : 4 ≤ 4)) (by rfl) (L2.takes_of rfl rfl rfl rfl) (m_acons (m_frz (m_var (i := 0) rfl (by first | exact .inl rfl | exact .inr (.inl rfl) | exact .inr (.inr rfl)))) (m_acons (m_frz (m_var (i := 1) rfl (by first | exact .inl rfl | exact .inr (.inl rfl) | exact .inr (.inr rfl)))) (m_acons (m_frz (m_var (i := 2) rfl (by first | exact .inl rfl | exact .inr (.inl rfl) | exact .inr (.inr rfl)))) m_anil)))))
    (m_cons (m_expr (m_call (fn_check_floor C) (hr.mono (by decide : 4 ≤ 4)) (by rfl) (L2.takes_of rfl rfl rfl rfl) (m_acons (m_frz (m_var (i := 0) rfl (by first | exact .inl rfl | exact .inr (.inl rfl) | exact .inr (.inr rfl)))) (m_acons (m_frz (m_var (i := 3) rfl (by first | exact .inl rfl | exact .inr (.inl rfl) | exact .inr (.inr rfl)))) m_anil))))
    (m_cons (m_expr (m_call (fn_check_floor C) (hr.mono (by decide : 4 ≤ 4)) (by rfl) (L2.takes_of rfl rfl rfl rfl) (m_acons (m_frz (m_var (i := 0) rfl (by first | exact .inl rfl | exact .inr (.inl rfl) | exact .inr (.inr rfl)))) (m_acons (m_frz (m_var (i := 4) rfl (by first | exact .inl rfl | exact .inr (.inl rfl) | exact .inr (.inr rfl)))) m_anil))))
    (m_cons (m_set (i := 5) sc_pair_bounds.nd rfl (by first | exact .inl rfl | exact .inr rfl) rfl (m_callB (call_max2 rfl) g_max2 (by rfl) C.n_max rfl (m_acons m_int (m_acons (m_bin op_sub g_sub (m_bin op_addM g_add (m_ix (ix_M hu1) g_ix (m_var (i := 1) rfl (by first | exact .inl rfl | exact .inr (.inl rfl) | exact .inr (.inr rfl))) (m_var (i := 3) rfl (by first | exact .inl rfl | exact .inr (.inl rfl) | exact .inr (.inr rfl))) (fun _ _ => rfl)) (m_ix (ix_M hu1) g_ix (m_var (i := 2) rfl (by first | exact .inl rfl | exact .inr (.inl rfl) | exact .inr (.inr rfl))) (m_var (i := 4) rfl (by first | exact .inl rfl | exact .inr (.inl rfl) | exact .inr (.inr rfl))) (fun _ _ => rfl))) (m_callB (cr_sumA rfl) g_sum (by rfl) C.n_sum rfl (m_acons (m_var (i := 1) rfl (by first | exact .inl rfl | exact .inr (.inl rfl) | exact .inr (.inr rfl))) m_anil))) m_anil))))
    (m_one (m_ret (m_tup (m_acons (m_frz (m_var (i := 5) rfl (by first | exact .inl rfl | exact .inr (.inl rfl) | exact .inr (.inr rfl)))) (m_acons (m_callB (call_min2 rfl) g_min2 (by rfl) C.n_min rfl (m_acons (m_ix (ix_M hu1) g_ix (m_var (i := 1) rfl (by first | exact .inl rfl | exact .inr (.inl rfl) | exact .inr (.inr rfl))) (m_var (i := 3) rfl (by first | exact .inl rfl | exact .inr (.inl rfl) | exact .inr (.inr rfl))) (fun _ _ => rfl)) (m_acons (m_ix (ix_M hu1) g_ix (m_var (i := 2) rfl (by first | exact .inl rfl | exact .inr (.inl rfl) | exact .inr (.inr rfl))) (m_var (i := 4) rfl (by first | exact .inl rfl | exact .inr (.inl rfl) | exact .inr (.inr rfl))) (fun _ _ => rfl)) m_anil))) m_anil)))))))))
theorem fn_pair_bounds (C : Ctx T P w K mg base) : FnM T P w K mg base 5 "pair_bounds" 5 none M_pair_bounds := by
  obtain ⟨f, fd, hm, F⟩ := C.f_pair_bounds
  refine ⟨f, fd, ["house", "stands", "wants", "stand", "want"], hm, F.kp, F.binds (ps := ["house", "stands", "wants", "stand", "want"]) fun _ _ _ _ _ _ us hl => match us, hl with | [_, _, _, _, _], _ => rfl, def_ok F sc_pair_bounds (by intro i h; first | (cases h; done) | (cases h; decide)) (ok_pair_bounds C)⟩
theorem ok__law_many (C : Ctx T P w K mg base) : BodyOk T P w K mg base 0 ["_law_groups", "_law_stand", "_law_want", "_law_group"] "_law_many" S__law_many none b__law_many := by
  intro f cdv A outer s H E v hr
  have hu1 := L2.hu_of hr
  have hu16 := Nat.lt_of_le_of_lt (Nat.add_le_add_left (by decide : 16 ≤ 64) _) hr.units
  unfold b__law_many
  exact (m_one (m_ret (m_callB (cr_sumA rfl) g_sum (by rfl) C.n_sum rfl (m_acons (m_lc (own := [("_law_group", 3)]) rfl sc__law_many.nd (m_iany (m_var (i := 0) rfl (by first | exact .inl rfl | exact .inr (.inl rfl) | exact .inr (.inr rfl)))) (blkOk_by (by rfl)) (fun _ _ _ _ _ => (m_gnm (i := 3) sc__law_many.nd rfl (by first | exact .inl rfl | exact .inr rfl) rfl)) (fun _ _ _ _ _ => (m_tests1 (m_tcmp (op_eqD hr.units) g_eq (m_sl (m_var (i := 3) rfl (by first | exact .inl rfl | exact .inr (.inl rfl) | exact .inr (.inr rfl))) .none (.some m_int)) (m_tup (m_acons (m_frz (m_var (i := 1) rfl (by first | exact .inl rfl | exact .inr (.inl rfl) | exact .inr (.inr rfl)))) (m_acons (m_frz (m_var (i := 2) rfl (by first | exact .inl rfl | exact .inr (.inl rfl) | exact .inr (.inr rfl)))) m_anil)))))) (fun _ _ _ _ _ => (m_ix (ix_M hu1) g_ix (m_var (i := 3) rfl (by first | exact .inl rfl | exact .inr (.inl rfl) | exact .inr (.inr rfl))) m_int (fun _ _ => rfl))) rfl rfl) m_anil))))
theorem fn__law_many (C : Ctx T P w K mg base) : FnM T P w K mg base 1 "_law_many" 3 none M__law_many := by
  obtain ⟨f, fd, hm, F⟩ := C.f__law_many
  refine ⟨f, fd, ["_law_groups", "_law_stand", "_law_want"], hm, F.kp, F.binds (ps := ["_law_groups", "_law_stand", "_law_want"]) fun _ _ _ _ _ _ us hl => match us, hl with | [_, _, _], _ => rfl, def_ok F sc__law_many (by intro i h; first | (cases h; done) | (cases h; decide)) (ok__law_many C)⟩
theorem ok__law_few_right (C : Ctx T P w K mg base) : BodyOk T P w K mg base 5 ["_law_deck_here", "_law_floors", "_law_house", "_law_stands", "_law_wants", "_law_every", "_law_stand", "_law_want", "_law_rows", "_law_found", "_law_groups"] "_law_few_right" S__law_few_right (some 0) b__law_few_right := by
  intro f cdv A outer s H E v hr
  have hu1 := L2.hu_of hr
  have hu16 := Nat.lt_of_le_of_lt (Nat.add_le_add_left (by decide : 16 ≤ 64) _) hr.units
  unfold b__law_few_right
  exact (m_cons (m_set (i := 1) sc__law_few_right.nd rfl (by first | exact .inl rfl | exact .inr rfl) rfl (m_ix (ix_M hu1) g_ix (m_lst (m_acons m_int (m_acons m_int (m_acons m_int (m_acons m_int (m_acons m_int m_anil)))))) (m_call (fn__law_pick C) (hr.mono (by decide : 1 ≤ 5)) (by rfl) (L2.takes_of rfl rfl rfl rfl) (m_acons (m_var (i := 0) rfl (by first | exact .inl rfl | exact .inr (.inl rfl) | exact .inr (.inr rfl))) (m_acons m_int m_anil))) (fun _ _ => rfl)))
    (m_cons (m_set (i := 2) sc__law_few_right.nd rfl (by first | exact .inl rfl | exact .inr rfl) rfl (m_make (mk_House C) (hr.mono (by decide : 4 ≤ 5)) (by rfl) (L2.takes_of rfl rfl rfl rfl) flat_wE (m_acons (m_frz (m_var (i := 1) rfl (by first | exact .inl rfl | exact .inr (.inl rfl) | exact .inr (.inr rfl)))) (m_acons (m_bin op_addM g_add m_int (m_call (fn__law_pick C) (hr.mono (by decide : 1 ≤ 5)) (by rfl) (L2.takes_of rfl rfl rfl rfl) (m_acons (m_var (i := 0) rfl (by first | exact .inl rfl | exact .inr (.inl rfl) | exact .inr (.inr rfl))) (m_acons m_int m_anil)))) m_anil))))
    (m_cons (m_tgt (m_frz (m_call (fn__law_counts C) (hr.mono (by decide : 2 ≤ 5)) (by rfl) (L2.takes_of rfl rfl rfl rfl) (m_acons (m_var (i := 0) rfl (by first | exact .inl rfl | exact .inr (.inl rfl) | exact .inr (.inr rfl))) (m_acons (m_frz (m_var (i := 1) rfl (by first | exact .inl rfl | exact .inr (.inl rfl) | exact .inr (.inr rfl)))) (m_acons (m_ix (ix_M hu1) g_ix (m_lst (m_acons m_int (m_acons m_int (m_acons m_int (m_acons m_int (m_acons m_int (m_acons m_int (m_acons m_int (m_acons m_int (m_acons m_int m_anil)))))))))) (m_var (i := 1) rfl (by first | exact .inl rfl | exact .inr (.inl rfl) | exact .inr (.inr rfl))) (fun _ _ => rfl)) m_anil))))) (m_gtp rfl (m_gcons (m_gnm (i := 3) sc__law_few_right.nd rfl (by first | exact .inl rfl | exact .inr rfl) rfl) (m_gcons (m_gnm (i := 4) sc__law_few_right.nd rfl (by first | exact .inl rfl | exact .inr rfl) rfl) m_gnil))))
    (m_cons (m_set (i := 5) sc__law_few_right.nd rfl (by first | exact .inl rfl | exact .inr rfl) rfl (m_call (fn__law_all_wishes C) (hr.mono (by decide : 2 ≤ 5)) (by rfl) (L2.takes_of rfl rfl rfl rfl) (m_acons (m_frz (m_var (i := 3) rfl (by first | exact .inl rfl | exact .inr (.inl rfl) | exact .inr (.inr rfl)))) (m_acons (m_frz (m_var (i := 4) rfl (by first | exact .inl rfl | exact .inr (.inl rfl) | exact .inr (.inr rfl)))) m_anil))))
    (m_cons (m_for (L2.passes_of rfl) rfl (m_irange1 (by rfl) C.n_range (m_acons (m_var (i := 1) rfl (by first | exact .inl rfl | exact .inr (.inl rfl) | exact .inr (.inr rfl))) m_anil)) (m_gnm (i := 6) sc__law_few_right.nd rfl (by first | exact .inl rfl | exact .inr rfl) rfl) (m_one (m_for (L2.passes_of rfl) rfl (m_irange1 (by rfl) C.n_range (m_acons (m_var (i := 1) rfl (by first | exact .inl rfl | exact .inr (.inl rfl) | exact .inr (.inr rfl))) m_anil)) (m_gnm (i := 7) sc__law_few_right.nd rfl (by first | exact .inl rfl | exact .inr rfl) rfl) (m_cons (m_setLc (i := 8) (own := [("_law_groups", 10)]) rfl sc__law_few_right.nd rfl rfl (sw_true rfl rfl rfl (by rfl)) rfl (m_iany (m_var (i := 5) rfl (by first | exact .inl rfl | exact .inr (.inl rfl) | exact .inr (.inr rfl)))) (blkOk_by (by rfl)) (fun _ _ _ _ _ => (m_gnm (i := 10) sc__law_few_right.nd rfl (by first | exact .inl rfl | exact .inr rfl) rfl)) (fun _ _ _ _ _ => m_tests0) (fun _ _ _ _ _ => (m_call (fn__law_many C) (hr.mono (by decide : 1 ≤ 5)) (by rfl) L2.takes0 (m_acons (m_frz (m_var (i := 10) rfl (by first | exact .inl rfl | exact .inr (.inl rfl) | exact .inr (.inr rfl)))) (m_acons (m_frz (m_var (i := 6) rfl (by first | exact .inl rfl | exact .inr (.inl rfl) | exact .inr (.inr rfl)))) (m_acons (m_frz (m_var (i := 7) rfl (by first | exact .inl rfl | exact .inr (.inl rfl) | exact .inr (.inr rfl)))) m_anil))))) rfl rfl)
    (m_cons (m_set (i := 9) sc__law_few_right.nd rfl (by first | exact .inl rfl | exact .inr rfl) rfl (m_call (fn_pair_bounds C) (hr.mono (by decide : 5 ≤ 5)) (by rfl) (L2.takes_of rfl rfl rfl rfl) (m_acons (m_frz (m_var (i := 2) rfl (by first | exact .inl rfl | exact .inr (.inl rfl) | exact .inr (.inr rfl)))) (m_acons (m_frz (m_var (i := 3) rfl (by first | exact .inl rfl | exact .inr (.inl rfl) | exact .inr (.inr rfl)))) (m_acons (m_frz (m_var (i := 4) rfl (by first | exact .inl rfl | exact .inr (.inl rfl) | exact .inr (.inr rfl)))) (m_acons (m_frz (m_var (i := 6) rfl (by first | exact .inl rfl | exact .inr (.inl rfl) | exact .inr (.inr rfl)))) (m_acons (m_frz (m_var (i := 7) rfl (by first | exact .inl rfl | exact .inr (.inl rfl) | exact .inr (.inr rfl)))) m_anil)))))))
    (m_one (m_sif ((m_or (m_tnot (m_tval (m_callB call_isi g_isi (by rfl) C.n_isinstance rfl (m_acons (m_var (i := 9) rfl (by first | exact .inl rfl | exact .inr (.inl rfl) | exact .inr (.inr rfl))) (m_acons (m_ty (by rfl) C.n_tuple rfl) m_anil))))) (m_or (m_tcmp (op_neD hr.units) g_ne (m_var (i := 9) rfl (by first | exact .inl rfl | exact .inr (.inl rfl) | exact .inr (.inr rfl))) (m_tup (m_acons (m_callB (cr_min rfl) g_minL (by rfl) C.n_min rfl (m_acons (m_var (i := 8) rfl (by first | exact .inl rfl | exact .inr (.inl rfl) | exact .inr (.inr rfl))) m_anil)) (m_acons (m_callB (cr_max rfl) g_maxL (by rfl) C.n_max rfl (m_acons (m_var (i := 8) rfl (by first | exact .inl rfl | exact .inr (.inl rfl) | exact .inr (.inr rfl))) m_anil)) m_anil)))) (m_or1 (m_tval (m_callB call_isi g_isi (by rfl) C.n_isinstance rfl (m_acons (m_ix (ix_M hu1) g_ix (m_var (i := 9) rfl (by first | exact .inl rfl | exact .inr (.inl rfl) | exact .inr (.inr rfl))) m_int (fun _ _ => rfl)) (m_acons (m_ty (by rfl) C.n_bool rfl) m_anil)))))))).pt (m_one (m_ret m_bl)) m_nil)))))))
    (m_one (m_ret m_bl)))))))
theorem fn__law_few_right (C : Ctx T P w K mg base) : FnM T P w K mg base 6 "_law_few_right" 1 (some 0) M__law_few_right := by
  obtain ⟨f, fd, hm, F⟩ := C.f__law_few_right
  refine ⟨f, fd, ["_law_deck_here"], hm, F.kp, F.binds (ps := ["_law_deck_here"]) fun _ _ _ _ _ _ us hl => match us, hl with | [_], _ => rfl, def_ok F sc__law_few_right (by intro i h; first | (cases h; done) | (cases h; decide)) (ok__law_few_right C)⟩
theorem ok_RawStanding___init__ (C : Ctx T P w K mg base) : BodyOk T P w K mg base 0 ["self", "house", "lift", "groups"] "RawStanding.__init__" S_RawStanding___init__ (some 0) b_RawStanding___init__ := by
  intro f cdv A outer s H E v hr
  have hu1 := L2.hu_of hr
  have hu16 := Nat.lt_of_le_of_lt (Nat.add_le_add_left (by decide : 16 ≤ 64) _) hr.units
  unfold b_RawStanding___init__
  exact (m_cons (m_fld (i := 0) C.a_house rfl (by first | exact .inl rfl | exact .inr (.inl rfl) | exact .inr (.inr rfl)) rfl (m_frz (m_var (i := 1) rfl (by first | exact .inl rfl | exact .inr (.inl rfl) | exact .inr (.inr rfl)))))
    (m_cons (m_fld (i := 0) C.a_lift rfl (by first | exact .inl rfl | exact .inr (.inl rfl) | exact .inr (.inr rfl)) rfl (m_frz (m_var (i := 2) rfl (by first | exact .inl rfl | exact .inr (.inl rfl) | exact .inr (.inr rfl)))))
    (m_one (m_fld (i := 0) C.a_groups rfl (by first | exact .inl rfl | exact .inr (.inl rfl) | exact .inr (.inr rfl)) rfl (m_frz (m_var (i := 3) rfl (by first | exact .inl rfl | exact .inr (.inl rfl) | exact .inr (.inr rfl))))))))
theorem mk_RawStanding (C : Ctx T P w K mg base) : MkM T P w K mg base 1 "RawStanding" 4 M_RawStanding___init__ := by
  obtain ⟨D, f, fd, hT, hm, hM, F⟩ := C.c_RawStanding
  refine ⟨D, f, fd, ["self", "house", "lift", "groups"], hT, hm, hM, F.binds (ps := ["self", "house", "lift", "groups"]) fun _ _ _ _ _ _ us hl => match us, hl with | [_, _, _, _], _ => rfl, def_ok F sc_RawStanding___init__ (by intro i h; first | (cases h; done) | (cases h; decide)) (ok_RawStanding___init__ C)⟩
theorem ok_raw_standing (C : Ctx T P w K mg base) : BodyOk T P w K mg base 2 ["house", "lift", "known", "rows", "pair"] "raw_standing" S_raw_standing none b_raw_standing := by
  intro f cdv A outer s H E v hr
  have hu1 := L2.hu_of hr
  have hu16 := Nat.lt_of_le_of_lt (Nat.add_le_add_left (by decide : 16 ≤ 64) _) hr.units
  unfold b_raw_standing
  exact (m_cons (m_setLc (i := 3) (own := [("pair", 4)]) rfl sc_raw_standing.nd rfl rfl (sw_true rfl rfl rfl (by rfl)) rfl (m_iany (m_var (i := 2) rfl (by first | exact .inl rfl | exact .inr (.inl rfl) | exact .inr (.inr rfl)))) (blkOk_by (by rfl)) (fun _ _ _ _ _ => (m_gnm (i := 4) sc_raw_standing.nd rfl (by first | exact .inl rfl | exact .inr rfl) rfl)) (fun _ _ _ _ _ => (m_tests1 (m_tcmp op_gt g_cmp (m_ix (ix_M hu1) g_ix (m_var (i := 2) rfl (by first | exact .inl rfl | exact .inr (.inl rfl) | exact .inr (.inr rfl))) (m_var (i := 4) rfl (by first | exact .inl rfl | exact .inr (.inl rfl) | exact .inr (.inr rfl))) (fun _ _ => rfl)) m_int))) (fun _ _ _ _ _ => (m_bin op_addM g_add (m_var (i := 4) rfl (by first | exact .inl rfl | exact .inr (.inl rfl) | exact .inr (.inr rfl))) (m_tup (m_acons (m_ix (ix_M hu1) g_ix (m_var (i := 2) rfl (by first | exact .inl rfl | exact .inr (.inl rfl) | exact .inr (.inr rfl))) (m_var (i := 4) rfl (by first | exact .inl rfl | exact .inr (.inl rfl) | exact .inr (.inr rfl))) (fun _ _ => rfl)) m_anil)))) rfl rfl)
    (m_one (m_ret (m_make (mk_RawStanding C) (hr.mono (by decide : 2 ≤ 2)) (by rfl) (L2.takes_of rfl rfl rfl rfl) flat_wE (m_acons (m_frz (m_var (i := 0) rfl (by first | exact .inl rfl | exact .inr (.inl rfl) | exact .inr (.inr rfl)))) (m_acons (m_frz (m_var (i := 1) rfl (by first | exact .inl rfl | exact .inr (.inl rfl) | exact .inr (.inr rfl)))) (m_acons (m_callTy call_tuple_of g_tuple (by rfl) C.n_tuple rfl (m_acons (m_callB (cr_sortedM hu16) g_sorted (by rfl) C.n_sorted rfl (m_acons (m_var (i := 3) rfl (by first | exact .inl rfl | exact .inr (.inl rfl) | exact .inr (.inr rfl))) m_anil)) m_anil)) m_anil)))))))
theorem fn_raw_standing (C : Ctx T P w K mg base) : FnM T P w K mg base 3 "raw_standing" 3 none M_raw_standing := by
  obtain ⟨f, fd, hm, F⟩ := C.f_raw_standing
  refine ⟨f, fd, ["house", "lift", "known"], hm, F.kp, F.binds (ps := ["house", "lift", "known"]) fun _ _ _ _ _ _ us hl => match us, hl with | [_, _, _], _ => rfl, def_ok F sc_raw_standing (by intro i h; first | (cases h; done) | (cases h; decide)) (ok_raw_standing C)⟩
theorem ok_paired (C : Ctx T P w K mg base) : BodyOk T P w K mg base 3 ["house", "stands", "wants", "order", "left", "known", "row", "stand", "many", "want", "taken"] "paired" S_paired none b_paired := by
  intro f cdv A outer s H E v hr
  have hu1 := L2.hu_of hr
  have hu16 := Nat.lt_of_le_of_lt (Nat.add_le_add_left (by decide : 16 ≤ 64) _) hr.units
  unfold b_paired
  exact (m_cons (m_set (i := 4) sc_paired.nd rfl (by first | exact .inl rfl | exact .inr rfl) rfl (m_callTy call_list_of g_list (by rfl) C.n_list rfl (m_acons (m_var (i := 2) rfl (by first | exact .inl rfl | exact .inr (.inl rfl) | exact .inr (.inr rfl))) m_anil)))
    (m_cons (m_set (i := 5) sc_paired.nd rfl (by first | exact .inl rfl | exact .inr rfl) rfl m_dnewT)
    (m_cons (m_set (i := 6) sc_paired.nd rfl (by first | exact .inl rfl | exact .inr rfl) rfl (m_callTy call_list_of g_list (by rfl) C.n_list rfl (m_acons (m_var (i := 3) rfl (by first | exact .inl rfl | exact .inr (.inl rfl) | exact .inr (.inr rfl))) m_anil)))
    (m_cons (m_for (L2.passes_of rfl) rfl (m_ienum2 (by rfl) C.n_enumerate (m_acons (m_frz (m_var (i := 1) rfl (by first | exact .inl rfl | exact .inr (.inl rfl) | exact .inr (.inr rfl)))) m_anil)) (m_gtp rfl (m_gcons (m_gnm (i := 7) sc_paired.nd rfl (by first | exact .inl rfl | exact .inr rfl) rfl) (m_gcons (m_gnm (i := 8) sc_paired.nd rfl (by first | exact .inl rfl | exact .inr rfl) rfl) m_gnil))) (m_one (m_while (L2.passes_of rfl) (m_tcmp op_gt g_cmp (m_var (i := 8) rfl (by first | exact .inl rfl | exact .inr (.inl rfl) | exact .inr (.inr rfl))) m_int) (m_cons (m_set (i := 9) sc_paired.nd rfl (by first | exact .inl rfl | exact .inr rfl) rfl (m_ix (ix_M hu1) g_ix (m_var (i := 6) rfl (by first | exact .inl rfl | exact .inr (.inl rfl) | exact .inr (.inr rfl))) m_int (fun _ _ => rfl)))
    (m_cons (m_set (i := 10) sc_paired.nd rfl (by first | exact .inl rfl | exact .inr rfl) rfl (m_callB (call_min2 rfl) g_min2 (by rfl) C.n_min rfl (m_acons (m_var (i := 8) rfl (by first | exact .inl rfl | exact .inr (.inl rfl) | exact .inr (.inr rfl))) (m_acons (m_ix (ix_M hu1) g_ix (m_var (i := 4) rfl (by first | exact .inl rfl | exact .inr (.inl rfl) | exact .inr (.inr rfl))) (m_var (i := 9) rfl (by first | exact .inl rfl | exact .inr (.inl rfl) | exact .inr (.inr rfl))) (fun _ _ => rfl)) m_anil))))
    (m_cons (m_sif (m_tcmp op_gt g_cmp (m_var (i := 10) rfl (by first | exact .inl rfl | exact .inr (.inl rfl) | exact .inr (.inr rfl))) m_int) (m_one (m_sub hu1 (pl_sl (i := 5) rfl (by first | exact .inl rfl | exact .inr (.inl rfl) | exact .inr (.inr rfl))) (m_tup (m_acons (m_frz (m_var (i := 7) rfl (by first | exact .inl rfl | exact .inr (.inl rfl) | exact .inr (.inr rfl)))) (m_acons (m_frz (m_var (i := 9) rfl (by first | exact .inl rfl | exact .inr (.inl rfl) | exact .inr (.inr rfl)))) m_anil))) (m_bin op_addM g_add (m_get2 hu1 (m_var (i := 5) rfl (by first | exact .inl rfl | exact .inr (.inl rfl) | exact .inr (.inr rfl))) (m_tup (m_acons (m_frz (m_var (i := 7) rfl (by first | exact .inl rfl | exact .inr (.inl rfl) | exact .inr (.inr rfl)))) (m_acons (m_frz (m_var (i := 9) rfl (by first | exact .inl rfl | exact .inr (.inl rfl) | exact .inr (.inr rfl)))) m_anil))) m_int ⟨by rfl, by rfl, by rfl, by rfl⟩) (m_var (i := 10) rfl (by first | exact .inl rfl | exact .inr (.inl rfl) | exact .inr (.inr rfl)))))) m_nil)
    (m_cons (m_sub hu1 (pl_sl (i := 4) rfl (by first | exact .inl rfl | exact .inr (.inl rfl) | exact .inr (.inr rfl))) (m_frz (m_var (i := 9) rfl (by first | exact .inl rfl | exact .inr (.inl rfl) | exact .inr (.inr rfl)))) (m_bin op_sub g_sub (m_ix (ix_M hu1) g_ix (m_var (i := 4) rfl (by first | exact .inl rfl | exact .inr (.inl rfl) | exact .inr (.inr rfl))) (m_var (i := 9) rfl (by first | exact .inl rfl | exact .inr (.inl rfl) | exact .inr (.inr rfl))) (fun _ _ => rfl)) (m_var (i := 10) rfl (by first | exact .inl rfl | exact .inr (.inl rfl) | exact .inr (.inr rfl)))))
    (m_cons (m_aug (i := 8) ip_sub sc_paired.nd rfl (by first | exact .inl rfl | exact .inr rfl) rfl (m_var (i := 10) rfl (by first | exact .inl rfl | exact .inr (.inl rfl) | exact .inr (.inr rfl))))
    (m_one (m_sif (m_tcmp (op_eqD hr.units) g_eq (m_ix (ix_M hu1) g_ix (m_var (i := 4) rfl (by first | exact .inl rfl | exact .inr (.inl rfl) | exact .inr (.inr rfl))) (m_var (i := 9) rfl (by first | exact .inl rfl | exact .inr (.inl rfl) | exact .inr (.inr rfl))) (fun _ _ => rfl)) m_int) (m_one (m_set (i := 6) sc_paired.nd rfl (by first | exact .inl rfl | exact .inr rfl) rfl (m_sl (m_var (i := 6) rfl (by first | exact .inl rfl | exact .inr (.inl rfl) | exact .inr (.inr rfl))) (.some m_int) .none))) m_nil))))))))))
    (m_one (m_ret (m_call (fn_raw_standing C) (hr.mono (by decide : 3 ≤ 3)) (by rfl) (L2.takes_of rfl rfl rfl rfl) (m_acons (m_frz (m_var (i := 0) rfl (by first | exact .inl rfl | exact .inr (.inl rfl) | exact .inr (.inr rfl)))) (m_acons m_int (m_acons (m_frz (m_var (i := 5) rfl (by first | exact .inl rfl | exact .inr (.inl rfl) | exact .inr (.inr rfl)))) m_anil))))))))))
theorem fn_paired (C : Ctx T P w K mg base) : FnM T P w K mg base 4 "paired" 4 none M_paired := by
  obtain ⟨f, fd, hm, F⟩ := C.f_paired
  refine ⟨f, fd, ["house", "stands", "wants", "order"], hm, F.kp, F.binds (ps := ["house", "stands", "wants", "order"]) fun _ _ _ _ _ _ us hl => match us, hl with | [_, _, _, _], _ => rfl, def_ok F sc_paired (by intro i h; first | (cases h; done) | (cases h; decide)) (ok_paired C)⟩
theorem ok_least_wishes (C : Ctx T P w K mg base) : BodyOk T P w K mg base 4 ["house", "stands", "wants"] "least_wishes" S_least_wishes none b_least_wishes := by
  intro f cdv A outer s H E v hr
  have hu1 := L2.hu_of hr
  have hu16 := Nat.lt_of_le_of_lt (Nat.add_le_add_left (by decide : 16 ≤ 64) _) hr.units
  unfold b_least_wishes
  exact (m_cons (m_expr (m_call (fn_check_counts C) (hr.mono (by decide : 4 ≤ 4)) (by rfl) (L2.takes_of rfl rfl rfl rfl) (m_acons (m_frz (m_var (i := 0) rfl (by first | exact .inl rfl | exact .inr (.inl rfl) | exact .inr (.inr rfl)))) (m_acons (m_frz (m_var (i := 1) rfl (by first | exact .inl rfl | exact .inr (.inl rfl) | exact .inr (.inr rfl)))) (m_acons (m_frz (m_var (i := 2) rfl (by first | exact .inl rfl | exact .inr (.inl rfl) | exact .inr (.inr rfl)))) m_anil)))))
    (m_one (m_ret (m_call (fn_paired C) (hr.mono (by decide : 4 ≤ 4)) (by rfl) (L2.takes_of rfl rfl rfl rfl) (m_acons (m_frz (m_var (i := 0) rfl (by first | exact .inl rfl | exact .inr (.inl rfl) | exact .inr (.inr rfl)))) (m_acons (m_frz (m_var (i := 1) rfl (by first | exact .inl rfl | exact .inr (.inl rfl) | exact .inr (.inr rfl)))) (m_acons (m_frz (m_var (i := 2) rfl (by first | exact .inl rfl | exact .inr (.inl rfl) | exact .inr (.inr rfl)))) (m_acons (m_frz (m_lstRg1 rfl (by rfl) C.n_list (by rfl) C.n_range (m_attr C.a_floors (m_var (i := 0) rfl (by first | exact .inl rfl | exact .inr (.inl rfl) | exact .inr (.inr rfl)))))) m_anil))))))))
theorem fn_least_wishes (C : Ctx T P w K mg base) : FnM T P w K mg base 5 "least_wishes" 3 none M_least_wishes := by
  obtain ⟨f, fd, hm, F⟩ := C.f_least_wishes
  refine ⟨f, fd, ["house", "stands", "wants"], hm, F.kp, F.binds (ps := ["house", "stands", "wants"]) fun _ _ _ _ _ _ us hl => match us, hl with | [_, _, _], _ => rfl, def_ok F sc_least_wishes (by intro i h; first | (cases h; done) | (cases h; decide)) (ok_least_wishes C)⟩
theorem ok_most_wishes (C : Ctx T P w K mg base) : BodyOk T P w K mg base 4 ["house", "stands", "wants"] "most_wishes" S_most_wishes none b_most_wishes := by
  intro f cdv A outer s H E v hr
  have hu1 := L2.hu_of hr
  have hu16 := Nat.lt_of_le_of_lt (Nat.add_le_add_left (by decide : 16 ≤ 64) _) hr.units
  unfold b_most_wishes
  exact (m_cons (m_expr (m_call (fn_check_counts C) (hr.mono (by decide : 4 ≤ 4)) (by rfl) (L2.takes_of rfl rfl rfl rfl) (m_acons (m_frz (m_var (i := 0) rfl (by first | exact .inl rfl | exact .inr (.inl rfl) | exact .inr (.inr rfl)))) (m_acons (m_frz (m_var (i := 1) rfl (by first | exact .inl rfl | exact .inr (.inl rfl) | exact .inr (.inr rfl)))) (m_acons (m_frz (m_var (i := 2) rfl (by first | exact .inl rfl | exact .inr (.inl rfl) | exact .inr (.inr rfl)))) m_anil)))))
    (m_one (m_ret (m_call (fn_paired C) (hr.mono (by decide : 4 ≤ 4)) (by rfl) (L2.takes_of rfl rfl rfl rfl) (m_acons (m_frz (m_var (i := 0) rfl (by first | exact .inl rfl | exact .inr (.inl rfl) | exact .inr (.inr rfl)))) (m_acons (m_frz (m_var (i := 1) rfl (by first | exact .inl rfl | exact .inr (.inl rfl) | exact .inr (.inr rfl)))) (m_acons (m_frz (m_var (i := 2) rfl (by first | exact .inl rfl | exact .inr (.inl rfl) | exact .inr (.inr rfl)))) (m_acons (m_frz (m_rev (m_lstRg1 rfl (by rfl) C.n_list (by rfl) C.n_range (m_attr C.a_floors (m_var (i := 0) rfl (by first | exact .inl rfl | exact .inr (.inl rfl) | exact .inr (.inr rfl))))))) m_anil))))))))
theorem fn_most_wishes (C : Ctx T P w K mg base) : FnM T P w K mg base 5 "most_wishes" 3 none M_most_wishes := by
  obtain ⟨f, fd, hm, F⟩ := C.f_most_wishes
  refine ⟨f, fd, ["house", "stands", "wants"], hm, F.kp, F.binds (ps := ["house", "stands", "wants"]) fun _ _ _ _ _ _ us hl => match us, hl with | [_, _, _], _ => rfl, def_ok F sc_most_wishes (by intro i h; first | (cases h; done) | (cases h; decide)) (ok_most_wishes C)⟩
theorem ok__law_great_right (C : Ctx T P w K mg base) : BodyOk T P w K mg base 5 ["_law_deck_here", "_law_floors", "_law_house", "_law_stands", "_law_wants", "_law_one", "_law_other", "_law_turn", "_law_stand", "_law_want", "_law_due", "_law_groups"] "_law_great_right" S__law_great_right (some 0) b__law_great_right := by
  intro f cdv A outer s H E v hr
  have hu1 := L2.hu_of hr
  have hu16 := Nat.lt_of_le_of_lt (Nat.add_le_add_left (by decide : 16 ≤ 64) _) hr.units
  unfold b__law_great_right
  exact (m_cons (m_set (i := 1) sc__law_great_right.nd rfl (by first | exact .inl rfl | exact .inr rfl) rfl (m_ix (ix_M hu1) g_ix (m_lst (m_acons (m_bin op_addM g_add m_int (m_call (fn__law_pick C) (hr.mono (by decide : 1 ≤ 5)) (by rfl) (L2.takes_of rfl rfl rfl rfl) (m_acons (m_var (i := 0) rfl (by first | exact .inl rfl | exact .inr (.inl rfl) | exact .inr (.inr rfl))) (m_acons m_int m_anil)))) (m_acons m_int m_anil))) (m_callTy call_int1 g_int (by rfl) C.n_int rfl (m_acons (m_cmp (op_eqD hr.units) g_eq (m_call (fn__law_pick C) (hr.mono (by decide : 1 ≤ 5)) (by rfl) (L2.takes_of rfl rfl rfl rfl) (m_acons (m_var (i := 0) rfl (by first | exact .inl rfl | exact .inr (.inl rfl) | exact .inr (.inr rfl))) (m_acons m_int m_anil))) m_int) m_anil)) (fun _ _ => rfl)))
    (m_cons (m_set (i := 2) sc__law_great_right.nd rfl (by first | exact .inl rfl | exact .inr rfl) rfl (m_make (mk_House C) (hr.mono (by decide : 4 ≤ 5)) (by rfl) (L2.takes_of rfl rfl rfl rfl) flat_wE (m_acons (m_frz (m_var (i := 1) rfl (by first | exact .inl rfl | exact .inr (.inl rfl) | exact .inr (.inr rfl)))) (m_acons (m_bin op_addM g_add m_int (m_call (fn__law_pick C) (hr.mono (by decide : 1 ≤ 5)) (by rfl) (L2.takes_of rfl rfl rfl rfl) (m_acons (m_var (i := 0) rfl (by first | exact .inl rfl | exact .inr (.inl rfl) | exact .inr (.inr rfl))) (m_acons (m_bin op_pow g_pow m_int m_int) m_anil)))) m_anil))))
    (m_cons (m_tgt (m_frz (m_call (fn__law_counts C) (hr.mono (by decide : 2 ≤ 5)) (by rfl) (L2.takes_of rfl rfl rfl rfl) (m_acons (m_var (i := 0) rfl (by first | exact .inl rfl | exact .inr (.inl rfl) | exact .inr (.inr rfl))) (m_acons (m_frz (m_var (i := 1) rfl (by first | exact .inl rfl | exact .inr (.inl rfl) | exact .inr (.inr rfl)))) (m_acons (m_ix (ix_M hu1) g_ix (m_lst (m_acons m_int (m_acons (m_bin op_pow g_pow m_int m_int) m_anil))) (m_call (fn__law_pick C) (hr.mono (by decide : 1 ≤ 5)) (by rfl) (L2.takes_of rfl rfl rfl rfl) (m_acons (m_var (i := 0) rfl (by first | exact .inl rfl | exact .inr (.inl rfl) | exact .inr (.inr rfl))) (m_acons m_int m_anil))) (fun _ _ => rfl)) m_anil))))) (m_gtp rfl (m_gcons (m_gnm (i := 3) sc__law_great_right.nd rfl (by first | exact .inl rfl | exact .inr rfl) rfl) (m_gcons (m_gnm (i := 4) sc__law_great_right.nd rfl (by first | exact .inl rfl | exact .inr rfl) rfl) m_gnil))))
    (m_cons (m_set (i := 5) sc__law_great_right.nd rfl (by first | exact .inl rfl | exact .inr rfl) rfl (m_attr C.a_groups (m_call (fn_least_wishes C) (hr.mono (by decide : 5 ≤ 5)) (by rfl) (L2.takes_of rfl rfl rfl rfl) (m_acons (m_frz (m_var (i := 2) rfl (by first | exact .inl rfl | exact .inr (.inl rfl) | exact .inr (.inr rfl)))) (m_acons (m_frz (m_var (i := 3) rfl (by first | exact .inl rfl | exact .inr (.inl rfl) | exact .inr (.inr rfl)))) (m_acons (m_frz (m_var (i := 4) rfl (by first | exact .inl rfl | exact .inr (.inl rfl) | exact .inr (.inr rfl)))) m_anil))))))
    (m_cons (m_set (i := 6) sc__law_great_right.nd rfl (by first | exact .inl rfl | exact .inr rfl) rfl (m_attr C.a_groups (m_call (fn_most_wishes C) (hr.mono (by decide : 5 ≤ 5)) (by rfl) (L2.takes_of rfl rfl rfl rfl) (m_acons (m_frz (m_var (i := 2) rfl (by first | exact .inl rfl | exact .inr (.inl rfl) | exact .inr (.inr rfl)))) (m_acons (m_frz (m_var (i := 3) rfl (by first | exact .inl rfl | exact .inr (.inl rfl) | exact .inr (.inr rfl)))) (m_acons (m_frz (m_var (i := 4) rfl (by first | exact .inl rfl | exact .inr (.inl rfl) | exact .inr (.inr rfl)))) m_anil))))))
    (m_cons (m_for (L2.passes_of rfl) rfl (m_irange1 (by rfl) C.n_range (m_acons m_int m_anil)) (m_gnm (i := 7) sc__law_great_right.nd rfl (by first | exact .inl rfl | exact .inr rfl) rfl) (m_cons (m_set (i := 8) sc__law_great_right.nd rfl (by first | exact .inl rfl | exact .inr rfl) rfl (m_call (fn__law_pick C) (hr.mono (by decide : 1 ≤ 5)) (by rfl) (L2.takes_of rfl rfl rfl rfl) (m_acons (m_var (i := 0) rfl (by first | exact .inl rfl | exact .inr (.inl rfl) | exact .inr (.inr rfl))) (m_acons (m_frz (m_var (i := 1) rfl (by first | exact .inl rfl | exact .inr (.inl rfl) | exact .inr (.inr rfl)))) m_anil))))
    (m_cons (m_set (i := 9) sc__law_great_right.nd rfl (by first | exact .inl rfl | exact .inr rfl) rfl (m_call (fn__law_pick C) (hr.mono (by decide : 1 ≤ 5)) (by rfl) (L2.takes_of rfl rfl rfl rfl) (m_acons (m_var (i := 0) rfl (by first | exact .inl rfl | exact .inr (.inl rfl) | exact .inr (.inr rfl))) (m_acons (m_frz (m_var (i := 1) rfl (by first | exact .inl rfl | exact .inr (.inl rfl) | exact .inr (.inr rfl)))) m_anil))))
    (m_cons (m_set (i := 10) sc__law_great_right.nd rfl (by first | exact .inl rfl | exact .inr rfl) rfl (m_tup (m_acons (m_callB (call_max2 rfl) g_max2 (by rfl) C.n_max rfl (m_acons m_int (m_acons (m_bin op_sub g_sub (m_bin op_addM g_add (m_ix (ix_M hu1) g_ix (m_var (i := 3) rfl (by first | exact .inl rfl | exact .inr (.inl rfl) | exact .inr (.inr rfl))) (m_var (i := 8) rfl (by first | exact .inl rfl | exact .inr (.inl rfl) | exact .inr (.inr rfl))) (fun _ _ => rfl)) (m_ix (ix_M hu1) g_ix (m_var (i := 4) rfl (by first | exact .inl rfl | exact .inr (.inl rfl) | exact .inr (.inr rfl))) (m_var (i := 9) rfl (by first | exact .inl rfl | exact .inr (.inl rfl) | exact .inr (.inr rfl))) (fun _ _ => rfl))) (m_callB (cr_sumA rfl) g_sum (by rfl) C.n_sum rfl (m_acons (m_var (i := 3) rfl (by first | exact .inl rfl | exact .inr (.inl rfl) | exact .inr (.inr rfl))) m_anil))) m_anil))) (m_acons (m_callB (call_min2 rfl) g_min2 (by rfl) C.n_min rfl (m_acons (m_ix (ix_M hu1) g_ix (m_var (i := 3) rfl (by first | exact .inl rfl | exact .inr (.inl rfl) | exact .inr (.inr rfl))) (m_var (i := 8) rfl (by first | exact .inl rfl | exact .inr (.inl rfl) | exact .inr (.inr rfl))) (fun _ _ => rfl)) (m_acons (m_ix (ix_M hu1) g_ix (m_var (i := 4) rfl (by first | exact .inl rfl | exact .inr (.inl rfl) | exact .inr (.inr rfl))) (m_var (i := 9) rfl (by first | exact .inl rfl | exact .inr (.inl rfl) | exact .inr (.inr rfl))) (fun _ _ => rfl)) m_anil))) m_anil))))
    (m_cons (m_sif (m_tcmp (op_neD hr.units) g_ne (m_call (fn_pair_bounds C) (hr.mono (by decide : 5 ≤ 5)) (by rfl) (L2.takes_of rfl rfl rfl rfl) (m_acons (m_frz (m_var (i := 2) rfl (by first | exact .inl rfl | exact .inr (.inl rfl) | exact .inr (.inr rfl)))) (m_acons (m_frz (m_var (i := 3) rfl (by first | exact .inl rfl | exact .inr (.inl rfl) | exact .inr (.inr rfl)))) (m_acons (m_frz (m_var (i := 4) rfl (by first | exact .inl rfl | exact .inr (.inl rfl) | exact .inr (.inr rfl)))) (m_acons (m_frz (m_var (i := 8) rfl (by first | exact .inl rfl | exact .inr (.inl rfl) | exact .inr (.inr rfl)))) (m_acons (m_frz (m_var (i := 9) rfl (by first | exact .inl rfl | exact .inr (.inl rfl) | exact .inr (.inr rfl)))) m_anil)))))) (m_var (i := 10) rfl (by first | exact .inl rfl | exact .inr (.inl rfl) | exact .inr (.inr rfl)))) (m_one (m_ret m_bl)) m_nil)
    (m_one (m_for (L2.passes_of rfl) rfl (m_iany (m_lst (m_acons (m_frz (m_var (i := 5) rfl (by first | exact .inl rfl | exact .inr (.inl rfl) | exact .inr (.inr rfl)))) (m_acons (m_frz (m_var (i := 6) rfl (by first | exact .inl rfl | exact .inr (.inl rfl) | exact .inr (.inr rfl)))) m_anil)))) (m_gnm (i := 11) sc__law_great_right.nd rfl (by first | exact .inl rfl | exact .inr rfl) rfl) (m_one (m_sif (m_tnot (m_tchain op_le op_le g_cmp g_cmp (m_ix (ix_M hu1) g_ix (m_var (i := 10) rfl (by first | exact .inl rfl | exact .inr (.inl rfl) | exact .inr (.inr rfl))) m_int (fun _ _ => rfl)) (m_call (fn__law_many C) (hr.mono (by decide : 1 ≤ 5)) (by rfl) (L2.takes_of rfl rfl rfl rfl) (m_acons (m_frz (m_var (i := 11) rfl (by first | exact .inl rfl | exact .inr (.inl rfl) | exact .inr (.inr rfl)))) (m_acons (m_frz (m_var (i := 8) rfl (by first | exact .inl rfl | exact .inr (.inl rfl) | exact .inr (.inr rfl)))) (m_acons (m_frz (m_var (i := 9) rfl (by first | exact .inl rfl | exact .inr (.inl rfl) | exact .inr (.inr rfl)))) m_anil)))) (m_ix (ix_M hu1) g_ix (m_var (i := 10) rfl (by first | exact .inl rfl | exact .inr (.inl rfl) | exact .inr (.inr rfl))) m_int (fun _ _ => rfl)))) (m_one (m_ret m_bl)) m_nil)))))))))
    (m_one (m_ret m_bl))))))))
theorem fn__law_great_right (C : Ctx T P w K mg base) : FnM T P w K mg base 6 "_law_great_right" 1 (some 0) M__law_great_right := by
  obtain ⟨f, fd, hm, F⟩ := C.f__law_great_right
  refine ⟨f, fd, ["_law_deck_here"], hm, F.kp, F.binds (ps := ["_law_deck_here"]) fun _ _ _ _ _ _ us hl => match us, hl with | [_], _ => rfl, def_ok F sc__law_great_right (by intro i h; first | (cases h; done) | (cases h; decide)) (ok__law_great_right C)⟩
theorem ok_law (C : Ctx T P w K mg base) : BodyOk T P w K mg base 6 ["_law_script", "_law_deck_here", "_law_turn"] "law" S_law none b_law := by
  intro f cdv A outer s H E v hr
  have hu1 := L2.hu_of hr
  have hu16 := Nat.lt_of_le_of_lt (Nat.add_le_add_left (by decide : 16 ≤ 64) _) hr.units
  unfold b_law
  exact (m_cons (m_set (i := 1) sc_law.nd rfl (by first | exact .inl rfl | exact .inr rfl) rfl (m_call (fn__law_deck C) (hr.mono (by decide : 1 ≤ 6)) (by rfl) (L2.takes_of rfl rfl rfl rfl) (m_acons (m_frz (m_var (i := 0) rfl (by first | exact .inl rfl | exact .inr (.inl rfl) | exact .inr (.inr rfl)))) m_anil)))
    (m_cons (m_for (L2.passes_of rfl) rfl (m_irange1 (by rfl) C.n_range (m_acons (m_bin op_addM g_add m_int (m_callB (call_min2 rfl) g_min2 (by rfl) C.n_min rfl (m_acons (m_callB call_lenM g_len (by rfl) C.n_len rfl (m_acons (m_var (i := 0) rfl (by first | exact .inl rfl | exact .inr (.inl rfl) | exact .inr (.inr rfl))) m_anil)) (m_acons m_int m_anil)))) m_anil)) (m_gnm (i := 2) sc_law.nd rfl (by first | exact .inl rfl | exact .inr rfl) rfl) (m_one (m_sif ((m_or (m_tnot (m_tval (m_call (fn__law_few_right C) (hr.mono (by decide : 6 ≤ 6)) (by rfl) (L2.takes_of rfl rfl rfl rfl) (m_acons (m_var (i := 1) rfl (by first | exact .inl rfl | exact .inr (.inl rfl) | exact .inr (.inr rfl))) m_anil)))) (m_or1 (m_tnot (m_tval (m_call (fn__law_great_right C) (hr.mono (by decide : 6 ≤ 6)) (by rfl) (L2.takes_of rfl rfl rfl rfl) (m_acons (m_var (i := 1) rfl (by first | exact .inl rfl | exact .inr (.inl rfl) | exact .inr (.inr rfl))) m_anil))))))).pt (m_one (m_ret m_bl)) m_nil)))
    (m_one (m_ret m_bl))))
theorem fn_law (C : Ctx T P w K mg base) : FnM T P w K mg base 7 "law" 1 none M_law := by
  obtain ⟨f, fd, hm, F⟩ := C.f_law
  refine ⟨f, fd, ["_law_script"], hm, F.kp, F.binds (ps := ["_law_script"]) fun _ _ _ _ _ _ us hl => match us, hl with | [_], _ => rfl, def_ok F sc_law (by intro i h; first | (cases h; done) | (cases h; decide)) (ok_law C)⟩
end
end K58
namespace Mi
open PySem L2 PySem.W PyProof.Rows
/-! ## the law's end -/
/-- as the layer's end, with what the head tells beside -/
theorem walk_ofX {l : PySem.W.OpenLaw} {n k : Nat} {q : Program} {loose : List Str} {XP : (Str → Option Value) → Heap → Prop} {YP : World → Heap → Prop} {d : DefRec} {K : Params → PySem.W.Frag} {CX : World → CXT} {sp : World → Sp} {x : Str}
    (hn : l.most = some n) (hn2 : n ≤ sizeLine) (hdf : d.params.defaults = []) (hr : Room k callerA)
    (hY : ∀ (w : World) (h : Heap), YP w h → (K w.params).In h)
    (F : ∀ (w : World) (mg : Str → Option Value) (fa : Addr) (h : Heap), (K w.params).In h → h.Ns mainGlobals mg → mg d.name = some (.ref fa) → XP mg h →
      ∃ fd : FuncData, (∀ (s : Shared) (u : Value), BindsTo s fd ⟨[u], []⟩ [(x, u)]) ∧
        ∀ base : Heap, (K w.params).In base → base.Ns mainGlobals mg → FnOk l.prog w (K w.params) mg base (CX w) k fa fd [x] (sp w))
    (hsp : ∀ (w : World) (H : Hp) (a : Addr) (ns : List Int), ns.length ≤ n → Only H → SqL (K w.params) H a (ns.map V.int) → sp w [.ref a] H (fun v _ => v = .bl true) fun _ _ _ => False)
    (hCX : ∀ (w : World) (H : Hp) (s : Shared) (e : Value) (s' : Shared), CX w [] H s (fun _ _ _ => False) e s' → False) :
    PySem.W.WalkO q loose XP YP l.row.toRowW d [] (fun f vs => PySem.call f vs) := by
  refine Att.attach_call hn hdf fun w s₀ s₁ mg mb fa o pm cd doc a vs ns G Y ho hd hcd hmg hobj hints hlen hg => ?_
  have KX := hY w _ Y
  obtain ⟨fd, hb, hF⟩ := F w mg fa _ KX G.T.g hmg G.X
  exact law_call KX G.T.g G.T.b G.T.builtins G.T.nolimit hg hobj hints (Nat.le_trans hlen hn2) hr hF hb (fun H hO hS => hsp w H a ns hlen hO hS) fun H e s' => hCX w H s₁ e s'
theorem loose_int {p : Program} {lv : List (Str × WData)} {mg : Str → Option Value} {h : Heap} (X : XL p lv mg h) {x : Str} {i : Int} (hm : (x, WData.int i) ∈ lv) : ∃ t, mg x = some (.int i t) := by
  obtain ⟨v, a, b⟩ := X.2.val _ hm
  cases b
  exact ⟨_, a⟩
def addrIn (K : PySem.W.Frag) (x : Str) : Option Addr := match PySem.W.nsIn K mainGlobals x with
  | some (some (.ref a)) => some a
  | _ => none
theorem addr_of {K : PySem.W.Frag} {x : Str} {a : Addr} (h : PySem.W.nsIn K mainGlobals x = some (some (.ref a))) : addrIn K x = some a := by
  unfold addrIn
  rw [h]
def tbOf (K : PySem.W.Frag) (cs es fs : List Str) : Tb := ⟨fun x => if x ∈ cs then addrIn K x else none, fun x => if x ∈ es then addrIn K x else none, fun x => if x ∈ fs then addrIn K x else none⟩
theorem att_of {K : PySem.W.Frag} {cs es fs : List Str} {f : Str} (h : ∀ c ∈ cs, ∀ C, addrIn K c = some C → Cls K C ∧ NoAttr K C f) : Att (tbOf K cs es fs) K f := fun c C e => by
  unfold tbOf at e
  simp only at e
  split at e
  · rename_i hc
    exact h c hc C e
  · cases e
theorem cls_of {K : PySem.W.Frag} {cs es fs : List Str} {x : Str} {a : Addr} (h : PySem.W.nsIn K mainGlobals x = some (some (.ref a))) (hc : x ∈ cs) : (tbOf K cs es fs).cls x = some a := by
  unfold tbOf
  simp only [if_pos hc]
  exact addr_of h
/-- the promise that the head asks for -/
theorem sp_end {T : Tb} {K : PySem.W.Frag} {mf : FM} {H : Hp} {a : Addr} {ns : List Int} (hO : Only H) (hS : SqL K H a (ns.map V.int)) (hm : mf [.fz (.scr ns)] = .ok (.fz (.bl true)) none) : SpM T K 1 none mf [.ref a] H (fun v _ => v = .bl true) fun _ _ _ => False := by
  refine ⟨rfl, [.fz (.scr ns)], H, No, ⟨Sub.refl _, fun b o e => ?_, rfl, ⟨fun _ => No, fun i t h => ?_, fun i a h => h.elim, fun i j a h => h.elim, fun i a h => h.elim⟩, fun a h => h.elim, fun a h => h.elim, fun p hp => (nomatch hp), fun p hp => (nomatch hp)⟩, ?_⟩
  · rcases hO b with z | ⟨u, xs, z⟩
    · rw [z] at e; cases e
    · rw [z] at e; cases e
      exact ⟨fun _ e => (nomatch e), fun _ e => (nomatch e)⟩
  · cases i with
    | zero =>
      have : t = .fz (.scr ns) := by simpa using h.symm
      subst this
      exact ⟨.ref a, rfl, .fz (.scr hS) fun _ h => h⟩
    | succ i => simp at h
  · rw [hm]
    intro Hf' H' S' v P s n st o hP out how
    cases o with
    | fz r _ => cases r; rfl
theorem cx_end {P : Program} {w : World} {H : Hp} {s : Shared} {e : Value} {s' : Shared} (h : L2.CX P w [] H s (fun _ _ _ => False) e s') : False := by
  obtain ⟨_, _, _, _, _, _, _, _, _, _, _, _, z⟩ := h
  exact z.elim
theorem walk_ofY {l : PySem.W.OpenLaw} {n k : Nat} {q : Program} {loose : List Str} {XP : (Str → Option Value) → Heap → Prop} {YP : World → Heap → Prop} {d : DefRec} {K : Params → PySem.W.Frag} {x : Str} (tbK : PySem.W.Frag → Tb) {mf : FM}
    (hn : l.most = some n) (hn2 : n ≤ sizeLine) (hdf : d.params.defaults = []) (hr : Room k callerA)
    (hY : ∀ (w : World) (h : Heap), YP w h → (K w.params).In h) (hm : ∀ ns : List Int, ns.length ≤ n → mf [.fz (.scr ns)] = .ok (.fz (.bl true)) none)
    (F : ∀ (w : World) (mg : Str → Option Value) (fa : Addr) (h : Heap), (K w.params).In h → h.Ns mainGlobals mg → mg d.name = some (.ref fa) → XP mg h →
      ∃ fd : FuncData, (∀ (s : Shared) (u : Value), BindsTo s fd ⟨[u], []⟩ [(x, u)]) ∧
        ∀ base : Heap, (K w.params).In base → base.Ns mainGlobals mg → FnOk l.prog w (K w.params) mg base (L2.CX l.prog w) k fa fd [x] (SpM (tbK (K w.params)) (K w.params) 1 none mf)) :
    PySem.W.WalkO q loose XP YP l.row.toRowW d [] (fun f vs => PySem.call f vs) :=
  walk_ofX (K := K) (CX := fun w => L2.CX l.prog w) (sp := fun w => SpM (tbK (K w.params)) (K w.params) 1 none mf) hn hn2 hdf hr hY F (fun w H a ns hl hO hS => sp_end hO hS (hm ns hl)) fun _ _ _ _ _ h => cx_end h
end Mi
namespace K58
open PySem L2 Mi PySem.W PyProof.Rows
abbrev tb (K : PySem.W.Frag) : Tb := tbOf K ["House", "RawStanding"] [] []
theorem ctx_mk {P : Program} {w : World} {K : PySem.W.Frag} {h : Heap} {mg : Str → Option Value} {base : Heap} (X : K.In h) (G : h.Ns mainGlobals mg)
    {f1 f2 f3 f4 f5 f6 f7 f8 f9 f10 f11 f12 f13 f14 f15 f16 f17 f18 f19 f20 f21 f22 : Addr} {C1 C2 : Addr}
    {od1 an1 od2 an2 od3 an3 od4 an4 od5 an5 od6 an6 od7 an7 od8 an8 od9 an9 od10 an10 od11 an11 od12 an12 od13 an13 od14 an14 od15 an15 od16 an16 od17 an17 od18 an18 od19 an19 od20 an20 od21 an21 od22 an22 : Option Addr} {sl1 sl2 sl3 sl4 sl5 sl6 sl7 sl8 sl9 sl10 sl11 sl12 sl13 sl14 sl15 sl16 sl17 sl18 sl19 sl20 sl21 sl22 : Array (Option Value)} {oc1 kV1 dc1 pm1 cd1 ct1 oc2 kV2 dc2 pm2 cd2 ct2 oc3 kV3 dc3 pm3 cd3 ct3 oc4 kV4 dc4 pm4 cd4 ct4 oc5 kV5 dc5 pm5 cd5 ct5 oc6 kV6 dc6 pm6 cd6 ct6 oc7 kV7 dc7 pm7 cd7 ct7 oc8 kV8 dc8 pm8 cd8 ct8 oc9 kV9 dc9 pm9 cd9 ct9 oc10 kV10 dc10 pm10 cd10 ct10 oc11 kV11 dc11 pm11 cd11 ct11 oc12 kV12 dc12 pm12 cd12 ct12 oc13 kV13 dc13 pm13 cd13 ct13 oc14 kV14 dc14 pm14 cd14 ct14 oc15 kV15 dc15 pm15 cd15 ct15 oc16 kV16 dc16 pm16 cd16 ct16 oc17 kV17 dc17 pm17 cd17 ct17 oc18 kV18 dc18 pm18 cd18 ct18 oc19 kV19 dc19 pm19 cd19 ct19 oc20 kV20 dc20 pm20 cd20 ct20 oc21 kV21 dc21 pm21 cd21 ct21 oc22 kV22 dc22 pm22 cd22 ct22 : Value}
    {t_MOST_FLOORS : Tok}
    (a1 : PySem.W.nsIn K mainGlobals "_law_deck" = some (some (.ref f1)))
    (l1 : K.lookup f1 = some ⟨oc1, od1, .func (PySem.W.fnOf "_law_deck" "_law_deck" (defArgs S__law_deck) (defBody S__law_deck) (defScope S__law_deck) .none kV1 dc1 pm1 an1 cd1 ct1), sl1⟩)
    (c1 : PySem.W.codeIn K cd1 "_law_deck" = true)
    (k1 : PySem.W.keepIn K (.ref f1) = true)
    (a2 : PySem.W.nsIn K mainGlobals "is_integer" = some (some (.ref f2)))
    (l2 : K.lookup f2 = some ⟨oc2, od2, .func (PySem.W.fnOf "is_integer" "is_integer" (defArgs S_is_integer) (defBody S_is_integer) (defScope S_is_integer) .none kV2 dc2 pm2 an2 cd2 ct2), sl2⟩)
    (c2 : PySem.W.codeIn K cd2 "is_integer" = true)
    (k2 : PySem.W.keepIn K (.ref f2) = true)
    (a3 : PySem.W.nsIn K mainGlobals "is_within" = some (some (.ref f3)))
    (l3 : K.lookup f3 = some ⟨oc3, od3, .func (PySem.W.fnOf "is_within" "is_within" (defArgs S_is_within) (defBody S_is_within) (defScope S_is_within) .none kV3 dc3 pm3 an3 cd3 ct3), sl3⟩)
    (c3 : PySem.W.codeIn K cd3 "is_within" = true)
    (k3 : PySem.W.keepIn K (.ref f3) = true)
    (a4 : PySem.W.nsIn K mainGlobals "_law_pick" = some (some (.ref f4)))
    (l4 : K.lookup f4 = some ⟨oc4, od4, .func (PySem.W.fnOf "_law_pick" "_law_pick" (defArgs S__law_pick) (defBody S__law_pick) (defScope S__law_pick) .none kV4 dc4 pm4 an4 cd4 ct4), sl4⟩)
    (c4 : PySem.W.codeIn K cd4 "_law_pick" = true)
    (k4 : PySem.W.keepIn K (.ref f4) = true)
    (a5 : PySem.W.nsIn K mainGlobals "_law_counts" = some (some (.ref f5)))
    (l5 : K.lookup f5 = some ⟨oc5, od5, .func (PySem.W.fnOf "_law_counts" "_law_counts" (defArgs S__law_counts) (defBody S__law_counts) (defScope S__law_counts) .none kV5 dc5 pm5 an5 cd5 ct5), sl5⟩)
    (c5 : PySem.W.codeIn K cd5 "_law_counts" = true)
    (k5 : PySem.W.keepIn K (.ref f5) = true)
    (a6 : PySem.W.nsIn K mainGlobals "_law_spread" = some (some (.ref f6)))
    (l6 : K.lookup f6 = some ⟨oc6, od6, .func (PySem.W.fnOf "_law_spread" "_law_spread" (defArgs S__law_spread) (defBody S__law_spread) (defScope S__law_spread) .none kV6 dc6 pm6 an6 cd6 ct6), sl6⟩)
    (c6 : PySem.W.codeIn K cd6 "_law_spread" = true)
    (k6 : PySem.W.keepIn K (.ref f6) = true)
    (a7 : PySem.W.nsIn K mainGlobals "_law_all_wishes" = some (some (.ref f7)))
    (l7 : K.lookup f7 = some ⟨oc7, od7, .func (PySem.W.fnOf "_law_all_wishes" "_law_all_wishes" (defArgs S__law_all_wishes) (defBody S__law_all_wishes) (defScope S__law_all_wishes) .none kV7 dc7 pm7 an7 cd7 ct7), sl7⟩)
    (c7 : PySem.W.codeIn K cd7 "_law_all_wishes" = true)
    (k7 : PySem.W.keepIn K (.ref f7) = true)
    (a8 : PySem.W.nsIn K mainGlobals "is_count_row" = some (some (.ref f8)))
    (l8 : K.lookup f8 = some ⟨oc8, od8, .func (PySem.W.fnOf "is_count_row" "is_count_row" (defArgs S_is_count_row) (defBody S_is_count_row) (defScope S_is_count_row) .none kV8 dc8 pm8 an8 cd8 ct8), sl8⟩)
    (c8 : PySem.W.codeIn K cd8 "is_count_row" = true)
    (k8 : PySem.W.keepIn K (.ref f8) = true)
    (a9 : PySem.W.nsIn K mainGlobals "check_counts" = some (some (.ref f9)))
    (l9 : K.lookup f9 = some ⟨oc9, od9, .func (PySem.W.fnOf "check_counts" "check_counts" (defArgs S_check_counts) (defBody S_check_counts) (defScope S_check_counts) .none kV9 dc9 pm9 an9 cd9 ct9), sl9⟩)
    (c9 : PySem.W.codeIn K cd9 "check_counts" = true)
    (k9 : PySem.W.keepIn K (.ref f9) = true)
    (a10 : PySem.W.nsIn K mainGlobals "is_floor" = some (some (.ref f10)))
    (l10 : K.lookup f10 = some ⟨oc10, od10, .func (PySem.W.fnOf "is_floor" "is_floor" (defArgs S_is_floor) (defBody S_is_floor) (defScope S_is_floor) .none kV10 dc10 pm10 an10 cd10 ct10), sl10⟩)
    (c10 : PySem.W.codeIn K cd10 "is_floor" = true)
    (k10 : PySem.W.keepIn K (.ref f10) = true)
    (a11 : PySem.W.nsIn K mainGlobals "check_floor" = some (some (.ref f11)))
    (l11 : K.lookup f11 = some ⟨oc11, od11, .func (PySem.W.fnOf "check_floor" "check_floor" (defArgs S_check_floor) (defBody S_check_floor) (defScope S_check_floor) .none kV11 dc11 pm11 an11 cd11 ct11), sl11⟩)
    (c11 : PySem.W.codeIn K cd11 "check_floor" = true)
    (k11 : PySem.W.keepIn K (.ref f11) = true)
    (a12 : PySem.W.nsIn K mainGlobals "pair_bounds" = some (some (.ref f12)))
    (l12 : K.lookup f12 = some ⟨oc12, od12, .func (PySem.W.fnOf "pair_bounds" "pair_bounds" (defArgs S_pair_bounds) (defBody S_pair_bounds) (defScope S_pair_bounds) .none kV12 dc12 pm12 an12 cd12 ct12), sl12⟩)
    (c12 : PySem.W.codeIn K cd12 "pair_bounds" = true)
    (k12 : PySem.W.keepIn K (.ref f12) = true)
    (a13 : PySem.W.nsIn K mainGlobals "_law_many" = some (some (.ref f13)))
    (l13 : K.lookup f13 = some ⟨oc13, od13, .func (PySem.W.fnOf "_law_many" "_law_many" (defArgs S__law_many) (defBody S__law_many) (defScope S__law_many) .none kV13 dc13 pm13 an13 cd13 ct13), sl13⟩)
    (c13 : PySem.W.codeIn K cd13 "_law_many" = true)
    (k13 : PySem.W.keepIn K (.ref f13) = true)
    (a14 : PySem.W.nsIn K mainGlobals "_law_few_right" = some (some (.ref f14)))
    (l14 : K.lookup f14 = some ⟨oc14, od14, .func (PySem.W.fnOf "_law_few_right" "_law_few_right" (defArgs S__law_few_right) (defBody S__law_few_right) (defScope S__law_few_right) .none kV14 dc14 pm14 an14 cd14 ct14), sl14⟩)
    (c14 : PySem.W.codeIn K cd14 "_law_few_right" = true)
    (k14 : PySem.W.keepIn K (.ref f14) = true)
    (a15 : PySem.W.nsIn K mainGlobals "raw_standing" = some (some (.ref f15)))
    (l15 : K.lookup f15 = some ⟨oc15, od15, .func (PySem.W.fnOf "raw_standing" "raw_standing" (defArgs S_raw_standing) (defBody S_raw_standing) (defScope S_raw_standing) .none kV15 dc15 pm15 an15 cd15 ct15), sl15⟩)
    (c15 : PySem.W.codeIn K cd15 "raw_standing" = true)
    (k15 : PySem.W.keepIn K (.ref f15) = true)
    (a16 : PySem.W.nsIn K mainGlobals "paired" = some (some (.ref f16)))
    (l16 : K.lookup f16 = some ⟨oc16, od16, .func (PySem.W.fnOf "paired" "paired" (defArgs S_paired) (defBody S_paired) (defScope S_paired) .none kV16 dc16 pm16 an16 cd16 ct16), sl16⟩)
    (c16 : PySem.W.codeIn K cd16 "paired" = true)
    (k16 : PySem.W.keepIn K (.ref f16) = true)
    (a17 : PySem.W.nsIn K mainGlobals "least_wishes" = some (some (.ref f17)))
    (l17 : K.lookup f17 = some ⟨oc17, od17, .func (PySem.W.fnOf "least_wishes" "least_wishes" (defArgs S_least_wishes) (defBody S_least_wishes) (defScope S_least_wishes) .none kV17 dc17 pm17 an17 cd17 ct17), sl17⟩)
    (c17 : PySem.W.codeIn K cd17 "least_wishes" = true)
    (k17 : PySem.W.keepIn K (.ref f17) = true)
    (a18 : PySem.W.nsIn K mainGlobals "most_wishes" = some (some (.ref f18)))
    (l18 : K.lookup f18 = some ⟨oc18, od18, .func (PySem.W.fnOf "most_wishes" "most_wishes" (defArgs S_most_wishes) (defBody S_most_wishes) (defScope S_most_wishes) .none kV18 dc18 pm18 an18 cd18 ct18), sl18⟩)
    (c18 : PySem.W.codeIn K cd18 "most_wishes" = true)
    (k18 : PySem.W.keepIn K (.ref f18) = true)
    (a19 : PySem.W.nsIn K mainGlobals "_law_great_right" = some (some (.ref f19)))
    (l19 : K.lookup f19 = some ⟨oc19, od19, .func (PySem.W.fnOf "_law_great_right" "_law_great_right" (defArgs S__law_great_right) (defBody S__law_great_right) (defScope S__law_great_right) .none kV19 dc19 pm19 an19 cd19 ct19), sl19⟩)
    (c19 : PySem.W.codeIn K cd19 "_law_great_right" = true)
    (k19 : PySem.W.keepIn K (.ref f19) = true)
    (a20 : PySem.W.nsIn K mainGlobals "law" = some (some (.ref f20)))
    (l20 : K.lookup f20 = some ⟨oc20, od20, .func (PySem.W.fnOf "law" "law" (defArgs S_law) (defBody S_law) (defScope S_law) .none kV20 dc20 pm20 an20 cd20 ct20), sl20⟩)
    (c20 : PySem.W.codeIn K cd20 "law" = true)
    (k20 : PySem.W.keepIn K (.ref f20) = true)
    (p1 : PySem.W.nsIn K mainGlobals "House" = some (some (.ref C1)))
    (q1 : PySem.W.makesIn K C1 = true)
    (r1 : PySem.W.findIn K (.ref C1) "__init__" = some (some (.ref f21)))
    (s1 : PySem.W.isFn K (.ref f21) = true)
    (t1 : PySem.W.keepIn K (.ref C1) = true)
    (u1 : PySem.W.plainGet K C1 Str.empty = true)
    (v1 : PySem.W.hasDictIn K C1 = true)
    (w1 : PySem.W.plainOver K C1 = true)
    (x1 : PySem.W.findIn K (.ref C1) "__setattr__" = some (some (.builtin "object.__setattr__")))
    (l21 : K.lookup f21 = some ⟨oc21, od21, .func (PySem.W.fnOf "__init__" "House.__init__" (defArgs S_House___init__) (defBody S_House___init__) (defScope S_House___init__) .none kV21 dc21 pm21 an21 cd21 ct21), sl21⟩)
    (c21 : PySem.W.codeIn K cd21 "House.__init__" = true)
    (k21 : PySem.W.keepIn K (.ref f21) = true)
    (y1_floors : PySem.W.findIn K (.ref C1) "floors" = some none)
    (y1_groups : PySem.W.findIn K (.ref C1) "groups" = some none)
    (y1_house : PySem.W.findIn K (.ref C1) "house" = some none)
    (y1_lift : PySem.W.findIn K (.ref C1) "lift" = some none)
    (y1_room : PySem.W.findIn K (.ref C1) "room" = some none)
    (p2 : PySem.W.nsIn K mainGlobals "RawStanding" = some (some (.ref C2)))
    (q2 : PySem.W.makesIn K C2 = true)
    (r2 : PySem.W.findIn K (.ref C2) "__init__" = some (some (.ref f22)))
    (s2 : PySem.W.isFn K (.ref f22) = true)
    (t2 : PySem.W.keepIn K (.ref C2) = true)
    (u2 : PySem.W.plainGet K C2 Str.empty = true)
    (v2 : PySem.W.hasDictIn K C2 = true)
    (w2 : PySem.W.plainOver K C2 = true)
    (x2 : PySem.W.findIn K (.ref C2) "__setattr__" = some (some (.builtin "object.__setattr__")))
    (l22 : K.lookup f22 = some ⟨oc22, od22, .func (PySem.W.fnOf "__init__" "RawStanding.__init__" (defArgs S_RawStanding___init__) (defBody S_RawStanding___init__) (defScope S_RawStanding___init__) .none kV22 dc22 pm22 an22 cd22 ct22), sl22⟩)
    (c22 : PySem.W.codeIn K cd22 "RawStanding.__init__" = true)
    (k22 : PySem.W.keepIn K (.ref f22) = true)
    (y2_floors : PySem.W.findIn K (.ref C2) "floors" = some none)
    (y2_groups : PySem.W.findIn K (.ref C2) "groups" = some none)
    (y2_house : PySem.W.findIn K (.ref C2) "house" = some none)
    (y2_lift : PySem.W.findIn K (.ref C2) "lift" = some none)
    (y2_room : PySem.W.findIn K (.ref C2) "room" = some none)
    (z_all : PySem.W.nsIn K mainGlobals "all" = some none)
    (z_bool : PySem.W.nsIn K mainGlobals "bool" = some none)
    (z_enumerate : PySem.W.nsIn K mainGlobals "enumerate" = some none)
    (z_int : PySem.W.nsIn K mainGlobals "int" = some none)
    (z_isinstance : PySem.W.nsIn K mainGlobals "isinstance" = some none)
    (z_len : PySem.W.nsIn K mainGlobals "len" = some none)
    (z_list : PySem.W.nsIn K mainGlobals "list" = some none)
    (z_max : PySem.W.nsIn K mainGlobals "max" = some none)
    (z_min : PySem.W.nsIn K mainGlobals "min" = some none)
    (z_range : PySem.W.nsIn K mainGlobals "range" = some none)
    (z_sorted : PySem.W.nsIn K mainGlobals "sorted" = some none)
    (z_sum : PySem.W.nsIn K mainGlobals "sum" = some none)
    (z_tuple : PySem.W.nsIn K mainGlobals "tuple" = some none)
    (j_MOST_COUNT : ∃ t, mg "MOST_COUNT" = some (.int 1000000000000000000000000000000 t))
    (j_MOST_FLOORS : PySem.W.nsIn K mainGlobals "MOST_FLOORS" = some (some (.int 40 t_MOST_FLOORS)))
    (j_MOST_ROOM : ∃ t, mg "MOST_ROOM" = some (.int 1000000000000 t))
    : Ctx (tb K) P w K mg base where
  f__law_deck := ⟨_, _, PySem.W.mg_of X G a1, fun_mk (st := S__law_deck) l1 c1 k1⟩
  f_is_integer := ⟨_, _, PySem.W.mg_of X G a2, fun_mk (st := S_is_integer) l2 c2 k2⟩
  f_is_within := ⟨_, _, PySem.W.mg_of X G a3, fun_mk (st := S_is_within) l3 c3 k3⟩
  f__law_pick := ⟨_, _, PySem.W.mg_of X G a4, fun_mk (st := S__law_pick) l4 c4 k4⟩
  f__law_counts := ⟨_, _, PySem.W.mg_of X G a5, fun_mk (st := S__law_counts) l5 c5 k5⟩
  f__law_spread := ⟨_, _, PySem.W.mg_of X G a6, fun_mk (st := S__law_spread) l6 c6 k6⟩
  f__law_all_wishes := ⟨_, _, PySem.W.mg_of X G a7, fun_mk (st := S__law_all_wishes) l7 c7 k7⟩
  f_is_count_row := ⟨_, _, PySem.W.mg_of X G a8, fun_mk (st := S_is_count_row) l8 c8 k8⟩
  f_check_counts := ⟨_, _, PySem.W.mg_of X G a9, fun_mk (st := S_check_counts) l9 c9 k9⟩
  f_is_floor := ⟨_, _, PySem.W.mg_of X G a10, fun_mk (st := S_is_floor) l10 c10 k10⟩
  f_check_floor := ⟨_, _, PySem.W.mg_of X G a11, fun_mk (st := S_check_floor) l11 c11 k11⟩
  f_pair_bounds := ⟨_, _, PySem.W.mg_of X G a12, fun_mk (st := S_pair_bounds) l12 c12 k12⟩
  f__law_many := ⟨_, _, PySem.W.mg_of X G a13, fun_mk (st := S__law_many) l13 c13 k13⟩
  f__law_few_right := ⟨_, _, PySem.W.mg_of X G a14, fun_mk (st := S__law_few_right) l14 c14 k14⟩
  f_raw_standing := ⟨_, _, PySem.W.mg_of X G a15, fun_mk (st := S_raw_standing) l15 c15 k15⟩
  f_paired := ⟨_, _, PySem.W.mg_of X G a16, fun_mk (st := S_paired) l16 c16 k16⟩
  f_least_wishes := ⟨_, _, PySem.W.mg_of X G a17, fun_mk (st := S_least_wishes) l17 c17 k17⟩
  f_most_wishes := ⟨_, _, PySem.W.mg_of X G a18, fun_mk (st := S_most_wishes) l18 c18 k18⟩
  f__law_great_right := ⟨_, _, PySem.W.mg_of X G a19, fun_mk (st := S__law_great_right) l19 c19 k19⟩
  f_law := ⟨_, _, PySem.W.mg_of X G a20, fun_mk (st := S_law) l20 c20 k20⟩
  c_House := ⟨C1, f21, _, cls_of p1 (by decide), PySem.W.mg_of X G p1, ⟨q1, r1, s1, t1⟩, fun_mk (st := S_House___init__) l21 c21 k21⟩
  c_RawStanding := ⟨C2, f22, _, cls_of p2 (by decide), PySem.W.mg_of X G p2, ⟨q2, r2, s2, t2⟩, fun_mk (st := S_RawStanding___init__) l22 c22 k22⟩
  n_all := PySem.W.mg_none_of X G z_all
  n_bool := PySem.W.mg_none_of X G z_bool
  n_enumerate := PySem.W.mg_none_of X G z_enumerate
  n_int := PySem.W.mg_none_of X G z_int
  n_isinstance := PySem.W.mg_none_of X G z_isinstance
  n_len := PySem.W.mg_none_of X G z_len
  n_list := PySem.W.mg_none_of X G z_list
  n_max := PySem.W.mg_none_of X G z_max
  n_min := PySem.W.mg_none_of X G z_min
  n_range := PySem.W.mg_none_of X G z_range
  n_sorted := PySem.W.mg_none_of X G z_sorted
  n_sum := PySem.W.mg_none_of X G z_sum
  n_tuple := PySem.W.mg_none_of X G z_tuple
  i_MOST_COUNT := j_MOST_COUNT
  i_MOST_FLOORS := ⟨_, PySem.W.mg_of X G j_MOST_FLOORS⟩
  i_MOST_ROOM := j_MOST_ROOM
  a_floors := att_of fun c hc C e => by
      simp only [List.mem_cons, List.not_mem_nil, or_false] at hc
      rcases hc with rfl | rfl
      · cases (addr_of p1).symm.trans e
        exact ⟨⟨u1, v1, w1, x1⟩, y1_floors⟩
      · cases (addr_of p2).symm.trans e
        exact ⟨⟨u2, v2, w2, x2⟩, y2_floors⟩
  a_groups := att_of fun c hc C e => by
      simp only [List.mem_cons, List.not_mem_nil, or_false] at hc
      rcases hc with rfl | rfl
      · cases (addr_of p1).symm.trans e
        exact ⟨⟨u1, v1, w1, x1⟩, y1_groups⟩
      · cases (addr_of p2).symm.trans e
        exact ⟨⟨u2, v2, w2, x2⟩, y2_groups⟩
  a_house := att_of fun c hc C e => by
      simp only [List.mem_cons, List.not_mem_nil, or_false] at hc
      rcases hc with rfl | rfl
      · cases (addr_of p1).symm.trans e
        exact ⟨⟨u1, v1, w1, x1⟩, y1_house⟩
      · cases (addr_of p2).symm.trans e
        exact ⟨⟨u2, v2, w2, x2⟩, y2_house⟩
  a_lift := att_of fun c hc C e => by
      simp only [List.mem_cons, List.not_mem_nil, or_false] at hc
      rcases hc with rfl | rfl
      · cases (addr_of p1).symm.trans e
        exact ⟨⟨u1, v1, w1, x1⟩, y1_lift⟩
      · cases (addr_of p2).symm.trans e
        exact ⟨⟨u2, v2, w2, x2⟩, y2_lift⟩
  a_room := att_of fun c hc C e => by
      simp only [List.mem_cons, List.not_mem_nil, or_false] at hc
      rcases hc with rfl | rfl
      · cases (addr_of p1).symm.trans e
        exact ⟨⟨u1, v1, w1, x1⟩, y1_room⟩
      · cases (addr_of p2).symm.trans e
        exact ⟨⟨u2, v2, w2, x2⟩, y2_room⟩
theorem all_mk {P : Program} {w : World} {K : PySem.W.Frag} {h : Heap} {mg : Str → Option Value} {fa : Addr} (X : K.In h) (G : h.Ns mainGlobals mg) (hfa : mg "law" = some (.ref fa))
    {f1 f2 f3 f4 f5 f6 f7 f8 f9 f10 f11 f12 f13 f14 f15 f16 f17 f18 f19 f20 f21 f22 : Addr} {C1 C2 : Addr}
    {od1 an1 od2 an2 od3 an3 od4 an4 od5 an5 od6 an6 od7 an7 od8 an8 od9 an9 od10 an10 od11 an11 od12 an12 od13 an13 od14 an14 od15 an15 od16 an16 od17 an17 od18 an18 od19 an19 od20 an20 od21 an21 od22 an22 : Option Addr} {sl1 sl2 sl3 sl4 sl5 sl6 sl7 sl8 sl9 sl10 sl11 sl12 sl13 sl14 sl15 sl16 sl17 sl18 sl19 sl20 sl21 sl22 : Array (Option Value)} {oc1 kV1 dc1 pm1 cd1 ct1 oc2 kV2 dc2 pm2 cd2 ct2 oc3 kV3 dc3 pm3 cd3 ct3 oc4 kV4 dc4 pm4 cd4 ct4 oc5 kV5 dc5 pm5 cd5 ct5 oc6 kV6 dc6 pm6 cd6 ct6 oc7 kV7 dc7 pm7 cd7 ct7 oc8 kV8 dc8 pm8 cd8 ct8 oc9 kV9 dc9 pm9 cd9 ct9 oc10 kV10 dc10 pm10 cd10 ct10 oc11 kV11 dc11 pm11 cd11 ct11 oc12 kV12 dc12 pm12 cd12 ct12 oc13 kV13 dc13 pm13 cd13 ct13 oc14 kV14 dc14 pm14 cd14 ct14 oc15 kV15 dc15 pm15 cd15 ct15 oc16 kV16 dc16 pm16 cd16 ct16 oc17 kV17 dc17 pm17 cd17 ct17 oc18 kV18 dc18 pm18 cd18 ct18 oc19 kV19 dc19 pm19 cd19 ct19 oc20 kV20 dc20 pm20 cd20 ct20 oc21 kV21 dc21 pm21 cd21 ct21 oc22 kV22 dc22 pm22 cd22 ct22 : Value}
    {t_MOST_FLOORS : Tok}
    (a1 : PySem.W.nsIn K mainGlobals "_law_deck" = some (some (.ref f1)))
    (l1 : K.lookup f1 = some ⟨oc1, od1, .func (PySem.W.fnOf "_law_deck" "_law_deck" (defArgs S__law_deck) (defBody S__law_deck) (defScope S__law_deck) .none kV1 dc1 pm1 an1 cd1 ct1), sl1⟩)
    (c1 : PySem.W.codeIn K cd1 "_law_deck" = true)
    (k1 : PySem.W.keepIn K (.ref f1) = true)
    (a2 : PySem.W.nsIn K mainGlobals "is_integer" = some (some (.ref f2)))
    (l2 : K.lookup f2 = some ⟨oc2, od2, .func (PySem.W.fnOf "is_integer" "is_integer" (defArgs S_is_integer) (defBody S_is_integer) (defScope S_is_integer) .none kV2 dc2 pm2 an2 cd2 ct2), sl2⟩)
    (c2 : PySem.W.codeIn K cd2 "is_integer" = true)
    (k2 : PySem.W.keepIn K (.ref f2) = true)
    (a3 : PySem.W.nsIn K mainGlobals "is_within" = some (some (.ref f3)))
    (l3 : K.lookup f3 = some ⟨oc3, od3, .func (PySem.W.fnOf "is_within" "is_within" (defArgs S_is_within) (defBody S_is_within) (defScope S_is_within) .none kV3 dc3 pm3 an3 cd3 ct3), sl3⟩)
    (c3 : PySem.W.codeIn K cd3 "is_within" = true)
    (k3 : PySem.W.keepIn K (.ref f3) = true)
    (a4 : PySem.W.nsIn K mainGlobals "_law_pick" = some (some (.ref f4)))
    (l4 : K.lookup f4 = some ⟨oc4, od4, .func (PySem.W.fnOf "_law_pick" "_law_pick" (defArgs S__law_pick) (defBody S__law_pick) (defScope S__law_pick) .none kV4 dc4 pm4 an4 cd4 ct4), sl4⟩)
    (c4 : PySem.W.codeIn K cd4 "_law_pick" = true)
    (k4 : PySem.W.keepIn K (.ref f4) = true)
    (a5 : PySem.W.nsIn K mainGlobals "_law_counts" = some (some (.ref f5)))
    (l5 : K.lookup f5 = some ⟨oc5, od5, .func (PySem.W.fnOf "_law_counts" "_law_counts" (defArgs S__law_counts) (defBody S__law_counts) (defScope S__law_counts) .none kV5 dc5 pm5 an5 cd5 ct5), sl5⟩)
    (c5 : PySem.W.codeIn K cd5 "_law_counts" = true)
    (k5 : PySem.W.keepIn K (.ref f5) = true)
    (a6 : PySem.W.nsIn K mainGlobals "_law_spread" = some (some (.ref f6)))
    (l6 : K.lookup f6 = some ⟨oc6, od6, .func (PySem.W.fnOf "_law_spread" "_law_spread" (defArgs S__law_spread) (defBody S__law_spread) (defScope S__law_spread) .none kV6 dc6 pm6 an6 cd6 ct6), sl6⟩)
    (c6 : PySem.W.codeIn K cd6 "_law_spread" = true)
    (k6 : PySem.W.keepIn K (.ref f6) = true)
    (a7 : PySem.W.nsIn K mainGlobals "_law_all_wishes" = some (some (.ref f7)))
    (l7 : K.lookup f7 = some ⟨oc7, od7, .func (PySem.W.fnOf "_law_all_wishes" "_law_all_wishes" (defArgs S__law_all_wishes) (defBody S__law_all_wishes) (defScope S__law_all_wishes) .none kV7 dc7 pm7 an7 cd7 ct7), sl7⟩)
    (c7 : PySem.W.codeIn K cd7 "_law_all_wishes" = true)
    (k7 : PySem.W.keepIn K (.ref f7) = true)
    (a8 : PySem.W.nsIn K mainGlobals "is_count_row" = some (some (.ref f8)))
    (l8 : K.lookup f8 = some ⟨oc8, od8, .func (PySem.W.fnOf "is_count_row" "is_count_row" (defArgs S_is_count_row) (defBody S_is_count_row) (defScope S_is_count_row) .none kV8 dc8 pm8 an8 cd8 ct8), sl8⟩)
    (c8 : PySem.W.codeIn K cd8 "is_count_row" = true)
    (k8 : PySem.W.keepIn K (.ref f8) = true)
    (a9 : PySem.W.nsIn K mainGlobals "check_counts" = some (some (.ref f9)))
    (l9 : K.lookup f9 = some ⟨oc9, od9, .func (PySem.W.fnOf "check_counts" "check_counts" (defArgs S_check_counts) (defBody S_check_counts) (defScope S_check_counts) .none kV9 dc9 pm9 an9 cd9 ct9), sl9⟩)
    (c9 : PySem.W.codeIn K cd9 "check_counts" = true)
    (k9 : PySem.W.keepIn K (.ref f9) = true)
    (a10 : PySem.W.nsIn K mainGlobals "is_floor" = some (some (.ref f10)))
    (l10 : K.lookup f10 = some ⟨oc10, od10, .func (PySem.W.fnOf "is_floor" "is_floor" (defArgs S_is_floor) (defBody S_is_floor) (defScope S_is_floor) .none kV10 dc10 pm10 an10 cd10 ct10), sl10⟩)
    (c10 : PySem.W.codeIn K cd10 "is_floor" = true)
    (k10 : PySem.W.keepIn K (.ref f10) = true)
    (a11 : PySem.W.nsIn K mainGlobals "check_floor" = some (some (.ref f11)))
    (l11 : K.lookup f11 = some ⟨oc11, od11, .func (PySem.W.fnOf "check_floor" "check_floor" (defArgs S_check_floor) (defBody S_check_floor) (defScope S_check_floor) .none kV11 dc11 pm11 an11 cd11 ct11), sl11⟩)
    (c11 : PySem.W.codeIn K cd11 "check_floor" = true)
    (k11 : PySem.W.keepIn K (.ref f11) = true)
    (a12 : PySem.W.nsIn K mainGlobals "pair_bounds" = some (some (.ref f12)))
    (l12 : K.lookup f12 = some ⟨oc12, od12, .func (PySem.W.fnOf "pair_bounds" "pair_bounds" (defArgs S_pair_bounds) (defBody S_pair_bounds) (defScope S_pair_bounds) .none kV12 dc12 pm12 an12 cd12 ct12), sl12⟩)
    (c12 : PySem.W.codeIn K cd12 "pair_bounds" = true)
    (k12 : PySem.W.keepIn K (.ref f12) = true)
    (a13 : PySem.W.nsIn K mainGlobals "_law_many" = some (some (.ref f13)))
    (l13 : K.lookup f13 = some ⟨oc13, od13, .func (PySem.W.fnOf "_law_many" "_law_many" (defArgs S__law_many) (defBody S__law_many) (defScope S__law_many) .none kV13 dc13 pm13 an13 cd13 ct13), sl13⟩)
    (c13 : PySem.W.codeIn K cd13 "_law_many" = true)
    (k13 : PySem.W.keepIn K (.ref f13) = true)
    (a14 : PySem.W.nsIn K mainGlobals "_law_few_right" = some (some (.ref f14)))
    (l14 : K.lookup f14 = some ⟨oc14, od14, .func (PySem.W.fnOf "_law_few_right" "_law_few_right" (defArgs S__law_few_right) (defBody S__law_few_right) (defScope S__law_few_right) .none kV14 dc14 pm14 an14 cd14 ct14), sl14⟩)
    (c14 : PySem.W.codeIn K cd14 "_law_few_right" = true)
    (k14 : PySem.W.keepIn K (.ref f14) = true)
    (a15 : PySem.W.nsIn K mainGlobals "raw_standing" = some (some (.ref f15)))
    (l15 : K.lookup f15 = some ⟨oc15, od15, .func (PySem.W.fnOf "raw_standing" "raw_standing" (defArgs S_raw_standing) (defBody S_raw_standing) (defScope S_raw_standing) .none kV15 dc15 pm15 an15 cd15 ct15), sl15⟩)
    (c15 : PySem.W.codeIn K cd15 "raw_standing" = true)
    (k15 : PySem.W.keepIn K (.ref f15) = true)
    (a16 : PySem.W.nsIn K mainGlobals "paired" = some (some (.ref f16)))
    (l16 : K.lookup f16 = some ⟨oc16, od16, .func (PySem.W.fnOf "paired" "paired" (defArgs S_paired) (defBody S_paired) (defScope S_paired) .none kV16 dc16 pm16 an16 cd16 ct16), sl16⟩)
    (c16 : PySem.W.codeIn K cd16 "paired" = true)
    (k16 : PySem.W.keepIn K (.ref f16) = true)
    (a17 : PySem.W.nsIn K mainGlobals "least_wishes" = some (some (.ref f17)))
    (l17 : K.lookup f17 = some ⟨oc17, od17, .func (PySem.W.fnOf "least_wishes" "least_wishes" (defArgs S_least_wishes) (defBody S_least_wishes) (defScope S_least_wishes) .none kV17 dc17 pm17 an17 cd17 ct17), sl17⟩)
    (c17 : PySem.W.codeIn K cd17 "least_wishes" = true)
    (k17 : PySem.W.keepIn K (.ref f17) = true)
    (a18 : PySem.W.nsIn K mainGlobals "most_wishes" = some (some (.ref f18)))
    (l18 : K.lookup f18 = some ⟨oc18, od18, .func (PySem.W.fnOf "most_wishes" "most_wishes" (defArgs S_most_wishes) (defBody S_most_wishes) (defScope S_most_wishes) .none kV18 dc18 pm18 an18 cd18 ct18), sl18⟩)
    (c18 : PySem.W.codeIn K cd18 "most_wishes" = true)
    (k18 : PySem.W.keepIn K (.ref f18) = true)
    (a19 : PySem.W.nsIn K mainGlobals "_law_great_right" = some (some (.ref f19)))
    (l19 : K.lookup f19 = some ⟨oc19, od19, .func (PySem.W.fnOf "_law_great_right" "_law_great_right" (defArgs S__law_great_right) (defBody S__law_great_right) (defScope S__law_great_right) .none kV19 dc19 pm19 an19 cd19 ct19), sl19⟩)
    (c19 : PySem.W.codeIn K cd19 "_law_great_right" = true)
    (k19 : PySem.W.keepIn K (.ref f19) = true)
    (a20 : PySem.W.nsIn K mainGlobals "law" = some (some (.ref f20)))
    (l20 : K.lookup f20 = some ⟨oc20, od20, .func (PySem.W.fnOf "law" "law" (defArgs S_law) (defBody S_law) (defScope S_law) .none kV20 dc20 pm20 an20 cd20 ct20), sl20⟩)
    (c20 : PySem.W.codeIn K cd20 "law" = true)
    (k20 : PySem.W.keepIn K (.ref f20) = true)
    (p1 : PySem.W.nsIn K mainGlobals "House" = some (some (.ref C1)))
    (q1 : PySem.W.makesIn K C1 = true)
    (r1 : PySem.W.findIn K (.ref C1) "__init__" = some (some (.ref f21)))
    (s1 : PySem.W.isFn K (.ref f21) = true)
    (t1 : PySem.W.keepIn K (.ref C1) = true)
    (u1 : PySem.W.plainGet K C1 Str.empty = true)
    (v1 : PySem.W.hasDictIn K C1 = true)
    (w1 : PySem.W.plainOver K C1 = true)
    (x1 : PySem.W.findIn K (.ref C1) "__setattr__" = some (some (.builtin "object.__setattr__")))
    (l21 : K.lookup f21 = some ⟨oc21, od21, .func (PySem.W.fnOf "__init__" "House.__init__" (defArgs S_House___init__) (defBody S_House___init__) (defScope S_House___init__) .none kV21 dc21 pm21 an21 cd21 ct21), sl21⟩)
    (c21 : PySem.W.codeIn K cd21 "House.__init__" = true)
    (k21 : PySem.W.keepIn K (.ref f21) = true)
    (y1_floors : PySem.W.findIn K (.ref C1) "floors" = some none)
    (y1_groups : PySem.W.findIn K (.ref C1) "groups" = some none)
    (y1_house : PySem.W.findIn K (.ref C1) "house" = some none)
    (y1_lift : PySem.W.findIn K (.ref C1) "lift" = some none)
    (y1_room : PySem.W.findIn K (.ref C1) "room" = some none)
    (p2 : PySem.W.nsIn K mainGlobals "RawStanding" = some (some (.ref C2)))
    (q2 : PySem.W.makesIn K C2 = true)
    (r2 : PySem.W.findIn K (.ref C2) "__init__" = some (some (.ref f22)))
    (s2 : PySem.W.isFn K (.ref f22) = true)
    (t2 : PySem.W.keepIn K (.ref C2) = true)
    (u2 : PySem.W.plainGet K C2 Str.empty = true)
    (v2 : PySem.W.hasDictIn K C2 = true)
    (w2 : PySem.W.plainOver K C2 = true)
    (x2 : PySem.W.findIn K (.ref C2) "__setattr__" = some (some (.builtin "object.__setattr__")))
    (l22 : K.lookup f22 = some ⟨oc22, od22, .func (PySem.W.fnOf "__init__" "RawStanding.__init__" (defArgs S_RawStanding___init__) (defBody S_RawStanding___init__) (defScope S_RawStanding___init__) .none kV22 dc22 pm22 an22 cd22 ct22), sl22⟩)
    (c22 : PySem.W.codeIn K cd22 "RawStanding.__init__" = true)
    (k22 : PySem.W.keepIn K (.ref f22) = true)
    (y2_floors : PySem.W.findIn K (.ref C2) "floors" = some none)
    (y2_groups : PySem.W.findIn K (.ref C2) "groups" = some none)
    (y2_house : PySem.W.findIn K (.ref C2) "house" = some none)
    (y2_lift : PySem.W.findIn K (.ref C2) "lift" = some none)
    (y2_room : PySem.W.findIn K (.ref C2) "room" = some none)
    (z_all : PySem.W.nsIn K mainGlobals "all" = some none)
    (z_bool : PySem.W.nsIn K mainGlobals "bool" = some none)
    (z_enumerate : PySem.W.nsIn K mainGlobals "enumerate" = some none)
    (z_int : PySem.W.nsIn K mainGlobals "int" = some none)
    (z_isinstance : PySem.W.nsIn K mainGlobals "isinstance" = some none)
    (z_len : PySem.W.nsIn K mainGlobals "len" = some none)
    (z_list : PySem.W.nsIn K mainGlobals "list" = some none)
    (z_max : PySem.W.nsIn K mainGlobals "max" = some none)
    (z_min : PySem.W.nsIn K mainGlobals "min" = some none)
    (z_range : PySem.W.nsIn K mainGlobals "range" = some none)
    (z_sorted : PySem.W.nsIn K mainGlobals "sorted" = some none)
    (z_sum : PySem.W.nsIn K mainGlobals "sum" = some none)
    (z_tuple : PySem.W.nsIn K mainGlobals "tuple" = some none)
    (j_MOST_COUNT : ∃ t, mg "MOST_COUNT" = some (.int 1000000000000000000000000000000 t))
    (j_MOST_FLOORS : PySem.W.nsIn K mainGlobals "MOST_FLOORS" = some (some (.int 40 t_MOST_FLOORS)))
    (j_MOST_ROOM : ∃ t, mg "MOST_ROOM" = some (.int 1000000000000 t))
    : ∃ fd : FuncData, (∀ (s : Shared) (v : Value), BindsTo s fd ⟨[v], []⟩ [("_law_script", v)]) ∧ ∀ base : Heap, K.In base → base.Ns mainGlobals mg → FnOk P w K mg base (L2.CX P w) 7 fa fd ["_law_script"] (SpM (tb K) K 1 none M_law) := by
  have e := hfa.symm.trans (PySem.W.mg_of X G a20)
  cases e
  have FL := fun_mk (st := S_law) l20 c20 k20
  exact ⟨_, fun s v => .of_eq rfl, fun base _ _ => def_ok FL sc_law (by intro i h; cases h) (ok_law (ctx_mk (base := base) X G a1 l1 c1 k1 a2 l2 c2 k2 a3 l3 c3 k3 a4 l4 c4 k4 a5 l5 c5 k5 a6 l6 c6 k6 a7 l7 c7 k7 a8 l8 c8 k8 a9 l9 c9 k9 a10 l10 c10 k10 a11 l11 c11 k11 a12 l12 c12 k12 a13 l13 c13 k13 a14 l14 c14 k14 a15 l15 c15 k15 a16 l16 c16 k16 a17 l17 c17 k17 a18 l18 c18 k18 a19 l19 c19 k19 a20 l20 c20 k20 p1 q1 r1 s1 t1 u1 v1 w1 x1 l21 c21 k21 y1_floors y1_groups y1_house y1_lift y1_room p2 q2 r2 s2 t2 u2 v2 w2 x2 l22 c22 k22 y2_floors y2_groups y2_house y2_lift y2_room z_all z_bool z_enumerate z_int z_isinstance z_len z_list z_max z_min z_range z_sorted z_sum z_tuple j_MOST_COUNT j_MOST_FLOORS j_MOST_ROOM))⟩
end K58
open PySem PySem.W PyProof.Rows
set_option maxHeartbeats 0 in
theorem PySem.Challenge.cw_willinglift_k58_whole_bounds_of_pairs_holds : PySem.Challenge.rw_willinglift_k58_whole_bounds_of_pairs.Holds := by
  w_on; o_law; k_head; (case hw => w_witness2)
  k_fill
  refine Mi.walk_ofY (l := PySem.Challenge.rw_willinglift_k58_whole_bounds_of_pairs) (n := 63) (k := 7) (x := "_law_script") K58.tb (mf := K58.M_law) rfl (by decide) rfl ⟨rfl, by decide, by decide⟩ (fun w h Y => PySem.W.kIn_of Y) K58.law_true ?F
  case F =>
    intro w mg fa h KX G hmg XF
    refine' K58.all_mk KX G hmg ?a1 ?l1 ?c1 ?k1 ?a2 ?l2 ?c2 ?k2 ?a3 ?l3 ?c3 ?k3 ?a4 ?l4 ?c4 ?k4 ?a5 ?l5 ?c5 ?k5 ?a6 ?l6 ?c6 ?k6 ?a7 ?l7 ?c7 ?k7 ?a8 ?l8 ?c8 ?k8 ?a9 ?l9 ?c9 ?k9 ?a10 ?l10 ?c10 ?k10 ?a11 ?l11 ?c11 ?k11 ?a12 ?l12 ?c12 ?k12 ?a13 ?l13 ?c13 ?k13 ?a14 ?l14 ?c14 ?k14 ?a15 ?l15 ?c15 ?k15 ?a16 ?l16 ?c16 ?k16 ?a17 ?l17 ?c17 ?k17 ?a18 ?l18 ?c18 ?k18 ?a19 ?l19 ?c19 ?k19 ?a20 ?l20 ?c20 ?k20 ?p1 ?q1 ?r1 ?s1 ?t1 ?u1 ?v1 ?w1 ?x1 ?l21 ?c21 ?k21 ?y1_floors ?y1_groups ?y1_house ?y1_lift ?y1_room ?p2 ?q2 ?r2 ?s2 ?t2 ?u2 ?v2 ?w2 ?x2 ?l22 ?c22 ?k22 ?y2_floors ?y2_groups ?y2_house ?y2_lift ?y2_room ?z_all ?z_bool ?z_enumerate ?z_int ?z_isinstance ?z_len ?z_list ?z_max ?z_min ?z_range ?z_sorted ?z_sum ?z_tuple ?j_MOST_COUNT ?j_MOST_FLOORS ?j_MOST_ROOM
    (case j_MOST_COUNT => exact Mi.loose_int XF (by simp))
    (case j_MOST_ROOM => exact Mi.loose_int XF (by simp))
    (case a1 => k_is); (case l1 => k_is); (case c1 => k_is); (case k1 => k_is); (case a2 => k_is); (case l2 => k_is)
    (case c2 => k_is); (case k2 => k_is); (case a3 => k_is); (case l3 => k_is); (case c3 => k_is); (case k3 => k_is)
    (case a4 => k_is); (case l4 => k_is); (case c4 => k_is); (case k4 => k_is); (case a5 => k_is); (case l5 => k_is)
    (case c5 => k_is); (case k5 => k_is); (case a6 => k_is); (case l6 => k_is); (case c6 => k_is); (case k6 => k_is)
    (case a7 => k_is); (case l7 => k_is); (case c7 => k_is); (case k7 => k_is); (case a8 => k_is); (case l8 => k_is)
    (case c8 => k_is); (case k8 => k_is); (case a9 => k_is); (case l9 => k_is); (case c9 => k_is); (case k9 => k_is)
    (case a10 => k_is); (case l10 => k_is); (case c10 => k_is); (case k10 => k_is); (case a11 => k_is); (case l11 => k_is)
    (case c11 => k_is); (case k11 => k_is); (case a12 => k_is); (case l12 => k_is); (case c12 => k_is); (case k12 => k_is)
    (case a13 => k_is); (case l13 => k_is); (case c13 => k_is); (case k13 => k_is); (case a14 => k_is); (case l14 => k_is)
    (case c14 => k_is); (case k14 => k_is); (case a15 => k_is); (case l15 => k_is); (case c15 => k_is); (case k15 => k_is)
    (case a16 => k_is); (case l16 => k_is); (case c16 => k_is); (case k16 => k_is); (case a17 => k_is); (case l17 => k_is)
    (case c17 => k_is); (case k17 => k_is); (case a18 => k_is); (case l18 => k_is); (case c18 => k_is); (case k18 => k_is)
    (case a19 => k_is); (case l19 => k_is); (case c19 => k_is); (case k19 => k_is); (case a20 => k_is); (case l20 => k_is)
    (case c20 => k_is); (case k20 => k_is); (case p1 => k_is); (case q1 => k_is); (case r1 => k_is); (case s1 => k_is)
    (case t1 => k_is); (case u1 => k_is); (case v1 => k_is); (case w1 => k_is); (case x1 => k_is); (case l21 => k_is)
    (case c21 => k_is); (case k21 => k_is); (case y1_floors => k_is); (case y1_groups => k_is); (case y1_house => k_is); (case y1_lift => k_is)
    (case y1_room => k_is); (case p2 => k_is); (case q2 => k_is); (case r2 => k_is); (case s2 => k_is); (case t2 => k_is)
    (case u2 => k_is); (case v2 => k_is); (case w2 => k_is); (case x2 => k_is); (case l22 => k_is); (case c22 => k_is)
    (case k22 => k_is); (case y2_floors => k_is); (case y2_groups => k_is); (case y2_house => k_is); (case y2_lift => k_is); (case y2_room => k_is)
    (case z_all => k_is); (case z_bool => k_is); (case z_enumerate => k_is); (case z_int => k_is); (case z_isinstance => k_is); (case z_len => k_is)
    (case z_list => k_is); (case z_max => k_is); (case z_min => k_is); (case z_range => k_is); (case z_sorted => k_is); (case z_sum => k_is)
    (case z_tuple => k_is); (case j_MOST_FLOORS => k_is)
